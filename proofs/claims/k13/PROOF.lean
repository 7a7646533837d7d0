import PyProof.Rows.All
import Wide.All
import OpenK.AllK
import Wide.FinOn
import HandS.ForMost
import HandS.TupAny
import HandS.Style
import HandS.Flow
import HandS.More
import HandS.Zip
import HandS.Star
import HandS.Deep
import KE.GoesEnum
import HandS.IsInst
import HandS.TupMul
import PyProof.EqAt
import PyProof.ReprRoads
import HandS.ListItems
import HandS.DictComp
import KE.KDictDisplayH
import HandS.SortInts
import HandS.SetTxt0
import PyProof.Rows.SortKeyStr
import HandS.Set
import PyProof.Rows.SetFrom
import HandS.SetFor
import PyProof.SeqRoads2
import KE.KDictSum
import HandS.Conv
import HandS.Property
import PyProof.AssignAttr
import HandS.Walk
import KE.KDictWalk
import KE.KDictCopyH
import KE.SortData
import PyProof.DictUpdate
import PyProof.DictDisplay
import KE.KEqDict
import PyProof.DictFindH
import KE.KEqNest
import HandS.Codes
import HandS.OwnEq
import PyProof.InstNe
import KE.KDictOf
import KE.KDictPairs
import HandS.TupSets
import HandS.Strs
import HandS.SetBool
import HandS.Dict
import HandS.WordsDict
import KE.KExcSuper
import HandS.Exc
import HandS.ExcInit
import HandS.ForSpec
import HandS.ExcOwn
import HandS.TryOnly
import HandS.Small
import KE.KExcIs
import HandS.ExcField
import HandS.ExcIs
import PyProof.EqKinds
import PyProof.NeKinds
import PyProof.P3Eq
import PyProof.TupleIter
import PyProof.WalksMore
import PySem.Challenge.RW_farcatch_k13_parts_by_addresses
set_option Elab.async false
set_option linter.all false
set_option maxRecDepth 100000
set_option maxHeartbeats 1000000
/-! DL: a layer of data over HandS. -/
namespace DL
open PySem L2
/-- what a value stands for -/
inductive D where
  | non | bl (b : Bool) | int (i : Int) | str (x : Str)
  | lst (ds : List D) | tup (ds : List D) | dic (t : Bool) (kvs : List (D × D))
  | ins (C : Addr) (fs : List (Str × D)) | bag
  | glb (a : Addr)
  | lock (o : Obj) (u : HO)
  | at (a : Addr) (d : D)
/-- bg: where the bag stands, bi: its list; own: what data never reach -/
structure Gh where
  bg : Addr
  bi : Addr
  own : Addr → Prop
/-- what a pin of the heap says: a locked object, or an exception's dict as it is -/
noncomputable def lkO (o : Obj) : HO → HO
  | .xd fs => .xd fs
  | u => .frz o u
noncomputable def kD : Key → D
  | .inl i => .int i
  | .inr x => .str x
mutual
noncomputable def Dt (K : PySem.W.Frag) (G : Gh) (H : Hp) : D → V → Prop
  | .non, v => v = .non
  | .bl b, v => v = .bl b
  | .int i, v => v = .int i
  | .str x, v => v = .str x
  | .lst ds, v => ∃ a xs, v = .ref a ∧ ¬ G.own a ∧ H a = some (.lst xs) ∧ DtL K G H ds xs
  | .tup ds, v => ∃ a xs, v = .ref a ∧ H a = some (.tup xs) ∧ DtL K G H ds xs
  | .dic t es, v => ∃ a, v = .ref a ∧ ¬ G.own a ∧ ((∃ kvs, Rd H a (.dK kvs) ∧ DtP K G H t es kvs) ∨ ∃ kvs, Rd H a (.dT kvs) ∧ DtQ K G H t es kvs)
  | .ins C fs, v => ∃ a dx vs, v = .ref a ∧ ¬ G.own a ∧ H a = some (.ins C dx vs) ∧ DtF K G H fs vs
  | .glb a, v => v = .ref a
  | .bag, v => v = .ref G.bg
  | .lock o u, v => ∃ a, v = .ref a ∧ ¬ G.own a ∧ H a = some (lkO o u)
  | .at a d, v => v = .ref a ∧ Dt K G H d v
noncomputable def DtL (K : PySem.W.Frag) (G : Gh) (H : Hp) : List D → List V → Prop
  | [], xs => xs = []
  | d :: ds, xs => ∃ x r, xs = x :: r ∧ Dt K G H d x ∧ DtL K G H ds r
noncomputable def DtP (K : PySem.W.Frag) (G : Gh) (H : Hp) (t : Bool) : List (D × D) → List (Key × V) → Prop
  | [], kvs => kvs = [] ∧ t = false
  | (k, d) :: es, kvs => ∃ j v r, kvs = (j, v) :: r ∧ k = kD j ∧ Dt K G H d v ∧ DtP K G H t es r
noncomputable def DtQ (K : PySem.W.Frag) (G : Gh) (H : Hp) (t : Bool) : List (D × D) → List (List Key × V) → Prop
  | [], kvs => kvs = [] ∧ t = true
  | (k, d) :: es, kvs => ∃ j v r, kvs = (j, v) :: r ∧ k = .tup (j.map kD) ∧ Dt K G H d v ∧ DtQ K G H t es r
noncomputable def DtF (K : PySem.W.Frag) (G : Gh) (H : Hp) : List (Str × D) → List (Str × V) → Prop
  | [], kvs => kvs = []
  | (k, d) :: es, kvs => ∃ v r, kvs = (k, v) :: r ∧ Dt K G H d v ∧ DtF K G H es r
end
theorem Rd.kp {H H' : Hp} {a : Addr} {u : HO} (k : ∀ o, H a = some o → H' a = some o) (h : Rd H a u) : Rd H' a u := by
  rcases h with h | ⟨o, h⟩
  · exact .inl (k _ h)
  · exact .inr ⟨o, k _ h⟩
noncomputable def Dic : HO → Prop
  | .dK _ => True
  | .dT _ => True
  | _ => False
theorem lkO_nd (o : Obj) (u : HO) : ¬ Dic (lkO o u) := by cases u <;> exact fun z => z
/-- a dict that a walk needs is locked for good -/
noncomputable def Lk (H H' : Hp) (a : Addr) (o : HO) : Prop := H' a = some o ∨ (Dic o ∧ ∃ od, H' a = some (.frz od o))
theorem Lk.plain {H H' : Hp} {a : Addr} {o : HO} (h : Lk H H' a o) (n : ¬ Dic o) : H' a = some o := h.elim _root_.id fun z => absurd z.1 n
theorem Rd.lk {H H' : Hp} {a : Addr} {u : HO} (k : ∀ o, H a = some o → Lk H H' a o) (h : Rd H a u) : Rd H' a u := by
  rcases h with h | ⟨o, h⟩
  · rcases k _ h with q | ⟨_, od, q⟩
    · exact .inl q
    · exact .inr ⟨od, q⟩
  · exact .inr ⟨o, (k _ h).plain fun z => z⟩
section
variable {K : PySem.W.Frag} {G G' : Gh} {H H' : Hp}
/-- a change of what is mutable and owned alone leaves all data -/
structure Evo (G G' : Gh) (H H' : Hp) : Prop where
  keep : ∀ a o, ¬ G.own a → H a = some o → Lk H H' a o
  tr : ∀ a, G.own a → Mut (H a)
  out : ∀ a, ¬ G.own a → H a ≠ none → ¬ G'.own a
  bg : G'.bg = G.bg
  bi : G'.bi = G.bi
theorem Evo.tu {xs : List V} {a : Addr} (e : Evo G G' H H') (h : H a = some (.tup xs)) : H' a = some (.tup xs) :=
  (e.keep a _ (fun z => by have m := e.tr a z; rw [h] at m; exact m) h).plain fun z => z
theorem Evo.rd {u : HO} {a : Addr} (e : Evo G G' H H') (n : ¬ G.own a) (h : Rd H a u) : ¬ G'.own a ∧ Rd H' a u :=
  ⟨e.out a n (by rcases h with h | ⟨o, h⟩ <;> rw [h] <;> exact fun z => nomatch z), Rd.lk (fun o q => e.keep a o n q) h⟩
mutual
theorem Evo.dt (e : Evo G G' H H') : ∀ (d : D) (v : V), Dt K G H d v → Dt K G' H' d v
  | .non, v, h => h
  | .bl b, v, h => h
  | .int i, v, h => h
  | .str x, v, h => h
  | .lst ds, v, h => by
    obtain ⟨a, xs, h1, h2, h3, h4⟩ := h
    exact ⟨a, xs, h1, e.out a h2 (by rw [h3]; exact fun z => nomatch z), (e.keep a _ h2 h3).plain (fun z => z), Evo.dts e ds xs h4⟩
  | .tup ds, v, h => by
    obtain ⟨a, xs, h1, h3, h4⟩ := h
    exact ⟨a, xs, h1, e.tu h3, Evo.dts e ds xs h4⟩
  | .dic t es, v, h => by
    obtain ⟨a, h1, h2, h3⟩ := h
    rcases h3 with ⟨kvs, h3, h4⟩ | ⟨kvs, h3, h4⟩
    · obtain ⟨n, r⟩ := e.rd h2 h3
      exact ⟨a, h1, n, .inl ⟨kvs, r, Evo.dtp e t es kvs h4⟩⟩
    · obtain ⟨n, r⟩ := e.rd h2 h3
      exact ⟨a, h1, n, .inr ⟨kvs, r, Evo.dtq e t es kvs h4⟩⟩
  | .ins C fs, v, h => by
    obtain ⟨a, dx, vs, h1, h2, h3, h4⟩ := h
    exact ⟨a, dx, vs, h1, e.out a h2 (by rw [h3]; exact fun z => nomatch z), (e.keep a _ h2 h3).plain (fun z => z), Evo.dtf e fs vs h4⟩
  | .glb a, v, h => h
  | .bag, v, h => by
    have h' : v = .ref G.bg := h
    show v = .ref G'.bg
    rw [e.bg]; exact h'
  | .lock o u, v, h => by
    obtain ⟨a, h1, h2, h3⟩ := h
    exact ⟨a, h1, e.out a h2 (by rw [h3]; exact fun z => nomatch z), (e.keep a _ h2 h3).plain (lkO_nd o u)⟩
  | .at a d, v, h => ⟨h.1, Evo.dt e d v h.2⟩
theorem Evo.dts (e : Evo G G' H H') : ∀ (ds : List D) (xs : List V), DtL K G H ds xs → DtL K G' H' ds xs
  | [], xs, h => h
  | d :: ds, xs, h => by
    obtain ⟨x, r, h1, h2, h3⟩ := h
    exact ⟨x, r, h1, Evo.dt e d x h2, Evo.dts e ds r h3⟩
theorem Evo.dtp (e : Evo G G' H H') : ∀ (t : Bool) (es : List (D × D)) (kvs : List (Key × V)), DtP K G H t es kvs → DtP K G' H' t es kvs
  | t, [], xs, h => h
  | t, (k, d) :: es, kvs, h => by
    obtain ⟨j, v, r, h1, h2, h3, h4⟩ := h
    exact ⟨j, v, r, h1, h2, Evo.dt e d v h3, Evo.dtp e t es r h4⟩
theorem Evo.dtq (e : Evo G G' H H') : ∀ (t : Bool) (es : List (D × D)) (kvs : List (List Key × V)), DtQ K G H t es kvs → DtQ K G' H' t es kvs
  | t, [], xs, h => h
  | t, (k, d) :: es, kvs, h => by
    obtain ⟨j, v, r, h1, h2, h3, h4⟩ := h
    exact ⟨j, v, r, h1, h2, Evo.dt e d v h3, Evo.dtq e t es r h4⟩
theorem Evo.dtf (e : Evo G G' H H') : ∀ (es : List (Str × D)) (kvs : List (Str × V)), DtF K G H es kvs → DtF K G' H' es kvs
  | [], xs, h => h
  | (k, d) :: es, kvs, h => by
    obtain ⟨v, r, h1, h3, h4⟩ := h
    exact ⟨v, r, h1, Evo.dt e d v h3, Evo.dtf e es r h4⟩
end
end
end DL
set_option Elab.async false
set_option linter.all false
set_option maxRecDepth 100000
set_option maxHeartbeats 1000000
namespace DL
open PySem L2
/-- the bag of a law: its number, its seed, its place, the script's numbers -/
noncomputable def BagOk (H : Hp) (bg bi : Addr) : Prop := ∃ (x y z : Int) (ns : List Int), H bg = some (.lst [.int x, .int y, .int z, .ref bi]) ∧ H bi = some (.lst (ns.map V.int)) ∧
  0 ≤ x ∧ 0 ≤ y ∧ 0 ≤ z ∧ (∀ n ∈ ns, 0 ≤ n) ∧ ns.length ≤ 63
theorem BagOk.ne {H : Hp} {bg bi : Addr} (h : BagOk H bg bi) : H bg ≠ none := by
  obtain ⟨x, y, z, ns, h1, _⟩ := h
  rw [h1]; exact fun z => nomatch z
/-- what an expression may do -/
structure Ext (G : Gh) (H H' : Hp) : Prop where
  keep : ∀ a o, a ≠ G.bg → H a = some o → H' a = some o ∨ (¬ G.own a ∧ Dic o ∧ ∃ od, H' a = some (.frz od o))
  bag : BagOk H' G.bg G.bi
theorem Ext.refl {G : Gh} {H : Hp} (b : BagOk H G.bg G.bi) : Ext G H H := ⟨fun _ _ _ h => .inl h, b⟩
theorem Ext.lk {G : Gh} {H H' : Hp} (e : Ext G H H') {a : Addr} {o : HO} (n : a ≠ G.bg) (h : H a = some o) : Lk H H' a o := (e.keep a o n h).imp _root_.id fun z => z.2
theorem Ext.plain {G : Gh} {H H' : Hp} (e : Ext G H H') {a : Addr} {o : HO} (n : a ≠ G.bg) (h : H a = some o) (d : ¬ Dic o) : H' a = some o := (e.lk n h).plain d
theorem Ext.mine {G : Gh} {H H' : Hp} (e : Ext G H H') {a : Addr} {o : HO} (n : a ≠ G.bg) (h : H a = some o) (d : G.own a) : H' a = some o := (e.keep a o n h).elim _root_.id fun z => absurd d z.1
theorem Ext.trans {G : Gh} {H H1 H2 : Hp} (a : Ext G H H1) (b : Ext G H1 H2) : Ext G H H2 := ⟨fun x o n h => by
  rcases a.keep x o n h with q | ⟨q1, q2, od, q3⟩
  · exact b.keep x o n q
  · exact .inr ⟨q1, q2, od, b.plain n q3 fun z => z⟩, b.bag⟩
theorem Ext.free {G : Gh} {H H1 : Hp} {p : Addr} (a : Ext G H H1) (b : BagOk H G.bg G.bi) (h : H1 p = none) : H p = none := by
  cases q : H p with
  | none => rfl
  | some o =>
    by_cases e : p = G.bg
    · subst e; exact absurd h a.bag.ne
    · rcases a.lk e q with z | ⟨_, od, z⟩ <;> · rw [z] at h; cases h
theorem Ext.cg {G G' : Gh} {H H' : Hp} (e : G'.bg = G.bg) (e2 : G'.bi = G.bi) (e3 : ∀ a, G'.own a → G.own a) (x : Ext G H H') : Ext G' H H' := ⟨fun a o n h => (x.keep a o (by rw [← e]; exact n) h).imp _root_.id fun z => ⟨fun w => z.1 (e3 a w), z.2⟩, by rw [e, e2]; exact x.bag⟩
theorem BagOk.kept {H H' : Hp} {bg bi : Addr} (h : BagOk H bg bi) (k : ∀ a o, H a = some o → H' a = some o) : BagOk H' bg bi := by
  obtain ⟨x, y, z, ns, h1, h2, r⟩ := h
  exact ⟨x, y, z, ns, k _ _ h1, k _ _ h2, r⟩
/-- what stands at any time -/
structure GOk (G : Gh) (H : Hp) : Prop where
  ob : G.own G.bg
  oi : G.own G.bi
  tr : ∀ a, G.own a → Mut (H a)
  bag : BagOk H G.bg G.bi
theorem Ext.all {G : Gh} {H H' : Hp} (b : BagOk H G.bg G.bi) (k : ∀ a o, H a = some o → H' a = some o) : Ext G H H' := ⟨fun a o _ h => .inl (k a o h), b.kept k⟩
theorem Ext.new {G : Gh} {H : Hp} {p : Addr} {o : HO} (b : BagOk H G.bg G.bi) (h : H p = none) : Ext G H (upd H p o) :=
  .all b fun a u e => by rw [upd_ne (ne_of_none e h)]; exact e
/-- what a def owns: data, a list of its own, a dict of its own, within one another -/
inductive Tr where
  | d (x : D) | l (ts : List Tr) | m (b : Bool) (es : List (D × Tr)) | o (C : Addr) (fs : List (Str × Tr)) | tp (ts : List Tr)
mutual
noncomputable def Tr.toD : Tr → D
  | .d x => x
  | .l ts => .lst (Tr.toDs ts)
  | .m b es => .dic b (Tr.toEs es)
  | .o C fs => .ins C (Tr.toFs fs)
  | .tp ts => .tup (Tr.toDs ts)
noncomputable def Tr.toDs : List Tr → List D
  | [] => []
  | t :: ts => t.toD :: Tr.toDs ts
noncomputable def Tr.toEs : List (D × Tr) → List (D × D)
  | [] => []
  | (k, t) :: es => (k, t.toD) :: Tr.toEs es
noncomputable def Tr.toFs : List (Str × Tr) → List (Str × D)
  | [] => []
  | (k, t) :: es => (k, t.toD) :: Tr.toFs es
end
mutual
/-- v stands for t; L: the addresses that are owned -/
noncomputable def Ow (K : PySem.W.Frag) (G : Gh) (H : Hp) : Tr → V → List Addr → Prop
  | .d x, v, L => L = [] ∧ Dt K G H x v
  | .l ts, v, L => ∃ p xs M, v = .ref p ∧ G.own p ∧ H p = some (.lst xs) ∧ OwL K G H ts xs M ∧ L = p :: M
  | .m b es, v, L => ∃ p M, v = .ref p ∧ G.own p ∧ ((∃ kvs, H p = some (.dK kvs) ∧ OwP K G H b es kvs M) ∨ ∃ kvs, H p = some (.dT kvs) ∧ OwQ K G H b es kvs M) ∧ L = p :: M
  | .o C fs, v, L => ∃ p dx vs M, v = .ref p ∧ G.own p ∧ H p = some (.ins C dx vs) ∧ OwF K G H fs vs M ∧ L = p :: M
  | .tp ts, v, L => ∃ p xs, v = .ref p ∧ H p = some (.tup xs) ∧ OwL K G H ts xs L
noncomputable def OwF (K : PySem.W.Frag) (G : Gh) (H : Hp) : List (Str × Tr) → List (Str × V) → List Addr → Prop
  | [], kvs, L => kvs = [] ∧ L = []
  | (k, t) :: es, kvs, L => ∃ v r M N, kvs = (k, v) :: r ∧ Ow K G H t v M ∧ OwF K G H es r N ∧ L = M ++ N
noncomputable def OwL (K : PySem.W.Frag) (G : Gh) (H : Hp) : List Tr → List V → List Addr → Prop
  | [], xs, L => xs = [] ∧ L = []
  | t :: ts, xs, L => ∃ x r M N, xs = x :: r ∧ Ow K G H t x M ∧ OwL K G H ts r N ∧ L = M ++ N
noncomputable def OwP (K : PySem.W.Frag) (G : Gh) (H : Hp) (b : Bool) : List (D × Tr) → List (Key × V) → List Addr → Prop
  | [], kvs, L => kvs = [] ∧ b = false ∧ L = []
  | (k, t) :: es, kvs, L => ∃ j v r M N, kvs = (j, v) :: r ∧ k = kD j ∧ Ow K G H t v M ∧ OwP K G H b es r N ∧ L = M ++ N
noncomputable def OwQ (K : PySem.W.Frag) (G : Gh) (H : Hp) (b : Bool) : List (D × Tr) → List (List Key × V) → List Addr → Prop
  | [], kvs, L => kvs = [] ∧ b = true ∧ L = []
  | (k, t) :: es, kvs, L => ∃ j v r M N, kvs = (j, v) :: r ∧ k = .tup (j.map kD) ∧ Ow K G H t v M ∧ OwQ K G H b es r N ∧ L = M ++ N
end
section
variable {K : PySem.W.Frag} {G G' : Gh} {H H' : Hp}
mutual
theorem Ow.own : ∀ (t : Tr) (v : V) (L : List Addr), Ow K G H t v L → ∀ p ∈ L, G.own p ∧ H p ≠ none
  | .d x, v, L, h, p, hp => by rw [h.1] at hp; cases hp
  | .l ts, v, L, h, p, hp => by
    obtain ⟨q, xs, M, rfl, o, e, h, rfl⟩ := h
    rcases List.mem_cons.mp hp with rfl | hp
    · exact ⟨o, by rw [e]; exact fun z => nomatch z⟩
    · exact OwL.own ts xs M h p hp
  | .m b es, v, L, h, p, hp => by
    obtain ⟨q, M, rfl, o, h, rfl⟩ := h
    rcases List.mem_cons.mp hp with rfl | hp
    · rcases h with ⟨_, e, _⟩ | ⟨_, e, _⟩ <;> exact ⟨o, by rw [e]; exact fun z => nomatch z⟩
    · rcases h with ⟨kvs, _, h⟩ | ⟨kvs, _, h⟩
      · exact OwP.own b es kvs M h p hp
      · exact OwQ.own b es kvs M h p hp
  | .o C fs, v, L, h, p, hp => by
    obtain ⟨q, dx, vs, M, rfl, o, e, h, rfl⟩ := h
    rcases List.mem_cons.mp hp with rfl | hp
    · exact ⟨o, by rw [e]; exact fun z => nomatch z⟩
    · exact OwF.own fs vs M h p hp
  | .tp ts, v, L, h, p, hp => by
    obtain ⟨q, xs, rfl, e, h⟩ := h
    exact OwL.own ts xs L h p hp
theorem OwF.own : ∀ (es : List (Str × Tr)) (kvs : List (Str × V)) (L : List Addr), OwF K G H es kvs L → ∀ p ∈ L, G.own p ∧ H p ≠ none
  | [], xs, L, h, p, hp => by rw [h.2] at hp; cases hp
  | (k, t) :: es, kvs, L, h, p, hp => by
    obtain ⟨v, r, M, N, rfl, h1, h2, rfl⟩ := h
    rcases List.mem_append.mp hp with hp | hp
    · exact Ow.own t v M h1 p hp
    · exact OwF.own es r N h2 p hp
theorem OwL.own : ∀ (ts : List Tr) (xs : List V) (L : List Addr), OwL K G H ts xs L → ∀ p ∈ L, G.own p ∧ H p ≠ none
  | [], xs, L, h, p, hp => by rw [h.2] at hp; cases hp
  | t :: ts, xs, L, h, p, hp => by
    obtain ⟨x, r, M, N, rfl, h1, h2, rfl⟩ := h
    rcases List.mem_append.mp hp with hp | hp
    · exact Ow.own t x M h1 p hp
    · exact OwL.own ts r N h2 p hp
theorem OwP.own (b : Bool) : ∀ (es : List (D × Tr)) (kvs : List (Key × V)) (L : List Addr), OwP K G H b es kvs L → ∀ p ∈ L, G.own p ∧ H p ≠ none
  | [], xs, L, h, p, hp => by rw [h.2.2] at hp; cases hp
  | (k, t) :: es, kvs, L, h, p, hp => by
    obtain ⟨j, v, r, M, N, rfl, _, h1, h2, rfl⟩ := h
    rcases List.mem_append.mp hp with hp | hp
    · exact Ow.own t v M h1 p hp
    · exact OwP.own b es r N h2 p hp
theorem OwQ.own (b : Bool) : ∀ (es : List (D × Tr)) (kvs : List (List Key × V)) (L : List Addr), OwQ K G H b es kvs L → ∀ p ∈ L, G.own p ∧ H p ≠ none
  | [], xs, L, h, p, hp => by rw [h.2.2] at hp; cases hp
  | (k, t) :: es, kvs, L, h, p, hp => by
    obtain ⟨j, v, r, M, N, rfl, _, h1, h2, rfl⟩ := h
    rcases List.mem_append.mp hp with hp | hp
    · exact Ow.own t v M h1 p hp
    · exact OwQ.own b es r N h2 p hp
end
mutual
/-- what is owned stands, data go along -/
theorem Ow.evo (e : Evo G G' H H') : ∀ (t : Tr) (v : V) (L : List Addr), (∀ p ∈ L, G'.own p ∧ H' p = H p) → Ow K G H t v L → Ow K G' H' t v L
  | .d x, v, L, k, h => ⟨h.1, e.dt x v h.2⟩
  | .l ts, v, L, k, h => by
    obtain ⟨p, xs, M, rfl, o, q, h, rfl⟩ := h
    have kp := k p List.mem_cons_self
    exact ⟨p, xs, M, rfl, kp.1, by rw [kp.2]; exact q, Ow.evoL e ts xs M (fun p hp => k p (List.mem_cons_of_mem _ hp)) h, rfl⟩
  | .m b es, v, L, k, h => by
    obtain ⟨p, M, rfl, o, h, rfl⟩ := h
    have kp := k p List.mem_cons_self
    have km := fun p hp => k p (List.mem_cons_of_mem _ hp)
    refine ⟨p, M, rfl, kp.1, ?_, rfl⟩
    rcases h with ⟨kvs, q, h⟩ | ⟨kvs, q, h⟩
    · exact .inl ⟨kvs, by rw [kp.2]; exact q, Ow.evoP e b es kvs M km h⟩
    · exact .inr ⟨kvs, by rw [kp.2]; exact q, Ow.evoQ e b es kvs M km h⟩
  | .o C fs, v, L, k, h => by
    obtain ⟨p, dx, vs, M, rfl, o, q, h, rfl⟩ := h
    have kp := k p List.mem_cons_self
    exact ⟨p, dx, vs, M, rfl, kp.1, by rw [kp.2]; exact q, Ow.evoF e fs vs M (fun p hp => k p (List.mem_cons_of_mem _ hp)) h, rfl⟩
  | .tp ts, v, L, k, h => by
    obtain ⟨p, xs, rfl, q, h⟩ := h
    exact ⟨p, xs, rfl, e.tu q, Ow.evoL e ts xs L k h⟩
theorem Ow.evoF (e : Evo G G' H H') : ∀ (es : List (Str × Tr)) (kvs : List (Str × V)) (L : List Addr), (∀ p ∈ L, G'.own p ∧ H' p = H p) → OwF K G H es kvs L → OwF K G' H' es kvs L
  | [], xs, L, k, h => h
  | (c, t) :: es, kvs, L, k, h => by
    obtain ⟨v, r, M, N, rfl, h1, h2, rfl⟩ := h
    exact ⟨v, r, M, N, rfl, Ow.evo e t v M (fun p hp => k p (List.mem_append_left _ hp)) h1, Ow.evoF e es r N (fun p hp => k p (List.mem_append_right _ hp)) h2, rfl⟩
theorem Ow.evoL (e : Evo G G' H H') : ∀ (ts : List Tr) (xs : List V) (L : List Addr), (∀ p ∈ L, G'.own p ∧ H' p = H p) → OwL K G H ts xs L → OwL K G' H' ts xs L
  | [], xs, L, k, h => h
  | t :: ts, xs, L, k, h => by
    obtain ⟨x, r, M, N, rfl, h1, h2, rfl⟩ := h
    exact ⟨x, r, M, N, rfl, Ow.evo e t x M (fun p hp => k p (List.mem_append_left _ hp)) h1, Ow.evoL e ts r N (fun p hp => k p (List.mem_append_right _ hp)) h2, rfl⟩
theorem Ow.evoP (e : Evo G G' H H') (b : Bool) : ∀ (es : List (D × Tr)) (kvs : List (Key × V)) (L : List Addr), (∀ p ∈ L, G'.own p ∧ H' p = H p) → OwP K G H b es kvs L → OwP K G' H' b es kvs L
  | [], xs, L, k, h => h
  | (c, t) :: es, kvs, L, k, h => by
    obtain ⟨j, v, r, M, N, rfl, hc, h1, h2, rfl⟩ := h
    exact ⟨j, v, r, M, N, rfl, hc, Ow.evo e t v M (fun p hp => k p (List.mem_append_left _ hp)) h1, Ow.evoP e b es r N (fun p hp => k p (List.mem_append_right _ hp)) h2, rfl⟩
theorem Ow.evoQ (e : Evo G G' H H') (b : Bool) : ∀ (es : List (D × Tr)) (kvs : List (List Key × V)) (L : List Addr), (∀ p ∈ L, G'.own p ∧ H' p = H p) → OwQ K G H b es kvs L → OwQ K G' H' b es kvs L
  | [], xs, L, k, h => h
  | (c, t) :: es, kvs, L, k, h => by
    obtain ⟨j, v, r, M, N, rfl, hc, h1, h2, rfl⟩ := h
    exact ⟨j, v, r, M, N, rfl, hc, Ow.evo e t v M (fun p hp => k p (List.mem_append_left _ hp)) h1, Ow.evoQ e b es r N (fun p hp => k p (List.mem_append_right _ hp)) h2, rfl⟩
end
/-- less is owned -/
noncomputable def Gh.rems (G : Gh) (R : List Addr) : Gh := ⟨G.bg, G.bi, fun a => G.own a ∧ a ∉ R⟩
theorem Gh.rems_evo {R : List Addr} (tr : ∀ a, G.own a → Mut (H a)) : Evo G (G.rems R) H H := ⟨fun _ _ _ h => .inl h, tr, fun a n _ z => n z.1, rfl, rfl⟩
mutual
/-- what was owned, as data -/
theorem Ow.dt {R : List Addr} (tr : ∀ a, G.own a → Mut (H a)) : ∀ (t : Tr) (v : V) (L : List Addr), (∀ p ∈ L, p ∈ R) → Ow K G H t v L → Dt K (G.rems R) H t.toD v
  | .d x, v, L, k, h => by simp only [Tr.toD]; exact (Gh.rems_evo tr).dt x v h.2
  | .l ts, v, L, k, h => by
    obtain ⟨p, xs, M, rfl, o, q, h, rfl⟩ := h
    simp only [Tr.toD]
    exact ⟨p, xs, rfl, fun z => z.2 (k p List.mem_cons_self), q, Ow.dts tr ts xs M (fun p hp => k p (List.mem_cons_of_mem _ hp)) h⟩
  | .m b es, v, L, k, h => by
    obtain ⟨p, M, rfl, o, h, rfl⟩ := h
    have km := fun p hp => k p (List.mem_cons_of_mem _ hp)
    simp only [Tr.toD]
    refine ⟨p, rfl, fun z => z.2 (k p List.mem_cons_self), ?_⟩
    rcases h with ⟨kvs, q, h⟩ | ⟨kvs, q, h⟩
    · exact .inl ⟨kvs, .inl q, Ow.dtp tr b es kvs M km h⟩
    · exact .inr ⟨kvs, .inl q, Ow.dtq tr b es kvs M km h⟩
  | .o C fs, v, L, k, h => by
    obtain ⟨p, dx, vs, M, rfl, o, q, h, rfl⟩ := h
    simp only [Tr.toD]
    exact ⟨p, dx, vs, rfl, fun z => z.2 (k p List.mem_cons_self), q, Ow.dtf tr fs vs M (fun p hp => k p (List.mem_cons_of_mem _ hp)) h⟩
  | .tp ts, v, L, k, h => by
    obtain ⟨p, xs, rfl, q, h⟩ := h
    simp only [Tr.toD]
    exact ⟨p, xs, rfl, q, Ow.dts tr ts xs L k h⟩
theorem Ow.dtf {R : List Addr} (tr : ∀ a, G.own a → Mut (H a)) : ∀ (es : List (Str × Tr)) (kvs : List (Str × V)) (L : List Addr), (∀ p ∈ L, p ∈ R) → OwF K G H es kvs L → DtF K (G.rems R) H (Tr.toFs es) kvs
  | [], xs, L, k, h => by simp only [Tr.toFs]; exact h.1
  | (c, t) :: es, kvs, L, k, h => by
    obtain ⟨v, r, M, N, rfl, h1, h2, rfl⟩ := h
    simp only [Tr.toFs]
    exact ⟨v, r, rfl, Ow.dt tr t v M (fun p hp => k p (List.mem_append_left _ hp)) h1, Ow.dtf tr es r N (fun p hp => k p (List.mem_append_right _ hp)) h2⟩
theorem Ow.dts {R : List Addr} (tr : ∀ a, G.own a → Mut (H a)) : ∀ (ts : List Tr) (xs : List V) (L : List Addr), (∀ p ∈ L, p ∈ R) → OwL K G H ts xs L → DtL K (G.rems R) H (Tr.toDs ts) xs
  | [], xs, L, k, h => by simp only [Tr.toDs]; exact h.1
  | t :: ts, xs, L, k, h => by
    obtain ⟨x, r, M, N, rfl, h1, h2, rfl⟩ := h
    simp only [Tr.toDs]
    exact ⟨x, r, rfl, Ow.dt tr t x M (fun p hp => k p (List.mem_append_left _ hp)) h1, Ow.dts tr ts r N (fun p hp => k p (List.mem_append_right _ hp)) h2⟩
theorem Ow.dtp {R : List Addr} (tr : ∀ a, G.own a → Mut (H a)) (b : Bool) : ∀ (es : List (D × Tr)) (kvs : List (Key × V)) (L : List Addr), (∀ p ∈ L, p ∈ R) → OwP K G H b es kvs L → DtP K (G.rems R) H b (Tr.toEs es) kvs
  | [], xs, L, k, h => by simp only [Tr.toEs]; exact ⟨h.1, h.2.1⟩
  | (c, t) :: es, kvs, L, k, h => by
    obtain ⟨j, v, r, M, N, rfl, hc, h1, h2, rfl⟩ := h
    simp only [Tr.toEs]
    exact ⟨j, v, r, rfl, hc, Ow.dt tr t v M (fun p hp => k p (List.mem_append_left _ hp)) h1, Ow.dtp tr b es r N (fun p hp => k p (List.mem_append_right _ hp)) h2⟩
theorem Ow.dtq {R : List Addr} (tr : ∀ a, G.own a → Mut (H a)) (b : Bool) : ∀ (es : List (D × Tr)) (kvs : List (List Key × V)) (L : List Addr), (∀ p ∈ L, p ∈ R) → OwQ K G H b es kvs L → DtQ K (G.rems R) H b (Tr.toEs es) kvs
  | [], xs, L, k, h => by simp only [Tr.toEs]; exact ⟨h.1, h.2.1⟩
  | (c, t) :: es, kvs, L, k, h => by
    obtain ⟨j, v, r, M, N, rfl, hc, h1, h2, rfl⟩ := h
    simp only [Tr.toEs]
    exact ⟨j, v, r, rfl, hc, Ow.dt tr t v M (fun p hp => k p (List.mem_append_left _ hp)) h1, Ow.dtq tr b es r N (fun p hp => k p (List.mem_append_right _ hp)) h2⟩
end
theorem Ow.ofL : ∀ {ds : List D} {xs : List V}, DtL K G H ds xs → OwL K G H (ds.map .d) xs []
  | [], _, h => ⟨h, rfl⟩
  | d :: ds, _, h => by
    obtain ⟨x, r, rfl, h1, h2⟩ := h
    exact ⟨x, r, [], [], rfl, ⟨rfl, h1⟩, Ow.ofL h2, rfl⟩
theorem toDs_d : ∀ ds : List D, Tr.toDs (ds.map .d) = ds
  | [] => by simp only [List.map_nil, Tr.toDs]
  | d :: ds => by simp only [List.map_cons, Tr.toDs, Tr.toD, toDs_d ds]
end
/-- what a name of a def may hold: nothing known, data, what the def owns -/
inductive Sl where
  | un | dat (d : D) | tr (t : Tr) | io (v : V) (t : Tr)
/-- a list of data, owned -/
noncomputable abbrev Sl.ml (ds : List D) : Sl := .tr (.l (ds.map .d))
structure Fr where
  K : PySem.W.Frag
  G : Gh
  H : Hp
  pn : List (V × D)
noncomputable abbrev Fr.pin (F : Fr) (l : List (V × D)) : Fr := { F with pn := l ++ F.pn }
noncomputable def SlR (F : Fr) (G : Gh) (H : Hp) : Sl → Option V → List Addr → Prop
  | .un, _, L => L = []
  | .dat d, o, L => L = [] ∧ ∃ v, o = some v ∧ Dt F.K G H d v
  | .tr t, o, L => (∀ p ∈ L, ¬ F.G.own p) ∧ ∃ v, o = some v ∧ Ow F.K G H t v L
  | .io v t, o, L => (∀ p ∈ L, ¬ F.G.own p) ∧ o = some v ∧ Ow F.K G H t v L
noncomputable def Slots (F : Fr) (G : Gh) (H : Hp) : List Sl → St → List Addr → Prop
  | [], σ, L => σ = [] ∧ L = []
  | s :: ρ, σ, L => ∃ o r M N, σ = o :: r ∧ SlR F G H s o M ∧ Slots F G H ρ r N ∧ L = M ++ N
structure Rel (F : Fr) (G : Gh) (H : Hp) (σ : St) (ρ : List Sl) : Prop where
  bg : G.bg = F.G.bg
  bi : G.bi = F.G.bi
  ob : F.G.own F.G.bg
  oi : F.G.own F.G.bi
  sub : ∀ a, F.G.own a → G.own a
  new : ∀ a, G.own a → ¬ F.G.own a → F.H a = none
  tr : ∀ a, G.own a → Mut (H a)
  ext : Ext F.G F.H H
  pn : ∀ q ∈ F.pn, Dt F.K G H q.2 q.1
  sl : ∃ L, Slots F G H ρ σ L ∧ L.Nodup
theorem SlR.own {F : Fr} {G : Gh} {H : Hp} {s : Sl} {o : Option V} {L : List Addr} (h : SlR F G H s o L) : ∀ p ∈ L, G.own p ∧ H p ≠ none ∧ ¬ F.G.own p := by
  cases s with
  | un =>
    have e : L = [] := h
    intro p hp; rw [e] at hp; cases hp
  | dat d => intro p hp; rw [h.1] at hp; cases hp
  | tr t =>
    obtain ⟨n, v, _, h⟩ := h
    intro p hp
    obtain ⟨h1, h2⟩ := Ow.own t v L h p hp
    exact ⟨h1, h2, n p hp⟩
  | io v t =>
    obtain ⟨n, _, h⟩ := h
    intro p hp
    obtain ⟨h1, h2⟩ := Ow.own t v L h p hp
    exact ⟨h1, h2, n p hp⟩
theorem Slots.own {F : Fr} {G : Gh} {H : Hp} : ∀ {ρ : List Sl} {σ : St} {L : List Addr}, Slots F G H ρ σ L → ∀ p ∈ L, G.own p ∧ H p ≠ none ∧ ¬ F.G.own p
  | [], _, _, h, p, hp => by rw [h.2] at hp; cases hp
  | s :: ρ, _, _, h, p, hp => by
    obtain ⟨o, r, M, N, rfl, h1, h2, rfl⟩ := h
    rcases List.mem_append.mp hp with hp | hp
    · exact h1.own p hp
    · exact Slots.own h2 p hp
theorem Slots.map {F F' : Fr} {G G' : Gh} {H H' : Hp} : ∀ {ρ : List Sl} {σ : St} {L : List Addr}, (∀ s o M, (∀ p ∈ M, p ∈ L) → SlR F G H s o M → SlR F' G' H' s o M) → Slots F G H ρ σ L → Slots F' G' H' ρ σ L
  | [], _, _, _, h => h
  | a :: ρ, σ, L, f, h => by
    obtain ⟨q, r, M, N, rfl, h1, h2, rfl⟩ := h
    exact ⟨q, r, M, N, rfl, f _ _ _ (fun p hp => List.mem_append_left _ hp) h1, Slots.map (fun s o R k => f s o R fun p hp => List.mem_append_right _ (k p hp)) h2, rfl⟩
theorem Slots.len {F : Fr} {G : Gh} {H : Hp} : ∀ {ρ : List Sl} {σ : St} {L : List Addr}, Slots F G H ρ σ L → ρ.length = σ.length
  | [], _, _, h => by rw [h.1]; rfl
  | a :: ρ, σ, _, h => by
    obtain ⟨q, r, M, N, rfl, h1, h2, rfl⟩ := h
    simp [Slots.len h2]
/-- one slot changes, the others go along -/
theorem Slots.upd {F : Fr} {G : Gh} {H : Hp} : ∀ {ρ : List Sl} {σ : St} {L : List Addr} {i : Nat} {s : Sl}, Slots F G H ρ σ L → ρ[i]? = some s → ∃ o A B C, σ[i]? = some o ∧ L = A ++ (B ++ C) ∧ SlR F G H s o B ∧
    ∀ (F' : Fr) (G' : Gh) (H' : Hp) (s' : Sl) (o' : Option V) (B' : List Addr), (∀ t u M, (∀ p ∈ M, p ∈ A ∨ p ∈ C) → SlR F G H t u M → SlR F' G' H' t u M) → SlR F' G' H' s' o' B' → Slots F' G' H' (ρ.set i s') (σ.set i o') (A ++ (B' ++ C))
  | [], _, _, i, s, _, e => by simp at e
  | a :: ρ, _, _, 0, s, h, e => by
    obtain ⟨q, r, M, N, rfl, h1, h2, rfl⟩ := h
    simp at e; subst e
    refine ⟨q, [], M, N, rfl, rfl, h1, fun F' G' H' s' o' B' k hs => ⟨o', r, B', N, rfl, hs, Slots.map (fun t u R z => k t u R fun p hp => .inr (z p hp)) h2, rfl⟩⟩
  | a :: ρ, _, _, i + 1, s, h, e => by
    obtain ⟨q, r, M, N, rfl, h1, h2, rfl⟩ := h
    obtain ⟨o, A, B, C, e1, rfl, e3, e4⟩ := Slots.upd (i := i) h2 (by simpa using e)
    refine ⟨o, M ++ A, B, C, by simpa using e1, by rw [List.append_assoc], e3, fun F' G' H' s' o' B' k hs => ⟨q, r.set i o', M, A ++ (B' ++ C), rfl, k _ _ _ (fun p hp => .inl (List.mem_append_left _ hp)) h1, e4 F' G' H' s' o' B' (fun t u R z => k t u R fun p hp => (z p hp).imp (List.mem_append_right _) _root_.id) hs, by rw [List.append_assoc]⟩⟩
section
variable {F : Fr} {G G' : Gh} {H H' : Hp} {σ : St} {ρ : List Sl}
theorem Rel.obg (r : Rel F G H σ ρ) : G.own G.bg := by rw [r.bg]; exact r.sub _ r.ob
theorem Rel.bag (r : Rel F G H σ ρ) : BagOk H G.bg G.bi := by rw [r.bg, r.bi]; exact r.ext.bag
theorem Rel.ok (r : Rel F G H σ ρ) : GOk G H := ⟨r.obg, by rw [r.bi]; exact r.sub _ r.oi, r.tr, r.bag⟩
theorem Rel.len (r : Rel F G H σ ρ) : ρ.length = σ.length := let ⟨_, h, _⟩ := r.sl; h.len
theorem Rel.free (r : Rel F G H σ ρ) {p : Addr} (h : H p = none) : ¬ G.own p := fun z => by
  have m := r.tr p z
  rw [h] at m; exact m
theorem Rel.at (r : Rel F G H σ ρ) {i : Nat} {s : Sl} (e : ρ[i]? = some s) : ∃ o L, σ[i]? = some o ∧ SlR F G H s o L := by
  obtain ⟨L, h, _⟩ := r.sl
  obtain ⟨o, A, B, C, e1, _, e3, _⟩ := h.upd e
  exact ⟨o, B, e1, e3⟩
theorem Rel.evo (r : Rel F G H σ ρ) (e : Ext G H H') : Evo G G H H' :=
  ⟨fun a o n h => e.lk (fun z => n (by rw [z]; exact r.obg)) h, r.tr, fun _ n _ => n, rfl, rfl⟩
theorem Ext.tr' (o : G.own G.bg) (tr : ∀ a, G.own a → Mut (H a)) (e : Ext G H H') : ∀ a, G.own a → Mut (H' a) := fun a z => by
  by_cases q : a = G.bg
  · subst q
    obtain ⟨x, y, z, ns, h1, _⟩ := e.bag
    rw [h1]; exact True.intro
  · have m := tr a z
    cases h : H a with
    | none => rw [h] at m; exact m.elim
    | some o => rw [e.mine q h z]; rw [h] at m; exact m
/-- a slot's content goes along where data do and what is owned stands -/
theorem SlR.go {F' : Fr} (hK : F'.K = F.K) (hG : F'.G = F.G) (e : Evo G G' H H') : ∀ (s : Sl) (o : Option V) (M : List Addr), (∀ p ∈ M, G.own p → H p ≠ none → ¬ F.G.own p → G'.own p ∧ H' p = H p) → SlR F G H s o M → SlR F' G' H' s o M
  | .un, _, _, _, h => h
  | .dat d, o, M, _, h => by
    obtain ⟨h0, v, h1, h2⟩ := h
    exact ⟨h0, v, h1, by rw [hK]; exact e.dt d v h2⟩
  | .tr t, o, M, k, h => by
    have w := SlR.own (s := .tr t) h
    obtain ⟨n, v, h1, h2⟩ := h
    refine ⟨fun p hp => by rw [hG]; exact n p hp, v, h1, ?_⟩
    rw [hK]
    exact Ow.evo e t v M (fun p hp => k p hp (w p hp).1 (w p hp).2.1 (w p hp).2.2) h2
  | .io v t, o, M, k, h => by
    have w := SlR.own (s := .io v t) h
    obtain ⟨n, h1, h2⟩ := h
    refine ⟨fun p hp => by rw [hG]; exact n p hp, h1, ?_⟩
    rw [hK]
    exact Ow.evo e t v M (fun p hp => k p hp (w p hp).1 (w p hp).2.1 (w p hp).2.2) h2
theorem Ext.stands (bg : G.bg = F.G.bg) (ob : F.G.own F.G.bg) (e : Ext G H H') : ∀ p, G.own p → H p ≠ none → ¬ F.G.own p → G.own p ∧ H' p = H p := fun p h1 h2 h3 => by
  cases q : H p with
  | none => exact absurd q h2
  | some o => exact ⟨h1, e.mine (fun z => h3 (by rw [z, bg]; exact ob)) q h1⟩
theorem Rel.step (r : Rel F G H σ ρ) (e : Ext G H H') : Rel F G H' σ ρ :=
  ⟨r.bg, r.bi, r.ob, r.oi, r.sub, r.new, Ext.tr' r.obg r.tr e, r.ext.trans (e.cg r.bg.symm r.bi.symm r.sub), fun q hq => (r.evo e).dt _ _ (r.pn q hq), let ⟨L, h, n⟩ := r.sl; ⟨L, h.map fun s o M _ => SlR.go rfl rfl (r.evo e) s o M fun p _ => Ext.stands r.bg r.ob e p, n⟩⟩
/-- what data avoid may be less -/
theorem Rel.less (r : Rel F G H σ ρ) : Evo G F.G H H := ⟨fun _ _ _ h => .inl h, r.tr, fun a n _ z => n (r.sub a z), r.bg.symm, r.bi.symm⟩
theorem Rel.same (r : Rel F G H σ ρ) : Evo G G H H := ⟨fun _ _ _ h => .inl h, r.tr, fun _ n _ => n, rfl, rfl⟩
theorem Rel.unpin {l : List (V × D)} (r : Rel (F.pin l) G H σ ρ) : Rel F G H σ ρ := by
  obtain ⟨L, h, n⟩ := r.sl
  have k : ∀ (s : Sl) (o : Option V) (M : List Addr), (∀ p ∈ M, p ∈ L) → SlR (F.pin l) G H s o M → SlR F G H s o M := fun s o M _ h => by
    cases s <;> exact h
  exact ⟨r.bg, r.bi, r.ob, r.oi, r.sub, r.new, r.tr, r.ext, fun q hq => r.pn q (List.mem_append_right _ hq), L, Slots.map k h, n⟩
theorem Rel.pinned {l : List (V × D)} (r : Rel F G H σ ρ) (h : ∀ q ∈ l, Dt F.K G H q.2 q.1) : Rel (F.pin l) G H σ ρ := by
  obtain ⟨L, hl, n⟩ := r.sl
  have k : ∀ (s : Sl) (o : Option V) (M : List Addr), (∀ p ∈ M, p ∈ L) → SlR F G H s o M → SlR (F.pin l) G H s o M := fun s o M _ h => by
    cases s <;> exact h
  exact ⟨r.bg, r.bi, r.ob, r.oi, r.sub, r.new, r.tr, r.ext, fun q hq => (List.mem_append.mp hq).elim (h q) (r.pn q), L, Slots.map k hl, n⟩
theorem nodup_mid {A B C : List Addr} (h : (A ++ (B ++ C)).Nodup) : (A ++ C).Nodup ∧ B.Nodup ∧ ∀ p ∈ B, p ∉ A ∧ p ∉ C := by
  rw [List.nodup_append] at h
  obtain ⟨h1, h2, h3⟩ := h
  rw [List.nodup_append] at h2
  obtain ⟨h4, h5, h6⟩ := h2
  refine ⟨List.nodup_append.mpr ⟨h1, h5, fun a ha b hb => h3 a ha b (List.mem_append_right _ hb)⟩, h4, fun p hp => ⟨fun z => h3 p z p (List.mem_append_left _ hp) rfl, fun z => h6 p hp p z rfl⟩⟩
theorem nodup_in {A B C : List Addr} (h : (A ++ C).Nodup) (hb : B.Nodup) (k : ∀ p ∈ B, p ∉ A ∧ p ∉ C) : (A ++ (B ++ C)).Nodup := by
  rw [List.nodup_append] at h
  obtain ⟨h1, h2, h3⟩ := h
  refine List.nodup_append.mpr ⟨h1, List.nodup_append.mpr ⟨hb, h2, fun a ha b hb e => (k a ha).2 (e ▸ hb)⟩, fun a ha b hb e => ?_⟩
  rcases List.mem_append.mp hb with z | z
  · exact (k b z).1 (e ▸ ha)
  · exact h3 a ha b z e
/-- a slot gets another content, what it owned is let go -/
theorem Rel.slot (r : Rel F G H σ ρ) {i : Nat} {s : Sl} {o : Option V} {B : List Addr} (hs : SlR F G H s o B) (hB : B.Nodup) (hf : ∀ L, (∃ ρ' σ', Slots F G H ρ' σ' L) → ∀ p ∈ B, p ∉ L) : Rel F G H (σ.set i o) (ρ.set i s) := by
  refine ⟨r.bg, r.bi, r.ob, r.oi, r.sub, r.new, r.tr, r.ext, r.pn, ?_⟩
  obtain ⟨L, h, n⟩ := r.sl
  cases e : ρ[i]? with
  | none =>
    have hi : ρ.length ≤ i := by simpa using e
    rw [List.set_eq_of_length_le hi, List.set_eq_of_length_le (by rw [← h.len]; exact hi)]
    exact ⟨L, h, n⟩
  | some t =>
    obtain ⟨u, A, B', C, _, rfl, _, k⟩ := h.upd e
    obtain ⟨n1, _, _⟩ := nodup_mid n
    have f := hf _ ⟨_, _, h⟩
    exact ⟨_, k F G H s o B (fun _ _ _ _ z => z) hs, nodup_in n1 hB fun p hp => ⟨fun z => f p hp (List.mem_append_left _ z), fun z => f p hp (List.mem_append_right _ (List.mem_append_right _ z))⟩⟩
/-- a slot is given data -/
theorem Rel.put (r : Rel F G H σ ρ) {i : Nat} {d : D} {v : V} (h : Dt F.K G H d v) : Rel F G H (σ.set i (some v)) (ρ.set i (.dat d)) :=
  r.slot (B := []) ⟨rfl, v, rfl, h⟩ List.nodup_nil fun _ _ _ z => nomatch z
theorem Rel.drop (r : Rel F G H σ ρ) (i : Nat) (o : Option V) : Rel F G H (σ.set i o) (ρ.set i .un) := r.slot (B := []) rfl List.nodup_nil fun _ _ _ z => nomatch z
/-- a slot is given what is new: its addresses are no other slot's -/
theorem Rel.give (r : Rel F G H σ ρ) {i : Nat} {t : Tr} {v : V} {B : List Addr} (h : Ow F.K G H t v B) (hB : B.Nodup) (n : ∀ p ∈ B, ¬ F.G.own p) (f : ∀ L, (∃ ρ' σ', Slots F G H ρ' σ' L) → ∀ p ∈ B, p ∉ L) : Rel F G H (σ.set i (some v)) (ρ.set i (.tr t)) :=
  r.slot ⟨n, v, rfl, h⟩ hB f
noncomputable def Gh.add (G : Gh) (p : Addr) : Gh := ⟨G.bg, G.bi, fun a => G.own a ∨ a = p⟩
theorem Rel.evoAdd (r : Rel F G H σ ρ) (e : Ext G H H') {p : Addr} (hp : H p = none) : Evo G (G.add p) H H' :=
  ⟨fun a o n h => e.lk (fun z => n (by rw [z]; exact r.obg)) h, r.tr, fun a n q z => z.elim n fun w => q (by rw [w]; exact hp), rfl, rfl⟩
noncomputable def Gh.adds (G : Gh) (R : List Addr) : Gh := ⟨G.bg, G.bi, fun a => G.own a ∨ a ∈ R⟩
theorem Rel.evoAdds (r : Rel F G H σ ρ) (e : Ext G H H') {R : List Addr} (hp : ∀ p ∈ R, H p = none) : Evo G (G.adds R) H H' :=
  ⟨fun a o n h => e.lk (fun z => n (by rw [z]; exact r.obg)) h, r.tr, fun a n q z => z.elim n fun w => q (hp a w), rfl, rfl⟩
/-- new lists (or dicts) that nothing knows -/
theorem Rel.grows (r : Rel F G H σ ρ) (e : Ext G H H') {R : List Addr} (hp : ∀ p ∈ R, H p = none) (hm : ∀ p ∈ R, Mut (H' p)) : Rel F (G.adds R) H' σ ρ := by
  have ev := r.evoAdds e hp
  refine ⟨r.bg, r.bi, r.ob, r.oi, fun a h => .inl (r.sub a h), fun a h n => ?_, fun a h => ?_, r.ext.trans (e.cg r.bg.symm r.bi.symm r.sub), fun q hq => ev.dt _ _ (r.pn q hq), let ⟨L, h, n⟩ := r.sl; ⟨L, h.map fun s o M _ => SlR.go rfl rfl ev s o M fun p _ h1 h2 h3 => let ⟨z, w⟩ := Ext.stands r.bg r.ob e p h1 h2 h3; ⟨.inl z, w⟩, n⟩⟩
  · rcases h with h | h
    · exact r.new a h n
    · cases q : F.H a with
      | none => rfl
      | some o =>
        have hp := hp a h
        have q2 : a ≠ F.G.bg := fun z => by
          have := r.ext.bag.ne
          rw [← z] at this
          exact this hp
        rcases r.ext.lk q2 q with z | ⟨_, od, z⟩ <;> · rw [z] at hp; cases hp
  · rcases h with h | h
    · exact Ext.tr' r.obg r.tr e a h
    · exact hm a h
theorem Gh.adds_one (G : Gh) (p : Addr) : G.adds [p] = G.add p := by
  unfold Gh.adds Gh.add
  congr 1
  funext a
  simp
theorem Rel.grow (r : Rel F G H σ ρ) (e : Ext G H H') {p : Addr} (hp : H p = none) (hm : Mut (H' p)) : Rel F (G.add p) H' σ ρ := by
  rw [← Gh.adds_one]
  exact r.grows e (fun a h => by rw [List.mem_singleton.mp h]; exact hp) fun a h => by rw [List.mem_singleton.mp h]; exact hm
end
end DL
set_option Elab.async false
set_option linter.all false
set_option maxRecDepth 100000
set_option maxHeartbeats 1000000
namespace DL
open PySem L2
noncomputable abbrev TD := List Sl → (D → Prop) → Prop
noncomputable abbrev TBD := List Sl → (Bool → Prop) → Prop
noncomputable abbrev TLD := List Sl → (List D → Prop) → Prop
noncomputable def lift (F : Fr) (T : TD) : TE := fun σ H Q => ∃ G ρ k, Rel F G H σ ρ ∧ T ρ k ∧ ∀ d v H', k d → Ext G H H' → Dt F.K G H' d v → Q v H'
noncomputable def liftT (F : Fr) (T : TBD) : TT := fun σ H Q => ∃ G ρ k, Rel F G H σ ρ ∧ T ρ k ∧ ∀ b H', k b → Ext G H H' → Q b H'
noncomputable def liftA (F : Fr) (T : TLD) : TA := fun σ H Q => ∃ G ρ k, Rel F G H σ ρ ∧ T ρ k ∧ ∀ ds vs H', k ds → Ext G H H' → DtL F.K G H' ds vs → Q vs H'
/-- a new list, that nothing else knows -/
noncomputable def liftF (F : Fr) (T : TLD) : TE := fun σ H Q => ∃ G ρ k, Rel F G H σ ρ ∧ T ρ k ∧ ∀ ds p vs H', k ds → Ext G H H' → H p = none → H' p = some (.lst vs) → DtL F.K (G.add p) H' ds vs → Q (.ref p) H'
theorem pe_imp {X : Cx} {e : Expr} {t t' : TE} (h : PE X e t) (i : ∀ σ H Q, t' σ H Q → t σ H Q) : PE X e t' := ⟨fun pins s σ H Q I w => h.run pins s σ H Q I (i _ _ _ w)⟩
theorem pt_imp {X : Cx} {e : Expr} {t t' : TT} (h : PT X e t) (i : ∀ σ H Q, t' σ H Q → t σ H Q) : PT X e t' := ⟨fun pins s σ H Q I w => h.run pins s σ H Q I (i _ _ _ w)⟩
theorem pa_imp {X : Cx} {e : List Expr} {t t' : TA} (h : PA X e t) (i : ∀ σ H Q, t' σ H Q → t σ H Q) : PA X e t' := ⟨fun pos pins s σ H Q I w => h.run pos pins s σ H Q I (i _ _ _ w)⟩
theorem ps_imp {X : Cx} {e : Stmt} {t t' : TS} (h : PS X e t) (i : ∀ D σ H, t' D σ H → t D σ H) : PS X e t' := ⟨fun pins s σ H D I w => h.run pins s σ H D I (i _ _ _ w)⟩
theorem pss_imp {X : Cx} {e : List Stmt} {t t' : TS} (h : PSs X e t) (i : ∀ D σ H, t' D σ H → t D σ H) : PSs X e t' := ⟨fun pins s σ H D I w => h.run pins s σ H D I (i _ _ _ w)⟩
/-! ### names, constants -/
noncomputable def nameT (i : Nat) : TD := fun ρ k => match ρ[i]? with
  | some (.dat d) => k d
  | _ => False
noncomputable def cT (d : D) : TD := fun _ k => k d
section
variable {X : Cx} {F : Fr}
theorem d_name (i : Nat) {x : Str} {pos : Pos} (hN : X.N[i]? = some x := by rfl) (hv : Vis X.env.scope x := by first | exact Or.inl rfl | exact Or.inr (Or.inl rfl) | exact Or.inr (Or.inr rfl)) (hd : (x == ("__debug__" : Str)) = false := by decide)
    (hcd : (x == ("__classdict__" : Str)) = false := by decide) : PE X (.Name x pos) (lift F (nameT i)) := by
  refine pe_imp (pe_var hN hv hd hcd) fun σ H Q h => ?_
  obtain ⟨G, ρ, k, r, h, q⟩ := h
  unfold nameT at h
  cases e : ρ[i]? with
  | none => rw [e] at h; exact h.elim
  | some s =>
    cases s with
    | dat d =>
      rw [e] at h
      obtain ⟨o, L, e1, -, v, rfl, hv⟩ := r.at e
      exact ⟨v, e1, q d v H h (.refl r.bag) hv⟩
    | _ => rw [e] at h; exact h.elim
theorem d_cst {e : Expr} {d : D} {v : V} (h : PE X e (tC v)) (hd : ∀ G H, Dt F.K G H d v) : PE X e (lift F (cT d)) :=
  pe_imp h fun σ H Q ⟨G, ρ, k, r, h, q⟩ => q d v H h (.refl r.bag) (hd G H)
theorem d_int {i : Int} {j : Nat} {pos : Pos} : PE X (.Constant (.int i) j pos) (lift F (cT (.int i))) := d_cst pe_int fun _ _ => rfl
theorem d_bl {b : Bool} {j : Nat} {pos : Pos} : PE X (.Constant (.bool b) j pos) (lift F (cT (.bl b))) := d_cst pe_bl fun _ _ => rfl
theorem d_non {j : Nat} {pos : Pos} : PE X (.Constant .none j pos) (lift F (cT .non)) := d_cst pe_non fun _ _ => rfl
theorem d_str {x : Str} {j : Nat} {pos : Pos} : PE X (.Constant (.str x) j pos) (lift F (cT (.str x))) := d_cst pe_str fun _ _ => rfl
end
/-! ### argument lists -/
noncomputable def nilA : TLD := fun _ k => k []
noncomputable def consA (t : TD) (u : TLD) : TLD := fun ρ k => t ρ fun d => u ρ fun ds => k (d :: ds)
section
variable {X : Cx} {F : Fr} {e : Expr} {es : List Expr} {te : TD} {ta : TLD}
theorem a_nil : PA X [] (liftA F nilA) := pa_imp pa_nil fun σ H Q ⟨G, ρ, k, r, h, q⟩ => q [] [] H h (.refl r.bag) rfl
theorem a_cons (ha : PE X e (lift F te)) (hr : PA X es (liftA F ta)) (hs : starEach (e :: es) X.env = (false, eval e X.env) :: starEach es X.env := by rfl) : PA X (e :: es) (liftA F (consA te ta)) := by
  refine pa_imp (pa_cons ha hr hs) fun σ H Q ⟨G, ρ, k, r, h, q⟩ => ?_
  refine ⟨G, ρ, _, r, h, fun d v H1 h1 e1 d1 => ?_⟩
  refine ⟨G, ρ, _, r.step e1, h1, fun ds vs H2 h2 e2 d2 => ?_⟩
  exact q _ _ H2 h2 (e1.trans e2) ⟨v, vs, rfl, ((r.step e1).evo e2).dt d v d1, d2⟩
end
theorem DtL.len {K : PySem.W.Frag} {G : Gh} {H : Hp} : ∀ {ds : List D} {vs : List V}, DtL K G H ds vs → ds.length = vs.length
  | [], _, h => by
    have h' : _ = [] := h
    rw [h']; rfl
  | d :: ds, _, h => by
    obtain ⟨x, r, rfl, _, h2⟩ := h
    simp [DtL.len h2]
/-- () is no new thing in what it holds: lists, tuples, displays -/
noncomputable def tupT (t : TLD) : TD := fun ρ k => t ρ fun ds => ds.length ≤ sizeLine ∧ k (.tup ds)
noncomputable def lstF (t : TLD) : TLD := fun ρ k => t ρ fun ds => ds.length ≤ sizeLine ∧ k ds
noncomputable def ofF (t : TLD) : TD := fun ρ k => t ρ fun ds => k (.lst ds)
section
variable {X : Cx} {F : Fr} {e : Expr} {es : List Expr} {te : TD} {ta : TLD} {pos : Pos}
theorem d_tup {x1 : Nat} (h : PA X es (liftA F ta)) : PE X (.Tuple es x1 pos) (lift F (tupT ta)) := by
  refine pe_imp (pe_tup h) fun σ H Q ⟨G, ρ, k, r, h, q⟩ => ?_
  refine ⟨G, ρ, _, r, h, fun ds vs H1 ⟨hl, h1⟩ e1 d1 => ⟨by rw [← d1.len]; exact hl, fun p hp => ?_⟩⟩
  have r1 := r.step e1
  have e2 : Ext G H1 (upd H1 p (.tup vs)) := Ext.new r1.bag hp
  exact q _ _ _ h1 (e1.trans e2) ⟨p, vs, rfl, upd_same, (r1.evo e2).dts ds vs d1⟩
theorem f_lst (h : PA X es (liftA F ta)) : PE X (.List es pos) (liftF F (lstF ta)) := by
  refine pe_imp (pe_lst h) fun σ H Q ⟨G, ρ, k, r, h, q⟩ => ?_
  refine ⟨G, ρ, _, r, h, fun ds vs H1 ⟨hl, h1⟩ e1 d1 => ⟨by rw [← d1.len]; exact hl, fun p hp => ?_⟩⟩
  have r1 := r.step e1
  have e2 : Ext G H1 (upd H1 p (.lst vs)) := Ext.new r1.bag hp
  exact q ds p vs _ h1 (e1.trans e2) (e1.free r.bag hp) upd_same ((r1.evoAdd e2 hp).dts ds vs d1)
/-- a new list as data -/
theorem d_of (h : PE X e (liftF F ta)) : PE X e (lift F (ofF ta)) := by
  refine pe_imp h fun σ H Q ⟨G, ρ, k, r, h, q⟩ => ?_
  refine ⟨G, ρ, _, r, h, fun ds p vs H1 h1 e1 hp hl d1 => q _ _ _ h1 e1 ⟨p, vs, rfl, r.free hp, hl, ?_⟩⟩
  have ev : Evo (G.add p) G H1 H1 := ⟨fun _ _ _ h => .inl h, fun a z => z.elim (Ext.tr' r.obg r.tr e1 a) fun z => by rw [z, hl]; exact True.intro, fun a n _ z => n (.inl z), rfl, rfl⟩
  exact ev.dts ds vs d1
end
/-! ### two-place operations -/
noncomputable abbrev OD := D → D → (D → Prop) → Prop
noncomputable def binT (o : OD) (ta tb : TD) : TD := fun ρ k => ta ρ fun x => tb ρ fun y => o x y k
/-- an operation by values does what o says of data -/
noncomputable def OkOp (F : Fr) (r : R2) (o : OD) : Prop := ∀ (G : Gh) (H : Hp) (x y : D) (v u : V) (k : D → Prop) (Q : VK), GOk G H → o x y k → Dt F.K G H x v → Dt F.K G H y u →
  (∀ d w H', k d → Ext G H H' → Dt F.K G H' d w → Q w H') → r v u H Q
section
variable {X : Cx} {F : Fr} {a b : Expr} {ta tb : TD} {r : R2} {o : OD} {pos : Pos}
theorem opT (hr : OkOp F r o) : ∀ σ H Q, lift F (binT o ta tb) σ H Q → tOp r (lift F ta) (lift F tb) σ H Q := by
  intro σ H Q ⟨G, ρ, k, rl, h, q⟩
  refine ⟨G, ρ, _, rl, h, fun x v H1 h1 e1 d1 => ?_⟩
  have r1 := rl.step e1
  refine ⟨G, ρ, _, r1, h1, fun y u H2 h2 e2 d2 => ?_⟩
  have r2 := r1.step e2
  exact hr G H2 x y v u k Q r2.ok h2 ((r1.evo e2).dt x v d1) d2 fun d w H3 h3 e3 d3 => q d w H3 h3 ((e1.trans e2).trans e3) d3
theorem d_bin {op : Operator} (ho : OpR X (binaryOp op) r) (hr : OkOp F r o) (ha : PE X a (lift F ta)) (hb : PE X b (lift F tb)) : PE X (.BinOp a op b pos) (lift F (binT o ta tb)) :=
  pe_imp (pe_op ho ha hb) (opT hr)
theorem d_cmp {op : CmpOp} (ho : OpR X (compareOp op) r) (hr : OkOp F r o) (ha : PE X a (lift F ta)) (hb : PE X b (lift F tb)) (hm : behindInMarks op b = false) : PE X (.Compare a [op] [b] pos) (lift F (binT o ta tb)) :=
  pe_imp (pe_cmpR ho ha hb hm) (opT hr)
/-- a value that is a bool, as a test -/
noncomputable def blT (t : TD) : TBD := fun ρ k => t ρ fun d => match d with
  | .bl b => k b
  | _ => False
theorem t_cmp {op : CmpOp} (ho : OpR X (compareOp op) r) (hr : OkOp F r o) (ha : PE X a (lift F ta)) (hb : PE X b (lift F tb)) (hm : behindInMarks op b = false) : PT X (.Compare a [op] [b] pos) (liftT F (blT (binT o ta tb))) := by
  refine pt_imp (pt_cmpR ho ha hb hm) fun σ H Q ⟨G, ρ, k, r, h, q⟩ => ?_
  refine opT hr σ H _ ⟨G, ρ, _, r, h, fun d v H1 h1 e1 d1 => ?_⟩
  cases d with
  | bl b => exact ⟨b, d1, q b H1 h1 e1⟩
  | _ => exact h1.elim
end
noncomputable def addD : OD
  | .int i, .int j, k => k (.int (i + j))
  | .int i, .bl b, k => k (.int (i + PyProof.Rows.b2i b))
  | .str x, .str y, k => x.length + y.length ≤ sizeLine ∧ k (.str (x ++ y))
  | .lst x, .lst y, k => x.length + y.length ≤ sizeLine ∧ k (.lst (x ++ y))
  | .tup x, .tup y, k => x.length + y.length ≤ sizeLine ∧ k (.tup (x ++ y))
  | _, _, _ => False
noncomputable def subD : OD
  | .int i, .int j, k => k (.int (i - j))
  | _, _, _ => False
noncomputable def mulD : OD
  | .int i, .int j, k => CMul i j ∧ k (.int (i * j))
  | .lst x, .int j, k => (-(2 ^ 63) ≤ j ∧ j < 2 ^ 63) ∧ x.length * j.toNat ≤ sizeLine ∧ k (.lst (List.replicate j.toNat x).flatten)
  | _, _, _ => False
noncomputable def fdivD : OD
  | .int i, .int j, k => CDiv i j ∧ k (.int (i / j))
  | _, _, _ => False
noncomputable def modD : OD
  | .int i, .int j, k => 0 < j ∧ k (.int (i % j))
  | _, _, _ => False
noncomputable def cmpI (f : Int → Int → Bool) : OD
  | .int i, .int j, k => k (.bl (f i j))
  | _, _, _ => False
theorem DtL.app {K : PySem.W.Frag} {G : Gh} {H : Hp} : ∀ {ds es : List D} {vs us : List V}, DtL K G H ds vs → DtL K G H es us → DtL K G H (ds ++ es) (vs ++ us)
  | [], _, _, _, h, h' => by
    have e : _ = [] := h
    subst e; exact h'
  | d :: ds, _, _, _, h, h' => by
    obtain ⟨x, r, rfl, h1, h2⟩ := h
    exact ⟨x, _, rfl, h1, DtL.app h2 h'⟩
theorem DtL.rep {K : PySem.W.Frag} {G : Gh} {H : Hp} {ds : List D} {vs : List V} (h : DtL K G H ds vs) : ∀ n : Nat, DtL K G H (List.replicate n ds).flatten (List.replicate n vs).flatten
  | 0 => rfl
  | n + 1 => by
    rw [List.replicate_succ, List.replicate_succ, List.flatten_cons, List.flatten_cons]
    exact h.app (DtL.rep h n)
section
variable {X : Cx} {F : Fr} {a b : Expr} {ta tb : TD} {pos : Pos}
theorem ok_opI {C : Int → Int → Prop} {g : Int → Int → Int} {o : OD} (ho : ∀ x y k, o x y k → ∃ i j, x = .int i ∧ y = .int j ∧ C i j ∧ k (.int (g i j))) : OkOp F (rI C fun i j => .int (g i j)) o := by
  intro G H x y v u k Q ⟨ob, oi, tr, bg⟩ h hx hy q
  obtain ⟨i, j, rfl, rfl, c, h'⟩ := ho x y k h
  exact ⟨i, j, hx, hy, c, q _ _ _ h' (.refl bg) rfl⟩
theorem ok_opI0 {g : Int → Int → Int} {o : OD} (ho : ∀ x y k, o x y k → ∃ i j, x = .int i ∧ y = .int j ∧ k (.int (g i j))) : OkOp F (rI0 fun i j => .int (g i j)) o := by
  intro G H x y v u k Q ⟨ob, oi, tr, bg⟩ h hx hy q
  obtain ⟨i, j, rfl, rfl, h'⟩ := ho x y k h
  exact ⟨i, j, hx, hy, q _ _ _ h' (.refl bg) rfl⟩
theorem ok_cmpI {g : Int → Int → Bool} : OkOp F (rI0 fun i j => .bl (g i j)) (cmpI g) := by
  intro G H x y v u k Q ⟨ob, oi, tr, bg⟩ h hx hy q
  cases x with
  | int i =>
    cases y with
    | int j => exact ⟨i, j, hx, hy, q _ _ _ h (.refl bg) rfl⟩
    | _ => exact (show False from h).elim
  | _ => exact (show False from h).elim
theorem d_sub (ha : PE X a (lift F ta)) (hb : PE X b (lift F tb)) : PE X (.BinOp a .Sub b pos) (lift F (binT subD ta tb)) :=
  d_bin op_sub (ok_opI0 fun x y k h => by
    cases x <;> try exact (show False from h).elim
    cases y <;> try exact (show False from h).elim
    exact ⟨_, _, rfl, rfl, h⟩) ha hb
theorem d_fdiv (ha : PE X a (lift F ta)) (hb : PE X b (lift F tb)) : PE X (.BinOp a .FloorDiv b pos) (lift F (binT fdivD ta tb)) :=
  d_bin op_fdiv (ok_opI fun x y k h => by
    cases x <;> try exact (show False from h).elim
    cases y <;> try exact (show False from h).elim
    exact ⟨_, _, rfl, rfl, h.1, h.2⟩) ha hb
theorem d_mod (ha : PE X a (lift F ta)) (hb : PE X b (lift F tb)) : PE X (.BinOp a .Mod b pos) (lift F (binT modD ta tb)) :=
  d_bin op_mod (ok_opI fun x y k h => by
    cases x <;> try exact (show False from h).elim
    cases y <;> try exact (show False from h).elim
    exact ⟨_, _, rfl, rfl, h.1, h.2⟩) ha hb
theorem d_mul (ha : PE X a (lift F ta)) (hb : PE X b (lift F tb)) : PE X (.BinOp a .Mult b pos) (lift F (binT mulD ta tb)) := by
  refine d_bin (r := fun x y H Q => rI CMul (fun i j => .int (i * j)) x y H Q ∨ rRep x y H Q) (op_mul.or op_rep) ?_ ha hb
  intro G H x y v u k Q ⟨ob, oi, tr, bg⟩ h hx hy q
  cases x <;> try exact (show False from h).elim
  · cases y <;> try exact (show False from h).elim
    exact .inl ⟨_, _, hx, hy, h.1, q _ _ _ h.2 (.refl bg) rfl⟩
  · cases y <;> try exact (show False from h).elim
    obtain ⟨a, xs, rfl, n, ha, hd⟩ := hx
    obtain ⟨⟨b1, b2⟩, hz, h⟩ := h
    refine .inr ⟨a, _, xs, rfl, hy, ha, b1, b2, by rw [← hd.len]; exact hz, fun p hp => ?_⟩
    have ev : ∀ {o : HO}, Evo G G H (upd H p o) := fun {o} => ⟨fun a o n h => (Ext.new bg hp).lk (fun z => n (by rw [z]; exact ob)) h, tr, fun _ n _ => n, rfl, rfl⟩
    exact q _ _ _ h (Ext.new bg hp) ⟨p, _, rfl, fun z => by have m := tr p z; rw [hp] at m; exact m, upd_same, ev.dts _ _ (hd.rep _)⟩
theorem d_add (ha : PE X a (lift F ta)) (hb : PE X b (lift F tb)) (hK : X.K = F.K := by rfl) : PE X (.BinOp a .Add b pos) (lift F (binT addD ta tb)) := by
  refine d_bin (op_add.or (op_add_ib.or (op_add_str.or (op_cat.or op_catA)))) ?_ ha hb
  intro G H x y v u k Q ⟨ob, oi, tr, bg⟩ h hx hy q
  have free : ∀ {p : Addr}, H p = none → ¬ G.own p := fun hp z => by
    have m := tr _ z
    rw [hp] at m; exact m
  have evn : ∀ {p : Addr} {o : HO}, H p = none → Evo G G H (upd H p o) := fun {p o} hp =>
    have e : Ext G H (upd H p o) := Ext.new bg hp
    ⟨fun a o n h => e.lk (fun z => n (by rw [z]; exact ob)) h, tr, fun _ n _ => n, rfl, rfl⟩
  cases x <;> try exact (show False from h).elim
  · cases y <;> try exact (show False from h).elim
    · exact .inr (.inl ⟨_, _, hx, hy, q _ _ _ h (.refl bg) rfl⟩)
    · exact .inl ⟨_, _, hx, hy, q _ _ _ h (.refl bg) rfl⟩
  · cases y <;> try exact (show False from h).elim
    exact .inr (.inr (.inl ⟨_, _, hx, hy, h.1, q _ _ _ h.2 (.refl bg) rfl⟩))
  · cases y <;> try exact (show False from h).elim
    obtain ⟨a, xs, rfl, n, ha, hd⟩ := hx
    obtain ⟨a', xs', rfl, n', ha', hd'⟩ := hy
    refine .inr (.inr (.inr (.inl ⟨a, a', xs, xs', rfl, rfl, ha, ha', by rw [← hd.len, ← hd'.len]; exact h.1, fun p hp => ?_⟩)))
    exact q _ _ _ h.2 (Ext.new bg hp) ⟨p, _, rfl, free hp, upd_same, (evn hp).dts _ _ (hd.app hd')⟩
  · cases y <;> try exact (show False from h).elim
    obtain ⟨a, xs, rfl, ha, hd⟩ := hx
    obtain ⟨a', xs', rfl, ha', hd'⟩ := hy
    refine .inr (.inr (.inr (.inr ⟨a, a', xs, xs', rfl, rfl, .inl (.inl ha), .inl (.inl ha'), by rw [← hd.len, ← hd'.len]; exact h.1, fun e => ?_, fun _ e => ?_, fun _ _ p hp => ?_⟩)))
    · have l := hd.len
      rw [e] at l
      obtain rfl := List.length_eq_zero_iff.mp l
      exact q _ _ _ h.2 (.refl bg) ⟨a', xs', rfl, ha', hd'⟩
    · have l := hd'.len
      rw [e] at l
      obtain rfl := List.length_eq_zero_iff.mp l
      exact q _ _ _ h.2 (.refl bg) ⟨a, xs, rfl, ha, by rw [List.append_nil]; exact hd⟩
    · exact q _ _ _ h.2 (Ext.new bg hp) ⟨p, _, rfl, upd_same, (evn hp).dts _ _ (hd.app hd')⟩
end
end DL
set_option Elab.async false
set_option linter.all false
set_option maxRecDepth 100000
set_option maxHeartbeats 1000000
namespace DL
open PySem PySem.Spec PyProof.Rows L2
/-! ### defs that run where no repr runs -/
structure FnG (P : Program) (w : World) (K : PySem.W.Frag) (mg : Str → Option Value) (base : Heap) (CX : CXT) (k : Nat) (f : Addr) (fd : FuncData) (ps : List Str) (sp : Sp) : Prop where
  len : ∀ (vs : List V) (H : Hp) (Q : VK) (E : XK), sp vs H Q E → vs.length = ps.length
  run : ∀ (A : Around) (outer : List Env) (s : Shared) (H : Hp) (args : Args) (us : List Value) (vs : List V) (Q : VK) (E : XK), Room k A → A.guards = some [] →
    Env0 P w K mg base A outer s H → BindsTo s fd args (ps.zip us) → Vals vs us → sp vs H Q E →
    codeAny (model P w) A (.call (.ref f) args) (CR CX outer P w H s Q E) s
section
variable {P : Program} {w : World} {K : PySem.W.Frag} {mg : Str → Option Value} {base : Heap} {CX : CXT} {j k : Nat} {f : Addr} {fd : FuncData} {ps : List Str} {sp sp' : Sp}
theorem FnG.mono (F : FnG P w K mg base CX j f fd ps sp) (h : j ≤ k) : FnG P w K mg base CX k f fd ps sp :=
  ⟨F.len, fun A outer s H args us vs Q E r => F.run A outer s H args us vs Q E (r.mono h)⟩
theorem FnG.imp (F : FnG P w K mg base CX k f fd ps sp) (h : ∀ vs H Q E, sp' vs H Q E → sp vs H Q E) : FnG P w K mg base CX k f fd ps sp' :=
  ⟨fun vs H Q E q => F.len vs H Q E (h _ _ _ _ q), fun A outer s H args us vs Q E r g e b v q => F.run A outer s H args us vs Q E r g e b v (h _ _ _ _ q)⟩
theorem FnG.of (F : FnOk P w K mg base CX k f fd ps sp) : FnG P w K mg base CX k f fd ps sp :=
  ⟨F.len, fun A outer s H args us vs Q E r _ => F.run A outer s H args us vs Q E r⟩
/-- a def by its body -/
theorem fnG_of {name qual : Str} {params : Arguments} {body : List Stmt} {scope : Scope} {dV kV doc pm cdv ct oc : Value} {an od : Option Addr} {osl : Array (Option Value)} {N : List Str}
    (lk : K.lookup f = some ⟨oc, od, .func (PySem.W.fnOf name qual params body scope dV kV doc pm an cdv ct), osl⟩) (cd : PySem.W.codeIn K cdv qual = true) (S : FnScope N ps scope)
    (len : ∀ vs H Q E, sp vs H Q E → vs.length = ps.length)
    (hb : ∀ (A : Around) (outer : List Env) (s : Shared) (H : Hp) (vs : List V) (Q : VK) (E : XK), Room k (A.deeper (envOfC qual scope s.heap.objs.size f cdv)) → A.guards = some [] → sp vs H Q E →
      ∃ t, PSs (cxOf CX P w K mg base N qual scope f cdv A outer s H E) body t ∧ t { nx := fun _ H1 => Q .non H1, rt := Q } (start N vs) H) :
    FnG P w K mg base CX (k + 1) f (PySem.W.fnOf name qual params body scope dV kV doc pm an cdv ct) ps sp := by
  refine ⟨len, ?_⟩
  intro A outer s H args us vs Q E r g e b v q
  have n := len vs H Q E q
  have kin : K.In s.heap := e.mod.kin.keeps fun c o z => (e.bs c o z).1
  refine codeAny_call_function r.depth (kin _ _ lk) rfl S.co S.gen rfl (PySem.W.codeRec_of kin cd) (b _ _ _ _ ?_)
  refine wpAny_newFunctionEnv_cells S.kind (fun y hy => ?_) fun env he s1 x => ?_
  · obtain ⟨m, u⟩ := y
    rcases S.par m (List.of_mem_zip hy).1 with z | z
    · exact Or.inl z
    · exact Or.inr ⟨z, PySem.W.cellsFrom_some _ _ _ (Or.inl z)⟩
  · subst he
    refine ⟨(e.mod.nolimit.keeps fun c o z => (e.bs c o z).1).keeps x.toInCall.keep, codeAny_func ?_⟩
    obtain ⟨t, ht, hq⟩ := hb A outer s H vs Q E (r.deeper _) g q
    have I := inv_start (CX := CX) (E := E) S r.hd e n v x
    refine wpAny_mono (ht.run [] s1 (start N vs) H _ I hq) (fun fl s2 hs => ?_) fun _ _ z => z
    cases fl with
    | ret u =>
      obtain ⟨v', σ', H', J, rv, q'⟩ := hs
      exact ⟨v', H', J.os, J.bare, J.base, J.hok, rv, q'⟩
    | next =>
      obtain ⟨σ', H', J, q'⟩ := hs
      exact ⟨V.non, H', J.os, J.bare, J.base, J.hok, rfl, q'⟩
    | brk =>
      obtain ⟨_, _, _, z⟩ := hs
      exact False.elim z
    | cont =>
      obtain ⟨_, _, _, z⟩ := hs
      exact False.elim z
end
section
variable {X : Cx} {CX : CXT} {k : Nat} {f C : Addr} {fd : FuncData} {ps : List Str} {sp : Sp} {dvs : List V} {ds : List Value} {E : XK} {x m : Str} {p pos apos : Pos} {e o : Expr} {es : List Expr} {ta : TE} {t : TA}
theorem runG {pins : List (Addr × Obj)} {σ : L2.St} {H : Hp} {s : Shared} {Q : VK} {us : List Value} {vs : List V} (F : FnG X.prog X.w X.K X.mg X.base CX k f fd ps sp) (hr : Room k X.A) (hg : X.A.guards = some []) (hb : Binds X.K fd ps ds) (hd : Vals dvs ds) (hx : Passes CX X E)
    (I : Inv X pins σ H s) (r : Vals vs us) (h : sp (vs ++ dvs) H Q E) : wpAny (model X.prog X.w) X.A (call (.ref f) us) (EP X pins σ Q) X.xe s := by
  have q := r.append hd
  have n : (us ++ ds).length = ps.length := by rw [← q.length]; exact F.len _ _ _ _ h
  refine wpAny_call (codeAny_mono (F.run X.A X.stack s H ⟨us, []⟩ (us ++ ds) (vs ++ dvs) Q E hr hg I.env0 (hb s us I.kIn n) q h) fun z s' hz => ?_)
  cases z with
  | error w => exact hx pins σ H s w s' I hz
  | ok fl =>
    cases fl with
    | ret u => exact I.after hz
    | _ => exact False.elim hz
theorem peG_call (F : FnG X.prog X.w X.K X.mg X.base CX k f fd ps sp) (hr : Room k X.A) (hgd : X.A.guards = some []) (hg : Gl X x) (hm : X.mg x = some (.ref f)) (hk : PySem.W.keepIn X.K (.ref f) = true) (hb : Binds X.K fd ps ds) (hd : Vals dvs ds) (hx : Passes CX X E)
    (ha : PA X (e :: es) t) (hdb : (x == ("__debug__" : Str)) = false := by decide) (he : starEach (e :: es) X.env = (false, eval e X.env) :: starEach es X.env := by rfl) (hpl : (backTo pos (starEach es X.env)).any (·.1) = false := by rfl) :
    PE X (.Call (.Name x p) (e :: es) [] pos) (tCall sp dvs E t) := by
  constructor
  intro pins s σ H Q I h
  refine wpAny_Call_Name_kw (ld_glob I hg hm (PySem.W.callWith_K (h₀ := X.base) I.ok.mod.kin hk (thn (ha.run pos pins s σ H _ I h) fun us s1 q => ?_) he hpl) hdb)
  obtain ⟨vs, H1, I1, r, q⟩ := q
  exact ⟨I1.kIn, runG F hr hgd hb hd hx I1 r q⟩
end
/-! ### a def of data -/
noncomputable abbrev RD := List D → (D → Prop) → Prop
noncomputable def spD (K : PySem.W.Frag) (R : RD) : Sp := fun vs H Q _ => ∃ G ds k, GOk G H ∧ DtL K G H ds vs ∧ R ds k ∧ ∀ d v H', k d → Ext G H H' → Dt K G H' d v → Q v H'
noncomputable def callT (R : RD) (ta : TLD) : TD := fun ρ k => ta ρ fun ds => R ds k
/-- all that is asked of a def to call it -/
structure Cal (X : Cx) (n : Nat) (x : Str) (R : RD) : Prop where
  ex : ∃ (f : Addr) (fd : FuncData) (ps : List Str) (k : Nat), k ≤ n ∧ FnG X.prog X.w X.K X.mg X.base CX0 k f fd ps (spD X.K R) ∧ X.mg x = some (.ref f) ∧ PySem.W.keepIn X.K (.ref f) = true ∧ Binds X.K fd ps []
section
variable {X : Cx} {F : Fr} {n : Nat} {x : Str} {R : RD} {e : Expr} {es : List Expr} {ta : TLD} {p pos : Pos}
theorem d_call (c : Cal X n x R) (hr : Room n X.A) (hgd : X.A.guards = some []) (hg : Gl X x) (ha : PA X (e :: es) (liftA F ta)) (hK : X.K = F.K := by rfl) (hdb : (x == ("__debug__" : Str)) = false := by decide)
    (he : starEach (e :: es) X.env = (false, eval e X.env) :: starEach es X.env := by rfl) (hpl : (backTo pos (starEach es X.env)).any (·.1) = false := by rfl) : PE X (.Call (.Name x p) (e :: es) [] pos) (lift F (callT R ta)) := by
  obtain ⟨f, fd, ps, j, hj, fn, hm, hk, hb⟩ := c.ex
  refine pe_imp (peG_call fn (hr.mono hj) hgd hg hm hk hb .nil pass0 ha hdb he hpl) fun σ H Q ⟨G, ρ, k, r, h, q⟩ => ?_
  refine ⟨G, ρ, _, r, h, fun ds vs H1 h1 e1 d1 => ?_⟩
  have r1 := r.step e1
  show spD X.K R (vs ++ []) H1 Q E0
  rw [List.append_nil, hK]
  exact ⟨G, ds, k, r1.ok, d1, h1, fun d v H2 h2 e2 d2 => q d v H2 h2 (e1.trans e2) d2⟩
end
end DL
set_option Elab.async false
set_option linter.all false
set_option maxRecDepth 100000
set_option maxHeartbeats 1000000
namespace DL
open PySem L2
/-! ### data of the model's own kind -/
mutual
noncomputable def D.py : D → PyData
  | .non => .none
  | .bl b => .bool b
  | .int i => .int i
  | .str x => .str x
  | .lst ds => .list (D.pys ds)
  | .tup ds => .tuple (D.pys ds)
  | .dic _ _ => .dict []
  | .ins _ _ => .dict []
  | .glb _ => .dict []
  | .bag => .dict []
  | .lock _ _ => .dict []
  | .at _ d => D.py d
noncomputable def D.pys : List D → List PyData
  | [] => []
  | d :: ds => D.py d :: D.pys ds
end
theorem pys_map : ∀ ds : List D, D.pys ds = ds.map D.py
  | [] => by simp only [D.pys, List.map_nil]
  | d :: ds => by simp only [D.pys, List.map_cons, pys_map ds]
section
variable {K : PySem.W.Frag} {G : Gh} {H : Hp}
mutual
theorem Dt.dp : ∀ (d : D) (v : V), d.py.canLay0 = true → Dt K G H d v → Dp K H v d.py
  | .non, v, _, h => by
    obtain rfl : v = .non := h
    exact .non
  | .bl b, v, _, h => by
    obtain rfl : v = .bl b := h
    exact .bl b
  | .int b, v, _, h => by
    obtain rfl : v = .int b := h
    exact .int b
  | .str b, v, _, h => by
    obtain rfl : v = .str b := h
    exact .str b
  | .lst ds, v, c, h => by
    obtain ⟨a, xs, rfl, _, h3, h4⟩ := h
    exact .lst (SqL.of h3) (Dt.dps ds xs (by simpa only [D.py, PyData.canLay0] using c) h4)
  | .tup ds, v, c, h => by
    obtain ⟨a, xs, rfl, h3, h4⟩ := h
    exact .tup (.inl (.inl h3)) (Dt.dps ds xs (by simpa only [D.py, PyData.canLay0] using c) h4)
  | .dic t es, v, c, h => by simp [D.py, PyData.canLay0] at c
  | .ins C es, v, c, h => by simp [D.py, PyData.canLay0] at c
  | .glb _, v, c, h => by simp [D.py, PyData.canLay0] at c
  | .bag, v, c, h => by simp [D.py, PyData.canLay0] at c
  | .lock _ _, v, c, h => by simp [D.py, PyData.canLay0] at c
  | .at _ d, v, c, h => Dt.dp d v (by simpa only [D.py] using c) h.2
theorem Dt.dps : ∀ (ds : List D) (vs : List V), PyData.canLayAll0 (D.pys ds) = true → DtL K G H ds vs → DpAll K H vs (D.pys ds)
  | [], v, _, h => by
    obtain rfl : v = [] := h
    exact .nil
  | d :: ds, v, c, h => by
    obtain ⟨x, r, rfl, h1, h2⟩ := h
    simp only [D.pys, PyData.canLayAll0, Bool.and_eq_true] at c
    exact .cons (Dt.dp d x c.1 h1) (Dt.dps ds r c.2 h2)
end
end
/-- data that may be compared -/
noncomputable def eqOk (x y : D) : Prop := x.py.canLay0 = true ∧ y.py.canLay0 = true ∧ min x.py.depth y.py.depth ≤ 150
noncomputable def eqB : D → D → (Bool → Prop) → Prop
  | .str a, .str b, k => k (decide (a = b))
  | .int a, .int b, k => k (decide (a = b))
  | .bl a, .bl b, k => k (decide (a = b))
  | x, y, k => eqOk x y ∧ k (PyData.eqv x.py y.py)
noncomputable def eqD : OD := fun x y k => eqB x y fun b => k (.bl b)
noncomputable def neD : OD := fun x y k => eqB x y fun b => k (.bl (!b))
theorem eqB_cases {x y : D} {k : Bool → Prop} (h : eqB x y k) : (∃ a b, x = .str a ∧ y = .str b ∧ k (decide (a = b))) ∨ (∃ a b, x = .int a ∧ y = .int b ∧ k (decide (a = b))) ∨ (∃ a b, x = .bl a ∧ y = .bl b ∧ k (decide (a = b))) ∨
    (eqOk x y ∧ k (PyData.eqv x.py y.py)) := by
  cases x <;> cases y <;> first
    | exact .inl ⟨_, _, rfl, rfl, h⟩
    | exact .inr (.inl ⟨_, _, rfl, rfl, h⟩)
    | exact .inr (.inr (.inl ⟨_, _, rfl, rfl, h⟩))
    | exact .inr (.inr (.inr h))
noncomputable def rEqA (K : PySem.W.Frag) : R2 := fun x y H Q => rEq x y H Q ∨ ∃ d e, Dp K H x d ∧ Dp K H y e ∧ d.canLay0 = true ∧ e.canLay0 = true ∧ min d.depth e.depth ≤ 150 ∧ Q (.bl (PyData.eqv d e)) H
noncomputable def rNeA (K : PySem.W.Frag) : R2 := fun x y H Q => rNe x y H Q ∨ ∃ d e, Dp K H x d ∧ Dp K H y e ∧ d.canLay0 = true ∧ e.canLay0 = true ∧ min d.depth e.depth ≤ 150 ∧ Q (.bl (!PyData.eqv d e)) H
section
variable {X : Cx} {F : Fr} {n : Nat}
theorem u150 (hr : Room n X.A) : X.A.units + 150 < cLine := by have := hr.un; omega
theorem op_eqA (hr : Room n X.A) : OpR X (compareOp .Eq) (rEqA X.K) := by
  refine op_eq.or ?_
  intro pins s σ H x y v u Q I rx ry h
  obtain ⟨d, e, hd, he, cd, ce, hm, q⟩ := h
  obtain ⟨as, r1⟩ := Dp.reads I d x v hd rx
  obtain ⟨bs, r2⟩ := Dp.reads I e y u he ry
  exact SeqAt.compareEq_reads r1 r2 cd ce (by have := u150 hr; omega) ⟨.bl _, H, I, rfl, q⟩
theorem op_neA (hr : Room n X.A) : OpR X (compareOp .NotEq) (rNeA X.K) := by
  refine op_ne.or ?_
  intro pins s σ H x y v u Q I rx ry h
  obtain ⟨d, e, hd, he, cd, ce, hm, q⟩ := h
  obtain ⟨as, r1⟩ := Dp.reads I d x v hd rx
  obtain ⟨bs, r2⟩ := Dp.reads I e y u he ry
  exact SeqAt.compareNe_reads r1 r2 cd ce (by have := u150 hr; omega) ⟨.bl _, H, I, rfl, q⟩
theorem dec_of {α β : Type} {f : α → β} [DecidableEq α] [DecidableEq β] (hf : ∀ a b, f a = f b → a = b) (a b : α) : decide (f a = f b) = decide (a = b) := by
  by_cases h : a = b
  · subst h; simp
  · rw [decide_eq_false h, decide_eq_false fun z => h (hf a b z)]
theorem ok_eq : OkOp F (rEqA F.K) eqD := by
  intro G H x y v u k Q ⟨ob, oi, tr, bg⟩ h hx hy q
  rcases eqB_cases h with ⟨a, b, rfl, rfl, h⟩ | ⟨a, b, rfl, rfl, h⟩ | ⟨a, b, rfl, rfl, h⟩ | ⟨⟨h1, h2, h3⟩, h⟩
  · obtain rfl : v = .str a := hx
    obtain rfl : u = .str b := hy
    exact .inl ⟨rfl, by rw [dec_of fun _ _ z => V.str.inj z]; exact q _ _ _ h (.refl bg) rfl⟩
  · obtain rfl : v = .int a := hx
    obtain rfl : u = .int b := hy
    exact .inl ⟨rfl, by rw [dec_of fun _ _ z => V.int.inj z]; exact q _ _ _ h (.refl bg) rfl⟩
  · obtain rfl : v = .bl a := hx
    obtain rfl : u = .bl b := hy
    exact .inl ⟨rfl, by rw [dec_of fun _ _ z => V.bl.inj z]; exact q _ _ _ h (.refl bg) rfl⟩
  · exact .inr ⟨_, _, Dt.dp x v h1 hx, Dt.dp y u h2 hy, h1, h2, h3, q _ _ _ h (.refl bg) rfl⟩
theorem ok_ne : OkOp F (rNeA F.K) neD := by
  intro G H x y v u k Q ⟨ob, oi, tr, bg⟩ h hx hy q
  rcases eqB_cases h with ⟨a, b, rfl, rfl, h⟩ | ⟨a, b, rfl, rfl, h⟩ | ⟨a, b, rfl, rfl, h⟩ | ⟨⟨h1, h2, h3⟩, h⟩
  · obtain rfl : v = .str a := hx
    obtain rfl : u = .str b := hy
    exact .inl ⟨rfl, by rw [dec_of fun _ _ z => V.str.inj z]; exact q _ _ _ h (.refl bg) rfl⟩
  · obtain rfl : v = .int a := hx
    obtain rfl : u = .int b := hy
    exact .inl ⟨rfl, by rw [dec_of fun _ _ z => V.int.inj z]; exact q _ _ _ h (.refl bg) rfl⟩
  · obtain rfl : v = .bl a := hx
    obtain rfl : u = .bl b := hy
    exact .inl ⟨rfl, by rw [dec_of fun _ _ z => V.bl.inj z]; exact q _ _ _ h (.refl bg) rfl⟩
  · exact .inr ⟨_, _, Dt.dp x v h1 hx, Dt.dp y u h2 hy, h1, h2, h3, q _ _ _ h (.refl bg) rfl⟩
end
/-! ### x in y: lists, tuples -/
noncomputable def inOk (x : D) (ys : List D) : Prop := x.py.canLay0 = true ∧ PyData.canLayAll0 (D.pys ys) = true ∧ x.py.depth ≤ 140
noncomputable def inB (x y : D) (k : Bool → Prop) : Prop := match y with
  | .lst ys => inOk x ys ∧ k (ys.any fun z => PyData.eqv z.py x.py)
  | .tup ys => inOk x ys ∧ k (ys.any fun z => PyData.eqv z.py x.py)
  | _ => False
noncomputable def inD : OD := fun x y k => inB x y fun b => k (.bl b)
noncomputable def notInD : OD := fun x y k => inB x y fun b => k (.bl (!b))
noncomputable def rInA (K : PySem.W.Frag) (neg : Bool) : R2 := fun x y H Q => ∃ d ds, Dp K H x d ∧ (Dp K H y (.list ds) ∨ Dp K H y (.tuple ds)) ∧ d.canLay0 = true ∧ PyData.canLayAll0 ds = true ∧ d.depth ≤ 140 ∧
  Q (.bl (if neg then !ds.any fun z => PyData.eqv z d else ds.any fun z => PyData.eqv z d)) H
section
variable {X : Cx} {F : Fr} {n : Nat}
theorem op_inA (hr : Room n X.A) : OpR X (compareOp .In) (rInA X.K false) := by
  intro pins s σ H x y v u Q I rx ry h
  obtain ⟨d, ds, hd, he, cd, ce, hm, q⟩ := h
  obtain ⟨as, r1⟩ := Dp.reads I d x v hd rx
  have hu : X.A.units + 1 + min (PyData.depthAll ds) d.depth < cLine := by have := u150 hr; omega
  rcases he with he | he
  · obtain ⟨bs, r2⟩ := Dp.reads I _ y u he ry
    exact SeqAt.in_list_reads r2 r1 ce cd hu ⟨.bl _, H, I, rfl, q⟩
  · obtain ⟨bs, r2⟩ := Dp.reads I _ y u he ry
    exact SeqAt.in_tuple_reads r2 r1 ce cd hu ⟨.bl _, H, I, rfl, q⟩
theorem op_notInA (hr : Room n X.A) : OpR X (compareOp .NotIn) (rInA X.K true) := by
  intro pins s σ H x y v u Q I rx ry h
  obtain ⟨d, ds, hd, he, cd, ce, hm, q⟩ := h
  obtain ⟨as, r1⟩ := Dp.reads I d x v hd rx
  have hu : X.A.units + 1 + min (PyData.depthAll ds) d.depth < cLine := by have := u150 hr; omega
  rcases he with he | he
  · obtain ⟨bs, r2⟩ := Dp.reads I _ y u he ry
    exact SeqAt.notIn_list_reads r2 r1 ce cd hu ⟨.bl _, H, I, rfl, q⟩
  · obtain ⟨bs, r2⟩ := Dp.reads I _ y u he ry
    exact SeqAt.notIn_tuple_reads r2 r1 ce cd hu ⟨.bl _, H, I, rfl, q⟩
theorem any_pys (f : PyData → Bool) (ys : List D) : (D.pys ys).any f = ys.any fun z => f z.py := by rw [pys_map, List.any_map]; rfl
theorem ok_in : OkOp F (rInA F.K false) inD := by
  intro G H x y v u k Q ⟨ob, oi, tr, bg⟩ h hx hy q
  cases y with
  | lst ys =>
    obtain ⟨⟨h1, h2, h3⟩, h⟩ := h
    have e := Dt.dp (.lst ys) u (by simpa only [D.py, PyData.canLay0] using h2) hy
    refine ⟨_, _, Dt.dp x v h1 hx, .inl e, h1, h2, h3, ?_⟩
    rw [any_pys]
    exact q _ _ _ h (.refl bg) rfl
  | tup ys =>
    obtain ⟨⟨h1, h2, h3⟩, h⟩ := h
    have e := Dt.dp (.tup ys) u (by simpa only [D.py, PyData.canLay0] using h2) hy
    refine ⟨_, _, Dt.dp x v h1 hx, .inr e, h1, h2, h3, ?_⟩
    rw [any_pys]
    exact q _ _ _ h (.refl bg) rfl
  | _ => exact (show False from h).elim
theorem ok_notIn : OkOp F (rInA F.K true) notInD := by
  intro G H x y v u k Q ⟨ob, oi, tr, bg⟩ h hx hy q
  cases y with
  | lst ys =>
    obtain ⟨⟨h1, h2, h3⟩, h⟩ := h
    have e := Dt.dp (.lst ys) u (by simpa only [D.py, PyData.canLay0] using h2) hy
    refine ⟨_, _, Dt.dp x v h1 hx, .inl e, h1, h2, h3, ?_⟩
    rw [any_pys]
    exact q _ _ _ h (.refl bg) rfl
  | tup ys =>
    obtain ⟨⟨h1, h2, h3⟩, h⟩ := h
    have e := Dt.dp (.tup ys) u (by simpa only [D.py, PyData.canLay0] using h2) hy
    refine ⟨_, _, Dt.dp x v h1 hx, .inr e, h1, h2, h3, ?_⟩
    rw [any_pys]
    exact q _ _ _ h (.refl bg) rfl
  | _ => exact (show False from h).elim
end
theorem of_tt {A B : Prop} (h : if true = true then A else B) : A := (if_pos (c := true = true) rfl).mp h
theorem of_ff {A B : Prop} (h : if false = true then A else B) : B := (if_neg Bool.false_ne_true).mp h
/-! ### truth; and, or, not; a if t else b -/
noncomputable def truD : D → (Bool → Prop) → Prop
  | .non, k => k false
  | .bl b, k => k b
  | .int i, k => k (i != 0)
  | .str x, k => x.length ≤ sizeLine ∧ k ((x.length : Int) != 0)
  | .lst ds, k => k (!ds.isEmpty)
  | .tup ds, k => k (!ds.isEmpty)
  | _, _ => False
theorem truD_ok {K : PySem.W.Frag} {G : Gh} {H : Hp} {d : D} {v : V} {k : Bool → Prop} (h : truD d k) (hd : Dt K G H d v) : ∃ b, TruV K v H b ∧ k b := by
  cases d with
  | non =>
    obtain rfl : v = .non := hd
    exact ⟨false, rfl, h⟩
  | bl b =>
    obtain rfl : v = .bl b := hd
    exact ⟨b, rfl, h⟩
  | int i =>
    obtain rfl : v = .int i := hd
    exact ⟨_, rfl, h⟩
  | str x =>
    obtain rfl : v = .str x := hd
    exact ⟨_, ⟨h.1, rfl⟩, h.2⟩
  | lst ds =>
    obtain ⟨a, xs, rfl, _, ha, hl⟩ := hd
    refine ⟨_, .inl ⟨xs, SqL.of ha, rfl⟩, ?_⟩
    cases ds <;> cases xs <;> first | exact h | (have := hl.len; simp at this)
  | tup ds =>
    obtain ⟨a, xs, rfl, ha, hl⟩ := hd
    refine ⟨_, .inr (.inl ⟨xs, .inl (.inl ha), rfl⟩), ?_⟩
    cases ds <;> cases xs <;> first | exact h | (have := hl.len; simp at this)
  | _ => exact (show False from h).elim
noncomputable def andT (ta tb : TD) : TD := fun ρ k => ta ρ fun x => truD x fun b => if b = true then tb ρ k else k x
noncomputable def orT (ta tb : TD) : TD := fun ρ k => ta ρ fun x => truD x fun b => if b = true then k x else tb ρ k
noncomputable def notT (ta : TD) : TD := fun ρ k => ta ρ fun x => truD x fun b => k (.bl (!b))
noncomputable def ifT (t : TBD) (ta tb : TD) : TD := fun ρ k => t ρ fun b => if b = true then ta ρ k else tb ρ k
noncomputable def andB (t u : TBD) : TBD := fun ρ k => t ρ fun b => if b = true then u ρ k else k false
noncomputable def orB (t u : TBD) : TBD := fun ρ k => t ρ fun b => if b = true then k true else u ρ k
noncomputable def notB (t : TBD) : TBD := fun ρ k => t ρ fun b => k (!b)
noncomputable def truT (ta : TD) : TBD := fun ρ k => ta ρ fun x => truD x k
theorem pw_imp {X : Cx} {e : Expr} {t t' : TT} (h : PW X e t) (i : ∀ σ H Q, t' σ H Q → t σ H Q) : PW X e t' := ⟨fun wh pins s σ H Q I w => h.run wh pins s σ H Q I (i _ _ _ w)⟩
section
variable {X : Cx} {F : Fr} {a b c : Expr} {rest : List Expr} {ta tb : TD} {tA tB : TBD} {pos : Pos}
theorem d_one {op : BoolOp} (h : PE X a (lift F ta)) : PE X (.BoolOp op [a] pos) (lift F ta) := pe_one h
theorem d_and (ha : PE X a (lift F ta)) (hb : PE X (.BoolOp .And (b :: rest) pos) (lift F tb)) (hK : X.K = F.K := by rfl) : PE X (.BoolOp .And (a :: b :: rest) pos) (lift F (andT ta tb)) := by
  refine pe_imp (pe_andT ha hb) fun σ H Q ⟨G, ρ, k, r, h, q⟩ => ⟨G, ρ, _, r, h, fun d v H1 h1 e1 d1 => ?_⟩
  obtain ⟨c, hc, h1⟩ := truD_ok h1 d1
  refine ⟨c, hK ▸ hc, ?_⟩
  cases c with
  | true => exact iteT ⟨G, ρ, k, r.step e1, of_tt h1, fun d v H2 h2 e2 d2 => q d v H2 h2 (e1.trans e2) d2⟩
  | false => exact iteF (q d v H1 (of_ff h1) e1 d1)
theorem d_not (ha : PE X a (lift F ta)) (hK : X.K = F.K := by rfl) : PE X (.UnaryOp .Not a pos) (lift F (notT ta)) := by
  refine pe_imp (pe_notT ha) fun σ H Q ⟨G, ρ, k, r, h, q⟩ => ⟨G, ρ, _, r, h, fun d v H1 h1 e1 d1 => ?_⟩
  obtain ⟨c, hc, h1⟩ := truD_ok h1 d1
  exact ⟨c, hK ▸ hc, q _ _ _ h1 e1 rfl⟩
theorem d_if (hc : PT X c (liftT F tA)) (ha : PE X a (lift F ta)) (hb : PE X b (lift F tb)) : PE X (.IfExp c a b pos) (lift F (ifT tA ta tb)) := by
  refine pe_imp (pe_ifExp hc ha hb) fun σ H Q ⟨G, ρ, k, r, h, q⟩ => ⟨G, ρ, _, r, h, fun d H1 h1 e1 => ?_⟩
  cases d with
  | true => exact iteT ⟨G, ρ, k, r.step e1, of_tt h1, fun d v H2 h2 e2 d2 => q d v H2 h2 (e1.trans e2) d2⟩
  | false => exact iteF ⟨G, ρ, k, r.step e1, of_ff h1, fun d v H2 h2 e2 d2 => q d v H2 h2 (e1.trans e2) d2⟩
theorem t_tru (ha : PE X a (lift F ta)) (he : ∀ whole, isTrue a X.env whole = (do let v ← whole; standAt a.pos; holding [v] (truthy v)) := by intro _; rfl) (hK : X.K = F.K := by rfl) : PT X a (liftT F (truT ta)) := by
  refine pt_imp (pt_truth ha he) fun σ H Q ⟨G, ρ, k, r, h, q⟩ => ⟨G, ρ, _, r, h, fun d v H1 h1 e1 d1 => ?_⟩
  obtain ⟨c, hc, h1⟩ := truD_ok h1 d1
  exact ⟨c, hK ▸ hc, q c H1 h1 e1⟩
theorem w_and1 (ha : PT X a (liftT F tA)) : PW X (.BoolOp .And [a] pos) (liftT F tA) := pw_and1 ha
theorem w_or1 (ha : PT X a (liftT F tA)) : PW X (.BoolOp .Or [a] pos) (liftT F tA) := pw_or1 ha
theorem w_and (ha : PT X a (liftT F tA)) (hb : PW X (.BoolOp .And (b :: rest) pos) (liftT F tB)) : PW X (.BoolOp .And (a :: b :: rest) pos) (liftT F (andB tA tB)) := by
  refine pw_imp (pw_and ha hb) fun σ H Q ⟨G, ρ, k, r, h, q⟩ => ⟨G, ρ, _, r, h, fun d H1 h1 e1 => ?_⟩
  cases d with
  | true => exact iteT ⟨G, ρ, k, r.step e1, of_tt h1, fun d H2 h2 e2 => q d H2 h2 (e1.trans e2)⟩
  | false => exact iteF (q _ H1 (of_ff h1) e1)
theorem w_or (ha : PT X a (liftT F tA)) (hb : PW X (.BoolOp .Or (b :: rest) pos) (liftT F tB)) : PW X (.BoolOp .Or (a :: b :: rest) pos) (liftT F (orB tA tB)) := by
  refine pw_imp (pw_or ha hb) fun σ H Q ⟨G, ρ, k, r, h, q⟩ => ⟨G, ρ, _, r, h, fun d H1 h1 e1 => ?_⟩
  cases d with
  | false => exact iteF ⟨G, ρ, k, r.step e1, of_ff h1, fun d H2 h2 e2 => q d H2 h2 (e1.trans e2)⟩
  | true => exact iteT (q _ H1 (of_tt h1) e1)
theorem t_not (ha : PT X a (liftT F tA)) : PT X (.UnaryOp .Not a pos) (liftT F (notB tA)) :=
  pt_imp (pt_not ha) fun σ H Q ⟨G, ρ, k, r, h, q⟩ => ⟨G, ρ, _, r, h, fun d H1 h1 e1 => q _ H1 h1 e1⟩
end
end DL
set_option Elab.async false
set_option linter.all false
set_option maxRecDepth 100000
set_option maxHeartbeats 1000000
namespace DL
open PySem L2
/-! ### subscripts -/
section
variable {K : PySem.W.Frag} {G : Gh} {H : Hp}
theorem DtL.get : ∀ {ds : List D} {vs : List V} {i : Nat} {d : D}, DtL K G H ds vs → ds[i]? = some d → ∃ v, vs[i]? = some v ∧ Dt K G H d v
  | [], _, i, d, _, e => by simp at e
  | a :: ds, vs, 0, d, h, e => by
    obtain ⟨x, r, rfl, h1, h2⟩ := h
    simp at e; subst e
    exact ⟨x, rfl, h1⟩
  | a :: ds, vs, i + 1, d, h, e => by
    obtain ⟨x, r, rfl, h1, h2⟩ := h
    obtain ⟨v, e1, e2⟩ := DtL.get (i := i) h2 (by simpa using e)
    exact ⟨v, by simpa using e1, e2⟩
theorem DtL.get' {ds : List D} {vs : List V} {i : Nat} {v : V} (h : DtL K G H ds vs) (e : vs[i]? = some v) : ∃ d, ds[i]? = some d ∧ Dt K G H d v := by
  have hi : i < ds.length := by rw [h.len]; exact (List.getElem?_eq_some_iff.mp e).1
  obtain ⟨v', e1, e2⟩ := h.get (List.getElem?_eq_getElem hi)
  rw [e] at e1
  obtain rfl := Option.some.inj e1
  exact ⟨_, List.getElem?_eq_getElem hi, e2⟩
theorem DtL.atI {ds : List D} {vs : List V} {i : Int} {d : D} (h : DtL K G H ds vs) (e : L2.atI ds i = some d) : ∃ v, L2.atI vs i = some v ∧ Dt K G H d v := by
  unfold L2.atI at e ⊢
  rw [← h.len]
  cases q : ixN ds.length i with
  | none => rw [q] at e; cases e
  | some j =>
    rw [q] at e
    exact h.get e
theorem DtL.drop : ∀ {ds : List D} {vs : List V} (n : Nat), DtL K G H ds vs → DtL K G H (ds.drop n) (vs.drop n)
  | ds, vs, 0, h => h
  | [], vs, n + 1, h => by
    obtain rfl : vs = [] := h
    exact rfl
  | d :: ds, vs, n + 1, h => by
    obtain ⟨x, r, rfl, h1, h2⟩ := h
    exact DtL.drop n h2
theorem DtL.take : ∀ {ds : List D} {vs : List V} (n : Nat), DtL K G H ds vs → DtL K G H (ds.take n) (vs.take n)
  | ds, vs, 0, h => rfl
  | [], vs, n + 1, h => by
    obtain rfl : vs = [] := h
    exact rfl
  | d :: ds, vs, n + 1, h => by
    obtain ⟨x, r, rfl, h1, h2⟩ := h
    exact ⟨x, _, rfl, h1, DtL.take n h2⟩
end
noncomputable def optK {α : Type} (o : Option α) (k : α → Prop) : Prop := ∃ a, o = some a ∧ k a
noncomputable def ixD : OD
  | .lst ds, .int i, k => optK (L2.atI ds i) k
  | .tup ds, .int i, k => optK (L2.atI ds i) k
  | .str z, .int i, k => z.length ≤ sizeLine ∧ optK (L2.atI z.cps.toList i) fun c => k (.str ⟨#[c]⟩)
  | _, _, _ => False
section
variable {X : Cx} {F : Fr} {a b : Expr} {ta tb : TD} {pos : Pos}
theorem ok_ix (hK : X.K = F.K) : OkOp F (rIx X.K) ixD := by
  intro G H x y v u k Q ⟨ob, oi, tr, bg⟩ h hx hy q
  rw [hK]
  cases x <;> try exact (show False from h).elim
  · cases y <;> try exact (show False from h).elim
    obtain ⟨e, h⟩ := h
    obtain rfl := hx
    obtain rfl := hy
    obtain ⟨c, hc, h⟩ := h
    exact .inr (.inr ⟨_, _, c, rfl, rfl, e, hc, q _ _ _ h (.refl bg) rfl⟩)
  · cases y <;> try exact (show False from h).elim
    obtain ⟨p, xs, rfl, n, hp, hl⟩ := hx
    obtain rfl := hy
    obtain ⟨d, hd, h⟩ := h
    obtain ⟨w, e1, e2⟩ := hl.atI hd
    exact .inl ⟨p, xs, _, w, rfl, rfl, SqL.of hp, e1, q _ _ _ h (.refl bg) e2⟩
  · cases y <;> try exact (show False from h).elim
    obtain ⟨p, xs, rfl, hp, hl⟩ := hx
    obtain rfl := hy
    obtain ⟨d, hd, h⟩ := h
    obtain ⟨w, e1, e2⟩ := hl.atI hd
    exact .inr (.inl ⟨p, xs, _, w, rfl, rfl, .inl (.inl hp), e1, q _ _ _ h (.refl bg) e2⟩)
theorem d_ix (ha : PE X a (lift F ta)) (hb : PE X b (lift F tb)) (hs : PlainIx b := by intro _ _; rfl) (hK : X.K = F.K := by rfl) : PE X (.Subscript a b pos) (lift F (binT ixD ta tb)) :=
  pe_imp (pe_ix ix_seq ha hb hs) (opT (ok_ix hK))
end
/-! ### slices -/
noncomputable abbrev TO2 := List Sl → (Option Int → Prop) → Prop
noncomputable def liftO (F : Fr) (T : TO2) : TO := fun σ H Q => ∃ G ρ k, Rel F G H σ ρ ∧ T ρ k ∧ ∀ o H', k o → Ext G H H' → Q o H'
noncomputable def noneO : TO2 := fun _ k => k none
noncomputable def someO (t : TD) : TO2 := fun ρ k => t ρ fun d => match d with
  | .int i => k (some i)
  | _ => False
noncomputable def cutL {α : Type} (xs : List α) (lo hi : Option Int) : List α := (xs.drop (HT.sIx xs.length 0 lo)).take (HT.sIx xs.length xs.length hi - HT.sIx xs.length 0 lo)
noncomputable def slT (o : D → Option Int → Option Int → (D → Prop) → Prop) (t : TD) (l u : TO2) : TD := fun ρ k => t ρ fun x => l ρ fun lo => u ρ fun hi => o x lo hi k
noncomputable def slD : D → Option Int → Option Int → (D → Prop) → Prop
  | .lst ds, lo, hi, k => k (.lst (cutL ds lo hi))
  | .tup ds, lo, hi, k => k (.tup (cutL ds lo hi))
  | .str z, lo, hi, k => z.length ≤ sizeLine ∧ k (.str (cutS z lo hi))
  | _, _, _, _ => False
theorem cutL_all {α : Type} {xs : List α} {lo hi : Option Int} (h : HT.sIx xs.length 0 lo = 0 ∧ HT.sIx xs.length xs.length hi = xs.length) : cutL xs lo hi = xs := by
  unfold cutL
  rw [h.1, h.2]
  simp
section
variable {X : Cx} {F : Fr} {e : Expr} {te : TD} {lo hi : Option Expr} {tl th : TO2} {p2 pos : Pos}
theorem o_none : PO X none (liftO F noneO) := ⟨fun pins s σ H Q I ⟨G, ρ, k, r, h, q⟩ => po_none.run pins s σ H Q I (q none H h (.refl r.bag))⟩
theorem o_some {x : Expr} {tx : TD} (h : PE X x (lift F tx)) : PO X (some x) (liftO F (someO tx)) := by
  refine ⟨fun pins s σ H Q I ⟨G, ρ, k, r, w, q⟩ => (po_some h).run pins s σ H Q I ⟨G, ρ, _, r, w, fun d v H1 h1 e1 d1 => ?_⟩⟩
  cases d with
  | int i => exact ⟨i, d1, q _ H1 h1 e1⟩
  | _ => exact (show False from h1).elim
theorem DtL.cut {K : PySem.W.Frag} {G : Gh} {H : Hp} {ds : List D} {vs : List V} (h : DtL K G H ds vs) : DtL K G H (cutL ds lo' hi') (cutV vs lo' hi') := by
  unfold cutL cutV
  rw [h.len]
  exact (h.drop _).take _
theorem d_slice (he : PE X e (lift F te)) (hl : PO X lo (liftO F tl)) (hu : PO X hi (liftO F th)) (hK : X.K = F.K := by rfl) : PE X (.Subscript e (.Slice lo hi none p2) pos) (lift F (slT slD te tl th)) := by
  refine pe_imp (pe_slice (sl_list.or (sl_tupA.or sl_str)) he hl hu) fun σ H Q ⟨G, ρ, k, r, h, q⟩ => ⟨G, ρ, _, r, h, fun d v H1 h1 e1 d1 => ?_⟩
  refine ⟨G, ρ, _, r.step e1, h1, fun lo' H2 h2 e2 => ?_⟩
  refine ⟨G, ρ, _, (r.step e1).step e2, h2, fun hi' H3 h3 e3 => ?_⟩
  have r2 := r.step e1
  have d3 := (r2.evo (e2.trans e3)).dt d v d1
  have r3 := r2.step (e2.trans e3)
  have e13 := e1.trans (e2.trans e3)
  cases d <;> try exact (show False from h3).elim
  · obtain rfl := d3
    exact .inr (.inr ⟨_, rfl, h3.1, q _ _ _ h3.2 e13 rfl⟩)
  · obtain ⟨a, xs, rfl, n, ha, hl⟩ := d3
    refine .inl ⟨a, xs, rfl, SqL.of ha, fun p hp => ?_⟩
    have e4 : Ext G H3 (upd H3 p (.lst (cutV xs lo' hi'))) := Ext.new r3.bag hp
    exact q _ _ _ h3 (e13.trans e4) ⟨p, _, rfl, r3.free hp, upd_same, (r3.evo e4).dts _ _ hl.cut⟩
  · obtain ⟨a, xs, rfl, ha, hl⟩ := d3
    refine .inr (.inl ⟨a, xs, rfl, .inl (.inl ha), fun w => ?_, fun _ p hp => ?_⟩)
    · rw [← hl.len] at w
      refine q _ _ _ h3 e13 ⟨a, xs, rfl, ha, ?_⟩
      rw [cutL_all w]; exact hl
    · have e4 : Ext G H3 (upd H3 p (.tup (cutV xs lo' hi'))) := Ext.new r3.bag hp
      exact q _ _ _ h3 (e13.trans e4) ⟨p, _, rfl, upd_same, (r3.evo e4).dts _ _ hl.cut⟩
noncomputable def slF (t : TD) (l u : TO2) : TLD := fun ρ k => t ρ fun x => l ρ fun lo => u ρ fun hi => match x with
  | .lst ds => k (cutL ds lo hi)
  | _ => False
noncomputable def revF (t : TD) : TLD := fun ρ k => t ρ fun x => match x with
  | .lst ds => k ds.reverse
  | _ => False
end
/-! ### builtins by data -/
noncomputable def OkCall (F : Fr) (r : List V → Hp → VK → Prop) (o : RD) : Prop := ∀ (G : Gh) (H : Hp) (ds : List D) (vs : List V) (k : D → Prop) (Q : VK), GOk G H → o ds k → DtL F.K G H ds vs →
  (∀ d w H', k d → Ext G H H' → Dt F.K G H' d w → Q w H') → r vs H Q
section
variable {X : Cx} {F : Fr} {x : Str} {p pos : Pos} {e : Expr} {es : List Expr} {ta : TLD} {id T : String} {r : List V → Hp → VK → Prop} {o : RD}
theorem callbT (hr : OkCall F r o) : ∀ σ H Q, lift F (callT o ta) σ H Q → tCB r (liftA F ta) σ H Q := by
  intro σ H Q ⟨G, ρ, k, rl, h, q⟩
  refine ⟨G, ρ, _, rl, h, fun ds vs H1 h1 e1 d1 => ?_⟩
  have r1 := rl.step e1
  exact hr G H1 ds vs k Q r1.ok h1 d1 fun d w H2 h2 e2 d2 => q d w H2 h2 (e1.trans e2) d2
theorem d_callB (hc : CallR X (.builtin id) r) (hr : OkCall F r o) (hg : Gl X x) (hm : X.mg x = none) (hv : bootBuiltins x = some (.builtin id)) (ha : PA X (e :: es) (liftA F ta)) (hn : x ≠ "__name__" := by decide) (hdb : (x == ("__debug__" : Str)) = false := by decide)
    (he : starEach (e :: es) X.env = (false, eval e X.env) :: starEach es X.env := by rfl) (hpl : (backTo pos (starEach es X.env)).any (·.1) = false := by rfl) : PE X (.Call (.Name x p) (e :: es) [] pos) (lift F (callT o ta)) :=
  pe_imp (pe_callB hc hg hm hv ha hn hdb he hpl) (callbT hr)
theorem d_callTy (hc : CallR X (.type T) r) (hr : OkCall F r o) (hg : Gl X x) (hm : X.mg x = none) (hv : bootBuiltins x = some (.type T)) (ha : PA X (e :: es) (liftA F ta)) (hn : x ≠ "__name__" := by decide) (hdb : (x == ("__debug__" : Str)) = false := by decide)
    (he : starEach (e :: es) X.env = (false, eval e X.env) :: starEach es X.env := by rfl) (hpl : (backTo pos (starEach es X.env)).any (·.1) = false := by rfl) : PE X (.Call (.Name x p) (e :: es) [] pos) (lift F (callT o ta)) :=
  pe_imp (pe_callTy hc hg hm hv ha hn hdb he hpl) (callbT hr)
end
theorem dl1 {K : PySem.W.Frag} {G : Gh} {H : Hp} {d : D} {vs : List V} (h : DtL K G H [d] vs) : ∃ v, vs = [v] ∧ Dt K G H d v := by
  obtain ⟨x, r, rfl, h1, h2⟩ := h
  obtain rfl : r = [] := h2
  exact ⟨x, rfl, h1⟩
theorem dl2 {K : PySem.W.Frag} {G : Gh} {H : Hp} {d d' : D} {vs : List V} (h : DtL K G H [d, d'] vs) : ∃ v v', vs = [v, v'] ∧ Dt K G H d v ∧ Dt K G H d' v' := by
  obtain ⟨x, r, rfl, h1, h2⟩ := h
  obtain ⟨v, rfl, h3⟩ := dl1 h2
  exact ⟨x, v, rfl, h1, h3⟩
noncomputable def lenR : RD
  | [.str x], k => x.length ≤ sizeLine ∧ k (.int x.length)
  | [.lst ds], k => k (.int ds.length)
  | [.tup ds], k => k (.int ds.length)
  | _, _ => False
noncomputable def intR : RD
  | [.int i], k => k (.int i)
  | [.bl b], k => k (.int (if b then 1 else 0))
  | _, _ => False
noncomputable def absR : RD
  | [.int i], k => k (.int (if i < 0 then -i else i))
  | _, _ => False
noncomputable def minR : RD
  | [.int i, .int j], k => k (.int (if j < i then j else i))
  | _, _ => False
noncomputable def maxR : RD
  | [.int i, .int j], k => k (.int (if j > i then j else i))
  | _, _ => False
noncomputable def tupR : RD
  | [.lst ds], k => k (.tup ds)
  | [.tup ds], k => k (.tup ds)
  | _, _ => False
noncomputable def allR : RD := fun ds k => ∃ bs : List Bool, ds = [.lst (bs.map .bl)] ∧ k (.bl (bs.all _root_.id))
section
variable {X : Cx} {F : Fr}
theorem DtL.bls {K : PySem.W.Frag} {G : Gh} {H : Hp} : ∀ {bs : List Bool} {vs : List V}, DtL K G H (bs.map .bl) vs → vs = bs.map .bl
  | [], _, h => h
  | b :: bs, _, h => by
    obtain ⟨x, r, rfl, h1, h2⟩ := h
    obtain rfl := h1
    rw [DtL.bls h2]; rfl
theorem DtL.strs {K : PySem.W.Frag} {G : Gh} {H : Hp} : ∀ {bs : List Str} {vs : List V}, DtL K G H (bs.map .str) vs → vs = bs.map .str
  | [], _, h => h
  | b :: bs, _, h => by
    obtain ⟨x, r, rfl, h1, h2⟩ := h
    obtain rfl := h1
    rw [DtL.strs h2]; rfl
theorem ok_len (hK : X.K = F.K) : OkCall F (fun xs H Q => ∃ x n, xs = [x] ∧ LenV X.K x H n ∧ Q (.int n) H) lenR := by
  intro G H ds vs k Q ⟨ob, oi, tr, bg⟩ h hd q
  unfold lenR at h
  split at h
  · obtain ⟨v, rfl, hv⟩ := dl1 hd
    obtain rfl := hv
    exact ⟨_, _, rfl, ⟨h.1, rfl⟩, q _ _ _ h.2 (.refl bg) rfl⟩
  · obtain ⟨v, rfl, a, xs, rfl, n, ha, hl⟩ := dl1 hd
    exact ⟨_, _, rfl, .inl ⟨xs, SqL.of ha, hl.len⟩, q _ _ _ h (.refl bg) rfl⟩
  · obtain ⟨v, rfl, a, xs, rfl, ha, hl⟩ := dl1 hd
    exact ⟨_, _, rfl, .inr ⟨xs, .inl (.inl ha), hl.len⟩, q _ _ _ h (.refl bg) rfl⟩
  · exact h.elim
theorem ok_int : OkCall F (fun xs H Q => (∃ i, xs = [.int i] ∧ Q (.int i) H) ∨ ∃ k, xs = [.bl k] ∧ Q (.int (if k then 1 else 0)) H) intR := by
  intro G H ds vs k Q ⟨ob, oi, tr, bg⟩ h hd q
  unfold intR at h
  split at h
  · obtain ⟨v, rfl, hv⟩ := dl1 hd
    obtain rfl := hv
    exact .inl ⟨_, rfl, q _ _ _ h (.refl bg) rfl⟩
  · obtain ⟨v, rfl, hv⟩ := dl1 hd
    obtain rfl := hv
    exact .inr ⟨_, rfl, q _ _ _ h (.refl bg) rfl⟩
  · exact h.elim
theorem ok_min : OkCall F (fun xs H Q => ∃ i j, xs = [.int i, .int j] ∧ Q (.int (if j < i then j else i)) H) minR := by
  intro G H ds vs k Q ⟨ob, oi, tr, bg⟩ h hd q
  unfold minR at h
  split at h
  · obtain ⟨v, u, rfl, hv, hu⟩ := dl2 hd
    obtain rfl := hv
    obtain rfl := hu
    exact ⟨_, _, rfl, q _ _ _ h (.refl bg) rfl⟩
  · exact h.elim
theorem ok_tup (hK : X.K = F.K) : OkCall F (fun xs H Q => ∃ p ys, xs = [.ref p] ∧ ((SqL X.K H p ys ∧ ∀ l, H l = none → Q (.ref l) (upd H l (.tup ys))) ∨ (SqT X.K H p ys ∧ Q (.ref p) H))) tupR := by
  intro G H ds vs k Q ⟨ob, oi, tr, bg⟩ h hd q
  unfold tupR at h
  split at h
  · obtain ⟨v, rfl, a, xs, rfl, n, ha, hl⟩ := dl1 hd
    refine ⟨_, _, rfl, .inl ⟨SqL.of ha, fun l hl' => ?_⟩⟩
    have e : Ext G H (upd H l (.tup xs)) := Ext.new bg hl'
    have ev : Evo G G H (upd H l (.tup xs)) := ⟨fun a o n h => e.lk (fun z => n (by rw [z]; exact ob)) h, tr, fun _ n _ => n, rfl, rfl⟩
    exact q _ _ _ h e ⟨l, xs, rfl, upd_same, ev.dts _ _ hl⟩
  · obtain ⟨v, rfl, a, xs, rfl, ha, hl⟩ := dl1 hd
    exact ⟨_, _, rfl, .inr ⟨.inl (.inl ha), q _ _ _ h (.refl bg) ⟨a, xs, rfl, ha, hl⟩⟩⟩
  · exact h.elim
theorem ok_all (hK : X.K = F.K) : OkCall F (rAll X.K) allR := by
  intro G H ds vs k Q ⟨ob, oi, tr, bg⟩ h hd q
  obtain ⟨bs, rfl, h⟩ := h
  obtain ⟨v, rfl, a, xs, rfl, n, ha, hl⟩ := dl1 hd
  exact ⟨a, bs, rfl, by rw [← hl.bls]; exact SqL.of ha, q _ _ _ h (.refl bg) rfl⟩
end
section
variable {X : Cx} {F : Fr} {p pos : Pos} {e : Expr} {ta : TLD}
theorem d_len (hg : Gl X "len") (hm : X.mg "len" = none) (ha : PA X [e] (liftA F ta)) (he : starEach [e] X.env = (false, eval e X.env) :: starEach [] X.env := by rfl) (hK : X.K = F.K := by rfl) :
    PE X (.Call (.Name "len" p) [e] [] pos) (lift F (callT lenR ta)) := d_callB call_len (ok_len hK) hg hm PySem.boot_len ha (by decide) (by decide) he
theorem d_toint (hg : Gl X "int") (hm : X.mg "int" = none) (ha : PA X [e] (liftA F ta)) (he : starEach [e] X.env = (false, eval e X.env) :: starEach [] X.env := by rfl) :
    PE X (.Call (.Name "int" p) [e] [] pos) (lift F (callT intR ta)) := d_callTy call_int1 ok_int hg hm (by decide +kernel) ha (by decide) (by decide) he
theorem d_totup (hg : Gl X "tuple") (hm : X.mg "tuple" = none) (ha : PA X [e] (liftA F ta)) (he : starEach [e] X.env = (false, eval e X.env) :: starEach [] X.env := by rfl) (hK : X.K = F.K := by rfl) :
    PE X (.Call (.Name "tuple" p) [e] [] pos) (lift F (callT tupR ta)) := d_callTy call_tuple_of (ok_tup hK) hg hm (by decide +kernel) ha (by decide) (by decide) he
theorem d_all (hc : X.calm = true) (hg : Gl X "all") (hm : X.mg "all" = none) (ha : PA X [e] (liftA F ta)) (he : starEach [e] X.env = (false, eval e X.env) :: starEach [] X.env := by rfl) (hK : X.K = F.K := by rfl) :
    PE X (.Call (.Name "all" p) [e] [] pos) (lift F (callT allR ta)) := d_callB (cr_all hc) (ok_all hK) hg hm (by decide +kernel) ha (by decide) (by decide) he
theorem d_min {e2 : Expr} (hc : X.calm = true) (hg : Gl X "min") (hm : X.mg "min" = none) (ha : PA X [e, e2] (liftA F ta)) (he : starEach [e, e2] X.env = (false, eval e X.env) :: starEach [e2] X.env := by rfl) (hpl : (backTo pos (starEach [e2] X.env)).any (·.1) = false := by rfl) :
    PE X (.Call (.Name "min" p) [e, e2] [] pos) (lift F (callT minR ta)) := d_callB (call_min2 hc) ok_min hg hm (by decide +kernel) ha (by decide) (by decide) he hpl
/-- list(x): a new list -/
noncomputable def lstR (t : TLD) : TLD := fun ρ k => t ρ fun ds => match ds with
  | [.lst xs] => k xs
  | [.tup xs] => k xs
  | _ => False
theorem f_tolst (hg : Gl X "list") (hm : X.mg "list" = none) (ha : PA X [e] (liftA F ta)) (he : starEach [e] X.env = (false, eval e X.env) :: starEach [] X.env := by rfl) (hK : X.K = F.K := by rfl) :
    PE X (.Call (.Name "list" p) [e] [] pos) (liftF F (lstR ta)) := by
  refine pe_imp (pe_callTy call_list_of hg hm (by decide +kernel) ha (by decide) (by decide) he) fun σ H Q ⟨G, ρ, k, r, h, q⟩ => ⟨G, ρ, _, r, h, fun ds vs H1 h1 e1 d1 => ?_⟩
  have r1 := r.step e1
  have fin : ∀ {xs : List V} {es : List D} (l : Addr), H1 l = none → DtL F.K G H1 es xs → k es → Q (.ref l) (upd H1 l (.lst xs)) := fun {xs es} l hl hd hk =>
    have e4 : Ext G H1 (upd H1 l (.lst xs)) := Ext.new r1.bag hl
    q _ l _ _ hk (e1.trans e4) (e1.free r.bag hl) upd_same ((r1.evoAdd e4 hl).dts _ _ hd)
  split at h1
  · obtain ⟨v, rfl, a, xs, rfl, n, ha, hl⟩ := dl1 d1
    exact ⟨_, _, rfl, .inl (SqL.of ha), fun l hn => fin l hn hl h1⟩
  · obtain ⟨v, rfl, a, xs, rfl, ha, hl⟩ := dl1 d1
    exact ⟨_, _, rfl, .inr (.inl (.inl ha)), fun l hn => fin l hn hl h1⟩
  · exact h1.elim
end
end DL
set_option Elab.async false
set_option linter.all false
set_option maxRecDepth 100000
set_option maxHeartbeats 1000000
namespace DL
open PySem L2
/-! ### changes of what a def owns -/
section
variable {F : Fr} {G G' : Gh} {H H' : Hp} {σ : St} {ρ : List Sl} {L : List Addr}
theorem Rel.own_ne_bg (r : Rel F G H σ ρ) {p : Addr} (n : ¬ F.G.own p) : p ≠ G.bg := fun z => n (by rw [z, r.bg]; exact r.ob)
/-- with the addresses of all slots -/
noncomputable abbrev RelL (F : Fr) (G : Gh) (H : Hp) (σ : St) (ρ : List Sl) (L : List Addr) : Prop := Rel F G H σ ρ ∧ Slots F G H ρ σ L ∧ L.Nodup
theorem Rel.adrs (r : Rel F G H σ ρ) : ∃ L, RelL F G H σ ρ L := let ⟨L, h, n⟩ := r.sl; ⟨L, r, h, n⟩
theorem RelL.step (r : RelL F G H σ ρ L) (e : Ext G H H') : RelL F G H' σ ρ L :=
  ⟨r.1.step e, Slots.map (fun s o M _ => SlR.go rfl rfl (r.1.evo e) s o M fun p _ => Ext.stands r.1.bg r.1.ob e p) r.2.1, r.2.2⟩
theorem RelL.grow (r : RelL F G H σ ρ L) (e : Ext G H H') {p : Addr} (hp : H p = none) (hm : Mut (H' p)) : RelL F (G.add p) H' σ ρ L :=
  ⟨r.1.grow e hp hm, Slots.map (fun s o M _ => SlR.go rfl rfl (r.1.evoAdd e hp) s o M fun p _ h1 h2 h3 => let ⟨z, w⟩ := Ext.stands r.1.bg r.1.ob e p h1 h2 h3; ⟨.inl z, w⟩) r.2.1, r.2.2⟩
theorem RelL.grows (r : RelL F G H σ ρ L) (e : Ext G H H') {R : List Addr} (hp : ∀ p ∈ R, H p = none) (hm : ∀ p ∈ R, Mut (H' p)) : RelL F (G.adds R) H' σ ρ L :=
  ⟨r.1.grows e hp hm, Slots.map (fun s o M _ => SlR.go rfl rfl (r.1.evoAdds e hp) s o M fun p _ h1 h2 h3 => let ⟨z, w⟩ := Ext.stands r.1.bg r.1.ob e p h1 h2 h3; ⟨.inl z, w⟩) r.2.1, r.2.2⟩
theorem RelL.give (r : RelL F G H σ ρ L) {i : Nat} {t : Tr} {v : V} {B : List Addr} (h : Ow F.K G H t v B) (hB : B.Nodup) (hn : ∀ p ∈ B, ¬ F.G.own p) (hf : ∀ p ∈ B, p ∉ L) : Rel F G H (σ.set i (some v)) (ρ.set i (.tr t)) := by
  obtain ⟨r, sl, n⟩ := r
  refine ⟨r.bg, r.bi, r.ob, r.oi, r.sub, r.new, r.tr, r.ext, r.pn, ?_⟩
  cases e : ρ[i]? with
  | none =>
    have hi : ρ.length ≤ i := by simpa using e
    rw [List.set_eq_of_length_le hi, List.set_eq_of_length_le (by rw [← sl.len]; exact hi)]
    exact ⟨L, sl, n⟩
  | some s =>
    obtain ⟨u, A, B', C, _, rfl, _, k⟩ := sl.upd e
    obtain ⟨n1, _, _⟩ := nodup_mid n
    exact ⟨_, k F G H (.tr t) (some v) B (fun _ _ _ _ z => z) ⟨hn, v, rfl, h⟩, nodup_in n1 hB fun p hp => ⟨fun z => hf p hp (List.mem_append_left _ z), fun z => hf p hp (List.mem_append_right _ (List.mem_append_right _ z))⟩⟩
theorem RelL.new (r : RelL F G H σ ρ L) {p : Addr} (h : H p = none) : p ∉ L := fun z => (r.2.1.own p z).2.1 h
/-- an owned object, in no slot, is changed -/
theorem RelL.mutate (r : RelL F G H σ ρ L) {p : Addr} {o : HO} (hp : G.own p) (hn : ¬ F.G.own p) (mo : Mut (some o)) (hno : p ∉ L) : RelL F G (upd H p o) σ ρ L := by
  have nb := r.1.own_ne_bg hn
  have ev : Evo G G H (upd H p o) := ⟨fun a u n h => .inl (by rw [upd_ne (fun z => n (by rw [z]; exact hp))]; exact h), r.1.tr, fun _ n _ => n, rfl, rfl⟩
  have sl : Slots F G (upd H p o) ρ σ L := Slots.map (fun s u M k => SlR.go rfl rfl ev s u M fun q hq h1 _ _ => ⟨h1, upd_ne fun z => hno (by rw [← z]; exact k q hq)⟩) r.2.1
  refine ⟨⟨r.1.bg, r.1.bi, r.1.ob, r.1.oi, r.1.sub, r.1.new, fun a h => ?_, ⟨fun a u n h => ?_, ?_⟩, fun q hq => ev.dt _ _ (r.1.pn q hq), L, sl, r.2.2⟩, sl, r.2.2⟩
  · by_cases e : a = p
    · subst e; rw [upd_same]; exact mo
    · rw [upd_ne e]; exact r.1.tr a h
  · have e : a ≠ p := fun z => by
      subst z
      rw [r.1.new a hp hn] at h; cases h
    rw [upd_ne e]; exact r.1.ext.keep a u n h
  · obtain ⟨x, y, z, ns, h1, h2, q⟩ := r.1.ext.bag
    exact ⟨x, y, z, ns, by rw [upd_ne (by rw [← r.1.bg]; exact Ne.symm nb)]; exact h1, by rw [upd_ne fun z => hn (by rw [← z]; exact r.1.oi)]; exact h2, q⟩
/-- what a slot owns is changed: p is one of its addresses -/
theorem Rel.chg (r : Rel F G H σ ρ) {i : Nat} {t : Tr} (hi : ρ[i]? = some (.tr t)) : ∃ v B, σ[i]? = some (some v) ∧ Ow F.K G H t v B ∧ B.Nodup ∧ (∀ p ∈ B, ¬ F.G.own p) ∧
    ∀ (p : Addr) (o : HO) (t' : Tr), p ∈ B → Mut (some o) → Ow F.K G (upd H p o) t' v B → Rel F G (upd H p o) σ (ρ.set i (.tr t')) := by
  obtain ⟨L, h, n⟩ := r.sl
  obtain ⟨u, A, B, C, e1, rfl, ⟨hn, v, rfl, hw⟩, k⟩ := h.upd hi
  obtain ⟨_, nB, nd⟩ := nodup_mid n
  refine ⟨v, B, e1, hw, nB, hn, fun p o t' hp mo hw' => ?_⟩
  have op := (Ow.own t v B hw p hp).1
  have ev : Evo G G H (upd H p o) := ⟨fun a u n h => .inl (by rw [upd_ne (fun z => n (by rw [z]; exact op))]; exact h), r.tr, fun _ n _ => n, rfl, rfl⟩
  have rd : RelL F G H (σ.set i (some v)) (ρ.set i .un) (A ++ ([] ++ C)) := by
    have sl := k F G H .un (some v) [] (fun _ _ _ _ z => z) rfl
    have nn : (A ++ ([] ++ C)).Nodup := (nodup_mid n).1
    exact ⟨⟨r.bg, r.bi, r.ob, r.oi, r.sub, r.new, r.tr, r.ext, r.pn, _, sl, nn⟩, sl, nn⟩
  have rm := rd.mutate (o := o) op (hn p hp) mo (fun z => by
    rcases List.mem_append.mp z with z | z
    · exact (nd p hp).1 z
    · exact (nd p hp).2 z)
  have sl := k F G (upd H p o) (.tr t') (some v) B (fun s u M kk => SlR.go rfl rfl ev s u M fun q hq h1 _ _ => ⟨h1, upd_ne fun z => by
    rcases kk q hq with w | w
    · exact (nd p hp).1 (z ▸ w)
    · exact (nd p hp).2 (z ▸ w)⟩) ⟨hn, v, rfl, hw'⟩
  have eσ : σ.set i (some v) = σ := by
    apply List.ext_getElem?
    intro j
    by_cases e : i = j
    · subst e; rw [List.getElem?_set_self', e1]; rfl
    · rw [List.getElem?_set_ne e]
  rw [eσ] at sl rm
  exact ⟨rm.1.bg, rm.1.bi, rm.1.ob, rm.1.oi, rm.1.sub, rm.1.new, rm.1.tr, rm.1.ext, rm.1.pn, _, sl, n⟩
/-- what a slot owns becomes data -/
theorem Rel.frzA (r : Rel F G H σ ρ) {i : Nat} {t : Tr} (hi : ρ[i]? = some (.tr t)) : ∃ B v, Rel F (G.rems B) H σ (ρ.set i (.dat t.toD)) ∧ Ow F.K G H t v B ∧ ∀ p ∈ B, ¬ F.G.own p := by
  obtain ⟨L, h, n⟩ := r.sl
  obtain ⟨u, A, B, C, e1, rfl, ⟨hn, v, rfl, hw⟩, k⟩ := h.upd hi
  obtain ⟨n1, nB, nd⟩ := nodup_mid n
  have ev : Evo G (G.rems B) H H := Gh.rems_evo r.tr
  have sl := k F (G.rems B) H (.dat t.toD) (some v) [] (fun s u M kk => SlR.go rfl rfl ev s u M fun q hq h1 _ _ => ⟨⟨h1, fun z => by
    rcases kk q hq with w | w
    · exact (nd q z).1 w
    · exact (nd q z).2 w⟩, rfl⟩) ⟨rfl, v, rfl, Ow.dt r.tr t v B (fun _ z => z) hw⟩
  have eσ : σ.set i (some v) = σ := by
    apply List.ext_getElem?
    intro j
    by_cases e : i = j
    · subst e; rw [List.getElem?_set_self', e1]; rfl
    · rw [List.getElem?_set_ne e]
  rw [eσ] at sl
  exact ⟨B, v, ⟨r.bg, r.bi, r.ob, r.oi, fun a h => ⟨r.sub a h, fun z => hn a z h⟩, fun a h n => r.new a h.1 n, fun a h => r.tr a h.1, r.ext, fun q hq => ev.dt _ _ (r.pn q hq), _, sl, n1⟩, hw, hn⟩
theorem Rel.frz (r : Rel F G H σ ρ) {i : Nat} {t : Tr} (hi : ρ[i]? = some (.tr t)) : ∃ B, Rel F (G.rems B) H σ (ρ.set i (.dat t.toD)) := let ⟨B, _, h, _⟩ := r.frzA hi; ⟨B, h⟩
end
end DL
set_option Elab.async false
set_option linter.all false
set_option maxRecDepth 100000
set_option maxHeartbeats 1000000
namespace DL
open PySem L2
/-! ### statements -/
structure DE where
  nx : List Sl → Prop
  rt : Tr → Prop
  bk : List Sl → Prop
  ct : List Sl → Prop
  rp : D → List Sl → Prop := fun d _ => rt (.d d)
noncomputable abbrev TSD := DE → List Sl → Prop
structure EndsOk (F : Fr) (k : DE) (E : Ends) : Prop where
  nx : ∀ ρ G σ H, k.nx ρ → Rel F G H σ ρ → E.nx σ H
  rt : ∀ t v R H, k.rt t → Ext F.G F.H H → (∀ p ∈ R, F.H p = none) → R.Nodup → Ow F.K (F.G.adds R) H t v R → E.rt v H
  bk : ∀ ρ G σ H, k.bk ρ → Rel F G H σ ρ → E.bk σ H
  ct : ∀ ρ G σ H, k.ct ρ → Rel F G H σ ρ → E.ct σ H
  rp : ∀ d ρ G σ H v, k.rp d ρ → Rel F G H σ ρ → Dt F.K G H d v → E.rt v H
noncomputable def liftS (F : Fr) (S : TSD) : TS := fun E σ H => ∃ G ρ k, Rel F G H σ ρ ∧ S k ρ ∧ EndsOk F k E
noncomputable def setT (i : Nat) (t : TD) : TSD := fun k ρ => t ρ fun d => k.nx (ρ.set i (.dat d))
noncomputable def seqT (s u : TSD) : TSD := fun k ρ => s { k with nx := u k } ρ
noncomputable def nextT : TSD := fun k ρ => k.nx ρ
noncomputable def retT (t : TD) : TSD := fun k ρ => t ρ fun d => k.rt (.d d)
noncomputable def retN : TSD := fun k _ => k.rt (.d .non)
theorem Gh.adds_nil (G : Gh) : G.adds [] = G := by
  unfold Gh.adds
  cases G
  simp
theorem EndsOk.dat {F : Fr} {k : DE} {E : Ends} (o : EndsOk F k E) {d : D} {v : V} {H : Hp} (h : k.rt (.d d)) (x : Ext F.G F.H H) (hd : Dt F.K F.G H d v) : E.rt v H :=
  o.rt (.d d) v [] H h x (fun _ z => nomatch z) List.nodup_nil (by rw [Gh.adds_nil]; exact ⟨rfl, hd⟩)
noncomputable def iffT (t : TBD) (s u : TSD) : TSD := fun k ρ => t ρ fun b => if b = true then s k ρ else u k ρ
noncomputable def dropT (t : TD) : TSD := fun k ρ => t ρ fun _ => k.nx ρ
section
variable {X : Cx} {F : Fr} {st : Stmt} {rest : List Stmt} {s u : TSD} {e : Expr} {te : TD} {pos : Pos}
theorem s_nil : PSs X [] (liftS F nextT) := pss_imp pss_nil fun E σ H ⟨G, ρ, k, r, h, o⟩ => o.nx ρ G σ H h r
theorem s_cons (h1 : PS X st (liftS F s)) (h2 : PSs X rest (liftS F u)) : PSs X (st :: rest) (liftS F (seqT s u)) :=
  pss_imp (pss_cons h1 h2) fun E σ H ⟨G, ρ, k, r, h, o⟩ => ⟨G, ρ, _, r, h, ⟨fun ρ' G' σ' H' h' r' => ⟨G', ρ', k, r', h', o⟩, o.rt, o.bk, o.ct, o.rp⟩⟩
theorem s_one (h1 : PS X st (liftS F s)) : PSs X [st] (liftS F s) := pss_one h1
theorem s_set {i : Nat} {x : Str} {pos' : Pos} (hN : X.N.Nodup) (hi : X.N[i]? = some x) (hx : Loc X.env.scope x) (he : PE X e (lift F te)) (hs : swapsWith e (some (.Name x pos')) pos.line X.env = pure false := by rfl)
    (hf : X.fn x = true ∨ X.env.scope.names.lookup x = some .local := by first | exact .inl rfl | exact .inr rfl | assumption) : PS X (.Assign [.Name x pos'] e pos) (liftS F (setT i te)) :=
  ps_imp (ps_set hN hi hx he hs hf) fun E σ H ⟨G, ρ, k, r, h, o⟩ => ⟨G, ρ, _, r, h, fun d v H1 h1 e1 d1 => o.nx _ G _ H1 h1 ((r.step e1).put d1)⟩
theorem s_ret (he : PE X e (lift F te)) : PS X (.Return (some e) pos) (liftS F (retT te)) :=
  ps_imp (ps_ret he) fun E σ H ⟨G, ρ, k, r, h, o⟩ => ⟨G, ρ, _, r, h, fun d v H1 h1 e1 d1 => o.dat h1 (r.step e1).ext ((r.step e1).less.dt d v d1)⟩
theorem s_if {c : Expr} {a b : List Stmt} {tc : TBD} (hc : PT X c (liftT F tc)) (ha : PSs X a (liftS F s)) (hb : PSs X b (liftS F u)) : PS X (.If c a b pos) (liftS F (iffT tc s u)) :=
  ps_imp (ps_if hc ha hb) fun E σ H ⟨G, ρ, k, r, h, o⟩ => ⟨G, ρ, _, r, h, fun d H1 h1 e1 => by
    cases d with
    | true => exact iteT ⟨G, ρ, k, r.step e1, of_tt h1, o⟩
    | false => exact iteF ⟨G, ρ, k, r.step e1, of_ff h1, o⟩⟩
theorem s_expr (he : PE X e (lift F te)) (hs : swapsWith e none pos.line X.env = pure false := by rfl) : PS X (.Expr e pos) (liftS F (dropT te)) :=
  ps_imp (ps_expr he hs) fun E σ H ⟨G, ρ, k, r, h, o⟩ => ⟨G, ρ, _, r, h, fun d v H1 h1 e1 d1 => o.nx _ G _ H1 h1 (r.step e1)⟩
noncomputable def breakT : TSD := fun k ρ => k.bk ρ
noncomputable def contT : TSD := fun k ρ => k.ct ρ
/-- a, b = e1, e2 -/
noncomputable def parT (i j : Nat) (ta : TLD) : TSD := fun k ρ => ta ρ fun ds => match ds with
  | [d, d'] => k.nx ((ρ.set i (.dat d)).set j (.dat d'))
  | _ => False
theorem s_par {i j : Nat} {x y : Str} {a b : Expr} {ta : TLD} {px py pt : Pos} {kt k2 : Nat} {pt2 : Pos} (hc : X.calm = true) (hw : swappedStores [.Tuple [.Name x px, .Name y py] kt pt] (.Tuple [a, b] k2 pt2) X.env = pure (some [x, y])) (hN : X.N.Nodup)
    (hi : X.N[i]? = some x) (hj : X.N[j]? = some y) (hij : i ≠ j) (hx : X.env.scope.names.lookup x = some .local) (hy : X.env.scope.names.lookup y = some .local) (ha : PA X [a, b] (liftA F ta))
    (hs : swapsWithSole [.Tuple [.Name x px, .Name y py] kt pt] (.Tuple [a, b] k2 pt2) pos.line X.env = pure false := by rfl) : PS X (.Assign [.Tuple [.Name x px, .Name y py] kt pt] (.Tuple [a, b] k2 pt2) pos) (liftS F (parT i j ta)) := by
  refine ps_imp (ps_par hc hN hi hj hij hx hy ha hw hs) fun E σ H ⟨G, ρ, k, r, h, o⟩ => ⟨G, ρ, _, r, h, fun ds vs H1 h1 e1 d1 => ?_⟩
  split at h1
  · obtain ⟨v, w, rfl, d2, d3⟩ := dl2 d1
    exact ⟨v, w, rfl, o.nx _ G _ H1 h1 (((r.step e1).put d2).put d3)⟩
  · exact h1.elim
end
/-! ### targets -/
inductive Tg where
  | nm (i : Nat)
  | tp (is : List Nat)
noncomputable def gNames : List Nat → TGs
  | [] => gNil
  | i :: is => gCons (gName i) (gNames is)
noncomputable def gOf (K : PySem.W.Frag) : Tg → TG
  | .nm i => gName i
  | .tp is => gTup K is.length (gNames is)
noncomputable def putA : List Nat → List D → List Sl → List Sl
  | i :: is, d :: ds, ρ => putA is ds (ρ.set i (.dat d))
  | _, _, ρ => ρ
noncomputable def tgD : Tg → D → List Sl → (List Sl → Prop) → Prop
  | .nm i, d, ρ, k => k (ρ.set i (.dat d))
  | .tp is, .tup ds, ρ, k => ds.length = is.length ∧ k (putA is ds ρ)
  | _, _, _, _ => False
noncomputable def setA : List Nat → List V → St → St
  | i :: is, v :: vs, σ => setA is vs (σ.set i (some v))
  | _, _, σ => σ
section
variable {F : Fr} {G : Gh} {H : Hp}
theorem Rel.putA : ∀ {is : List Nat} {ds : List D} {vs : List V} {σ : St} {ρ : List Sl}, Rel F G H σ ρ → DtL F.K G H ds vs → Rel F G H (setA is vs σ) (DL.putA is ds ρ)
  | [], ds, vs, σ, ρ, r, h => by
    cases ds <;> cases vs <;> exact r
  | i :: is, [], vs, σ, ρ, r, h => by
    obtain rfl : vs = [] := h
    exact r
  | i :: is, d :: ds, vs, σ, ρ, r, h => by
    obtain ⟨x, w, rfl, h1, h2⟩ := h
    exact Rel.putA (is := is) (ds := ds) (vs := w) (σ := σ.set i (some x)) (ρ := ρ.set i (.dat d)) (r.put h1) h2
theorem gNames_ok : ∀ {is : List Nat} {vs : List V} {σ : St} {Q : St → Hp → Prop}, vs.length = is.length → Q (setA is vs σ) H → gNames is vs σ H Q
  | [], [], σ, Q, _, q => ⟨rfl, q⟩
  | [], v :: vs, σ, Q, e, q => by cases e
  | i :: is, [], σ, Q, e, q => by cases e
  | i :: is, v :: vs, σ, Q, e, q => ⟨v, vs, rfl, gNames_ok (is := is) (by simpa using e) q⟩
/-- the values that a target stores -/
noncomputable def tgS : Tg → V → List V → St → St
  | .nm i, v, _, σ => σ.set i (some v)
  | .tp is, _, vs, σ => setA is vs σ
theorem gOf_ok {K : PySem.W.Frag} {σ : St} {ρ : List Sl} {t : Tg} {d : D} {v : V} {k : List Sl → Prop} {Q : St → Hp → Prop} (hK : K = F.K) (r : Rel F G H σ ρ) (hd : Dt F.K G H d v) (h : tgD t d ρ k)
    (q : ∀ ρ' vs, k ρ' → Rel F G H (tgS t v vs σ) ρ' → Q (tgS t v vs σ) H) : gOf K t v σ H Q := by
  cases t with
  | nm i => exact q _ [] h (r.put hd)
  | tp is =>
    cases d <;> try exact (show False from h).elim
    obtain ⟨hl, h⟩ := h
    obtain ⟨a, xs, rfl, ha, hx⟩ := hd
    refine ⟨a, xs, rfl, .inl (.inl ha), by rw [← hx.len]; exact hl, gNames_ok (by rw [← hx.len]; exact hl) ?_⟩
    exact q _ xs h (r.putA hx)
end
/-! ### what is walked -/
noncomputable def Walk (K : PySem.W.Frag) (pn : List (V × D)) (J : It) (ds : List D) : Prop := ∀ (i : Nat) (G : Gh) (H : Hp), GOk G H → (∀ q ∈ pn, Dt K G H q.2 q.1) →
  (i < ds.length → J.go i H ∧ ∀ x H', J.yld i H x H' → (∀ a o, H a = some o → H' a = some o) ∧ ∃ d, ds[i]? = some d ∧ Dt K G H' d x) ∧ (ds.length ≤ i → J.stop i H)
noncomputable def liftI (F : Fr) (I : TLD) : TI := fun σ H R => ∃ G ρ k, Rel F G H σ ρ ∧ I ρ k ∧ ∀ ds J H1 pn, k ds → Ext G H H1 → Walk F.K pn J ds → (∀ q ∈ pn, Dt F.K G H1 q.2 q.1) → R J H1
theorem pi_imp {X : Cx} {tg it : Expr} {t t' : TI} (h : PI X tg it t) (i : ∀ σ H R, t' σ H R → t σ H R) : PI X tg it t' := ⟨fun pins s σ H R I w => h.run pins s σ H R I (i _ _ _ w)⟩
noncomputable def loopT (t : Tg) (S : TSD) (k : DE) : List D → List Sl → Prop
  | [], ρ => k.nx ρ
  | d :: ds, ρ => tgD t d ρ fun ρ1 => S { nx := loopT t S k ds, rt := k.rt, bk := k.nx, ct := loopT t S k ds, rp := k.rp } ρ1
noncomputable def forT (t : Tg) (I : TLD) (S : TSD) : TSD := fun k ρ => I ρ fun ds => loopT t S k ds ρ
section
variable {X : Cx} {F : Fr} {tg iter : Expr} {body : List Stmt} {t : Tg} {I : TLD} {S : TSD} {pos : Pos}
theorem s_for (hp : PassesOwn (model X.prog X.w) X.A X.env X.xe) (hc : X.calm = true) (hi : PI X tg iter (liftI F I)) (hg : PG X tg (gOf X.K t)) (hb : ∀ pn, PSs X body (liftS (F.pin pn) S)) (hK : X.K = F.K := by rfl)
    (hs : ∀ x, foldedSetIterable iter X.env x = pure x := by intro _; rfl) : PS X (.For tg iter body [] pos) (liftS F (forT t I S)) := by
  have hb' : PSs X body (fun E σ H => ∃ pn, liftS (F.pin pn) S E σ H) := ⟨fun pins s σ H E I ⟨pn, w⟩ => (hb pn).run pins s σ H E I w⟩
  refine ps_imp (ps_for hp hc hi hg hb' hs) fun E σ H ⟨G, ρ, k, r, h, o⟩ => ⟨G, ρ, _, r, h, fun ds J H1 pn h1 e1 wk hpn => ?_⟩
  refine ⟨fun i m σ' H' => m = ds.length - i ∧ i ≤ ds.length ∧ ∃ G' ρ', Rel (F.pin pn) G' H' σ' ρ' ∧ loopT t S k (ds.drop i) ρ', ⟨_, rfl, Nat.zero_le _, G, ρ, (r.step e1).pinned hpn, h1⟩, ?_⟩
  rintro i m σ' H' ⟨rfl, hi, G', ρ', r', h'⟩
  have w := wk i G' H' r'.ok fun q hq => r'.pn q (List.mem_append_left _ hq)
  by_cases hlt : i < ds.length
  · obtain ⟨go, yl⟩ := w.1 hlt
    refine .inr ⟨go, fun σ2 H2 => i + 1 ≤ ds.length ∧ ∃ G' ρ', Rel (F.pin pn) G' H2 σ2 ρ' ∧ loopT t S k (ds.drop (i + 1)) ρ', fun σ2 H2 ⟨hl, q⟩ => ⟨_, by omega, rfl, hl, q⟩, fun x H2 y => ?_⟩
    obtain ⟨kp, d, hd, hx⟩ := yl x H2 y
    rw [List.drop_eq_getElem_cons hlt] at h'
    have ed : ds[i] = d := by rw [List.getElem?_eq_getElem hlt] at hd; exact Option.some.inj hd
    rw [ed] at h'
    have r2 := r'.step (Ext.all r'.bag kp)
    refine gOf_ok (F := F.pin pn) hK r2 hx h' fun ρ1 vs h1 r1 => ?_
    refine ⟨pn, G', ρ1, _, r1, h1, fun ρ2 G2 σ2 H2 h2 r2 => ⟨hlt, G2, ρ2, r2, h2⟩, fun t v R H3 q1 q2 q3 q4 q5 => o.rt t v R H3 q1 q2 q3 q4 q5, fun ρ2 G2 σ2 H2 h2 r2 => o.nx ρ2 G2 σ2 H2 h2 r2.unpin, fun ρ2 G2 σ2 H2 h2 r2 => ⟨hlt, G2, ρ2, r2, h2⟩, fun d ρ2 G2 σ2 H2 v h2 r2 hd => o.rp d ρ2 G2 σ2 H2 v h2 r2.unpin hd⟩
  · have e : i = ds.length := by omega
    subst e
    rw [List.drop_length] at h'
    exact .inl ⟨w.2 (Nat.le_refl _), o.nx _ _ _ _ h' r'.unpin⟩
end
end DL
set_option Elab.async false
set_option linter.all false
set_option maxRecDepth 100000
set_option maxHeartbeats 1000000
namespace DL
open PySem PySem.Spec L2
/-! ### walks over lists, tuples, ranges, texts -/
section
variable {K : PySem.W.Frag}
theorem walk_list {a : Addr} {ds : List D} : Walk K [(.ref a, .lst ds)] (Itl K a) ds := by
  intro i G H ok hp
  obtain ⟨b, xs, e, n, ha, hl⟩ := hp (.ref a, .lst ds) (List.mem_singleton.mpr rfl)
  cases e
  refine ⟨fun hi => ⟨⟨xs, xs[i]'(by rw [← hl.len]; exact hi), SqL.of ha, List.getElem?_eq_getElem _⟩, fun x H' y => ?_⟩, fun hi => ⟨xs, SqL.of ha, by rw [← hl.len]; exact hi⟩⟩
  obtain ⟨e, y⟩ := y
  subst e
  exact ⟨fun _ _ h => h, hl.get' (y xs (SqL.of ha))⟩
theorem walk_tup {a : Addr} {ds : List D} : Walk K [(.ref a, .tup ds)] (Itt K a) ds := by
  intro i G H ok hp
  obtain ⟨b, xs, e, ha, hl⟩ := hp (.ref a, .tup ds) (List.mem_singleton.mpr rfl)
  cases e
  refine ⟨fun hi => ⟨⟨xs, xs[i]'(by rw [← hl.len]; exact hi), .inl (.inl ha), List.getElem?_eq_getElem _⟩, fun x H' y => ?_⟩, fun hi => ⟨xs, .inl (.inl ha), by rw [← hl.len]; exact hi⟩⟩
  obtain ⟨e, y⟩ := y
  subst e
  exact ⟨fun _ _ h => h, hl.get' (y xs (.inl (.inl ha)))⟩
theorem walk_rng {lo : Int} {n : Nat} : Walk K [] (Itr lo n) ((List.range n).map fun (i : Nat) => D.int (lo + (i : Int))) := by
  intro i G H ok hp
  rw [List.length_map, List.length_range]
  refine ⟨fun hi => ⟨hi, fun x H' ⟨e, y⟩ => ?_⟩, fun hi => hi⟩
  subst e y
  exact ⟨fun _ _ h => h, .int (lo + (i : Int)), by rw [List.getElem?_map, List.getElem?_range hi]; rfl, rfl⟩
theorem walk_str {x : Str} : Walk K [] (Its x) (x.cps.toList.map fun c => .str ⟨#[c]⟩) := by
  intro i G H ok hp
  rw [List.length_map, Array.length_toList]
  refine ⟨fun hi => ⟨hi, fun v H' ⟨e, c, hc, y⟩ => ?_⟩, fun hi => hi⟩
  subst e y
  exact ⟨fun _ _ h => h, .str ⟨#[c]⟩, by rw [List.getElem?_map, Array.getElem?_toList, hc]; rfl, rfl⟩
end
noncomputable def seqI (t : TD) : TLD := fun ρ k => t ρ fun d => match d with
  | .lst ds => k ds
  | .tup ds => k ds
  | .str x => k (x.cps.toList.map fun c => .str ⟨#[c]⟩)
  | _ => False
section
variable {X : Cx} {F : Fr} {tg : Expr} {l : Expr} {tl : TD}
/-- a list, a tuple, a text, whichever it is -/
noncomputable def iAny (K : PySem.W.Frag) (tl : TE) : TI := fun σ H R => tl σ H fun x H1 => (∃ a, x = .ref a ∧ (∃ xs, SqL K H1 a xs) ∧ R (Itl K a) H1) ∨ (∃ a, x = .ref a ∧ (∃ xs, SqT K H1 a xs) ∧ R (Itt K a) H1) ∨ ∃ z, x = .str z ∧ R (Its z) H1
theorem pi_any {tl : TE} (hl : PE X l tl) : PI X tg l (iAny X.K tl) := by
  constructor
  intro pins s σ H R I h
  -- each kind by its own rule: the value is told by the expression's run
  have one : ∀ (v : Value) (s1 : Shared) (x : V) (H1 : Hp), Inv X pins σ H1 s1 → RelV x v → ((∃ a, x = .ref a ∧ (∃ xs, SqL X.K H1 a xs) ∧ R (Itl X.K a) H1) ∨ (∃ a, x = .ref a ∧ (∃ xs, SqT X.K H1 a xs) ∧ R (Itt X.K a) H1) ∨ ∃ z, x = .str z ∧ R (Its z) H1) →
      wpAny (model X.prog X.w) X.A (pyIter v) (PIE X pins σ tg R) X.xe s1 := by
    intro v s1 x H1 I1 rv q
    have fresh : ∀ b, b ∈ [s1.heap.objs.size] → FpOk X pins H1 b := fun b hb => by
      obtain rfl : b = s1.heap.objs.size := List.mem_singleton.mp hb
      exact I1.fpOk (Nat.le_refl _) (I1.hok.fresh (Nat.le_refl _))
    rcases q with ⟨a, rfl, ⟨xs, hq⟩, q⟩ | ⟨a, rfl, ⟨xs, hq⟩, q⟩ | ⟨z, rfl, q⟩
    · cases rv
      obtain ⟨its, _, pl, _⟩ := I1.list hq
      exact wpAny_pyIter_list pl.isList ⟨_, [s1.heap.objs.size], _, _, H1, rfl, I1.kept (t' := s1.toks) fun b o e => Heap.get?_push_of_some _ e, turn_list a _, ⟨_, Heap.get?_push_size _ rfl, rfl, rfl⟩, fresh, q⟩
    · cases rv
      obtain ⟨its, _, pl, _⟩ := I1.tuple hq
      exact wpAny_pyIter_tuple (show s1.heap.IsTuple a its.toArray from pl) ⟨_, [s1.heap.objs.size], _, _, H1, rfl, I1.kept (t' := s1.toks) fun b o e => Heap.get?_push_of_some _ e, turn_tuple a _, ⟨_, Heap.get?_push_size _ rfl, rfl, rfl⟩, fresh, q⟩
    · obtain ⟨t, rfl⟩ := rv
      cases hz : z.cps.all (· < 128) with
      | false => exact wpAny_pyIter_wide hz (pi_one (tk := s1.toks) I1 _ (turn_str _ z t "str_iterator" (Or.inr rfl)) ⟨_, Heap.get?_push_size _ rfl, rfl, rfl⟩ q)
      | true => exact wpAny_pyIter_ascii hz (pi_one (tk := s1.toks) I1 _ (turn_str _ z t "str_ascii_iterator" (Or.inl rfl)) ⟨_, Heap.get?_push_size _ rfl, rfl, rfl⟩ q)
  exact thn (hl.run pins s σ H _ I h) fun v s1 ⟨x, H1, I1, r1, q1⟩ => one v s1 x H1 I1 r1 q1
end
section
variable {X : Cx} {F : Fr} {tg : Expr} {l : Expr} {tl : TD}
theorem i_seq (hl : PE X l (lift F tl)) (hK : X.K = F.K := by rfl) : PI X tg l (liftI F (seqI tl)) := by
  refine pi_imp (pi_any hl) fun σ H R ⟨G, ρ, k, r, h, q⟩ => ⟨G, ρ, _, r, h, fun d v H1 h1 e1 d1 => ?_⟩
  rw [hK]
  cases d <;> try exact (show False from h1).elim
  · obtain rfl := d1
    exact .inr (.inr ⟨_, rfl, q _ _ H1 [] h1 e1 walk_str fun _ z => nomatch z⟩)
  · obtain ⟨a, xs, rfl, n, ha, hl⟩ := id d1
    exact .inl ⟨a, rfl, ⟨xs, SqL.of ha⟩, q _ _ H1 _ h1 e1 walk_list fun z hz => by obtain rfl := List.mem_singleton.mp hz; exact d1⟩
  · obtain ⟨a, xs, rfl, ha, hl⟩ := id d1
    exact .inr (.inl ⟨a, rfl, ⟨xs, .inl (.inl ha)⟩, q _ _ H1 _ h1 e1 walk_tup fun z hz => by obtain rfl := List.mem_singleton.mp hz; exact d1⟩)
noncomputable def rng1I (t : TLD) : TLD := fun ρ k => t ρ fun ds => match ds with
  | [.int j] => (-(2 ^ 62) ≤ j ∧ j < 2 ^ 62) ∧ k ((List.range j.toNat).map fun (i : Nat) => D.int (i : Int))
  | _ => False
theorem i_rng1 {a : Expr} {ta : TLD} {p pos : Pos} (hg : Gl X "range") (hm : X.mg "range" = none) (ha : PA X [a] (liftA F ta)) (hs : starEach [a] X.env = [(false, eval a X.env)] := by rfl) (hK : X.K = F.K := by rfl) : PI X tg (.Call (.Name "range" p) [a] [] pos) (liftI F (rng1I ta)) := by
  refine pi_imp (pi_range1 hg hm ha hs) fun σ H R ⟨G, ρ, k, r, h, q⟩ => ⟨G, ρ, _, r, h, fun ds vs H1 h1 e1 d1 => ?_⟩
  split at h1
  · obtain ⟨v, rfl, hv⟩ := dl1 d1
    obtain rfl := hv
    refine ⟨_, rfl, h1.1.1, h1.1.2, q _ _ H1 [] h1.2 e1 ?_ fun _ z => nomatch z⟩
    have w := walk_rng (K := F.K) (lo := 0) (n := Int.toNat ‹Int›)
    have e : (fun (i : Nat) => D.int (0 + (i : Int))) = fun (i : Nat) => D.int (i : Int) := by funext i; rw [Int.zero_add]
    rw [e] at w
    exact w
  · exact h1.elim
end
end DL
set_option Elab.async false
set_option linter.all false
set_option maxRecDepth 100000
set_option maxHeartbeats 1000000
namespace DL
open PySem L2
/-! ### comprehensions -/
noncomputable def wipeS (ρ : List Sl) : List Nat → List Sl
  | [] => ρ
  | v :: vs => (wipeS ρ vs).set v .un
theorem wipe_get (σ : St) (j : Nat) : ∀ vs : List Nat, (wipe σ vs)[j]? = if j ∈ vs then (σ[j]?).map (fun _ => none) else σ[j]?
  | [] => by simp [wipe]
  | v :: vs => by
    unfold wipe
    by_cases e : v = j
    · subst e
      rw [List.getElem?_set_self', wipe_get σ v vs, if_pos List.mem_cons_self]
      split <;> cases σ[v]? <;> rfl
    · rw [List.getElem?_set_ne e, wipe_get σ j vs]
      simp only [List.mem_cons, Ne.symm e, false_or]
theorem wipe_wipe (σ : St) (vs : List Nat) : wipe (wipe σ vs) vs = wipe σ vs := by
  apply List.ext_getElem?
  intro j
  rw [wipe_get, wipe_get]
  split
  · cases σ[j]? <;> rfl
  · rfl
theorem wipe_set (σ : St) {vs : List Nat} {i : Nat} (o : Option V) (h : i ∈ vs) : wipe (σ.set i o) vs = wipe σ vs := by
  apply List.ext_getElem?
  intro j
  rw [wipe_get, wipe_get]
  by_cases e : i = j
  · subst e
    rw [if_pos h, if_pos h, List.getElem?_set_self']
    cases σ[i]? <;> rfl
  · rw [List.getElem?_set_ne e]
theorem wipe_setA {vs : List Nat} : ∀ (is : List Nat) (us : List V) (σ : St), (∀ i ∈ is, i ∈ vs) → wipe (setA is us σ) vs = wipe σ vs
  | [], us, σ, h => by cases us <;> rfl
  | i :: is, [], σ, h => rfl
  | i :: is, u :: us, σ, h => by
    show wipe (setA is us (σ.set i (some u))) vs = _
    rw [wipe_setA is us _ fun j hj => h j (List.mem_cons_of_mem _ hj), wipe_set _ _ (h i List.mem_cons_self)]
noncomputable def Tg.ix : Tg → List Nat
  | .nm i => [i]
  | .tp is => is
theorem wipe_tgS {vs : List Nat} (t : Tg) (v : V) (us : List V) (σ : St) (h : ∀ i ∈ t.ix, i ∈ vs) : wipe (tgS t v us σ) vs = wipe σ vs := by
  cases t with
  | nm i => exact wipe_set _ _ (h i (List.mem_singleton.mpr rfl))
  | tp is => exact wipe_setA is us σ h
theorem Rel.wipe {F : Fr} {G : Gh} {H : Hp} {σ : St} {ρ : List Sl} (r : Rel F G H σ ρ) : ∀ vs, Rel F G H (L2.wipe σ vs) (wipeS ρ vs)
  | [] => r
  | v :: vs => (Rel.wipe r vs).drop v none
noncomputable def compT (t : Tg) (tt : TBD) (te : TD) (ρ : List Sl) : List D → List D → (List D → Prop) → Prop
  | [], acc, k => k acc
  | d :: ds, acc, k => tgD t d ρ fun ρ1 => tt ρ1 fun b => if b = true then te ρ1 fun e => compT t tt te ρ ds (acc ++ [e]) k else compT t tt te ρ ds acc k
noncomputable def lcF (t : Tg) (I : TLD) (tt : TBD) (te : TD) (vs : List Nat) : TLD := fun ρ k => I ρ fun ds => ds.length ≤ sizeLine ∧ compT t tt te (wipeS ρ vs) ds [] k
noncomputable def yesT : TBD := fun _ k => k true
section
variable {X : Cx} {F : Fr} {t : Tg} {I : TLD} {tt : TBD} {te : TD}
theorem ts_nil : PTs X [] (liftT F yesT) := ⟨fun pins s σ H Q I ⟨G, ρ, k, r, h, q⟩ => pts_nil.run pins s σ H Q I (q true H h (.refl r.bag))⟩
theorem ts_one {c : Expr} {tc : TBD} (h : PT X c (liftT F tc)) : PTs X [c] (liftT F tc) := pts_one h
theorem lcT {K : PySem.W.Frag} (vs : List Nat) (ht : ∀ i ∈ t.ix, i ∈ vs) (hK : K = F.K) (tb : TT) (tv : TE) (h1 : ∀ pn σ H Q, liftT (F.pin pn) tt σ H Q → tb σ H Q) (h2 : ∀ pn σ H Q, lift (F.pin pn) te σ H Q → tv σ H Q) :
    ∀ σ H Q, liftF F (lcF t I tt te vs) σ H Q → tLc (liftI F I) (gOf K t) tb tv vs σ H Q := by
  intro σ H Q ⟨G, ρ, k, r, h, q⟩
  refine ⟨G, ρ, _, r, h, fun ds J H1 pn ⟨hz, hk⟩ e1 wk hpn L hL => ?_⟩
  have r1 := r.step e1
  have e2 : Ext G H1 (upd H1 L (.lst [])) := Ext.new r1.bag hL
  obtain ⟨L0, s0⟩ := ((r1.pinned hpn).wipe vs).adrs
  have hno : L ∉ L0 := s0.new hL
  have r2 : RelL (F.pin pn) (G.add L) (upd H1 L (.lst [])) (L2.wipe σ vs) (wipeS ρ vs) L0 := s0.grow e2 hL (by rw [upd_same]; exact True.intro)
  have hnL : ¬ F.G.own L := fun z => r1.free hL (r1.sub L z)
  refine ⟨fun i m H' => m = ds.length - i ∧ i ≤ ds.length ∧ ∃ acc xs, H' L = some (.lst xs) ∧ DtL F.K (G.add L) H' acc xs ∧ acc.length ≤ i ∧ RelL (F.pin pn) (G.add L) H' (L2.wipe σ vs) (wipeS ρ vs) L0 ∧ Ext G H1 H' ∧
      compT t tt te (wipeS ρ vs) (ds.drop i) acc k, ⟨_, rfl, Nat.zero_le _, [], [], upd_same, rfl, Nat.le_refl _, r2, e2, hk⟩, ?_⟩
  rintro i m H' ⟨rfl, hi, acc, xs, hx, hd, hl, r', e', h'⟩
  have w := wk i (G.add L) H' r'.1.ok fun q hq => r'.1.pn q (List.mem_append_left _ hq)
  by_cases hlt : i < ds.length
  · obtain ⟨go, yl⟩ := w.1 hlt
    refine .inr ⟨go, fun H2 => i + 1 ≤ ds.length ∧ ∃ acc xs, H2 L = some (.lst xs) ∧ DtL F.K (G.add L) H2 acc xs ∧ acc.length ≤ i + 1 ∧ RelL (F.pin pn) (G.add L) H2 (L2.wipe σ vs) (wipeS ρ vs) L0 ∧ Ext G H1 H2 ∧
      compT t tt te (wipeS ρ vs) (ds.drop (i + 1)) acc k, fun H2 ⟨hl, q⟩ => ⟨_, by omega, rfl, hl, q⟩, fun x H2 y => ?_⟩
    obtain ⟨kp, d, hdi, hxd⟩ := yl x H2 y
    rw [List.drop_eq_getElem_cons hlt] at h'
    have ed : ds[i] = d := by rw [List.getElem?_eq_getElem hlt] at hdi; exact Option.some.inj hdi
    rw [ed] at h'
    have x2 : Ext (G.add L) H' H2 := Ext.all r'.1.bag kp
    have r3 := r'.step x2
    refine gOf_ok (F := F.pin pn) hK r3.1 hxd h' fun ρ1 us hk1 r4 => ⟨by rw [wipe_tgS t x us _ ht, wipe_wipe], ?_⟩
    refine h1 pn _ _ _ ⟨G.add L, ρ1, _, r4, hk1, fun b H3 hb x3 => ?_⟩
    have nbL : L ≠ G.bg := r1.own_ne_bg hnL
    have up : ∀ {H5 : Hp}, Ext (G.add L) H2 H5 → H5 L = some (.lst xs) ∧ DtL F.K (G.add L) H5 acc xs ∧ RelL (F.pin pn) (G.add L) H5 (L2.wipe σ vs) (wipeS ρ vs) L0 ∧ Ext G H1 H5 := fun {H5} z => by
      have z2 := x2.trans z
      exact ⟨z2.mine nbL hx (.inr rfl), (r'.1.evo z2).dts _ _ hd, r'.step z2, e'.trans (Ext.cg (G := G.add L) (G' := G) rfl rfl (fun _ h => .inl h) z2)⟩
    cases b with
    | true =>
      refine iteT (h2 pn _ _ _ ⟨G.add L, ρ1, _, r4.step x3, of_tt hb, fun d v H4 hd4 x4 dv => ?_⟩)
      obtain ⟨u1, u2, u3, u4⟩ := up (x3.trans x4)
      have lx : xs.length < sizeLine := by rw [← hd.len]; omega
      refine ⟨xs, u1, lx, hlt, acc ++ [d], xs ++ [v], upd_same, ?_, by simp; omega, u3.mutate (o := .lst (xs ++ [v])) (.inr rfl) hnL True.intro hno, ⟨fun a o n z => ?_, ?_⟩, hd4⟩
      · have ev : Evo (G.add L) (G.add L) H4 (upd H4 L (.lst (xs ++ [v]))) := ⟨fun a o n z => .inl (by rw [upd_ne fun w => n (.inr w)]; exact z), u3.1.tr, fun _ n _ => n, rfl, rfl⟩
        exact (ev.dts _ _ u2).app ⟨v, [], rfl, ev.dt _ _ dv, rfl⟩
      · rw [upd_ne (fun w => by rw [w, hL] at z; cases z)]
        exact u4.keep a o n z
      · exact (u3.mutate (o := .lst (xs ++ [v])) (.inr rfl) hnL True.intro hno).1.bag
    | false =>
      obtain ⟨u1, u2, u3, u4⟩ := up x3
      exact iteF ⟨hlt, acc, xs, u1, u2, by omega, u3, u4, of_ff hb⟩
  · have e : i = ds.length := by omega
    subst e
    rw [List.drop_length] at h'
    exact .inl ⟨w.2 (Nat.le_refl _), q acc L xs H' h' (e1.trans e') (e1.free r.bag hL) hx hd⟩
end
section
variable {X : Cx} {F : Fr} {elt tg iter : Expr} {ifs : List Expr} {scope : Scope} {own : List (Str × Nat)} {pos : Pos} {t : Tg} {I : TLD} {tt : TBD} {te : TD}
/-- [elt for tg in iter if ..], a new list -/
theorem f_lc (t : Tg) (hc : X.calm = true) (hN : X.N.Nodup) (hi : PI X tg iter (liftI F I)) (ok : BlkOk X.N X.env.scope scope own)
    (hg : ∀ (s : Shared) (H : Hp) (C : Addr) (cl : List (Str × Addr)) (fp : List Addr), PG (X.blk s H scope (compEnvC scope cl C X.env) fp) tg (gOf X.K t))
    (hs : ∀ (s : Shared) (H : Hp) (C : Addr) (cl : List (Str × Addr)) (fp : List Addr) (pn : List (V × D)), PTs (X.blk s H scope (compEnvC scope cl C X.env) fp) ifs (liftT (F.pin pn) tt))
    (he : ∀ (s : Shared) (H : Hp) (C : Addr) (cl : List (Str × Addr)) (fp : List Addr) (pn : List (V × D)), PE (X.blk s H scope (compEnvC scope cl C X.env) fp) elt (lift (F.pin pn) te))
    (hx : ∀ i ∈ t.ix, i ∈ own.map (·.2) := by decide) (hf : ∀ x, foldedSetIterable iter X.env x = pure x := by intro _; rfl) (hK : X.K = F.K := by rfl) :
    PE X (.ListComp elt [⟨tg, iter, ifs, 0⟩] scope pos) (liftF F (lcF t I tt te (own.map (·.2)))) :=
  pe_imp (pe_lc (tt := fun σ H Q => ∃ pn, liftT (F.pin pn) tt σ H Q) (te := fun σ H Q => ∃ pn, lift (F.pin pn) te σ H Q) hc hN hi ok hg
    (fun s H C cl fp => ⟨fun pins s1 σ H1 Q I ⟨pn, w⟩ => (hs s H C cl fp pn).run pins s1 σ H1 Q I w⟩) (fun s H C cl fp => ⟨fun pins s1 σ H1 Q I ⟨pn, w⟩ => (he s H C cl fp pn).run pins s1 σ H1 Q I w⟩) hf)
    (lcT _ hx hK _ _ (fun pn _ _ _ w => ⟨pn, w⟩) fun pn _ _ _ w => ⟨pn, w⟩)
/-- y = [..], y a local -/
theorem s_setLc {i : Nat} {y : Str} {py spos : Pos} (t : Tg) (hc : X.calm = true) (hN : X.N.Nodup) (hy : X.N[i]? = some y) (hyl : X.env.scope.names.lookup y = some .local)
    (hsw : swapsWith (.ListComp elt [⟨tg, iter, ifs, 0⟩] scope pos) (some (.Name y py)) spos.line X.env = pure true) (hi : PI X tg iter (liftI F I)) (ok : BlkOk X.N X.env.scope scope own)
    (hg : ∀ (s : Shared) (H : Hp) (C : Addr) (cl : List (Str × Addr)) (fp : List Addr), PG (X.blk s H scope (compEnvC scope cl C X.env) fp) tg (gOf X.K t))
    (hs : ∀ (s : Shared) (H : Hp) (C : Addr) (cl : List (Str × Addr)) (fp : List Addr) (pn : List (V × D)), PTs (X.blk s H scope (compEnvC scope cl C X.env) fp) ifs (liftT (F.pin pn) tt))
    (he : ∀ (s : Shared) (H : Hp) (C : Addr) (cl : List (Str × Addr)) (fp : List Addr) (pn : List (V × D)), PE (X.blk s H scope (compEnvC scope cl C X.env) fp) elt (lift (F.pin pn) te))
    (hx : ∀ i ∈ t.ix, i ∈ own.map (·.2) := by decide) (hf : ∀ x, foldedSetIterable iter X.env x = pure x := by intro _; rfl) (hK : X.K = F.K := by rfl) :
    PS X (.Assign [.Name y py] (.ListComp elt [⟨tg, iter, ifs, 0⟩] scope pos) spos) (liftS F (setT i (ofF (lcF t I tt te (own.map (·.2)))))) := by
  refine ps_imp (ps_setLc (tt := fun σ H Q => ∃ pn, liftT (F.pin pn) tt σ H Q) (te := fun σ H Q => ∃ pn, lift (F.pin pn) te σ H Q) hc hN hy hyl hsw hi ok hg
    (fun s H C cl fp => ⟨fun pins s1 σ H1 Q I ⟨pn, w⟩ => (hs s H C cl fp pn).run pins s1 σ H1 Q I w⟩) (fun s H C cl fp => ⟨fun pins s1 σ H1 Q I ⟨pn, w⟩ => (he s H C cl fp pn).run pins s1 σ H1 Q I w⟩) hf) ?_
  intro E σ H ⟨G, ρ, k, r, h, o⟩
  refine lcT (F := F) _ hx hK _ _ (fun pn _ _ _ w => ⟨pn, w⟩) (fun pn _ _ _ w => ⟨pn, w⟩) σ H _ ⟨G, ρ, _, r, h, fun ds p vs H1 h1 e1 hp hl d1 => ?_⟩
  have ev : Evo (G.add p) G H1 H1 := ⟨fun _ _ _ h => .inl h, fun a z => z.elim (Ext.tr' r.obg r.tr e1 a) fun z => by rw [z, hl]; exact True.intro, fun a n _ z => n (.inl z), rfl, rfl⟩
  exact o.nx _ G _ H1 h1 ((r.step e1).put (v := .ref p) ⟨p, vs, rfl, r.free hp, hl, ev.dts ds vs d1⟩)
end
end DL
set_option Elab.async false
set_option linter.all false
set_option maxRecDepth 100000
set_option maxHeartbeats 1000000
namespace DL
open PySem L2
/-! ### what is owned, its parts -/
section
variable {K : PySem.W.Frag} {G G' : Gh} {H H' : Hp}
theorem OwL.app : ∀ {ts us : List Tr} {xs ys : List V} {M N : List Addr}, OwL K G H ts xs M → OwL K G H us ys N → OwL K G H (ts ++ us) (xs ++ ys) (M ++ N)
  | [], us, _, _, _, _, h, h' => by
    obtain ⟨rfl, rfl⟩ := h
    exact h'
  | t :: ts, us, _, ys, _, N, h, h' => by
    obtain ⟨x, r, A, B, rfl, h1, h2, rfl⟩ := h
    exact ⟨x, r ++ ys, A, B ++ N, rfl, h1, OwL.app h2 h', by rw [List.append_assoc]⟩
theorem OwL.len : ∀ {ts : List Tr} {xs : List V} {M : List Addr}, OwL K G H ts xs M → ts.length = xs.length
  | [], _, _, h => by rw [h.1]; rfl
  | t :: ts, _, _, h => by
    obtain ⟨x, r, A, B, rfl, h1, h2, rfl⟩ := h
    simp [OwL.len h2]
theorem OwL.split : ∀ (n : Nat) {ts : List Tr} {xs : List V} {L : List Addr}, OwL K G H ts xs L → ∃ M N, L = M ++ N ∧ OwL K G H (ts.take n) (xs.take n) M ∧ OwL K G H (ts.drop n) (xs.drop n) N
  | 0, ts, xs, L, h => ⟨[], L, rfl, ⟨rfl, rfl⟩, h⟩
  | n + 1, [], xs, L, h => by
    obtain ⟨rfl, rfl⟩ := h
    exact ⟨[], [], rfl, ⟨rfl, rfl⟩, ⟨rfl, rfl⟩⟩
  | n + 1, t :: ts, xs, L, h => by
    obtain ⟨x, r, A, B, rfl, h1, h2, rfl⟩ := h
    obtain ⟨M, N, rfl, h3, h4⟩ := OwL.split n h2
    exact ⟨A ++ M, N, by rw [List.append_assoc], ⟨x, r.take n, A, M, rfl, h1, h3, rfl⟩, h4⟩
theorem OwL.one {d : D} {v : V} (h : Dt K G H d v) : OwL K G H [.d d] [v] [] := ⟨v, [], [], [], rfl, ⟨rfl, h⟩, ⟨rfl, rfl⟩, rfl⟩
/-- an item that is data is another one -/
theorem OwL.set : ∀ {n : Nat} {ts : List Tr} {xs : List V} {L : List Addr} {d d' : D} {v : V}, OwL K G H ts xs L → ts[n]? = some (.d d) → Dt K G H d' v → OwL K G H (ts.set n (.d d')) (xs.set n v) L
  | 0, t :: ts, _, _, d, d', v, h, e, hv => by
    obtain ⟨x, r, A, B, rfl, h1, h2, rfl⟩ := h
    obtain rfl : t = .d d := by simpa using e
    obtain ⟨rfl, _⟩ := h1
    exact ⟨v, r, [], B, rfl, ⟨rfl, hv⟩, h2, rfl⟩
  | n + 1, t :: ts, _, _, d, d', v, h, e, hv => by
    obtain ⟨x, r, A, B, rfl, h1, h2, rfl⟩ := h
    exact ⟨x, r.set n v, A, B, rfl, h1, OwL.set (n := n) h2 (by simpa using e) hv, rfl⟩
  | n, [], _, _, d, d', v, h, e, hv => by simp at e
theorem OwL.get : ∀ {n : Nat} {ts : List Tr} {xs : List V} {L : List Addr} {t : Tr}, OwL K G H ts xs L → ts[n]? = some t → ∃ v M, xs[n]? = some v ∧ Ow K G H t v M ∧ ∀ p ∈ M, p ∈ L
  | 0, t :: ts, _, _, u, h, e => by
    obtain ⟨x, r, A, B, rfl, h1, h2, rfl⟩ := h
    obtain rfl : t = u := by simpa using e
    exact ⟨x, A, rfl, h1, fun p hp => List.mem_append_left _ hp⟩
  | n + 1, t :: ts, _, _, u, h, e => by
    obtain ⟨x, r, A, B, rfl, h1, h2, rfl⟩ := h
    obtain ⟨v, M, e1, e2, e3⟩ := OwL.get (n := n) h2 (by simpa using e)
    exact ⟨v, M, by simpa using e1, e2, fun p hp => List.mem_append_right _ (e3 p hp)⟩
  | n, [], _, _, u, h, e => by simp at e
end
mutual
theorem Ow.mut {K : PySem.W.Frag} {G : Gh} {H : Hp} : ∀ (t : Tr) (v : V) (L : List Addr), Ow K G H t v L → ∀ p ∈ L, Mut (H p)
  | .d x, v, L, h, p, hp => by rw [h.1] at hp; cases hp
  | .l ts, v, L, h, p, hp => by
    obtain ⟨q, xs, M, rfl, o, e, h, rfl⟩ := h
    rcases List.mem_cons.mp hp with rfl | hp
    · rw [e]; exact True.intro
    · exact OwL.mut ts xs M h p hp
  | .m b es, v, L, h, p, hp => by
    obtain ⟨q, M, rfl, o, h, rfl⟩ := h
    rcases List.mem_cons.mp hp with rfl | hp
    · rcases h with ⟨_, e, _⟩ | ⟨_, e, _⟩ <;> · rw [e]; exact True.intro
    · rcases h with ⟨kvs, _, h⟩ | ⟨kvs, _, h⟩
      · exact OwP.mut b es kvs M h p hp
      · exact OwQ.mut b es kvs M h p hp
  | .o C fs, v, L, h, p, hp => by
    obtain ⟨q, dx, vs, M, rfl, o, e, h, rfl⟩ := h
    rcases List.mem_cons.mp hp with rfl | hp
    · rw [e]; exact True.intro
    · exact OwF.mut fs vs M h p hp
  | .tp ts, v, L, h, p, hp => by
    obtain ⟨q, xs, rfl, e, h⟩ := h
    exact OwL.mut ts xs L h p hp
theorem OwF.mut {K : PySem.W.Frag} {G : Gh} {H : Hp} : ∀ (es : List (Str × Tr)) (kvs : List (Str × V)) (L : List Addr), OwF K G H es kvs L → ∀ p ∈ L, Mut (H p)
  | [], xs, L, h, p, hp => by rw [h.2] at hp; cases hp
  | (k, t) :: es, kvs, L, h, p, hp => by
    obtain ⟨v, r, M, N, rfl, h1, h2, rfl⟩ := h
    rcases List.mem_append.mp hp with hp | hp
    · exact Ow.mut t v M h1 p hp
    · exact OwF.mut es r N h2 p hp
theorem OwL.mut {K : PySem.W.Frag} {G : Gh} {H : Hp} : ∀ (ts : List Tr) (xs : List V) (L : List Addr), OwL K G H ts xs L → ∀ p ∈ L, Mut (H p)
  | [], xs, L, h, p, hp => by rw [h.2] at hp; cases hp
  | t :: ts, xs, L, h, p, hp => by
    obtain ⟨x, r, M, N, rfl, h1, h2, rfl⟩ := h
    rcases List.mem_append.mp hp with hp | hp
    · exact Ow.mut t x M h1 p hp
    · exact OwL.mut ts r N h2 p hp
theorem OwP.mut {K : PySem.W.Frag} {G : Gh} {H : Hp} (b : Bool) : ∀ (es : List (D × Tr)) (kvs : List (Key × V)) (L : List Addr), OwP K G H b es kvs L → ∀ p ∈ L, Mut (H p)
  | [], xs, L, h, p, hp => by rw [h.2.2] at hp; cases hp
  | (k, t) :: es, kvs, L, h, p, hp => by
    obtain ⟨j, v, r, M, N, rfl, _, h1, h2, rfl⟩ := h
    rcases List.mem_append.mp hp with hp | hp
    · exact Ow.mut t v M h1 p hp
    · exact OwP.mut b es r N h2 p hp
theorem OwQ.mut {K : PySem.W.Frag} {G : Gh} {H : Hp} (b : Bool) : ∀ (es : List (D × Tr)) (kvs : List (List Key × V)) (L : List Addr), OwQ K G H b es kvs L → ∀ p ∈ L, Mut (H p)
  | [], xs, L, h, p, hp => by rw [h.2.2] at hp; cases hp
  | (k, t) :: es, kvs, L, h, p, hp => by
    obtain ⟨j, v, r, M, N, rfl, _, h1, h2, rfl⟩ := h
    rcases List.mem_append.mp hp with hp | hp
    · exact Ow.mut t v M h1 p hp
    · exact OwQ.mut b es r N h2 p hp
end
/-! ### new things -/
noncomputable abbrev TRD := List Sl → (Tr → Prop) → Prop
noncomputable abbrev TRL := List Sl → (List Tr → Prop) → Prop
/-- what is new and nothing else knows -/
noncomputable def liftR (F : Fr) (T : TRD) : TE := fun σ H Q => ∃ G ρ k, Rel F G H σ ρ ∧ T ρ k ∧ ∀ t v R H', k t → Ext G H H' → (∀ p ∈ R, H p = none) → R.Nodup → Ow F.K (G.adds R) H' t v R → Q v H'
noncomputable def liftRA (F : Fr) (T : TRL) : TA := fun σ H Q => ∃ G ρ k, Rel F G H σ ρ ∧ T ρ k ∧ ∀ ts vs R H', k ts → Ext G H H' → (∀ p ∈ R, H p = none) → R.Nodup → OwL F.K (G.adds R) H' ts vs R → Q vs H'
noncomputable def treeT (t : TLD) : TRD := fun ρ k => t ρ fun ds => k (.l (ds.map .d))
noncomputable def datR (t : TD) : TRD := fun ρ k => t ρ fun d => k (.d d)
noncomputable def nilR : TRL := fun _ k => k []
noncomputable def consR (t : TRD) (u : TRL) : TRL := fun ρ k => t ρ fun x => u ρ fun xs => k (x :: xs)
section
variable {X : Cx} {F : Fr} {e : Expr} {es : List Expr} {te : TD} {ta : TLD} {tr : TRD} {tl : TRL} {pos : Pos}
theorem r_tree (h : PE X e (liftF F ta)) : PE X e (liftR F (treeT ta)) := by
  refine pe_imp h fun σ H Q ⟨G, ρ, k, r, h, q⟩ => ⟨G, ρ, _, r, h, fun ds p vs H1 h1 e1 hp hv hd => ?_⟩
  refine q _ (.ref p) [p] H1 h1 e1 (fun a ha => by rw [List.mem_singleton.mp ha]; exact hp) (by simp) ?_
  rw [Gh.adds_one]
  exact ⟨p, vs, [], rfl, .inr rfl, hv, Ow.ofL hd, rfl⟩
theorem r_dat (h : PE X e (lift F te)) : PE X e (liftR F (datR te)) := by
  refine pe_imp h fun σ H Q ⟨G, ρ, k, r, h, q⟩ => ⟨G, ρ, _, r, h, fun d v H1 h1 e1 hd => ?_⟩
  refine q _ v [] H1 h1 e1 (fun a ha => nomatch ha) List.nodup_nil ?_
  rw [Gh.adds_nil]
  exact ⟨rfl, hd⟩
theorem ra_nil : PA X [] (liftRA F nilR) := pa_imp pa_nil fun σ H Q ⟨G, ρ, k, r, h, q⟩ => q [] [] [] H h (.refl r.bag) (fun _ z => nomatch z) List.nodup_nil ⟨rfl, rfl⟩
theorem Gh.adds_adds (G : Gh) (R S : List Addr) : (G.adds R).adds S = G.adds (R ++ S) := by
  unfold Gh.adds
  congr 1
  funext a
  simp [or_assoc]
theorem ra_cons (ha : PE X e (liftR F tr)) (hr : PA X es (liftRA F tl)) (hs : starEach (e :: es) X.env = (false, eval e X.env) :: starEach es X.env := by rfl) : PA X (e :: es) (liftRA F (consR tr tl)) := by
  refine pa_imp (pa_cons ha hr hs) fun σ H Q ⟨G, ρ, k, r, h, q⟩ => ⟨G, ρ, _, r, h, fun t v R H1 h1 e1 hR nR o1 => ?_⟩
  have own1 := Ow.own t v R o1
  have mutR : ∀ p ∈ R, Mut (H1 p) := fun p hp => Ow.mut t v R o1 p hp
  have r1 := r.grows e1 hR mutR
  refine ⟨G.adds R, ρ, _, r1, h1, fun ts vs S H2 h2 e2 hS nS o2 => ?_⟩
  have dj : ∀ p ∈ R, p ∉ S := fun p hp z => (own1 p hp).2 (hS p z)
  have e12 : Ext G H H2 := e1.trans (Ext.cg (G := G.adds R) (G' := G) rfl rfl (fun _ h => .inl h) e2)
  refine q (t :: ts) (v :: vs) (R ++ S) H2 h2 e12 (fun p hp => ?_) (List.nodup_append.mpr ⟨nR, nS, fun a ha b hb z => dj a ha (z ▸ hb)⟩) ?_
  · rcases List.mem_append.mp hp with z | z
    · exact hR p z
    · exact e1.free r.bag (hS p z)
  · rw [Gh.adds_adds] at o2
    have ev := r1.evoAdds e2 hS
    rw [Gh.adds_adds] at ev
    refine ⟨v, vs, R, S, rfl, Ow.evo ev t v R (fun p hp => ⟨.inr (List.mem_append_left _ hp), ?_⟩) o1, o2, rfl⟩
    have np : p ≠ G.bg := fun z => by
      have := r.bag.ne
      rw [← z] at this
      exact this (hR p hp)
    cases w : H1 p with
    | none => exact absurd w (own1 p hp).2
    | some o => exact e2.mine np w (.inr hp)
end
/-! ### statements on what is owned -/
noncomputable def frzT (i : Nat) (S : TSD) : TSD := fun k ρ => match ρ[i]? with
  | some (.tr t) => S k (ρ.set i (.dat t.toD))
  | _ => False
/-- what a def makes anew -/
noncomputable def newT (i : Nat) (t : TLD) : TSD := fun k ρ => t ρ fun ds => k.nx (ρ.set i (.ml ds))
noncomputable def newR (i : Nat) (t : TRD) : TSD := fun k ρ => t ρ fun x => k.nx (ρ.set i (.tr x))
noncomputable abbrev MD := List Tr → List D → (List Tr → Prop) → Prop
/-- x.m(..), x a name that owns its list -/
noncomputable def mT (i : Nat) (o : MD) (ta : TLD) : TSD := fun k ρ => match ρ[i]? with
  | some (.tr (.l ts)) => ta ρ fun args => o ts args fun us => k.nx (ρ.set i (.tr (.l us)))
  | _ => False
noncomputable def appD : MD
  | ts, [d], k => ts.length < sizeLine ∧ k (ts ++ [.d d])
  | _, _, _ => False
noncomputable def extD : MD
  | ts, [.lst es], k => ts.length + es.length ≤ sizeLine ∧ k (ts ++ es.map .d)
  | _, _, _ => False
noncomputable def insD : MD
  | ts, [.int j, d], k => ts.length < sizeLine ∧ 0 ≤ j ∧ j < 2 ^ 63 ∧ k (ts.take j.toNat ++ [.d d] ++ ts.drop j.toNat)
  | _, _, _ => False
noncomputable def putT (i : Nat) (t u : TD) : TSD := fun k ρ => match ρ[i]? with
  | some (.tr (.l ts)) => u ρ fun d => t ρ fun x => match x with
    | .int j => optK (ixN ts.length j) fun n => (∃ c, ts[n]? = some (.d c)) ∧ k.nx (ρ.set i (.tr (.l (ts.set n (.d d)))))
    | _ => False
  | _ => False
theorem tl_of {i : Nat} {ρ : List Sl} {f : List Tr → Prop} (h : match ρ[i]? with
  | some (.tr (.l ts)) => f ts
  | _ => False) : ∃ ts, ρ[i]? = some (.tr (.l ts)) ∧ f ts := by
  split at h
  · exact ⟨_, by assumption, h⟩
  · exact h.elim
section
variable {X : Cx} {F : Fr} {st : List Stmt} {S : TSD} {e : Expr} {te : TD} {pos apos cpos : Pos}
theorem ss_frz (i : Nat) (h : PSs X st (liftS F S)) : PSs X st (liftS F (frzT i S)) := by
  refine pss_imp h fun E σ H ⟨G, ρ, k, r, w, o⟩ => ?_
  unfold frzT at w
  split at w
  · rename_i t hi
    obtain ⟨B, r'⟩ := r.frz hi
    exact ⟨_, _, k, r', w, o⟩
  · exact w.elim
theorem s_newR {i : Nat} {x : Str} {pos' : Pos} {ta : TRD} (hN : X.N.Nodup) (hi : X.N[i]? = some x) (hx : Loc X.env.scope x) (he : PE X e (liftR F ta)) (hs : swapsWith e (some (.Name x pos')) pos.line X.env = pure false := by rfl)
    (hf : X.fn x = true ∨ X.env.scope.names.lookup x = some .local := by first | exact .inl rfl | exact .inr rfl | assumption) : PS X (.Assign [.Name x pos'] e pos) (liftS F (newR i ta)) := by
  refine ps_imp (ps_set hN hi hx he hs hf) fun E σ H ⟨G, ρ, k, r, h, o⟩ => ⟨G, ρ, _, r, h, fun t v R H1 h1 e1 hR nR o1 => ?_⟩
  obtain ⟨L, rl⟩ := r.adrs
  exact o.nx _ _ _ H1 h1 ((rl.grows e1 hR fun p hp => Ow.mut t v R o1 p hp).give (i := i) o1 nR (fun p hp z => r.free (hR p hp) (r.sub p z)) fun p hp => rl.new (hR p hp))
theorem s_new {i : Nat} {x : Str} {pos' : Pos} {ta : TLD} (hN : X.N.Nodup) (hi : X.N[i]? = some x) (hx : Loc X.env.scope x) (he : PE X e (liftF F ta)) (hs : swapsWith e (some (.Name x pos')) pos.line X.env = pure false := by rfl)
    (hf : X.fn x = true ∨ X.env.scope.names.lookup x = some .local := by first | exact .inl rfl | exact .inr rfl | assumption) : PS X (.Assign [.Name x pos'] e pos) (liftS F (newT i ta)) :=
  ps_imp (s_newR hN hi hx (r_tree he) hs hf) fun E σ H ⟨G, ρ, k, r, h, o⟩ => ⟨G, ρ, k, r, h, o⟩
theorem s_meth {i : Nat} {r : V → List V → Hp → VK → Prop} {o : MD} {ta : TLD} (hr : ∀ (G : Gh) (H : Hp) (p : Addr) (xs : List V) (ts : List Tr) (M : List Addr) (args : List D) (vs : List V) (k : List Tr → Prop) (Q : VK), H p = some (.lst xs) → OwL F.K G H ts xs M → DtL F.K G H args vs → o ts args k →
      (∀ us ys w, k us → OwL F.K G H us ys M → Q w (upd H p (.lst ys))) → r (.ref p) vs H Q)
    (hpe : PE X e (tBM X.K "list" r (tVar i) (liftA F ta))) (hs : swapsWith e none pos.line X.env = pure false := by rfl) : PS X (.Expr e pos) (liftS F (mT i o ta)) := by
  refine ps_imp (ps_expr hpe hs) fun E σ H ⟨G, ρ, k, r, h, o⟩ => ?_
  obtain ⟨ts, hi, h⟩ := tl_of h
  obtain ⟨v, B, e1, ⟨p, xs, M, rfl, o2, h4, h5, rfl⟩, _, _, _⟩ := r.chg hi
  refine ⟨_, e1, .inl ⟨rfl, _, SqL.of h4⟩, G, ρ, _, r, h, fun args vs H1 h1 x1 d1 => ?_⟩
  have r1 := r.step x1
  obtain ⟨v, B, e1', ⟨p', xs, M, rfl, o2, h4, h5, rfl⟩, nB, _, ch⟩ := r1.chg hi
  rw [e1] at e1'
  cases e1'
  refine hr G H1 p xs ts M args vs _ _ h4 h5 d1 h1 fun us ys w hk hd => ?_
  have np : p ∉ M := (List.nodup_cons.mp nB).1
  have ev : Evo G G H1 (upd H1 p (.lst ys)) := ⟨fun a u n h => .inl (by rw [upd_ne (fun z => n (by rw [z]; exact o2))]; exact h), r1.tr, fun _ n _ => n, rfl, rfl⟩
  exact o.nx _ G σ _ hk (ch p _ (.l us) List.mem_cons_self True.intro ⟨p, ys, M, rfl, o2, upd_same, Ow.evoL ev us ys M (fun q hq => ⟨(OwL.own us ys M hd q hq).1, upd_ne fun z => np (z ▸ hq)⟩) hd, rfl⟩)
theorem s_app (i : Nat) {x : Str} {px : Pos} {ta : TLD} (ha : PA X [e] (liftA F ta))
    (hpe : PE X (.Call (.Attribute (.Name x px) "append" apos) [e] [] cpos) (tBM X.K "list" rAppend (tVar i) (liftA F ta))) (hs : swapsWith (.Call (.Attribute (.Name x px) "append" apos) [e] [] cpos) none pos.line X.env = pure false := by rfl) :
    PS X (.Expr (.Call (.Attribute (.Name x px) "append" apos) [e] [] cpos) pos) (liftS F (mT i appD ta)) := by
  refine s_meth (fun G H p xs ts M args vs k Q hp hd ha h q => ?_) hpe hs
  unfold appD at h
  split at h
  · obtain ⟨v, rfl, hv⟩ := dl1 ha
    exact ⟨p, xs, v, rfl, rfl, hp, by rw [← hd.len]; exact h.1, q _ _ _ h.2 (by have := hd.app (OwL.one hv); rwa [List.append_nil] at this)⟩
  · exact h.elim
theorem s_ext (i : Nat) {x : Str} {px : Pos} {ta : TLD} (ha : PA X [e] (liftA F ta))
    (hpe : PE X (.Call (.Attribute (.Name x px) "extend" apos) [e] [] cpos) (tBM X.K "list" rExtend (tVar i) (liftA F ta))) (hs : swapsWith (.Call (.Attribute (.Name x px) "extend" apos) [e] [] cpos) none pos.line X.env = pure false := by rfl) :
    PS X (.Expr (.Call (.Attribute (.Name x px) "extend" apos) [e] [] cpos) pos) (liftS F (mT i extD ta)) := by
  refine s_meth (fun G H p xs ts M args vs k Q hp hd ha h q => ?_) hpe hs
  unfold extD at h
  split at h
  · obtain ⟨v, rfl, a, zs, rfl, n, hz, hv⟩ := dl1 ha
    exact ⟨p, a, xs, zs, rfl, rfl, hp, hz, by rw [← hd.len, ← hv.len]; exact h.1, q _ _ _ h.2 (by have := hd.app (Ow.ofL hv); rwa [List.append_nil] at this)⟩
  · exact h.elim
theorem s_ins (i : Nat) {x : Str} {px : Pos} {e2 : Expr} {ta : TLD} (ha : PA X [e, e2] (liftA F ta))
    (hpe : PE X (.Call (.Attribute (.Name x px) "insert" apos) [e, e2] [] cpos) (tBM X.K "list" (fun x vs H Q => ∃ (l : Addr) (xs : List V) (i : Int) (y : V), x = .ref l ∧ vs = [.int i, y] ∧ H l = some (.lst xs) ∧ xs.length < sizeLine ∧ 0 ≤ i ∧ i < 2 ^ 63 ∧
      Q .non (upd H l (.lst (xs.take i.toNat ++ [y] ++ xs.drop i.toNat)))) (tVar i) (liftA F ta))) (hs : swapsWith (.Call (.Attribute (.Name x px) "insert" apos) [e, e2] [] cpos) none pos.line X.env = pure false := by rfl) :
    PS X (.Expr (.Call (.Attribute (.Name x px) "insert" apos) [e, e2] [] cpos) pos) (liftS F (mT i insD ta)) := by
  refine s_meth (fun G H p xs ts M args vs k Q hp hd ha h q => ?_) hpe hs
  unfold insD at h
  split at h
  · rename_i j d
    obtain ⟨v, w, rfl, hv, hw⟩ := dl2 ha
    obtain rfl := hv
    obtain ⟨A, B, rfl, h1, h2⟩ := hd.split j.toNat
    exact ⟨p, xs, _, w, rfl, rfl, hp, by rw [← hd.len]; exact h.1, h.2.1, h.2.2.1, q _ _ _ h.2.2.2 (by have := (h1.app (OwL.one hw)).app h2; rwa [List.append_nil] at this)⟩
  · exact h.elim
/-- x[t] = e, x a name that owns its list -/
theorem s_put (i : Nat) {x : Str} {px tpos : Pos} {t : Expr} {tt : TD} (he : PE X e (lift F te)) (ht : PE X t (lift F tt)) (hN : X.N[i]? = some x := by rfl) (hv : Vis X.env.scope x := by first | exact Or.inl rfl | exact Or.inr (Or.inl rfl) | exact Or.inr (Or.inr rfl)) (hd : (x == ("__debug__" : Str)) = false := by decide)
    (hcd : (x == ("__classdict__" : Str)) = false := by decide)
    (hsub : ∀ v, assign (.Subscript (.Name x px) t tpos) X.env v = (do
      let ov ← holding [v] (eval (.Name x px) X.env)
      let iv ← holding [v, ov] (eval t X.env)
      standAt tpos
      holding [v, ov, iv] (setItem ov iv v)
      release [v, ov, iv] []) := by intro _; rfl)
    (hs : swapsWithSole [.Subscript (.Name x px) t tpos] e pos.line X.env = pure false := by rfl) (hw : swappedStores [.Subscript (.Name x px) t tpos] e X.env = pure none := by rfl) (h1 : (assignEach [.Subscript (.Name x px) t tpos] X.env).map (·.2) = [assign (.Subscript (.Name x px) t tpos) X.env] := by rfl) :
    PS X (.Assign [.Subscript (.Name x px) t tpos] e pos) (liftS F (putT i tt te)) := by
  refine ps_imp (ps_asg he (pg_sub (pe_var hN hv hd hcd) ht set_list hsub) hs hw h1) fun E σ H ⟨G, ρ, k, r, h, o⟩ => ?_
  obtain ⟨ts, hi, h⟩ := tl_of h
  refine ⟨G, ρ, _, r, h, fun d v H1 h1 x1 d1 => ?_⟩
  have r1 := r.step x1
  obtain ⟨u, B, e1, ⟨p, xs, M, rfl, _, _, _, rfl⟩, _, _, _⟩ := r1.chg hi
  refine ⟨_, e1, G, ρ, _, r1, h1, fun j u H2 h2' x2 d2 => ?_⟩
  have r2 := r1.step x2
  obtain ⟨v', B', e1', ⟨p', xs, M, rfl, o2, h4, h5, rfl⟩, nB, _, ch⟩ := r2.chg hi
  rw [e1] at e1'
  cases e1'
  cases j <;> try exact (show False from h2').elim
  obtain ⟨n, hn, ⟨c, hc⟩, hk⟩ := h2'
  obtain rfl := d2
  rw [h5.len] at hn
  refine ⟨p, xs, _, n, rfl, rfl, h4, hn, ?_⟩
  have np : p ∉ M := (List.nodup_cons.mp nB).1
  have ev : Evo G G H2 (upd H2 p (.lst (xs.set n v))) := ⟨fun a u n h => .inl (by rw [upd_ne (fun z => n (by rw [z]; exact o2))]; exact h), r2.tr, fun _ n _ => n, rfl, rfl⟩
  have d3 := (r1.evo x2).dt _ _ d1
  have h6 := h5.set hc d3
  exact o.nx _ G σ _ hk (ch p _ _ List.mem_cons_self True.intro ⟨p, _, M, rfl, o2, upd_same, Ow.evoL ev _ _ M (fun q hq => ⟨(OwL.own _ _ M h6 q hq).1, upd_ne fun z => np (z ▸ hq)⟩) h6, rfl⟩)
end
/-! ### reading what is owned, for a flat result -/
mutual
noncomputable def D.flat : D → Bool
  | .non => true
  | .bl _ => true
  | .int _ => true
  | .str _ => true
  | .tup ds => D.flats ds
  | _ => false
noncomputable def D.flats : List D → Bool
  | [] => true
  | d :: ds => d.flat && D.flats ds
end
section
variable {K : PySem.W.Frag} {G G' : Gh} {H H' : Hp}
mutual
theorem Dt.flat (hs : ∀ a xs, H a = some (.tup xs) → H' a = some (.tup xs)) : ∀ (d : D) (v : V), d.flat = true → Dt K G H d v → Dt K G' H' d v
  | .non, v, _, h => h
  | .bl b, v, _, h => h
  | .int i, v, _, h => h
  | .str x, v, _, h => h
  | .tup ds, v, f, h => by
    obtain ⟨a, xs, h1, h3, h4⟩ := h
    exact ⟨a, xs, h1, hs _ _ h3, Dt.flats hs ds xs (by simpa only [D.flat] using f) h4⟩
  | .lst ds, v, f, h => by simp [D.flat] at f
  | .dic t ds, v, f, h => by simp [D.flat] at f
  | .ins C ds, v, f, h => by simp [D.flat] at f
  | .glb _, v, f, h => by simp [D.flat] at f
  | .bag, v, f, h => by simp [D.flat] at f
  | .lock _ _, v, f, h => by simp [D.flat] at f
  | .at _ _, v, f, h => by simp [D.flat] at f
theorem Dt.flats (hs : ∀ a xs, H a = some (.tup xs) → H' a = some (.tup xs)) : ∀ (ds : List D) (vs : List V), D.flats ds = true → DtL K G H ds vs → DtL K G' H' ds vs
  | [], _, _, h => h
  | d :: ds, vs, f, h => by
    obtain ⟨x, r, h1, h2, h3⟩ := h
    simp only [D.flats, Bool.and_eq_true] at f
    exact ⟨x, r, h1, Dt.flat hs d x f.1 h2, Dt.flats hs ds r f.2 h3⟩
end
end
/-! what was locked on the way is unlocked -/
noncomputable def thaw1 (p : Addr) (H : Hp) : Hp := match H p with
  | some (.frz _ u) => upd H p u
  | _ => H
noncomputable def thaw : List Addr → Hp → Hp
  | [], H => H
  | p :: R, H => thaw R (thaw1 p H)
theorem thaw1_cases (p : Addr) (H : Hp) : thaw1 p H = H ∨ ∃ o u, H p = some (.frz o u) ∧ thaw1 p H = upd H p u := by
  unfold thaw1
  split
  · rename_i o u e
    exact .inr ⟨o, u, e, rfl⟩
  · exact .inl rfl
theorem thaw1_out {p a : Addr} {H : Hp} (h : a ≠ p) : thaw1 p H a = H a := by
  rcases thaw1_cases p H with e | ⟨o, u, _, e⟩
  · rw [e]
  · rw [e]; exact upd_ne h
theorem thaw_out : ∀ {R : List Addr} {a : Addr} {H : Hp}, a ∉ R → thaw R H a = H a
  | [], _, _, _ => rfl
  | p :: R, a, H, h => by
    rw [List.mem_cons, not_or] at h
    show thaw R (thaw1 p H) a = H a
    rw [thaw_out h.2, thaw1_out h.1]
noncomputable def Frz : HO → Prop
  | .frz _ _ => True
  | _ => False
theorem thaw1_same {p : Addr} {H : Hp} {o : HO} (n : ¬ Frz o) (h : H p = some o ∨ ∃ od, H p = some (.frz od o)) : thaw1 p H p = some o := by
  unfold thaw1
  rcases h with h | ⟨od, h⟩
  · rw [h]
    cases o <;> first | exact h | exact absurd True.intro n
  · rw [h]
    exact upd_same
theorem thaw_in : ∀ {R : List Addr} {a : Addr} {H : Hp} {o : HO}, ¬ Frz o → (H a = some o ∨ ((∃ od, H a = some (.frz od o)) ∧ a ∈ R)) → thaw R H a = some o
  | [], _, _, _, _, h => h.elim _root_.id fun z => nomatch z.2
  | p :: R, a, H, o, n, h => by
    show thaw R (thaw1 p H) a = some o
    by_cases e : a = p
    · subst e
      exact thaw_in n (.inl (thaw1_same n (h.imp _root_.id fun z => z.1)))
    · refine thaw_in n ?_
      rw [thaw1_out e]
      exact h.imp _root_.id fun z => ⟨z.1, (List.mem_cons.mp z.2).resolve_left e⟩
section
variable {X : Cx} {pins : List (Addr × Obj)} {σ : L2.St} {H : Hp} {s : Shared} {e : Expr}
theorem Inv.thaw : ∀ {R : List Addr} {H : Hp}, Inv X pins σ H s → (∀ p ∈ R, ∀ o' u', X.H_0 p ≠ some (.frz o' u')) → Inv X pins σ (DL.thaw R H) s
  | [], _, I, _ => I
  | p :: R, H, I, n => by
    show Inv X pins σ (DL.thaw R (thaw1 p H)) s
    refine Inv.thaw ?_ fun q hq => n q (List.mem_cons_of_mem _ hq)
    unfold thaw1
    split
    · rename_i o u h
      exact I.unlock h (n p List.mem_cons_self)
    · exact I
theorem pe_thaw {t : TE} (h : PE X e t) : PE X e (fun σ H Q => ∃ R, (∀ p ∈ R, ∃ u, H p = some u ∧ Mut (some u)) ∧ t σ H fun v H' => Q v (DL.thaw R H')) := by
  refine ⟨fun pins s σ H Q I ⟨R, hR, w⟩ => ?_⟩
  refine thn (h.run pins s σ H _ I w) fun v s1 ⟨x, H1, I1, r, q⟩ => ?_
  exact ⟨x, _, Inv.thaw I1 (fun p hp => let ⟨u, h1, h2⟩ := hR p hp; I.nofrz h1 h2), r, q⟩
theorem pt_thaw {t : TT} (h : PT X e t) : PT X e (fun σ H Q => ∃ R, (∀ p ∈ R, ∃ u, H p = some u ∧ Mut (some u)) ∧ t σ H fun v H' => Q v (DL.thaw R H')) := by
  refine ⟨fun pins s σ H Q I ⟨R, hR, w⟩ => ?_⟩
  refine thn (h.run pins s σ H _ I w) fun b s1 ⟨H1, I1, q⟩ => ?_
  exact ⟨_, Inv.thaw I1 (fun p hp => let ⟨u, h1, h2⟩ := hR p hp; I.nofrz h1 h2), q⟩
end
noncomputable def thruT (i : Nat) (t : TD) : TD := fun ρ k => match ρ[i]? with
  | some (.tr x) => t (ρ.set i (.dat x.toD)) fun d => d.flat = true ∧ k d
  | _ => False
noncomputable def thruB (i : Nat) (t : TBD) : TBD := fun ρ k => match ρ[i]? with
  | some (.tr x) => t (ρ.set i (.dat x.toD)) k
  | _ => False
section
variable {X : Cx} {F : Fr} {e : Expr} {te : TD} {tb : TBD} {G : Gh} {H H' : Hp} {R : List Addr}
theorem Ext.rem (x : Ext (G.rems R) H H') (hR : ∀ p ∈ R, ∃ u, H p = some u ∧ Mut (some u)) (nb : G.bg ∉ R) (ni : G.bi ∉ R) : Ext G H (DL.thaw R H') := by
  refine ⟨fun a o n h => ?_, ?_⟩
  · by_cases m : a ∈ R
    · obtain ⟨u, h1, h2⟩ := hR a m
      rw [h] at h1
      cases h1
      have nf : ¬ Frz o := fun z => by cases o <;> first | exact z | exact h2
      exact .inl (thaw_in nf ((x.lk n h).imp _root_.id fun z => ⟨z.2, m⟩))
    · rw [thaw_out m]
      exact (x.keep a o n h).imp _root_.id fun z => ⟨fun w => z.1 ⟨w, m⟩, z.2⟩
  · obtain ⟨p, q, r, ns, h1, h2, h3⟩ := x.bag
    exact ⟨p, q, r, ns, by rw [thaw_out nb]; exact h1, by rw [thaw_out ni]; exact h2, h3⟩
theorem thaw_sqt (x : Ext (G.rems R) H H') (hR : ∀ p ∈ R, ∃ u, H p = some u ∧ Mut (some u)) (nb : G.bg ∉ R) : ∀ a xs, H' a = some (.tup xs) → DL.thaw R H' a = some (.tup xs) := by
  intro a xs h
  by_cases m : a ∈ R
  · obtain ⟨u, h1, h2⟩ := hR a m
    have q := x.lk (fun z => nb (by rw [← show a = G.bg from z]; exact m)) h1
    exfalso
    rcases q with q | ⟨d, od, q⟩
    · rw [h] at q; cases q; exact h2
    · rw [h] at q; cases q
  · rw [thaw_out m]; exact h
theorem Rel.frzR {σ : L2.St} {ρ : List Sl} (r : Rel F G H σ ρ) {i : Nat} {t : Tr} (hi : ρ[i]? = some (.tr t)) : ∃ B, Rel F (G.rems B) H σ (ρ.set i (.dat t.toD)) ∧ (∀ p ∈ B, ∃ u, H p = some u ∧ Mut (some u)) ∧ G.bg ∉ B ∧ G.bi ∉ B := by
  obtain ⟨B, v, r', hw, hn⟩ := r.frzA hi
  refine ⟨B, r', fun p hp => ?_, fun z => hn _ z (by rw [r.bg]; exact r.ob), fun z => hn _ z (by rw [r.bi]; exact r.oi)⟩
  have m := Ow.mut t v B hw p hp
  cases q : H p with
  | none => rw [q] at m; exact m.elim
  | some u => exact ⟨u, rfl, by rw [q] at m; exact m⟩
theorem d_thru (i : Nat) (h : PE X e (lift F te)) : PE X e (lift F (thruT i te)) := by
  refine pe_imp (pe_thaw h) fun σ H Q ⟨G, ρ, k, r, w, q⟩ => ?_
  unfold thruT at w
  split at w
  · rename_i t hi
    obtain ⟨B, r', hB, nb, ni⟩ := r.frzR hi
    exact ⟨B, hB, _, _, _, r', w, fun d v H' ⟨f, h⟩ x hd => q d v _ h (x.rem hB nb ni) (Dt.flat (thaw_sqt x hB nb) d v f hd)⟩
  · exact w.elim
theorem t_thru (i : Nat) (h : PT X e (liftT F tb)) : PT X e (liftT F (thruB i tb)) := by
  refine pt_imp (pt_thaw h) fun σ H Q ⟨G, ρ, k, r, w, q⟩ => ?_
  unfold thruB at w
  split at w
  · rename_i t hi
    obtain ⟨B, r', hB, nb, ni⟩ := r.frzR hi
    exact ⟨B, hB, _, _, _, r', w, fun b H' h x => q b _ h (x.rem hB nb ni)⟩
  · exact w.elim
end
/-! ### a def of data by its body -/
theorem slots_un {F : Fr} {G : Gh} {H : Hp} : ∀ n : Nat, Slots F G H (List.replicate n .un) (List.replicate n none) []
  | 0 => ⟨rfl, rfl⟩
  | n + 1 => ⟨none, _, [], [], rfl, rfl, slots_un n, rfl⟩
theorem slots_start {F : Fr} {G : Gh} {H : Hp} (n : Nat) : ∀ {ds : List D} {vs : List V}, DtL F.K G H ds vs → Slots F G H (ds.map .dat ++ List.replicate n .un) (vs.map some ++ List.replicate n none) []
  | [], vs, h => by
    obtain rfl : vs = [] := h
    exact slots_un n
  | d :: ds, vs, h => by
    obtain ⟨x, r, rfl, h1, h2⟩ := h
    exact ⟨some x, _, [], [], rfl, ⟨rfl, x, rfl, h1⟩, slots_start n h2, rfl⟩
/-- the entry's slots -/
noncomputable def enterS (n : Nat) (ds : List D) : List Sl := ds.map .dat ++ List.replicate (n - ds.length) .un
noncomputable def endD (k : D → Prop) : DE := ⟨fun _ => k .non, fun t => k t.toD, fun _ => False, fun _ => False, fun d _ => k (Tr.d d).toD⟩
/-- what is new, as data -/
theorem ow_toD {K : PySem.W.Frag} {G : Gh} {H H' : Hp} {t : Tr} {v : V} {R : List Addr} (ok : GOk G H) (x : Ext G H H') (hR : ∀ p ∈ R, H p = none) (ho : Ow K (G.adds R) H' t v R) : Dt K G H' t.toD v := by
  have tr : ∀ a, (G.adds R).own a → Mut (H' a) := fun a z => z.elim (Ext.tr' ok.ob ok.tr x a) fun z => Ow.mut t v R ho a z
  have h := Ow.dt tr t v R (fun _ z => z) ho
  refine Evo.dt (G := (G.adds R).rems R) ⟨fun _ _ _ h => .inl h, fun a z => tr a z.1, fun a n _ z => n ⟨.inl z, fun w => ?_⟩, rfl, rfl⟩ _ _ h
  have m := ok.tr a z
  rw [hR a w] at m
  exact m
open PySem.Spec PyProof.Rows in
theorem Fun.okD {P : Program} {w : World} {K : PySem.W.Frag} {mg : Str → Option Value} {base : Heap} {x qual : Str} {st : Stmt} {f : Addr} {fd : FuncData} {N ps : List Str} {k : Nat} {R : RD} (Fn : Fun K x qual st f fd) (S : FnScope N ps (defScope st))
    (len : ∀ ds k, R ds k → ds.length = ps.length)
    (hb : ∃ T : TSD, (∀ (cdv : Value) (A : Around) (outer : List Env) (s : Shared) (H : Hp) (E : XK) (G : Gh) (H' : Hp) (pn : List (V × D)), Room k (A.deeper (envOfC qual (defScope st) s.heap.objs.size f cdv)) → A.guards = some [] →
      PSs (cxOf CX0 P w K mg base N qual (defScope st) f cdv A outer s H E).nox (defBody st) (liftS ⟨K, G, H', pn⟩ T)) ∧ ∀ ds κ, R ds κ → T (endD κ) (enterS N.length ds)) : FnG P w K mg base CX0 (k + 1) f fd ps (spD K R) := by
  obtain ⟨oc, od, kV, doc, pm, an, cdv, ct, osl, rfl, lk, hcd⟩ := Fn.ex
  obtain ⟨T, hb, hq⟩ := hb
  refine fnG_of lk hcd S (fun vs H Q E h => ?_) fun A outer s H vs Q E hr hg h => ?_
  · obtain ⟨G, ds, κ, _, hd, hR, _⟩ := h
    rw [← hd.len]; exact len ds κ hR
  · obtain ⟨G, ds, κ, ok, hd, hR, q⟩ := h
    refine ⟨_, (hb cdv A outer s H E G H [] hr hg).nox, G, _, endD κ, ⟨rfl, rfl, ok.ob, ok.oi, fun _ h => h, fun a h n => absurd h n, ok.tr, .refl ok.bag, (fun _ z => nomatch z), [], ?_, List.nodup_nil⟩, hq ds κ hR,
      ⟨fun ρ G' σ' H' h r => q .non .non H' h r.ext rfl, fun t v R H' h x hR nR ho => q t.toD v H' h x (ow_toD ok x hR ho), fun _ _ _ _ h _ => h.elim, fun _ _ _ _ h _ => h.elim, fun d ρ G' σ' H' v h r hd => q (Tr.d d).toD v H' h r.ext (by simp only [Tr.toD]; exact r.less.dt d v hd)⟩⟩
    unfold enterS L2.start
    rw [hd.len]
    exact slots_start _ hd
end DL
set_option Elab.async false
set_option linter.all false
set_option maxRecDepth 100000
set_option maxHeartbeats 4000000
namespace DL
open PySem PySem.Spec PyProof.Rows L2
/-! ### enumerate(v), v a tuple -/
theorem meets_enum1 {v : Value} {o : Obj} {H : Heap → Prop} (B : Begins v o H) :
    Meets (Builtin.«enumerate.__new__» ⟨[.type "enumerate", v], []⟩) (fun _ R s => H s.heap ∧
      R (.ok (.ret (.ref (s.heap.push o).objs.size))) { s with heap := (s.heap.push o).push { cls := .type "enumerate", data := .fields #[.none, .bool false, .ref s.heap.objs.size, rawInt 0, .none, .none] } }) :=
  .of_wp fun prog w A R s h => by
    obtain ⟨hp, g, d, tk, os⟩ := s; obtain ⟨h1, h⟩ := h
    have hsub := sub_enumerate
    have q1 : ∀ {A' : Around} {E : Value → Shared → Prop} {Q : Value → Shared → Prop}, Q (.ref hp.objs.size) ⟨hp.push o, g, d, tk, os⟩ → wpAny (model prog w) A' (pyIter v) Q E ⟨hp, g, d, tk, os⟩ :=
      fun q => B.iter prog w _ _ ⟨hp, g, d, tk, os⟩ _ h1 q
    wp_walk using q1
    refine wpAny_stack_any fun st => wpAny_pure ?_
    split
    · rename_i c _ _ _ _ _
      cases (c == Value.type "enumerate")
      · wp_walk using q1
        exact ⟨_, rfl, h⟩
      · wp_walk using q1
        exact ⟨_, rfl, h⟩
    · wp_walk using q1
      exact ⟨_, rfl, h⟩
theorem enum_tup {prog : Program} {w : World} {A : Around} {E : Value → Shared → Prop} {s : Shared} {v : Value} {o : Obj} {H : Heap → Prop} {Q : Value → Shared → Prop} (B : Begins v o H) (h1 : H s.heap)
    (h : ∀ h', IsEnum h' (s.heap.objs.size + 1) s.heap.objs.size 0 .none → h'.get? s.heap.objs.size = some o → h'.objs.size = s.heap.objs.size + 2 →
      (∀ b o, s.heap.get? b = some o → h'.get? b = some o) → Q (.ref (s.heap.objs.size + 1)) { s with heap := h' }) :
    wpAny (model prog w) A (call (.type "enumerate") [v]) Q E s := by
  refine callType_new F.called_enumerate (by decide) (F.typeCall_enumerate_1 _) (F.newCall_enumerate_1 _) (fun obj => F.args_object_init_2 obj _) F.entry_enumerate_new
    (meets_enum1 B) ⟨h1, ?_⟩
  have hz : (s.heap.push o).objs.size = s.heap.objs.size + 1 := Heap.size_push ..
  show _ ∧ _
  rw [hz]
  have he : IsEnum ((s.heap.push o).push { cls := .type "enumerate", data := .fields #[.none, .bool false, .ref s.heap.objs.size, rawInt 0, .none, .none] }) (s.heap.objs.size + 1) s.heap.objs.size 0 .none := by
    have := Heap.get?_push_size (s.heap.push o) (o := { cls := .type "enumerate", data := .fields #[.none, .bool false, .ref s.heap.objs.size, rawInt 0, .none, .none] }) rfl
    rw [hz] at this; exact this
  refine ⟨⟨_, he, rfl⟩, h _ he (Heap.get?_push_of_some _ (Heap.get?_push_size _ B.free)) (by rw [Heap.size_push, hz]) fun b o x => Heap.get?_push_of_some _ (Heap.get?_push_of_some _ x)⟩
/-- the tuple at a as it stands at each turn, each item in a new pair -/
noncomputable def IteT (K : PySem.W.Frag) (a : Addr) : It :=
  ⟨fun i H => ∃ (xs : List V) (x : V), SqT K H a xs ∧ xs[i]? = some x, fun i H v H' => ∃ T x, v = .ref T ∧ H T = none ∧ H' = upd H T (.tup [.int (i : Nat), x]) ∧ ∀ xs, SqT K H a xs → xs[i]? = some x, fun i H => ∃ xs : List V, SqT K H a xs ∧ xs.length ≤ i⟩
theorem turn_enumT {P : Program} {w : World} {K : PySem.W.Frag} {elts : List Expr} {kk : Nat} {tpos : Pos} (a e it : Addr) (hai : a ≠ it) (hae : a ≠ e) :
    Turn P w K (.Tuple elts kk tpos) (IteT K a) [e, it] e (fun i h => (∃ old, IsEnum h e it ((i : Nat) : Int) old) ∧ h.IsTupleIter it a i ∧ e ≠ it) where
  mem := by simp
  obj := fun i h st b hb => by
    obtain ⟨⟨old, he⟩, ⟨o, ho, hc, hd⟩, _⟩ := st
    have e' : b = e ∨ b = it := by simpa using hb
    rcases e' with z | z
    · rw [z]; exact ⟨_, he, fun v q => nomatch q⟩
    · rw [z]; exact ⟨o, ho, fun v q => by rw [hd] at q; cases q⟩
  keep := fun i h h' st k => let ⟨⟨old, he⟩, hi, hne⟩ := st; ⟨⟨old, k e (by simp) _ he⟩, hi.at fun o q => k it (by simp) o q, hne⟩
  item := by
    intro X hP hw hK hc i pins s σ H E I hf st hg
    subst hP hw hK
    obtain ⟨⟨old, he⟩, hit, hne⟩ := st
    obtain ⟨xs, x, hq, hx⟩ := hg
    obtain ⟨its, rv, p, hz⟩ := I.tuple hq
    obtain ⟨u, hu, ru⟩ := rv.get hx
    have hel : e < s.heap.objs.size := Heap.lt_size he
    have hil : it < s.heap.objs.size := by obtain ⟨_, q, _⟩ := hit; exact Heap.lt_size q
    have hl : i < its.toArray.size := by
      have := (List.getElem?_eq_some_iff.mp hu).1
      simpa using this
    have pt : s.heap.IsTuple a its.toArray := p
    refine wpAny_pyNext_enum_itemC (c := (i : Int)) (Draws.tuple (A := X.A.in1) (I.ok.hd hc) it a hai its.toArray) he ⟨hit, pt⟩ hl hne (by simp only [List.mem_cons, List.not_mem_nil, or_false, not_or]; exact ⟨hne, Ne.symm hae⟩) fun y h' tk hPx ho hs' hT hsz hk => ?_
    obtain rfl : u = y := by
      have e1 : its.toArray[i]? = some u := by simpa using hu
      rw [e1] at hPx
      exact Option.some.inj hPx
    refine ⟨_, rfl, wpAny_letOwnedTupleGo_enum (s := { s with heap := h', toks := tk + 1 }) ho fun h'' he' sb => ?_⟩
    have hT2 : h''.get? s.heap.objs.size = some { cls := .type "tuple", data := .seq #[.int i tk, u] } := (sb.2 _ (Nat.ne_of_gt hel)).trans hT
    have new : ObjOk X.prog X.w (upd H s.heap.objs.size (.tup [.int (i : Nat), x])) h'' s.heap.objs.size (.tup [.int (i : Nat), x]) :=
      ⟨by show 2 ≤ sizeLine; decide, [.int i tk, u], .cons ⟨_, rfl⟩ (.cons ru .nil), ⟨_, hT2, rfl, _, rfl⟩⟩
    have I1 : Inv X pins σ (upd H s.heap.objs.size (.tup [.int (i : Nat), x])) { s with heap := h'', toks := tk + 1 } :=
      I.turnedNew (ch := [e, it]) (fun b ob hb q => (sb.2 b (fun z => hb (by simp [z]))).trans (hk b ob (fun z => hb (by simp [z])) (fun z => hb (by simp [z])) q)) hf (Nat.le_refl _) new
    refine ⟨.ref s.heap.objs.size, _, I1, rfl, ⟨_, x, rfl, I.hok.fresh (Nat.le_refl _), rfl, fun ys hy => by rw [I.tuple_inj hy hq]; exact hx⟩, ⟨⟨u, ?_⟩, hs'.1.at fun o q => (sb.2 it (Ne.symm hne)).trans q, hne⟩, fun b hb => ?_⟩
    · have e1 : ((i + 1 : Nat) : Int) = (i : Int) + 1 := by omega
      rw [e1]; exact he'
    · have hb' : b < s.heap.objs.size := by
        have e' : b = e ∨ b = it := by simpa using hb
        rcases e' with z | z
        · rw [z]; exact hel
        · rw [z]; exact hil
      rw [upd_ne (Nat.ne_of_lt hb')]
      exact (hf b hb).1
  done := by
    intro X hP hw hK hc i pins s σ H E I hf st hg
    subst hP hw hK
    obtain ⟨⟨old, he⟩, hit, hne⟩ := st
    obtain ⟨xs, hq, hx⟩ := hg
    obtain ⟨its, rv, p, hz⟩ := I.tuple hq
    obtain ⟨f0, f1, f2, f3, f4, f5⟩ := hf it (by simp)
    have hl := rv.length
    have pt : s.heap.IsTuple a its.toArray := p
    have D : Draws X.prog X.w X.A.in1 it [it, a] i (fun i v => its.toArray[i]? = some v) (fun j h => (h.IsTupleIter it a j ∧ h.IsTuple a its.toArray) ∧ j = i) :=
      { live := fun _ _ st => let ⟨o, ho, _⟩ := st.1.1; ⟨o, ho⟩
        frame := fun _ _ _ st hk => ⟨⟨st.1.1.at fun o e => hk it (by simp) o e, st.1.2.at fun o e => hk a (by simp) o e⟩, st.2⟩
        item := fun j s Q E hi st hQ => absurd st.2 (Nat.ne_of_lt hi)
        done := fun s Q E st hE => wpAny_nextOf_tuple_end (I.ok.hd hc) st.1.1 st.1.2 (by simp; omega) hE }
    exact wpAny_pyNext_enum_endD D he ⟨⟨hit, pt⟩, rfl⟩ fun h' eb => ⟨rfl, I.turned (t' := s.toks) (fun b o hb q => eb b o hb q) f0 f1 f3 f4 f5⟩
  self := fun A i s Q E st h => let ⟨⟨_, he⟩, _⟩ := st; wpAny_pyIter_enum he h
noncomputable def iEnumA (K : PySem.W.Frag) (ta : TA) : TI := fun σ H R => ta σ H fun vs H1 => ∃ a xs, vs = [.ref a] ∧ ((SqL K H1 a xs ∧ R (Ite K a) H1) ∨ (SqT K H1 a xs ∧ R (IteT K a) H1))
theorem pi_enumA {X : Cx} {e : Expr} {ta : TA} {p pos tpos : Pos} {elts : List Expr} {kk : Nat} (hg : Gl X "enumerate") (hm : X.mg "enumerate" = none) (ha : PA X [e] ta) (hs : starEach [e] X.env = [(false, eval e X.env)] := by rfl) :
    PI X (.Tuple elts kk tpos) (.Call (.Name "enumerate" p) [e] [] pos) (iEnumA X.K ta) := by
  refine ⟨fun pins s σ H R I h => ?_⟩
  refine Call_ (ld_blt I hg hm boot_enumerate (PyProof.Rows.callWith_type1 (thn (ha.run pos pins s σ H _ I h) fun us s1 ⟨vs, H1, I1, r1, q1⟩ => ?_) hs rfl))
  obtain ⟨a, xs, ex, q1⟩ := q1
  subst ex
  have fresh2 : ∀ b, b ∈ [s1.heap.objs.size + 1, s1.heap.objs.size] → FpOk X pins H1 b := fun b hb => by
    have e' : b = s1.heap.objs.size + 1 ∨ b = s1.heap.objs.size := by simpa using hb
    have hle : s1.heap.objs.size ≤ b := by
      rcases e' with z | z
      · rw [z]; exact Nat.le_add_right _ _
      · rw [z]; exact Nat.le_refl _
    exact I1.fpOk hle (I1.hok.fresh hle)
  cases r1 with
  | cons r rr =>
    cases rr
    cases r
    rcases q1 with ⟨hq, q⟩ | ⟨hq, q⟩
    · obtain ⟨its, rv, p', hz⟩ := I1.list hq
      refine call_enumerate_list p'.isList fun h' he hit hsz hk => wpAny_pyIter_enum he ?_
      have I2 : Inv X pins σ H1 { s1 with heap := h' } := I1.kept (t' := s1.toks) hk
      exact ⟨s1.heap.objs.size + 1, [s1.heap.objs.size + 1, s1.heap.objs.size], _, _, H1, rfl, I2, turn_enum a (s1.heap.objs.size + 1) s1.heap.objs.size, ⟨⟨.none, he⟩, hit, Nat.succ_ne_self _⟩, fresh2, q⟩
    · obtain ⟨its, rv, p', hz⟩ := I1.tuple hq
      obtain ⟨o1, ho1, _⟩ := id p'
      have hal : a < s1.heap.objs.size := Heap.lt_size ho1
      refine enum_tup (begins_tuple a its.toArray) (show s1.heap.IsTuple a its.toArray from p') fun h' he hit hsz hk => wpAny_pyIter_enum he ?_
      have I2 : Inv X pins σ H1 { s1 with heap := h' } := I1.kept (t' := s1.toks) hk
      exact ⟨s1.heap.objs.size + 1, [s1.heap.objs.size + 1, s1.heap.objs.size], _, _, H1, rfl, I2, turn_enumT a (s1.heap.objs.size + 1) s1.heap.objs.size (Nat.ne_of_lt hal) (Nat.ne_of_lt (Nat.lt_succ_of_lt hal)), ⟨⟨.none, he⟩, ⟨_, hit, rfl, rfl⟩, Nat.succ_ne_self _⟩, fresh2, q⟩
/-! ### walks over pairs -/
section
variable {K : PySem.W.Frag}
theorem dt_pair {G : Gh} {H : Hp} {T : Addr} {d d' : D} {x y : V} (ok : GOk G H) (hT : H T = none) (h1 : Dt K G H d x) (h2 : Dt K G H d' y) : Dt K G (upd H T (.tup [x, y])) (.tup [d, d']) (.ref T) := by
  have e : Ext G H (upd H T (.tup [x, y])) := Ext.new ok.bag hT
  have ev : Evo G G H (upd H T (.tup [x, y])) := ⟨fun a o n h => e.lk (fun z => n (by rw [z]; exact ok.ob)) h, ok.tr, fun _ n _ => n, rfl, rfl⟩
  exact ⟨T, [x, y], rfl, upd_same, x, [y], rfl, ev.dt _ _ h1, y, [], rfl, ev.dt _ _ h2, rfl⟩
noncomputable def numb (ds : List D) : List D := ds.mapIdx fun i d => .tup [.int (i : Int), d]
theorem numb_len (ds : List D) : (numb ds).length = ds.length := List.length_mapIdx
theorem numb_get {ds : List D} {i : Nat} {d : D} (h : ds[i]? = some d) : (numb ds)[i]? = some (.tup [.int (i : Int), d]) := by
  unfold numb; rw [List.getElem?_mapIdx, h]; rfl
theorem walk_enum {a : Addr} {ds : List D} : Walk K [(.ref a, .lst ds)] (Ite K a) (numb ds) := by
  intro i G H ok hp
  obtain ⟨b, xs, e, n, ha, hl⟩ := hp (.ref a, .lst ds) (List.mem_singleton.mpr rfl)
  cases e
  rw [numb_len]
  refine ⟨fun hi => ⟨⟨xs, xs[i]'(by rw [← hl.len]; exact hi), SqL.of ha, List.getElem?_eq_getElem _⟩, fun v H' y => ?_⟩, fun hi => ⟨xs, SqL.of ha, by rw [← hl.len]; exact hi⟩⟩
  obtain ⟨T, x, rfl, hT, rfl, y⟩ := y
  obtain ⟨d, hd, hx⟩ := hl.get' (y xs (SqL.of ha))
  exact ⟨fun a o h => by rw [upd_ne (ne_of_none h hT)]; exact h, _, numb_get hd, dt_pair (d := .int (i : Int)) ok hT rfl hx⟩
theorem walk_enumT {a : Addr} {ds : List D} : Walk K [(.ref a, .tup ds)] (IteT K a) (numb ds) := by
  intro i G H ok hp
  obtain ⟨b, xs, e, ha, hl⟩ := hp (.ref a, .tup ds) (List.mem_singleton.mpr rfl)
  cases e
  rw [numb_len]
  refine ⟨fun hi => ⟨⟨xs, xs[i]'(by rw [← hl.len]; exact hi), .inl (.inl ha), List.getElem?_eq_getElem _⟩, fun v H' y => ?_⟩, fun hi => ⟨xs, .inl (.inl ha), by rw [← hl.len]; exact hi⟩⟩
  obtain ⟨T, x, rfl, hT, rfl, y⟩ := y
  obtain ⟨d, hd, hx⟩ := hl.get' (y xs (.inl (.inl ha)))
  exact ⟨fun a o h => by rw [upd_ne (ne_of_none h hT)]; exact h, _, numb_get hd, dt_pair (d := .int (i : Int)) ok hT rfl hx⟩
noncomputable def pairD (ds es : List D) : List D := (ds.zip es).map fun q => .tup [q.1, q.2]
end
noncomputable def enumI (t : TLD) : TLD := fun ρ k => t ρ fun ds => match ds with
  | [.lst xs] => k (numb xs)
  | [.tup xs] => k (numb xs)
  | _ => False
noncomputable def zipI (t : TLD) : TLD := fun ρ k => t ρ fun ds => match ds with
  | [.lst xs, .lst ys] => k (pairD xs ys)
  | [.tup xs, .tup ys] => k (pairD xs ys)
  | _ => False
section
variable {X : Cx} {F : Fr} {a b : Expr} {ta : TLD} {p pos tpos : Pos} {elts : List Expr} {kk : Nat}
theorem i_enum (hg : Gl X "enumerate") (hm : X.mg "enumerate" = none) (ha : PA X [a] (liftA F ta)) (hs : starEach [a] X.env = [(false, eval a X.env)] := by rfl) (hK : X.K = F.K := by rfl) : PI X (.Tuple elts kk tpos) (.Call (.Name "enumerate" p) [a] [] pos) (liftI F (enumI ta)) := by
  refine pi_imp (pi_enumA hg hm ha hs) fun σ H R ⟨G, ρ, k, r, h, q⟩ => ⟨G, ρ, _, r, h, fun ds vs H1 h1 e1 d1 => ?_⟩
  rw [hK]
  split at h1
  · obtain ⟨v, rfl, hv⟩ := dl1 d1
    obtain ⟨a, xs, rfl, n, ha, hl⟩ := id hv
    exact ⟨a, xs, rfl, .inl ⟨SqL.of ha, q _ _ H1 _ h1 e1 walk_enum fun z hz => by obtain rfl := List.mem_singleton.mp hz; exact hv⟩⟩
  · obtain ⟨v, rfl, hv⟩ := dl1 d1
    obtain ⟨a, xs, rfl, ha, hl⟩ := id hv
    exact ⟨a, xs, rfl, .inr ⟨.inl (.inl ha), q _ _ H1 _ h1 e1 walk_enumT fun z hz => by obtain rfl := List.mem_singleton.mp hz; exact hv⟩⟩
  · exact h1.elim
/-! ### *e in argument lists and displays -/
noncomputable def starA (t : TD) (u : TLD) : TLD := fun ρ k => t ρ fun d => match d with
  | .lst xs => u ρ fun ds => k (xs ++ ds)
  | .tup xs => u ρ fun ds => k (xs ++ ds)
  | _ => False
theorem a_star {e : Expr} {es : List Expr} {te : TD} (he : PE X e (lift F te)) (hr : PA X es (liftA F ta)) (hs : starEach (.Starred e p :: es) X.env = (true, eval e X.env) :: starEach es X.env := by rfl) (hK : X.K = F.K := by rfl) : PA X (.Starred e p :: es) (liftA F (starA te ta)) := by
  refine pa_imp (StX.pa_star he hr hs) fun σ H Q ⟨G, ρ, k, r, h, q⟩ => ⟨G, ρ, _, r, h, fun d v H1 h1 e1 d1 => ?_⟩
  rw [hK]
  cases d <;> try exact (show False from h1).elim
  · obtain ⟨a, xs, rfl, n, ha, hl⟩ := d1
    refine ⟨a, xs, rfl, .inr (SqL.of ha), G, ρ, _, r.step e1, h1, fun ds vs H2 h2 e2 d2 => q _ _ H2 h2 (e1.trans e2) ((((r.step e1).evo e2).dts _ _ hl).app d2)⟩
  · obtain ⟨a, xs, rfl, ha, hl⟩ := d1
    refine ⟨a, xs, rfl, .inl (.inl (.inl ha)), G, ρ, _, r.step e1, h1, fun ds vs H2 h2 e2 d2 => q _ _ H2 h2 (e1.trans e2) ((((r.step e1).evo e2).dts _ _ hl).app d2)⟩
end
end DL
set_option Elab.async false
set_option linter.all false
set_option maxRecDepth 100000
set_option maxHeartbeats 4000000
namespace DL
open PySem PySem.Spec PyProof.Rows L2
/-! ### methods of data -/
noncomputable abbrev MDD := D → List D → (D → Prop) → Prop
noncomputable def methT (o : MDD) (t : TD) (ta : TLD) : TD := fun ρ k => t ρ fun x => ta ρ fun ds => o x ds k
noncomputable def OkM (F : Fr) (r : V → List V → Hp → VK → Prop) (o : MDD) : Prop := ∀ (G : Gh) (H : Hp) (x : D) (v : V) (ds : List D) (vs : List V) (k : D → Prop) (Q : VK), GOk G H → o x ds k → Dt F.K G H x v → DtL F.K G H ds vs →
  (∀ d w H', k d → Ext G H H' → Dt F.K G H' d w → Q w H') → r v vs H Q
noncomputable def isStr : D → Prop
  | .str _ => True
  | _ => False
noncomputable def isLst : D → Prop
  | .lst _ => True
  | _ => False
noncomputable def onT (P : D → Prop) (t : TD) : TD := fun ρ k => t ρ fun d => P d ∧ k d
section
variable {X : Cx} {F : Fr} {o e : Expr} {to te : TD} {ta : TLD} {apos pos : Pos}
theorem d_m1 {r : V → List V → Hp → VK → Prop} {m : MDD} (hr : OkM F r m) (hpe : PE X e (tM1 r (lift F to) (lift F te))) : PE X e (lift F (methT m (onT isStr to) (consA te nilA))) := by
  refine pe_imp hpe fun σ H Q ⟨G, ρ, k, r, h, q⟩ => ⟨G, ρ, _, r, h, fun x v H1 ⟨hs, h1⟩ e1 d1 => ?_⟩
  cases x <;> try exact (show False from hs).elim
  refine ⟨⟨_, d1⟩, G, ρ, _, r.step e1, h1, fun y u H2 h2 e2 d2 => ?_⟩
  have r2 := (r.step e1).step e2
  exact hr G H2 _ v [y] [u] k Q r2.ok h2 (((r.step e1).evo e2).dt _ _ d1) ⟨u, [], rfl, d2, rfl⟩ fun d w H3 h3 e3 d3 => q d w H3 h3 ((e1.trans e2).trans e3) d3
end
noncomputable def splitM : MDD
  | .str a, [.str b], k => ((b.length == 0) = false ∧ a.length + 2 ≤ sizeLine) ∧ k (.lst ((Txt.split a b).map .str))
  | _, _, _ => False
noncomputable def joinM : MDD
  | .str a, [x], k => ∃ ys : List Str, (x = .lst (ys.map .str) ∨ x = .tup (ys.map .str)) ∧ (ys.map (·.length)).sum + ys.length * a.length ≤ 16777216 ∧ k (.str (Txt.join a ys))
  | _, _, _ => False
theorem dtl_strs {K : PySem.W.Frag} {G : Gh} {H : Hp} : ∀ ys : List Str, DtL K G H (ys.map .str) (ys.map .str)
  | [] => rfl
  | y :: ys => ⟨.str y, _, rfl, rfl, dtl_strs ys⟩
section
variable {X : Cx} {F : Fr} {o e : Expr} {to te : TD} {ta : TLD} {apos pos : Pos}
theorem d_split (ho : PE X o (lift F to)) (he : PE X e (lift F te)) (hs : starEach [e] X.env = [(false, eval e X.env)] := by rfl) (hbase : attributeBase o "split" X.env (eval o X.env) = eval o X.env := by rfl) (hline : (apos.endLine == pos.line) = true := by rfl) :
    PE X (.Call (.Attribute o "split" apos) [e] [] pos) (lift F (methT splitM (onT isStr to) (consA te nilA))) := by
  refine d_m1 (fun G H x v ds vs k Q ok h hx hl q => ?_) (pe_split ho he hs hbase hline)
  unfold splitM at h
  split at h
  · obtain ⟨u, rfl, hu⟩ := dl1 hl
    obtain rfl := hx
    obtain rfl := hu
    refine ⟨_, _, rfl, rfl, h.1.1, h.1.2, fun p hp => ?_⟩
    exact q _ _ _ h.2 (Ext.new ok.bag hp) ⟨p, _, rfl, fun z => by have m := ok.tr p z; rw [hp] at m; exact m, upd_same, dtl_strs _⟩
  · exact h.elim
theorem d_join (ho : PE X o (lift F to)) (he : PE X e (lift F te)) (hK : X.K = F.K := by rfl) (hs : starEach [e] X.env = [(false, eval e X.env)] := by rfl) (hbase : attributeBase o "join" X.env (eval o X.env) = eval o X.env := by rfl) (hline : (apos.endLine == pos.line) = true := by rfl) :
    PE X (.Call (.Attribute o "join" apos) [e] [] pos) (lift F (methT joinM (onT isStr to) (consA te nilA))) := by
  refine d_m1 (fun G H x v ds vs k Q ok h hx hl q => ?_) (pe_join ho he hs hbase hline)
  unfold joinM at h
  split at h
  · obtain ⟨u, rfl, hu⟩ := dl1 hl
    obtain rfl := hx
    obtain ⟨ys, hy, hz, h⟩ := h
    rcases hy with rfl | rfl
    · obtain ⟨a, xs, rfl, n, ha, hd⟩ := hu
      exact ⟨_, a, ys, rfl, rfl, .inl (by rw [← hd.strs]; exact SqL.of ha), hz, q _ _ _ h (.refl ok.bag) rfl⟩
    · obtain ⟨a, xs, rfl, ha, hd⟩ := hu
      exact ⟨_, a, ys, rfl, rfl, .inr (by rw [← hd.strs, hK]; exact .inl (.inl ha)), hz, q _ _ _ h (.refl ok.bag) rfl⟩
  · exact h.elim
end
/-! ### dicts -/
noncomputable def keyD : D → Option Key
  | .int i => some (.inl i)
  | .str x => some (.inr x)
  | _ => none
noncomputable def valD : List (D × D) → Key → Option D
  | [], _ => none
  | (k, d) :: es, j => if keyD k = some j then some d else valD es j
theorem keyD_kD (j : Key) : keyD (kD j) = some j := by cases j <;> rfl
theorem DtP.val {K : PySem.W.Frag} {G : Gh} {H : Hp} {j : Key} {t : Bool} : ∀ {es : List (D × D)} {kvs : List (Key × V)}, DtP K G H t es kvs → (valD es j = none ∧ valV kvs j = none) ∨ ∃ d v, valD es j = some d ∧ valV kvs j = some v ∧ Dt K G H d v
  | [], _, h => by
    obtain ⟨rfl, _⟩ := h
    exact .inl ⟨rfl, rfl⟩
  | (k, d) :: es, _, h => by
    obtain ⟨i, v, r, rfl, rfl, h1, h2⟩ := h
    by_cases e : i = j
    · subst e
      exact .inr ⟨d, v, by simp [valD, keyD_kD], valV_pos rfl, h1⟩
    · have n : ¬ keyD (kD i) = some j := by rw [keyD_kD]; exact fun z => e (Option.some.inj z)
      rw [valV_neg (p := (i, v)) e]
      simp only [valD, if_neg n]
      exact DtP.val h2
theorem DtP.kind {K : PySem.W.Frag} {G : Gh} {H : Hp} {t : Bool} : ∀ {es : List (D × D)} {kvs : List (Key × V)}, DtP K G H t es kvs → t = false
  | [], _, h => h.2
  | (k, d) :: es, _, h => by
    obtain ⟨i, v, r, rfl, rfl, h1, h2⟩ := h
    exact DtP.kind h2
theorem DtQ.kind {K : PySem.W.Frag} {G : Gh} {H : Hp} {t : Bool} : ∀ {es : List (D × D)} {kvs : List (List Key × V)}, DtQ K G H t es kvs → t = true
  | [], _, h => h.2
  | (k, d) :: es, _, h => by
    obtain ⟨i, v, r, rfl, rfl, h1, h2⟩ := h
    exact DtQ.kind h2
theorem dic_K {K : PySem.W.Frag} {G : Gh} {H : Hp} {es : List (D × D)} {v : V} (h : Dt K G H (.dic false es) v) : ∃ a kvs, v = .ref a ∧ ¬ G.own a ∧ Rd H a (.dK kvs) ∧ DtP K G H false es kvs := by
  obtain ⟨a, rfl, n, h⟩ := h
  rcases h with ⟨kvs, h1, h2⟩ | ⟨kvs, h1, h2⟩
  · exact ⟨a, kvs, rfl, n, h1, h2⟩
  · cases h2.kind
noncomputable def getT (t tk td : TD) : TD := fun ρ k => t ρ fun x => (∃ es, x = .dic false es) ∧ tk ρ fun y => td ρ fun z => match x with
  | .dic _ es => optK (keyD y) fun j => k ((valD es j).getD z)
  | _ => False
/-! ### repr -/
end DL
set_option Elab.async false
set_option linter.all false
set_option maxRecDepth 100000
set_option maxHeartbeats 4000000
namespace DL
open PySem PySem.Spec PyProof.Rows L2
/-! ### the bag: its numbers are any that are not below 0 -/
theorem BagOk.apart {H : Hp} {bg bi : Addr} (h : BagOk H bg bi) : bi ≠ bg := by
  obtain ⟨x, y, z, ns, h1, h2, _⟩ := h
  intro e
  rw [e, h1] at h2
  cases ns with
  | nil => cases h2
  | cons a ns =>
    cases ns with
    | nil => cases h2
    | cons b ns =>
      cases ns with
      | nil => cases h2
      | cons c ns =>
        cases ns with
        | nil => cases h2
        | cons d ns => cases h2
theorem BagOk.put {H : Hp} {bg bi : Addr} (h : BagOk H bg bi) {x y z : Int} (hx : 0 ≤ x) (hy : 0 ≤ y) (hz : 0 ≤ z) : BagOk (upd H bg (.lst [.int x, .int y, .int z, .ref bi])) bg bi := by
  have n := h.apart
  obtain ⟨x', y', z', ns, h1, h2, q1, q2, q3, q⟩ := h
  exact ⟨x, y, z, ns, upd_same, by rw [upd_ne n]; exact h2, hx, hy, hz, q⟩
theorem Ext.bagput {G : Gh} {H : Hp} (h : BagOk H G.bg G.bi) {x y z : Int} (hx : 0 ≤ x) (hy : 0 ≤ y) (hz : 0 ≤ z) : Ext G H (upd H G.bg (.lst [.int x, .int y, .int z, .ref G.bi])) :=
  ⟨fun a o n e => .inl (by rw [upd_ne n]; exact e), h.put hx hy hz⟩
noncomputable def bagT (c : Int) (t : TD) : TD := fun ρ k => t ρ fun d => d = .bag ∧ (c = 0 ∨ c = 1 ∨ c = 2) ∧ ∀ x : Int, 0 ≤ x → k (.int x)
noncomputable def cutBT (t : TD) (l : TO2) : TD := fun ρ k => t ρ fun d => d = .bag ∧ l ρ fun _ => ∀ ns : List Int, (∀ n ∈ ns, 0 ≤ n) → ns.length ≤ 63 → k (.lst (ns.map .int))
noncomputable def putBT (c : Int) (t u : TD) : TSD := fun k ρ => u ρ fun d => t ρ fun b => b = .bag ∧ (c = 0 ∨ c = 1 ∨ c = 2) ∧ ∃ x : Int, 0 ≤ x ∧ d = .int x ∧ k.nx ρ
noncomputable def augBT (c : Int) (t u : TD) : TSD := fun k ρ => t ρ fun b => b = .bag ∧ (c = 0 ∨ c = 1 ∨ c = 2) ∧ u ρ fun d => ∃ x : Int, 0 ≤ x ∧ d = .int x ∧ k.nx ρ
theorem bag_at {G : Gh} {H : Hp} {c : Int} (h : BagOk H G.bg G.bi) (hc : c = 0 ∨ c = 1 ∨ c = 2) : ∃ (xs : List V) (x : Int), H G.bg = some (.lst xs) ∧ L2.atI xs c = some (.int x) ∧ xs[c.toNat]? = some (.int x) ∧ 0 ≤ x := by
  obtain ⟨x, y, z, ns, h1, h2, p1, p2, p3, _⟩ := h
  rcases hc with rfl | rfl | rfl
  · exact ⟨_, x, h1, rfl, rfl, p1⟩
  · exact ⟨_, y, h1, rfl, rfl, p2⟩
  · exact ⟨_, z, h1, rfl, rfl, p3⟩
theorem bag_put {G : Gh} {H : Hp} {c w : Int} (h : BagOk H G.bg G.bi) (hc : c = 0 ∨ c = 1 ∨ c = 2) (hw : 0 ≤ w) : ∃ (xs : List V) (j : Nat), H G.bg = some (.lst xs) ∧ ixN xs.length c = some j ∧ Ext G H (upd H G.bg (.lst (xs.set j (.int w)))) := by
  have h' := h
  obtain ⟨x, y, z, ns, h1, h2, p1, p2, p3, _⟩ := h'
  rcases hc with rfl | rfl | rfl
  · exact ⟨_, 0, h1, rfl, Ext.bagput h hw p2 p3⟩
  · exact ⟨_, 1, h1, rfl, Ext.bagput h p1 hw p3⟩
  · exact ⟨_, 2, h1, rfl, Ext.bagput h p1 p2 hw⟩
section
variable {X : Cx} {F : Fr} {b e lo : Expr} {tb te : TD} {tl : TO2} {c : Int} {j j3 : Nat} {pos p2 p3 cpos tpos : Pos}
theorem d_bag (he : PE X b (lift F tb)) (hs : PlainIx (.Constant (.int c) j cpos) := by intro _ _; rfl) (hK : X.K = F.K := by rfl) : PE X (.Subscript b (.Constant (.int c) j cpos) pos) (lift F (bagT c tb)) := by
  refine pe_imp (pe_ix ix_list he pe_int hs) fun σ H Q ⟨G, ρ, k, r, h, q⟩ => ⟨G, ρ, _, r, h, fun d v H1 ⟨hd, hc, h1⟩ e1 d1 => ?_⟩
  subst hd
  obtain rfl := d1
  obtain ⟨xs, x, g1, g2, g3, g4⟩ := bag_at (r.step e1).bag hc
  exact ⟨_, xs, c, _, rfl, rfl, SqL.of g1, g2, q _ _ H1 (h1 x g4) e1 rfl⟩
theorem cut_ints {ns : List Int} {lo hi : Option Int} : ∃ ms : List Int, cutV (ns.map V.int) lo hi = ms.map V.int ∧ (∀ m ∈ ms, m ∈ ns) ∧ ms.length ≤ ns.length := by
  refine ⟨(ns.drop (HT.sIx ns.length 0 lo)).take (HT.sIx ns.length ns.length hi - HT.sIx ns.length 0 lo), ?_, fun m hm => List.mem_of_mem_drop (List.mem_of_mem_take hm), ?_⟩
  · unfold cutV
    rw [List.map_take, List.map_drop, List.length_map]
  · rw [List.length_take, List.length_drop]; omega
theorem d_bagcut (he : PE X b (lift F tb)) (hl : PO X (some lo) (liftO F tl)) (hs : PlainIx (.Constant (.int 3) j3 cpos) := by intro _ _; rfl) (hK : X.K = F.K := by rfl) :
    PE X (.Subscript (.Subscript b (.Constant (.int 3) j3 cpos) p3) (.Slice (some lo) none none p2) pos) (lift F (cutBT tb tl)) := by
  refine pe_imp (pe_slice sl_list (pe_ix ix_list he pe_int hs) hl po_none) fun σ H Q ⟨G, ρ, k, r, h, q⟩ => ⟨G, ρ, _, r, h, fun d v H1 ⟨hd, h1⟩ e1 d1 => ?_⟩
  subst hd
  obtain rfl := d1
  have r1 := r.step e1
  obtain ⟨x, y, z, ns, g1, g2, _⟩ := r1.bag
  refine ⟨_, _, 3, .ref G.bi, rfl, rfl, SqL.of g1, rfl, G, ρ, _, r1, h1, fun o H2 h2 e2 => ?_⟩
  have r2 := r1.step e2
  obtain ⟨x, y, z, ns, g1, g2, p1, p2, p3, p4, p5⟩ := r2.bag
  refine ⟨G.bi, _, rfl, SqL.of g2, fun p hp => ?_⟩
  have e3 : ∀ {o : HO}, Ext G H2 (upd H2 p o) := Ext.new r2.bag hp
  obtain ⟨ms, hm, hin, hle⟩ := cut_ints (ns := ns) (lo := o) (hi := none)
  rw [hm]
  refine q _ _ _ (h2 ms (fun n hn => p4 n (hin n hn)) (by omega)) ((e1.trans e2).trans e3) ⟨p, _, rfl, r2.free hp, upd_same, ?_⟩
  have : ∀ (ms : List Int) (H : Hp), DtL F.K G H (ms.map .int) (ms.map .int) := fun ms H => by
    induction ms with
    | nil => rfl
    | cons a ms ih => exact ⟨.int a, _, rfl, rfl, ih⟩
  exact this _ _
theorem s_bagput {x : Str} {px : Pos} {i : Nat} (he : PE X e (lift F te)) (hN : X.N[i]? = some x := by rfl) (hv : Vis X.env.scope x := by first | exact Or.inl rfl | exact Or.inr (Or.inl rfl) | exact Or.inr (Or.inr rfl)) (hd : (x == ("__debug__" : Str)) = false := by decide)
    (hcd : (x == ("__classdict__" : Str)) = false := by decide)
    (hsub : ∀ v, assign (.Subscript (.Name x px) (.Constant (.int c) j cpos) tpos) X.env v = (do
      let ov ← holding [v] (eval (.Name x px) X.env)
      let iv ← holding [v, ov] (eval (.Constant (.int c) j cpos) X.env)
      standAt tpos
      holding [v, ov, iv] (setItem ov iv v)
      release [v, ov, iv] []) := by intro _; rfl)
    (hs : swapsWithSole [.Subscript (.Name x px) (.Constant (.int c) j cpos) tpos] e pos.line X.env = pure false := by rfl) (hw : swappedStores [.Subscript (.Name x px) (.Constant (.int c) j cpos) tpos] e X.env = pure none := by rfl)
    (h1 : (assignEach [.Subscript (.Name x px) (.Constant (.int c) j cpos) tpos] X.env).map (·.2) = [assign (.Subscript (.Name x px) (.Constant (.int c) j cpos) tpos) X.env] := by rfl) :
    PS X (.Assign [.Subscript (.Name x px) (.Constant (.int c) j cpos) tpos] e pos) (liftS F (putBT c (nameT i) te)) := by
  refine ps_imp (ps_asg he (pg_sub (d_name (F := F) i hN hv hd hcd) pe_int set_list hsub) hs hw h1) fun E σ H ⟨G, ρ, k, r, h, o⟩ => ?_
  refine ⟨G, ρ, _, r, h, fun d v H1 h1 x1 d1 => ?_⟩
  have r1 := r.step x1
  refine ⟨G, ρ, _, r1, h1, fun b u H2 ⟨hb, hc, w, hw, hdw, hk⟩ x2 d2 => ?_⟩
  subst hb hdw
  obtain rfl := d2
  obtain rfl := d1
  have r2 := r1.step x2
  obtain ⟨xs, n, g1, g2, g3⟩ := bag_put r2.bag hc hw
  exact ⟨_, xs, c, n, rfl, rfl, g1, g2, o.nx _ G σ _ hk (r2.step g3)⟩
noncomputable def rGetL0 : V → V → Hp → VK → Prop := fun o i H Q => ∃ p xs k v, o = .ref p ∧ i = .int k ∧ 0 ≤ k ∧ k < 2 ^ 63 ∧ H p = some (.lst xs) ∧ xs[k.toNat]? = some v ∧ Q v H
theorem get_list0 : PGet X rGetL0 := by
  intro pins s σ H o i ov iv Q I ro ri h
  obtain ⟨p, xs, k, v, rfl, rfl, h0, h1, hp, hx, q⟩ := h
  cases ro
  obtain ⟨t, rfl⟩ := ri
  obtain ⟨its, r, pl, hz⟩ := I.list (SqL.of hp)
  obtain ⟨w, ew, rw'⟩ := r.get hx
  exact wpAny_getItem_list pl.isList h0 h1 (by simpa using ew) ⟨v, H, I, rw', q⟩
theorem s_bagaug {x : Str} {px : Pos} {i : Nat} (he : PE X e (lift F (cT (.int 1)))) (hN : X.N[i]? = some x := by rfl) (hv : Vis X.env.scope x := by first | exact Or.inl rfl | exact Or.inr (Or.inl rfl) | exact Or.inr (Or.inr rfl)) (hd : (x == ("__debug__" : Str)) = false := by decide)
    (hcd : (x == ("__classdict__" : Str)) = false := by decide)
    (ha : ∀ ov iv new, augStore (.Constant (.int c) j cpos) ov iv new = (do holding [new, ov, iv] (setItem ov iv new); release [new, ov, iv] []; pure .next) := by intros; rfl) :
    PS X (.AugAssign (.Subscript (.Name x px) (.Constant (.int c) j cpos) tpos) .Add e pos) (liftS F (augBT c (nameT i) (cT (.int 1)))) := by
  refine ps_imp (ps_augS (d_name (F := F) i hN hv hd hcd) pe_int get_list0 he ip_add set_list ha) fun E σ H ⟨G, ρ, k, r, h, o⟩ => ?_
  refine ⟨G, ρ, _, r, h, fun b u H1 ⟨hb, hc, hk⟩ x1 d1 => ?_⟩
  subst hb
  obtain rfl := d1
  obtain ⟨w, hw, hdw, hk⟩ := hk
  cases hdw
  have r1 := r.step x1
  obtain ⟨xs, x, g1, g2, g3, g4⟩ := bag_at r1.bag hc
  refine ⟨_, xs, c, _, rfl, rfl, by omega, by omega, g1, g3, G, ρ, fun d => d = .int 1, r1, rfl, fun d v H2 hd1 x2 d2 => ?_⟩
  subst hd1
  obtain rfl := d2
  have r2 := r1.step x2
  obtain ⟨ys, n, f1, f2, f3⟩ := bag_put r2.bag hc (w := x + 1) (by omega)
  exact ⟨x, 1, rfl, rfl, _, ys, c, n, rfl, rfl, f1, f2, o.nx _ G σ _ hk (r2.step f3)⟩
end
end DL
set_option Elab.async false
set_option linter.all false
set_option maxRecDepth 100000
set_option maxHeartbeats 4000000
namespace DL
open PySem PySem.Spec PyProof.Rows L2
noncomputable def negT (t : TD) : TD := fun ρ k => t ρ fun d => match d with
  | .int i => k (.int (-i))
  | _ => False
section
variable {X : Cx} {F : Fr} {a : Expr} {ta : TD} {pos : Pos}
theorem d_neg (ha : PE X a (lift F ta)) : PE X (.UnaryOp .USub a pos) (lift F (negT ta)) := by
  refine pe_imp (pe_un un_neg ha) fun σ H Q ⟨G, ρ, k, r, h, q⟩ => ⟨G, ρ, _, r, h, fun d v H1 h1 e1 d1 => ?_⟩
  cases d <;> try exact (show False from h1).elim
  obtain rfl := d1
  exact ⟨_, rfl, q _ _ H1 h1 e1 rfl⟩
end
/-- a, b = e, stored from the left -/
noncomputable def tgtT (t : Tg) (u : TD) : TSD := fun k ρ => u ρ fun d => tgD t d ρ k.nx
section
variable {X : Cx} {F : Fr} {tg e : Expr} {te : TD} {pos : Pos}
theorem s_tgt (t : Tg) (he : PE X e (lift F te)) (hg : PG X tg (gOf X.K t)) (hs : swapsWithSole [tg] e pos.line X.env = pure false := by rfl) (hw : swappedStores [tg] e X.env = pure none := by rfl)
    (h1 : (assignEach [tg] X.env).map (·.2) = [assign tg X.env] := by rfl) (hK : X.K = F.K := by rfl) : PS X (.Assign [tg] e pos) (liftS F (tgtT t te)) :=
  ps_imp (ps_asg he hg hs hw h1) fun E σ H ⟨G, ρ, k, r, h, o⟩ => ⟨G, ρ, _, r, h, fun d v H1 h1 e1 d1 => gOf_ok (F := F) hK (r.step e1) d1 h1 fun ρ' vs hk r' => o.nx ρ' G _ H1 hk r'⟩
end
/-- all that is asked of a def to call it, where nothing of the frame is told -/
structure CalP (P : Program) (w : World) (K : PySem.W.Frag) (mg : Str → Option Value) (base : Heap) (n : Nat) (x : Str) (R : RD) : Prop where
  ex : ∃ (f : Addr) (fd : FuncData) (ps : List Str) (k : Nat), k ≤ n ∧ FnG P w K mg base CX0 k f fd ps (spD K R) ∧ mg x = some (.ref f) ∧ PySem.W.keepIn K (.ref f) = true ∧ Binds K fd ps []
section
variable {P : Program} {w : World} {K : PySem.W.Frag} {mg : Str → Option Value} {base : Heap} {n m : Nat} {x : Str} {R R' : RD}
theorem FnG.never {f : Addr} {fd : FuncData} {ps : List Str} (h : ∀ ds k, ¬ R ds k) : FnG P w K mg base CX0 n f fd ps (spD K R) :=
  ⟨fun vs H Q E q => by obtain ⟨_, ds, k, _, _, z, _⟩ := q; exact absurd z (h ds k), fun A outer s H args us vs Q E _ _ _ _ _ q => by obtain ⟨_, ds, k, _, _, z, _⟩ := q; exact absurd z (h ds k)⟩
theorem CalP.mono (c : CalP P w K mg base n x R) (h : n ≤ m) : CalP P w K mg base m x R := by
  obtain ⟨f, fd, ps, k, hk, r⟩ := c.ex
  exact ⟨f, fd, ps, k, Nat.le_trans hk h, r⟩
theorem CalP.imp (c : CalP P w K mg base n x R) (h : ∀ ds k, R' ds k → R ds k) : CalP P w K mg base n x R' := by
  obtain ⟨f, fd, ps, k, hk, fn, r⟩ := c.ex
  refine ⟨f, fd, ps, k, hk, fn.imp fun vs H Q E q => ?_, r⟩
  obtain ⟨G, ds, κ, a, b, c, d⟩ := q
  exact ⟨G, ds, κ, a, b, h _ _ c, d⟩
theorem CalP.of {f : Addr} {fd : FuncData} {ps : List Str} {q : Str} {st : Stmt} (fn : FnG P w K mg base CX0 n f fd ps (spD K R)) (hm : mg x = some (.ref f)) (F : Fun K x q st f fd) (hb : Binds K fd ps []) : CalP P w K mg base n x R := ⟨f, fd, ps, n, Nat.le_refl _, fn, hm, F.kp, hb⟩
end
end DL
set_option Elab.async false
set_option linter.all false
set_option maxRecDepth 100000
set_option maxHeartbeats 4000000
namespace DL
open PySem PySem.Spec PyProof.Rows L2
/-! ### the operations, told one by one -/
section
variable {i j : Int} {a b : Bool} {x y : Str} {d e : D} {ds es : List D} {k : D → Prop} {kb : Bool → Prop} {lo hi : Option Int}
theorem addD_ii : addD (.int i) (.int j) k = k (.int (i + j)) := rfl
theorem addD_ib : addD (.int i) (.bl b) k = k (.int (i + PyProof.Rows.b2i b)) := rfl
theorem addD_ss : addD (.str x) (.str y) k = (x.length + y.length ≤ sizeLine ∧ k (.str (x ++ y))) := rfl
theorem addD_ll : addD (.lst ds) (.lst es) k = (ds.length + es.length ≤ sizeLine ∧ k (.lst (ds ++ es))) := rfl
theorem addD_tt : addD (.tup ds) (.tup es) k = (ds.length + es.length ≤ sizeLine ∧ k (.tup (ds ++ es))) := rfl
theorem subD_ii : subD (.int i) (.int j) k = k (.int (i - j)) := rfl
theorem mulD_ii : mulD (.int i) (.int j) k = (CMul i j ∧ k (.int (i * j))) := rfl
theorem mulD_li : mulD (.lst ds) (.int j) k = ((-(2 ^ 63) ≤ j ∧ j < 2 ^ 63) ∧ ds.length * j.toNat ≤ sizeLine ∧ k (.lst (List.replicate j.toNat ds).flatten)) := rfl
theorem fdivD_ii : fdivD (.int i) (.int j) k = (CDiv i j ∧ k (.int (i / j))) := rfl
theorem modD_ii : modD (.int i) (.int j) k = (0 < j ∧ k (.int (i % j))) := rfl
theorem cmpI_ii {f : Int → Int → Bool} : cmpI f (.int i) (.int j) k = k (.bl (f i j)) := rfl
theorem eqB_ss : eqB (.str x) (.str y) kb = kb (decide (x = y)) := rfl
theorem eqB_ii : eqB (.int i) (.int j) kb = kb (decide (i = j)) := rfl
theorem eqB_bb : eqB (.bl a) (.bl b) kb = kb (decide (a = b)) := rfl
theorem eqB_tt : eqB (.tup ds) (.tup es) kb = (eqOk (.tup ds) (.tup es) ∧ kb (PyData.eqv (D.tup ds).py (D.tup es).py)) := rfl
theorem eqB_ll : eqB (.lst ds) (.lst es) kb = (eqOk (.lst ds) (.lst es) ∧ kb (PyData.eqv (D.lst ds).py (D.lst es).py)) := rfl
theorem inB_l : inB d (.lst es) kb = (inOk d es ∧ kb (es.any fun z => PyData.eqv z.py d.py)) := rfl
theorem inB_t : inB d (.tup es) kb = (inOk d es ∧ kb (es.any fun z => PyData.eqv z.py d.py)) := rfl
theorem ixD_l : ixD (.lst ds) (.int i) k = optK (L2.atI ds i) k := rfl
theorem ixD_t : ixD (.tup ds) (.int i) k = optK (L2.atI ds i) k := rfl
theorem ixD_s : ixD (.str x) (.int i) k = (x.length ≤ sizeLine ∧ optK (L2.atI x.cps.toList i) fun c => k (.str ⟨#[c]⟩)) := rfl
theorem slD_l : slD (.lst ds) lo hi k = k (.lst (cutL ds lo hi)) := rfl
theorem slD_t : slD (.tup ds) lo hi k = k (.tup (cutL ds lo hi)) := rfl
theorem truD_b : truD (.bl b) kb = kb b := rfl
theorem truD_i : truD (.int i) kb = kb (i != 0) := rfl
theorem truD_n : truD .non kb = kb false := rfl
theorem truD_s : truD (.str x) kb = (x.length ≤ sizeLine ∧ kb ((x.length : Int) != 0)) := rfl
theorem truD_l : truD (.lst ds) kb = kb (!ds.isEmpty) := rfl
theorem truD_t : truD (.tup ds) kb = kb (!ds.isEmpty) := rfl
theorem intR_i : intR [.int i] k = k (.int i) := rfl
theorem intR_b : intR [.bl b] k = k (.int (if b then 1 else 0)) := rfl
theorem lenR_s : lenR [.str x] k = (x.length ≤ sizeLine ∧ k (.int x.length)) := rfl
theorem lenR_l : lenR [.lst ds] k = k (.int ds.length) := rfl
theorem lenR_t : lenR [.tup ds] k = k (.int ds.length) := rfl
theorem absR_i : absR [.int i] k = k (.int (if i < 0 then -i else i)) := rfl
theorem minR_ii : minR [.int i, .int j] k = k (.int (if j < i then j else i)) := rfl
theorem maxR_ii : maxR [.int i, .int j] k = k (.int (if j > i then j else i)) := rfl
theorem tupR_l : tupR [.lst ds] k = k (.tup ds) := rfl
theorem tupR_t : tupR [.tup ds] k = k (.tup ds) := rfl
theorem appD_1 {ts : List Tr} {kl : List Tr → Prop} : appD ts [d] kl = (ts.length < sizeLine ∧ kl (ts ++ [.d d])) := rfl
theorem insD_1 {ts : List Tr} {kl : List Tr → Prop} : insD ts [.int j, d] kl = (ts.length < sizeLine ∧ 0 ≤ j ∧ j < 2 ^ 63 ∧ kl (ts.take j.toNat ++ [.d d] ++ ts.drop j.toNat)) := rfl
theorem extD_1 {ts : List Tr} {kl : List Tr → Prop} : extD ts [.lst es] kl = (ts.length + es.length ≤ sizeLine ∧ kl (ts ++ es.map .d)) := rfl
theorem map_snoc {ds : List D} {d : D} : ds.map Tr.d ++ [.d d] = (ds ++ [d]).map .d := by rw [List.map_append]; rfl
theorem map_ins {ds : List D} {d : D} {n : Nat} : (ds.map Tr.d).take n ++ [.d d] ++ (ds.map Tr.d).drop n = (ds.take n ++ [d] ++ ds.drop n).map .d := by rw [List.map_append, List.map_append, List.map_take, List.map_drop]; rfl
theorem splitM_1 : splitM (.str x) [.str y] k = (((y.length == 0) = false ∧ x.length + 2 ≤ sizeLine) ∧ k (.lst ((Txt.split x y).map .str))) := rfl
theorem optK_some {α : Type} {c : α} {k : α → Prop} : optK (some c) k = k c := propext ⟨fun ⟨_, e, h⟩ => by cases e; exact h, fun h => ⟨_, rfl, h⟩⟩
theorem optK_of {α : Type} {o : Option α} {c : α} {k : α → Prop} (h : o = some c) (hk : k c) : optK o k := ⟨c, h, hk⟩
theorem atI_0 {α : Type} {a : α} {l : List α} : L2.atI (a :: l) 0 = some a := L2.atI_nat (j := 0) rfl
theorem atI_1 {α : Type} {a b : α} {l : List α} : L2.atI (a :: b :: l) 1 = some b := L2.atI_nat (j := 1) rfl
theorem atI_2 {α : Type} {a b c : α} {l : List α} : L2.atI (a :: b :: c :: l) 2 = some c := L2.atI_nat (j := 2) rfl
theorem atI_3 {α : Type} {a b c d : α} {l : List α} : L2.atI (a :: b :: c :: d :: l) 3 = some d := L2.atI_nat (j := 3) rfl
theorem atI_4 {α : Type} {a b c d e : α} {l : List α} : L2.atI (a :: b :: c :: d :: e :: l) 4 = some e := L2.atI_nat (j := 4) rfl
theorem atI_lt {α : Type} {l : List α} {i : Int} (h0 : 0 ≤ i) (h : i < l.length) : ∃ c, L2.atI l i = some c ∧ l[i.toNat]? = some c := by
  have hl : i.toNat < l.length := by omega
  refine ⟨l[i.toNat], ?_, List.getElem?_eq_getElem hl⟩
  have e := L2.atI_nat (List.getElem?_eq_getElem hl)
  rwa [Int.toNat_of_nonneg h0] at e
theorem cutL_from {α : Type} {l : List α} {n : Nat} : cutL l (some (n : Int)) none = l.drop n := by
  unfold cutL
  rw [HT.sIx_nat, HT.sIx_none]
  by_cases h : n ≤ l.length
  · rw [Nat.min_eq_left h, List.take_of_length_le (by rw [List.length_drop]; exact Nat.le_refl _)]
  · rw [Nat.min_eq_right (by omega), List.drop_length, List.drop_of_length_le (by omega)]; simp
theorem cutL_to {α : Type} {l : List α} {n : Nat} : cutL l none (some (n : Int)) = l.take n := by
  unfold cutL
  rw [HT.sIx_nat, HT.sIx_none, List.drop_zero, Nat.sub_zero]
  by_cases h : n ≤ l.length
  · rw [Nat.min_eq_left h]
  · rw [Nat.min_eq_right (by omega), List.take_length, List.take_of_length_le (by omega)]
theorem cutL_1 {α : Type} {l : List α} : cutL l (some 1) none = l.drop 1 := cutL_from (n := 1)
theorem cutL_2 {α : Type} {l : List α} : cutL l (some 2) none = l.drop 2 := cutL_from (n := 2)
theorem cutL_t1 {α : Type} {l : List α} : cutL l none (some 1) = l.take 1 := cutL_to (n := 1)
theorem cutL_t2 {α : Type} {l : List α} : cutL l none (some 2) = l.take 2 := cutL_to (n := 2)
theorem cutL_r {α : Type} {l : List α} {n m : Nat} : cutL l (some (n : Int)) (some (m : Int)) = (l.drop n).take (m - n) := by
  unfold cutL
  rw [HT.sIx_nat, HT.sIx_nat]
  by_cases h : n ≤ l.length
  · rw [Nat.min_eq_left h]
    by_cases h2 : m ≤ l.length
    · rw [Nat.min_eq_left h2]
    · rw [Nat.min_eq_right (by omega : l.length ≤ m), List.take_of_length_le (i := l.length - n) (by simp), List.take_of_length_le (by simp; omega)]
  · rw [Nat.min_eq_right (by omega : l.length ≤ n), List.drop_length, List.drop_of_length_le (by omega : l.length ≤ n)]; simp
end
inductive All2 (R : D → D → Prop) : List D → List D → Prop
  | nil : All2 R [] []
  | cons {a b : D} {as bs : List D} : R a b → All2 R as bs → All2 R (a :: as) (b :: bs)
theorem All2.len {R : D → D → Prop} {as bs : List D} (h : All2 R as bs) : bs.length = as.length := by
  induction h with
  | nil => rfl
  | cons _ _ ih => simp [ih]
theorem All2.out {R : D → D → Prop} {as bs : List D} (h : All2 R as bs) : ∀ b ∈ bs, ∃ a ∈ as, R a b := by
  induction h with
  | nil => intro b hb; cases hb
  | cons hr _ ih =>
    intro b hb
    rcases List.mem_cons.mp hb with rfl | hb
    · exact ⟨_, List.mem_cons_self, hr⟩
    · obtain ⟨a, ha, r⟩ := ih b hb
      exact ⟨a, List.mem_cons_of_mem _ ha, r⟩
theorem All2.map {f : D → D} {as bs : List D} (h : All2 (fun a b => b = f a) as bs) : bs = as.map f := by
  induction h with
  | nil => rfl
  | cons hr _ ih => rw [hr, ih]; rfl
/-! ### comprehensions, loops -/
theorem compT_ind {t : Tg} {te : TD} {ρ : List Sl} {R : D → D → Prop} {k : List D → Prop} : ∀ {ds acc : List D}, (∀ d ∈ ds, ∀ κ : D → Prop, (∀ e, R d e → κ e) → tgD t d ρ fun ρ1 => te ρ1 κ) → (∀ es, All2 R ds es → k (acc ++ es)) → compT t yesT te ρ ds acc k
  | [], acc, _, hk => by
    have h := hk [] .nil
    rw [List.append_nil] at h
    exact h
  | d :: ds, acc, hd, hk => by
    have mono : ∀ {P Q : List Sl → Prop}, (∀ ρ, P ρ → Q ρ) → tgD t d ρ P → tgD t d ρ Q := fun {P Q} f h => by
      cases t with
      | nm i => exact f _ h
      | tp is => cases d <;> first | exact h.elim | exact ⟨h.1, f _ h.2⟩
    show tgD t d ρ fun ρ1 => te ρ1 fun e => compT t yesT te ρ ds (acc ++ [e]) k
    refine hd d List.mem_cons_self _ fun e he => ?_
    refine compT_ind (fun d' h' => hd d' (List.mem_cons_of_mem _ h')) fun es h => ?_
    rw [List.append_assoc]
    exact hk (e :: es) (.cons he h)
theorem loopT_ind {t : Tg} {S : TSD} {k : DE} (I : List D → List Sl → Prop) (hn : ∀ ρ, I [] ρ → k.nx ρ)
    (hs : ∀ d ds ρ (N : List Sl → Prop), (∀ ρ', I ds ρ' → N ρ') → I (d :: ds) ρ → tgD t d ρ fun ρ1 => S { nx := N, rt := k.rt, bk := k.nx, ct := N, rp := k.rp } ρ1) : ∀ {ds : List D} {ρ : List Sl}, I ds ρ → loopT t S k ds ρ
  | [], ρ, h => hn ρ h
  | d :: ds, ρ, h => hs d ds ρ _ (fun ρ' h' => loopT_ind I hn hs h') h
end DL
set_option Elab.async false
set_option linter.all false
set_option maxRecDepth 100000
set_option maxHeartbeats 4000000
namespace DL
open PySem PySem.Spec L2
/-! ### the bag is made -/
noncomputable def bagQ (K : PySem.W.Frag) (c : Int) (H : Hp) (Q : VK) : Prop := ∀ (p L : Addr) (H' : Hp) (ms : List Int), (∀ b o, H b = some o → H' b = some o) → H p = none → H L = none → H' p = some (.lst [.int 0, .int c, .int 0, .ref L]) → H' L = some (.lst (ms.map V.int)) →
  (∀ m ∈ ms, 0 ≤ m) → ms.length ≤ 63 → Q (.ref p) H'
noncomputable def spBag (K : PySem.W.Frag) (c : Int) : Sp := fun vs H Q _ => ∃ (a : Addr) (ns : List Int), vs = [.ref a] ∧ SqL K H a (ns.map V.int) ∧ ns.length ≤ 63 ∧ bagQ K c H Q
noncomputable def rAbsI : List V → Hp → VK → Prop := fun xs H Q => ∃ i, xs = [.int i] ∧ Q (.int (if i < 0 then -i else i)) H
theorem SqL.kp {K : PySem.W.Frag} {H H' : Hp} {a : Addr} {xs : List V} (k : ∀ o, H a = some o → H' a = some o) (h : SqL K H a xs) : SqL K H' a xs := by
  rcases h with h | h
  · exact .inl (Rd.kp k h)
  · exact .inr h
theorem bag_te {K : PySem.W.Frag} {c : Int} {σ : L2.St} {H : Hp} {Q : VK} {a : Addr} {ns : List Int} (h0 : σ[0]? = some (some (.ref a))) (h2 : σ.length = 2) (hs : SqL K H a (ns.map V.int)) (hl : ns.length ≤ 63) (hq : bagQ K c H Q) :
    tLst (tCons (tC (.int 0)) (tCons (tC (.int c)) (tCons (tC (.int 0)) (tCons (tLc (iList K (tSl (rSlL K) (tVar 0) tNoPart (tPart (tC (.int 63))))) (gName 1) tYes (tCB rAbsI (tCons (tVar 1) tNil)) [1]) tNil)))) σ H Q := by
  have hsl : sizeLine = 16777216 := sizeLine_eq
  obtain ⟨ms, hm, hin, hle⟩ := cut_ints (ns := ns) (lo := none) (hi := some 63)
  refine ⟨_, h0, 63, rfl, a, _, rfl, hs, fun q hq1 => ⟨q, rfl, ⟨_, SqL.of upd_same⟩, ?_⟩⟩
  rw [hm]
  intro D hD
  have qD : D ≠ q := fun e => by rw [e, upd_same] at hD; cases hD
  have HD : H D = none := by rw [upd_ne qD] at hD; exact hD
  let ab : Int → Int := fun i => if i < 0 then -i else i
  refine ⟨fun i m H' => m = ms.length - i ∧ i ≤ ms.length ∧ (∀ b o, b ≠ D → H b = some o → H' b = some o) ∧ H' q = some (.lst (ms.map V.int)) ∧ H' D = some (.lst ((ms.take i).map fun i => V.int (ab i))), ⟨_, rfl, Nat.zero_le _, fun b o n e => ?_, ?_, upd_same⟩, ?_⟩
  · rw [upd_ne n, upd_ne (ne_of_none e hq1)]; exact e
  · rw [upd_ne (Ne.symm qD), upd_same]
  · rintro i m H' ⟨rfl, hi, kp, hq', hD'⟩
    by_cases hlt : i < ms.length
    · refine .inr ⟨⟨_, .int ms[i], SqL.of hq', by rw [List.getElem?_map, List.getElem?_eq_getElem hlt]; rfl⟩, fun H' => i + 1 ≤ ms.length ∧ (∀ b o, b ≠ D → H b = some o → H' b = some o) ∧ H' q = some (.lst (ms.map V.int)) ∧ H' D = some (.lst ((ms.take (i + 1)).map fun i => V.int (ab i))), fun H' ⟨h1, h2⟩ => ⟨_, by omega, rfl, h1, h2⟩, fun x H2 ⟨e, y⟩ => ?_⟩
      subst e
      have hx := y _ (SqL.of hq')
      rw [List.getElem?_map, List.getElem?_eq_getElem hlt] at hx
      obtain rfl : V.int ms[i] = x := Option.some.inj hx
      refine ⟨by simp [wipe], ?_⟩
      change tCB rAbsI (tCons (tVar 1) tNil) _ _ _
      refine ⟨_, by simp [wipe, h2], ms[i], rfl, _, hD', by rw [List.length_map, List.length_take]; omega, by omega, fun b o n e => ?_, ?_, ?_⟩
      · rw [upd_ne n]; exact kp b o n e
      · rw [upd_ne (Ne.symm qD)]; exact hq'
      · rw [upd_same, List.take_succ_eq_append_getElem hlt, List.map_append]; rfl
    · have e : i = ms.length := by omega
      subst e
      rw [List.take_length] at hD'
      refine .inl ⟨⟨_, SqL.of hq', by rw [List.length_map]; exact Nat.le_refl _⟩, by show 4 ≤ sizeLine; omega, fun p hp => ?_⟩
      have np : p ≠ D := fun e => by rw [e, hD'] at hp; cases hp
      have Hp0 : H p = none := by
        cases z : H p with
        | none => rfl
        | some o => rw [kp p o np z] at hp; cases hp
      refine hq p D _ (ms.map ab) (fun b o e => ?_) Hp0 HD upd_same ?_ (fun m hm' => ?_) (by rw [List.length_map]; omega)
      · have nb : b ≠ D := ne_of_none e HD
        rw [upd_ne (ne_of_none (kp b o nb e) hp)]; exact kp b o nb e
      · rw [upd_ne (Ne.symm np), hD', List.map_map]; rfl
      · obtain ⟨z, _, rfl⟩ := List.mem_map.mp hm'
        show 0 ≤ (if z < 0 then -z else z)
        split <;> omega
theorem Fun.okBag {P : Program} {w : World} {K : PySem.W.Frag} {mg : Str → Option Value} {base : Heap} {x y z qual : Str} {st : Stmt} {f : Addr} {fd : FuncData} {k : Nat} {c : Int} (Fn : Fun K x qual st f fd) (S : FnScope [y, z] [y] (defScope st))
    (hb : ∃ T : TS, (∀ (cdv : Value) (A : Around) (outer : List Env) (s : Shared) (H : Hp) (E : XK), PSs (cxOf CX0 P w K mg base [y, z] qual (defScope st) f cdv A outer s H E).nox (defBody st) T) ∧
      ∀ D σ H, (tRet (tLst (tCons (tC (.int 0)) (tCons (tC (.int c)) (tCons (tC (.int 0)) (tCons (tLc (iList K (tSl (rSlL K) (tVar 0) tNoPart (tPart (tC (.int 63))))) (gName 1) tYes (tCB rAbsI (tCons (tVar 1) tNil)) [1]) tNil)))))) D σ H → T D σ H) : FnG P w K mg base CX0 (k + 1) f fd [y] (spBag K c) := by
  obtain ⟨oc, od, kV, doc, pm, an, cdv, ct, osl, rfl, lk, hcd⟩ := Fn.ex
  obtain ⟨T, hb, hT⟩ := hb
  refine fnG_of lk hcd S (fun vs H Q E h => ?_) fun A outer s H vs Q E hr hg h => ?_
  · obtain ⟨a, ns, rfl, _⟩ := h; rfl
  · obtain ⟨a, ns, rfl, hs, hl, hq⟩ := h
    exact ⟨_, (hb cdv A outer s H E).nox, hT _ _ _ (bag_te rfl rfl hs hl hq)⟩
/-- what is needed of the def that makes the bag -/
structure BagP (P : Program) (w : World) (K : PySem.W.Frag) (mg : Str → Option Value) (base : Heap) (n : Nat) (x : Str) : Prop where
  ex : ∃ (f : Addr) (fd : FuncData) (ps : List Str) (k : Nat) (c : Int), 0 ≤ c ∧ k ≤ n ∧ FnG P w K mg base CX0 k f fd ps (spBag K c) ∧ mg x = some (.ref f) ∧ PySem.W.keepIn K (.ref f) = true ∧ Binds K fd ps []
noncomputable def bagS (K : PySem.W.Frag) : TS := fun E σ H => ∃ (a : Addr) (ns : List Int), σ[0]? = some (some (.ref a)) ∧ SqL K H a (ns.map V.int) ∧ ns.length ≤ 63 ∧ ∀ c : Int, 0 ≤ c → bagQ K c H fun v H' => E.nx (σ.set 1 (some v)) H'
theorem s_bag0 {X : Cx} {n : Nat} {f x y : Str} {px py pf ep pos : Pos} (b : BagP X.prog X.w X.K X.mg X.base n f) (hr : Room n X.A) (hgd : X.A.guards = some []) (hN : X.N.Nodup) (hi : X.N[1]? = some x) (hx : Loc X.env.scope x) (hy : X.N[0]? = some y) (hg : Gl X f)
    (hv : Vis X.env.scope y := by first | exact Or.inl rfl | exact Or.inr (Or.inl rfl) | exact Or.inr (Or.inr rfl)) (hd : (y == ("__debug__" : Str)) = false := by decide) (hcd : (y == ("__classdict__" : Str)) = false := by decide)
    (hdb : (f == ("__debug__" : Str)) = false := by decide) (he : starEach [.Name y py] X.env = (false, eval (.Name y py) X.env) :: starEach [] X.env := by rfl) (hpl : (backTo ep (starEach [] X.env)).any (·.1) = false := by rfl)
    (hs : swapsWith (.Call (.Name f pf) [.Name y py] [] ep) (some (.Name x px)) pos.line X.env = pure false := by rfl) (hf : X.fn x = true ∨ X.env.scope.names.lookup x = some .local := by first | exact .inl rfl | exact .inr rfl | assumption) :
    PS X (.Assign [.Name x px] (.Call (.Name f pf) [.Name y py] [] ep) pos) (bagS X.K) := by
  obtain ⟨fa, fd, ps, k, c, hc, hk, fn, hm, hkp, hb⟩ := b.ex
  have hp := ps_set hN hi hx (peG_call (E := E0) fn (hr.mono hk) hgd hg hm hkp hb .nil pass0 (pa_cons (pe_var hy hv hd hcd) pa_nil he) hdb he hpl) hs hf
  exact ps_imp hp fun D σ H ⟨a, ns, h0, hs, hl, hq⟩ => ⟨_, h0, a, ns, rfl, hs, hl, hq c hc⟩
/-! ### the law's def: a bag, then data -/
noncomputable def spLaw (K : PySem.W.Frag) : Sp := fun vs H Q _ => ∃ (a : Addr) (ns : List Int), vs = [.ref a] ∧ SqL K H a (ns.map V.int) ∧ ns.length ≤ 63 ∧ ∀ H', Q (.bl true) H'
noncomputable def endLaw : DE := ⟨fun _ => False, fun t => t = .d (.bl true), fun _ => False, fun _ => False, fun d _ => Tr.d d = .d (.bl true)⟩
theorem Fun.okLaw {P : Program} {w : World} {K : PySem.W.Frag} {mg : Str → Option Value} {base : Heap} {x y qual : Str} {st st1 : Stmt} {rest : List Stmt} {f : Addr} {fd : FuncData} {N : List Str} {k n : Nat} (Fn : Fun K x qual st f fd) (S : FnScope N [y] (defScope st)) (hn : N.length = n + 2) (hbody : defBody st = st1 :: rest)
    (hb : ∃ T : TSD, (∀ (cdv : Value) (A : Around) (outer : List Env) (s : Shared) (H : Hp) (E : XK), Room k (A.deeper (PyProof.Rows.envOfC qual (defScope st) s.heap.objs.size f cdv)) → A.guards = some [] →
      PS (cxOf CX0 P w K mg base N qual (defScope st) f cdv A outer s H E).nox st1 (bagS K) ∧ ∀ (G : Gh) (H' : Hp) (pn : List (V × D)), PSs (cxOf CX0 P w K mg base N qual (defScope st) f cdv A outer s H E).nox rest (liftS ⟨K, G, H', pn⟩ T)) ∧
      T endLaw (.un :: .dat .bag :: List.replicate n .un)) : FnG P w K mg base CX0 (k + 1) f fd [y] (spLaw K) := by
  obtain ⟨oc, od, kV, doc, pm, an, cdv, ct, osl, rfl, lk, hcd⟩ := Fn.ex
  obtain ⟨T, hb, hT⟩ := hb
  refine fnG_of lk hcd S (fun vs H Q E h => ?_) fun A outer s H vs Q E hr hg h => ?_
  · obtain ⟨a, ns, rfl, _⟩ := h; rfl
  · obtain ⟨a, ns, rfl, hs, hl, hq⟩ := h
    obtain ⟨h1, h2⟩ := hb cdv A outer s H E hr hg
    have h2' : PSs (cxOf CX0 P w K mg base N qual (defScope st) f cdv A outer s H E).nox rest (fun E σ H => ∃ F : Fr, F.K = K ∧ liftS F T E σ H) := ⟨fun pins s σ H E I ⟨⟨_, G, H', pn⟩, e, w⟩ => by
      cases e
      exact (h2 G H' pn).run pins s σ H E I w⟩
    refine ⟨_, hbody ▸ (pss_cons h1 h2').nox, ?_⟩
    have e0 : L2.start N [V.ref a] = some (.ref a) :: none :: List.replicate n none := by
      unfold L2.start
      rw [hn]
      rfl
    rw [e0]
    refine ⟨a, ns, rfl, hs, hl, fun c hc p L H' ms kp hp hL hp' hL' h0 h63 => ?_⟩
    have np : p ≠ L := fun e => by
      subst e
      rw [hp'] at hL'
      cases ms with
      | nil => cases hL'
      | cons a ms =>
        cases ms with
        | nil => cases hL'
        | cons b ms =>
          cases ms with
          | nil => cases hL'
          | cons c ms =>
            cases ms with
            | nil => cases hL'
            | cons d ms => cases hL'
    let G : Gh := ⟨p, L, fun b => b = p ∨ b = L⟩
    have bag : BagOk H' p L := ⟨0, c, 0, ms, hp', hL', by omega, hc, by omega, h0, h63⟩
    have tr : ∀ a, G.own a → Mut (H' a) := fun a z => by
      rcases z with rfl | rfl
      · rw [hp']; exact True.intro
      · rw [hL']; exact True.intro
    refine ⟨⟨K, G, H', []⟩, rfl, G, .un :: .dat .bag :: List.replicate n .un, endLaw, ⟨rfl, rfl, .inl rfl, .inr rfl, fun _ z => z, fun a z n => absurd z n, tr, .refl bag, (fun _ z => nomatch z), [], ?_, List.nodup_nil⟩, hT,
      ⟨fun _ _ _ _ z _ => z.elim, fun t v R H2 hd x hR nR hv => ?_, fun _ _ _ _ z _ => z.elim, fun _ _ _ _ z _ => z.elim, fun d ρ G' σ' H2 v hd r hv => by
        obtain rfl : d = .bl true := by injection hd
        obtain rfl : v = .bl true := hv
        exact hq H2⟩⟩
    · exact ⟨_, _, [], [], rfl, rfl, ⟨some (.ref p), _, [], [], rfl, ⟨rfl, .ref p, rfl, rfl⟩, slots_un n, rfl⟩, rfl⟩
    · have hd' : t = .d (.bl true) := hd
      subst hd'
      obtain rfl : v = .bl true := hv.2
      exact hq H2
end DL
set_option Elab.async false
set_option linter.all false
set_option maxRecDepth 100000
set_option maxHeartbeats 4000000
namespace DL
open PySem PySem.Spec PyProof.Rows L2
/-- the heap behind the top as an abstract one: the script alone is tracked, where it is no object of the module -/
noncomputable def scriptH (K : PySem.W.Frag) (a : Addr) (ob : Obj) (ns : List Int) : Hp := fun b => if b = a ∧ K.lookup a = none then some (.frz ob (.lst (ns.map V.int))) else none
theorem scriptH_at {K : PySem.W.Frag} {a b : Addr} {ob : Obj} {ns : List Int} {u : HO} (h : scriptH K a ob ns b = some u) : b = a ∧ K.lookup a = none ∧ u = .frz ob (.lst (ns.map V.int)) := by
  unfold scriptH at h
  split at h
  · rename_i z
    exact ⟨z.1, z.2, (Option.some.inj h).symm⟩
  · cases h
end DL
set_option Elab.async false
set_option linter.all false
set_option maxRecDepth 100000
set_option maxHeartbeats 4000000
namespace DL
open PySem PySem.Spec PyProof.Rows L2
/-! ### isinstance -/
noncomputable def tyN : D → Option String
  | .non => some "NoneType" | .bl _ => some "bool" | .int _ => some "int" | .str _ => some "str"
  | .lst _ => some "list" | .tup _ => some "tuple" | .dic false _ => some "dict" | .at _ d => tyN d | _ => none
noncomputable def tyTs : List String := ["bool", "int", "str", "list", "tuple", "dict"]
noncomputable def isT (a T : String) : Bool := a == T || (a == "bool" && T == "int")
noncomputable def isB (d : D) (T : String) : Option Bool := match tyN d with
  | some a => if T ∈ tyTs then some (isT a T) else none
  | none => none
theorem kitB_tab : ∀ a ∈ ("NoneType" :: tyTs), ∀ T ∈ tyTs, kitB a T = some (isT a T) := by decide +kernel
theorem tyN_mem {d : D} {a : String} (h : tyN d = some a) : a ∈ ("NoneType" :: tyTs) := by
  cases d with
  | «at» p d => exact tyN_mem (d := d) h
  | dic t es => cases t <;> cases h; decide
  | ins C fs => cases h
  | bag => cases h
  | glb a => cases h
  | lock o u => cases h
  | _ => cases h; decide
section
variable {K : PySem.W.Frag} {G : Gh} {H : Hp}
theorem tyX_of {d : D} {v : V} {a : String} (h : tyN d = some a) (hd : Dt K G H d v) : TyX K H v (.type a) := by
  cases d with
  | «at» p d => exact tyX_of (d := d) h hd.2
  | non => cases h; obtain rfl := hd; exact .base .non
  | bl b => cases h; obtain rfl := hd; exact .base (.bl b)
  | int i => cases h; obtain rfl := hd; exact .base (.int i)
  | str x => cases h; obtain rfl := hd; exact .base (.str x)
  | lst ds => cases h; obtain ⟨p, xs, rfl, n, ha, _⟩ := hd; exact .base (.lst ha)
  | tup ds =>
    cases h
    obtain ⟨p, xs, rfl, ha, _⟩ := hd
    exact .base (.tup ha)
  | dic t es =>
    cases t
    · cases h
      obtain ⟨p, kvs, rfl, n, ha, _⟩ := dic_K hd
      rcases ha with ha | ⟨o, ha⟩
      · exact .base (.dK ha)
      · exact .fDict ha
    · cases h
  | ins C fs => cases h
  | bag => cases h
  | glb a => cases h
  | lock o u => cases h
theorem isB_kit {d : D} {T : String} {b : Bool} {v : V} (h : isB d T = some b) (hd : Dt K G H d v) : ∃ a, tyN d = some a ∧ TyX K H v (.type a) ∧ PySem.W.kitOne K (.type a) (.type T) = some b := by
  unfold isB at h
  split at h
  · rename_i a ha
    split at h
    · rename_i hT
      cases h
      exact ⟨a, ha, tyX_of ha hd, kit_ty (kitB_tab a (tyN_mem ha) T hT)⟩
    · cases h
  · cases h
end
noncomputable def isiT (T : String) (t : TD) : TD := fun ρ k => t ρ fun d => optK (isB d T) fun b => k (.bl b)
noncomputable def isi2T (T U : String) (t : TD) : TD := fun ρ k => t ρ fun d => optK (isB d T) fun b => optK (isB d U) fun c => k (.bl (b || c))
section
variable {X : Cx} {F : Fr} {e : Expr} {te : TD} {p q p2 p3 pos : Pos}
theorem d_isi {T' : Str} (T : String) (hg : Gl X "isinstance") (hm : X.mg "isinstance" = none) (hg2 : Gl X T') (hm2 : X.mg T' = none) (hv : bootBuiltins T' = some (.type T)) (he : PE X e (lift F te))
    (hn : T' ≠ "__name__" := by decide) (hdb : (T' == ("__debug__" : Str)) = false := by decide)
    (hs : starEach [e, .Name T' q] X.env = (false, eval e X.env) :: starEach [.Name T' q] X.env := by rfl) (hs2 : starEach [.Name T' q] X.env = (false, eval (.Name T' q) X.env) :: starEach [] X.env := by rfl)
    (hpl : (backTo pos (starEach [.Name T' q] X.env)).any (·.1) = false := by rfl) (hK : X.K = F.K := by rfl) :
    PE X (.Call (.Name "isinstance" p) [e, .Name T' q] [] pos) (lift F (isiT T te)) := by
  refine pe_imp (pe_callB call_isi hg hm (by decide +kernel) (pa_cons he (pa_cons (pe_bltn (v := .ty T) hg2 hm2 hv rfl hn hdb) pa_nil hs2) hs) (by decide) (by decide) hs hpl) fun σ H Q ⟨G, ρ, k, r, h, w⟩ => ?_
  refine ⟨G, ρ, _, r, h, fun d v H1 h1 e1 d1 => ?_⟩
  obtain ⟨b, hb, hk⟩ := h1
  obtain ⟨a, ha, h2, h3⟩ := isB_kit hb d1
  exact ⟨v, .ty T, .type a, .type T, b, rfl, .ty T, hK ▸ h2, hK ▸ h3, w _ _ H1 hk e1 rfl⟩
end
/-! ### chained comparisons, other operators -/
noncomputable def chainT (o o' : OD) (ta tb tc : TD) : TD := fun ρ k => ta ρ fun x => tb ρ fun y => o x y fun z => match z with
  | .bl b => if b = true then tc ρ fun w => o' y w k else k (.bl false)
  | _ => False
noncomputable def powD : OD := fun x y k => match x, y with
  | .int i, .int j => CPow i j ∧ k (.int (i ^ j.toNat))
  | _, _ => False
/-- one sign in a text -/
noncomputable def inSg : OD := fun x y k => match x, y with
  | .str x, .str z => (∃ c, x = ⟨#[c]⟩) ∧ ∀ c, x = ⟨#[c]⟩ → k (.bl (decide (c ∈ z.cps.toList)))
  | _, _ => False
noncomputable def notInSg : OD := fun x y k => match x, y with
  | .str x, .str z => (∃ c, x = ⟨#[c]⟩) ∧ ∀ c, x = ⟨#[c]⟩ → k (.bl (!decide (c ∈ z.cps.toList)))
  | _, _ => False
section
variable {X : Cx} {F : Fr} {a b : Expr} {ta tb : TD} {pos : Pos}
theorem d_pow (ha : PE X a (lift F ta)) (hb : PE X b (lift F tb)) : PE X (.BinOp a .Pow b pos) (lift F (binT powD ta tb)) :=
  d_bin op_pow (ok_opI (C := CPow) (g := fun i j => i ^ j.toNat) fun x y k h => by
    unfold powD at h
    split at h
    · exact ⟨_, _, rfl, rfl, h.1, h.2⟩
    · exact h.elim) ha hb
end
end DL
set_option Elab.async false
set_option linter.all false
set_option maxRecDepth 100000
set_option maxHeartbeats 4000000
namespace DL
open PySem PySem.Spec PyProof.Rows L2
/-! ### a tuple so many times -/
/-! ### dicts with text keys, written out -/
structure PK (X : Cx) (F : Fr) (pos : Pos) (keys : List (Option Expr)) (values : List Expr) (ks : List Str) (ta : TLD) : Prop where
  ex : ∃ trs, PPs X pos keys values trs ∧ keys.all (·.isSome) = true ∧ keys.length = values.length ∧ keys.length = ks.length ∧ ∀ σ H Q, (∃ G ρ k, Rel F G H σ ρ ∧ ta ρ k ∧ ∀ ds vs H', k ds → Ext G H H' → DtL F.K G H' ds vs → vs.length = ks.length → Q ((ks.map V.str).zip vs) H') → tPairs trs σ H Q
noncomputable def dispT (ks : List Str) (ta : TLD) : TD := fun ρ k => ta ρ fun ds => k (.dic false ((ks.map D.str).zip ds))
section
variable {X : Cx} {F : Fr} {pos p : Pos} {keys : List (Option Expr)} {values : List Expr} {ks : List Str} {ta : TLD} {tv : TD} {v : Expr} {x : Str} {j : Nat}
theorem pk_nil : PK X F pos [] [] [] nilA := ⟨[], pps_nil, rfl, rfl, rfl, fun σ H Q ⟨G, ρ, k, r, h, q⟩ => q [] [] H h (.refl r.bag) rfl rfl⟩
theorem pk_cons (hv : PE X v (lift F tv)) (hr : PK X F pos keys values ks ta) : PK X F pos (some (.Constant (.str x) j p) :: keys) (v :: values) (x :: ks) (consA tv ta) := by
  obtain ⟨trs, h1, h2, h3, h4, h5⟩ := hr
  refine ⟨_, pps_cons pe_str hv h1, by simpa using h2, by simp [h3], by simp [h4], fun σ H Q ⟨G, ρ, k, r, h, q⟩ => ?_⟩
  refine ⟨G, ρ, _, r, h, fun d w H1 k1 e1 d1 => h5 _ _ _ ⟨G, ρ, _, r.step e1, k1, fun ds vs H2 k2 e2 d2 l => ?_⟩⟩
  exact q (d :: ds) (w :: vs) H2 k2 (e1.trans e2) ⟨w, vs, rfl, ((r.step e1).evo e2).dt _ _ d1, d2⟩ (by simp [l])
theorem merge_keys {kvs : List (Key × V)} (h : (kvs.map (·.1)).Nodup) : mergeK [] kvs = kvs := by
  have gen : ∀ (b a : List (Key × V)), ((a ++ b).map (·.1)).Nodup → b.foldl (fun acc kv => putK acc kv.1 kv.2) a = a ++ b := by
    intro b
    induction b with
    | nil => intro a _; simp
    | cons c b ih =>
      intro a h
      have hn : putK a c.1 c.2 = a ++ [c] := by
        unfold putK
        rw [if_neg]
        intro z
        obtain ⟨w, hw, e⟩ := List.any_eq_true.mp z
        have e := of_decide_eq_true e
        rw [List.map_append, List.map_cons] at h
        have := List.nodup_append.mp h
        exact this.2.2 _ (List.mem_map.mpr ⟨w, hw, rfl⟩) _ (List.mem_cons_self) e
      rw [List.foldl_cons, hn, ih (a ++ [c]) (by simpa using h)]
      simp
  exact gen kvs [] (by simpa using h)
theorem DtP.zip {K : PySem.W.Frag} {G : Gh} {H : Hp} : ∀ {ks : List Str} {ds : List D} {vs : List V}, DtL K G H ds vs → DtP K G H false ((ks.map D.str).zip ds) ((ks.map fun x => (Sum.inr x : Key)).zip vs)
  | [], ds, vs, h => by simp only [List.map_nil, List.zip_nil_left]; exact ⟨rfl, rfl⟩
  | x :: ks, [], vs, h => by obtain rfl := h; simp only [List.zip_nil_right]; exact ⟨rfl, rfl⟩
  | x :: ks, d :: ds, vs, h => by
    obtain ⟨v, r, rfl, h1, h2⟩ := h
    simp only [List.map_cons, List.zip_cons_cons]
    exact ⟨.inr x, v, _, rfl, rfl, h1, DtP.zip h2⟩
theorem d_disp (h : PK X F pos keys values ks ta) (hn : ks.Nodup) (h0 : ks ≠ []) (h15 : ks.length ≤ 15) : PE X (.Dict keys values pos) (lift F (dispT ks ta)) := by
  obtain ⟨trs, h1, h2, h3, h4, h5⟩ := h
  refine pe_imp (pe_disp h1 h2 h3 (fun z => h0 (by rw [z] at h4; exact List.eq_nil_of_length_eq_zero h4.symm)) (by rw [h4]; exact h15)) fun σ H Q ⟨G, ρ, k, r, w, q⟩ => fun p hp => ?_
  have e1 : Ext G H (upd H p (.dK [])) := Ext.new r.bag hp
  have r1 : Rel F (G.add p) (upd H p (.dK [])) σ ρ := r.grow e1 hp (by rw [upd_same]; exact True.intro)
  refine h5 _ _ _ ⟨_, ρ, _, r1, w, fun ds vs H2 k2 e2 d2 l => ?_⟩
  have np : p ≠ G.bg := fun z => r.free hp (by rw [z]; exact r.obg)
  have hp2 : H2 p = some (.dK []) := e2.mine np upd_same (.inr rfl)
  have lk : ((ks.map fun x => (Sum.inr x : Key)).zip vs).length = ks.length := by rw [List.length_zip, List.length_map, l, Nat.min_self]
  refine ⟨hp2, (ks.map fun x => (Sum.inr x : Key)).zip vs, ?_, by rw [lk]; exact h15, ?_⟩
  · rw [List.zip_map_left, List.zip_map_left, List.map_map]
    rfl
  · have r2 := r1.step e2
    have hm : mergeK [] ((ks.map fun x => (Sum.inr x : Key)).zip vs) = (ks.map fun x => (Sum.inr x : Key)).zip vs := merge_keys (by
      rw [List.map_fst_zip (by rw [List.length_map, l]; exact Nat.le_refl _)]
      exact hn.map _ fun a b n e => n (Sum.inr.inj e))
    rw [hm]
    have ev : Evo (G.add p) G H2 (upd H2 p (.dK ((ks.map fun x => (Sum.inr x : Key)).zip vs))) :=
      ⟨fun a o n h => .inl (by rw [upd_ne (fun z => n (.inr z))]; exact h), r2.tr, fun a n _ => fun z => n (.inl z), rfl, rfl⟩
    have ex : Ext G H (upd H2 p (.dK ((ks.map fun x => (Sum.inr x : Key)).zip vs))) := by
      refine ⟨fun a o n h => ?_, ?_⟩
      · have na : a ≠ p := fun z => by rw [z, hp] at h; cases h
        rw [upd_ne na]
        exact ((e1.trans (Ext.cg (G := G.add p) (G' := G) rfl rfl (fun _ h => .inl h) e2)).keep a o n h)
      · obtain ⟨x, y, z, ns, b1, b2, b3⟩ := (show BagOk H2 G.bg G.bi from e2.bag)
        have nb : p ≠ G.bi := fun z => by rw [z] at hp2; rw [b2] at hp2; cases hp2
        exact ⟨x, y, z, ns, by rw [upd_ne np.symm]; exact b1, by rw [upd_ne nb.symm]; exact b2, b3⟩
    exact q _ _ _ k2 ex ⟨p, rfl, r.free hp, .inl ⟨_, .inl upd_same, ev.dtp _ _ _ (DtP.zip d2)⟩⟩
end
end DL
set_option Elab.async false
set_option linter.all false
set_option maxRecDepth 100000
set_option maxHeartbeats 4000000
namespace DL
open PySem PySem.Spec PyProof.Rows L2
/-! ### an owned list read and changed in place -/
noncomputable def ixO (i : Nat) (tb : TD) : TD := fun ρ k => match ρ[i]? with
  | some (.tr (.l ts)) => tb ρ fun d => match d with
    | .int j => ∃ d, L2.atI ts j = some (.d d) ∧ k d
    | _ => False
  | _ => False
/-- a, b = [..] of its own, e -/
noncomputable def parO (i j : Nat) (ta : TRD) (tb : TD) : TSD := fun k ρ => ta ρ fun t => tb ρ fun d => k.nx ((ρ.set i (.tr t)).set j (.dat d))
section
variable {X : Cx} {F : Fr} {e b : Expr} {tb : TD} {ta : TLD} {pos cpos apos px py pt pt2 : Pos} {x y : Str}
theorem d_ixO (i : Nat) (hb : PE X b (lift F tb)) (hN : X.N[i]? = some x := by rfl) (hv : Vis X.env.scope x := by first | exact Or.inl rfl | exact Or.inr (Or.inl rfl) | exact Or.inr (Or.inr rfl)) (hdb : (x == ("__debug__" : Str)) = false := by decide)
    (hcd : (x == ("__classdict__" : Str)) = false := by decide)
    (hs : PlainIx b := by intro _ _; rfl) (hK : X.K = F.K := by rfl) :
    PE X (.Subscript (.Name x px) b pos) (lift F (ixO i tb)) := by
  refine pe_imp (pe_ix ix_seq (pe_var hN hv hdb hcd) hb hs) fun σ H Q ⟨G, ρ, k, r, h, q⟩ => ?_
  obtain ⟨ts, hi, h⟩ := tl_of h
  obtain ⟨v, B, e1, ⟨p, xs, M, rfl, o2, h4, h5, rfl⟩, _, _, _⟩ := r.chg hi
  refine ⟨_, e1, G, ρ, _, r, h, fun d u H1 h1 x1 d1 => ?_⟩
  cases d <;> try exact h1.elim
  rename_i j
  obtain rfl := d1
  obtain ⟨d, hd, hk⟩ := h1
  obtain ⟨v, B, e1', ⟨p', xs', M, rfl, o2, h4, h5, rfl⟩, _, _, _⟩ := (r.step x1).chg hi
  rw [e1] at e1'
  cases e1'
  unfold L2.atI at hd
  cases q' : ixN ts.length j with
  | none => rw [q'] at hd; cases hd
  | some n =>
    rw [q'] at hd
    obtain ⟨w, M', w1, w2, _⟩ := h5.get hd
    refine .inl ⟨p, xs', _, w, rfl, rfl, SqL.of h4, ?_, q _ _ _ hk x1 w2.2⟩
    unfold L2.atI
    rw [← h5.len, q']
    exact w1
end
/-! ### a written dict of the module, asked by get -/
noncomputable def tabT (tab : List (Str × D)) (te tf : TD) : TD := fun ρ k => te ρ fun y => tf ρ fun z => match y with
  | .str x => k (((tab.find? (fun p => decide (p.1 = x))).map (·.2)).getD z)
  | _ => False
end DL
set_option Elab.async false
set_option linter.all false
set_option maxRecDepth 100000
set_option maxHeartbeats 4000000
namespace DL
open PySem PySem.Spec PyProof.Rows L2
/-! ### x == [], x == (): whatever is in x -/
noncomputable def rE0 (K : PySem.W.Frag) : R2 := fun x y H Q => ∃ a b xs, x = .ref a ∧ y = .ref b ∧ ((SqL K H a xs ∧ SqL K H b []) ∨ (SqT K H a xs ∧ SqT K H b [])) ∧ Q (.bl xs.isEmpty) H
section
variable {X : Cx} {F : Fr} {n : Nat} {a b : Expr} {ta tb : TD} {pos : Pos}
theorem op_e0 (hr : Room n X.A) : OpR X (compareOp .Eq) (rE0 X.K) := by
  intro pins s σ H x y v u Q I rx ry h
  obtain ⟨a, b, xs, rfl, rfl, h, q⟩ := h
  cases rx
  cases ry
  have hu : X.A.units < cLine := by have := u150 hr; omega
  rcases h with ⟨h1, h2⟩ | ⟨h1, h2⟩
  · obtain ⟨its, r1, k1, _⟩ := I.list h1
    obtain ⟨its2, r2, k2, _⟩ := I.list h2
    replace k1 : s.heap.IsList a its.toArray := let ⟨o, n, ho, hc, _, hd⟩ := k1; ⟨o, ho, hc, n, hd⟩
    replace k2 : s.heap.IsList b its2.toArray := let ⟨o, n, ho, hc, _, hd⟩ := k2; ⟨o, ho, hc, n, hd⟩
    cases r2
    cases r1 with
    | nil => exact SeqAt.eq_listAt (e := fun _ => true) k1 k2 rfl hu (fun j h => absurd h (Nat.not_lt_zero _)) ⟨.bl true, H, I, rfl, q⟩
    | cons c r => exact SeqAt.eq_list_lengthsAt k1 k2 (by simp) hu ⟨.bl false, H, I, rfl, q⟩
  · obtain ⟨its, r1, k1, _⟩ := I.tuple h1
    obtain ⟨its2, r2, k2, _⟩ := I.tuple h2
    cases r2
    refine SeqAt.eq_tupleAt (e := fun _ => true) k1 k2 hu (fun j _ h => absurd h (Nat.not_lt_zero _)) ?_
    cases r1 with
    | nil => exact ⟨.bl true, H, I, rfl, q⟩
    | cons c r => exact ⟨.bl false, H, I, by simp; rfl, q⟩
end
noncomputable def e0D : OD := fun x y k => match x, y with
  | .lst ds, .lst [] => k (.bl ds.isEmpty)
  | .tup ds, .tup [] => k (.bl ds.isEmpty)
  | _, _ => False
theorem DtL.emp {K : PySem.W.Frag} {G : Gh} {H : Hp} {ds : List D} {vs : List V} (h : DtL K G H ds vs) : ds.isEmpty = vs.isEmpty := by
  have := h.len
  cases ds <;> cases vs <;> simp at this ⊢
theorem ok_e0 {F : Fr} : OkOp F (rE0 F.K) e0D := by
  intro G H x y v u k Q ok h d1 d2 q
  unfold e0D at h
  split at h
  · obtain ⟨a, xs, rfl, n1, h1, l1⟩ := d1
    obtain ⟨b, ys, rfl, n2, h2, l2⟩ := d2
    obtain rfl : ys = [] := l2
    exact ⟨a, b, xs, rfl, rfl, .inl ⟨SqL.of h1, SqL.of h2⟩, by rw [← l1.emp]; exact q _ _ H h (.refl ok.bag) rfl⟩
  · obtain ⟨a, xs, rfl, h1, l1⟩ := d1
    obtain ⟨b, ys, rfl, h2, l2⟩ := d2
    obtain rfl : ys = [] := l2
    exact ⟨a, b, xs, rfl, rfl, .inr ⟨.inl (.inl h1), .inl (.inl h2)⟩, by rw [← l1.emp]; exact q _ _ H h (.refl ok.bag) rfl⟩
  · exact h.elim
end DL
set_option Elab.async false
set_option linter.all false
set_option maxRecDepth 100000
set_option maxHeartbeats 4000000
namespace DL
open PySem PySem.Spec PyProof.Rows L2
/-! ### data with dicts, as the model's own data -/
mutual
noncomputable def D.pw : D → PyData
  | .non => .none
  | .bl b => .bool b
  | .int i => .int i
  | .str x => .str x
  | .lst ds => .list (D.pwL ds)
  | .tup ds => .tuple (D.pwL ds)
  | .dic _ es => .dict (D.pwP es)
  | .ins _ _ => .dict []
  | .glb _ => .dict []
  | .bag => .dict []
  | .lock _ _ => .dict []
  | .at _ d => D.pw d
noncomputable def D.pwL : List D → List PyData
  | [] => []
  | d :: ds => D.pw d :: D.pwL ds
noncomputable def D.pwP : List (D × D) → List (PyData × PyData)
  | [] => []
  | (k, d) :: es => (k.py, D.pw d) :: D.pwP es
end
mutual
noncomputable def D.okW : D → Bool
  | .non | .bl _ | .int _ | .str _ => true
  | .lst ds => D.okL ds
  | .tup ds => D.okL ds
  | .dic t es => !t && D.okP es
  | .ins _ _ => false
  | .glb _ => false
  | .bag => false
  | .lock _ _ => false
  | .at _ d => D.okW d
noncomputable def D.okL : List D → Bool
  | [] => true
  | d :: ds => D.okW d && D.okL ds
noncomputable def D.okP : List (D × D) → Bool
  | [] => true
  | (_, d) :: es => D.okW d && D.okP es
end
section
variable {X : Cx} {pins : List (Addr × Obj)} {σ : L2.St} {H : Hp} {s : Shared} {G : Gh}
theorem keyIs_reads {h : Heap} {k : Key} {u : Value} (r : (mixKind X.prog X.w).is k u = true) : Reads h u (kD k).py [] := by
  rcases keyIs_shape r with ⟨i, t, rfl, rfl⟩ | ⟨x, t, rfl, rfl⟩
  · exact .int i t
  · exact .str x t
mutual
theorem Dt.reads (I : Inv X pins σ H s) (hS : H sysModules = none) : ∀ (d : D) (v : V) (u : Value), d.okW = true → Dt X.K G H d v → RelV v u → ∃ as, Reads s.heap u d.pw as ∧ sysModules ∉ as
  | .non, v, u, _, h, r => by obtain rfl := h; obtain rfl : u = .none := r; exact ⟨[], .none, by simp⟩
  | .bl b, v, u, _, h, r => by obtain rfl := h; obtain rfl : u = .bool b := r; exact ⟨[], .bool b, by simp⟩
  | .int i, v, u, _, h, r => by obtain rfl := h; obtain ⟨t, rfl⟩ := r; exact ⟨[], .int i t, by simp⟩
  | .str x, v, u, _, h, r => by obtain rfl := h; obtain ⟨t, rfl⟩ := r; exact ⟨[], .str x t, by simp⟩
  | .lst ds, v, u, c, h, r => by
    obtain ⟨a, xs, rfl, n, ha, hd⟩ := h
    cases r
    obtain ⟨its, rv, ⟨o, n', ho, hc, _, hda⟩, _⟩ := I.list (SqL.of ha)
    obtain ⟨as, r1, r2⟩ := Dt.readsL I hS ds xs its (by simpa only [D.okW] using c) hd rv
    refine ⟨a :: as, .list ho hc hda r1, fun z => ?_⟩
    rcases List.mem_cons.mp z with z | z
    · rw [← z, hS] at ha; cases ha
    · exact r2 z
  | .tup ds, v, u, c, h, r => by
    obtain ⟨a, xs, rfl, ha, hd⟩ := h
    cases r
    obtain ⟨its, rv, ⟨o, ho, hc, n', hda⟩, _⟩ := I.tuple (.inl (.inl ha))
    obtain ⟨as, r1, r2⟩ := Dt.readsL I hS ds xs its (by simpa only [D.okW] using c) hd rv
    exact ⟨as, .tuple ho hc hda r1, r2⟩
  | .dic t es, v, u, c, h, r => by
    simp only [D.okW, Bool.and_eq_true, Bool.not_eq_true'] at c
    obtain ⟨rfl, c⟩ := c
    obtain ⟨a, kvs, rfl, n, ha, hp⟩ := dic_K h
    cases r
    obtain ⟨z, hd, vs, kv, o, ents, ep, ho, hx, hda, _, hpr, _⟩ := dk_rd I.hok ha
    obtain ⟨as, bs, r1, r2, r3, r4⟩ := Dt.readsP I hS es kvs vs ents.toList c hp kv hpr
    refine ⟨a :: as ++ bs, .dict ho hx.1 hda r1 r2, fun y => ?_⟩
    rcases List.mem_append.mp y with y | y
    · rcases List.mem_cons.mp y with y | y
      · rw [← y] at hd; simp at hd
      · exact r3 y
    · exact r4 y
  | .ins C fs, v, u, c, h, r => by simp [D.okW] at c
  | .glb _, v, u, c, h, r => by simp [D.okW] at c
  | .bag, v, u, c, h, r => by simp [D.okW] at c
  | .lock _ _, v, u, c, h, r => by simp [D.okW] at c
  | .at _ d, v, u, c, h, r => Dt.reads I hS d v u (by simpa only [D.okW] using c) h.2 r
theorem Dt.readsL (I : Inv X pins σ H s) (hS : H sysModules = none) : ∀ (ds : List D) (vs : List V) (us : List Value), D.okL ds = true → DtL X.K G H ds vs → Vals vs us → ∃ as, ReadsAll s.heap us (D.pwL ds) as ∧ sysModules ∉ as
  | [], vs, us, _, h, r => by obtain rfl := h; cases r; exact ⟨[], .nil, by simp⟩
  | d :: ds, vs, us, c, h, r => by
    obtain ⟨v, vs, rfl, h1, h2⟩ := h
    simp only [D.okL, Bool.and_eq_true] at c
    cases r with
    | cons r1 r2 =>
      obtain ⟨as, q1, q2⟩ := Dt.reads I hS d v _ c.1 h1 r1
      obtain ⟨bs, q3, q4⟩ := Dt.readsL I hS ds vs _ c.2 h2 r2
      exact ⟨as ++ bs, .cons q1 q3, fun z => by rcases List.mem_append.mp z with z | z; exact q2 z; exact q4 z⟩
theorem Dt.readsP (I : Inv X pins σ H s) (hS : H sysModules = none) : ∀ (es : List (D × D)) (kvs : List (Key × V)) (vs : List (Key × Value)) (ents : List DictEntry), D.okP es = true → DtP X.K G H false es kvs → KV kvs vs → Pairs (mixKind X.prog X.w) ents vs →
    ∃ as bs, ReadsAll s.heap (ents.map (·.key)) ((D.pwP es).map (·.1)) as ∧ ReadsAll s.heap (ents.map (·.val)) ((D.pwP es).map (·.2)) bs ∧ sysModules ∉ as ∧ sysModules ∉ bs
  | [], kvs, vs, ents, _, h, kv, hp => by
    obtain ⟨rfl, _⟩ := h
    cases kv
    cases hp
    exact ⟨[], [], .nil, .nil, by simp, by simp⟩
  | (k, d) :: es, kvs, vs, ents, c, h, kv, hp => by
    obtain ⟨j, v, r, rfl, rfl, h1, h2⟩ := h
    simp only [D.okP, Bool.and_eq_true] at c
    cases kv with
    | @cons p q l1 l2 kq kr =>
      obtain ⟨e1, rv⟩ := kq
      cases hp with
      | cons p1 p2 p3 =>
        obtain ⟨as, q1, q2⟩ := Dt.reads I hS d v _ c.1 h1 rv
        obtain ⟨bs, cs, q3, q4, q5, q6⟩ := Dt.readsP I hS es r l2 _ c.2 h2 kr p3
        refine ⟨[] ++ bs, as ++ cs, .cons (keyIs_reads (X := X) (by rw [show j = q.1 from e1]; exact p1)) q3, .cons (show Reads s.heap (DictEntry.val _) d.pw as by rw [p2]; exact q1) q4, by simpa using q5, fun z => by rcases List.mem_append.mp z with z | z; exact q2 z; exact q6 z⟩
end
end
/-! ### repr of any data -/
end DL
set_option Elab.async false
set_option linter.all false
set_option maxRecDepth 100000
set_option maxHeartbeats 4000000
namespace DL
open PySem PySem.Spec PyProof.Rows L2
/-- the head's call, for a def that runs where no repr runs -/
theorem callG2 {P : Program} {w : World} {K : PySem.W.Frag} {mg mb : Str → Option Value} {k : Nat} {fa a : Addr} {fd : FuncData} {x : Str} {t : Shared} {vs : List Value} {ns : List Int}
    (hK : K.In t.heap) (hG : t.heap.Ns mainGlobals mg) (hB : t.heap.Ns builtinsNs mb) (hBB : ∀ x : Str, x ≠ "__name__" → mb x = bootBuiltins x) (hL : t.heap.NoLimit) (hM : ∃ m, t.heap.Ns sysModules m) (hg : t.gens = #[])
    (ha : t.heap.get? a = some { cls := .type "list", data := .seq vs.toArray }) (hi : IntsAre vs ns) (h63 : ns.length ≤ 63) (hr : Room k callerA)
    (F : ∀ base : Heap, K.In base → base.Ns mainGlobals mg → (∃ m, base.Ns sysModules m) → FnG P w K mg base CX0 k fa fd [x] (spLaw K)) (hbind : ∀ (s : Shared) (u : Value), BindsTo s fd ⟨[u], []⟩ [(x, u)]) :
    codeAny (model P w) callerA (.call (.ref fa) ⟨[.ref a], []⟩) (fun r s' => r = .ok (.ret (.bool true)) ∧ OldK t.heap s'.heap ∧ s'.os = t.os ∧ AllBare s'.gens) t := by
  have rel := vals_ints hi
  have hlen := hi.length
  have hline : ns.length ≤ sizeLine := Nat.le_trans h63 (by decide)
  let ob : Obj := { cls := .type "list", data := .seq vs.toArray }
  let S := scriptH K a ob ns
  have free : ∀ {b : Addr}, b ≠ a → S b = none := fun {b} n => if_neg fun z => n z.1
  have ok : HOk P w S t.heap := fun b u z => by
    obtain ⟨rfl, _, rfl⟩ := scriptH_at z
    exact ⟨ha, by rw [List.length_map]; exact hline, vs, _, rel, ha⟩
  have down : ∀ {b : Addr} {o : Obj}, t.heap.get? b = some o → S b = none → (hidT t.heap S).get? b = some o := fun e n => hidT_get e n
  have dict : ∀ {b : Addr} {o : Obj} {es : Array DictEntry} {ep : Nat}, t.heap.get? b = some o → o.data = .dict es ep → S b = none := fun {b o es ep} e d => by
    by_cases z : b = a
    · subst z
      rw [ha] at e
      cases e
      exact absurd d fun q => (nomatch (show Data.seq vs.toArray _ = Data.dict es ep from q))
    · exact free z
  have spaces : ∀ {b : Addr} {m : Str → Option Value}, t.heap.Ns b m → (hidT t.heap S).Ns b m := fun {b m} ⟨o, es, ep, e, d, r⟩ => ⟨o, es, ep, down e (dict e d), d, r⟩
  have inK : K.In (hidT t.heap S) := fun b o e => down (hK b o e) (by
    cases q : S b with
    | none => rfl
    | some u =>
      obtain ⟨rfl, z, _⟩ := scriptH_at q
      rw [z] at e; cases e)
  have md : Mod K mg (hidT t.heap S) := ⟨inK, spaces hG, ⟨mb, spaces hB, hBB⟩, let ⟨mc, q1, q2⟩ := hL; ⟨mc, spaces q1, q2⟩⟩
  have none_in : ∀ b : Addr, b ∉ ([] : List Addr) := fun b z => nomatch z
  have env : Env0 P w K mg (hidT t.heap S) callerA [] t S := ⟨rfl, md, fun b o e => of_hidT e, Nat.le_of_eq (hidT_size _ _), trivial, fun b z => absurd z (none_in b), ok, .of_eq hg⟩
  have hS : SqL K S a (ns.map V.int) := by
    cases q : K.lookup a with
    | none => exact .inl (.inr ⟨ob, if_pos ⟨rfl, q⟩⟩)
    | some o =>
      have e := hK a o q
      rw [ha] at e
      cases e
      exact .inr ⟨_, vs.toArray, _, q, rfl, rfl, rfl, by rw [List.size_toArray, hlen]; exact hline, by simpa using rel⟩
  refine codeAny_mono ((F _ inK (spaces hG) (let ⟨m, q⟩ := hM; ⟨m, spaces q⟩)).run callerA [] t S ⟨[.ref a], []⟩ [.ref a] [.ref a] (fun v _ => v = .bl true) (fun _ _ _ => False) hr rfl env (hbind t (.ref a)) (.cons rfl .nil) ⟨a, ns, rfl, hS, h63, fun _ => rfl⟩) fun r s' z => ?_
  cases r with
  | error e => exact False.elim z
  | ok fl =>
    cases fl with
    | ret u =>
      obtain ⟨v, H', os, bare, un, ok', rv, q⟩ := z
      obtain rfl : v = .bl true := q
      obtain rfl : u = Value.bool true := rv
      refine ⟨rfl, OldK.of_keep fun b o e => ?_, os, bare⟩
      cases q : S b with
      | none => exact un.keep b o e q (none_in b) (by simp)
      | some u =>
        obtain ⟨rfl, _, rfl⟩ := scriptH_at q
        obtain ⟨e2, _⟩ := ok' b _ (un.frzs b ob _ q)
        rw [ha] at e
        cases e
        exact e2
    | _ => exact False.elim z
/-- the goal that the head leaves -/
theorem walkG2 {l : PySem.W.OpenLaw} {k : Nat} {q : Program} {loose : List Str} {XP : (Str → Option Value) → Heap → Prop} {YP : World → Heap → Prop} {d : DefRec} {K : Params → PySem.W.Frag} {x : Str} (hn : l.most = some 63) (hdf : d.params.defaults = []) (hr : Room k callerA) (himp : importsNone q = true)
    (hY : ∀ (w : World) (h : Heap), YP w h → (K w.params).In h)
    (F : ∀ (w : World) (mg : Str → Option Value) (fa : Addr) (h : Heap), (K w.params).In h → h.Ns mainGlobals mg → mg d.name = some (.ref fa) →
      ∃ fd : FuncData, (∀ (s : Shared) (u : Value), BindsTo s fd ⟨[u], []⟩ [(x, u)]) ∧ ∀ base : Heap, (K w.params).In base → base.Ns mainGlobals mg → (∃ m, base.Ns sysModules m) → FnG l.prog w (K w.params) mg base CX0 k fa fd [x] (spLaw (K w.params))) :
    PySem.W.WalkO q loose XP YP l.row.toRowW d [] (fun f vs => PySem.call f vs) := by
  refine Att.attach_call hn hdf fun w s₀ t mg mb fa o pm cd doc a vs ns G Y ho hd hcd hmg hobj hints hlen hg => ?_
  have inK := hY w _ Y
  obtain ⟨fd, hb, hF⟩ := F w mg fa _ inK G.T.g hmg
  have hM : ∃ m, _ := let ⟨m, q, _⟩ := (G.T.seer himp).mods; ⟨m, q⟩
  exact callG2 inK G.T.g G.T.b G.T.builtins G.T.nolimit hM hg hobj hints hlen hr hF hb
end DL
set_option Elab.async false
set_option linter.all false
set_option maxRecDepth 100000
set_option maxHeartbeats 4000000
namespace DL
open PySem PySem.Spec PyProof.Rows L2
noncomputable abbrev tupE (e : D × D) : D := .tup [e.1, e.2]
/-! ### dicts that are walked: locked for good -/
section
variable {K : PySem.W.Frag} {G : Gh} {H : Hp}
theorem dt_kD : ∀ (j : Key), Dt K G H (kD j) (kV j)
  | .inl _ => rfl
  | .inr _ => rfl
theorem DtP.len : ∀ {es : List (D × D)} {kvs : List (Key × V)} {t : Bool}, DtP K G H t es kvs → es.length = kvs.length
  | [], _, _, h => by rw [h.1]; rfl
  | (k, d) :: es, _, _, h => by
    obtain ⟨j, v, r, rfl, _, _, h2⟩ := h
    simp [DtP.len h2]
theorem DtP.get : ∀ {es : List (D × D)} {kvs : List (Key × V)} {t : Bool} {i : Nat} {j : Key} {v : V}, DtP K G H t es kvs → kvs[i]? = some (j, v) → ∃ d, es[i]? = some (kD j, d) ∧ Dt K G H d v
  | [], _, _, i, _, _, h, e => by rw [h.1] at e; simp at e
  | (k, d) :: es, _, _, 0, _, _, h, e => by
    obtain ⟨j, v, r, rfl, rfl, h1, h2⟩ := h
    simp at e
    obtain ⟨rfl, rfl⟩ := e
    exact ⟨d, rfl, h1⟩
  | (k, d) :: es, _, _, i + 1, _, _, h, e => by
    obtain ⟨j, v, r, rfl, rfl, h1, h2⟩ := h
    obtain ⟨d', e1, e2⟩ := DtP.get (i := i) h2 (by simpa using e)
    exact ⟨d', by simpa using e1, e2⟩
end
noncomputable def keysI (t : TD) : TLD := fun ρ k => t ρ fun d => ∃ es, d = .dic false es ∧ k (es.map Prod.fst)
noncomputable def valsI (t : TD) : TLD := fun ρ k => t ρ fun d => ∃ es, d = .dic false es ∧ k (es.map Prod.snd)
noncomputable def itemsI (t : TD) : TLD := fun ρ k => t ρ fun d => ∃ es, d = .dic false es ∧ k (es.map tupE)
end DL
set_option Elab.async false
set_option linter.all false
set_option maxRecDepth 100000
set_option maxHeartbeats 4000000
namespace DL
open PySem PySem.Spec PyProof.Rows L2
/-! ### list(d), list(d.items()), dict(pairs) -/
noncomputable def itemsF (t : TD) : TLD := fun ρ k => t ρ fun d => ∃ es, d = .dic false es ∧ k (es.map tupE)
noncomputable def listKR : RD
  | [.dic false es], k => k (.lst (es.map Prod.fst))
  | _, _ => False
noncomputable def mergeD (es more : List (D × D)) : List (D × D) := more.foldl (fun acc e => putD acc e.1 e.2) es
where putD (es : List (D × D)) (k d : D) : List (D × D) := if (es.any fun e => decide (keyD e.1 = keyD k)) = true then es.map (fun e => if keyD e.1 = keyD k then (e.1, d) else e) else es ++ [(k, d)]
noncomputable abbrev putD := mergeD.putD
section
variable {K : PySem.W.Frag} {G : Gh} {H : Hp}
theorem DtP.any {j : Key} : ∀ {es : List (D × D)} {kvs : List (Key × V)} {t : Bool}, DtP K G H t es kvs → (es.any fun e => decide (keyD e.1 = keyD (kD j))) = (kvs.any fun kv => decide (kv.1 = j))
  | [], _, _, h => by rw [h.1]; rfl
  | (k, d) :: es, _, _, h => by
    obtain ⟨i, v, r, rfl, rfl, h1, h2⟩ := h
    rw [List.any_cons, List.any_cons, DtP.any h2, keyD_kD, keyD_kD]
    simp only [Option.some.injEq]
theorem DtP.app : ∀ {es : List (D × D)} {kvs : List (Key × V)} {fs : List (D × D)} {ls : List (Key × V)}, DtP K G H false es kvs → DtP K G H false fs ls → DtP K G H false (es ++ fs) (kvs ++ ls)
  | [], _, _, _, h, h' => by rw [h.1]; exact h'
  | (k, d) :: es, _, _, _, h, h' => by
    obtain ⟨i, v, r, rfl, rfl, h1, h2⟩ := h
    exact ⟨i, v, _, rfl, rfl, h1, DtP.app h2 h'⟩
theorem DtP.repl {j : Key} {d : D} {v : V} (hd : Dt K G H d v) : ∀ {es : List (D × D)} {kvs : List (Key × V)}, DtP K G H false es kvs → DtP K G H false (es.map fun e => if keyD e.1 = keyD (kD j) then (e.1, d) else e) (kvs.map fun kv => if kv.1 = j then (kv.1, v) else kv)
  | [], _, h => by rw [h.1]; exact ⟨rfl, rfl⟩
  | (k, d') :: es, _, h => by
    obtain ⟨i, w, r, rfl, rfl, h1, h2⟩ := h
    rw [List.map_cons, List.map_cons]
    by_cases e : i = j
    · subst e
      rw [if_pos rfl, if_pos rfl]
      exact ⟨i, v, _, rfl, rfl, hd, DtP.repl hd h2⟩
    · have e' : ¬ keyD (kD i) = keyD (kD j) := by rw [keyD_kD, keyD_kD]; exact fun z => e (Option.some.inj z)
      rw [if_neg e', if_neg e]
      exact ⟨i, w, _, rfl, rfl, h1, DtP.repl hd h2⟩
theorem DtP.put {j : Key} {d : D} {v : V} {es : List (D × D)} {kvs : List (Key × V)} (h : DtP K G H false es kvs) (hd : Dt K G H d v) : DtP K G H false (putD es (kD j) d) (putK kvs j v) := by
  unfold putD mergeD.putD putK
  rw [h.any (j := j)]
  split
  · exact h.repl hd
  · exact h.app ⟨j, v, [], rfl, rfl, hd, rfl, rfl⟩
end
section
variable {X : Cx} {F : Fr} {e : Expr} {te : TD} {ta : TLD} {p apos cpos pos : Pos}
theorem DtP.keys {K : PySem.W.Frag} {G G' : Gh} {H H' : Hp} : ∀ {es : List (D × D)} {kvs : List (Key × V)}, DtP K G H false es kvs → DtL K G' H' (es.map Prod.fst) (kvs.map fun kv => kV kv.1)
  | [], _, h => by rw [h.1]; exact rfl
  | (k, d) :: es, _, h => by
    obtain ⟨j, v, r, rfl, rfl, h1, h2⟩ := h
    exact ⟨kV j, _, rfl, dt_kD j, DtP.keys h2⟩
end
/-! ### d[k], d.get(k, x) -/
noncomputable def dixT (t tk : TD) : TD := fun ρ k => t ρ fun x => ∃ es, x = .dic false es ∧ tk ρ fun y => optK (keyD y) fun j => optK (valD es j) k
noncomputable def keysD : List D → Option (List Key)
  | [] => some []
  | d :: ds => match keyD d, keysD ds with
    | some j, some js => some (j :: js)
    | _, _ => none
noncomputable def keyT : D → Option (List Key)
  | .tup ds => keysD ds
  | _ => none
noncomputable def valQ : List (D × D) → List Key → Option D
  | [], _ => none
  | (k, d) :: es, j => if keyT k = some j then some d else valQ es j
theorem keysD_kD : ∀ js : List Key, keysD (js.map kD) = some js
  | [] => rfl
  | j :: js => by simp only [List.map_cons, keysD, keyD_kD, keysD_kD js]
section
variable {K : PySem.W.Frag} {G : Gh} {H : Hp}
theorem DtQ.val {j : List Key} {t : Bool} : ∀ {es : List (D × D)} {kvs : List (List Key × V)}, DtQ K G H t es kvs → (valQ es j = none ∧ valV kvs j = none) ∨ ∃ d v, valQ es j = some d ∧ valV kvs j = some v ∧ Dt K G H d v
  | [], _, h => by
    obtain ⟨rfl, _⟩ := h
    exact .inl ⟨rfl, rfl⟩
  | (k, d) :: es, _, h => by
    obtain ⟨i, v, r, rfl, rfl, h1, h2⟩ := h
    by_cases e : i = j
    · subst e
      exact .inr ⟨d, v, by simp [valQ, keyT, keysD_kD], valV_pos rfl, h1⟩
    · have n : ¬ keyT (.tup (i.map kD)) = some j := by simp only [keyT, keysD_kD]; exact fun z => e (Option.some.inj z)
      rw [valV_neg (p := (i, v)) e]
      simp only [valQ, if_neg n]
      exact DtQ.val h2
end
end DL
set_option Elab.async false
set_option linter.all false
set_option maxRecDepth 100000
set_option maxHeartbeats 4000000
namespace DL
open PySem PySem.Spec PyProof.Rows L2
section
variable {F : Fr} {G : Gh} {H : Hp} {σ : L2.St} {ρ : List Sl} {L : List Addr}
theorem RelL.pinned {l : List (V × D)} (r : RelL F G H σ ρ L) (h : ∀ q ∈ l, Dt F.K G H q.2 q.1) : RelL (F.pin l) G H σ ρ L :=
  ⟨r.1.pinned h, r.2.1.map fun s o M _ h => by cases s <;> exact h, r.2.2⟩
theorem RelL.unpin {l : List (V × D)} (r : RelL (F.pin l) G H σ ρ L) : RelL F G H σ ρ L :=
  ⟨r.1.unpin, r.2.1.map fun s o M _ h => by cases s <;> exact h, r.2.2⟩
end
/-! ### [elt for x in iter for y in iter1] -/
noncomputable def compB (t : Tg) (tt : TBD) (te : TD) (ρ : List Sl) : List D → List D → (List D → Prop) → Prop
  | [], acc, k => k acc
  | d :: ds, acc, k => tgD t d ρ fun ρ1 => tt ρ1 fun b => if b = true then te ρ1 fun e => acc.length < sizeLine ∧ compB t tt te ρ ds (acc ++ [e]) k else compB t tt te ρ ds acc k
noncomputable def comp2T (i : Nat) (tt : TBD) (t1 : Tg) (I1 : TLD) (tt1 : TBD) (te : TD) (vs1 : List Nat) (ρ : List Sl) : List D → List D → (List D → Prop) → Prop
  | [], acc, k => k acc
  | d :: ds, acc, k => tt (ρ.set i (.dat d)) fun b => if b = true then I1 (ρ.set i (.dat d)) fun ds1 => compB t1 tt1 te (wipeS (ρ.set i (.dat d)) vs1) ds1 acc fun acc' => comp2T i tt t1 I1 tt1 te vs1 ρ ds acc' k
    else comp2T i tt t1 I1 tt1 te vs1 ρ ds acc k
noncomputable def lc2F (i : Nat) (I : TLD) (tt : TBD) (t1 : Tg) (I1 : TLD) (tt1 : TBD) (te : TD) (vs vs1 : List Nat) : TLD := fun ρ k => I ρ fun ds => comp2T i tt t1 I1 tt1 te vs1 (wipeS ρ vs) ds [] k
end DL
set_option Elab.async false
set_option linter.all false
set_option maxRecDepth 100000
set_option maxHeartbeats 4000000
namespace DL
open PySem PySem.Spec PyProof.Rows L2
/-! ### {k: v for x in iter if ..} -/
noncomputable def dcompT (t : Tg) (tt : TBD) (tk tv : TD) (ρ : List Sl) : List D → List (D × D) → (List (D × D) → Prop) → Prop
  | [], acc, k => k acc
  | d :: ds, acc, k => tgD t d ρ fun ρ1 => tt ρ1 fun b => if b = true then tk ρ1 fun y => tv ρ1 fun z => (keyD y).isSome ∧ acc.length < sizeLine ∧ dcompT t tt tk tv ρ ds (putD acc y z) k else dcompT t tt tk tv ρ ds acc k
noncomputable def dcT (t : Tg) (I : TLD) (tt : TBD) (tk tv : TD) (vs : List Nat) : TD := fun ρ k => I ρ fun ds => dcompT t tt tk tv (wipeS ρ vs) ds [] fun es => k (.dic false es)
end DL
set_option Elab.async false
set_option linter.all false
set_option maxRecDepth 100000
set_option maxHeartbeats 4000000
namespace DL
open PySem PySem.Spec PyProof.Rows L2
/-! ### while -/
noncomputable def whileT (c : TBD) (S : TSD) : TSD := fun k ρ => ∃ W : Nat → List Sl → Prop, (∃ m, W m ρ) ∧ ∀ m ρ, W m ρ → c ρ fun b => if b = true then ∃ N : List Sl → Prop, (∀ ρ', N ρ' → ∃ m', m' < m ∧ W m' ρ') ∧ S { k with nx := N, ct := N, bk := k.nx } ρ else k.nx ρ
/-! ### a text of the module -/
/-! ### max of a list -/
/-! ### {}, {k: v} -/
noncomputable def emptyT : TD := fun _ k => k (.dic true []) ∨ k (.dic false [])
noncomputable def disp1T (tk tv : TD) : TD := fun ρ k => tk ρ fun y => tv ρ fun z => (keyD y).isSome ∧ k (.dic false [(y, z)])
section
variable {X : Cx} {F : Fr} {pos : Pos} {e f : Expr} {tk tv : TD}
theorem pe_or {t u : TE} (h : PE X e t) (h' : PE X e u) : PE X e (fun σ H Q => t σ H Q ∨ u σ H Q) := ⟨fun pins s σ H Q I w => w.elim (h.run pins s σ H Q I) (h'.run pins s σ H Q I)⟩
theorem d_dictE : PE X (.Dict [] [] pos) (lift F emptyT) := by
  refine pe_imp (pe_or pe_dnewT pe_dnewK) fun σ H Q ⟨G, ρ, k, r, h, q⟩ => ?_
  rcases h with h | h
  · refine .inl fun p hp => ?_
    have e1 : Ext G H (upd H p (.dT [])) := Ext.new r.bag hp
    exact q _ _ _ h e1 ⟨p, rfl, r.free hp, .inr ⟨[], .inl upd_same, rfl, rfl⟩⟩
  · refine .inr fun p hp => ?_
    have e1 : Ext G H (upd H p (.dK [])) := Ext.new r.bag hp
    exact q _ _ _ h e1 ⟨p, rfl, r.free hp, .inl ⟨[], .inl upd_same, rfl, rfl⟩⟩
end
/-! ### d.get(k, x), keys of either kind -/
noncomputable def lookD (b : Bool) (es : List (D × D)) (y : D) (k : Option D → Prop) : Prop := match b with
  | false => optK (keyD y) fun j => k (valD es j)
  | true => optK (keyT y) fun j => k (valQ es j)
noncomputable def getT2 (t tk td : TD) : TD := fun ρ k => t ρ fun x => ∃ b es, x = .dic b es ∧ tk ρ fun y => td ρ fun z => lookD b es y fun o => k (o.getD z)
end DL
set_option Elab.async false
set_option linter.all false
set_option maxRecDepth 100000
set_option maxHeartbeats 4000000
namespace DL
open PySem PySem.Spec PyProof.Rows L2
/-! ### owned dicts -/
noncomputable abbrev dE (e : D × D) : D × Tr := (e.1, .d e.2)
noncomputable def putQ (es : List (D × D)) (k d : D) : List (D × D) := if (es.any fun e => decide (keyT e.1 = keyT k)) = true then es.map (fun e => if keyT e.1 = keyT k then (e.1, d) else e) else es ++ [(k, d)]
theorem keyT_kD (j : List Key) : keyT (.tup (j.map kD)) = some j := by simp only [keyT, keysD_kD]
section
variable {K : PySem.W.Frag} {G : Gh} {H : Hp}
theorem DtQ.any {j : List Key} : ∀ {es : List (D × D)} {kvs : List (List Key × V)} {t : Bool}, DtQ K G H t es kvs → (es.any fun e => decide (keyT e.1 = keyT (.tup (j.map kD)))) = (kvs.any fun kv => decide (kv.1 = j))
  | [], _, _, h => by rw [h.1]; rfl
  | (k, d) :: es, _, _, h => by
    obtain ⟨i, v, r, rfl, rfl, h1, h2⟩ := h
    rw [List.any_cons, List.any_cons, DtQ.any h2, keyT_kD, keyT_kD]
    simp only [Option.some.injEq]
theorem DtQ.app : ∀ {es : List (D × D)} {kvs : List (List Key × V)} {fs : List (D × D)} {ls : List (List Key × V)}, DtQ K G H true es kvs → DtQ K G H true fs ls → DtQ K G H true (es ++ fs) (kvs ++ ls)
  | [], _, _, _, h, h' => by rw [h.1]; exact h'
  | (k, d) :: es, _, _, _, h, h' => by
    obtain ⟨i, v, r, rfl, rfl, h1, h2⟩ := h
    exact ⟨i, v, _, rfl, rfl, h1, DtQ.app h2 h'⟩
theorem DtQ.repl {j : List Key} {d : D} {v : V} (hd : Dt K G H d v) : ∀ {es : List (D × D)} {kvs : List (List Key × V)}, DtQ K G H true es kvs → DtQ K G H true (es.map fun e => if keyT e.1 = keyT (.tup (j.map kD)) then (e.1, d) else e) (kvs.map fun kv => if kv.1 = j then (kv.1, v) else kv)
  | [], _, h => by rw [h.1]; exact ⟨rfl, rfl⟩
  | (k, d') :: es, _, h => by
    obtain ⟨i, w, r, rfl, rfl, h1, h2⟩ := h
    rw [List.map_cons, List.map_cons]
    by_cases e : i = j
    · subst e
      rw [if_pos rfl, if_pos rfl]
      exact ⟨i, v, _, rfl, rfl, hd, DtQ.repl hd h2⟩
    · have e' : ¬ keyT (.tup (i.map kD)) = keyT (.tup (j.map kD)) := by rw [keyT_kD, keyT_kD]; exact fun z => e (Option.some.inj z)
      rw [if_neg e', if_neg e]
      exact ⟨i, w, _, rfl, rfl, h1, DtQ.repl hd h2⟩
theorem DtQ.put {j : List Key} {d : D} {v : V} {es : List (D × D)} {kvs : List (List Key × V)} (h : DtQ K G H true es kvs) (hd : Dt K G H d v) : DtQ K G H true (putQ es (.tup (j.map kD)) d) (putK kvs j v) := by
  unfold putQ putK
  rw [h.any (j := j)]
  split
  · exact h.repl hd
  · exact h.app ⟨j, v, [], rfl, rfl, hd, rfl, rfl⟩
theorem DtQ.len : ∀ {es : List (D × D)} {kvs : List (List Key × V)} {t : Bool}, DtQ K G H t es kvs → es.length = kvs.length
  | [], _, _, h => by rw [h.1]; rfl
  | (k, d) :: es, _, _, h => by
    obtain ⟨j, v, r, rfl, _, _, h2⟩ := h
    simp [DtQ.len h2]
theorem OwP.of : ∀ {es : List (D × D)} {kvs : List (Key × V)}, DtP K G H false es kvs → OwP K G H false (es.map dE) kvs []
  | [], _, h => ⟨h.1, h.2, rfl⟩
  | (k, d) :: es, _, h => by
    obtain ⟨j, v, r, rfl, rfl, h1, h2⟩ := h
    exact ⟨j, v, r, [], [], rfl, rfl, ⟨rfl, h1⟩, OwP.of h2, rfl⟩
theorem OwQ.of : ∀ {es : List (D × D)} {kvs : List (List Key × V)}, DtQ K G H true es kvs → OwQ K G H true (es.map dE) kvs []
  | [], _, h => ⟨h.1, h.2, rfl⟩
  | (k, d) :: es, _, h => by
    obtain ⟨j, v, r, rfl, rfl, h1, h2⟩ := h
    exact ⟨j, v, r, [], [], rfl, rfl, ⟨rfl, h1⟩, OwQ.of h2, rfl⟩
theorem OwP.kind {b : Bool} : ∀ {es : List (D × Tr)} {kvs : List (Key × V)} {M : List Addr}, OwP K G H b es kvs M → b = false
  | [], _, _, h => h.2.1
  | (k, d) :: es, _, _, h => by
    obtain ⟨j, v, r, M, N, rfl, rfl, h1, h2, rfl⟩ := h
    exact OwP.kind h2
theorem OwQ.kind {b : Bool} : ∀ {es : List (D × Tr)} {kvs : List (List Key × V)} {M : List Addr}, OwQ K G H b es kvs M → b = true
  | [], _, _, h => h.2.1
  | (k, d) :: es, _, _, h => by
    obtain ⟨j, v, r, M, N, rfl, rfl, h1, h2, rfl⟩ := h
    exact OwQ.kind h2
end
/-- x[k] = v, x an owned dict of data -/
noncomputable def dputK (i : Nat) (tk tv : TD) : TSD := fun k ρ => ∃ es, ρ[i]? = some (.tr (.m false (es.map dE))) ∧ tv ρ fun d => tk ρ fun y => (keyD y).isSome ∧ es.length < sizeLine ∧ k.nx (ρ.set i (.tr (.m false ((putD es y d).map dE))))
/-- {} of its own -/
noncomputable def emptyR : TRD := fun _ k => k (.m true []) ∨ k (.m false [])
end DL
set_option Elab.async false
set_option linter.all false
set_option maxRecDepth 100000
set_option maxHeartbeats 4000000
namespace DL
open PySem PySem.Spec PyProof.Rows L2
/-! ### a dict display with tuple keys -/
noncomputable def OwKV (K : PySem.W.Frag) (G : Gh) (H : Hp) : List (D × Tr) → List (V × V) → List Addr → Prop
  | [], ps, L => ps = [] ∧ L = []
  | (k, t) :: es, ps, L => ∃ (j : List Key) (b : Addr) (v : V) (r : List (V × V)) (M N : List Addr), ps = (.ref b, v) :: r ∧ k = .tup (j.map kD) ∧ H b = some (.tup (j.map kV)) ∧ Ow K G H t v M ∧ OwKV K G H es r N ∧ L = M ++ N
theorem OwKV.own {K : PySem.W.Frag} {G : Gh} {H : Hp} : ∀ {es : List (D × Tr)} {ps : List (V × V)} {L : List Addr}, OwKV K G H es ps L → ∀ p ∈ L, G.own p ∧ H p ≠ none ∧ Mut (H p)
  | [], _, _, h, p, hp => by rw [h.2] at hp; cases hp
  | (k, t) :: es, _, _, h, p, hp => by
    obtain ⟨j, b, v, r, M, N, rfl, _, _, h1, h2, rfl⟩ := h
    rcases List.mem_append.mp hp with hp | hp
    · exact ⟨(Ow.own t v M h1 p hp).1, (Ow.own t v M h1 p hp).2, Ow.mut t v M h1 p hp⟩
    · exact OwKV.own h2 p hp
theorem OwQ.keys {K : PySem.W.Frag} {G : Gh} {H : Hp} : ∀ {es : List (D × Tr)} {kvs : List (List Key × V)} {L : List Addr}, OwQ K G H true es kvs L → es.map (fun e => keyT e.1) = kvs.map (fun kv => some kv.1)
  | [], _, _, h => by rw [h.1]; rfl
  | (k, t) :: es, _, _, h => by
    obtain ⟨j, v, r, M, N, rfl, rfl, h1, h2, rfl⟩ := h
    rw [List.map_cons, List.map_cons, OwQ.keys h2, keyT_kD]
end DL
set_option Elab.async false
set_option linter.all false
set_option maxRecDepth 100000
set_option maxHeartbeats 4000000
namespace DL
open PySem PySem.Spec PyProof.Rows L2
/-! ### x[(..)][(..)] = v -/
noncomputable def valE : List (D × Tr) → List Key → Option Tr
  | [], _ => none
  | (k, t) :: es, j => if keyT k = some j then some t else valE es j
noncomputable def setE : List (D × Tr) → List Key → Tr → List (D × Tr)
  | [], _, _ => []
  | (k, t) :: es, j, u => if keyT k = some j then (k, u) :: es else (k, t) :: setE es j u
theorem OwQ.at {K : PySem.W.Frag} {G : Gh} {H : Hp} {j : List Key} {t : Tr} : ∀ {es : List (D × Tr)} {kvs : List (List Key × V)} {M : List Addr}, OwQ K G H true es kvs M → valE es j = some t → ∃ v A B C, valV kvs j = some v ∧ M = A ++ (B ++ C) ∧ Ow K G H t v B ∧
    ∀ (G' : Gh) (H' : Hp) (t' : Tr), (∀ u w L, (∀ p ∈ L, p ∈ A ∨ p ∈ C) → Ow K G H u w L → Ow K G' H' u w L) → Ow K G' H' t' v B → OwQ K G' H' true (setE es j t') kvs M
  | [], _, _, h, e => by cases e
  | (k, u) :: es, _, _, h, e => by
    obtain ⟨i, v, r, M, N, rfl, rfl, h1, h2, rfl⟩ := h
    unfold valE at e
    by_cases z : i = j
    · subst z
      rw [if_pos (keyT_kD i)] at e
      cases e
      refine ⟨v, [], M, N, valV_pos rfl, rfl, h1, fun G' H' t' g h' => ?_⟩
      unfold setE
      rw [if_pos (keyT_kD i)]
      have rest : ∀ {es : List (D × Tr)} {kvs : List (List Key × V)} {N' : List Addr}, (∀ p ∈ N', p ∈ N) → OwQ K G H true es kvs N' → OwQ K G' H' true es kvs N' := by
        intro es
        induction es with
        | nil => intro kvs N' _ h; exact h
        | cons a es ih =>
          intro kvs N' s h
          obtain ⟨i, v, r, M, N1, rfl, e, h1, h2, rfl⟩ := h
          exact ⟨i, v, r, M, N1, rfl, e, g _ _ _ (fun p hp => .inr (s p (List.mem_append_left _ hp))) h1, ih (fun p hp => s p (List.mem_append_right _ hp)) h2, rfl⟩
      exact ⟨i, v, r, M, N, rfl, rfl, h', rest (fun _ h => h) h2, rfl⟩
    · have n : ¬ keyT (.tup (i.map kD)) = some j := by rw [keyT_kD]; exact fun q => z (Option.some.inj q)
      rw [if_neg n] at e
      obtain ⟨w, A, B, C, e1, rfl, e3, e4⟩ := OwQ.at h2 e
      refine ⟨w, M ++ A, B, C, by rw [valV_neg (p := (i, v)) z]; exact e1, by rw [List.append_assoc], e3, fun G' H' t' g h' => ?_⟩
      unfold setE
      rw [if_neg n]
      exact ⟨i, v, r, M, A ++ (B ++ C), rfl, rfl, g _ _ _ (fun p hp => .inl (List.mem_append_left _ hp)) h1, e4 G' H' t' (fun u w L s => g u w L fun p hp => (s p hp).imp (List.mem_append_right _) _root_.id) h', rfl⟩
end DL
set_option Elab.async false
set_option linter.all false
set_option maxRecDepth 100000
set_option maxHeartbeats 4000000
namespace DL
open PySem PySem.Spec PyProof.Rows L2
/-- x += e, ints -/
noncomputable def augI (i : Nat) (te : TD) : TSD := fun k ρ => ∃ a, ρ[i]? = some (.dat (.int a)) ∧ te ρ fun d => ∃ b, d = .int b ∧ k.nx (ρ.set i (.dat (.int (a + b))))
/-- x[t], y = e -/
noncomputable def parS (i : Nat) (tt : TD) (j : Nat) (te : TD) : TSD := fun k ρ => te ρ fun d => ∃ d1 d2, d = .tup [d1, d2] ∧ ∃ ts, ρ[i]? = some (.tr (.l ts)) ∧ tt ρ fun y => ∃ jj n c, y = .int jj ∧ ixN ts.length jj = some n ∧ ts[n]? = some (.d c) ∧ k.nx ((ρ.set i (.tr (.l (ts.set n (.d d1))))).set j (.dat d2))
end DL
set_option Elab.async false
set_option linter.all false
set_option maxRecDepth 100000
set_option maxHeartbeats 4000000
namespace DL
open PySem PySem.Spec PyProof.Rows L2
end DL
set_option Elab.async false
set_option linter.all false
set_option maxRecDepth 100000
set_option maxHeartbeats 4000000
/-! sorting texts, any number of them -/
namespace DMS
open PySem PyProof.Rows
noncomputable def tl (x : Str) : List Nat := x.cps.toList
noncomputable def tx : Value → List Nat
  | .str x _ => x.cps.toList
  | _ => []
noncomputable def ltX (v u : Value) : Bool := decide (tx v < tx u)
theorem nlt_trans {a b c : List Nat} (h1 : ¬ b < a) (h2 : ¬ c < b) : ¬ c < a := fun h => by
  have := List.le_trans (List.not_lt.mp h1) (List.not_lt.mp h2)
  exact List.not_lt.mpr this h
theorem swo_tx : SrtO.Swo ltX :=
  ⟨fun x y h => decide_eq_false fun z => List.lt_asymm (of_decide_eq_true h) z, fun x y z h1 h2 => decide_eq_false (nlt_trans (of_decide_eq_false h1) (of_decide_eq_false h2))⟩
theorem tx_mem {vs : List Value} {ss : List Str} (h : StrsAre vs ss) : ∀ v ∈ vs, ∃ x t, v = Value.str x t := by
  induction h with
  | nil => intro v hv; cases hv
  | cons y t _ ih =>
    intro v hv
    cases hv with
    | head => exact ⟨y, t, rfl⟩
    | tail _ hv => exact ih v hv
theorem tx_of {vs : List Value} (h : ∀ v ∈ vs, ∃ x t, v = Value.str x t) : ∃ ss, StrsAre vs ss := by
  induction vs with
  | nil => exact ⟨[], .nil⟩
  | cons v vs ih =>
    obtain ⟨ss, q⟩ := ih fun u hu => h u (List.mem_cons_of_mem _ hu)
    obtain ⟨x, t, rfl⟩ := h v List.mem_cons_self
    exact ⟨x :: ss, .cons x t q⟩
theorem tx_map {vs : List Value} {ss : List Str} (h : StrsAre vs ss) : vs.map tx = ss.map tl := by
  induction h with
  | nil => rfl
  | cons y t _ ih => rw [List.map_cons, List.map_cons, ih]; rfl
theorem tl_inj {x y : Str} (h : tl x = tl y) : x = y := by
  obtain ⟨⟨a⟩⟩ := x
  obtain ⟨⟨b⟩⟩ := y
  have h : a = b := h
  rw [h]
theorem perm_tl {xs ys : List Str} (h : (xs.map tl).Perm (ys.map tl)) : xs.Perm ys := by
  have key : ∀ l : List Nat, tl ⟨l.toArray⟩ = l := fun l => rfl
  have back : ∀ zs : List Str, (zs.map tl).map (fun l => (⟨l.toArray⟩ : Str)) = zs := fun zs => by
    rw [List.map_map]
    induction zs with
    | nil => rfl
    | cons z zs ih => rw [List.map_cons, ih]; rfl
  have := h.map fun l => (⟨l.toArray⟩ : Str)
  rwa [back, back] at this
/-- no text is behind a greater one -/
noncomputable abbrev Up (xs : List Str) : Prop := xs.Pairwise fun a b => ¬ tl b < tl a
section
variable {prog : Program} {w : World} {A : Around} {E : Value → Shared → Prop} {s : Shared}
theorem tx_sortable {a : Addr} {vs : List Value} {ss : List Str} (hI : StrsAre vs ss) (h2 : 2 ≤ vs.length) : SrtO.SortableO prog w A s a vs ltX := by
  intro h' _
  refine ⟨oneType', fun Q E hq => ?_, fun p q hm hm' => ?_⟩
  · match vs, hI, h2 with
    | v1 :: v2 :: r, hI, _ => rw [keyKind_strs hI]; exact wpAny_pure hq
    | [], _, h => exact absurd h (by decide)
    | [v], _, h => exact absurd h (by simp)
  · obtain ⟨x, t, e⟩ := tx_mem hI _ hm
    obtain ⟨y, u, e'⟩ := tx_mem hI _ hm'
    have c : decide (x.cps.toList < y.cps.toList) = SrtO.lt2 ltX p q := by
      show _ = ltX p.1 q.1
      rw [e, e']; rfl
    show wpAny (model prog w) A (keyLt' oneType' p.1 q.1) _ _ _
    rw [e, e', keyLt'_oneType]
    exact oneLt_str ⟨rfl, c⟩
theorem tx_out {vs out : List Value} {ss : List Str} (hI : StrsAre vs ss) (hs : SrtO.Srtd ltX out) (hb : SrtO.Stb ltX out vs) : ∃ ys, StrsAre out ys ∧ ys.Perm ss ∧ Up ys := by
  obtain ⟨ys, hy⟩ := tx_of (vs := out) fun v hv => tx_mem hI v (hb.perm.mem_iff.mp hv)
  refine ⟨ys, hy, perm_tl ?_, ?_⟩
  · have q := hb.perm.map tx
    rwa [tx_map hI, tx_map hy] at q
  · have q : (out.map tx).Pairwise fun a b => ¬ b < a := List.pairwise_map.mpr (hs.imp fun h => of_decide_eq_false h)
    rw [tx_map hy] at q
    exact List.pairwise_map.mp q
end
end DMS
namespace L2
open PySem PySem.Spec PyProof.Rows
end L2
set_option Elab.async false
set_option linter.all false
set_option maxRecDepth 100000
set_option maxHeartbeats 4000000
/-! sets of texts: set(list), sorted(set) -/
namespace DMS
open PySem PySem.Spec PyProof.Rows L2 PySem.Froz
/-- a set of texts that can be walked: its payload D, its texts l, newest first -/
structure Stx (P : Program) (w : World) (h : Heap) (a : Addr) (D : SD) (l : List Str) : Prop where
  here : h.get? a = some (sObj "set" D)
  ok : TxOk P w D l
  ris : Ris D.2.2.place.toList
  led : w.params.followText "set-order" = true ∨ D.2.2.led = true
  nd : l.Nodup
theorem tail_place {ep : Nat} {es : Array (Int × Value)} {t : SetTable} {b : Bool} (r : Ris t.place.toList) : Ris (tailTx ep es t b).2.2.place.toList := by
  unfold tailTx
  split
  · exact relayAll_ris t es _
  · exact r
theorem tail_led {ep : Nat} {es : Array (Int × Value)} {t : SetTable} {b : Bool} : (tailTx ep es t b).2.2.led = t.led := by
  unfold tailTx
  split
  · exact relayAll_led t es _
  · rfl
theorem new_place {v : Int} {x : Value} {D : SD} (r : Ris D.2.2.place.toList) : Ris (addTx v x D).2.2.place.toList := by
  unfold addTx
  refine tail_place ?_
  have q := layNew_ris D.2.2 D.1 v x r
  split <;> exact q
theorem new_led {v : Int} {x : Value} {D : SD} : (addTx v x D).2.2.led = D.2.2.led := by
  unfold addTx
  rw [tail_led]
  have q := layNew_led D.2.2 D.1 v x
  split <;> exact q
/-- the texts behind one more -/
noncomputable def more (l : List Str) (k : Str) : List Str := if k ∈ l then l else k :: l
section
variable {P : Program} {w : World} {A : Around} {E : Value → Shared → Prop} {s : Shared} {a : Addr} {D : SD} {l : List Str}
theorem stx_add {k : Str} {u : Tok} {Q : Bool → Shared → Prop} (R : Stx P w s.heap a D l) (hb : l.length + 1 < scanBound)
    (hQ : ∀ b h' D', Heap.SameBut a s.heap h' → Stx P w h' a D' (more l k) → Q b { s with heap := h' }) : wpAny (model P w) A (setAddHashed a (.str k u) (hashStr w k)) Q E s := by
  by_cases hk : k ∈ l
  · obtain ⟨es, ep, t⟩ := D
    have hsz : es.size = l.length := R.ok.sz
    have small : es.size < scanBound := by omega
    have hel : ElemsOf (strKind P w) es.toList := R.ok.el
    unfold setAddHashed setAddHashedIn
    refine wpAny_holding (wpAny_bind (wpAny_setState_of R.here (by rfl) R.ok.fit ?_))
    dsimp only
    rw [byScan_of rfl small hel]
    simp only [↓reduceIte]
    unfold setAddByScan
    refine wpAny_bind (wpAny_bind (wpAny_rule (wpAny_bind (wpAny_setScan_of (knd := strKind P w) (k := k) (is_str k u) R.here (by rfl) R.ok.fit hel ?_))))
    cases hf : List.findIdx? (fun e => (strKind P w).is k e.2) es.toList with
    | none =>
      obtain ⟨e, he, q⟩ := (R.ok.mem k).mp hk
      have z := List.findIdx?_eq_none_iff.mp hf e he
      rw [q] at z
      cases z
    | some j =>
      dsimp only
      have q := hQ false s.heap (es, ep, t) (Heap.SameBut.refl a s.heap) (by unfold more; rw [if_pos hk]; exact R)
      exact wpAny_pure (wpAny_pure q)
  · refine add_x R.here R.ok hk hb (hQ true _ (addTx (hashStr w k) (.str k u) D) (Heap.SameBut.update s.heap a _) ?_)
    unfold more
    rw [if_neg hk]
    exact ⟨get_upd _ R.here rfl, add_ok u R.ok, new_place R.ris, R.led.imp _root_.id fun z => by rw [new_led]; exact z, List.nodup_cons.mpr ⟨hk, R.nd⟩⟩
end
/-- the texts among the first i, newest first -/
noncomputable def met (val : Nat → Str) (i : Nat) : List Str := ((List.range i).map val).foldl more []
theorem met_next (val : Nat → Str) (i : Nat) : met val (i + 1) = more (met val i) (val i) := by
  unfold met
  rw [List.range_succ, List.map_append, List.foldl_append]; rfl
theorem met_len (val : Nat → Str) : ∀ i, (met val i).length ≤ i
  | 0 => Nat.le_refl _
  | i + 1 => by
    have := met_len val i
    rw [met_next]
    unfold more
    split
    · omega
    · rw [List.length_cons]; omega
theorem met_mem (val : Nat → Str) (x : Str) : ∀ i, x ∈ met val i ↔ ∃ j, j < i ∧ val j = x
  | 0 => ⟨fun h => (by cases h), fun ⟨j, h, _⟩ => absurd h (Nat.not_lt_zero j)⟩
  | i + 1 => by
    have ih := met_mem val x i
    rw [met_next]
    unfold more
    constructor
    · intro h
      split at h
      · obtain ⟨j, a, b⟩ := ih.mp h
        exact ⟨j, by omega, b⟩
      · rcases List.mem_cons.mp h with rfl | h
        · exact ⟨i, by omega, rfl⟩
        · obtain ⟨j, a, b⟩ := ih.mp h
          exact ⟨j, by omega, b⟩
    · rintro ⟨j, a, b⟩
      by_cases e : j = i
      · subst e
        subst b
        split
        · assumption
        · exact List.mem_cons_self
      · have q := ih.mpr ⟨j, by omega, b⟩
        split
        · exact q
        · exact List.mem_cons_of_mem _ q
theorem Stx.kept {P : Program} {w : World} {h h' : Heap} {a : Addr} {D : SD} {l : List Str} (R : Stx P w h a D l) (k : h'.get? a = some (sObj "set" D)) : Stx P w h' a D l := ⟨k, R.ok, R.ris, R.led, R.nd⟩
section
variable {P : Program} {w : World} {A : Around} {R : Result → Shared → Prop} {I : Addr} {fp wr : List Addr} {G : Array GenState → Array GenState → Prop} {n : Nat} {Pv : Nat → Value → Prop} {St : Nat → Shared → Prop}
theorem set_loop (W : WalksS P w A.in1 I fp wr G n Pv St) (a : Addr) (hf : a ∉ fp) (val : Nat → Str) (hval : ∀ i v, Pv i v → ∃ t, v = .str (val i) t) (hb : n + 1 < scanBound) :
    ∀ (k i : Nat) (s : Shared) (D : SD), n - i = k → i ≤ n → St i s → Stx P w s.heap a D (met val i) →
      (∀ s' D', Moved (a :: wr) G s s' → Stx P w s'.heap a D' (met val n) → R (.ok (.ret .none)) s') → codeAny (model P w) A (.builtin "set.update.loop" ⟨[.ref a, .ref I], []⟩) R s := by
  have aw : a ∉ wr := fun h => hf (W.sub _ h)
  intro k
  induction k with
  | zero =>
    intro i s D hk hi hst hS hR
    obtain rfl : i = n := by omega
    refine codeAny_builtin F.entry_set_update_loop ?_
    rw [Around.under_plainId F.plain_set_update_loop _]
    show wpAny _ A.in1 (pyNext (.ref I) >>= _) _ _ s
    refine wpAny_bind (W.done s _ _ hst fun s' hm => ?_)
    exact wpAny_pure (hR s' D (hm.mono fun b hb => List.mem_cons_of_mem _ hb) (hS.kept (hm.heap a _ aw hS.here)))
  | succ k ih =>
    intro i s D hk hi hst hS hR
    have lt : i < n := by omega
    refine codeAny_builtin F.entry_set_update_loop ?_
    rw [Around.under_plainId F.plain_set_update_loop _]
    show wpAny _ A.in1 (pyNext (.ref I) >>= _) _ _ s
    refine wpAny_bind (W.item i s _ _ lt hst fun v s' hP hst' hm => ?_)
    obtain ⟨t, rfl⟩ := hval i v hP
    have hS' := hS.kept (hm.heap a _ aw hS.here)
    show wpAny _ A.in1 (holding [Value.str (val i) t] (setAdd a (.str (val i) t)) >>= _) _ _ s'
    refine wpAny_bind (wpAny_holding ?_)
    unfold setAdd
    refine wpAny_holding (wpAny_bind ((strKind P w).pyHash (k := val i) (is_str _ _) ?_))
    have := met_len val i
    refine stx_add (s := { s' with toks := s'.toks + 1 }) hS' (by omega) fun b h' D' sb R' => ?_
    rw [← met_next] at R'
    refine wpAny_pure ⟨plainId_quiet F.plain_set_update_loop _, ih (i + 1) _ D' (by omega) lt (W.frame _ s' _ _ hst' (Nat.le_succ _) fun b hb o e => ?_) R' fun s2 D2 hm2 R2 => ?_⟩
    · rw [sb.2 b fun z => hf (by rw [← z]; exact hb)]; exact e
    · refine hR s2 D2 (Moved.trans W.gtrans ((hm.mono fun b hb => List.mem_cons_of_mem _ hb).then_heap (Nat.le_succ _) fun b o hb e => ?_) hm2) R2
      rw [sb.2 b fun z => hb (by rw [z]; exact List.mem_cons_self)]; exact e
end
/-- the object of a set that is made -/
noncomputable def set0 (w : World) : Obj := { cls := .type "set", dict := none, data := .set #[] 0 (.fresh 0 0 (!w.params.followText "set-order")) }
section
variable {P : Program} {w : World} {A : Around} {E : Value → Shared → Prop} {s : Shared}
theorem stx_new {h : Heap} {a : Addr} (e : h.get? a = some (set0 w)) : Stx P w h a (#[], 0, .fresh 0 0 (!w.params.followText "set-order")) [] :=
  ⟨e, TxOk.nil (by rfl), List.Pairwise.nil, by
    show _ ∨ (!w.params.followText "set-order") = true
    cases w.params.followText "set-order" <;> simp, List.nodup_nil⟩
theorem code_new (x : Value) {Q : Value → Shared → Prop} (h : Q (.ref s.heap.objs.size) { s with heap := s.heap.push (set0 w) }) : codeAny (model P w) A (.call (.builtin "set.__new__") ⟨[.type "set", x], []⟩) (wants Q E) s := by
  refine codeAny_of_tree ?_
  show wpAny _ A.in1 (do checkBuiltinCall "set.__new__" ⟨[.type "set", x], []⟩; again (.builtin "set.__new__" ⟨[.type "set", x], []⟩)) _ _ s
  refine wpAny_bind (wpAny_of_eq (F.newCall_set_1 x) (wpAny_pure ⟨plainId_quiet F.plain_set_new _, codeAny_builtin F.entry_set_new ?_⟩))
  rw [Around.under_plainId F.plain_set_new _]
  unfold Builtin.«set.__new__» Builtin.Frozenset.newClass
  have q := sub_set_self
  obtain ⟨hp, g, d, tk, os⟩ := s
  dsimp only
  wp_walk
  refine wpAny_askSetting (wpAny_pure ?_)
  dsimp only
  simp only [newObj]
  exact wpAny_bind (wpAny_alloc (wpAny_pure (wpAny_pure h)))
theorem str_at {vs : List Value} {ss : List Str} (h : StrsAre vs ss) : ∀ (i : Nat) (v : Value), vs[i]? = some v → ∃ t, v = .str (ss.getD i "") t := by
  induction h with
  | nil => intro i v q; simp at q
  | cons y t _ ih =>
    intro i v q
    cases i with
    | zero =>
      have q : Value.str y t = v := by simpa using q
      exact ⟨t, q.symm⟩
    | succ i =>
      obtain ⟨t', e⟩ := ih i v (by simpa using q)
      exact ⟨t', by rw [e]; rfl⟩
theorem call_set {b : Addr} {its : Array Value} {ss : List Str} {Q : Value → Shared → Prop} (hh : A.handled = none) (hl : s.heap.IsList b its) (hi : StrsAre its.toList ss) (hb : its.size + 1 < scanBound)
    (h : ∀ (h' : Heap) (tk : Nat) (D : SD), Stx P w h' s.heap.objs.size D (met (fun i => ss.getD i "") its.size) → (∀ c o, c < s.heap.objs.size → s.heap.get? c = some o → h'.get? c = some o) → Q (.ref s.heap.objs.size) { s with heap := h', toks := tk }) :
    wpAny (model P w) A (call (.type "set") [.ref b]) Q E s := by
  obtain ⟨c, tl', hmro⟩ := F.called_set.mro
  have hmade := F.called_set.made
  have hsub := F.called_set.sub
  refine wpAny_call (codeAny_of_tree ?_)
  show wpAny _ _ (callAny (.type "set") _) _ _ _
  refine wpAny_pure ⟨Code.quiet_builtin _ (by decide +kernel), codeAny_builtin F.entry_type_call ?_⟩
  rw [Around.under_plain (weight_type_call_type "set" [.ref b] []) rfl]
  have h1 := F.called_set.notType
  have h2 := F.called_set.canCreate
  have hct := F.typeCall_set_1 (.ref b)
  repeat (any_goals (first | assumption | wp_step))
  refine codeAny_mono (code_new (.ref b) (E := E) (Q := fun ob s1 => ob = .ref s.heap.objs.size ∧ s1 = { s with heap := s.heap.push (set0 w) }) ⟨rfl, rfl⟩) fun r s1 hr => ?_
  cases r with
  | error e => exact hr
  | ok fl =>
    cases fl with
    | ret ob =>
      obtain ⟨rfl, rfl⟩ := hr
      have hS : (s.heap.push (set0 w)).get? s.heap.objs.size = some (set0 w) := Heap.get?_push_size _ rfl
      have hT : Shared.TypeIs { s with heap := s.heap.push (set0 w) } (.ref s.heap.objs.size) "set" := ⟨_, hS, rfl⟩
      have hli := F.called_set.init.lookup
      have hbi := F.called_set.init.bind (.ref s.heap.objs.size)
      repeat (any_goals (first | assumption | wp_step))
      refine codeAny_mono (codeAny_call_builtin (R := wants (fun r s2 => r = .none ∧ ∃ h' tk D, s2 = { s with heap := h', toks := tk } ∧ Stx P w h' s.heap.objs.size D (met (fun i => ss.getD i "") its.size) ∧
          (∀ c o, c < s.heap.objs.size → s.heap.get? c = some o → h'.get? c = some o)) E) F.called_set.init.plain F.entry_set_init (check_set_init_1 hT ?_)) fun r2 s2 hr2 => ?_
      · obtain ⟨ol, hol, hcl, nl, hdl⟩ := hl
        obtain ⟨oc, od, oda, osl⟩ := ol
        simp only at hcl hdl
        subst hcl; subst hdl
        have bl : b < s.heap.objs.size := Heap.lt_size hol
        have hol1 : (s.heap.push (set0 w)).get? b = some { cls := .type "list", dict := od, data := .seq its nl, slots := osl } := Heap.get?_push_of_some _ hol
        have z1 := F.sub_list_set
        have z2 := F.sub_list_frozenset
        have z3 : (Value.type "list" == Value.type "dict") = false := by decide
        have hl1 : (s.heap.push (set0 w)).IsList b its := ⟨_, hol1, rfl, nl, rfl⟩
        unfold Builtin.«set.__init__» noKeywords Builtin.Frozenset.updateFrom
        generalize hPI : pyIter = PI
        wp_walk
        subst hPI
        refine wpAny_pyIter_list hl1 (wpAny_bind (wpAny_runValue ?_))
        have h3 : A.in1.in1.in1.handled = none := by simp [hh]
        have bI : b ≠ (s.heap.push (set0 w)).objs.size := by rw [Heap.size_push]; exact Nat.ne_of_lt (Nat.lt_succ_of_lt bl)
        have sf : s.heap.objs.size ∉ [(s.heap.push (set0 w)).objs.size, b] := by
          rw [Heap.size_push]
          intro z
          rcases List.mem_cons.mp z with z | z
          · exact absurd z (Nat.ne_of_lt (Nat.lt_succ_self _))
          · exact absurd (List.mem_singleton.mp z) (Nat.ne_of_gt bl)
        have hset : ((s.heap.push (set0 w)).push { cls := .type "list_iterator", data := .fields #[.ref b, .int 0 0] }).get? s.heap.objs.size = some (set0 w) := Heap.get?_push_of_some _ hS
        refine set_loop ((Walks.list h3 _ b bI its).toS) s.heap.objs.size sf (fun i => ss.getD i "") (fun i v hv => str_at hi i v (by rw [Array.getElem?_toList]; exact hv)) hb (its.size - 0) 0 _ (#[], 0, .fresh 0 0 (!w.params.followText "set-order"))
          (by omega) (Nat.zero_le _) ⟨⟨_, Heap.get?_push_size _ rfl, rfl, rfl⟩, hl1.push _⟩ (stx_new hset) fun s' D hm R => ?_
        obtain ⟨h', g', d', tk', os'⟩ := s'
        obtain rfl : g' = s.gens := hm.gens
        obtain rfl : d' = s.drawn := hm.drawn
        obtain rfl : os' = s.os := hm.os
        show wpAny _ _ _ _ _ _
        refine wpAny_pure ?_
        show wpAny _ _ (ret Value.none) _ _ _
        refine wpAny_pure ⟨rfl, h', tk', D, rfl, R, fun c o hc e => ?_⟩
        refine hm.heap c o (fun z => ?_) (Heap.get?_push_of_some _ (Heap.get?_push_of_some _ e))
        rcases List.mem_cons.mp z with z | z
        · rw [z] at hc; exact absurd hc (Nat.lt_irrefl _)
        · rw [List.mem_singleton.mp z, Heap.size_push] at hc
          exact absurd hc (Nat.not_lt_of_le (Nat.le_succ _))
      · cases r2 with
        | error e => exact hr2
        | ok fl2 =>
          cases fl2 with
          | ret r =>
            obtain ⟨rfl, h', tk, D, rfl, R, hk⟩ := hr2
            repeat (any_goals (first | assumption | wp_step))
            exact h _ _ D R hk
          | _ => exact hr2.elim
    | _ => exact hr.elim
end
end DMS
set_option Elab.async false
set_option linter.all false
set_option maxRecDepth 100000
set_option maxHeartbeats 4000000
/-! sorted(set of texts) -/
namespace DMS
open PySem PySem.Spec PyProof.Rows L2 PySem.Froz
theorem perm_of {α : Type} [DecidableEq α] : ∀ {l ss : List α}, l.Nodup → (∀ x ∈ l, x ∈ ss) → ss.length ≤ l.length → ss.Perm l
  | [], ss, _, _, h => by
    have : ss = [] := List.length_eq_zero_iff.mp (Nat.le_zero.mp h)
    rw [this]
  | x :: l, ss, nd, hm, h => by
    obtain ⟨h1, h2⟩ := List.nodup_cons.mp nd
    have hx := hm x List.mem_cons_self
    have := perm_of (l := l) (ss := ss.erase x) h2 (fun y hy => (List.mem_erase_of_ne (fun z : y = x => h1 (by rw [← z]; exact hy))).mpr (hm y (List.mem_cons_of_mem _ hy))) (by
      rw [List.length_erase_of_mem hx]; rw [List.length_cons] at h; omega)
    exact (List.perm_cons_erase hx).trans (this.cons x)
theorem str_len {vs : List Value} {ss : List Str} (h : StrsAre vs ss) : vs.length = ss.length := by
  induction h with
  | nil => rfl
  | cons _ _ _ ih => simp [ih]
theorem str_mem {vs : List Value} {ss : List Str} {y : Str} {t : Tok} (h : StrsAre vs ss) : Value.str y t ∈ vs → y ∈ ss := by
  induction h with
  | nil => intro h; cases h
  | cons x u _ ih =>
    intro h
    cases h with
    | head => exact List.mem_cons_self
    | tail _ h => exact List.mem_cons_of_mem _ (ih h)
section
variable {P : Program} {w : World} {A : Around} {E : Value → Shared → Prop} {s : Shared}
/-! sorted(set) -/
theorem sort_stx {a : Addr} {D : SD} {l : List Str} {Q : Value → Shared → Prop} (R : Stx P w s.heap a D l) (hh : A.handled = none) (hb : l.length < scanBound)
    (hQ : ∀ s' p (out : Array Value) (c : Nat) (ys : List Str), (∀ b o, s.heap.get? b = some o → s'.heap.get? b = some o) → s'.gens = s.gens → s'.os = s.os → s.heap.objs.size ≤ p → s'.heap.get? p = some (seqObj "list" out c) →
      StrsAre out.toList ys → ys.Perm l → Up ys → Q (.ref p) s') : wpAny (model P w) A (call (.builtin "sorted") [.ref a]) Q E s := by
  obtain ⟨es, ep, t⟩ := D
  have hsz : es.size = l.length := R.ok.sz
  have hsc : es.size < scanBound := by omega
  refine Calls.call_function_entry kind_sorted plain_sorted entry_sorted (args_sorted1 _) ?_
  unfold Builtin.«sorted»
  refine wpAny_bind (m := checkCount "sorted" 1 1 _) (wpAny_pure ?_)
  refine wpAny_bind (collect_set (A := A.in1) (es := es) (ep := ep) (t := t) hh ⟨_, R.here, rfl, rfl⟩ R.ok.fit hsc R.ris R.led fun s1 vs k1 hz g1 o1 pm => ?_)
  have hvs : ∀ v ∈ vs, ∃ x t, v = Value.str x t := fun v hv => by
    obtain ⟨e, he, rfl⟩ := List.mem_map.mp (pm.mem_iff.mp hv)
    obtain ⟨⟨k, hk, _⟩, _⟩ := R.ok.el e he
    have hk : Value.isStrOf k e.2 = true := hk
    cases q : e.2 with
    | str x t => exact ⟨x, t, rfl⟩
    | _ => rw [q] at hk; simp [Value.isStrOf] at hk
  obtain ⟨ss, hS⟩ := tx_of hvs
  have hlen : ss.length = l.length := by
    rw [← str_len hS, pm.length_eq, List.length_map, Array.length_toList]; exact hsz
  have hp : ss.Perm l := perm_of R.nd (fun x hx => by
    obtain ⟨e, he, q⟩ := (R.ok.mem x).mp hx
    have hv : e.2 ∈ vs := pm.mem_iff.mpr (List.mem_map.mpr ⟨e, he, rfl⟩)
    obtain ⟨y, t', hy⟩ := hvs _ hv
    rw [hy] at q hv
    have q : Value.isStrOf x (.str y t') = true := q
    have e2 : y = x := by simpa [Value.isStrOf] using q
    rw [← e2]
    exact str_mem hS hv) (Nat.le_of_eq hlen)
  have hvl : vs.length ≤ sizeLine := by
    rw [pm.length_eq, List.length_map, Array.length_toList]
    exact fits_of_scanBound hsc
  refine wpAny_bind (wpAny_newList ?_ hvl)
  have hoL : (s1.heap.push (seqObj "list" vs.toArray 0)).get? s1.heap.objs.size = some (seqObj "list" vs.toArray 0) := Heap.get?_push_size _ rfl
  refine wpAny_bind (wpAny_holding (wpAny_call_entry slot_list_sort ⟨_, hoL, rfl⟩ entry_list_sort (SrtO.list_sort_ord swo_tx hoL hvl (fun h2 => tx_sortable hS h2) fun out h1 h2 => ⟨_, rfl, ?_⟩) (args_list_sort _)))
  obtain ⟨ys, y1, y2, y3⟩ := tx_out hS h1 h2
  obtain ⟨c, hc⟩ := sortedHeap_at (vs := vs) (out := out.toArray) hoL
  refine wpAny_pure ⟨_, rfl, hQ _ s1.heap.objs.size out.toArray c ys (fun b u e => ?_) g1 o1 hz hc y1 (y2.trans hp) y3⟩
  have q := k1 b u e
  have hlt := Heap.lt_size q
  show (sortedHeap (s1.heap.push (seqObj "list" vs.toArray 0)) s1.heap.objs.size vs out.toArray).get? b = some u
  rw [sortedHeap_old (Nat.ne_of_lt hlt) (by rw [size_push']; exact Nat.lt_succ_of_lt hlt)]
  exact Heap.get?_push_of_some _ q
end
end DMS
namespace L2
open PySem PySem.Spec PyProof.Rows DMS PySem.Froz
/-- a set of texts -/
noncomputable def SetX (P : Program) (w : World) (a : Addr) (l : List Str) : HO := .ext fun h => ∃ D, Stx P w h a D l
section
variable {X : Cx}
theorem setX_new {P : Program} {w : World} {H : Hp} {h : Heap} {a : Addr} {D : SD} {l : List Str} (R : Stx P w h a D l) : ObjOk P w H h a (SetX P w a l) := by
  have e := R.here
  exact ⟨⟨D, R⟩, ⟨_, e⟩, fun h1 h2 ⟨D', p⟩ k => ⟨D', p.kept (k _ p.here)⟩⟩
/-- set(xs), texts -/
noncomputable def rSetX (K : PySem.W.Frag) (P : Program) (w : World) : List V → Hp → VK → Prop := fun vs H Q => ∃ (b : Addr) (xs : List Str), vs = [V.ref b] ∧ SqL K H b (xs.map V.str) ∧ xs.length + 1 < scanBound ∧
  ∀ (l : List Str) (p : Addr), (∀ x, x ∈ l ↔ x ∈ xs) → l.Nodup → l.length ≤ xs.length → H p = none → Q (.ref p) (upd H p (SetX P w p l))
theorem cr_setX (hc : X.calm = true) : CallR X (.type "set") (rSetX X.K X.prog X.w) := by
  intro pins s σ H vs us Q I r h
  obtain ⟨b, xs, rfl, hs, hb, q⟩ := h
  obtain ⟨its, rv, hl, hz⟩ := I.list hs
  rw [Vals.ref1 r]
  have hi := rv.strs
  have hn := str_len hi
  refine call_set (its := its.toArray) (ss := xs) (I.ok.hd hc) hl.isList hi (by rw [List.size_toArray, hn]; exact hb) fun h' tk D R k => ?_
  have en : its.toArray.size = xs.length := by rw [List.size_toArray, hn]
  rw [en] at R
  refine ⟨.ref s.heap.objs.size, upd H s.heap.objs.size (SetX X.prog X.w s.heap.objs.size _), I.laid (t' := tk) (fun c u e => k c u (Heap.lt_size e) e) (Nat.le_refl _) (setX_new R), rfl, q _ _ (fun x => ?_) R.nd (met_len _ _) (I.hok.fresh (Nat.le_refl _))⟩
  rw [met_mem]
  constructor
  · rintro ⟨j, hj, rfl⟩
    rw [List.getD_eq_getElem?_getD, List.getElem?_eq_getElem hj]
    exact List.getElem_mem hj
  · intro hx
    obtain ⟨j, hj, e⟩ := List.getElem_of_mem hx
    exact ⟨j, hj, by rw [List.getD_eq_getElem?_getD, List.getElem?_eq_getElem hj]; exact e⟩
/-- sorted(a set of texts) -/
noncomputable def rSortSetX (P : Program) (w : World) : List V → Hp → VK → Prop := fun vs H Q => ∃ (a : Addr) (l : List Str), vs = [V.ref a] ∧ H a = some (SetX P w a l) ∧ l.length < scanBound ∧
  ∀ (ys : List Str) (p : Addr), ys.Perm l → Up ys → H p = none → Q (.ref p) (upd H p (.lst (ys.map V.str)))
theorem cr_sortSetX (hc : X.calm = true) : CallR X (.builtin "sorted") (rSortSetX X.prog X.w) := by
  intro pins s σ H vs us Q I r h
  obtain ⟨a, l, rfl, ha, hb, q⟩ := h
  obtain ⟨D, R⟩ := (I.hok a _ ha).1
  rw [Vals.ref1 r]
  refine sort_stx R (I.ok.hd hc) hb fun s' p out c ys k g o hp hg hi hy hu => ?_
  have hlen : (ys.map V.str).length ≤ sizeLine := by
    rw [List.length_map, hy.length_eq]
    exact fits_of_scanBound hb
  have hn : H p = none := I.hok.fresh hp
  have J : Inv X pins σ (upd H p (.lst (ys.map V.str))) { s with heap := s'.heap, gens := s'.gens, drawn := s'.drawn, toks := s'.toks } :=
    I.call (ch := []) (Un.laid k hp hn) (I.hok.laid k hp ⟨hlen, out.toList, c, vals_of_strs hi, hg⟩) (by rw [g]; exact I.bare) (fun _ z => nomatch z)
  have e : s' = { s with heap := s'.heap, gens := s'.gens, drawn := s'.drawn, toks := s'.toks } := by
    cases s'; cases s; cases o; rfl
  rw [e]
  exact ⟨.ref p, _, J, rfl, q ys p hy hu hn⟩
end
end L2
set_option Elab.async false
set_option linter.all false
set_option maxRecDepth 100000
set_option maxHeartbeats 4000000
/-! rules: sorted(texts), sorted(set(texts)), xs.count(x) -/
namespace DMS
open PySem
noncomputable def leX (a b : Str) : Bool := decide (¬ tl b < tl a)
/-- sorted -/
noncomputable def srt (xs : List Str) : List Str := xs.mergeSort leX
theorem leX_trans (a b c : Str) (h1 : leX a b = true) (h2 : leX b c = true) : leX a c = true := decide_eq_true (nlt_trans (of_decide_eq_true h1) (of_decide_eq_true h2))
theorem leX_total (a b : Str) : (leX a b || leX b a) = true := by
  by_cases h : tl b < tl a
  · have : leX b a = true := decide_eq_true (List.lt_asymm h)
    rw [this, Bool.or_true]
  · have : leX a b = true := decide_eq_true h
    rw [this, Bool.true_or]
theorem srt_perm (xs : List Str) : (srt xs).Perm xs := List.mergeSort_perm xs leX
theorem srt_up (xs : List Str) : Up (srt xs) := (List.pairwise_mergeSort leX_trans leX_total xs).imp fun h => of_decide_eq_true h
theorem le_anti {a b : Str} (h1 : ¬ tl b < tl a) (h2 : ¬ tl a < tl b) : a = b :=
  tl_inj (List.le_antisymm (List.not_lt.mp h1) (List.not_lt.mp h2))
theorem up_eq : ∀ {xs ys : List Str}, xs.Perm ys → Up xs → Up ys → xs = ys
  | [], ys, p, _, _ => (List.Perm.nil_eq p).symm ▸ rfl
  | x :: xs, [], p, _, _ => absurd p.length_eq (by simp)
  | x :: xs, y :: ys, p, hx, hy => by
    have hx' := List.pairwise_cons.mp hx
    have hy' := List.pairwise_cons.mp hy
    have e : x = y := by
      have h1 : ¬ tl y < tl x := by
        rcases List.mem_cons.mp (p.mem_iff.mpr (List.mem_cons_self (a := y) (l := ys))) with z | z
        · rw [z]; exact fun q => List.lt_irrefl _ q
        · exact hx'.1 y z
      have h2 : ¬ tl x < tl y := by
        rcases List.mem_cons.mp (p.mem_iff.mp (List.mem_cons_self (a := x) (l := xs))) with z | z
        · rw [z]; exact fun q => List.lt_irrefl _ q
        · exact hy'.1 x z
      exact le_anti h1 h2
    subst e
    rw [up_eq (List.Perm.cons_inv p) hx'.2 hy'.2]
theorem srt_eq {xs ys : List Str} (p : ys.Perm xs) (u : Up ys) : ys = srt xs := up_eq (p.trans (srt_perm xs).symm) u (srt_up xs)
/-- each once -/
noncomputable def dd (xs : List Str) : List Str := xs.foldl more []
theorem foldl_more_mem (x : Str) : ∀ (xs acc : List Str), x ∈ xs.foldl more acc ↔ x ∈ acc ∨ x ∈ xs
  | [], acc => by simp
  | y :: xs, acc => by
    rw [List.foldl_cons, foldl_more_mem x xs]
    have : x ∈ more acc y ↔ x ∈ acc ∨ x = y := by
      unfold more
      split
      · constructor
        · exact .inl
        · rintro (h | rfl) <;> assumption
      · rw [List.mem_cons]; exact Or.comm
    rw [this, List.mem_cons, or_assoc]
theorem foldl_more_nd : ∀ (xs acc : List Str), acc.Nodup → (xs.foldl more acc).Nodup
  | [], acc, h => h
  | y :: xs, acc, h => by
    rw [List.foldl_cons]
    refine foldl_more_nd xs _ ?_
    unfold more
    split
    · exact h
    · exact List.nodup_cons.mpr ⟨by assumption, h⟩
theorem dd_mem {x : Str} {xs : List Str} : x ∈ dd xs ↔ x ∈ xs := by unfold dd; rw [foldl_more_mem]; simp
theorem dd_nd (xs : List Str) : (dd xs).Nodup := foldl_more_nd xs [] List.nodup_nil
theorem nd_perm {l m : List Str} (h1 : l.Nodup) (h2 : m.Nodup) (h : ∀ x, x ∈ l ↔ x ∈ m) : l.Perm m := by
  have le1 : ∀ {l m : List Str}, l.Nodup → (∀ x ∈ l, x ∈ m) → l.length ≤ m.length := by
    intro l
    induction l with
    | nil => intro m _ _; exact Nat.zero_le _
    | cons x l ih =>
      intro m nd hm
      obtain ⟨a, b⟩ := List.nodup_cons.mp nd
      have hx := hm x List.mem_cons_self
      have := ih (m := m.erase x) b fun y hy => (List.mem_erase_of_ne (fun z : y = x => a (by rw [← z]; exact hy))).mpr (hm y (List.mem_cons_of_mem _ hy))
      rw [List.length_erase_of_mem hx] at this
      have := List.length_pos_of_mem hx
      rw [List.length_cons]; omega
  exact perm_of h2 (fun x hx => (h x).mpr hx) (le1 h1 fun x hx => (h x).mp hx)
theorem set_eq {l xs ys : List Str} (h : ∀ x, x ∈ l ↔ x ∈ xs) (nd : l.Nodup) (p : ys.Perm l) (u : Up ys) : ys = srt (dd xs) :=
  srt_eq (p.trans (nd_perm nd (dd_nd xs) fun x => (h x).trans dd_mem.symm)) u
end DMS
set_option Elab.async false
set_option linter.all false
set_option maxRecDepth 100000
set_option maxHeartbeats 4000000
namespace L2
open PySem PySem.Spec PyProof.Rows
end L2
namespace DL
open PySem PySem.Spec PyProof.Rows L2 DMS
theorem dtl_strs_of {K : PySem.W.Frag} {G : Gh} {H : Hp} : ∀ {ys : List Str} {vs : List V}, DtL K G H (ys.map .str) vs → vs = ys.map V.str
  | [], _, h => h
  | y :: ys, _, h => by
    obtain ⟨x, r, rfl, h1, h2⟩ := h
    obtain rfl := h1
    rw [dtl_strs_of h2]; rfl
/-- sorted(set(texts)) -/
noncomputable def sortSetF (t : TLD) : TLD := fun ρ k => t ρ fun ds => ∃ xs : List Str, ds = [.lst (xs.map .str)] ∧ xs.length < 4000 ∧ k ((srt (dd xs)).map .str)
section
variable {X : Cx} {F : Fr} {p p2 pos pos2 apos : Pos} {e o : Expr} {ta : TLD} {te to : TD}
theorem f_sortSet (hc : X.calm = true) (hg : Gl X "sorted") (hm : X.mg "sorted" = none) (hg2 : Gl X "set") (hm2 : X.mg "set" = none) (ha : PA X [e] (liftA F ta)) (he : starEach [e] X.env = (false, eval e X.env) :: starEach [] X.env := by rfl)
    (he2 : starEach [.Call (.Name "set" p2) [e] [] pos2] X.env = (false, eval (.Call (.Name "set" p2) [e] [] pos2) X.env) :: starEach [] X.env := by rfl) :
    PE X (.Call (.Name "sorted" p) [.Call (.Name "set" p2) [e] [] pos2] [] pos) (liftF F (sortSetF ta)) := by
  refine pe_imp (pe_callB (cr_sortSetX hc) hg hm (by decide +kernel) (pa_cons (pe_callTy (cr_setX hc) hg2 hm2 (by decide +kernel) ha (by decide) (by decide) he) pa_nil he2) (by decide) (by decide) he2) fun σ H Q ⟨G, ρ, k, r, h, q⟩ => ?_
  refine ⟨G, ρ, _, r, h, fun ds vs H1 ⟨xs, e0, hz, h1⟩ e1 d1 => ?_⟩
  subst e0
  obtain ⟨v, rfl, a, us, rfl, n, ha, hl⟩ := dl1 d1
  obtain rfl := dtl_strs_of hl
  have r1 := r.step e1
  refine ⟨a, xs, rfl, SqL.of ha, by unfold scanBound; omega, fun l b hm' nd hl' hn => ?_⟩
  have e2 : Ext G H1 (upd H1 b (SetX X.prog X.w b l)) := Ext.new r1.bag hn
  have r2 := r1.step e2
  refine ⟨b, l, rfl, upd_same, by unfold scanBound; omega, fun ys c hp hu hc' => ?_⟩
  obtain rfl := set_eq hm' nd hp hu
  have e3 : Ext G (upd H1 b (SetX X.prog X.w b l)) (upd (upd H1 b (SetX X.prog X.w b l)) c (.lst ((srt (dd xs)).map V.str))) := Ext.new r2.bag hc'
  exact q _ c _ _ h1 ((e1.trans e2).trans e3) ((e1.trans e2).free r.bag hc') upd_same (dtl_strs _)
end
end DL
set_option Elab.async false
set_option linter.all false
set_option maxRecDepth 100000
set_option maxHeartbeats 4000000
/-! sorted(d.values()), texts -/
namespace DMS
open PySem PySem.Spec PyProof.Rows L2 PySem.Froz
end DMS
namespace DL
open PySem PySem.Spec PyProof.Rows L2 DMS
section
variable {X : Cx} {F : Fr} {e : Expr} {te : TD} {p apos cpos pos : Pos}
/-- list(range(n)) -/
noncomputable def lstRgF (t : TD) : TLD := fun ρ k => t ρ fun d => ∃ n : Nat, d = .int n ∧ n ≤ 2 ^ 24 ∧ k ((List.range n).map fun i => .int (i : Nat))
end
end DL
set_option Elab.async false
set_option linter.all false
set_option maxRecDepth 100000
set_option maxHeartbeats 4000000
namespace DL
open PySem PySem.Spec PyProof.Rows L2
/-! ### calls that change what is handed to them -/
noncomputable def off (H : Hp) (B : List Addr) : Hp := fun a => if a ∈ B then none else H a
theorem off_in {H : Hp} {B : List Addr} {a : Addr} (h : a ∈ B) : off H B a = none := if_pos h
theorem off_out {H : Hp} {B : List Addr} {a : Addr} (h : a ∉ B) : off H B a = H a := if_neg h
/-- a step with effects on what slots own -/
structure Eff (G G' : Gh) (H H' : Hp) (L L' : List Addr) : Prop where
  evo : Evo G G' H H'
  keep : ∀ p, G.own p → p ∉ L → p ≠ G.bg → H p ≠ none → G'.own p ∧ H' p = H p ∧ p ∉ L'
theorem Eff.trans {G G1 G2 : Gh} {H H1 H2 : Hp} {L L1 L2 : List Addr} (a : Eff G G1 H H1 L L1) (b : Eff G1 G2 H1 H2 L1 L2) : Eff G G2 H H2 L L2 := by
  refine ⟨⟨fun x o n h => ?_, a.evo.tr, fun x n h => ?_, b.evo.bg.trans a.evo.bg, b.evo.bi.trans a.evo.bi⟩, fun p o n g h => ?_⟩
  · have n1 := a.evo.out x n (by rw [h]; exact fun z => nomatch z)
    rcases a.evo.keep x o n h with z | ⟨d, od, z⟩
    · exact b.evo.keep x o n1 z
    · exact .inr ⟨d, od, (b.evo.keep x _ n1 z).plain fun z => z⟩
  · have n1 := a.evo.out x n h
    refine b.evo.out x n1 fun z => h ?_
    cases q : H x with
    | none => rfl
    | some o => rcases a.evo.keep x o n q with w | ⟨_, od, w⟩ <;> · rw [w] at z; cases z
  · obtain ⟨o1, e1, n1⟩ := a.keep p o n g h
    obtain ⟨o2, e2, n2⟩ := b.keep p o1 n1 (by rw [a.evo.bg]; exact g) (by rw [e1]; exact h)
    exact ⟨o2, e2.trans e1, n2⟩
section
variable {F : Fr} {G G' : Gh} {H H' : Hp} {σ : L2.St} {ρ : List Sl} {L : List Addr}
theorem set_same {i : Nat} {v : V} (e : σ[i]? = some (some v)) : σ.set i (some v) = σ := by
  apply List.ext_getElem?
  intro j
  by_cases h : i = j
  · subst h; rw [List.getElem?_set_self', e]; rfl
  · rw [List.getElem?_set_ne h]
/-- a slot that owns a tree -/
noncomputable def _root_.DL.Sl.tree : Sl → Option (Tr × (Tr → Sl))
  | .tr t => some (t, .tr)
  | .io v t => some (t, .io v)
  | _ => none
theorem SlR.tree {s : Sl} {t : Tr} {mk : Tr → Sl} {o : Option V} {M : List Addr} (hs : s.tree = some (t, mk)) (h : SlR F G H s o M) : (∀ p ∈ M, ¬ F.G.own p) ∧ ∃ v, o = some v ∧ Ow F.K G H t v M ∧
    ∀ (F' : Fr) (G' : Gh) (H' : Hp) (t' : Tr) (M' : List Addr), (∀ p ∈ M', ¬ F'.G.own p) → Ow F'.K G' H' t' v M' → SlR F' G' H' (mk t') (some v) M' := by
  cases s with
  | tr u =>
    obtain ⟨rfl, rfl⟩ := Prod.mk.inj (Option.some.inj hs)
    obtain ⟨n, v, rfl, h⟩ := h
    exact ⟨n, v, rfl, h, fun F' G' H' t' M' n' h' => ⟨n', v, rfl, h'⟩⟩
  | io w u =>
    obtain ⟨rfl, rfl⟩ := Prod.mk.inj (Option.some.inj hs)
    obtain ⟨n, rfl, h⟩ := h
    exact ⟨n, w, rfl, h, fun F' G' H' t' M' n' h' => ⟨n', rfl, h'⟩⟩
  | _ => cases hs
/-- what a slot owns is handed out, and comes back changed -/
theorem RelL.io (r : RelL F G H σ ρ L) {i : Nat} {t : Tr} {s : Sl} {mk : Tr → Sl} (hi : ρ[i]? = some s) (hs : s.tree = some (t, mk)) : ∃ v B, σ[i]? = some (some v) ∧ Ow F.K G H t v B ∧ B.Nodup ∧ (∀ p ∈ B, ¬ F.G.own p) ∧ G.bg ∉ B ∧ G.bi ∉ B ∧
    ∀ t' H' B', Ext (G.rems B) (off H B) H' → (∀ p ∈ B', off H B p = none) → B'.Nodup → Ow F.K ((G.rems B).adds B') H' t' v B' → ∃ L', RelL F ((G.rems B).adds B') H' σ (ρ.set i (mk t')) L' ∧ Eff G ((G.rems B).adds B') H H' L L' := by
  obtain ⟨r, h, n⟩ := r
  obtain ⟨u, A, B, C, e1, rfl, hu, k⟩ := h.upd hi
  obtain ⟨hn, v, rfl, hw, hmk⟩ := SlR.tree hs hu
  obtain ⟨n1, nB, nd⟩ := nodup_mid n
  have ob := fun p hp => (Ow.own t v B hw p hp).1
  have hb : G.bg ∉ B := fun z => hn _ z (by rw [r.bg]; exact r.ob)
  have hbi : G.bi ∉ B := fun z => hn _ z (by rw [r.bi]; exact r.oi)
  refine ⟨v, B, e1, hw, nB, hn, hb, hbi, fun t' H' B' x hB' nB' hw' => ?_⟩
  have obg : G.own G.bg := r.obg
  have fresh : ∀ p ∈ B', p ∈ B ∨ H p = none := fun p hp => by
    by_cases q : p ∈ B
    · exact .inl q
    · have := hB' p hp
      rw [off_out q] at this
      exact .inr this
  have stand : ∀ p, G.own p → p ∉ B → p ≠ G.bg → H p ≠ none → H' p = H p := fun p o nb g hh => by
    cases q : H p with
    | none => exact absurd q hh
    | some w =>
      rcases x.keep p w g (by rw [off_out nb]; exact q) with z | ⟨z, _⟩
      · exact z
      · exact absurd ⟨o, nb⟩ z
  have ev : Evo G ((G.rems B).adds B') H H' := by
    refine ⟨fun a o na ha => ?_, r.tr, fun a na ha => ?_, rfl, rfl⟩
    · have ab : a ∉ B := fun z => na (ob a z)
      exact (x.keep a o (fun z => na (z ▸ obg)) (by rw [off_out ab]; exact ha)).imp _root_.id fun z => z.2
    · rintro (z | z)
      · exact na z.1
      · rcases fresh a z with w | w
        · exact na (ob a w)
        · exact ha w
  have nB2 : ∀ p ∈ B', p ∉ A ∧ p ∉ C := fun p hp => by
    rcases fresh p hp with w | w
    · exact nd p w
    · exact ⟨fun z => (h.own p (List.mem_append_left _ z)).2.1 w, fun z => (h.own p (List.mem_append_right _ (List.mem_append_right _ z))).2.1 w⟩
  have nF : ∀ p ∈ B', ¬ F.G.own p := fun p hp => by
    rcases fresh p hp with w | w
    · exact hn p w
    · intro z
      have m := r.tr p (r.sub p z)
      rw [w] at m; exact m
  have sl := k F ((G.rems B).adds B') H' (mk t') (some v) B' (fun s u M kk => SlR.go rfl rfl ev s u M fun q hq h1 h2 h3 => by
    have qB : q ∉ B := fun z => by
      rcases kk q hq with w | w
      · exact (nd q z).1 w
      · exact (nd q z).2 w
    exact ⟨.inl ⟨h1, qB⟩, stand q h1 qB (fun z => h3 (by rw [z, r.bg]; exact r.ob)) h2⟩) (hmk F _ H' t' B' nF hw')
  rw [set_same e1] at sl
  have nn := nodup_in n1 nB' nB2
  have rl : Rel F ((G.rems B).adds B') H' σ (ρ.set i (mk t')) := by
    refine ⟨r.bg, r.bi, r.ob, r.oi, fun a z => .inl ⟨r.sub a z, fun w => hn a w z⟩, fun a z na => ?_, fun a z => ?_, ⟨fun a o g ha => ?_, ?_⟩, fun q hq => ev.dt _ _ (r.pn q hq), _, sl, nn⟩
    · have fromH : H a = none → F.H a = none := fun w => by
        cases q : F.H a with
        | none => rfl
        | some o =>
          have g : a ≠ F.G.bg := fun z => by
            have := r.ext.bag.ne
            rw [← z] at this
            exact this w
          rcases r.ext.lk g q with z | ⟨_, od, z⟩ <;> · rw [z] at w; cases w
      rcases z with z | z
      · exact r.new a z.1 na
      · rcases fresh a z with w | w
        · exact r.new a (ob a w) (hn a w)
        · exact fromH w
    · rcases z with z | z
      · by_cases g : a = G.bg
        · subst g
          obtain ⟨x1, y1, z1, ns, e, _⟩ := x.bag
          have e' : H' G.bg = _ := e
          rw [e']; exact True.intro
        · have m := r.tr a z.1
          have hh : H a ≠ none := fun w => by rw [w] at m; exact m
          rw [stand a z.1 z.2 g hh]; exact m
      · exact Ow.mut t' v B' hw' a z
    · have aB : a ∉ B := fun z => by
        have := r.new a (ob a z) (hn a z)
        rw [ha] at this; cases this
      have g' : a ≠ G.bg := by rw [r.bg]; exact g
      rcases r.ext.keep a o g ha with z | ⟨z1, z2, od, z3⟩
      · rcases x.keep a o g' (by rw [off_out aB]; exact z) with w | ⟨w1, w2⟩
        · exact .inl w
        · exact .inr ⟨fun q => w1 ⟨r.sub a q, aB⟩, w2⟩
      · rcases x.keep a _ g' (by rw [off_out aB]; exact z3) with w | ⟨w1, w2, _⟩
        · exact .inr ⟨z1, z2, od, w⟩
        · exact w2.elim
    · have b := x.bag
      have e1 : (G.rems B).bg = F.G.bg := r.bg
      have e2 : (G.rems B).bi = F.G.bi := r.bi
      rw [e1, e2] at b
      exact b
  refine ⟨_, ⟨rl, sl, nn⟩, ev, fun p o np g hh => ?_⟩
  have pB : p ∉ B := fun z => np (List.mem_append_right _ (List.mem_append_left _ z))
  refine ⟨.inl ⟨o, pB⟩, stand p o pB g hh, fun z => ?_⟩
  rcases List.mem_append.mp z with z | z
  · exact np (List.mem_append_left _ z)
  · rcases List.mem_append.mp z with z | z
    · rcases fresh p z with w | w
      · exact pB w
      · exact hh w
    · exact np (List.mem_append_right _ (List.mem_append_right _ z))
end
/-! ### expressions with effects -/
noncomputable abbrev TDE := List Sl → (D → List Sl → Prop) → Prop
noncomputable def pureE (t : TD) : TDE := fun ρ k => t ρ fun d => k d ρ
noncomputable def asgE (i : Nat) (t : TDE) : TSD := fun k ρ => t ρ fun d ρ' => k.nx (ρ'.set i (.dat d))
noncomputable def retE (t : TDE) : TSD := fun k ρ => t ρ fun d ρ' => k.rp d ρ'
noncomputable def dropE (t : TDE) : TSD := fun k ρ => t ρ fun _ ρ' => k.nx ρ'
noncomputable def binE (o : OD) (ta : TD) (tb : TDE) : TDE := fun ρ k => ta ρ fun x => tb ρ fun y ρ' => o x y fun z => k z ρ'
/-! ### handing out what a slot owns -/
noncomputable abbrev RMD := List (Option D) → Tr → (D → Tr → Prop) → Prop
noncomputable def DtX (K : PySem.W.Frag) (G : Gh) (H : Hp) (v : V) : List (Option D) → List V → Prop
  | [], vs => vs = []
  | some d :: xs, vs => ∃ x r, vs = x :: r ∧ Dt K G H d x ∧ DtX K G H v xs r
  | none :: xs, vs => ∃ r, vs = v :: r ∧ DtX K G H v xs r
theorem DtX.len {K : PySem.W.Frag} {G : Gh} {H : Hp} {v : V} : ∀ {xs : List (Option D)} {vs : List V}, DtX K G H v xs vs → xs.length = vs.length
  | [], _, h => by rw [show _ = [] from h]; rfl
  | some d :: xs, _, h => by
    obtain ⟨x, r, rfl, _, h⟩ := h
    simp [DtX.len h]
  | none :: xs, _, h => by
    obtain ⟨r, rfl, h⟩ := h
    simp [DtX.len h]
theorem DtX.evo {K : PySem.W.Frag} {G G' : Gh} {H H' : Hp} {v : V} (e : Evo G G' H H') : ∀ {xs : List (Option D)} {vs : List V}, DtX K G H v xs vs → DtX K G' H' v xs vs
  | [], _, h => h
  | some d :: xs, _, h => by
    obtain ⟨x, r, rfl, h1, h⟩ := h
    exact ⟨x, r, rfl, e.dt d x h1, DtX.evo e h⟩
  | none :: xs, _, h => by
    obtain ⟨r, rfl, h⟩ := h
    exact ⟨r, rfl, DtX.evo e h⟩
noncomputable def spM (K : PySem.W.Frag) (RM : RMD) : Sp := fun vs H Q _ => ∃ G xs t v B k, GOk G H ∧ DtX K G H v xs vs ∧ Ow K G H t v B ∧ B.Nodup ∧ G.bg ∉ B ∧ G.bi ∉ B ∧ RM xs t k ∧
  ∀ d t' w H' B', k d t' → Ext (G.rems B) (off H B) H' → (∀ p ∈ B', off H B p = none) → B'.Nodup → Ow K ((G.rems B).adds B') H' t' v B' → Dt K ((G.rems B).adds B') H' d w → Q w H'
structure CalMP (P : Program) (w : World) (K : PySem.W.Frag) (mg : Str → Option Value) (base : Heap) (n : Nat) (x : Str) (RM : RMD) : Prop where
  ex : ∃ (f : Addr) (fd : FuncData) (ps : List Str) (k : Nat), k ≤ n ∧ FnG P w K mg base CX0 k f fd ps (spM K RM) ∧ mg x = some (.ref f) ∧ PySem.W.keepIn K (.ref f) = true ∧ Binds K fd ps []
theorem CalMP.mono {P : Program} {w : World} {K : PySem.W.Frag} {mg : Str → Option Value} {base : Heap} {n m : Nat} {x : Str} {RM : RMD} (c : CalMP P w K mg base n x RM) (h : n ≤ m) : CalMP P w K mg base m x RM :=
  let ⟨f, fd, ps, k, hk, r⟩ := c.ex
  ⟨f, fd, ps, k, by omega, r⟩
/-! the arguments -/
noncomputable abbrev TLX := List Sl → (List (Option D) → Prop) → Prop
noncomputable def nilX : TLX := fun _ k => k []
noncomputable def consX (t : TD) (u : TLX) : TLX := fun ρ k => t ρ fun d => u ρ fun xs => k (some d :: xs)
noncomputable def ownX (u : TLX) : TLX := fun ρ k => u ρ fun xs => k (none :: xs)
noncomputable def lastY (t : TRD) : List Sl → (List (Option D) → Tr → Prop) → Prop := fun ρ k => t ρ fun x => k [none] x
noncomputable def consY (t : TD) (u : List Sl → (List (Option D) → Tr → Prop) → Prop) : List Sl → (List (Option D) → Tr → Prop) → Prop := fun ρ k => t ρ fun d => u ρ fun xs x => k (some d :: xs) x
end DL
set_option Elab.async false
set_option linter.all false
set_option maxRecDepth 100000
set_option maxHeartbeats 4000000
namespace DL
open PySem PySem.Spec PyProof.Rows L2
noncomputable def callY (RM : RMD) (ty : List Sl → (List (Option D) → Tr → Prop) → Prop) : TD := fun ρ k => ty ρ fun xs t => RM xs t fun d _ => k d
/-! ### a def that changes what it is handed -/
noncomputable def enterX (n : Nat) (v : V) (t : Tr) (xs : List (Option D)) : List Sl := xs.map (fun x => match x with
  | some d => .dat d
  | none => .io v t) ++ List.replicate (n - xs.length) .un
noncomputable def endM (j : Nat) (κ : D → Tr → Prop) (v : V) : DE where
  nx := fun ρ => ∃ t, ρ[j]? = some (.io v t) ∧ κ .non t
  rt := fun _ => False
  bk := fun _ => False
  ct := fun _ => False
  rp := fun d ρ => ∃ t, ρ[j]? = some (.io v t) ∧ κ d t
end DL
set_option Elab.async false
set_option linter.all false
set_option maxRecDepth 100000
set_option maxHeartbeats 4000000
namespace DL
open PySem PySem.Spec PyProof.Rows L2
/-! ### objects of own classes -/
theorem DtF.lookup {K : PySem.W.Frag} {G : Gh} {H : Hp} {f : Str} {d : D} : ∀ {fs : List (Str × D)} {vs : List (Str × V)}, DtF K G H fs vs → fs.lookup f = some d → ∃ v, vs.lookup f = some v ∧ Dt K G H d v
  | [], _, _, e => by cases e
  | (k, x) :: fs, _, h, e => by
    obtain ⟨v, r, rfl, h1, h2⟩ := h
    rw [List.lookup_cons] at e ⊢
    cases q : (f == k) with
    | true =>
      rw [q] at e
      obtain rfl := Option.some.inj e
      exact ⟨v, rfl, h1⟩
    | false =>
      rw [q] at e
      exact DtF.lookup h2 e
theorem DtF.none {K : PySem.W.Frag} {G : Gh} {H : Hp} {f : Str} : ∀ {fs : List (Str × D)} {vs : List (Str × V)}, DtF K G H fs vs → fs.lookup f = none → vs.lookup f = none
  | [], _, h, _ => by rw [show _ = [] from h]; rfl
  | (k, x) :: fs, _, h, e => by
    obtain ⟨v, r, rfl, h1, h2⟩ := h
    rw [List.lookup_cons] at e ⊢
    cases q : (f == k) with
    | true => rw [q] at e; cases e
    | false =>
      rw [q] at e
      exact DtF.none h2 e
noncomputable def fldT (C : Addr) (f : Str) (t : TD) : TD := fun ρ k => t ρ fun d => ∃ fs v, d = .ins C fs ∧ fs.lookup f = some v ∧ k v
/-! methods -/
structure MetP (P : Program) (w : World) (K : PySem.W.Frag) (mg : Str → Option Value) (base : Heap) (n : Nat) (C : Addr) (m : Str) (R : RD) : Prop where
  ex : ∃ (f : Addr) (fd : FuncData) (ps : List Str) (k : Nat), k ≤ n ∧ FnG P w K mg base CX0 k f fd ps (spD K R) ∧ Cls K C ∧ Meth K C m f ∧ Binds K fd ps []
theorem MetP.mono {P : Program} {w : World} {K : PySem.W.Frag} {mg : Str → Option Value} {base : Heap} {n n' : Nat} {C : Addr} {m : Str} {R : RD} (c : MetP P w K mg base n C m R) (h : n ≤ n') : MetP P w K mg base n' C m R :=
  let ⟨f, fd, ps, k, hk, r⟩ := c.ex
  ⟨f, fd, ps, k, by omega, r⟩
noncomputable def metT (C : Addr) (m : Str) (R : RD) (t : TD) (ta : TLD) : TD := fun ρ k => t ρ fun x => (∃ fs, x = .ins C fs ∧ fs.lookup m = none) ∧ ta ρ fun ds => R (x :: ds) k
/-! making -/
structure MakP (P : Program) (w : World) (K : PySem.W.Frag) (mg : Str → Option Value) (base : Heap) (n : Nat) (x : Str) (C : Addr) (RM : RMD) : Prop where
  ex : ∃ (f : Addr) (fd : FuncData) (ps : List Str) (k : Nat), k + 1 ≤ n ∧ FnG P w K mg base CX0 k f fd ps (spM K RM) ∧ mg x = some (.ref C) ∧ Mk K C f ∧ Binds K fd ps []
theorem MakP.mono {P : Program} {w : World} {K : PySem.W.Frag} {mg : Str → Option Value} {base : Heap} {n n' : Nat} {x : Str} {C : Addr} {RM : RMD} (c : MakP P w K mg base n x C RM) (h : n ≤ n') : MakP P w K mg base n' x C RM :=
  let ⟨f, fd, ps, k, hk, r⟩ := c.ex
  ⟨f, fd, ps, k, by omega, r⟩
/-- C(..): what __init__ makes of a new object -/
noncomputable def makT (C : Addr) (RM : RMD) (ta : TLD) : TRD := fun ρ k => ta ρ fun ds => RM (none :: ds.map some) (.o C []) fun d t => d = .non ∧ k t
theorem DtX.of {K : PySem.W.Frag} {G : Gh} {H : Hp} {v : V} : ∀ {ds : List D} {vs : List V}, DtL K G H ds vs → DtX K G H v (ds.map some) vs
  | [], _, h => h
  | d :: ds, _, h => by
    obtain ⟨x, r, rfl, h1, h2⟩ := h
    exact ⟨x, r, rfl, h1, DtX.of h2⟩
section
variable {X : Cx} {F : Fr} {n : Nat} {C f : Addr} {x : Str} {RM : RMD} {e : Expr} {es : List Expr} {ta : TLD} {p pos : Pos} {fd : FuncData} {ps : List Str} {sp : Sp} {k : Nat} {E : XK} {CX : CXT}
/-- what is new, as data -/
noncomputable def datO (t : TRD) : TD := fun ρ k => t ρ fun x => k x.toD
theorem d_ofR {tr : TRD} (h : PE X e (liftR F tr)) : PE X e (lift F (datO tr)) :=
  pe_imp h fun σ H Q ⟨G, ρ, k, r, h, q⟩ => ⟨G, ρ, _, r, h, fun t v R H' h1 e1 hR nR ho => q _ v H' h1 e1 (ow_toD r.ok e1 hR ho)⟩
end
end DL
set_option Elab.async false
set_option linter.all false
set_option maxRecDepth 100000
set_option maxHeartbeats 4000000
namespace DL
open PySem PySem.Spec PyProof.Rows L2
/-! ### what a slot owns is changed -/
theorem RelL.chg {F : Fr} {G : Gh} {H : Hp} {σ : L2.St} {ρ : List Sl} {L : List Addr} (r : RelL F G H σ ρ L) {i : Nat} {t : Tr} {s : Sl} {mk : Tr → Sl} (hi : ρ[i]? = some s) (hs : s.tree = some (t, mk)) : ∃ v B, σ[i]? = some (some v) ∧ Ow F.K G H t v B ∧ B.Nodup ∧ (∀ p ∈ B, ¬ F.G.own p) ∧
    ∀ (p : Addr) (o : HO) (t' : Tr), p ∈ B → Mut (some o) → Ow F.K G (upd H p o) t' v B → ∃ L', RelL F ((G.rems B).adds B) (upd H p o) σ (ρ.set i (mk t')) L' := by
  obtain ⟨v, B, e1, hw, nB, hn, nb, ni, io⟩ := r.io hi hs
  refine ⟨v, B, e1, hw, nB, hn, fun p o t' hp mo hw' => ?_⟩
  have hx : Ext (G.rems B) (off H B) (upd H p o) := by
    refine ⟨fun a u g ha => ?_, ?_⟩
    · by_cases m : a ∈ B
      · rw [off_in m] at ha; cases ha
      · rw [off_out m] at ha
        exact .inl (by rw [upd_ne (fun z => m (by rw [z]; exact hp))]; exact ha)
    · obtain ⟨x, y, z, ns, h1, h2, q⟩ := r.1.bag
      exact ⟨x, y, z, ns, by rw [upd_ne (fun w => nb (by rw [show G.bg = p from w]; exact hp))]; exact h1, by rw [upd_ne (fun w => ni (by rw [show G.bi = p from w]; exact hp))]; exact h2, q⟩
  have ev : Evo G ((G.rems B).adds B) (upd H p o) (upd H p o) := by
    refine ⟨fun _ _ _ h => .inl h, fun a z => ?_, fun a n _ z => n ?_, rfl, rfl⟩
    · by_cases e : a = p
      · subst e; rw [upd_same]; exact mo
      · rw [upd_ne e]; exact r.1.tr a z
    · rcases z with w | w
      · exact w.1
      · exact (Ow.own t v B hw a w).1
  obtain ⟨L', h, _⟩ := io t' (upd H p o) B hx (fun q hq => off_in hq) nB (Ow.evo ev t' v B (fun q hq => ⟨.inr hq, rfl⟩) hw')
  exact ⟨L', h⟩
noncomputable def mX (i : Nat) (o : MD) (ta : TLD) : TSD := fun k ρ => ∃ s ts mk, ρ[i]? = some s ∧ s.tree = some (.l ts, mk) ∧ ta ρ fun args => o ts args fun us => k.nx (ρ.set i (mk (.l us)))
section
variable {X : Cx} {F : Fr} {e : Expr} {te : TD} {ta : TLD} {pos apos cpos : Pos}
theorem s_methX {i : Nat} {r : V → List V → Hp → VK → Prop} {o : MD} (hr : ∀ (G : Gh) (H : Hp) (p : Addr) (xs : List V) (ts : List Tr) (M : List Addr) (args : List D) (vs : List V) (k : List Tr → Prop) (Q : VK), H p = some (.lst xs) → OwL F.K G H ts xs M → DtL F.K G H args vs → o ts args k →
      (∀ us ys w, k us → OwL F.K G H us ys M → Q w (upd H p (.lst ys))) → r (.ref p) vs H Q)
    (hpe : PE X e (tBM X.K "list" r (tVar i) (liftA F ta))) (hs : swapsWith e none pos.line X.env = pure false := by rfl) : PS X (.Expr e pos) (liftS F (mX i o ta)) := by
  refine ps_imp (ps_expr hpe hs) fun E σ H ⟨G, ρ, k, r, ⟨s, ts, mk, hi, hsl, h⟩, o⟩ => ?_
  obtain ⟨L, rl⟩ := r.adrs
  obtain ⟨v, B, e1, ⟨p, xs, M, rfl, o2, h4, h5, rfl⟩, _, _, _⟩ := rl.chg hi hsl
  refine ⟨_, e1, .inl ⟨rfl, _, SqL.of h4⟩, G, ρ, _, r, h, fun args vs H1 h1 x1 d1 => ?_⟩
  have r1 := rl.step x1
  obtain ⟨v, B, e1', ⟨p', xs, M, rfl, o2, h4, h5, rfl⟩, nB, _, ch⟩ := r1.chg hi hsl
  rw [e1] at e1'
  cases e1'
  refine hr G H1 p xs ts M args vs _ _ h4 h5 d1 h1 fun us ys w hk hd => ?_
  have np : p ∉ M := (List.nodup_cons.mp nB).1
  have ev : Evo G G H1 (upd H1 p (.lst ys)) := ⟨fun a u n h => .inl (by rw [upd_ne (fun z => n (by rw [z]; exact o2))]; exact h), r1.1.tr, fun _ n _ => n, rfl, rfl⟩
  obtain ⟨L', r2⟩ := ch p (.lst ys) (.l us) List.mem_cons_self True.intro ⟨p, ys, M, rfl, o2, upd_same, Ow.evoL ev us ys M (fun q hq => ⟨(OwL.own us ys M hd q hq).1, upd_ne fun z => np (z ▸ hq)⟩) hd, rfl⟩
  exact o.nx _ _ σ _ hk r2.1
theorem s_appX (i : Nat) {x : Str} {px : Pos} (ha : PA X [e] (liftA F ta))
    (hpe : PE X (.Call (.Attribute (.Name x px) "append" apos) [e] [] cpos) (tBM X.K "list" rAppend (tVar i) (liftA F ta))) (hs : swapsWith (.Call (.Attribute (.Name x px) "append" apos) [e] [] cpos) none pos.line X.env = pure false := by rfl) :
    PS X (.Expr (.Call (.Attribute (.Name x px) "append" apos) [e] [] cpos) pos) (liftS F (mX i appD ta)) := by
  refine s_methX (fun G H p xs ts M args vs k Q hp hd ha h q => ?_) hpe hs
  unfold appD at h
  split at h
  · obtain ⟨v, rfl, hv⟩ := dl1 ha
    exact ⟨p, xs, v, rfl, rfl, hp, by rw [← hd.len]; exact h.1, q _ _ _ h.2 (by have := hd.app (OwL.one hv); rwa [List.append_nil] at this)⟩
  · exact h.elim
end
/-! fields of an object that is being made -/
noncomputable def putFT (f : Str) (d : D) : List (Str × Tr) → List (Str × Tr)
  | [] => [(f, .d d)]
  | (g, x) :: r => if g = f then (g, .d d) :: r else (g, x) :: putFT f d r
/-- the field is new, or holds data -/
noncomputable def Plain (f : Str) (fs : List (Str × Tr)) : Prop := ∀ t, fs.lookup f = some t → ∃ d, t = .d d
theorem OwF.put {K : PySem.W.Frag} {G : Gh} {H : Hp} {f : Str} {d : D} {v : V} (hd : Dt K G H d v) : ∀ {fs : List (Str × Tr)} {vs : List (Str × V)} {M : List Addr}, Plain f fs → OwF K G H fs vs M → OwF K G H (putFT f d fs) (putF f v vs) M
  | [], _, _, _, h => by
    obtain ⟨rfl, rfl⟩ := h
    exact ⟨v, [], [], [], rfl, ⟨rfl, hd⟩, ⟨rfl, rfl⟩, rfl⟩
  | (g, x) :: fs, _, _, p, h => by
    obtain ⟨u, r, A, B, rfl, h1, h2, rfl⟩ := h
    unfold putFT putF
    by_cases e : g = f
    · rw [if_pos e, if_pos e]
      obtain ⟨d0, rfl⟩ := p x (by rw [List.lookup_cons, e]; simp)
      obtain ⟨rfl, _⟩ := h1
      exact ⟨v, r, [], B, rfl, ⟨rfl, hd⟩, h2, rfl⟩
    · rw [if_neg e, if_neg e]
      refine ⟨u, _, A, B, rfl, h1, OwF.put hd (fun t ht => p t ?_) h2, rfl⟩
      have e3 : (f == g) = false := by simpa using fun z => e z.symm
      rw [List.lookup_cons, e3]; exact ht
theorem OwF.len {K : PySem.W.Frag} {G : Gh} {H : Hp} : ∀ {fs : List (Str × Tr)} {vs : List (Str × V)} {M : List Addr}, OwF K G H fs vs M → fs.length = vs.length
  | [], _, _, h => by rw [h.1]; rfl
  | (g, x) :: fs, _, _, h => by
    obtain ⟨u, r, A, B, rfl, h1, h2, rfl⟩ := h
    simp [OwF.len h2]
/-- self.f = e -/
noncomputable def fldX (i : Nat) (C : Addr) (f : Str) (t : TD) : TSD := fun k ρ => t ρ fun d => ∃ s fs mk, ρ[i]? = some s ∧ s.tree = some (.o C fs, mk) ∧ Plain f fs ∧ fs.length < 1000 ∧ k.nx (ρ.set i (mk (.o C (putFT f d fs))))
section
variable {X : Cx} {F : Fr} {e : Expr} {te : TD} {C : Addr} {f g x : Str} {px pos pos' : Pos} {i : Nat}
/-- self.f, self.g = e -/
noncomputable def fldX2 (i : Nat) (C : Addr) (f g : Str) (t : TD) : TSD := fun k ρ => t ρ fun d => ∃ d1 d2 s fs mk, d = .tup [d1, d2] ∧ ρ[i]? = some s ∧ s.tree = some (.o C fs, mk) ∧ Plain f fs ∧ Plain g (putFT f d1 fs) ∧ fs.length + 1 < 1000 ∧ k.nx (ρ.set i (mk (.o C (putFT g d2 (putFT f d1 fs)))))
end
end DL
set_option Elab.async false
set_option linter.all false
set_option maxRecDepth 100000
set_option maxHeartbeats 4000000
namespace DL
open PySem PySem.Spec PyProof.Rows L2
/-! ### dicts with tuples as keys, walked over -/
end DL
set_option Elab.async false
set_option linter.all false
set_option maxRecDepth 100000
set_option maxHeartbeats 4000000
namespace DL
open PySem PySem.Spec PyProof.Rows L2
/-! ### dicts with tuples as keys, locked, as data -/
section
variable {K : PySem.W.Frag} {G : Gh} {H : Hp}
theorem DtQ.get : ∀ {es : List (D × D)} {kvs : List (List Key × V)} {t : Bool} {i : Nat} {j : List Key} {v : V}, DtQ K G H t es kvs → kvs[i]? = some (j, v) → ∃ d, es[i]? = some (.tup (j.map kD), d) ∧ Dt K G H d v
  | [], _, _, i, _, _, h, e => by rw [h.1] at e; simp at e
  | (k, d) :: es, _, _, 0, _, _, h, e => by
    obtain ⟨j, v, r, rfl, rfl, h1, h2⟩ := h
    simp at e
    obtain ⟨rfl, rfl⟩ := e
    exact ⟨d, rfl, h1⟩
  | (k, d) :: es, _, _, i + 1, _, _, h, e => by
    obtain ⟨j, v, r, rfl, rfl, h1, h2⟩ := h
    obtain ⟨d', e1, e2⟩ := DtQ.get (i := i) h2 (by simpa using e)
    exact ⟨d', by simpa using e1, e2⟩
end
noncomputable def keysQ (t : TD) : TLD := fun ρ k => t ρ fun d => ∃ es, d = .dic true es ∧ k (es.map Prod.fst)
noncomputable def valsQ (t : TD) : TLD := fun ρ k => t ρ fun d => ∃ es, d = .dic true es ∧ k (es.map Prod.snd)
noncomputable def itemsQ (t : TD) : TLD := fun ρ k => t ρ fun d => ∃ es, d = .dic true es ∧ k (es.map tupE)
/-! ### table[key], a tuple as key -/
noncomputable def qixT (t tk : TD) : TD := fun ρ k => t ρ fun x => ∃ es, x = .dic true es ∧ tk ρ fun y => optK (keyT y) fun j => optK (valQ es j) k
end DL
set_option Elab.async false
set_option linter.all false
set_option maxRecDepth 100000
set_option maxHeartbeats 4000000
namespace DL
open PySem PySem.Spec PyProof.Rows L2
/-! ### dict comprehensions whose keys are tuples -/
end DL
set_option Elab.async false
set_option linter.all false
set_option maxRecDepth 100000
set_option maxHeartbeats 4000000
namespace DL
open PySem PySem.Spec PyProof.Rows L2
/-! ### {k: v for x in iter if ..}, the keys tuples -/
noncomputable def dcompQ (t : Tg) (tt : TBD) (tk tv : TD) (ρ : List Sl) : List D → List (D × D) → (List (D × D) → Prop) → Prop
  | [], acc, k => k acc
  | d :: ds, acc, k => tgD t d ρ fun ρ1 => tt ρ1 fun b => if b = true then tk ρ1 fun y => tv ρ1 fun z => (keyT y).isSome ∧ acc.length < sizeLine ∧ dcompQ t tt tk tv ρ ds (putQ acc y z) k else dcompQ t tt tk tv ρ ds acc k
noncomputable def dcQ (t : Tg) (I : TLD) (tt : TBD) (tk tv : TD) (vs : List Nat) : TD := fun ρ k => I ρ fun ds => dcompQ t tt tk tv (wipeS ρ vs) ds [] fun es => k (.dic true es)
end DL
set_option Elab.async false
set_option linter.all false
set_option maxRecDepth 100000
set_option maxHeartbeats 4000000
/-! ### sorted(d): the keys of a dict, of any one kind -/
namespace DL
open PySem PySem.Spec PyProof.Rows L2 PySem.W
mutual
/-- no list, no dict within -/
noncomputable def D.fla : D → Bool
  | .non | .bl _ | .int _ | .str _ => true
  | .tup ds => D.flaL ds
  | _ => false
noncomputable def D.flaL : List D → Bool
  | [] => true
  | d :: ds => D.fla d && D.flaL ds
end
section
variable {X : Cx} {pins : List (Addr × Obj)} {σ : L2.St} {H : Hp} {s : Shared} {G : Gh}
mutual
theorem Dt.readsF (I : Inv X pins σ H s) : ∀ (d : D) (v : V) (u : Value), d.fla = true → Dt X.K G H d v → RelV v u → Reads s.heap u d.pw []
  | .non, v, u, _, h, r => by obtain rfl := h; obtain rfl : u = .none := r; exact .none
  | .bl b, v, u, _, h, r => by obtain rfl := h; obtain rfl : u = .bool b := r; exact .bool b
  | .int i, v, u, _, h, r => by obtain rfl := h; obtain ⟨t, rfl⟩ := r; exact .int i t
  | .str x, v, u, _, h, r => by obtain rfl := h; obtain ⟨t, rfl⟩ := r; exact .str x t
  | .tup ds, v, u, c, h, r => by
    obtain ⟨a, xs, rfl, ha, hd⟩ := h
    cases r
    obtain ⟨its, rv, ⟨o, ho, hc, n', hda⟩, _⟩ := I.tuple (.inl (.inl ha))
    exact .tuple ho hc hda (Dt.readsFL I ds xs its (by simpa only [D.fla] using c) hd rv)
  | .lst _, v, u, c, h, r => by simp [D.fla] at c
  | .dic _ _, v, u, c, h, r => by simp [D.fla] at c
  | .ins _ _, v, u, c, h, r => by simp [D.fla] at c
  | .glb _, v, u, c, h, r => by simp [D.fla] at c
  | .bag, v, u, c, h, r => by simp [D.fla] at c
  | .lock _ _, v, u, c, h, r => by simp [D.fla] at c
  | .at _ _, v, u, c, h, r => by simp [D.fla] at c
theorem Dt.readsFL (I : Inv X pins σ H s) : ∀ (ds : List D) (vs : List V) (us : List Value), D.flaL ds = true → DtL X.K G H ds vs → Vals vs us → ReadsAll s.heap us (D.pwL ds) []
  | [], vs, us, _, h, r => by obtain rfl := h; cases r; exact .nil
  | d :: ds, vs, us, c, h, r => by
    obtain ⟨v, vs, rfl, h1, h2⟩ := h
    simp only [D.flaL, Bool.and_eq_true] at c
    cases r with
    | cons r1 r2 =>
      have := ReadsAll.cons (Dt.readsF I d v _ c.1 h1 r1) (Dt.readsFL I ds vs _ c.2 h2 r2)
      exact this
end
end
/-- what sorted makes of data -/
noncomputable def srtD (ds : List D) : List D := ds.mergeSort (dataLe false D.pw)
/-- data that can be sorted -/
noncomputable def SrtOk (m : Nat) (ds : List D) : Prop := (∀ d ∈ ds, d.fla = true ∧ d.pw.depth ≤ m) ∧ (ds.length < 2 ∨ (AllAlike (ds.map D.pw) ∧ Sortable (ds.map D.pw)))
theorem each_dtl {K : PySem.W.Frag} {G : Gh} {H : Hp} : ∀ {ds : List D} {us : List Value}, EachIs (fun u d => ∃ x, Dt K G H d x ∧ RelV x u) us ds → ∃ xs, DtL K G H ds xs ∧ Vals xs us
  | [], _, h => by cases h; exact ⟨[], rfl, .nil⟩
  | d :: ds, _, h => by
    cases h with
    | cons h1 h2 =>
      obtain ⟨x, d1, r1⟩ := h1
      obtain ⟨xs, d2, r2⟩ := each_dtl h2
      exact ⟨x :: xs, ⟨x, xs, rfl, d1, d2⟩, .cons r1 r2⟩
/-- sorted(a dict), b: its keys are tuples -/
noncomputable def srtF (b : Bool) (t : TD) : TLD := fun ρ k => t ρ fun d => ∃ es, d = .dic b es ∧ SrtOk 100 (es.map Prod.fst) ∧ k (srtD (es.map Prod.fst))
end DL
set_option Elab.async false
set_option linter.all false
set_option maxRecDepth 100000
set_option maxHeartbeats 4000000
/-! ### {**d, k: v} -/
namespace DL
open PySem PySem.Spec PyProof.Rows L2
/-- {**d, k: v} -/
noncomputable def starT (td tk tv : TD) : TD := fun ρ k => td ρ fun d => ∃ es, d = .dic false es ∧ es.length + 1 ≤ sizeLine ∧ tk ρ fun y => tv ρ fun z => (keyD y).isSome ∧ k (.dic false (mergeD [] (es ++ [(y, z)])))
end DL
set_option Elab.async false
set_option linter.all false
set_option maxRecDepth 100000
set_option maxHeartbeats 4000000
/-! ### x != {} -/
namespace DL
open PySem PySem.Spec PyProof.Rows L2 PySem.W
end DL
set_option Elab.async false
set_option linter.all false
set_option maxRecDepth 100000
set_option maxHeartbeats 4000000
/-! ### y = [e for t in it], e with effects -/
namespace DL
open PySem PySem.Spec PyProof.Rows L2
section
variable {F : Fr} {G : Gh} {H : Hp} {σ : L2.St} {ρ : List Sl} {L : List Addr}
theorem Slots.set {s : Sl} {o : Option V} (h : SlR F G H s o []) : ∀ {ρ : List Sl} {σ : L2.St} {L : List Addr} (i : Nat), Slots F G H ρ σ L → ∃ L', Slots F G H (ρ.set i s) (σ.set i o) L' ∧ L'.Sublist L
  | [], _, _, i, w => by obtain ⟨rfl, rfl⟩ := w; exact ⟨[], ⟨rfl, rfl⟩, .slnil⟩
  | s0 :: ρ, _, _, 0, w => by
    obtain ⟨o0, r, M, N, rfl, h1, h2, rfl⟩ := w
    exact ⟨N, ⟨o, r, [], N, rfl, h, h2, rfl⟩, List.sublist_append_right M N⟩
  | s0 :: ρ, _, _, i + 1, w => by
    obtain ⟨o0, r, M, N, rfl, h1, h2, rfl⟩ := w
    obtain ⟨N', k1, k2⟩ := Slots.set h i h2
    exact ⟨M ++ N', ⟨o0, _, M, N', rfl, h1, k1, rfl⟩, List.Sublist.append (List.Sublist.refl M) k2⟩
theorem RelL.set1 {s : Sl} {o : Option V} (r : RelL F G H σ ρ L) (h : SlR F G H s o []) (i : Nat) : ∃ L', RelL F G H (σ.set i o) (ρ.set i s) L' ∧ ∀ p ∈ L', p ∈ L := by
  obtain ⟨r, w, n⟩ := r
  obtain ⟨L', k1, k2⟩ := Slots.set h i w
  have n' := n.sublist k2
  exact ⟨L', ⟨⟨r.bg, r.bi, r.ob, r.oi, r.sub, r.new, r.tr, r.ext, r.pn, L', k1, n'⟩, k1, n'⟩, fun p hp => k2.subset hp⟩
theorem RelL.putA : ∀ {is : List Nat} {ds : List D} {vs : List V} {σ : L2.St} {ρ : List Sl} {L : List Addr}, RelL F G H σ ρ L → DtL F.K G H ds vs → ∃ L', RelL F G H (setA is vs σ) (DL.putA is ds ρ) L' ∧ ∀ p ∈ L', p ∈ L
  | [], ds, vs, σ, ρ, L, r, h => by cases ds <;> cases vs <;> exact ⟨L, r, fun _ h => h⟩
  | i :: is, [], vs, σ, ρ, L, r, h => by
    obtain rfl : vs = [] := h
    exact ⟨L, r, fun _ h => h⟩
  | i :: is, d :: ds, vs, σ, ρ, L, r, h => by
    obtain ⟨x, w, rfl, h1, h2⟩ := h
    obtain ⟨L1, r1, k1⟩ := r.set1 (s := .dat d) (o := some x) ⟨rfl, x, rfl, h1⟩ i
    obtain ⟨L2, r2, k2⟩ := RelL.putA (is := is) (ds := ds) (vs := w) r1 h2
    exact ⟨L2, r2, fun p hp => k1 p (k2 p hp)⟩
theorem RelL.wipe (r : RelL F G H σ ρ L) : ∀ vs, ∃ L', RelL F G H (L2.wipe σ vs) (wipeS ρ vs) L' ∧ ∀ p ∈ L', p ∈ L
  | [] => ⟨L, r, fun _ h => h⟩
  | v :: vs => by
    obtain ⟨L1, r1, k1⟩ := RelL.wipe r vs
    obtain ⟨L2, r2, k2⟩ := r1.set1 (s := .un) (o := none) rfl v
    exact ⟨L2, r2, fun p hp => k1 p (k2 p hp)⟩
end
noncomputable def compE (t : Tg) (te : TDE) (vs : List Nat) : List D → List Sl → List D → (List D → List Sl → Prop) → Prop
  | [], ρ, acc, k => k acc ρ
  | d :: ds, ρ, acc, k => tgD t d ρ fun ρ1 => te ρ1 fun e ρ' => compE t te vs ds (wipeS ρ' vs) (acc ++ [e]) k
noncomputable def lcE (i : Nat) (t : Tg) (I : TLD) (te : TDE) (vs : List Nat) : TSD := fun k ρ => I ρ fun ds => ds.length ≤ sizeLine ∧ compE t te vs ds (wipeS ρ vs) [] fun acc ρ' => k.nx ((wipeS ρ' vs).set i (.dat (.lst acc)))
end DL
set_option Elab.async false
set_option linter.all false
set_option maxRecDepth 100000
set_option maxHeartbeats 4000000
/-! ### isinstance(a dict of any kind, a built-in type) -/
namespace DL
open PySem PySem.Spec PyProof.Rows L2
noncomputable def isiDT (T : String) (t : TD) : TD := fun ρ k => t ρ fun d => ∃ b es, d = .dic b es ∧ T ∈ tyTs ∧ k (.bl (isT "dict" T))
end DL
set_option Elab.async false
set_option linter.all false
set_option maxRecDepth 100000
set_option maxHeartbeats 4000000
/-! ### a == b of two dicts whose keys are tuples -/
namespace DL
open PySem PySem.Spec PyProof.Rows L2 PySem.W
open PySem.SeqAt (EqIn EqAt)
section
variable {prog : Program} {w : World} {K : Type} [DecidableEq K] {knd : HeapKind prog w K} {A : Around} {E : Value → Shared → Prop} {s : Shared}
inductive HitsH (prog : Program) (w : World) {K : Type} [DecidableEq K] (A : Around) (s : Shared) (kb : List (K × Addr × Value)) : List (K × Addr × Value) → Bool → Prop
  | nil : HitsH prog w A s kb [] true
  | miss {k : K} {a : Addr} {v : Value} {r : List (K × Addr × Value)} : atKey kb k = none → HitsH prog w A s kb ((k, a, v) :: r) false
  | hit {k : K} {a c : Addr} {v y : Value} {r : List (K × Addr × Value)} {e b : Bool} : atKey kb k = some (c, y) → EqIn prog w A s v y e → HitsH prog w A s kb r b → HitsH prog w A s kb ((k, a, v) :: r) (e && b)
theorem HitsH.inv {kb : List (K × Addr × Value)} {k : K} {a : Addr} {v : Value} {r : List (K × Addr × Value)} {b : Bool} (h : HitsH prog w A s kb ((k, a, v) :: r) b) :
    (atKey kb k = none ∧ b = false) ∨ ∃ c y e b', atKey kb k = some (c, y) ∧ EqIn prog w A s v y e ∧ HitsH prog w A s kb r b' ∧ b = (e && b') := by
  cases h with
  | miss hn => exact .inl ⟨hn, rfl⟩
  | hit hy he hr => exact .inr ⟨_, _, _, _, hy, he, hr, rfl⟩
theorem samePairsH {nm : String} {a b : Addr} {ka kb : List (K × Addr × Value)} {r : Bool} {Q : Bool → Shared → Prop} (hu : knd.room A) (ha : (a == sysModules) = false) (hb : (b == sysModules) = false)
    (da : s.heap.DictOfH knd a ka) (db : s.heap.DictOfH knd b kb) (hits : ka.length = kb.length → HitsH prog w A s kb ka r) (h : Q (ka.length == kb.length && r) s) :
    wpAny (model prog w) A (Builtin.Dict.samePairs nm a b) Q E s := by
  obtain ⟨oa, es, ep, hoa, _, hda, hea, hia, _⟩ := da
  obtain ⟨ob, es', ep', hob, _, hdb, heb, hib, hnb⟩ := db
  have hla : ka.length = es.size := (size_of_entries hea).symm
  have hlb : kb.length = es'.size := (size_of_entries heb).symm
  rw [hla, hlb] at h
  unfold Builtin.Dict.samePairs Builtin.Dict.showsAll
  rw [if_neg (show ¬ (a == sysModules) = true by rw [ha]; exact Bool.false_ne_true), if_neg (show ¬ (b == sysModules) = true by rw [hb]; exact Bool.false_ne_true)]
  refine wpAny_bind (wpAny_pure (wpAny_bind (wpAny_pure ?_)))
  refine wpAny_bind (wpAny_dictEntries hoa hda ?_)
  dsimp only
  refine wpAny_bind (wpAny_dictEntries hob hdb ?_)
  by_cases hsz : es.size = es'.size
  case neg =>
    rw [if_pos (by simpa using hsz)]
    have hbf : (es.size == es'.size) = false := by simpa using hsz
    rw [hbf, Bool.false_and] at h
    exact wpAny_bind (wpAny_rule (wpAny_pure h))
  case pos =>
    have h' : Q r s := by simpa [hsz] using h
    have hits' := hits (by rw [hla, hlb]; exact hsz)
    rw [if_neg (by rw [hsz]; simp)]
    refine wpAny_bind (wpAny_dictEpoch hoa hda ?_)
    refine wpAny_bind ?_
    rw [Std.Legacy.Range.forIn_eq_forIn_range']
    simp only [Std.Legacy.Range.size, Nat.sub_zero, Nat.add_sub_cancel, Nat.div_one]
    refine wpAny_forIn_list _
      (fun rest q s' => s' = s ∧ q = (none, ()) ∧ ∃ i, rest = List.range' i (es.size - i) ∧ i ≤ es.size ∧ HitsH prog w A s kb (ka.drop i) r)
      _ ?_ ?_ _ _ ⟨rfl, rfl, 0, by simp, Nat.zero_le _, hits'⟩
    · rintro x rest q s' ⟨rfl, rfl, i, hr, hi, hpre⟩
      have hlt : i < es.size := by
        rcases Nat.lt_or_ge i es.size with h | h
        · exact h
        · rw [Nat.sub_eq_zero_of_le h] at hr; simp at hr
      obtain ⟨rfl, hrest⟩ : x = i ∧ rest = List.range' (i + 1) (es.size - (i + 1)) := by
        have e : es.size - i = (es.size - (i + 1)) + 1 := by omega
        rw [e, List.range'_succ] at hr
        injection hr with h1 h2
        exact ⟨h1, h2⟩
      refine wpAny_bind (wpAny_dictEntries hoa hda ?_)
      have hlt' : x < ka.length := by rw [hla]; exact hlt
      obtain ⟨k, c, v, hkv⟩ : ∃ k c v, ka[x] = (k, c, v) := ⟨_, _, _, rfl⟩
      have hdrop : ka.drop x = (k, c, v) :: ka.drop (x + 1) := by rw [← hkv]; exact List.drop_eq_getElem_cons hlt'
      have hin : (k, c, v) ∈ ka := by rw [← hkv]; exact List.getElem_mem hlt'
      rw [entry_at hea x, show ka[x]? = some (k, c, v) from by rw [List.getElem?_eq_getElem hlt', hkv]]
      rw [hdrop] at hpre
      have hkey := hia _ hin
      show wpAny _ _ (holding [Value.ref c, v] _ >>= _) _ _ _
      refine wpAny_bind (wpAny_holding (wpAny_bind (wpAny_dictFind_heap hu hkey hob hdb heb hib hnb ?_ ?_)))
      · intro hno
        have hn : atKey kb k = none := atKey_none_of_get hno
        rcases hpre.inv with ⟨_, er⟩ | ⟨_, y, _, _, hy, _⟩
        · rw [er] at h'
          refine wpAny_pure ?_
          show wpAny _ _ (if (!false) = true then _ else _) _ _ _
          rw [if_pos (by decide)]
          exact wpAny_pure (wpAny_pure h')
        · rw [hn] at hy; exact nomatch hy
      · intro j p hj
        have hv' : atKey kb k = some p := atKey_of_get hnb hj
        refine wpAny_bind (wpAny_dictEntries hob hdb ?_)
        rw [entry_at heb j, hj]
        rcases hpre.inv with ⟨hn, _⟩ | ⟨c', y, e, b', hy, he, hrr, er⟩
        · rw [hv'] at hn; exact nomatch hn
        · obtain rfl : p = (c', y) := Option.some.inj (hv'.symm.trans hy)
          refine wpAny_holding (he _ _ ?_)
          cases e with
          | false =>
            rw [er, Bool.false_and] at h'
            show wpAny _ _ (if (!false) = true then _ else _) _ _ _
            rw [if_pos (by decide)]
            exact wpAny_pure (wpAny_pure h')
          | true =>
            rw [Bool.true_and] at er
            rw [← er] at hrr
            show wpAny _ _ (if (!true) = true then _ else _) _ _ _
            rw [if_neg (by decide)]
            refine wpAny_bind (wpAny_dictEpoch hoa hda ?_)
            rw [if_neg (by simp)]
            exact wpAny_pure ⟨rfl, rfl, x + 1, hrest, hlt, hrr⟩
    · rintro q s' ⟨rfl, rfl, i, hr, hi, hpre⟩
      have hin : i = es.size := by
        rcases Nat.lt_or_ge i es.size with h | h
        · have e : es.size - i = (es.size - (i + 1)) + 1 := by omega
          rw [e, List.range'_succ] at hr; exact nomatch hr
        · exact Nat.le_antisymm hi h
      refine wpAny_pure ?_
      rw [hin, ← hla, List.drop_length] at hpre
      cases hpre
      exact h'
theorem eqInH {a b : Addr} {ka kb : List (K × Addr × Value)} {r : Bool} {Q : Value → Shared → Prop} (hr : knd.room A.in1) (ha : (a == sysModules) = false) (hb : (b == sysModules) = false) (da : s.heap.DictOfH knd a ka) (db : s.heap.DictOfH knd b kb) (hu : A.units < cLine) (hits : ka.length = kb.length → HitsH prog w A.in1 s kb ka r) (h : Q (.bool (ka.length == kb.length && r)) s) :
    wpAny (model prog w) A (compareOp .Eq (.ref a) (.ref b)) Q E s := by
  refine wpAny_richCompare_same_room (op := .Eq) da.typeIs db.typeIs PySem.F.slot_dict_eq (wpAny_call_entry PySem.F.slot_dict_eq da.typeIs PySem.F.entry_dict_eq ?_ (PySem.F.args_dict_eq_2 _ _)) hu
  show wpAny _ _ (Builtin.Dict.dictSlotArgs "__eq__" ⟨[.ref a, .ref b], []⟩ >>= _) _ _ s
  refine wpAny_bind ?_
  unfold Builtin.Dict.dictSlotArgs
  refine wpAny_bind (wpAny_notOrdered_dict da.typeIs ?_)
  show wpAny _ _ (pure (Value.ref a, Value.ref b)) _ _ s
  refine wpAny_pure ?_
  refine wpAny_bind (wpAny_isInstance (T := "dict") db.typeIs PySem.F.sub_dict_dict ?_)
  simp only [Bool.not_true, Bool.false_eq_true, if_false]
  refine wpAny_bind (wpAny_pure (wpAny_bind (wpAny_pure ?_)))
  refine wpAny_bind (samePairsH hr ha hb da db hits ?_)
  refine wpAny_pure ⟨_, rfl, ?_, ?_⟩
  · exact fun x => nomatch x
  · simpa using h
theorem HitsH.of {kb : List (K × Addr × Value)} {e : K → Bool} : ∀ (r : List (K × Addr × Value)), (∀ k a v c y, (k, a, v) ∈ r → atKey kb k = some (c, y) → EqIn prog w A s v y (e k)) →
    HitsH prog w A s kb r (r.all fun p => (atKey kb p.1).isSome && e p.1)
  | [], _ => .nil
  | (k, a, v) :: r, h => by
    cases hv : atKey kb k with
    | none =>
      have q : (((k, a, v) :: r).all fun p => (atKey kb p.1).isSome && e p.1) = false := by simp [hv]
      rw [q]
      exact .miss hv
    | some p =>
      have q : (((k, a, v) :: r).all fun p => (atKey kb p.1).isSome && e p.1) = (e k && r.all fun p => (atKey kb p.1).isSome && e p.1) := by simp [hv]
      rw [q]
      exact .hit hv (h k a v p.1 p.2 List.mem_cons_self hv) (HitsH.of r fun k' a' v' c' y' hm hv' => h k' a' v' c' y' (List.mem_cons_of_mem _ hm) hv')
end
end DL
set_option Elab.async false
set_option linter.all false
set_option maxRecDepth 100000
set_option maxHeartbeats 4000000
/-! ### a == b of ints, of dicts and lists of these, within one another -/
namespace DL
open PySem PySem.Spec PyProof.Rows L2 PySem.W
open PySem.SeqAt (EqIn EqAt)
theorem paired_mem {α β : Type} {F : α → β → Prop} {l : List α} {m : List β} (h : Paired F l m) : ∀ q ∈ m, ∃ p ∈ l, F p q := by
  induction h with
  | nil => intro q hq; exact nomatch hq
  | cons h t ih =>
    intro q hq
    rcases List.mem_cons.mp hq with rfl | hq
    · exact ⟨_, List.mem_cons_self, h⟩
    · obtain ⟨p, hp, f⟩ := ih q hq
      exact ⟨p, List.mem_cons_of_mem _ hp, f⟩
theorem rd_fn {H : Hp} {a : Addr} {u v : HO} (hu : ∀ o q, u ≠ .frz o q) (hv : ∀ o q, v ≠ .frz o q) (h : Rd H a u) (g : Rd H a v) : u = v := by
  rcases h with h | ⟨o, h⟩ <;> rcases g with g | ⟨o', g⟩ <;> rw [h] at g <;> cases g
  · rfl
  · exact absurd rfl (hu _ _)
  · exact absurd rfl (hv _ _)
  · rfl
theorem valV_mem {κ : Type} [DecidableEq κ] {k : κ} {v : V} : ∀ {l : List (κ × V)}, (l.map (·.1)).Nodup → (k, v) ∈ l → valV l k = some v
  | [], _, h => nomatch h
  | p :: l, n, h => by
    rw [List.map_cons, List.nodup_cons] at n
    rcases List.mem_cons.mp h with e | h
    · subst e; exact valV_pos rfl
    · by_cases q : p.1 = k
      · exact absurd (by rw [q]; exact List.mem_map.mpr ⟨_, h, rfl⟩) n.1
      · rw [valV_neg q]; exact valV_mem n.2 h
theorem kt_keys {H : Hp} {kvs : List (List Key × V)} {xs : List (List Key × Addr × Value)} (r : KT H kvs xs) : kvs.map (·.1) = xs.map (·.1) := by
  induction r with
  | nil => rfl
  | cons h t ih => rw [List.map_cons, List.map_cons, ih, h.1]
theorem all_keys {κ α β : Type} {l : List (κ × α)} {m : List (κ × β)} (e : l.map (·.1) = m.map (·.1)) (f : κ → Bool) : (l.all fun p => f p.1) = m.all fun p => f p.1 := by
  have a : (l.all fun p => f p.1) = (l.map (·.1)).all f := by rw [List.all_map]; rfl
  have b : (m.all fun p => f p.1) = (m.map (·.1)).all f := by rw [List.all_map]; rfl
  rw [a, b, e]
inductive EqV (H : Hp) : Nat → V → V → Bool → Prop
  | int {n : Nat} {i j : Int} : EqV H n (.int i) (.int j) (decide (i = j))
  | dK {n : Nat} {a c : Addr} {l l' : List (Key × V)} {e : Key → Bool} : Rd H a (.dK l) → Rd H c (.dK l') → (∀ k v y, (k, v) ∈ l → valV l' k = some y → EqV H n v y (e k)) →
      EqV H (n + 1) (.ref a) (.ref c) (l.length == l'.length && l.all fun p => (valV l' p.1).isSome && e p.1)
  | dT {n : Nat} {a c : Addr} {l l' : List (List Key × V)} {e : List Key → Bool} : Rd H a (.dT l) → Rd H c (.dT l') → (∀ k v y, (k, v) ∈ l → valV l' k = some y → EqV H n v y (e k)) →
      EqV H (n + 1) (.ref a) (.ref c) (l.length == l'.length && l.all fun p => (valV l' p.1).isSome && e p.1)
section
variable {X : Cx} {pins : List (Addr × Obj)} {σ : L2.St} {H : Hp} {s : Shared}
theorem EqV.same {P : Program} {w : World} {h : Heap} (ok : HOk P w H h) {n : Nat} {x y : V} {b : Bool} (q : EqV H n x y b) : x = y → b = true := by
  induction q with
  | int => intro z; injection z with z; exact decide_eq_true z
  | @dK n a c l l' e r r' _ ih =>
    intro z
    injection z with z
    subst z
    have el := rd_fn (u := .dK l) (v := .dK l') (fun _ _ z => nomatch z) (fun _ _ z => nomatch z) r r'
    injection el with el
    subst el
    obtain ⟨_, _, vs, kv, o, es, ep, _, _, _, _, _, nd⟩ := dk_rd ok r
    rw [← kv.keys] at nd
    simp only [beq_self_eq_true, Bool.true_and, List.all_eq_true, Bool.and_eq_true]
    intro p hp
    have hv := valV_mem nd (show (p.1, p.2) ∈ l from hp)
    exact ⟨by rw [hv]; rfl, ih p.1 p.2 p.2 hp hv rfl⟩
  | @dT n a c l l' e r r' _ ih =>
    intro z
    injection z with z
    subst z
    have el := rd_fn (u := .dT l) (v := .dT l') (fun _ _ z => nomatch z) (fun _ _ z => nomatch z) r r'
    injection el with el
    subst el
    obtain ⟨_, _, xs, kt, dd⟩ := dt_rd ok r
    have nd := dd.nodup
    rw [← kt_keys kt] at nd
    simp only [beq_self_eq_true, Bool.true_and, List.all_eq_true, Bool.and_eq_true]
    intro p hp
    have hv := valV_mem nd (show (p.1, p.2) ∈ l from hp)
    exact ⟨by rw [hv]; rfl, ih p.1 p.2 p.2 hp hv rfl⟩
theorem eq_dK {n : Nat} {a c : Addr} {l l' : List (Key × V)} {e : Key → Bool} (I : Inv X pins σ H s) (r : Rd H a (.dK l)) (r' : Rd H c (.dK l'))
    (ih : ∀ k v y, (k, v) ∈ l → valV l' k = some y → ∀ A v' u', RelV v v' → RelV y u' → A.units + n + 2 < cLine → EqIn X.prog X.w A s v' u' (e k)) {A : Around} (hu : A.units + (n + 1) + 2 < cLine) {E : Value → Shared → Prop} {Q : Value → Shared → Prop}
    (q : Q (.bool (l.length == l'.length && l.all fun p => (valV l' p.1).isSome && e p.1)) s) : wpAny (model X.prog X.w) A (compareOp .Eq (.ref a) (.ref c)) Q E s := by
  obtain ⟨_, ha, vs, kv, da⟩ := dk_rd I.hok r
  obtain ⟨_, hc, vs', kv', dc⟩ := dk_rd I.hok r'
  have hf : (l.all fun p => (valV l' p.1).isSome && e p.1) = vs.all fun p => (valueAt vs' p.1).isSome && e p.1 := by
    rw [all_keys kv.keys fun k => (valV l' k).isSome && e k]
    congr 1
    funext p
    rw [(kv'.val p.1).isSome_eq]
  rw [hf, kv.length, kv'.length] at q
  refine keq_eqIn ha hc da dc (by omega) (fun _ => KeqHitsIn.of _ fun k v y hm hv => ?_) q
  obtain ⟨p, hp, e1, e2⟩ := paired_mem kv _ hm
  have ry := kv'.val k
  rw [hv] at ry
  cases hy : valV l' k with
  | none => rw [hy] at ry; exact ry.elim
  | some y0 =>
    rw [hy] at ry
    obtain ⟨pk, pv⟩ := p
    obtain rfl : pk = k := e1
    exact ih pk pv y0 hp hy A.in1 v y e2 ry (by show A.units + 1 + n + 2 < cLine; omega)
theorem eq_dT {n : Nat} {a c : Addr} {l l' : List (List Key × V)} {e : List Key → Bool} (I : Inv X pins σ H s) (r : Rd H a (.dT l)) (r' : Rd H c (.dT l'))
    (ih : ∀ k v y, (k, v) ∈ l → valV l' k = some y → ∀ A v' u', RelV v v' → RelV y u' → A.units + n + 2 < cLine → EqIn X.prog X.w A s v' u' (e k)) {A : Around} (hu : A.units + (n + 1) + 2 < cLine) {E : Value → Shared → Prop} {Q : Value → Shared → Prop}
    (q : Q (.bool (l.length == l'.length && l.all fun p => (valV l' p.1).isSome && e p.1)) s) : wpAny (model X.prog X.w) A (compareOp .Eq (.ref a) (.ref c)) Q E s := by
  obtain ⟨_, ha, vs, kv, da⟩ := dt_rd I.hok r
  obtain ⟨_, hc, vs', kv', dc⟩ := dt_rd I.hok r'
  have iso : ∀ k, (valV l' k).isSome = (atKey vs' k).isSome := fun k => by rw [(kv'.val k).isSome_eq, Option.isSome_map]
  have hf : (l.all fun p => (valV l' p.1).isSome && e p.1) = vs.all fun p => (atKey vs' p.1).isSome && e p.1 := by
    rw [all_keys (kt_keys kv) fun k => (valV l' k).isSome && e k]
    congr 1
    funext p
    rw [iso]
  rw [hf, Paired.length kv, Paired.length kv'] at q
  refine eqInH (tupleKind_room_in1 (by omega)) ha hc da dc (by omega) (fun _ => HitsH.of _ fun k b v c' y hm hv => ?_) q
  obtain ⟨p, hp, e1, e0, e2⟩ := paired_mem kv _ hm
  have ry := kv'.val k
  rw [hv] at ry
  cases hy : valV l' k with
  | none => rw [hy] at ry; exact ry.elim
  | some y0 =>
    rw [hy] at ry
    obtain ⟨pk, pv⟩ := p
    obtain rfl : pk = k := e1
    exact ih pk pv y0 hp hy A.in1 v y e2 ry (by show A.units + 1 + n + 2 < cLine; omega)
theorem EqV.at (I : Inv X pins σ H s) {n : Nat} {x y : V} {b : Bool} (q : EqV H n x y b) : ∀ A v u, RelV x v → RelV y u → A.units + n + 2 < cLine → EqIn X.prog X.w A s v u b := by
  induction q with
  | @int n i j =>
    intro A v u rx ry hu
    obtain ⟨as, r1⟩ := Dp.reads I (.int i) (.int i) v (Dp.int i) rx
    obtain ⟨bs, r2⟩ := Dp.reads I (.int j) (.int j) u (Dp.int j) ry
    intro E Q hq
    exact SeqAt.eqBoolOverData X.prog X.w A E s v u (.int i) (.int j) as bs Q r1 r2 rfl rfl (by show A.units + 0 < cLine; omega) (by rw [show PyData.eqv (.int i) (.int j) = decide (i = j) from rfl]; exact hq)
  | @dK n a c l l' e r r' h ih =>
    intro A v u rx ry hu
    obtain rfl : v = .ref a := rx
    obtain rfl : u = .ref c := ry
    by_cases ne : a = c
    · have t := (EqV.dK r r' h).same I.hok (by rw [ne])
      rw [t, ne]
      exact (SeqAt.EqAt.same _).inModel _ _
    · exact SeqAt.EqIn.of_refs ne fun E Q hq => eq_dK I r r' ih hu hq
  | @dT n a c l l' e r r' h ih =>
    intro A v u rx ry hu
    obtain rfl : v = .ref a := rx
    obtain rfl : u = .ref c := ry
    by_cases ne : a = c
    · have t := (EqV.dT r r' h).same I.hok (by rw [ne])
      rw [t, ne]
      exact (SeqAt.EqAt.same _).inModel _ _
    · exact SeqAt.EqIn.of_refs ne fun E Q hq => eq_dT I r r' ih hu hq
end
end DL
set_option Elab.async false
set_option linter.all false
set_option maxRecDepth 100000
set_option maxHeartbeats 4000000
/-! ### a == b of data: ints, dicts of these, within one another -/
namespace DL
open PySem PySem.Spec PyProof.Rows L2 PySem.W
theorem kD_inj' {a b : Key} (e : kD a = kD b) : a = b := by
  cases a with
  | inl i => cases b with
    | inl j => have e' : D.int i = D.int j := e; injection e' with e'; rw [e']
    | inr y => exact nomatch (show D.int i = D.str y from e)
  | inr x => cases b with
    | inl j => exact nomatch (show D.str x = D.int j from e)
    | inr y => have e' : D.str x = D.str y := e; injection e' with e'; rw [e']
theorem kDs_inj' : ∀ {a b : List Key}, a.map kD = b.map kD → a = b
  | [], [], _ => rfl
  | [], _ :: _, e => by simp at e
  | _ :: _, [], e => by simp at e
  | x :: xs, y :: ys, e => by
    rw [List.map_cons, List.map_cons] at e
    injection e with e1 e2
    rw [kD_inj' e1, kDs_inj' e2]
end DL
set_option Elab.async false
set_option linter.all false
set_option maxRecDepth 100000
set_option maxHeartbeats 4000000
/-! ### isinstance(x, C), x == y and x != y, C a class of the text with an __eq__ of its own -/
namespace DL
open PySem PySem.Spec PyProof.Rows L2 PySem.W C8
noncomputable def isiCT (C : Addr) (t : TD) : TD := fun ρ k => t ρ fun d => (∃ fs, d = .ins C fs) ∧ k (.bl true)
end DL
set_option Elab.async false
set_option linter.all false
set_option maxRecDepth 100000
set_option maxHeartbeats 4000000
/-! ### x != y by the class's own __eq__ -/
namespace DL
open PySem PySem.Spec PyProof.Rows L2 PySem.W
noncomputable def neOD (C : Addr) (R : RD) : OD := fun x y k => (∃ fs, x = .ins C fs) ∧ (∃ gs, y = .ins C gs) ∧ R [x, y] fun d => ∃ c, d = .bl c ∧ k (.bl (!c))
end DL
set_option Elab.async false
set_option linter.all false
set_option maxRecDepth 100000
set_option maxHeartbeats 4000000
/-! ### x[k] = v, x an owned dict with tuple keys, k a tuple as data -/
namespace DL
open PySem PySem.Spec PyProof.Rows L2 PySem.W
noncomputable def dputQ (i : Nat) (tk tv : TD) : TSD := fun k ρ => ∃ es, ρ[i]? = some (.tr (.m true (es.map dE))) ∧ tv ρ fun d => tk ρ fun y => (∃ ys, y = .tup ys ∧ (keysD ys).isSome) ∧ es.length < sizeLine ∧ k.nx (ρ.set i (.tr (.m true ((putQ es y d).map dE))))
end DL
set_option Elab.async false
set_option linter.all false
set_option maxRecDepth 100000
set_option maxHeartbeats 4000000
/-! ### list(range(a, b)) -/
namespace DL
open PySem PySem.Spec PyProof.Rows L2 PySem.W
/-- list(range(a, b)) -/
noncomputable def lstRg2F (ta tb : TD) : TLD := fun ρ k => ta ρ fun d => tb ρ fun e => ∃ a n : Nat, d = .int a ∧ e = .int n ∧ a ≤ 2 ^ 24 ∧ n ≤ 2 ^ 24 ∧ k ((List.range (n - a)).map fun i => .int ((a + i : Nat) : Int))
end DL
set_option Elab.async false
set_option linter.all false
set_option maxRecDepth 100000
set_option maxHeartbeats 4000000
/-! ### dict(d), d with tuple keys whose hashes are unlike -/
namespace DL
open PySem PySem.Spec PyProof.Rows L2 PySem.W
end DL
set_option Elab.async false
set_option linter.all false
set_option maxRecDepth 100000
set_option maxHeartbeats 4000000
/-! ### dict(d) as data -/
namespace DL
open PySem PySem.Spec PyProof.Rows L2 PySem.W
/-- the hash of a tuple of ints -/
noncomputable def hI (j : List Int) : Int := reduceHash (Builtin.Tuple.tupleHashOf (j.map hashInt))
end DL
set_option Elab.async false
set_option linter.all false
set_option maxRecDepth 100000
set_option maxHeartbeats 4000000
/-! ### dict(d) as data, the keys tuples of ints -/
namespace DL
open PySem PySem.Spec PyProof.Rows L2 PySem.W
end DL
set_option Elab.async false
set_option linter.all false
set_option maxRecDepth 100000
set_option maxHeartbeats 4000000
/-! ### sorted(a list of data of any one kind) -/
namespace DL
open PySem PySem.Spec PyProof.Rows L2 PySem.W
theorem dtl_each {K : PySem.W.Frag} {G : Gh} {H : Hp} : ∀ {ds : List D} {xs : List V} {us : List Value}, DtL K G H ds xs → Vals xs us → EachIs (fun u d => ∃ x, Dt K G H d x ∧ RelV x u) us ds
  | [], _, _, h, r => by obtain rfl := h; cases r; exact .nil
  | d :: ds, _, _, h, r => by
    obtain ⟨x, xs, rfl, h1, h2⟩ := h
    cases r with
    | cons r1 r2 => exact .cons ⟨x, h1, r1⟩ (dtl_each h2 r2)
/-- sorted(a list) -/
noncomputable def sortLF (t : TLD) : TLD := fun ρ k => t ρ fun ds => ∃ es, ds = [.lst es] ∧ SrtOk 100 es ∧ k (srtD es)
end DL
set_option Elab.async false
set_option linter.all false
set_option maxRecDepth 100000
set_option maxHeartbeats 4000000
/-! ### dict(a list of pairs, the keys tuples, no key twice) -/
namespace DL
open PySem PySem.Spec PyProof.Rows L2 PySem.W
end DL
set_option Elab.async false
set_option linter.all false
set_option maxRecDepth 100000
set_option maxHeartbeats 4000000
/-! ### dict(a list of pairs) as data, the keys tuples -/
namespace DL
open PySem PySem.Spec PyProof.Rows L2 PySem.W
end DL
set_option Elab.async false
set_option linter.all false
set_option maxRecDepth 100000
set_option maxHeartbeats 4000000
/-! ### repr and == of data with dicts of any keys -/
namespace DL
open PySem PySem.Spec PyProof.Rows L2 PySem.W
open PySem.SeqAt (EqIn EqAt rcIn_lists rcIn_tuples)
mutual
noncomputable def D.okX : D → Bool
  | .non | .bl _ | .int _ | .str _ => true
  | .lst ds => D.okXL ds
  | .tup ds => D.okXL ds
  | .dic _ es => D.okXP es
  | .ins _ _ => false
  | .glb _ => false
  | .bag => false
  | .lock _ _ => false
  | .at _ _ => false
noncomputable def D.okXL : List D → Bool
  | [] => true
  | d :: ds => D.okX d && D.okXL ds
noncomputable def D.okXP : List (D × D) → Bool
  | [] => true
  | (_, d) :: es => D.okX d && D.okXP es
end
mutual
noncomputable def D.tall : D → Nat
  | .lst ds => D.tallL ds + 1
  | .tup ds => D.tallL ds + 1
  | .dic _ es => D.tallP es + 1
  | _ => 0
noncomputable def D.tallL : List D → Nat
  | [] => 0
  | d :: ds => max (D.tall d) (D.tallL ds)
noncomputable def D.tallP : List (D × D) → Nat
  | [] => 0
  | (_, d) :: es => max (D.tall d) (D.tallP es)
end
section
variable {X : Cx} {pins : List (Addr × Obj)} {σ : L2.St} {H : Hp} {s : Shared} {G : Gh}
theorem dt_keys (K : PySem.W.Frag) (G : Gh) (H : Hp) : ∀ ks : List Key, DtL K G H (ks.map kD) (ks.map kV)
  | [] => rfl
  | .inl i :: ks => ⟨.int i, ks.map kV, rfl, rfl, dt_keys K G H ks⟩
  | .inr x :: ks => ⟨.str x, ks.map kV, rfl, rfl, dt_keys K G H ks⟩
theorem pw_keys : ∀ ks : List Key, D.pwL (ks.map kD) = D.pys (ks.map kD) ∧ D.okL (ks.map kD) = true
  | [] => ⟨rfl, rfl⟩
  | .inl i :: ks => by
    obtain ⟨a, b⟩ := pw_keys ks
    simp only [List.map_cons, kD, D.pwL, D.pys, D.pw, D.py, D.okL, D.okW, a, b, Bool.and_self, and_self]
  | .inr x :: ks => by
    obtain ⟨a, b⟩ := pw_keys ks
    simp only [List.map_cons, kD, D.pwL, D.pys, D.pw, D.py, D.okL, D.okW, a, b, Bool.and_self, and_self]
mutual
theorem Dt.readsX (I : Inv X pins σ H s) (hS : H sysModules = none) : ∀ (d : D) (v : V) (u : Value), d.okX = true → Dt X.K G H d v → RelV v u → ∃ as, Reads s.heap u d.pw as ∧ sysModules ∉ as
  | .non, v, u, _, h, r => by obtain rfl := h; obtain rfl : u = .none := r; exact ⟨[], .none, by simp⟩
  | .bl b, v, u, _, h, r => by obtain rfl := h; obtain rfl : u = .bool b := r; exact ⟨[], .bool b, by simp⟩
  | .int i, v, u, _, h, r => by obtain rfl := h; obtain ⟨t, rfl⟩ := r; exact ⟨[], .int i t, by simp⟩
  | .str x, v, u, _, h, r => by obtain rfl := h; obtain ⟨t, rfl⟩ := r; exact ⟨[], .str x t, by simp⟩
  | .lst ds, v, u, c, h, r => by
    obtain ⟨a, xs, rfl, n, ha, hd⟩ := h
    cases r
    obtain ⟨its, rv, ⟨o, n', ho, hc, _, hda⟩, _⟩ := I.list (SqL.of ha)
    obtain ⟨as, r1, r2⟩ := Dt.readsXL I hS ds xs its (by simpa only [D.okX] using c) hd rv
    refine ⟨a :: as, .list ho hc hda r1, fun z => ?_⟩
    rcases List.mem_cons.mp z with z | z
    · rw [← z, hS] at ha; cases ha
    · exact r2 z
  | .tup ds, v, u, c, h, r => by
    obtain ⟨a, xs, rfl, ha, hd⟩ := h
    cases r
    obtain ⟨its, rv, ⟨o, ho, hc, n', hda⟩, _⟩ := I.tuple (.inl (.inl ha))
    obtain ⟨as, r1, r2⟩ := Dt.readsXL I hS ds xs its (by simpa only [D.okX] using c) hd rv
    exact ⟨as, .tuple ho hc hda r1, r2⟩
  | .dic t es, v, u, c, h, r => by
    simp only [D.okX] at c
    obtain ⟨a, rfl, _, ⟨kvs, ha, hp⟩ | ⟨kvs, ha, hp⟩⟩ := h
    · cases r
      obtain ⟨z, hd, vs, kv, o, ents, ep, ho, hx, hda, _, hpr, _⟩ := dk_rd I.hok ha
      obtain ⟨as, bs, r1, r2, r3, r4⟩ := Dt.readsXP I hS t es kvs vs ents.toList c hp kv hpr
      refine ⟨a :: as ++ bs, .dict ho hx.1 hda r1 r2, fun y => ?_⟩
      rcases List.mem_append.mp y with y | y
      · rcases List.mem_cons.mp y with y | y
        · rw [← y] at hd; simp at hd
        · exact r3 y
      · exact r4 y
    · cases r
      obtain ⟨z, hd, xs, kt, o, ents, ep, ho, hx, hda, he, _, _⟩ := dt_rd I.hok ha
      obtain ⟨as, bs, r1, r2, r3, r4⟩ := Dt.readsXQ I hS t es kvs xs c hp kt
      refine ⟨a :: as ++ bs, .dict ho hx.1 hda (by rw [he]; exact r1) (by rw [he]; exact r2), fun y => ?_⟩
      rcases List.mem_append.mp y with y | y
      · rcases List.mem_cons.mp y with y | y
        · rw [← y] at hd; simp at hd
        · exact r3 y
      · exact r4 y
  | .ins C fs, v, u, c, h, r => by simp [D.okX] at c
  | .glb _, v, u, c, h, r => by simp [D.okX] at c
  | .bag, v, u, c, h, r => by simp [D.okX] at c
  | .lock _ _, v, u, c, h, r => by simp [D.okX] at c
  | .at _ _, v, u, c, h, r => by simp [D.okX] at c
theorem Dt.readsXL (I : Inv X pins σ H s) (hS : H sysModules = none) : ∀ (ds : List D) (vs : List V) (us : List Value), D.okXL ds = true → DtL X.K G H ds vs → Vals vs us → ∃ as, ReadsAll s.heap us (D.pwL ds) as ∧ sysModules ∉ as
  | [], vs, us, _, h, r => by obtain rfl := h; cases r; exact ⟨[], .nil, by simp⟩
  | d :: ds, vs, us, c, h, r => by
    obtain ⟨v, vs, rfl, h1, h2⟩ := h
    simp only [D.okXL, Bool.and_eq_true] at c
    cases r with
    | cons r1 r2 =>
      obtain ⟨as, q1, q2⟩ := Dt.readsX I hS d v _ c.1 h1 r1
      obtain ⟨bs, q3, q4⟩ := Dt.readsXL I hS ds vs _ c.2 h2 r2
      exact ⟨as ++ bs, .cons q1 q3, fun z => by rcases List.mem_append.mp z with z | z; exact q2 z; exact q4 z⟩
theorem Dt.readsXP (I : Inv X pins σ H s) (hS : H sysModules = none) (t : Bool) : ∀ (es : List (D × D)) (kvs : List (Key × V)) (vs : List (Key × Value)) (ents : List DictEntry), D.okXP es = true → DtP X.K G H t es kvs → KV kvs vs → Pairs (mixKind X.prog X.w) ents vs →
    ∃ as bs, ReadsAll s.heap (ents.map (·.key)) ((D.pwP es).map (·.1)) as ∧ ReadsAll s.heap (ents.map (·.val)) ((D.pwP es).map (·.2)) bs ∧ sysModules ∉ as ∧ sysModules ∉ bs
  | [], kvs, vs, ents, _, h, kv, hp => by
    obtain ⟨rfl, _⟩ := h
    cases kv
    cases hp
    exact ⟨[], [], .nil, .nil, by simp, by simp⟩
  | (k, d) :: es, kvs, vs, ents, c, h, kv, hp => by
    obtain ⟨j, v, r, rfl, rfl, h1, h2⟩ := h
    simp only [D.okXP, Bool.and_eq_true] at c
    cases kv with
    | @cons p q l1 l2 kq kr =>
      obtain ⟨e1, rv⟩ := kq
      cases hp with
      | cons p1 p2 p3 =>
        obtain ⟨as, q1, q2⟩ := Dt.readsX I hS d v _ c.1 h1 rv
        obtain ⟨bs, cs, q3, q4, q5, q6⟩ := Dt.readsXP I hS t es r l2 _ c.2 h2 kr p3
        refine ⟨[] ++ bs, as ++ cs, .cons (keyIs_reads (X := X) (by rw [show j = q.1 from e1]; exact p1)) q3, .cons (show Reads s.heap (DictEntry.val _) d.pw as by rw [p2]; exact q1) q4, by simpa using q5, fun z => by rcases List.mem_append.mp z with z | z; exact q2 z; exact q6 z⟩
theorem Dt.readsXQ (I : Inv X pins σ H s) (hS : H sysModules = none) (t : Bool) : ∀ (es : List (D × D)) (kvs : List (List Key × V)) (xs : List (List Key × Addr × Value)), D.okXP es = true → DtQ X.K G H t es kvs → KT H kvs xs →
    ∃ as bs, ReadsAll s.heap ((xs.map (entryOfKey (tupleKind (mixKind X.prog X.w)))).map (·.key)) ((D.pwP es).map (·.1)) as ∧ ReadsAll s.heap ((xs.map (entryOfKey (tupleKind (mixKind X.prog X.w)))).map (·.val)) ((D.pwP es).map (·.2)) bs ∧ sysModules ∉ as ∧ sysModules ∉ bs
  | [], kvs, xs, _, h, kv => by
    obtain ⟨rfl, _⟩ := h
    cases kv
    exact ⟨[], [], .nil, .nil, by simp, by simp⟩
  | (k, d) :: es, kvs, xs, c, h, kv => by
    obtain ⟨j, v, r, rfl, rfl, h1, h2⟩ := h
    simp only [D.okXP, Bool.and_eq_true] at c
    cases kv with
    | @cons p q l1 l2 kq kr =>
      obtain ⟨e1, hk, rv⟩ := kq
      obtain ⟨as, q1, q2⟩ := Dt.readsX I hS d v _ c.1 h1 rv
      obtain ⟨bs, cs, q3, q4, q5, q6⟩ := Dt.readsXQ I hS t es r l2 c.2 h2 kr
      obtain ⟨e2, e3⟩ := pw_keys j
      obtain ⟨ks, w1, w2⟩ := Dt.reads (G := G) I hS (.tup (j.map kD)) (.ref q.2.1) (.ref q.2.1) (by simpa only [D.okW] using e3) ⟨_, j.map kV, rfl, hk, dt_keys _ _ _ j⟩ rfl
      have w1' : Reads s.heap (.ref q.2.1) (D.py (.tup (j.map kD))) ks := by
        have : (D.tup (j.map kD)).pw = (D.tup (j.map kD)).py := by simp only [D.pw, D.py, e2]
        rw [← this]; exact w1
      exact ⟨ks ++ bs, as ++ cs, .cons w1' q3, .cons q1 q4, fun z => by rcases List.mem_append.mp z with z | z; exact w2 z; exact q5 z, fun z => by rcases List.mem_append.mp z with z | z; exact q2 z; exact q6 z⟩
end
end
/-! repr -/
noncomputable def reprX : RD
  | [d], k => (d.okX = true ∧ d.pw.showable = true ∧ d.pw.depth ≤ 140 ∧ d.pw.shown.length ≤ sizeLine) ∧ k (.str d.pw.shown)
  | _, _ => False
noncomputable def rReprX (K : PySem.W.Frag) : List V → Hp → VK → Prop := fun xs H Q => ∃ (x : V) (d : D) (G : Gh), xs = [x] ∧ Dt K G H d x ∧ d.okX = true ∧ d.pw.showable = true ∧ d.pw.depth ≤ 140 ∧ d.pw.shown.length ≤ sizeLine ∧ Q (.str d.pw.shown) H
theorem cr_reprX {X : Cx} {n : Nat} (hr : Room n X.A) (hg : X.A.guards = some []) (hS : ∃ m, X.base.Ns sysModules m) : CallR X (.builtin "repr") (rReprX X.K) := by
  intro pins s σ H xs us Q I r h
  obtain ⟨x, d, G, rfl, hd, c, hs, hdp, hz, q⟩ := h
  obtain ⟨u, rfl, rx⟩ := vals1 r
  have hn : H sysModules = none := by
    obtain ⟨m, o, es, ep, e, _⟩ := hS
    exact (I.bs _ _ e).2
  obtain ⟨as, rd, na⟩ := Dt.readsX I hn d x u c hd rx
  have hu := u150 hr
  have fin : ∀ k, EP X pins σ Q (.str d.pw.shown k) { s with toks := s.toks + 1 } := fun k => ⟨.str d.pw.shown, H, I.tok _, ⟨_, rfl⟩, q⟩
  have gen : ∀ a : Addr, u = .ref a → wpAny (model X.prog X.w) X.A (call (.builtin "repr") [u]) (EP X pins σ Q) X.xe s := by
    intro a e
    subst e
    refine repr_of_reads' rd hs (fun _ => na) hg (by omega) (fun _ _ e => e) (fun h' u tk hk => ?_) hz
    exact ⟨.str _, H, I.kept hk, ⟨_, rfl⟩, q⟩
  cases d with
  | non =>
    obtain rfl := hd
    obtain rfl : u = .none := rx
    simp only [D.pw, PyData.shown] at fin
    exact P.repr_of_none (fin _)
  | bl b =>
    obtain rfl := hd
    obtain rfl : u = .bool b := rx
    simp only [D.pw, PyData.shown] at fin
    exact P.repr_of_bool (fin _)
  | int i =>
    obtain rfl := hd
    obtain ⟨t, rfl⟩ := rx
    simp only [D.pw, PyData.shown] at fin
    exact P.repr_of_int (by simpa [D.pw, PyData.showable] using hs) (fin _)
  | str z =>
    obtain rfl := hd
    obtain ⟨t, rfl⟩ := rx
    simp only [D.pw, PyData.shown] at fin hz
    exact P.repr_of_str (fin _) hz
  | lst ds => obtain ⟨a, xs, rfl, _⟩ := hd; exact gen a rx
  | tup ds => obtain ⟨a, xs, rfl, _⟩ := hd; exact gen a rx
  | dic t es => obtain ⟨a, rfl, _⟩ := hd; exact gen a rx
  | ins C fs => simp [D.okX] at c
  | bag => simp [D.okX] at c
  | glb a => simp [D.okX] at c
  | lock _ _ => simp [D.okX] at c
  | «at» _ _ => simp [D.okX] at c
theorem ok_reprX {F : Fr} : OkCall F (rReprX F.K) reprX := by
  intro G H ds vs k Q ok h hd q
  unfold reprX at h
  split at h
  · obtain ⟨v, rfl, hv⟩ := dl1 hd
    exact ⟨v, _, G, rfl, hv, h.1.1, h.1.2.1, h.1.2.2.1, h.1.2.2.2, q _ _ _ h.2 (.refl ok.bag) rfl⟩
  · exact h.elim
section
variable {X : Cx} {F : Fr} {p pos : Pos} {e : Expr} {ta : TLD}
theorem d_reprX {n : Nat} (hr : Room n X.A) (hgd : X.A.guards = some []) (hS : ∃ m, X.base.Ns sysModules m) (hg : Gl X "repr") (hm : X.mg "repr" = none) (ha : PA X [e] (liftA F ta)) (he : starEach [e] X.env = (false, eval e X.env) :: starEach [] X.env := by rfl) (hK : X.K = F.K := by rfl) :
    PE X (.Call (.Name "repr" p) [e] [] pos) (lift F (callT reprX ta)) := d_callB (cr_reprX hr hgd hS) (hK ▸ ok_reprX) hg hm (by decide +kernel) ha (by decide) (by decide) he
end
/-! a == b where both are told by the same data -/
section
variable {X : Cx} {pins : List (Addr × Obj)} {σ : L2.St} {H : Hp} {s : Shared} {G : Gh}
theorem all_yes (n : Nat) : ((List.range n).all fun _ => true) = true := List.all_eq_true.mpr fun _ _ => rfl
theorem vals_get : ∀ {vs : List V} {us : List Value}, Vals vs us → ∀ (j : Nat) (u : Value), us[j]? = some u → ∃ v, vs[j]? = some v ∧ RelV v u
  | _, _, .nil, j, u, h => by simp at h
  | _, _, .cons r t, 0, u, h => by simp at h; subst h; exact ⟨_, rfl, r⟩
  | _, _, .cons r t, j + 1, u, h => vals_get t j u (by simpa using h)
theorem dtL_get {K : PySem.W.Frag} : ∀ {ds : List D} {vs : List V}, DtL K G H ds vs → ∀ (j : Nat) (v : V), vs[j]? = some v → ∃ d, ds[j]? = some d ∧ Dt K G H d v
  | [], _, h, j, v, e => by obtain rfl := h; simp at e
  | d :: ds, _, h, 0, v, e => by
    obtain ⟨x, r, rfl, h1, h2⟩ := h
    simp at e; subst e; exact ⟨d, rfl, h1⟩
  | d :: ds, _, h, j + 1, v, e => by
    obtain ⟨x, r, rfl, h1, h2⟩ := h
    exact dtL_get h2 j v (by simpa using e)
theorem dtL_len {K : PySem.W.Frag} : ∀ {ds : List D} {vs : List V}, DtL K G H ds vs → vs.length = ds.length
  | [], _, h => by obtain rfl := h; rfl
  | d :: ds, _, h => by
    obtain ⟨x, r, rfl, h1, h2⟩ := h
    rw [List.length_cons, List.length_cons, dtL_len h2]
theorem tall_mem : ∀ {ds : List D} {d : D}, d ∈ ds → d.tall ≤ D.tallL ds
  | c :: ds, d, h => by
    simp only [D.tallL]
    rcases List.mem_cons.mp h with rfl | h
    · omega
    · have := tall_mem h; omega
theorem okX_mem : ∀ {ds : List D} {d : D}, D.okXL ds = true → d ∈ ds → d.okX = true
  | c :: ds, d, o, h => by
    simp only [D.okXL, Bool.and_eq_true] at o
    rcases List.mem_cons.mp h with rfl | h
    · exact o.1
    · exact okX_mem o.2 h
theorem tallP_mem : ∀ {es : List (D × D)} {e : D × D}, e ∈ es → e.2.tall ≤ D.tallP es
  | (k, c) :: es, e, h => by
    simp only [D.tallP]
    rcases List.mem_cons.mp h with rfl | h
    · show c.tall ≤ _; omega
    · have := tallP_mem h; omega
theorem okXP_mem : ∀ {es : List (D × D)} {e : D × D}, D.okXP es = true → e ∈ es → e.2.okX = true
  | (k, c) :: es, e, o, h => by
    simp only [D.okXP, Bool.and_eq_true] at o
    rcases List.mem_cons.mp h with rfl | h
    · exact o.1
    · exact okXP_mem o.2 h
theorem dtP_same {K : PySem.W.Frag} {t : Bool} : ∀ {es : List (D × D)} {l l' : List (Key × V)}, DtP K G H t es l → DtP K G H t es l' → Paired (fun p q => p.1 = q.1 ∧ ∃ e ∈ es, Dt K G H e.2 p.2 ∧ Dt K G H e.2 q.2) l l'
  | [], _, _, h, h' => by obtain ⟨rfl, _⟩ := h; obtain ⟨rfl, _⟩ := h'; exact .nil
  | (k, d) :: es, _, _, h, h' => by
    obtain ⟨j, v, r, rfl, e, h1, h2⟩ := h
    obtain ⟨j', v', r', rfl, e', h1', h2'⟩ := h'
    exact .cons ⟨kD_inj' (e.symm.trans e'), (k, d), List.mem_cons_self, h1, h1'⟩ (Paired.mapP (dtP_same h2 h2') fun _ _ z => ⟨z.1, let ⟨e, he, r⟩ := z.2; ⟨e, List.mem_cons_of_mem _ he, r⟩⟩)
theorem dtQ_same {K : PySem.W.Frag} {t : Bool} : ∀ {es : List (D × D)} {l l' : List (List Key × V)}, DtQ K G H t es l → DtQ K G H t es l' → Paired (fun p q => p.1 = q.1 ∧ ∃ e ∈ es, Dt K G H e.2 p.2 ∧ Dt K G H e.2 q.2) l l'
  | [], _, _, h, h' => by obtain ⟨rfl, _⟩ := h; obtain ⟨rfl, _⟩ := h'; exact .nil
  | (k, d) :: es, _, _, h, h' => by
    obtain ⟨j, v, r, rfl, e, h1, h2⟩ := h
    obtain ⟨j', v', r', rfl, e', h1', h2'⟩ := h'
    refine .cons ⟨?_, (k, d), List.mem_cons_self, h1, h1'⟩ (Paired.mapP (dtQ_same h2 h2') fun _ _ z => ⟨z.1, let ⟨e, he, r⟩ := z.2; ⟨e, List.mem_cons_of_mem _ he, r⟩⟩)
    have z := e.symm.trans e'
    injection z with z
    exact kDs_inj' z
theorem paired_val {κ : Type} [DecidableEq κ] {R : κ × V → κ × V → Prop} (hR : ∀ p q, R p q → p.1 = q.1) : ∀ {l l' : List (κ × V)}, Paired R l l' → (l.map (·.1)).Nodup → ∀ k v y, (k, v) ∈ l → valV l' k = some y → R (k, v) (k, y)
  | _, _, .nil, _, k, v, y, h, _ => nomatch h
  | p :: l, q :: l', .cons r t, n, k, v, y, h, e => by
    have n' := n
    rw [List.map_cons, List.nodup_cons] at n
    have pq := hR _ _ r
    rcases List.mem_cons.mp h with z | z
    · subst z
      have pq' : q.1 = k := pq.symm
      rw [valV_pos pq'] at e
      cases e
      have eq : q = (k, q.2) := by rw [← pq']
      rw [← eq]; exact r
    · have ne : ¬ q.1 = k := fun c => n.1 (by rw [pq, c]; exact List.mem_map.mpr ⟨_, z, rfl⟩)
      rw [valV_neg ne] at e
      exact paired_val hR t n.2 k v y z e
theorem paired_all {κ : Type} [DecidableEq κ] {R : κ × V → κ × V → Prop} (hR : ∀ p q, R p q → p.1 = q.1) : ∀ {l l' : List (κ × V)}, Paired R l l' → l.length = l'.length ∧ ∀ p ∈ l, (valV l' p.1).isSome = true
  | _, _, .nil => ⟨rfl, fun _ h => nomatch h⟩
  | p :: l, q :: l', .cons r t => by
    obtain ⟨h1, h2⟩ := paired_all hR t
    refine ⟨by rw [List.length_cons, List.length_cons, h1], fun x hx => ?_⟩
    by_cases e : q.1 = x.1
    · rw [valV_pos e]; rfl
    · rw [valV_neg e]
      rcases List.mem_cons.mp hx with rfl | hx
      · exact absurd (hR _ _ r).symm e
      · exact h2 x hx
/-- what is compared part by part -/
noncomputable def D.comp : D → Bool
  | .lst _ | .tup _ | .dic _ _ => true
  | _ => false
theorem same_cmp (I : Inv X pins σ H s) (n : Nat) (ih : ∀ (d : D), d.tall ≤ n → d.okX = true → ∀ v v', Dt X.K G H d v → Dt X.K G H d v' → ∀ A u u', RelV v u → RelV v' u' → A.units + n + 2 < cLine → EqIn X.prog X.w A s u u' true) :
    ∀ (d : D), d.tall ≤ n + 1 → d.okX = true → d.comp = true → ∀ v v', Dt X.K G H d v → Dt X.K G H d v' → ∃ a c, v = .ref a ∧ v' = .ref c ∧ ∀ A : Around, A.units + (n + 1) + 2 < cLine → ∀ (E : Value → Shared → Prop) (Q : Value → Shared → Prop), Q (.bool true) s → wpAny (model X.prog X.w) A (compareOp .Eq (.ref a) (.ref c)) Q E s := by
  intro d ht ho hc v v' h h'
  cases d with
  | non => exact absurd hc (by decide)
  | bl b => exact absurd hc (by simp [D.comp])
  | int i => exact absurd hc (by simp [D.comp])
  | str x => exact absurd hc (by simp [D.comp])
  | ins C fs => simp [D.okX] at ho
  | bag => simp [D.okX] at ho
  | glb a => simp [D.okX] at ho
  | lock _ _ => simp [D.okX] at ho
  | «at» _ _ => simp [D.okX] at ho
  | lst ds =>
    simp only [D.tall] at ht
    simp only [D.okX] at ho
    obtain ⟨a, xs, rfl, _, ha, hd⟩ := h
    obtain ⟨c, ys, rfl, _, hc, hd'⟩ := h'
    refine ⟨a, c, rfl, rfl, fun A hu E Q hq => ?_⟩
    obtain ⟨its, rv, hl, _⟩ := I.list (SqL.of ha)
    obtain ⟨its', rv', hl', _⟩ := I.list (SqL.of hc)
    have l1 := rv.length
    have l2 := rv'.length
    rw [dtL_len hd] at l1
    rw [dtL_len hd'] at l2
    refine rcIn_lists (e := fun _ => true) hl.isList hl'.isList (by simp; omega) (by omega) (fun j h1 h2 => ?_) (by rw [all_yes]; exact hq)
    obtain ⟨x, e1, r1⟩ := vals_get rv j its[j] (by simp at h1; simp [h1])
    obtain ⟨y, e2, r2⟩ := vals_get rv' j its'[j] (by simp at h2; simp [h2])
    obtain ⟨d, e3, k1⟩ := dtL_get hd j x e1
    obtain ⟨d', e4, k2⟩ := dtL_get hd' j y e2
    obtain rfl : d = d' := Option.some.inj (e3.symm.trans e4)
    have hm := List.mem_of_getElem? e3
    have := tall_mem hm
    exact ih d (by omega) (okX_mem ho hm) x y k1 k2 A.in1 _ _ r1 r2 (by show A.units + 1 + n + 2 < cLine; omega)
  | tup ds =>
    simp only [D.tall] at ht
    simp only [D.okX] at ho
    obtain ⟨a, xs, rfl, ha, hd⟩ := h
    obtain ⟨c, ys, rfl, hc, hd'⟩ := h'
    refine ⟨a, c, rfl, rfl, fun A hu E Q hq => ?_⟩
    obtain ⟨its, rv, hl, _⟩ := I.tuple (.inl (.inl ha))
    obtain ⟨its', rv', hl', _⟩ := I.tuple (.inl (.inl hc))
    have l1 := rv.length
    have l2 := rv'.length
    rw [dtL_len hd] at l1
    rw [dtL_len hd'] at l2
    refine rcIn_tuples (e := fun _ => true) hl hl' (by omega) (fun j h1 h2 => ?_) ?_
    · obtain ⟨x, e1, r1⟩ := vals_get rv j its[j] (by simp at h1; simp [h1])
      obtain ⟨y, e2, r2⟩ := vals_get rv' j its'[j] (by simp at h2; simp [h2])
      obtain ⟨d, e3, k1⟩ := dtL_get hd j x e1
      obtain ⟨d', e4, k2⟩ := dtL_get hd' j y e2
      obtain rfl : d = d' := Option.some.inj (e3.symm.trans e4)
      have hm := List.mem_of_getElem? e3
      have := tall_mem hm
      exact ih d (by omega) (okX_mem ho hm) x y k1 k2 A.in1 _ _ r1 r2 (by show A.units + 1 + n + 2 < cLine; omega)
    · have : its.length = its'.length := by omega
      rw [all_yes]; simpa [this] using hq
  | dic t es =>
    simp only [D.tall] at ht
    simp only [D.okX] at ho
    obtain ⟨a, rfl, _, hA⟩ := h
    obtain ⟨c, rfl, _, hC⟩ := h'
    refine ⟨a, c, rfl, rfl, fun A hu E Q hq => ?_⟩
    rcases hA with ⟨l, ra, pa⟩ | ⟨l, ra, pa⟩ <;> rcases hC with ⟨l', rc, pc⟩ | ⟨l', rc, pc⟩
    · have pr := dtP_same pa pc
      obtain ⟨le, al⟩ := paired_all (fun _ _ z => z.1) pr
      obtain ⟨_, _, vs, kv, o, es', ep, _, _, _, _, _, nd⟩ := dk_rd I.hok ra
      rw [← kv.keys] at nd
      refine eq_dK (n := n) (e := fun _ => true) I ra rc (fun k v y hm hv A' v' u' r1 r2 hu' => ?_) (by omega) ?_
      · obtain ⟨_, e, he, k1, k2⟩ := paired_val (fun _ _ z => z.1) pr nd k v y hm hv
        have := tallP_mem he
        exact ih e.2 (by omega) (okXP_mem ho he) v y k1 k2 A' _ _ r1 r2 hu'
      · have z : (l.length == l'.length && l.all fun p => (valV l' p.1).isSome && true) = true := by
          simp only [le, beq_self_eq_true, Bool.true_and, Bool.and_true, List.all_eq_true]; exact al
        rw [z]; exact hq
    · exfalso
      cases es with
      | nil => exact absurd (pa.2.symm.trans pc.2) (by decide)
      | cons e es =>
        obtain ⟨k, d⟩ := e
        obtain ⟨j, v, r, rfl, e, h1, h2⟩ := pa
        obtain ⟨j', v', r', rfl, e', h1', h2'⟩ := pc
        have z := e.symm.trans e'
        cases j <;> exact nomatch z
    · exfalso
      cases es with
      | nil => exact absurd (pa.2.symm.trans pc.2) (by decide)
      | cons e es =>
        obtain ⟨k, d⟩ := e
        obtain ⟨j, v, r, rfl, e, h1, h2⟩ := pa
        obtain ⟨j', v', r', rfl, e', h1', h2'⟩ := pc
        have z := e.symm.trans e'
        cases j' <;> exact nomatch z
    · have pr := dtQ_same pa pc
      obtain ⟨le, al⟩ := paired_all (fun _ _ z => z.1) pr
      obtain ⟨_, _, xs, kt, dd⟩ := dt_rd I.hok ra
      have nd := dd.nodup
      rw [← kt_keys kt] at nd
      refine eq_dT (n := n) (e := fun _ => true) I ra rc (fun k v y hm hv A' v' u' r1 r2 hu' => ?_) (by omega) ?_
      · obtain ⟨_, e, he, k1, k2⟩ := paired_val (fun _ _ z => z.1) pr nd k v y hm hv
        have := tallP_mem he
        exact ih e.2 (by omega) (okXP_mem ho he) v y k1 k2 A' _ _ r1 r2 hu'
      · have z : (l.length == l'.length && l.all fun p => (valV l' p.1).isSome && true) = true := by
          simp only [le, beq_self_eq_true, Bool.true_and, Bool.and_true, List.all_eq_true]; exact al
        rw [z]; exact hq
theorem same_leaf : ∀ (d : D), d.okX = true → d.comp = false → ∀ v v', Dt X.K G H d v → Dt X.K G H d v' → ∀ (A : Around) u u', RelV v u → RelV v' u' → EqIn X.prog X.w A s u u' true := by
  intro d ho hc v v' h h' A u u' r r'
  cases d with
  | non => obtain rfl := h; obtain rfl := h'; obtain rfl : u = .none := r; obtain rfl : u' = .none := r'; exact (SeqAt.EqAt.same _).inModel _ _
  | bl b => obtain rfl := h; obtain rfl := h'; obtain rfl : u = .bool b := r; obtain rfl : u' = .bool b := r'; exact (SeqAt.EqAt.same _).inModel _ _
  | int i =>
    obtain rfl := h; obtain rfl := h'; obtain ⟨t, rfl⟩ := r; obtain ⟨t', rfl⟩ := r'
    have q : EqAt A s (.int i t) (.int i t') (i == i) := SeqAt.EqAt.int_int i t i t'
    rw [show (i == i) = true from beq_self_eq_true i] at q
    exact q.inModel _ _
  | str x =>
    obtain rfl := h; obtain rfl := h'; obtain ⟨t, rfl⟩ := r; obtain ⟨t', rfl⟩ := r'
    have q : EqAt A s (.str x t) (.str x t') (x == x) := SeqAt.EqAt.str_str x t x t'
    rw [show (x == x) = true from beq_self_eq_true x] at q
    exact q.inModel _ _
  | lst ds => exact absurd hc (by simp [D.comp])
  | tup ds => exact absurd hc (by simp [D.comp])
  | dic t es => exact absurd hc (by simp [D.comp])
  | ins C fs => simp [D.okX] at ho
  | bag => simp [D.okX] at ho
  | glb a => simp [D.okX] at ho
  | lock _ _ => simp [D.okX] at ho
  | «at» _ _ => simp [D.okX] at ho
theorem same_in (I : Inv X pins σ H s) : ∀ (n : Nat) (d : D), d.tall ≤ n → d.okX = true → ∀ v v', Dt X.K G H d v → Dt X.K G H d v' → ∀ A u u', RelV v u → RelV v' u' → A.units + n + 2 < cLine → EqIn X.prog X.w A s u u' true := by
  intro n
  induction n with
  | zero =>
    intro d ht ho v v' h h' A u u' r r' hu
    cases hc : d.comp with
    | false => exact same_leaf d ho hc v v' h h' A u u' r r'
    | true => cases d <;> simp [D.tall, D.comp] at ht hc
  | succ n ih =>
    intro d ht ho v v' h h' A u u' r r' hu
    cases hc : d.comp with
    | false => exact same_leaf d ho hc v v' h h' A u u' r r'
    | true =>
      obtain ⟨a, c, rfl, rfl, k⟩ := same_cmp I n ih d ht ho hc v v' h h'
      obtain rfl : u = .ref a := r
      obtain rfl : u' = .ref c := r'
      by_cases ne : a = c
      · rw [ne]; exact (SeqAt.EqAt.same _).inModel _ _
      · exact SeqAt.EqIn.of_refs ne fun E Q hq => k A hu E Q hq
/-- two values told by the same data -/
noncomputable def rEqS (K : PySem.W.Frag) : R2 := fun x y H Q => ∃ (d : D) (G : Gh), Dt K G H d x ∧ Dt K G H d y ∧ d.okX = true ∧ d.tall ≤ 140 ∧ d.comp = true ∧ Q (.bl true) H
theorem op_eqS {n : Nat} (hr : Room n X.A) : OpR X (compareOp .Eq) (rEqS X.K) := by
  intro pins s σ H x y v u Q I rx ry h
  obtain ⟨d, G, h, h', ho, ht, hc, hq⟩ := h
  have h150 := u150 hr
  obtain ⟨a, c, rfl, rfl, k⟩ := same_cmp (G := G) I 140 (same_in I 140) d (by omega) ho hc x y h h'
  obtain rfl : v = .ref a := rx
  obtain rfl : u = .ref c := ry
  exact k X.A (by omega) _ _ ⟨.bl _, H, I, rfl, hq⟩
end
noncomputable def eqSD : OD := fun x y k => x = y ∧ x.okX = true ∧ x.tall ≤ 140 ∧ x.comp = true ∧ k (.bl true)
theorem ok_eqS {F : Fr} : OkOp F (rEqS F.K) eqSD := by
  intro G H x y v u k Q ok h d1 d2 q
  obtain ⟨rfl, ho, ht, hc, hk⟩ := h
  exact ⟨x, G, d1, d2, ho, ht, hc, q _ _ H hk (.refl ok.bag) rfl⟩
end DL
set_option Elab.async false
set_option linter.all false
set_option maxRecDepth 100000
set_option maxHeartbeats 4000000
/-! ### defs that return what is new -/
namespace DL
open PySem PySem.Spec PyProof.Rows L2
noncomputable abbrev RTD := List D → (Tr → Prop) → Prop
noncomputable def spT (K : PySem.W.Frag) (R : RTD) : Sp := fun vs H Q _ => ∃ G ds k, GOk G H ∧ DtL K G H ds vs ∧ R ds k ∧ ∀ t v L H', k t → Ext G H H' → (∀ p ∈ L, H p = none) → L.Nodup → Ow K (G.adds L) H' t v L → Q v H'
structure CalT (P : Program) (w : World) (K : PySem.W.Frag) (mg : Str → Option Value) (base : Heap) (n : Nat) (x : Str) (R : RTD) : Prop where
  ex : ∃ (f : Addr) (fd : FuncData) (ps : List Str) (k : Nat), k ≤ n ∧ FnG P w K mg base CX0 k f fd ps (spT K R) ∧ mg x = some (.ref f) ∧ PySem.W.keepIn K (.ref f) = true ∧ Binds K fd ps []
section
variable {P : Program} {w : World} {K : PySem.W.Frag} {mg : Str → Option Value} {base : Heap} {n m : Nat} {x : Str} {R : RTD}
theorem CalT.mono (c : CalT P w K mg base n x R) (h : n ≤ m) : CalT P w K mg base m x R := by
  obtain ⟨f, fd, ps, k, hk, r⟩ := c.ex
  exact ⟨f, fd, ps, k, Nat.le_trans hk h, r⟩
theorem CalT.of {f : Addr} {fd : FuncData} {ps : List Str} {q : Str} {st : Stmt} (fn : FnG P w K mg base CX0 n f fd ps (spT K R)) (hm : mg x = some (.ref f)) (F : Fun K x q st f fd) (hb : Binds K fd ps []) : CalT P w K mg base n x R := ⟨f, fd, ps, n, Nat.le_refl _, fn, hm, F.kp, hb⟩
end
noncomputable def endT (k : Tr → Prop) : DE := ⟨fun _ => k (.d .non), k, fun _ => False, fun _ => False, fun d _ => k (.d d)⟩
theorem Fun.okT {P : Program} {w : World} {K : PySem.W.Frag} {mg : Str → Option Value} {base : Heap} {x qual : Str} {st : Stmt} {f : Addr} {fd : FuncData} {N ps : List Str} {k : Nat} {R : RTD} (Fn : Fun K x qual st f fd) (S : FnScope N ps (defScope st))
    (len : ∀ ds k, R ds k → ds.length = ps.length)
    (hb : ∃ T : TSD, (∀ (cdv : Value) (A : Around) (outer : List Env) (s : Shared) (H : Hp) (E : XK) (G : Gh) (H' : Hp) (pn : List (V × D)), Room k (A.deeper (envOfC qual (defScope st) s.heap.objs.size f cdv)) → A.guards = some [] →
      PSs (cxOf CX0 P w K mg base N qual (defScope st) f cdv A outer s H E).nox (defBody st) (liftS ⟨K, G, H', pn⟩ T)) ∧ ∀ ds κ, R ds κ → T (endT κ) (enterS N.length ds)) : FnG P w K mg base CX0 (k + 1) f fd ps (spT K R) := by
  obtain ⟨oc, od, kV, doc, pm, an, cdv, ct, osl, rfl, lk, hcd⟩ := Fn.ex
  obtain ⟨T, hb, hq⟩ := hb
  refine fnG_of lk hcd S (fun vs H Q E h => ?_) fun A outer s H vs Q E hr hg h => ?_
  · obtain ⟨G, ds, κ, _, hd, hR, _⟩ := h
    rw [← hd.len]; exact len ds κ hR
  · obtain ⟨G, ds, κ, ok, hd, hR, q⟩ := h
    have dat : ∀ (d : D) (v : V) (H' : Hp), κ (.d d) → Ext G H H' → Dt K G H' d v → Q v H' := fun d v H' h x hd => q (.d d) v [] H' h x (fun _ z => nomatch z) List.nodup_nil (by rw [Gh.adds_nil]; exact ⟨rfl, hd⟩)
    refine ⟨_, (hb cdv A outer s H E G H [] hr hg).nox, G, _, endT κ, ⟨rfl, rfl, ok.ob, ok.oi, fun _ h => h, fun a h n => absurd h n, ok.tr, .refl ok.bag, (fun _ z => nomatch z), [], ?_, List.nodup_nil⟩, hq ds κ hR,
      ⟨fun ρ G' σ' H' h r => dat .non .non H' h r.ext rfl, fun t v R H' h x hR nR ho => q t v R H' h x hR nR ho, fun _ _ _ _ h _ => h.elim, fun _ _ _ _ h _ => h.elim, fun d ρ G' σ' H' v h r hd => dat d v H' h r.ext (r.less.dt d v hd)⟩⟩
    unfold enterS L2.start
    rw [hd.len]
    exact slots_start _ hd
/-- a call, what it returns is new -/
noncomputable def callRT (R : RTD) (ta : TLD) : TRD := fun ρ k => ta ρ fun ds => R ds k
structure CalX (X : Cx) (n : Nat) (x : Str) (R : RTD) : Prop where
  ex : ∃ (f : Addr) (fd : FuncData) (ps : List Str) (k : Nat), k ≤ n ∧ FnG X.prog X.w X.K X.mg X.base CX0 k f fd ps (spT X.K R) ∧ X.mg x = some (.ref f) ∧ PySem.W.keepIn X.K (.ref f) = true ∧ Binds X.K fd ps []
section
variable {X : Cx} {F : Fr} {n : Nat} {x : Str} {R : RTD} {e : Expr} {es : List Expr} {ta : TLD} {tr : TRD} {p pos : Pos}
theorem r_callT (c : CalX X n x R) (hr : Room n X.A) (hgd : X.A.guards = some []) (hg : Gl X x) (ha : PA X (e :: es) (liftA F ta)) (hK : X.K = F.K := by rfl) (hdb : (x == ("__debug__" : Str)) = false := by decide)
    (he : starEach (e :: es) X.env = (false, eval e X.env) :: starEach es X.env := by rfl) (hpl : (backTo pos (starEach es X.env)).any (·.1) = false := by rfl) : PE X (.Call (.Name x p) (e :: es) [] pos) (liftR F (callRT R ta)) := by
  obtain ⟨f, fd, ps, j, hj, fn, hm, hk, hb⟩ := c.ex
  refine pe_imp (peG_call fn (hr.mono hj) hgd hg hm hk hb .nil pass0 ha hdb he hpl) fun σ H Q ⟨G, ρ, k, r, h, q⟩ => ?_
  refine ⟨G, ρ, _, r, h, fun ds vs H1 h1 e1 d1 => ?_⟩
  have r1 := r.step e1
  show spT X.K R (vs ++ []) H1 Q E0
  rw [List.append_nil, hK]
  exact ⟨G, ds, k, r1.ok, d1, h1, fun t v L H2 h2 e2 hL nL ow => q t v L H2 h2 (e1.trans e2) (fun p hp => e1.free r.bag (hL p hp)) nL ow⟩
theorem Rel.first {G : Gh} {H : Hp} {σ : L2.St} {ρ : List Sl} (r : Rel F G H σ ρ) {p : Addr} (hp : H p = none) : F.H p = none := by
  cases q : F.H p with
  | none => rfl
  | some o =>
    have q2 : p ≠ F.G.bg := fun z => by
      have := r.ext.bag.ne
      rw [← z] at this
      exact this hp
    rcases r.ext.lk q2 q with z | ⟨_, od, z⟩ <;> · rw [z] at hp; cases hp
/-- return e, e new -/
noncomputable def retR (t : TRD) : TSD := fun k ρ => t ρ fun x => k.rt x
theorem s_retR (he : PE X e (liftR F tr)) : PS X (.Return (some e) pos) (liftS F (retR tr)) := by
  refine ps_imp (ps_ret he) fun E σ H ⟨G, ρ, k, r, h, o⟩ => ⟨G, ρ, _, r, h, fun t v R H1 h1 e1 hR nR ow => ?_⟩
  have r1 := r.grows e1 hR fun p hp => Ow.mut t v R ow p hp
  refine o.rt t v R H1 h1 r1.ext (fun p hp => r.first (hR p hp)) nR (Ow.evo (G := G.adds R) (G' := F.G.adds R) ⟨fun _ _ _ h => .inl h, r1.tr, fun a n _ z => n ?_, r.bg.symm, r.bi.symm⟩ t v R (fun p hp => ⟨Or.inr hp, rfl⟩) ow)
  rcases z with z | z
  · exact .inl (r.sub a z)
  · exact .inr z
/-- return x, x a name that owns what it has -/
noncomputable def retO (i : Nat) : TSD := fun k ρ => ∃ t, ρ[i]? = some (.tr t) ∧ k.rt t
theorem s_retO (i : Nat) {x : Str} {px : Pos} (hN : X.N[i]? = some x := by rfl) (hv : Vis X.env.scope x := by first | exact Or.inl rfl | exact Or.inr (Or.inl rfl) | exact Or.inr (Or.inr rfl)) (hd : (x == ("__debug__" : Str)) = false := by decide)
    (hcd : (x == ("__classdict__" : Str)) = false := by decide) : PS X (.Return (some (.Name x px)) pos) (liftS F (retO i)) := by
  refine ps_imp (ps_ret (pe_var hN hv hd hcd)) fun E σ H ⟨G, ρ, k, r, ⟨t, hi, hk⟩, o⟩ => ?_
  obtain ⟨v, B, e1, ow, nB, hB, _⟩ := r.chg hi
  have own := Ow.own t v B ow
  refine ⟨v, e1, o.rt t v B H hk r.ext (fun p hp => r.new p (own p hp).1 (hB p hp)) nB (Ow.evo (G := G) (G' := F.G.adds B) ⟨fun _ _ _ h => .inl h, r.tr, fun a n _ z => n ?_, r.bg.symm, r.bi.symm⟩ t v B (fun p hp => ⟨Or.inr hp, rfl⟩) ow)⟩
  rcases z with z | z
  · exact r.sub a z
  · exact (own a z).1
end
end DL
set_option Elab.async false
set_option linter.all false
set_option maxRecDepth 100000
set_option maxHeartbeats 4000000
/-! ### for y in x[a:b]: y.append(None), x a name that owns lists and lets them go -/
namespace DL
open PySem PySem.Spec PyProof.Rows L2
section
variable {F : Fr} {G : Gh} {H : Hp} {σ : L2.St} {ρ : List Sl} {L : List Addr}
theorem RelL.drop (r : RelL F G H σ ρ L) (j : Nat) (o : Option V) : ∃ L', (∀ p ∈ L', p ∈ L) ∧ RelL F G H (σ.set j o) (ρ.set j .un) L' := by
  cases e : ρ[j]? with
  | none =>
    have hi : ρ.length ≤ j := by simpa using e
    rw [List.set_eq_of_length_le hi, List.set_eq_of_length_le (by rw [← r.2.1.len]; exact hi)]
    exact ⟨L, fun _ h => h, r⟩
  | some s =>
    obtain ⟨u, A, B, C, _, rfl, _, k⟩ := r.2.1.upd e
    have sl := k F G H .un o [] (fun _ _ _ _ z => z) rfl
    have n1 := (nodup_mid r.2.2).1
    refine ⟨A ++ ([] ++ C), fun p hp => ?_, ⟨r.1.bg, r.1.bi, r.1.ob, r.1.oi, r.1.sub, r.1.new, r.1.tr, r.1.ext, r.1.pn, _, sl, n1⟩, sl, n1⟩
    rcases List.mem_append.mp hp with z | z
    · exact List.mem_append_left _ z
    · exact List.mem_append_right _ (List.mem_append_right _ z)
end
end DL
set_option Elab.async false
set_option linter.all false
set_option maxRecDepth 100000
set_option maxHeartbeats 4000000
/-! sets whose members are tuples of texts and whole numbers: set(list) -/
namespace DPS
open PySem PySem.Spec PyProof.Rows L2 PySem.Froz
/-- what a member is told by -/
noncomputable abbrev MKey := List Key
noncomputable abbrev IsM (P : Program) (w : World) (h : Heap) (k : MKey) (b : Addr) : Prop := IsTupleKey (mixKind P w) h k b
noncomputable abbrev mh (P : Program) (w : World) (k : MKey) : Int := tupleKeyHash (mixKind P w) k
theorem IsM.at {P : Program} {w : World} {h h' : Heap} {k : MKey} {b : Addr} (x : IsM P w h k b) (e : ∀ o, h.get? b = some o → h'.get? b = some o) : IsM P w h' k b := by
  obtain ⟨o, its, n, ho, r⟩ := x
  exact ⟨o, its, n, e o ho, r⟩
theorem IsM.but {P : Program} {w : World} {h h' : Heap} {k : MKey} {a b : Addr} {D : SD} (x : IsM P w h k b) (ha : h.get? a = some (sObj "set" D)) (sb : Heap.SameBut a h h') : IsM P w h' k b := by
  have ne : b ≠ a := by
    rintro rfl
    obtain ⟨o, its, n, ho, hc, _⟩ := x
    rw [ha] at ho
    injection ho with ho
    subst ho
    simp [sObj] at hc
  exact x.at fun o ho => (sb.2 b ne).trans ho
theorem IsM.parts {P : Program} {w : World} {k : MKey} {vs : List Value} (h : ItemsAre (mixKind P w) k vs) : ∀ v ∈ vs, (∃ i t, v = Value.int i t) ∨ ∃ x t, v = Value.str x t := by
  induction h with
  | nil => intro v hv; cases hv
  | cons h1 _ ih =>
    intro v hv
    rcases List.mem_cons.mp hv with rfl | hv
    · rcases keyIs_shape h1 with ⟨i, t, _, e⟩ | ⟨x, t, _, e⟩
      · exact .inl ⟨i, t, e⟩
      · exact .inr ⟨x, t, e⟩
    · exact ih v hv
section
variable {P : Program} {w : World} {A : Around} {E : Value → Shared → Prop} {s : Shared}
/-- no member is of a class statement -/
theorem plainM {k : MKey} {b : Addr} {Q : Bool → Shared → Prop} (hk : IsM P w s.heap k b) (h : Q false s) : wpAny (model P w) A (ofAClassStatement 8 (.ref b)) Q E s := by
  have hT := hk.typeIs
  obtain ⟨o, its, n, ho, _, hd, hi⟩ := hk
  have pp := IsM.parts hi
  unfold ofAClassStatement
  refine wpAny_bind (wpAny_typeOf hT ?_)
  dsimp only
  rw [show (("tuple" : String) == "tuple") = true from by decide]
  simp only [if_true, Bool.not_true, Bool.false_eq_true, if_false]
  try refine wpAny_bind (wpAny_pure ?_)
  try simp only [Bool.not_true, Bool.false_eq_true, if_false]
  show wpAny _ _ (seqItems? (.ref b) >>= _) _ _ s
  refine wpAny_bind (wpAny_seqItems ho hd ?_)
  refine wpAny_bind ?_
  show wpAny _ _ (forIn its _ _) _ _ s
  rw [← Array.forIn_toList]
  refine wpAny_forIn_list _ (fun rest r s' => (r.1 = none ∧ s' = s) ∧ ∀ v ∈ rest, (∃ i t, v = Value.int i t) ∨ ∃ x t, v = Value.str x t) _ ?_ ?_ _ _ ⟨⟨rfl, rfl⟩, pp⟩
  · rintro v rest r s' ⟨⟨hr, rfl⟩, all⟩
    have e : ofAClassStatement 7 v = pure false := by
      rcases all v List.mem_cons_self with ⟨i, t, rfl⟩ | ⟨x, t, rfl⟩ <;> rfl
    rw [e]
    refine wpAny_bind (wpAny_pure ?_)
    simp only [Bool.false_eq_true, if_false]
    exact wpAny_pure ⟨⟨rfl, rfl⟩, fun u hu => all u (List.mem_cons_of_mem _ hu)⟩
  · rintro ⟨r1, r2⟩ s' ⟨⟨hr, rfl⟩, _⟩
    simp only at hr
    subst hr
    exact wpAny_pure h
/-- whether a member's hash goes by its worth: one of both -/
theorem worthM {k : MKey} {b : Addr} {Q : Bool → Shared → Prop} (hk : IsM P w s.heap k b) (h : ∀ y, Q y s) : wpAny (model P w) A (hashByValue 8 (.ref b)) Q E s := by
  have hT := hk.typeIs
  obtain ⟨o, its, n, ho, _, hd, hi⟩ := hk
  have pp := IsM.parts hi
  unfold hashByValue
  refine wpAny_bind (wpAny_specialOf hT F.slot_tuple_hash.lookup ?_)
  show wpAny _ _ (seqItems? (.ref b) >>= _) _ _ s
  refine wpAny_bind (wpAny_seqItems ho hd ?_)
  refine wpAny_bind ?_
  show wpAny _ _ (forIn its _ _) _ _ s
  rw [← Array.forIn_toList]
  refine wpAny_forIn_list _ (fun rest r s' => (r.1 = none ∧ s' = s) ∧ ∀ v ∈ rest, (∃ i t, v = Value.int i t) ∨ ∃ x t, v = Value.str x t) _ ?_ ?_ _ _ ⟨⟨rfl, rfl⟩, pp⟩
  · rintro v rest r s' ⟨⟨hr, rfl⟩, all⟩
    rcases all v List.mem_cons_self with ⟨i, t, rfl⟩ | ⟨x, t, rfl⟩
    · rw [show hashByValue 7 (.int i t) = pure true from rfl]
      refine wpAny_bind (wpAny_pure ?_)
      simp only [Bool.not_true, Bool.false_eq_true, if_false]
      exact wpAny_pure ⟨⟨rfl, rfl⟩, fun u hu => all u (List.mem_cons_of_mem _ hu)⟩
    · rw [show hashByValue 7 (.str x t) = pure false from rfl]
      refine wpAny_bind (wpAny_pure ?_)
      simp only [Bool.not_false, if_true]
      exact wpAny_pure (wpAny_pure (h false))
  · rintro ⟨r1, r2⟩ s' ⟨⟨hr, rfl⟩, _⟩
    simp only at hr
    subst hr
    exact wpAny_pure (h true)
/-- a search shows nothing of itself -/
theorem unseenM {k : MKey} {b : Addr} {Q : Bool → Shared → Prop} (hk : IsM P w s.heap k b) {ys : List Value} (hy : ∀ y ∈ ys, ∃ k' c, y = Value.ref c ∧ IsM P w s.heap k' c) (h : Q false s) :
    wpAny (model P w) A (searchCouldBeSeen (.ref b) ys) Q E s := by
  unfold searchCouldBeSeen
  refine wpAny_bind ?_
  refine wpAny_forIn_list _ (fun rest r s' => (r.1 = none ∧ s' = s) ∧ ∀ y ∈ rest, ∃ k' c, y = Value.ref c ∧ IsM P w s.heap k' c) _ ?_ ?_ _ _ ⟨⟨rfl, rfl⟩, hy⟩
  · rintro v rest r s' ⟨⟨hr, rfl⟩, all⟩
    have next : ∀ y ∈ rest, ∃ k' c, y = Value.ref c ∧ IsM P w s'.heap k' c := fun u hu => all u (List.mem_cons_of_mem _ hu)
    obtain ⟨k', c, rfl, hc⟩ := all v List.mem_cons_self
    dsimp only
    by_cases z : (b == c || (carriedByValue (.ref b) && carriedByValue (.ref c))) = true
    · exact wp_if_pos z (wpAny_pure ⟨⟨rfl, rfl⟩, next⟩)
    · refine wp_if_neg z (wpAny_bind (wpAny_eqIsQuiet_tuple hk ?_))
      simp only [Bool.not_true, Bool.false_eq_true, if_false]
      refine wpAny_bind (wpAny_eqIsQuiet_tuple hc ?_)
      simp only [Bool.not_true, Bool.false_eq_true, if_false]
      refine wpAny_bind (plainM hk ?_)
      simp only [Bool.false_eq_true, if_false]
      refine wpAny_bind (plainM hc ?_)
      simp only [Bool.false_eq_true, if_false]
      exact wpAny_pure ⟨⟨rfl, rfl⟩, next⟩
  · rintro ⟨r1, r2⟩ s' ⟨⟨hr, rfl⟩, _⟩
    simp only at hr
    subst hr
    exact wpAny_pure h
end
/-! ### the set -/
/-- the rows of a set's payload -/
noncomputable def rw_ (P : Program) (w : World) (l : List (MKey × Addr)) : List (Int × Value) := l.map fun p => (mh P w p.1, Value.ref p.2)
noncomputable abbrev hsOf (P : Program) (w : World) (l : List (MKey × Addr)) : List Int := l.map fun p => mh P w p.1
structure Tps (P : Program) (w : World) (h : Heap) (a : Addr) (D : SD) (l : List (MKey × Addr)) : Prop where
  here : h.get? a = some (sObj "set" D)
  ent : D.1.toList = rw_ P w l
  tab : TabOk D.2.2 (hsOf P w l)
  led : w.params.followText "set-order" = true ∨ D.2.2.led = true
  nd : (l.map Prod.fst).Nodup
  tup : ∀ p ∈ l, IsM P w h p.1 p.2
  room : l.length * 5 < D.2.2.mask * 3
  few : l.length < 64
section
variable {P : Program} {w : World} {A : Around} {E : Value → Shared → Prop} {s : Shared} {a : Addr} {D : SD} {l : List (MKey × Addr)}
theorem rw_len {l : List (MKey × Addr)} : (rw_ P w l).length = l.length := List.length_map _
theorem Tps.size (R : Tps P w s.heap a D l) : D.1.size = l.length := by
  rw [← Array.length_toList, R.ent, rw_len]
theorem Tps.psize (R : Tps P w s.heap a D l) : D.2.2.place.size = l.length := by
  rw [R.tab.sz, List.length_map]
theorem fits_of {t : SetTable} {n : Nat} (h1 : t.place.size = n) (h2 : t.dummies = #[]) (h3 : n ≤ t.mask) : t.fits n = true := by
  unfold SetTable.fits SetTable.fill
  rw [h2, Bool.and_eq_true, beq_iff_eq, decide_eq_true_eq]
  show t.place.size = n ∧ t.place.size + 0 ≤ t.mask
  omega
theorem Tps.fits (R : Tps P w s.heap a D l) : D.2.2.fits D.1.size = true := by
  have h1 := R.size
  have h2 := R.room
  exact fits_of (by rw [R.psize, h1]) R.tab.dm (by omega)
theorem Tps.whole (R : Tps P w s.heap a D l) : ¬ D.2.2.gaveWay = true := by
  unfold SetTable.gaveWay
  rw [mask_odd R.tab.mok]
  decide
theorem Tps.row (R : Tps P w s.heap a D l) {i : Nat} {p : MKey × Addr} (h : l[i]? = some p) : D.1[i]? = some (mh P w p.1, Value.ref p.2) := by
  rw [← Array.getElem?_toList, R.ent]
  unfold rw_
  rw [List.getElem?_map, h]; rfl
/-- where a search stands behind c steps -/
noncomputable abbrev stp (m : Nat) (h : Int) (c : Nat) : SetTable.Probe := nth m (runAt m (SetTable.bits h % (m + 1)) (SetTable.bits h)) c
theorem nth_dummy (m : Nat) : ∀ (c : Nat) (p : SetTable.Probe), p.dummy = none → (nth m p c).dummy = none
  | 0, _, h => h
  | c + 1, p, h => nth_dummy m c (adv m p) (by unfold adv; split <;> exact h)
theorem stp_on (m : Nat) (h : Int) (c q : Nat) : nth m (stp m h c) q = stp m h (c + q) := (nth_add m c _ q).symm
/-- the search, from its c-th step on, with K the first empty slot -/
theorem seek (R : Tps P w s.heap a D l) {x : Addr} {k : MKey} (hx : IsM P w s.heap k x) (hu : A.units < cLine) {K : Nat} (hl : K < 10 * SetTable.turns D.2.2.mask)
    (hK : way D.2.2.mask (mh P w k) K ∉ D.2.2.place.toList) (hb : ∀ c, c < K → way D.2.2.mask (mh P w k) c ∈ D.2.2.place.toList) {Q : SetFound → Shared → Prop}
    (hin : k ∈ l.map Prod.fst → Q (.there none) s) (hout : k ∉ l.map Prod.fst → Q (.free (way D.2.2.mask (mh P w k) K) false) s) :
    ∀ (f c : Nat) (st : Option SetTable.Probe), st.getD (D.2.2.probeStart (mh P w k)) = stp D.2.2.mask (mh P w k) c → c ≤ K → K < f + c →
      (∀ (i : Nat) p, l[i]? = some p → p.1 = k → ∀ c', c' < c → D.2.2.place.toList[i]? ≠ some (way D.2.2.mask (mh P w k) c')) →
      wpAny (model P w) A (setSearchFrom a (.ref x) (mh P w k) true f st) Q E s := by
  intro f
  induction f with
  | zero => intro c st _ h1 h2; omega
  | succ f ih =>
    intro c st hst hc hf past
    rw [setSearchFrom_succ]
    refine wpAny_bind (wpAny_setState_of R.here rfl R.fits ?_)
    dsimp only
    refine wp_if_neg R.whole ?_
    try refine wpAny_bind (wpAny_pure ?_)
    have pl : ∀ q, (nth D.2.2.mask (stp D.2.2.mask (mh P w k) c) q).j = way D.2.2.mask (mh P w k) (c + q) := fun q => congrArg SetTable.Probe.j (stp_on _ _ c q)
    have spec := go_spec D.2.2 R.tab.ris R.tab.dm (fun i => (D.1[i]?.map (·.1)).getD 0) (mh P w k) (10 * SetTable.turns D.2.2.mask) (K - c) (stp D.2.2.mask (mh P w k) c) (nth_dummy _ c _ rfl) (by omega)
      (fun q hq => by rw [pl]; exact hb _ (by omega)) (by rw [pl, show c + (K - c) = K from by omega]; exact hK)
    -- a row with the key stands between c and K
    have ahead : ∀ (i : Nat) p, l[i]? = some p → p.1 = k → ∃ q, q < K - c ∧ D.2.2.place.toList[i]? = some (way D.2.2.mask (mh P w k) (c + q)) ∧ (D.1[i]?.map (·.1)).getD 0 = mh P w k := by
      intro i p hp e
      have hi : i < D.2.2.place.toList.length := by
        rw [Array.length_toList, R.psize]
        exact (List.getElem?_eq_some_iff.mp hp).1
      have hj := List.getElem?_eq_getElem hi
      obtain ⟨c', h1, h2⟩ := R.tab.before (h := mh P w k) hK (by rw [List.getElem?_map, hp, ← e]; rfl) hj
      have h3 : ¬ c' < c := fun z => past i p hp e c' z (by rw [hj, h2])
      refine ⟨c' - c, by omega, by rw [hj, ← h2, show c + (c' - c) = c' from by omega], ?_⟩
      rw [R.row hp, ← e]; rfl
    rcases spec with ⟨q, i, hq, hi, hh, hno, hpr⟩ | ⟨hno, hpr⟩
    · have hpr' : D.2.2.probe (fun i => (D.1[i]?.map (·.1)).getD 0) (mh P w k) (st.getD (D.2.2.probeStart (mh P w k))) = some (.candidate (way D.2.2.mask (mh P w k) (c + q)) i (stp D.2.2.mask (mh P w k) (c + (q + 1)))) := by
        rw [hst, ← pl, ← stp_on]
        exact hpr
      rw [hpr']
      dsimp only
      rw [pl] at hi
      have hil : i < l.length := by
        have h1 := (List.getElem?_eq_some_iff.mp hi).1
        rw [Array.length_toList, R.psize] at h1
        exact h1
      obtain ⟨p, hp⟩ : ∃ p, l[i]? = some p := ⟨_, List.getElem?_eq_getElem hil⟩
      have hm : p ∈ l := List.mem_of_getElem? hp
      have go : wpAny (model P w) A (searchRest a (.ref x) (mh P w k) true f D.1 D.2.2 (way D.2.2.mask (mh P w k) (c + q)) i (stp D.2.2.mask (mh P w k) (c + (q + 1)))) Q E s := by
        unfold searchRest
        rw [R.row hp]
        dsimp only
        refine wpAny_bind (wpAny_holding (wpAny_eqBool_tuple hu (R.tup p hm) hx ?_))
        refine wpAny_bind (wpAny_setState_of R.here rfl R.fits ?_)
        dsimp only
        by_cases e : p.1 = k
        · refine wp_if_pos (by simp [e]) (wpAny_pure ?_)
          exact hin (List.mem_map.mpr ⟨p, hm, e⟩)
        · refine wp_if_neg (by simp [e]) ?_
          try refine wpAny_bind (wpAny_pure ?_)
          rw [show D.2.2.sameMemory D.2.2.moves D.2.2.mask = some true from by unfold SetTable.sameMemory; rw [if_pos (beq_self_eq_true _)]]
          have live : D.2.2.slot (way D.2.2.mask (mh P w k) (c + q)) = .live i := slot_live R.tab.ris hi
          simp only [if_true, live, R.row hp]
          refine wpAny_bind (wpAny_isSame_ref_self (wpAny_bind (wpAny_pure ?_)))
          simp only [if_true]
          refine wp_if_neg (by simp [e]) ?_
          refine ih (c + (q + 1)) _ rfl (by omega) (by omega) fun i' p' hp' e' c' hc' hj' => ?_
          obtain ⟨q', z1, z2, z3⟩ := ahead i' p' hp' e'
          rcases Nat.lt_or_ge q' q with y | y
          · exact hno q' i' y (by rw [pl]; exact z2) z3
          · rw [z2] at hj'
            -- the place of a row is one: c + q' is at least c + q, so it is c + q itself, or c' is passed
            rcases Nat.lt_or_ge c' c with y' | y'
            · exact past i' p' hp' e' c' y' (by rw [z2]; exact hj')
            · rcases Nat.lt_or_ge c' (c + q) with y2 | y2
              · exact hno (c' - c) i' (by omega) (by rw [pl, show c + (c' - c) = c' from by omega, z2]; exact hj') z3
              · obtain rfl : c' = c + q := by omega
                have s1 := slot_live R.tab.ris (z2.trans hj')
                rw [live] at s1
                injection s1 with s1
                rw [← s1, hp] at hp'
                exact e ((congrArg Prod.fst (Option.some.inj hp')).trans e')
      by_cases hled : D.2.2.led = true
      · refine wp_if_neg (by simp [hled]) ?_
        try refine wpAny_bind (wpAny_pure ?_)
        exact go
      · refine wp_if_pos (by simp [hled]) ?_
        refine wpAny_bind (unseenM hx (fun y hy => ?_) ?_)
        · obtain ⟨e, he, rfl⟩ := List.mem_map.mp hy
          have he2 : e ∈ D.1.toList := by
            have z := (by simpa using he : e ∈ D.1 ∧ e.1 = mh P w k)
            simpa using z.1
          rw [R.ent] at he2
          obtain ⟨p2, hp2, rfl⟩ := List.mem_map.mp he2
          exact ⟨p2.1, p2.2, rfl, R.tup p2 hp2⟩
        · refine wp_if_neg (by decide) ?_
          try refine wpAny_bind (wpAny_pure ?_)
          exact go
    · have hpr' : D.2.2.probe (fun i => (D.1[i]?.map (·.1)).getD 0) (mh P w k) (st.getD (D.2.2.probeStart (mh P w k))) = some (.empty (way D.2.2.mask (mh P w k) K) none) := by
        rw [hst, show way D.2.2.mask (mh P w k) K = (nth D.2.2.mask (stp D.2.2.mask (mh P w k) c) (K - c)).j from by rw [pl, show c + (K - c) = K from by omega]]
        exact hpr
      rw [hpr']
      dsimp only
      refine wpAny_pure (hout fun hm => ?_)
      obtain ⟨p, hp, e⟩ := List.mem_map.mp hm
      obtain ⟨i, hi, ei⟩ := List.getElem_of_mem hp
      obtain ⟨q, z1, z2, z3⟩ := ahead i p (by rw [List.getElem?_eq_getElem hi, ei]) e
      exact hno q i z1 (by rw [pl]; exact z2) z3
end
/-! ### the table laid anew -/
theorem take_pick {α : Type} (l : List α) : ∀ n, n ≤ l.length → (List.range n).filterMap (fun i => l[i]?) = l.take n
  | 0, _ => rfl
  | n + 1, h => by
    rw [List.range_succ, List.filterMap_append, take_pick l n (by omega), List.take_succ]
    congr 1
theorem all_pick {α : Type} (l : List α) : (List.range l.length).filterMap (fun i => l[i]?) = l := by
  rw [take_pick l _ (Nat.le_refl _), List.take_length]
theorem fm_map {α β : Type} {f : α → Option β} {g : α → β} : ∀ {o : List α}, (∀ i ∈ o, f i = some (g i)) → o.filterMap f = o.map g
  | [], _ => rfl
  | i :: o, h => by
    rw [List.filterMap_cons_some (h i List.mem_cons_self), List.map_cons, fm_map fun j hj => h j (List.mem_cons_of_mem _ hj)]
section
variable {P : Program} {w : World} {A : Around} {E : Value → Shared → Prop} {s : Shared} {a : Addr} {es : Array (Int × Value)} {ep : Nat} {t : SetTable} {l : List (MKey × Addr)}
theorem relayM (ho : s.heap.get? a = some (sObj "set" (es, ep, t))) (he : es.toList = rw_ P w l) (T : TabOk t (hsOf P w l)) (led : w.params.followText "set-order" = true ∨ t.led = true) (nd : (l.map Prod.fst).Nodup)
    (tup : ∀ p ∈ l, IsM P w s.heap p.1 p.2) (few : l.length < 64) (hm : l.length ≤ t.mask) {wanted M : Nat} (hw : SetTable.sizeAbove wanted - 1 = M) (hM : MaskOk M) (hs : SetTable.sizeAbove wanted ≤ 128) (hroom : l.length * 5 < M * 3) {Q : Unit → Shared → Prop}
    (hQ : ∀ h' D' l', Heap.SameBut a s.heap h' → Tps P w h' a D' l' → l'.Perm l → Q () { s with heap := h' }) : wpAny (model P w) A (setRelay a wanted) Q E s := by
  have hsz : es.size = l.length := by rw [← Array.length_toList, he, rw_len]
  have row : ∀ i, es[i]? = (l[i]?).map fun (p : MKey × Addr) => (mh P w p.1, Value.ref p.2) := fun i => by
    rw [← Array.getElem?_toList, he]
    exact List.getElem?_map
  obtain ⟨t', o, er, po, T', em, el, _, _⟩ := relaid_ok t (hs := es.map (·.1)) (wanted := wanted) hw hM (by rw [Array.size_map, hsz]; omega)
  rw [Array.size_map, hsz] at po
  have inb : ∀ i ∈ o.toList, i < l.length := fun i hi => List.mem_range.mp (po.mem_iff.mp hi)
  -- the members in their new order
  have pl : (o.toList.filterMap fun i => l[i]?).Perm l := by
    have z := po.filterMap fun i => l[i]?
    rw [all_pick] at z
    exact z
  generalize hl2 : (o.toList.filterMap fun i => l[i]?) = l2 at pl
  have rows : (o.filterMap (es[·]?)).toList = rw_ P w l2 := by
    rw [Array.toList_filterMap, ← hl2]
    unfold rw_
    rw [List.map_filterMap]
    exact congrArg (fun f => List.filterMap f o.toList) (funext row)
  have T2 : TabOk t' (hsOf P w l2) := by
    have : (o.toList.map fun i => (es.map (·.1)).getD i 0) = hsOf P w l2 := by
      rw [← hl2, hsOf, List.map_filterMap]
      refine (fm_map fun i hi => ?_).symm
      have q := inb i hi
      rw [List.getElem?_eq_getElem q]
      show some _ = some _
      rw [Array.getD_eq_getD_getElem?, Array.getElem?_map, row i, List.getElem?_eq_getElem q]
      rfl
    rw [← this]; exact T'
  have hz2 : (o.filterMap (es[·]?)).size = es.size := by
    rw [← Array.length_toList, rows, rw_len, pl.length_eq, hsz]
  have fits : t.fits es.size = true := fits_of (by rw [T.sz, List.length_map, hsz]) T.dm (by omega)
  rw [setRelay_eq]
  refine wpAny_bind (wpAny_setState_of ho rfl fits ?_)
  dsimp only
  refine wp_if_neg (by rw [sizeLine_eq]; omega) ?_
  try refine wpAny_bind (wpAny_pure ?_)
  rw [er]
  dsimp only
  refine wpAny_bind ?_
  refine wp_if_neg (by rw [hz2]; simp) ?_
  try refine wpAny_bind (wpAny_pure ?_)
  refine wpAny_pure ?_
  dsimp only
  refine wpAny_storeSet_of ho rfl ?_ (by rw [hz2, hsz, sizeLine_eq]; omega)
  have sb : Heap.SameBut a s.heap (s.heap.update a (Obj.putSet (o.filterMap (es[·]?)) t')) := Heap.SameBut.update ..
  refine hQ _ (o.filterMap (es[·]?), ep + 1, t') l2 sb ⟨store_at ho rfl, rows, T2, by rw [el]; exact led, (pl.map _).nodup_iff.mpr nd, fun p hp => IsM.but (tup p (pl.mem_iff.mp hp)) ho sb, ?_, by rw [pl.length_eq]; exact few⟩ pl
  rw [pl.length_eq]
  show _ < t'.mask * 3
  rw [em]; exact hroom
/-- what a set has behind one more -/
noncomputable def Grown (k : MKey) (x : Addr) (l l' : List (MKey × Addr)) : Prop := (k ∈ l.map Prod.fst ∧ l' = l) ∨ (k ∉ l.map Prod.fst ∧ l'.Perm ((k, x) :: l))
theorem ins_perm {α : Type} (l : List α) (p : Nat) (x : α) : (l.take p ++ x :: l.drop p).Perm (x :: l) := by
  have h : (l.take p ++ x :: l.drop p).Perm (x :: (l.take p ++ l.drop p)) := List.perm_middle
  rwa [List.take_append_drop] at h
theorem joinM {D : SD} (R : Tps P w s.heap a D l) {x : Addr} {k : MKey} (hx : IsM P w s.heap k x) (hu : A.units < cLine) (hfew : l.length + 1 < 64) {Q : Bool → Shared → Prop}
    (hQ : ∀ b h' D' l', Heap.SameBut a s.heap h' → Tps P w h' a D' l' → Grown k x l l' → Q b { s with heap := h' }) : wpAny (model P w) A (setAddHashed a (.ref x) (mh P w k)) Q E s := by
  have hroom := R.room
  have hsz := R.size
  obtain ⟨K, hl, hK, hb⟩ := R.tab.first (by rw [List.length_map]; omega) (mh P w k)
  have big : K < 100000 := by
    have : 10 * SetTable.turns D.2.2.mask ≤ 1420 := by
      unfold SetTable.turns
      rcases R.tab.mok with e | e | e <;> omega
    omega
  obtain ⟨q1, q2, q3, q4, q5, _, _, _, q9⟩ := R.tab.put hK hb
  unfold setAddHashed
  refine wpAny_holding ?_
  rw [show (100000 : Nat) = 99999 + 1 from rfl, setAddHashedIn_succ]
  refine wpAny_bind (wpAny_setState_of R.here rfl R.fits ?_)
  dsimp only
  refine wp_if_neg (by simp [byScan, Value.scannable]) ?_
  try refine wpAny_bind (wpAny_pure ?_)
  refine wpAny_bind (seek R hx hu hl hK hb (fun hm => ?_) (fun hm => ?_) 100000 0 none rfl (Nat.zero_le _) (by omega) fun i p _ _ c' hc' => absurd hc' (Nat.not_lt_zero _))
  · dsimp only
    exact wpAny_pure (hQ false s.heap D l (Heap.SameBut.refl a s.heap) R (.inl ⟨hm, rfl⟩))
  · dsimp only
    refine wpAny_bind (wpAny_setState_of R.here rfl R.fits ?_)
    dsimp only
    generalize D.2.2.put (way D.2.2.mask (mh P w k) K) = pt at q1 q3 q4 q5 q9 ⊢
    obtain ⟨t1, p⟩ := pt
    dsimp only at q1 q3 q4 q5 q9 ⊢
    subst q1
    -- whatever the table tells of worth, the rest goes alike
    have rest : ∀ t2 : SetTable, TabOk t2 (((hsOf P w l).take (SetTable.below D.2.2.place (way D.2.2.mask (mh P w k) K))) ++ mh P w k :: (hsOf P w l).drop (SetTable.below D.2.2.place (way D.2.2.mask (mh P w k) K))) → t2.mask = D.2.2.mask → t2.led = D.2.2.led → t2.fill = (hsOf P w l).length + 1 →
        wpAny (model P w) A (do
          storeSet a (SetTable.insertAt D.1 (SetTable.below D.2.2.place (way D.2.2.mask (mh P w k) K)) (mh P w k, .ref x)) t2
          if !false && t2.tooFull then setRelay a (SetTable.grown (D.1.size + 1))
          return true) Q E s := by
      intro t2 T2 m2 l2 f2
      generalize hn : SetTable.below D.2.2.place (way D.2.2.mask (mh P w k) K) = n at T2
      have pm := ins_perm l n (k, x)
      have rows : (SetTable.insertAt D.1 n (mh P w k, Value.ref x)).toList = rw_ P w (l.take n ++ (k, x) :: l.drop n) := by
        rw [SetTable.toList_insertAt, R.ent]
        unfold rw_
        rw [List.map_append, List.map_cons, List.map_take, List.map_drop]
      have hs : (hsOf P w l).take n ++ mh P w k :: (hsOf P w l).drop n = hsOf P w (l.take n ++ (k, x) :: l.drop n) := by
        unfold hsOf
        rw [List.map_append, List.map_cons, List.map_take, List.map_drop]
      rw [hs] at T2
      generalize l.take n ++ (k, x) :: l.drop n = l1 at pm rows T2
      have len : l1.length = l.length + 1 := pm.length_eq
      have sz1 : (SetTable.insertAt D.1 n (mh P w k, Value.ref x)).size = l.length + 1 := by rw [← Array.length_toList, rows, rw_len, len]
      generalize SetTable.insertAt D.1 n (mh P w k, Value.ref x) = es1 at rows sz1 ⊢
      have nd1 : (l1.map Prod.fst).Nodup := (pm.map _).nodup_iff.mpr (List.nodup_cons.mpr ⟨hm, R.nd⟩)
      refine wpAny_bind (wpAny_storeSet_of R.here rfl ?_ (by rw [sz1, sizeLine_eq]; omega))
      have sb : Heap.SameBut a s.heap (s.heap.update a (Obj.putSet es1 t2)) := Heap.SameBut.update ..
      have ho1 : (s.heap.update a (Obj.putSet es1 t2)).get? a = some (sObj "set" (es1, D.2.1 + 1, t2)) := store_at R.here rfl
      generalize s.heap.update a (Obj.putSet es1 t2) = h1 at sb ho1 ⊢
      have tup1 : ∀ p ∈ l1, IsM P w h1 p.1 p.2 := fun p hp => by
        rcases List.mem_cons.mp (pm.mem_iff.mp hp) with rfl | hp
        · exact IsM.but hx R.here sb
        · exact IsM.but (R.tup p hp) R.here sb
      have led1 : w.params.followText "set-order" = true ∨ t2.led = true := by rw [l2]; exact R.led
      have fl : t2.fill = l.length + 1 := by rw [f2, List.length_map]
      by_cases hf : t2.tooFull = true
      · have full : (l.length + 1) * 5 ≥ t2.mask * 3 := by
          have h := hf
          unfold SetTable.tooFull at h
          rw [decide_eq_true_eq, fl] at h
          exact h
        have two : (D.2.2.mask = 7 ∧ l.length = 4) ∨ (D.2.2.mask = 31 ∧ l.length = 18) := by
          rcases R.tab.mok with e | e | e
          · left; rw [m2, e] at full; rw [e] at hroom; exact ⟨e, by omega⟩
          · right; rw [m2, e] at full; rw [e] at hroom; exact ⟨e, by omega⟩
          · exfalso; rw [m2, e] at full; omega
        have go : ∀ M, SetTable.sizeAbove (SetTable.grown (D.1.size + 1)) - 1 = M → MaskOk M → SetTable.sizeAbove (SetTable.grown (D.1.size + 1)) ≤ 128 → (l.length + 1) * 5 < M * 3 →
            wpAny (model P w) A (setRelay a (SetTable.grown (D.1.size + 1))) (fun _ s' => wpAny (model P w) A (pure true) Q E s') E { s with heap := h1 } := fun M g1 g2 g3 g4 =>
          relayM (s := { s with heap := h1 }) ho1 rows T2 led1 nd1 tup1 (by rw [len]; exact hfew) (by rw [len, m2]; rcases two with ⟨e, e2⟩ | ⟨e, e2⟩ <;> omega) g1 g2 g3 (by rw [len]; exact g4)
            fun h2 D2 l2 sb2 R2 pm2 => wpAny_pure (hQ true h2 D2 l2 (sb.trans sb2) R2 (.inr ⟨hm, pm2.trans pm⟩))
        have fin : wpAny (model P w) A (setRelay a (SetTable.grown (D.1.size + 1))) (fun _ s' => wpAny (model P w) A (pure true) Q E s') E { s with heap := h1 } := by
          rcases two with ⟨_, e2⟩ | ⟨_, e2⟩
          · refine go 31 (by rw [hsz, e2, size_20]) (.inr (.inl rfl)) (by rw [hsz, e2, size_20]; decide) (by omega)
          · refine go 127 (by rw [hsz, e2, size_76]) (.inr (.inr rfl)) (by rw [hsz, e2, size_76]; decide) (by omega)
        first
          | exact wpAny_bind (wp_if_pos (by simp [hf]) fin)
          | exact wp_if_pos (by simp [hf]) (wpAny_bind fin)
      · have done : Q true { s with heap := h1 } := by
          refine hQ true h1 _ l1 sb ⟨ho1, rows, T2, led1, nd1, tup1, ?_, by rw [len]; exact hfew⟩ (.inr ⟨hm, pm⟩)
          have h := hf
          unfold SetTable.tooFull at h
          rw [decide_eq_true_eq, fl] at h
          rw [len]
          show _ < t2.mask * 3
          omega
        first
          | exact wp_if_neg (by simp [hf]) (wpAny_pure done)
          | exact wpAny_bind (wp_if_neg (by simp [hf]) (wpAny_pure (wpAny_pure done)))
    have go1 : ∀ y : Bool, wpAny (model P w) A (do
          storeSet a (SetTable.insertAt D.1 (SetTable.below D.2.2.place (way D.2.2.mask (mh P w k) K)) (mh P w k, .ref x)) (if y then t1 else { t1 with plain := false })
          if !false && (if y then t1 else { t1 with plain := false } : SetTable).tooFull then setRelay a (SetTable.grown (D.1.size + 1))
          return true) Q E s := by
      intro y
      cases y with
      | true => exact rest t1 q3 q4 q5 q9
      | false => exact rest { t1 with plain := false } ⟨q3.ris, q3.dm, q3.sz, q3.mok, q3.bd, q3.reach⟩ q4 q5 q9
    by_cases hp : t1.plain = true
    · first
        | (refine wpAny_bind ?_; refine wp_if_pos hp ?_; exact worthM hx fun y => go1 y)
        | exact wp_if_pos hp (wpAny_bind (worthM hx fun y => go1 y))
    · first
        | (refine wpAny_bind ?_; refine wp_if_neg hp ?_; exact wpAny_pure (go1 true))
        | exact wp_if_neg hp (wpAny_bind (wpAny_pure (go1 true)))
        | exact wp_if_neg hp (go1 true)
end
end DPS
set_option Elab.async false
set_option linter.all false
set_option maxRecDepth 100000
set_option maxHeartbeats 4000000
/-! set(a list), whatever the members are; of tuples; of whole numbers -/
namespace DPS
open PySem PySem.Spec PyProof.Rows L2 PySem.Froz DMS
/-- no more than there are -/
theorem nd_le {α : Type} : ∀ {l U : List α}, l.Nodup → (∀ x ∈ l, x ∈ U) → l.length ≤ U.length := by
  classical
  intro l
  induction l with
  | nil => intro U _ _; exact Nat.zero_le _
  | cons x l ih =>
    intro U nd hm
    obtain ⟨a, b⟩ := List.nodup_cons.mp nd
    have hx := hm x List.mem_cons_self
    have q := ih (U := U.erase x) b fun y hy => (List.mem_erase_of_ne (fun z : y = x => a (by rw [← z]; exact hy))).mpr (hm y (List.mem_cons_of_mem _ hy))
    rw [List.length_erase_of_mem hx] at q
    have := List.length_pos_of_mem hx
    rw [List.length_cons]; omega
section
variable {P : Program} {w : World} {A : Around} {E : Value → Shared → Prop} {s : Shared}
/-! ### of tuples -/
/-- what has come from the first i -/
noncomputable def GotM (ks : List (MKey × Addr)) (i : Nat) (l : List (MKey × Addr)) : Prop := (∀ p ∈ l, p ∈ ks) ∧ ∀ p ∈ ks.take i, p.1 ∈ l.map Prod.fst
theorem GotM.next {ks l l' : List (MKey × Addr)} {i : Nat} {p : MKey × Addr} (g : GotM ks i l) (hp : ks[i]? = some p) (gr : Grown p.1 p.2 l l') : GotM ks (i + 1) l' := by
  have step : ks.take (i + 1) = ks.take i ++ [p] := by rw [List.take_succ, hp]; rfl
  rcases gr with ⟨hm, rfl⟩ | ⟨hm, pm⟩
  · refine ⟨g.1, fun q hq => ?_⟩
    rw [step] at hq
    rcases List.mem_append.mp hq with hq | hq
    · exact g.2 q hq
    · rw [List.mem_singleton.mp hq]; exact hm
  · have mm : ∀ k, k ∈ l'.map Prod.fst ↔ k = p.1 ∨ k ∈ l.map Prod.fst := fun k => by
      rw [(pm.map Prod.fst).mem_iff, List.map_cons, List.mem_cons]
    refine ⟨fun q hq => ?_, fun q hq => ?_⟩
    · rcases List.mem_cons.mp (pm.mem_iff.mp hq) with rfl | hq
      · exact List.mem_of_getElem? hp
      · exact g.1 q hq
    · rw [step] at hq
      rw [mm]
      rcases List.mem_append.mp hq with hq | hq
      · exact .inr (g.2 q hq)
      · rw [List.mem_singleton.mp hq]; exact .inl rfl
theorem Tps.kept {h h' : Heap} {a : Addr} {D : SD} {l : List (MKey × Addr)} (R : Tps P w h a D l) (e : h'.get? a = some (sObj "set" D)) (k : ∀ p ∈ l, ∀ o, h.get? p.2 = some o → h'.get? p.2 = some o) : Tps P w h' a D l :=
  ⟨e, R.ent, R.tab, R.led, R.nd, fun p hp => (R.tup p hp).at (k p hp), R.room, R.few⟩
end
end DPS
set_option Elab.async false
set_option linter.all false
set_option maxRecDepth 100000
set_option maxHeartbeats 4000000
/-! sorted(set(a list)): tuples of texts and numbers, whole numbers -/
namespace DPS
open PySem PySem.Spec PyProof.Rows L2 PySem.Froz DMS PySem.W DL
end DPS
namespace L2
open PySem PySem.Spec PyProof.Rows DPS DMS PySem.Froz DL
end L2
set_option Elab.async false
set_option linter.all false
set_option maxRecDepth 100000
set_option maxHeartbeats 4000000
/-! rules: sorted(set(a list of tuples of texts and numbers)), sorted(set(a list of whole numbers)) -/
namespace DL
open PySem PySem.Spec PyProof.Rows L2 DMS DPS PySem.W
end DL
set_option Elab.async false
set_option linter.all false
set_option maxRecDepth 100000
set_option maxHeartbeats 4000000
/-! ### sorted({e for ..}), e a text -/
namespace DMS
open PySem PySem.Spec PyProof.Rows L2 PySem.Froz
end DMS
namespace L2
open PySem PySem.Spec PyProof.Rows DMS PySem.Froz PpSet DL
end L2
set_option Elab.async false
set_option linter.all false
set_option maxRecDepth 100000
set_option maxHeartbeats 4000000
namespace DL
open PySem PySem.Spec PyProof.Rows L2 DMS
end DL
set_option Elab.async false
set_option linter.all false
set_option maxRecDepth 100000
set_option maxHeartbeats 4000000
/-! ### x == y by the class's own __eq__, len(x) by its own __len__ -/
namespace DL
open PySem PySem.Spec PyProof.Rows L2 PySem.W
end DL
set_option Elab.async false
set_option linter.all false
set_option maxRecDepth 100000
set_option maxHeartbeats 4000000
/-! ### x in d, d a dict whose keys are texts -/
namespace DL
open PySem PySem.Spec PyProof.Rows L2
end DL
set_option Elab.async false
set_option linter.all false
set_option maxRecDepth 100000
set_option maxHeartbeats 4000000
/-! ### x, y, z = a, b, c: a told as data, b and c as what is new -/
namespace DL
open PySem PySem.Spec PyProof.Rows L2
end DL
set_option Elab.async false
set_option linter.all false
set_option maxRecDepth 100000
set_option maxHeartbeats 4000000
/-! ### len of a dict whose keys are texts -/
namespace DL
open PySem PySem.Spec PyProof.Rows L2
end DL
set_option Elab.async false
set_option linter.all false
set_option maxRecDepth 100000
set_option maxHeartbeats 4000000
/-! ### an owned list handed to a def; what comes back may hold lists, but not that one -/
namespace DL
open PySem PySem.Spec PyProof.Rows L2
/-- these two never tell one and the same value: the one begins with a text, the other with an object -/
noncomputable def headStr : D → Bool
  | .tup (.str _ :: _) => true
  | _ => false
noncomputable def headIns : D → Bool
  | .tup (.ins _ _ :: _) => true
  | _ => false
theorem headStr_of {a : D} (h : headStr a = true) : ∃ x r, a = .tup (.str x :: r) := by
  unfold headStr at h
  split at h
  · exact ⟨_, _, rfl⟩
  · cases h
theorem headIns_of {a : D} (h : headIns a = true) : ∃ C f r, a = .tup (.ins C f :: r) := by
  unfold headIns at h
  split at h
  · exact ⟨_, _, _, rfl⟩
  · cases h
noncomputable def unl (a b : D) : Prop := headStr a = true ∧ headIns b = true
noncomputable def unlL : List D → List D → Prop
  | [], _ :: _ => True
  | _ :: _, [] => True
  | a :: _, b :: _ => unl a b
  | [], [] => False
mutual
/-- no list in it is the one that is told by ds -/
noncomputable def D.apart (ds : List D) : D → Prop
  | .non => True
  | .bl _ => True
  | .int _ => True
  | .str _ => True
  | .lst es => unlL es ds ∧ D.aparts ds es
  | .tup es => D.aparts ds es
  | .dic _ es => D.apartE ds es
  | .ins _ fs => D.apartF ds fs
  | .glb _ => True
  | .bag => True
  | .lock _ _ => False
  | .at _ _ => False
noncomputable def D.aparts (ds : List D) : List D → Prop
  | [] => True
  | e :: es => e.apart ds ∧ D.aparts ds es
noncomputable def D.apartE (ds : List D) : List (D × D) → Prop
  | [] => True
  | (_, e) :: es => e.apart ds ∧ D.apartE ds es
noncomputable def D.apartF (ds : List D) : List (Str × D) → Prop
  | [] => True
  | (_, e) :: es => e.apart ds ∧ D.apartF ds es
end
section
variable {K : PySem.W.Frag} {G G' : Gh} {H H' : Hp}
theorem unl_no {a b : D} {v : V} (u : unl a b) (h1 : Dt K G H a v) (h2 : Dt K G H b v) : False := by
  obtain ⟨x, r, rfl⟩ := headStr_of u.1
  obtain ⟨C, f, r', rfl⟩ := headIns_of u.2
  obtain ⟨p, us, rfl, e1, z, r, rfl, d1, _⟩ := h1
  obtain ⟨q, vs, e, e2, w, r', rfl, d2, _⟩ := h2
  cases e
  rw [e1] at e2
  cases e2
  obtain ⟨p, _, _, e, _⟩ := d2
  rw [show z = _ from d1] at e
  cases e
theorem unlL_no {a b : List D} {vs : List V} (u : unlL a b) (h1 : DtL K G H a vs) (h2 : DtL K G H b vs) : False := by
  cases a with
  | nil =>
    cases b with
    | nil => exact u
    | cons y b =>
      obtain rfl := h1
      obtain ⟨_, _, e, _⟩ := h2
      cases e
  | cons x a =>
    cases b with
    | nil =>
      obtain rfl := h2
      obtain ⟨_, _, e, _⟩ := h1
      cases e
    | cons y b =>
      obtain ⟨p, _, rfl, d1, _⟩ := h1
      obtain ⟨q, _, e, d2, _⟩ := h2
      cases e
      exact unl_no u d1 d2
/-- what holds where the list p is open to all holds where it is not, if it does not come to it -/
structure Sep (K : PySem.W.Frag) (G G' : Gh) (H H' : Hp) (ds : List D) (p : Addr) : Prop where
  bg : G'.bg = G.bg
  xs : ∃ xs, (H p = some (.lst xs) ∨ ∃ o, H p = some (.frz o (.lst xs))) ∧ DtL K G H ds xs
  own : ∀ a, a ≠ p → ¬ G.own a → ¬ G'.own a
  hp : ∀ a, a ≠ p → H' a = H a
mutual
theorem Sep.dt {ds : List D} {p : Addr} (s : Sep K G G' H H' ds p) : ∀ (d : D) (v : V), d.apart ds → Dt K G H d v → Dt K G' H' d v
  | .non, v, _, h => h
  | .bl b, v, _, h => h
  | .int i, v, _, h => h
  | .str x, v, _, h => h
  | .lst es, v, u, h => by
    obtain ⟨a, xs, h1, h2, h3, h4⟩ := h
    simp only [D.apart] at u
    have ne : a ≠ p := fun e => by
      subst e
      obtain ⟨ys, hy, dy⟩ := s.xs
      rcases hy with hy | ⟨o, hy⟩ <;> rw [h3] at hy <;> cases hy
      exact unlL_no u.1 h4 dy
    exact ⟨a, xs, h1, s.own a ne h2, by rw [s.hp a ne]; exact h3, Sep.dts s es xs u.2 h4⟩
  | .tup es, v, u, h => by
    obtain ⟨a, xs, h1, h3, h4⟩ := h
    simp only [D.apart] at u
    have ne : a ≠ p := fun e => by
      subst e
      obtain ⟨ys, hy, dy⟩ := s.xs
      rcases hy with hy | ⟨o, hy⟩ <;> rw [h3] at hy <;> cases hy
    exact ⟨a, xs, h1, by rw [s.hp a ne]; exact h3, Sep.dts s es xs u h4⟩
  | .dic t es, v, u, h => by
    obtain ⟨a, h1, h2, h3⟩ := h
    simp only [D.apart] at u
    have ne : a ≠ p := fun e => by
      subst e
      obtain ⟨ys, hy, dy⟩ := s.xs
      rcases h3 with ⟨kvs, h3, _⟩ | ⟨kvs, h3, _⟩ <;> rcases h3 with h3 | ⟨_, h3⟩ <;> rcases hy with hy | ⟨o, hy⟩ <;> rw [h3] at hy <;> cases hy
    have rd : ∀ {z : HO}, Rd H a z → Rd H' a z := fun {z} r => by
      rcases r with r | ⟨o, r⟩
      · exact .inl (by rw [s.hp a ne]; exact r)
      · exact .inr ⟨o, by rw [s.hp a ne]; exact r⟩
    rcases h3 with ⟨kvs, h3, h4⟩ | ⟨kvs, h3, h4⟩
    · exact ⟨a, h1, s.own a ne h2, .inl ⟨kvs, rd h3, Sep.dtp s t es kvs u h4⟩⟩
    · exact ⟨a, h1, s.own a ne h2, .inr ⟨kvs, rd h3, Sep.dtq s t es kvs u h4⟩⟩
  | .ins C fs, v, u, h => by
    obtain ⟨a, dx, vs, h1, h2, h3, h4⟩ := h
    simp only [D.apart] at u
    have ne : a ≠ p := fun e => by
      subst e
      obtain ⟨ys, hy, dy⟩ := s.xs
      rcases hy with hy | ⟨o, hy⟩ <;> rw [h3] at hy <;> cases hy
    exact ⟨a, dx, vs, h1, s.own a ne h2, by rw [s.hp a ne]; exact h3, Sep.dtf s fs vs u h4⟩
  | .glb a, v, _, h => h
  | .bag, v, _, h => by
    have h' : v = .ref G.bg := h
    show v = .ref G'.bg
    rw [s.bg]; exact h'
  | .lock o u, v, q, h => by simp only [D.apart] at q
  | .at _ _, v, q, h => by simp only [D.apart] at q
theorem Sep.dts {ds : List D} {p : Addr} (s : Sep K G G' H H' ds p) : ∀ (es : List D) (xs : List V), D.aparts ds es → DtL K G H es xs → DtL K G' H' es xs
  | [], xs, _, h => h
  | d :: es, xs, u, h => by
    obtain ⟨x, r, h1, h2, h3⟩ := h
    simp only [D.aparts] at u
    exact ⟨x, r, h1, Sep.dt s d x u.1 h2, Sep.dts s es r u.2 h3⟩
theorem Sep.dtp {ds : List D} {p : Addr} (s : Sep K G G' H H' ds p) (t : Bool) : ∀ (es : List (D × D)) (kvs : List (Key × V)), D.apartE ds es → DtP K G H t es kvs → DtP K G' H' t es kvs
  | [], xs, _, h => h
  | (k, d) :: es, kvs, u, h => by
    obtain ⟨j, v, r, h1, h2, h3, h4⟩ := h
    simp only [D.apartE] at u
    exact ⟨j, v, r, h1, h2, Sep.dt s d v u.1 h3, Sep.dtp s t es r u.2 h4⟩
theorem Sep.dtq {ds : List D} {p : Addr} (s : Sep K G G' H H' ds p) (t : Bool) : ∀ (es : List (D × D)) (kvs : List (List Key × V)), D.apartE ds es → DtQ K G H t es kvs → DtQ K G' H' t es kvs
  | [], xs, _, h => h
  | (k, d) :: es, kvs, u, h => by
    obtain ⟨j, v, r, h1, h2, h3, h4⟩ := h
    simp only [D.apartE] at u
    exact ⟨j, v, r, h1, h2, Sep.dt s d v u.1 h3, Sep.dtq s t es r u.2 h4⟩
theorem Sep.dtf {ds : List D} {p : Addr} (s : Sep K G G' H H' ds p) : ∀ (es : List (Str × D)) (kvs : List (Str × V)), D.apartF ds es → DtF K G H es kvs → DtF K G' H' es kvs
  | [], xs, _, h => h
  | (k, d) :: es, kvs, u, h => by
    obtain ⟨v, r, h1, h3, h4⟩ := h
    simp only [D.apartF] at u
    exact ⟨v, r, h1, Sep.dt s d v u.1 h3, Sep.dtf s es r u.2 h4⟩
end
end
end DL
set_option Elab.async false
set_option linter.all false
set_option maxRecDepth 100000
set_option maxHeartbeats 4000000
/-! ### x in y by y's own __contains__, properties, pops within expressions -/
namespace DL
open PySem PySem.Spec PyProof.Rows L2 PySem.W
/-! properties -/
structure PropP (P : Program) (w : World) (K : PySem.W.Frag) (mg : Str → Option Value) (base : Heap) (n : Nat) (C : Addr) (f : Str) (R : RD) : Prop where
  ex : ∃ (g : Addr) (fd : FuncData) (ps : List Str) (k : Nat) (p : Addr), k + 1 ≤ n ∧ FnG P w K mg base CX0 k g fd ps (spD K R) ∧ Cls K C ∧ PropOf K C f p g ∧ Binds K fd ps []
theorem PropP.mono {P : Program} {w : World} {K : PySem.W.Frag} {mg : Str → Option Value} {base : Heap} {n n' : Nat} {C : Addr} {f : Str} {R : RD} (c : PropP P w K mg base n C f R) (h : n ≤ n') : PropP P w K mg base n' C f R :=
  let ⟨g, fd, ps, k, p, hk, r⟩ := c.ex
  ⟨g, fd, ps, k, p, by omega, r⟩
noncomputable def propT (C : Addr) (R : RD) (t : TD) : TD := fun ρ k => t ρ fun x => (∃ fs, x = .ins C fs) ∧ R [x] k
/-! ### x.pop() within an expression -/
noncomputable def popE (i : Nat) : TDE := fun ρ k => match ρ[i]? with
  | some (.tr (.l ts)) => ∃ us d, ts = us ++ [.d d] ∧ k d (ρ.set i (.tr (.l us)))
  | _ => False
section
variable {X : Cx} {F : Fr} {e l : Expr} {tE tl : TDE} {n : Nat} {x : Str} {R : RD} {p px pos apos cpos : Pos}
/-- f(e), e with effects -/
noncomputable def callE (R : RD) (t : TDE) : TDE := fun ρ k => t ρ fun d ρ' => R [d] fun y => k y ρ'
/-- a, b = e, e with effects -/
noncomputable def tgtE (t : Tg) (te : TDE) : TSD := fun k ρ => te ρ fun d ρ' => tgD t d ρ' k.nx
/-! for over what an expression with effects gives -/
noncomputable def seqE (t : TDE) : List Sl → (List D → List Sl → Prop) → Prop := fun ρ k => t ρ fun d ρ' => match d with
  | .lst ds => k ds ρ'
  | .tup ds => k ds ρ'
  | _ => False
noncomputable def forE (t : Tg) (I : List Sl → (List D → List Sl → Prop) → Prop) (S : TSD) : TSD := fun k ρ => I ρ fun ds ρ' => loopT t S k ds ρ'
end
end DL
set_option Elab.async false
set_option linter.all false
set_option maxRecDepth 100000
set_option maxHeartbeats 4000000
/-! ### owned dicts with text keys that hold an owned list; changes within what is owned -/
namespace DL
open PySem PySem.Spec PyProof.Rows L2 PySem.W
/-- x["k"] = something new, x an owned dict of data without that key -/
noncomputable def dputKR (i : Nat) (y : Str) (tr : TRD) : TSD := fun k ρ => ∃ es : List (D × D), ρ[i]? = some (.tr (.m false (es.map dE))) ∧ D.str y ∉ es.map (·.1) ∧ es.length < sizeLine ∧ tr ρ fun t => k.nx (ρ.set i (.tr (.m false (es.map dE ++ [(.str y, t)]))))
section
variable {X : Cx} {F : Fr} {e : Expr} {tr : TRD} {pos px kpos tpos : Pos} {x y : Str}
/-- x["k"][j] = e, the list at the last key being owned -/
noncomputable def dputL (i : Nat) (y : Str) (z : Int) (te : TD) : TSD := fun k ρ => ∃ (es : List (D × D)) (us : List Tr) (n : Nat) (c : D), ρ[i]? = some (.tr (.m false (es.map dE ++ [(.str y, .l us)]))) ∧ D.str y ∉ es.map (·.1) ∧ ixN us.length z = some n ∧ us[n]? = some (.d c) ∧ te ρ fun d => k.nx (ρ.set i (.tr (.m false (es.map dE ++ [(.str y, .l (us.set n (.d d)))]))))
/-- return x, an owned dict at whose last key an owned list stands: that one is data from here on -/
noncomputable def retOF (i : Nat) : TSD := fun k ρ => ∃ (es : List (D × D)) (y : D) (us : List D), ρ[i]? = some (.tr (.m false (es.map dE ++ [(y, .l (us.map .d))]))) ∧ k.rt (.m false ((es ++ [(y, D.lst us)]).map dE))
end
end DL
set_option Elab.async false
set_option linter.all false
set_option maxRecDepth 100000
set_option maxHeartbeats 4000000
/-! ### tuples of texts of the module; x[j].append(e) of what is owned; dicts with text keys, owned -/
namespace DL
open PySem PySem.Spec PyProof.Rows L2 PySem.W
/-! x[j].append(e) -/
noncomputable def appIx (i : Nat) (z : Int) (ta : TLD) : TSD := fun k ρ => match ρ[i]? with
  | some (.tr (.l ts)) => ∃ n us, ixN ts.length z = some n ∧ ts[n]? = some (.l us) ∧ us.length < sizeLine ∧ ta ρ fun args => ∃ d, args = [d] ∧ k.nx (ρ.set i (.tr (.l (ts.set n (.l (us ++ [.d d]))))))
  | _ => False
theorem OwL.pick {K : PySem.W.Frag} {G : Gh} {H : Hp} : ∀ {n : Nat} {ts : List Tr} {xs : List V} {L : List Addr} {t : Tr}, OwL K G H ts xs L → ts[n]? = some t → ∃ v A M B, xs[n]? = some v ∧ L = A ++ (M ++ B) ∧ Ow K G H t v M ∧
    ∀ G' H' t', (∀ u w N, (∀ p ∈ N, p ∈ A ∨ p ∈ B) → Ow K G H u w N → Ow K G' H' u w N) → Ow K G' H' t' v M → OwL K G' H' (ts.set n t') xs L
  | 0, t :: ts, _, _, u, h, e => by
    obtain ⟨x, r, M, N, rfl, h1, h2, rfl⟩ := h
    obtain rfl : t = u := by simpa using e
    refine ⟨x, [], M, N, rfl, rfl, h1, fun G' H' t' g h' => ⟨x, r, M, N, rfl, h', ?_, rfl⟩⟩
    have all : ∀ {ts : List Tr} {xs : List V} {L : List Addr}, OwL K G H ts xs L → (∀ p ∈ L, p ∈ N) → OwL K G' H' ts xs L := by
      intro ts
      induction ts with
      | nil => intro xs L h _; exact h
      | cons t ts ih =>
        intro xs L h s
        obtain ⟨x, r, A, B, rfl, h1, h2, rfl⟩ := h
        exact ⟨x, r, A, B, rfl, g _ _ _ (fun p hp => .inr (s p (List.mem_append_left _ hp))) h1, ih h2 fun p hp => s p (List.mem_append_right _ hp), rfl⟩
    exact all h2 fun _ h => h
  | n + 1, t :: ts, _, _, u, h, e => by
    obtain ⟨x, r, M, N, rfl, h1, h2, rfl⟩ := h
    obtain ⟨v, A, M', B, e1, rfl, e2, e3⟩ := OwL.pick h2 (by simpa using e)
    refine ⟨v, M ++ A, M', B, by simpa using e1, by simp, e2, fun G' H' t' g h' => ⟨x, r, M, _, rfl, g _ _ _ (fun p hp => .inl (List.mem_append_left _ hp)) h1, e3 G' H' t' (fun u w N s => g u w N fun p hp => (s p hp).imp (List.mem_append_right _) _root_.id) h', rfl⟩⟩
  | n, [], _, _, _, h, e => by simp at e
/-! {"k": e, ..} of its own -/
noncomputable def dispR (ks : List Str) (ta : TLD) : TRD := fun ρ k => ta ρ fun ds => k (.m false (((ks.map D.str).zip ds).map dE))
section
variable {X : Cx} {F : Fr} {pos p : Pos} {keys : List (Option Expr)} {values : List Expr} {ks : List Str} {ta : TLD} {e : Expr}
/-- dict(d) of its own -/
noncomputable def dictDT (ta : TLD) : TRD := fun ρ k => ta ρ fun ds => ∃ es : List (D × D), ds = [.dic false es] ∧ k (.m false (es.map dE))
end
end DL
set_option Elab.async false
set_option linter.all false
set_option maxRecDepth 100000
set_option maxHeartbeats 4000000
/-! ### an owned dict handed to a def, several new things at once, slices of lists as new lists -/
namespace DL
open PySem PySem.Spec PyProof.Rows L2 PySem.W
mutual
/-- no dict, no object, nothing locked in it -/
noncomputable def D.noM : D → Bool
  | .non | .bl _ | .int _ | .str _ => true
  | .lst es => D.noMs es
  | .tup es => D.noMs es
  | _ => false
noncomputable def D.noMs : List D → Bool
  | [] => true
  | e :: es => D.noM e && D.noMs es
end
section
variable {K : PySem.W.Frag} {G G' : Gh} {H H' : Hp}
structure SepM (K : PySem.W.Frag) (G G' : Gh) (H H' : Hp) (p : Addr) : Prop where
  dk : ∃ kvs, H p = some (.dK kvs) ∨ ∃ o, H p = some (.frz o (.dK kvs))
  own : ∀ a, a ≠ p → ¬ G.own a → ¬ G'.own a
  hp : ∀ a, a ≠ p → H' a = H a
mutual
theorem SepM.dt {p : Addr} (s : SepM K G G' H H' p) : ∀ (d : D) (v : V), d.noM = true → Dt K G H d v → Dt K G' H' d v
  | .non, v, _, h => h
  | .bl b, v, _, h => h
  | .int i, v, _, h => h
  | .str x, v, _, h => h
  | .lst es, v, u, h => by
    obtain ⟨a, xs, h1, h2, h3, h4⟩ := h
    simp only [D.noM] at u
    have ne : a ≠ p := fun e => by
      subst e
      obtain ⟨ys, hy⟩ := s.dk
      rcases hy with hy | ⟨o, hy⟩ <;> rw [h3] at hy <;> cases hy
    exact ⟨a, xs, h1, s.own a ne h2, by rw [s.hp a ne]; exact h3, SepM.dts s es xs u h4⟩
  | .tup es, v, u, h => by
    obtain ⟨a, xs, h1, h3, h4⟩ := h
    simp only [D.noM] at u
    have ne : a ≠ p := fun e => by
      subst e
      obtain ⟨ys, hy⟩ := s.dk
      rcases hy with hy | ⟨o, hy⟩ <;> rw [h3] at hy <;> cases hy
    exact ⟨a, xs, h1, by rw [s.hp a ne]; exact h3, SepM.dts s es xs u h4⟩
  | .dic t es, v, u, h => by simp [D.noM] at u
  | .ins C es, v, u, h => by simp [D.noM] at u
  | .bag, v, u, h => by simp [D.noM] at u
  | .glb a, v, u, h => by simp [D.noM] at u
  | .lock _ _, v, u, h => by simp [D.noM] at u
  | .at _ _, v, u, h => by simp [D.noM] at u
theorem SepM.dts {p : Addr} (s : SepM K G G' H H' p) : ∀ (es : List D) (vs : List V), D.noMs es = true → DtL K G H es vs → DtL K G' H' es vs
  | [], vs, _, h => h
  | e :: es, vs, u, h => by
    obtain ⟨x, r, h1, h2, h3⟩ := h
    simp only [D.noMs, Bool.and_eq_true] at u
    exact ⟨x, r, h1, SepM.dt s e x u.1 h2, SepM.dts s es r u.2 h3⟩
end
end
/-- e, in which x, an owned dict of data, stands; the result has no dict in it -/
noncomputable def thruM (i : Nat) (t : TD) : TD := fun ρ k => ∃ es : List (D × D), ρ[i]? = some (.tr (.m false (es.map dE))) ∧ t (ρ.set i (.dat (.dic false es))) fun d => d.noM = true ∧ k d
/-- dict(x), x an owned dict of data, of its own -/
noncomputable def dictOT (i : Nat) : TRD := fun ρ k => ∃ es : List (D × D), ρ[i]? = some (.tr (.m false (es.map dE))) ∧ k (.m false (es.map dE))
section
variable {X : Cx} {F : Fr} {e a b c : Expr} {te ta : TD} {tr tb tc : TRD} {G : Gh} {H H' : Hp} {pos p px py pz pt pt2 : Pos} {x y z : Str} {i j l kt k2 : Nat}
/-! several new things -/
noncomputable def par2T (i j : Nat) (ta tb : TRD) : TSD := fun k ρ => ta ρ fun t => tb ρ fun u => k.nx ((ρ.set i (.tr t)).set j (.tr u))
noncomputable def parDT (i j : Nat) (ta : TD) (tb : TRD) : TSD := fun k ρ => ta ρ fun d => tb ρ fun u => k.nx ((ρ.set i (.dat d)).set j (.tr u))
noncomputable def par3T (i j l : Nat) (ta tb tc : TRD) : TSD := fun k ρ => ta ρ fun t => tb ρ fun u => tc ρ fun w => k.nx (((ρ.set i (.tr t)).set j (.tr u)).set l (.tr w))
end
end DL
set_option Elab.async false
set_option linter.all false
set_option maxRecDepth 100000
set_option maxHeartbeats 4000000
/-! ### x.f, x a name that owns the object -/
namespace DL
open PySem PySem.Spec PyProof.Rows L2 PySem.W
noncomputable def fldO (i : Nat) (C : Addr) (f : Str) : TD := fun ρ k => ∃ s fs mk d, ρ[i]? = some s ∧ s.tree = some (.o C fs, mk) ∧ fs.lookup f = some (.d d) ∧ k d
end DL
set_option Elab.async false
set_option linter.all false
set_option maxRecDepth 100000
set_option maxHeartbeats 4000000
/-! ### x, y = a, b where the names are cells: through a tuple; a is new -/
namespace DL
open PySem PySem.Spec PyProof.Rows L2 PySem.W
end DL
set_option Elab.async false
set_option linter.all false
set_option maxRecDepth 100000
set_option maxHeartbeats 4000000
/-! ### x[k], x a name that owns a dict of data -/
namespace DL
open PySem PySem.Spec PyProof.Rows L2 PySem.W
end DL
set_option Elab.async false
set_option linter.all false
set_option maxRecDepth 100000
set_option maxHeartbeats 4000000
/-! ### x.count(e), x a list of data: some number -/
namespace DL
open PySem PySem.Spec PyProof.Rows L2 PySem.W
end DL
set_option Elab.async false
set_option linter.all false
set_option maxRecDepth 100000
set_option maxHeartbeats 4000000
/-! DR9: a tuple once, or no time at all -/
namespace L2
open PySem PySem.Spec PyProof.Rows
end L2
namespace DL
open PySem PySem.Spec PyProof.Rows L2
end DL
set_option Elab.async false
set_option linter.all false
set_option maxRecDepth 100000
set_option maxHeartbeats 4000000
/-! DS1: x is None -/
namespace DL
open PySem PySem.Spec PyProof.Rows L2
end DL
set_option Elab.async false
set_option linter.all false
set_option maxRecDepth 100000
set_option maxHeartbeats 2000000
/-! own errors: def __init__(self, f): super().__init__(f); self.f = f -/
namespace PySem
namespace ErrX
open PySem.W PySem.Calls PyProof.Rows PySem.HandSPX
noncomputable def iA (f : Str) (p1 p2 : Pos) : Arguments := { posonlyargs := [], args := [{ arg := "self", annotation := none, pos := p1 }, { arg := f, annotation := none, pos := p2 }], vararg := none, kwonlyargs := [], kw_defaults := [], kwarg := none, defaults := [] }
noncomputable def iS (f : Str) : Scope := { kind := .function, names := [(PySem.Str.ofString "self", .local), (f, .local), (PySem.Str.ofString "__class__", .free), (PySem.Str.ofString "super", .globalImplicit)], isGenerator := false, isCoroutine := false, more := [] }
noncomputable def iB (f : Str) (a b c d e e' q1 q2 q3 q4 : Pos) : List Stmt := [.Expr (.Call (.Attribute (.Call (.Name "super" a) [] [] b) "__init__" c) [.Name f d] [] e) e', .Assign [.Attribute (.Name "self" q1) f q2] (.Name f q3) q4]
/-- the function of such an __init__ -/
noncomputable abbrev iF (f qual : Str) (p1 p2 a b c d e e' q1 q2 q3 q4 : Pos) (doc pm : Value) (an : Option Addr) (cdv ct : Value) (cc : Addr) : FuncData :=
  ksFn "__init__" qual (iA f p1 p2) (iB f a b c d e e' q1 q2 q3 q4) (iS f) .none .none doc pm an cdv ct cc
/-- a name that does not meet the others of the scope -/
structure FOk (f : Str) : Prop where
  self : f ≠ "self"
  cls : f ≠ "__class__"
  sup : f ≠ "super"
  dbg : (f == ("__debug__" : Str)) = false
  dct : (f == ("__dict__" : Str)) = false
structure ErrTxt (prog : Program) (K : Frag) (mg : Str → Option Value) (x f qual : Str) (C fI : Addr) : Prop where
  fok : FOk f
  gC : mg x = some (.ref C)
  gS : mg "super" = none
  top : (prog.main.scope.names.lookup ("super" : Str)).isSome = false
  cls : ∃ nm q N bs bm sn sub ab col dd k0 k1 k2 k3 k5, K.lookup C = some (excClassObj nm q C N bs bm true sn sub ab col dd k0 k1 k2 k3 k5 "ValueError.__new__") ∧ refsVE bm = true
  sa : findIn K (.ref C) "__setattr__" = some (some (.builtin "object.__setattr__"))
  ga : findIn K (.ref C) "__getattribute__" = some (some (.builtin "BaseException.__getattribute__"))
  gg : findIn K (.ref C) "__getattr__" = some none
  noN : findIn K (.ref C) f = some none
  iC : findIn K (.ref C) "__init__" = some (some (.ref fI))
  tC : typeIn K (.ref fI) = some (.type "function")
  kC : keepIn K (.ref C) = true
  exC : subIn K (.ref C) (.type "BaseException") = some true
  veC : subIn K (.ref C) (.type "ValueError") = some true
  tyC : typeIn K (.ref C) = some (.type "type")
  hdC : hasDictIn K C = true
  selfC : mroIn K C (.ref C) = some true
  supC : ks_superIn K C C "__init__" = some (some (.builtin "ValueError.__init__"))
  opq : nsIn K cStatics "thirdparty.any" = some none
  fn : ∃ (oc : Value) (od : Option Addr) (doc pm : Value) (an : Option Addr) (cda cc : Addr) (ct : Value) (osl : Array (Option Value)) (p1 p2 a b c d e e' q1 q2 q3 q4 : Pos),
    K.lookup fI = some ⟨oc, od, .func (iF f qual p1 p2 a b c d e e' q1 q2 q3 q4 doc pm an (.ref cda) ct cc), osl⟩ ∧ codeIn K (.ref cda) qual = true ∧
    (∃ ccl cdd vs ccs file tf, K.lookup cda = some ⟨ccl, cdd, .fields vs, ccs⟩ ∧ vs[2]? = some (.str file tf) ∧ ((prog.main.file : Str) == file) = true) ∧
    (∃ cl cld csl, K.lookup cc = some ⟨cl, cld, .cell (some (.ref C)), csl⟩) ∧
    (∀ u v : Value, bindArgs (iF f qual p1 p2 a b c d e e' q1 q2 q3 q4 doc pm an (.ref cda) ct cc) ⟨[u, v], []⟩ = pure [(("self" : Str), u), (f, v)]) ∧
    (∃ pl : Sem Bool, ∀ L : Addr, eval (.Call (.Attribute (.Call (.Name "super" a) [] [] b) "__init__" c) [.Name f d] [] e) (callEnv (iF f qual p1 p2 a b c d e e' q1 q2 q3 q4 doc pm an (.ref cda) ct cc) L fI) = (do
      let ov ← attributeBase (.Call (.Name "super" a) [] [] b) "__init__" (callEnv (iF f qual p1 p2 a b c d e e' q1 q2 q3 q4 doc pm an (.ref cda) ct cc) L fI) (eval (.Call (.Name "super" a) [] [] b) (callEnv (iF f qual p1 p2 a b c d e e' q1 q2 q3 q4 doc pm an (.ref cda) ct cc) L fI))
      standAt c.atName
      let (g, first) ← holding [ov] (getMethod ov "__init__" pl)
      callWith e g first (backTo e (starEach [.Name f d] (callEnv (iF f qual p1 p2 a b c d e e' q1 q2 q3 q4 doc pm an (.ref cda) ct cc) L fI))) [])) ∧
    (∀ L : Addr, swapsWith (.Name f q3) (some (.Attribute (.Name "self" q1) f q2)) q4.line (callEnv (iF f qual p1 p2 a b c d e e' q1 q2 q3 q4 doc pm an (.ref cda) ct cc) L fI) = pure false)
/-- what __init__ leaves of a fresh exception at x -/
structure InitEnd (f : Str) (h h' : Heap) (x C dx t1 : Addr) (v : Value) : Prop where
  keep : ∀ b o, b ≠ x → h.get? b = some o → h'.get? b = some o
  obj : h'.get? x = some { cls := .ref C, dict := some dx, data := .fields #[.ref t1, .none, .none, .none, .bool false, .none] }
  dbig : h.objs.size ≤ dx
  dne : dx ≠ x
  ns : h'.Ns1 dx (fun y => if y = f then some v else none)
theorem lk_self {f : Str} (o : FOk f) : (iS f).names.lookup ("self" : Str) = some .local := rfl
theorem lk_f {f : Str} (o : FOk f) : (iS f).names.lookup f = some .local := by
  have h1 : (f == (PySem.Str.ofString "self")) = false := by simpa using o.self
  show (match f == (PySem.Str.ofString "self") with | true => _ | false => _) = _
  rw [h1]
  show (match f == f with | true => _ | false => _) = _
  rw [beq_self_eq_true]
theorem lk_cls {f : Str} (o : FOk f) : (iS f).names.lookup ("__class__" : Str) = some .free := by
  have h1 : (("__class__" : Str) == f) = false := by simpa using fun e => o.cls e.symm
  show (match ("__class__" : Str) == f with | true => _ | false => _) = _
  rw [h1]
  rfl
theorem lk_sup {f : Str} (o : FOk f) : (iS f).names.lookup ("super" : Str) = some .globalImplicit := by
  have h1 : (("super" : Str) == f) = false := by simpa using fun e => o.sup e.symm
  show (match ("super" : Str) == f with | true => _ | false => _) = _
  rw [h1]
  rfl
theorem one_size (v : Value) : [v].length ≤ sizeLine := by
  rw [sizeLine_eq]
  exact (by decide : 1 ≤ 16777216)
section
variable {prog : Program} {w : World} {A : Around} {E : Value → Shared → Prop} {R : Result → Shared → Prop} {s : Shared} {K : Frag} {mg : Str → Option Value} {x f qual : Str} {C fI : Addr}
theorem call_bw {hh : Heap} {g : Array GenState} {d : Drawn} {t : Nat} {os : OsState} {nm q : Str} {N : Addr} {bs bm : List Value} {hdct : Bool} {sn : List Str} {sub : List Value} {ab : Bool} {col : Option Bool} {dd : Option Addr} {k0 k1 k2 k3 k5 : Option Value}
    {u e t0 : Addr} {rest : List Value} {Q : Value → Shared → Prop}
    (hC : hh.get? C = some (excClassObj nm q C N bs bm hdct sn sub ab col dd k0 k1 k2 k3 k5 "ValueError.__new__")) (he : hh.get? e = some (excO C t0)) (hu : hh.get? u = some (kxs_mw "ValueError.__init__" e)) (hrest : rest.length ≤ sizeLine)
    (hq : ∀ h' t1, (∀ b o, b ≠ e → hh.get? b = some o → h'.get? b = some o) → h'.get? e = some (excO C t1) → Q .none ⟨h', g, d, t, os⟩) :
    wpAny (model prog w) A (call (.ref u) rest) Q E ⟨hh, g, d, t, os⟩ := by
  refine wpAny_call (codeAny_of_tree ?_)
  show wpAny _ A.in1 (callAny (.ref u) ⟨rest, []⟩) _ _ _
  simp only [callAny]
  refine wpAny_bind (wpAny_load hu ?_)
  simp only [kxs_mw, show (Value.type "method-wrapper" == Value.type "method" || Value.type "method-wrapper" == Value.type "builtin_function_or_method" || Value.type "method-wrapper" == Value.type "method-wrapper") = true by decide, if_true]
  refine KFB.if_so (by decide) ?_
  refine wpAny_bind (check_bound_init F.excBase_ValueError.toExcCallFacts hC he rfl ?_)
  refine wpAny_bind (wpAny_pure (wpAny_pure ?_))
  refine ⟨plainId_quiet F.excBase_ValueError.init.plain _, codeAny_builtin F.excBase_ValueError.initEntry ?_⟩
  rw [Around.under_plainId F.excBase_ValueError.init.plain _]
  wp_walk
  refine hq _ hh.objs.size (fun b o hb ho => ?_) ?_
  · rw [Heap.get?_update_other _ _ (Ne.symm hb)]
    exact Heap.get?_push_of_some _ ho
  · rw [Heap.get?_update_self _ (Heap.get?_push_of_some _ he) rfl]
    rfl
theorem drop_own (C : Addr) (l : List Value) : ((Value.ref C :: l).dropWhile (· != .ref C)).drop 1 = l := by
  simp [List.dropWhile_cons]
theorem err_init (T : ErrTxt prog K mg x f qual C fI) {e t0 : Addr} {v : Value} {mb : Str → Option Value} (X : K.In s.heap) (hlim : s.heap.NoLimit) (hg : s.heap.Ns mainGlobals mg) (hb : s.heap.Ns builtinsNs mb) (hbs : mb "super" = some (.type "super"))
    (he : s.heap.get? e = some (excO C t0)) (hnx : K.lookup e = none) (hroom : A.depth < recursionLimit)
    (hq : ∀ h' tk dx t1, InitEnd f s.heap h' e C dx t1 v → R (.ok (.ret .none)) { s with heap := h', toks := tk }) :
    codeAny (model prog w) A (.call (.ref fI) ⟨[.ref e, v], []⟩) R s := by
  obtain ⟨oc, od, doc, pm, an, cda, cc, ct, osl, p1, p2, a, b, c, d, e1, e2, q1, q2, q3, q4, ho, hcd, ⟨ccl, cdd, vs, ccs, file, tf, hcode, hvs, hfile⟩, ⟨cl, cld, csl, hcell⟩, hbnd, ⟨pl, hmc⟩, hsw⟩ := T.fn
  obtain ⟨nm, q, N, bs, bm, sn, sub, ab, col, dd, k0, k1, k2, k3, k5, hC, hbm⟩ := T.cls
  have hcl : clsIn K C = some { name := nm, bases := bs, mro := .ref C :: bm, ns := N, qualname := q, hasDict := true, slotNames := sn, subclasses := sub, abstract := ab, collection := col, hasDel := false } := by unfold clsIn; rw [hC] <;> rfl
  have fok := T.fok
  have lks := lk_self fok
  have lkf := lk_f fok
  have lkc := lk_cls fok
  have lkp := lk_sup fok
  refine ks_codeAny_call_defAt (fd := iF f qual p1 p2 a b c d e1 e2 q1 q2 q3 q4 doc pm an (.ref cda) ct cc) (body := iB f a b c d e1 e2 q1 q2 q3 q4) (binds := [("self", .ref e), (f, v)]) hroom (X _ _ ho) rfl hlim (codeRec_of X hcd) rfl (BindsTo.of_eq (hbnd _ _)) ?_ ?_ (fun h₁ hns k => ?_)
  · intro y hy
    simp only [iS, List.mem_cons, List.not_mem_nil, or_false] at hy
    rcases hy with rfl | rfl | rfl | rfl <;> simp
  · intro y hy
    simp only [List.mem_cons, List.not_mem_nil, or_false] at hy
    rcases hy with rfl | rfl
    · exact lks
    · exact lkf
  · have hg₁ := hg.keeps k
    have hb₁ := hb.keeps k
    have X₁ : K.In h₁ := X.keeps k
    have he₁ := k _ _ he
    have hC₁ := X₁ _ _ hC
    refine ks_wpAt_execs_cons (ks_wpAt_Expr_any (ks_wpAt_MethodCall ?_ (hmc _)))
    refine ks_wpAt_super_base lkp lkc (by decide) rfl (X₁ _ _ ho) rfl rfl rfl (X₁ _ _ hcode) rfl hvs hfile T.top ?_
    refine ks_loadName_global rfl lkp (loadGlobal_builtin hg₁ T.gS hb₁ hbs ⟨rfl, ?_⟩)
    refine wpAny_loadName_free rfl lkc rfl ⟨_, X₁ _ _ hcell, rfl⟩ ?_
    refine wpAny_loadName_local rfl lks hns (v := .ref e) ?_ ?_
    · show List.lookup ("self" : Str) [(f, v), (("self" : Str), Value.ref e)] = some (.ref e)
      have h1 : (("self" : Str) == f) = false := by simpa using fun e => fok.self e.symm
      show (match ("self" : Str) == f with | true => _ | false => _) = _
      rw [h1]
      rfl
    refine ks_wpAny_isType_cls hC₁ rfl ⟨rfl, ?_⟩
    refine ks_wpAny_call_super hC₁ rfl he₁ rfl (fun c h => nomatch h) (looks_mroIn X₁ T.selfC) (fun h2 es k2 => ?_)
    have X₂ : K.In h2 := X₁.keeps k2
    have he₂ := k2 _ _ he₁
    have hC₂ := k2 _ _ hC₁
    have hns₂ := hns.keeps k2
    clear hmc hbnd
    have hxC : e ≠ C := fun z => by rw [z, hC] at hnx; cases hnx
    have I₂ : InstAt h2 e (excO C t0) C none := ⟨he₂, rfl, rfl, trivial⟩
    have hsup : alongIn K "__init__" bm = some (some (.builtin "ValueError.__init__")) := by
      have z := T.supC
      unfold ks_superIn at z
      rw [hcl] at z
      have z' : alongIn K "__init__" (((Value.ref C :: bm).dropWhile (· != .ref C)).drop 1) = some (some (.builtin "ValueError.__init__")) := z
      rwa [drop_own] at z'
    refine kxs_getMethod kxs_ValueError es (looks_opaque X₂ T.opq) (l₀ := .ref C :: bm) (fun A Q E s k q => wpAny_bind ((looks_clsIn X₂ hcl) A _ E s k (wpAny_pure q))) (drop_own C bm) X₂ hsup (I₂.type.andThen (looks_subIn X₂ T.veC)) hxC (by decide) ?_
    have kp : ∀ b o, h2.get? b = some o → (h2.push (kxs_mw "ValueError.__init__" e)).get? b = some o := fun b o => Heap.get?_push_of_some _
    refine kxs_callWith (i := "ValueError.__init__") (x := e) rfl (evalArgs_plain (spliced_cons (wpAny_Name (wpAny_loadName_local rfl lkf (hns₂.keeps kp) (v := v) ?_ (spliced_nil ⟨Heap.get?_push_at rfl rfl, ?_⟩)) fok.dbg)))
    · show List.lookup f [(f, v), (("self" : Str), Value.ref e)] = some v
      simp [List.lookup]
    refine call_bw (kp _ _ hC₂) (kp _ _ he₂) (Heap.get?_push_at rfl rfl) (one_size v) (fun h3 t3 k3 he₃ => ?_)
    have keep3 : ∀ b o, b ≠ e → s.heap.get? b = some o → h3.get? b = some o := fun b o z q => k3 b o z (kp _ _ (k2 _ _ (k _ _ q)))
    have X₃ : K.In h3 := fun b o z => k3 b o (fun y => by rw [y] at z; exact absurd (hnx.symm.trans z) (by simp)) (kp _ _ (X₂ _ _ z))
    have hLe : s.heap.objs.size ≠ e := Nat.ne_of_gt (Heap.lt_size he)
    have hns₃ : h3.Ns s.heap.objs.size fun x => List.lookup x [(Str.ofString "self", Value.ref e), (f, v)].reverse := by
      obtain ⟨o, es', ep, ho', r⟩ := hns₂.keeps kp
      exact ⟨o, es', ep, k3 _ _ hLe ho', r⟩
    have hsw₃ := hsw s.heap.objs.size
    show wpAt (model prog w) _ _ (execs _ _) _ _ _
    refine wpAt_of_wpAny ?_
    refine wpAny_execs_cons (plainObj_wpAny_Assign_Attribute ?_ hsw₃)
    refine wpAny_Name (wpAny_loadName_local rfl lkf hns₃ (v := v) ?_ ?_) fok.dbg
    · show List.lookup f [(f, v), (("self" : Str), Value.ref e)] = some v
      simp [List.lookup]
    refine wpAny_Name (wpAny_loadName_local rfl lks hns₃ (v := .ref e) ?_ ?_) (by decide)
    · show List.lookup ("self" : Str) [(f, v), (("self" : Str), Value.ref e)] = some (.ref e)
      have h1 : (("self" : Str) == f) = false := by simpa using fun e => fok.self e.symm
      show (match ("self" : Str) == f with | true => _ | false => _) = _
      rw [h1]
      rfl
    refine set_plain X₃ (ox := excO C t3) (od := none) ⟨he₃, rfl, rfl, trivial⟩ T.sa ?_
    refine exc_osa X₃ he₃ hcl (show refsVE (.ref C :: bm) = true from hbm) rfl T.noN (fun h4 tk4 dx k4 dn dne hx4 hn4 => ?_)
    show wpAny _ _ (execs _ _) _ _ _
    have z : s.heap.objs.size < h3.objs.size := hns₃.lt
    exact wpAny_execs_nil (hq h4 tk4 dx t3 ⟨fun b o hb q => k4 b o hb (keep3 b o hb q), hx4, Nat.le_of_lt (Nat.lt_of_lt_of_le z dn), dne, hn4⟩)
structure OwnMade (f : Str) (h h' : Heap) (e C d : Addr) (v : Value) : Prop where
  keep : ∀ b o, h.get? b = some o → h'.get? b = some o
  new : h.objs.size ≤ e
  obj : ∃ oe vs, h'.get? e = some oe ∧ oe.cls = .ref C ∧ oe.dict = some d ∧ oe.data = .fields vs ∧ vs[1]? = some .none
  dbig : h.objs.size ≤ d
  dne : d ≠ e
  ns : h'.Ns1 d (fun y => if y = f then some v else none)
theorem err_made (T : ErrTxt prog K mg x f qual C fI) {v : Value} {mb : Str → Option Value} (X : K.In s.heap) (hlim : s.heap.NoLimit) (hg : s.heap.Ns mainGlobals mg) (hb : s.heap.Ns builtinsNs mb) (hbs : mb "super" = some (.type "super")) (hroom : A.depth + 1 < recursionLimit)
    (hq : ∀ h' tk e d, OwnMade f s.heap h' e C d v → R (.ok (.ret (.ref e))) { s with heap := h', toks := tk }) :
    codeAny (model prog w) A (.call (.ref C) ⟨[v], []⟩) R s := by
  obtain ⟨nm, q, N, bs, bm, sn, sub, ab, col, dd, k0, k1, k2, k3, k5, hC, hbm⟩ := T.cls
  obtain ⟨hp, g, dr, tk, os⟩ := s
  have k : ∀ b o, hp.get? b = some o → ((hp.push (kdv_tup [v])).push (excO C hp.objs.size)).get? b = some o := fun b o e => Heap.get?_push_of_some _ (Heap.get?_push_of_some _ e)
  have hget : ((hp.push (kdv_tup [v])).push (excO C hp.objs.size)).get? (hp.objs.size + 1) = some (excO C hp.objs.size) := by heap_get
  have hnx : K.lookup (hp.objs.size + 1) = none := by
    cases e : K.lookup (hp.objs.size + 1) with
    | none => rfl
    | some o =>
      have z : hp.get? (hp.objs.size + 1) = some o := X _ _ e
      exact absurd (Nat.lt_of_succ_lt (Heap.lt_size z)) (Nat.lt_irrefl _)
  refine call_own F.excBase_ValueError (fun X => refsVE_contains X bm hbm) (X _ _ hC) (looks_findIn X T.iC) (fun self => bind_fn X self T.tC) (one_size v) ?_
  refine err_init (s := ⟨(hp.push (kdv_tup [v])).push (excO C hp.objs.size), g, dr, tk, os⟩) (mb := mb) T (X.keeps k) (hlim.keeps k) (hg.keeps k) (hb.keeps k) hbs hget hnx ?_ fun h' tk' dx t1 ⟨k', hx, dn, dne, hns⟩ => ?_
  · show A.depth + 1 < recursionLimit
    exact hroom
  · have old : ∀ b o, hp.get? b = some o → h'.get? b = some o := fun b o e => k' b o (Nat.ne_of_lt (Nat.lt_succ_of_lt (Heap.lt_size e))) (k b o e)
    have z : hp.objs.size + 1 + 1 ≤ dx := by
      first
        | (simpa only [Heap.size_push] using dn)
        | exact dn
        | (have q := dn; rw [Heap.size_push, Heap.size_push] at q; exact q)
    exact ⟨rfl, hq h' tk' (hp.objs.size + 1) dx ⟨old, Nat.le_succ _, ⟨_, _, hx, rfl, rfl, rfl, rfl⟩, Nat.le_trans (Nat.le_trans (Nat.le_succ _) (Nat.le_succ _)) z, dne, hns⟩⟩
end
end ErrX
end PySem
namespace L2
open PySem PySem.Spec PyProof.Rows
theorem relO_fld {f0 : Str} {v : V} {v' : Value} (r : RelV v v') (f : Str) : RelO (List.lookup f [(f0, v)]) (if f = f0 then some v' else none) := by
  by_cases hw : f = f0
  · subst hw
    rw [if_pos rfl]
    have q : List.lookup f [(f, v)] = some v := by simp [List.lookup]
    rw [q]
    exact r
  · rw [if_neg hw]
    have qw : (f == f0) = false := by simpa using hw
    have q2 : List.lookup f [(f0, v)] = none := by simp [List.lookup, qw]
    rw [q2]
    trivial
section
variable {X : Cx} {C fI : Addr} {x f qual : Str}
/-- x(e) -/
noncomputable def tMkErr (C : Addr) (f : Str) (ta : TA) : St → Hp → XK → Prop := fun σ H Q => ta σ H fun vs H1 => ∃ v, vs = [v] ∧ ∀ d, H1 d = none → Q (.ref C) (some d) (upd H1 d (.xd [(f, v)]))
theorem pmk_err {a : Expr} {ta : TA} {p pos : Pos} {k : Nat} (T : PySem.ErrX.ErrTxt X.prog X.K X.mg x f qual C fI) (hr : Room k X.A) (ha : PA X [a] ta) (hg : Gl X x) (hdb : (x == ("__debug__" : Str)) = false := by decide)
    (he : starEach (a :: []) X.env = (false, eval a X.env) :: starEach [] X.env := by rfl) (hpl : (backTo pos (starEach [] X.env)).any (·.1) = false := by rfl) :
    PMk X (.Call (.Name x p) [a] [] pos) (tMkErr C f ta) := by
  intro pins s σ H Q I h
  refine wpAny_Call_Name_kw (ld_glob I hg T.gC ?_ hdb)
  refine PySem.W.callWith_K (h₀ := X.base) I.ok.mod.kin T.kC (thn (ha.run pos pins s σ H _ I h) fun us s1 hh => ?_) he hpl
  obtain ⟨vs, H1, I1, r1, v, ev, q1⟩ := hh
  subst ev
  refine ⟨I1.kIn, ?_⟩
  cases r1 with
  | cons rv rn =>
    rename_i v' us'
    cases rn
    show wpAny _ _ (call (.ref C) [v']) _ _ _
    have hlim := I1.nolimit
    obtain ⟨mb, hb1, hb2⟩ := I1.mod.blt
    have hbs : mb "super" = some (.type "super") := (hb2 "super" (by decide)).trans (by kernel_rfl)
    have hgl := I1.mod.glob.keeps I1.bk
    have hbl := hb1.keeps I1.bk
    obtain ⟨hp, g, dr, tk, os⟩ := s1
    refine wpAny_call (PySem.ErrX.err_made (mb := mb) T I1.kIn hlim hgl hbl hbs (by have := hr.dp; omega) fun h' tk' e d M => ?_)
    show MkP X pins σ Q (.ref e) ⟨h', g, dr, tk', os⟩
    obtain ⟨oe, fv, hoe, hc, hd, hdat, h1⟩ := M.obj
    have hns := M.ns
    obtain ⟨G', g1, g2⟩ := restrict h' fun b => decide (b ≠ e)
    have gk : ∀ b, b ≠ e → G'.get? b = h'.get? b := fun b hb => g1 b (decide_eq_true hb)
    have ge : G'.get? e = none := g2 e (by simp)
    have old : ∀ b o, hp.get? b = some o → G'.get? b = some o := fun b o q => (gk b (Nat.ne_of_lt (Nat.lt_of_lt_of_le (Heap.lt_size q) M.new))).trans (M.keep b o q)
    have ob : ObjOk X.prog X.w (upd H1 d (.xd [(f, v)])) G' d (.xd [(f, v)]) :=
      ⟨_, hns.at (fun o q => (gk d M.dne).trans q), fun y => relO_fld rv y⟩
    have J : Inv X pins σ (upd H1 d (.xd [(f, v)])) ⟨G', g, dr, tk', os⟩ := I1.laid (t' := tk') old M.dbig ob
    refine ⟨e, oe, fv, ⟨G', g, dr, tk', os⟩, _, .ref C, some d, rfl, J, fun b o q => ?_, ge, hoe, ⟨hc, hd⟩, hdat, h1, ?_, rfl, I1.bare, raises_own T.exC T.tyC, q1 d (I1.hok.fresh M.dbig)⟩
    · by_cases hb : b = e
      · have q' : G'.get? b = some o := q
        rw [hb, ge] at q'; cases q'
      · exact (gk b hb).symm.trans q
    · rw [upd_ne (Ne.symm M.dne)]
      exact I1.hok.fresh M.new
end
end L2
set_option Elab.async false
set_option linter.all false
set_option maxRecDepth 100000
set_option maxHeartbeats 2000000
namespace DL
open PySem PySem.Spec PyProof.Rows L2
/-! ### defs that raise -/
/-- what is told of an exception: its class, its field -/
structure XD where
  cls : Addr
  pay : Option (Str × D) := none
noncomputable def XRel (K : PySem.W.Frag) (G : Gh) (H : Hp) (x : XD) (cls : Value) (d : Option Addr) : Prop :=
  cls = .ref x.cls ∧ ((x.pay = none ∧ d = none) ∨ ∃ f p dd v, x.pay = some (f, p) ∧ d = some dd ∧ H dd = some (.xd [(f, v)]) ∧ Dt K G H p v)
noncomputable abbrev RXD := List D → (D → Prop) → (XD → Prop) → Prop
noncomputable def spV (K : PySem.W.Frag) (R : RXD) : Sp := fun vs H Q E => ∃ G ds k e, GOk G H ∧ DtL K G H ds vs ∧ R ds k e ∧ (∀ d v H', k d → Ext G H H' → Dt K G H' d v → Q v H') ∧ ∀ x cls a H', e x → Ext G H H' → XRel K G H' x cls a → E cls a H'
noncomputable abbrev WXD := XD → List Sl → Prop
noncomputable def liftW (F : Fr) (W : WXD) : WX := fun cls a σ H => ∃ G ρ x, Rel F G H σ ρ ∧ W x ρ ∧ XRel F.K G H x cls a
theorem XRel.evo {K : PySem.W.Frag} {G G' : Gh} {H : Hp} {x : XD} {cls : Value} {a : Option Addr} (e : Evo G G' H H) (h : XRel K G H x cls a) : XRel K G' H x cls a := by
  obtain ⟨h1, h2 | ⟨f, p, dd, v, e1, e2, e3, e4⟩⟩ := h
  · exact ⟨h1, .inl h2⟩
  · exact ⟨h1, .inr ⟨f, p, dd, v, e1, e2, e3, e.dt p v e4⟩⟩
/-! raise -/
noncomputable def ErrP (P : Program) (K : PySem.W.Frag) (mg : Str → Option Value) (x f : Str) (C : Addr) : Prop := ∃ qual fI, PySem.ErrX.ErrTxt P K mg x f qual C fI
noncomputable def raiseT (C : Addr) (f : Str) (ta : TLD) (W : WXD) : TSD := fun _ ρ => ta ρ fun ds => ∃ d, ds = [d] ∧ W ⟨C, some (f, d)⟩ ρ
section
variable {X : Cx} {F : Fr} {W : WXD} {C fI : Addr} {x f qual : Str} {a : Expr} {ta : TLD} {p pos pos2 : Pos} {k : Nat}
theorem s_raise (tk : Takes X (liftW F W)) (T : ErrP X.prog X.K X.mg x f C) (hr : Room k X.A) (ha : PA X [a] (liftA F ta)) (hg : Gl X x) (hc : X.calm = true := by rfl) (hdb : (x == ("__debug__" : Str)) = false := by decide)
    (hK : X.K = F.K := by rfl) (he : starEach (a :: []) X.env = (false, eval a X.env) :: starEach [] X.env := by rfl) (hpl : (backTo pos (starEach [] X.env)).any (·.1) = false := by rfl) :
    PS X (.Raise (some (.Call (.Name x p) [a] [] pos)) none pos2) (liftS F (raiseT C f ta W)) :=
  let ⟨_, _, T⟩ := T
  ps_imp (ps_raise hc tk (pmk_err T hr ha hg hdb he hpl)) fun E σ H ⟨G, ρ, k, r, h, o⟩ => ⟨G, ρ, _, r, h, fun ds vs H1 ⟨d, ed, w⟩ e1 d1 => by
    subst ed
    obtain ⟨v, r', rfl, d2, hn⟩ := d1
    obtain rfl : r' = [] := hn
    refine ⟨v, rfl, fun dd nd => ?_⟩
    have r1 := r.step e1
    have x1 : Ext G H1 (upd H1 dd (.xd [(f, v)])) := Ext.new r1.bag nd
    exact ⟨G, ρ, _, r1.step x1, w, rfl, .inr ⟨f, d, dd, v, rfl, rfl, upd_same, (r1.evo x1).dt _ _ d2⟩⟩⟩
end
/-! a def by its body -/
theorem Fun.okV {P : Program} {w : World} {K : PySem.W.Frag} {mg : Str → Option Value} {base : Heap} {x qual : Str} {st : Stmt} {f : Addr} {fd : FuncData} {N ps : List Str} {k : Nat} {R : RXD} (Fn : Fun K x qual st f fd) (S : FnScope N ps (defScope st))
    (len : ∀ ds k e, R ds k e → ds.length = ps.length)
    (hb : ∃ T : WXD → TSD, (∀ (cdv : Value) (A : Around) (outer : List Env) (s : Shared) (H : Hp) (E : XK) (G : Gh) (H' : Hp) (pn : List (V × D)) (W : WXD), Room k (A.deeper (envOfC qual (defScope st) s.heap.objs.size f cdv)) → A.guards = some [] →
      Takes (cxOf (L2.CX P w) P w K mg base N qual (defScope st) f cdv A outer s H E) (liftW ⟨K, G, H', pn⟩ W) →
      PSs (cxOf (L2.CX P w) P w K mg base N qual (defScope st) f cdv A outer s H E) (defBody st) (liftS ⟨K, G, H', pn⟩ (T W))) ∧ ∀ ds κ e, R ds κ e → T (fun x _ => e x) (endD κ) (enterS N.length ds)) : FnG P w K mg base (L2.CX P w) (k + 1) f fd ps (spV K R) := by
  obtain ⟨oc, od, kV, doc, pm, an, cdv, ct, osl, rfl, lk, hcd⟩ := Fn.ex
  obtain ⟨T, hb, hq⟩ := hb
  refine fnG_of lk hcd S (fun vs H Q E h => ?_) fun A outer s H vs Q E hr hg h => ?_
  · obtain ⟨G, ds, κ, e, _, hd, hR, _⟩ := h
    rw [← hd.len]; exact len ds κ e hR
  · obtain ⟨G, ds, κ, e, ok, hd, hR, q, qe⟩ := h
    have tk : Takes (cxOf (L2.CX P w) P w K mg base N qual (defScope st) f cdv A outer s H E) (liftW ⟨K, G, H, []⟩ fun x _ => e x) :=
      (takes_of rfl rfl rfl rfl).imp fun c d σ H1 ⟨G1, ρ, x, r, w, z⟩ => qe x c d H1 w r.ext (z.evo r.less)
    refine ⟨_, hb cdv A outer s H E G H [] (fun x _ => e x) hr hg tk, G, _, endD κ, ⟨rfl, rfl, ok.ob, ok.oi, fun _ h => h, fun a h n => absurd h n, ok.tr, .refl ok.bag, (fun _ z => nomatch z), [], ?_, List.nodup_nil⟩, hq ds κ e hR,
      ⟨fun ρ G' σ' H' h r => q .non .non H' h r.ext rfl, fun t v R H' h x hR nR ho => q t.toD v H' h x (ow_toD ok x hR ho), fun _ _ _ _ h _ => h.elim, fun _ _ _ _ h _ => h.elim, fun d ρ G' σ' H' v h r hd => q (Tr.d d).toD v H' h r.ext (by simp only [Tr.toD]; exact r.less.dt d v hd)⟩⟩
    unfold enterS L2.start
    rw [hd.len]
    exact slots_start _ hd
/-! a call that may raise -/
structure CalV (P : Program) (w : World) (K : PySem.W.Frag) (mg : Str → Option Value) (base : Heap) (n : Nat) (x : Str) (R : RXD) : Prop where
  ex : ∃ (f : Addr) (fd : FuncData) (ps : List Str) (k : Nat), k ≤ n ∧ FnG P w K mg base (L2.CX P w) k f fd ps (spV K R) ∧ mg x = some (.ref f) ∧ PySem.W.keepIn K (.ref f) = true ∧ Binds K fd ps []
theorem CalV.mono {P : Program} {w : World} {K : PySem.W.Frag} {mg : Str → Option Value} {base : Heap} {n n' : Nat} {x : Str} {R : RXD} (c : CalV P w K mg base n x R) (h : n ≤ n') : CalV P w K mg base n' x R :=
  let ⟨f, fd, ps, k, hk, r⟩ := c.ex
  ⟨f, fd, ps, k, by omega, r⟩
theorem CalV.of {P : Program} {w : World} {K : PySem.W.Frag} {mg : Str → Option Value} {base : Heap} {n : Nat} {x : Str} {R : RXD} {f : Addr} {fd : FuncData} {ps : List Str} {q : Str} {st : Stmt} (fn : FnG P w K mg base (L2.CX P w) n f fd ps (spV K R)) (hm : mg x = some (.ref f)) (F : Fun K x q st f fd) (hb : Binds K fd ps []) : CalV P w K mg base n x R := ⟨f, fd, ps, n, Nat.le_refl _, fn, hm, F.kp, hb⟩
structure MetV (P : Program) (w : World) (K : PySem.W.Frag) (mg : Str → Option Value) (base : Heap) (n : Nat) (C : Addr) (m : Str) (R : RXD) : Prop where
  ex : ∃ (f : Addr) (fd : FuncData) (ps : List Str) (k : Nat), k ≤ n ∧ FnG P w K mg base (L2.CX P w) k f fd ps (spV K R) ∧ Cls K C ∧ Meth K C m f ∧ Binds K fd ps []
theorem MetV.mono {P : Program} {w : World} {K : PySem.W.Frag} {mg : Str → Option Value} {base : Heap} {n n' : Nat} {C : Addr} {m : Str} {R : RXD} (c : MetV P w K mg base n C m R) (h : n ≤ n') : MetV P w K mg base n' C m R :=
  let ⟨f, fd, ps, k, hk, r⟩ := c.ex
  ⟨f, fd, ps, k, by omega, r⟩
noncomputable def callV (R : RXD) (W : WXD) (ta : TLD) : TD := fun ρ k => ta ρ fun ds => R ds k fun x => W x ρ
noncomputable def metV (C : Addr) (m : Str) (R : RXD) (W : WXD) (t : TD) (ta : TLD) : TD := fun ρ k => t ρ fun x => (∃ fs, x = .ins C fs ∧ fs.lookup m = none) ∧ ta ρ fun ds => R (x :: ds) k fun x => W x ρ
section
variable {X : Cx} {CX : CXT} {k : Nat} {f C : Addr} {fd : FuncData} {ps : List Str} {sp : Sp} {E : L2.St → XK} {x m : Str} {p pos apos : Pos} {e o : Expr} {es : List Expr} {t : TA}
theorem runGS {pins : List (Addr × Obj)} {σ : L2.St} {H : Hp} {s : Shared} {Q : VK} {us : List Value} {vs : List V} (F : FnG X.prog X.w X.K X.mg X.base CX k f fd ps sp) (hr : Room k X.A) (hg : X.A.guards = some []) (hb : Binds X.K fd ps []) (hx : PassesAt CX X σ (E σ))
    (I : Inv X pins σ H s) (r : Vals vs us) (h : sp vs H Q (E σ)) : wpAny (model X.prog X.w) X.A (call (.ref f) us) (EP X pins σ Q) X.xe s := by
  have n : us.length = ps.length := by rw [← r.length]; exact F.len _ _ _ _ h
  have b := hb s us I.kIn (by rw [List.append_nil]; exact n)
  rw [List.append_nil] at b
  refine wpAny_call (codeAny_mono (F.run X.A X.stack s H ⟨us, []⟩ us vs Q (E σ) hr hg I.env0 b r h) fun z s' hz => ?_)
  cases z with
  | error w => exact hx pins H s w s' I hz
  | ok fl =>
    cases fl with
    | ret u => exact I.after hz
    | _ => exact False.elim hz
theorem peGS_call (F : FnG X.prog X.w X.K X.mg X.base CX k f fd ps sp) (hr : Room k X.A) (hgd : X.A.guards = some []) (hg : Gl X x) (hm : X.mg x = some (.ref f)) (hk : PySem.W.keepIn X.K (.ref f) = true) (hb : Binds X.K fd ps []) (hx : ∀ σ, PassesAt CX X σ (E σ))
    (ha : PA X (e :: es) t) (hdb : (x == ("__debug__" : Str)) = false := by decide) (he : starEach (e :: es) X.env = (false, eval e X.env) :: starEach es X.env := by rfl) (hpl : (backTo pos (starEach es X.env)).any (·.1) = false := by rfl) :
    PE X (.Call (.Name x p) (e :: es) [] pos) (tCallS sp E t) := by
  refine ⟨fun pins s σ H Q I h => ?_⟩
  refine wpAny_Call_Name_kw (ld_glob I hg hm (PySem.W.callWith_K (h₀ := X.base) I.ok.mod.kin hk (thn (ha.run pos pins s σ H _ I h) fun us s1 q => ?_) he hpl) hdb)
  obtain ⟨vs, H1, I1, r, q⟩ := q
  exact ⟨I1.kIn, runGS F hr hgd hb (hx σ) I1 r q⟩
end
section
variable {X : Cx} {F : Fr} {W : WXD} {n : Nat} {C : Addr} {x m : Str} {R : RXD} {e o : Expr} {es : List Expr} {ta : TLD} {to : TD} {p pos apos : Pos}
theorem d_callV (c : CalV X.prog X.w X.K X.mg X.base n x R) (tk : Takes X (liftW F W)) (hr : Room n X.A) (hgd : X.A.guards = some []) (hg : Gl X x) (ha : PA X (e :: es) (liftA F ta)) (hK : X.K = F.K := by rfl) (hdb : (x == ("__debug__" : Str)) = false := by decide)
    (he : starEach (e :: es) X.env = (false, eval e X.env) :: starEach es X.env := by rfl) (hpl : (backTo pos (starEach es X.env)).any (·.1) = false := by rfl) : PE X (.Call (.Name x p) (e :: es) [] pos) (lift F (callV R W ta)) := by
  obtain ⟨f, fd, ps, j, hj, fn, hm, hk, hb⟩ := c.ex
  refine pe_imp (peGS_call fn (hr.mono hj) hgd hg hm hk hb (fun σ => passAt tk σ) ha hdb he hpl) fun σ H Q ⟨G, ρ, k, r, h, q⟩ => ?_
  refine ⟨G, ρ, _, r, h, fun ds vs H1 h1 e1 d1 => ?_⟩
  have r1 := r.step e1
  show spV X.K R vs H1 Q (WE (liftW F W) σ)
  rw [hK]
  exact ⟨G, ds, k, _, r1.ok, d1, h1, fun d v H2 h2 e2 d2 => q d v H2 h2 (e1.trans e2) d2, fun y cls a H2 w e2 z => ⟨G, ρ, y, r1.step e2, w, z⟩⟩
end
/-! try: body / except x: suite, where each exception of the body is of the classes Sub, which are x's -/
end DL
set_option Elab.async false
set_option linter.all false
set_option maxRecDepth 100000
set_option maxHeartbeats 2000000
namespace DL
open PySem PySem.Spec PyProof.Rows L2
/-! ### an __init__ that raises -/
noncomputable abbrev RMV := List (Option D) → Tr → (D → Tr → Prop) → (XD → Prop) → Prop
noncomputable def spMV (K : PySem.W.Frag) (RM : RMV) : Sp := fun vs H Q E => ∃ G xs t v B k e, GOk G H ∧ DtX K G H v xs vs ∧ Ow K G H t v B ∧ B.Nodup ∧ G.bg ∉ B ∧ G.bi ∉ B ∧ RM xs t k e ∧
  (∀ d t' w H' B', k d t' → Ext (G.rems B) (off H B) H' → (∀ p ∈ B', off H B p = none) → B'.Nodup → Ow K ((G.rems B).adds B') H' t' v B' → Dt K ((G.rems B).adds B') H' d w → Q w H') ∧
  ∀ x cls a H', e x → Ext (G.rems B) (off H B) H' → XRel K (G.rems B) H' x cls a → E cls a H'
structure MakV (P : Program) (w : World) (K : PySem.W.Frag) (mg : Str → Option Value) (base : Heap) (n : Nat) (x : Str) (C : Addr) (RM : RMV) : Prop where
  ex : ∃ (f : Addr) (fd : FuncData) (ps : List Str) (k : Nat), k + 1 ≤ n ∧ FnG P w K mg base (L2.CX P w) k f fd ps (spMV K RM) ∧ mg x = some (.ref C) ∧ Mk K C f ∧ Binds K fd ps []
theorem MakV.mono {P : Program} {w : World} {K : PySem.W.Frag} {mg : Str → Option Value} {base : Heap} {n n' : Nat} {x : Str} {C : Addr} {RM : RMV} (c : MakV P w K mg base n x C RM) (h : n ≤ n') : MakV P w K mg base n' x C RM :=
  let ⟨f, fd, ps, k, hk, r⟩ := c.ex
  ⟨f, fd, ps, k, by omega, r⟩
end DL
set_option Elab.async false
set_option linter.all false
set_option maxRecDepth 100000
set_option maxHeartbeats 2000000
namespace DL
open PySem PySem.Spec PyProof.Rows L2
end DL
set_option Elab.async false
set_option linter.all false
set_option maxRecDepth 100000
set_option maxHeartbeats 1000000
/-! except x as e: suite, the suite returning alone; e.f and isinstance(e, C) within -/
namespace DL
open PySem PySem.Spec PyProof.Rows L2
/-- a suite that ends by return alone -/
noncomputable def onlyRt (k : DE) : DE := { nx := fun _ => False, rt := k.rt, bk := fun _ => False, ct := fun _ => False, rp := k.rp }
/-- what the suite knows of the exception at a -/
structure XHold (a : Addr) (cls : Value) (d : Option Addr) (x : XD) (l : List (V × D)) : Prop where
  cl : cls = .ref x.cls
  py : (x.pay = none ∧ d = none) ∨ ∃ f p dd v, x.pay = some (f, p) ∧ d = some dd ∧ (V.ref dd, D.lock default (.xd [(f, v)])) ∈ l ∧ (v, p) ∈ l
noncomputable def tryN (i : Nat) (Sub : Addr → Prop) (t : WXD → TSD) (su : Addr → XD → TSD) : TSD := fun k ρ => t (fun x ρ' => Sub x.cls ∧ ∀ a, su a x (onlyRt k) (ρ'.set i (.dat (.glb a)))) k ρ
section
variable {X : Cx} {F : Fr} {x n : Str} {CF : Addr} {Sub : Addr → Prop} {i : Nat} {body suite : List Stmt} {b₀ : Stmt} {np pos pos' : Pos} {t : WXD → TSD} {su : Addr → XD → TSD}
theorem EndsOk.only {k : DE} {E : Ends} {l : List (V × D)} (o : EndsOk F k E) {E' : Ends} (h : E'.rt = E.rt) : EndsOk (F.pin l) (onlyRt k) E' :=
  ⟨fun _ _ _ _ z => z.elim, fun t v R H q e f nd w => by rw [h]; exact o.rt t v R H q e f nd w, fun _ _ _ _ z => z.elim, fun _ _ _ _ z => z.elim, fun d ρ G σ H v q r w => by rw [h]; exact o.rp d ρ G σ H v q r.unpin w⟩
theorem s_tryN (hs : X.stack = X.env :: X.outer) (hf : X.env.frame = some X.env.locals) (hN : X.N.Nodup) (hi : X.N[i]? = some n) (hln : X.env.kindOf n = some .local) (hc : Names X x (.ref CF)) (hsub : ∀ C, Sub C → PySem.W.exmOne X.K (.ref C) (.ref CF) = some true)
    (hb : ∀ (W : WXD) (pn : List (Addr × Obj)) (xe : Value → Shared → Prop), Takes (X.tr pn xe) (liftW F W) → PassesOwn (model X.prog X.w) X.A X.env xe → PSs (X.tr pn xe) body (liftS F (t W)))
    (hsu : ∀ (a : Addr) (oe : Obj) (cls : Value) (d : Option Addr) (pn : List (Addr × Obj)) (y : XD) (l : List (V × D)), Sub y.cls → XHold a cls d y l → Zc cls d oe → (∃ vs, oe.data = .fields vs) → PSs (X.suite a ((a, oe) :: pn)) (b₀ :: suite) (liftS (F.pin l) (su a y)))
    (hK : X.K = F.K := by rfl) :
    PS X (.Try body [.ExceptHandler (some (.Name x np)) (some n) (b₀ :: suite) pos'] [] [] pos) (liftS F (tryN i Sub t su)) := by
  refine ps_imp (ps_try_as (c := .ref CF) (i := i) (tb := fun W E σ H => ∃ Wd, (∀ cls d σ' H', liftW F Wd cls d σ' H' → W cls d σ' H') ∧ liftS F (t Wd) E σ H)
    (ts := fun a cls d E σ H => ∃ (y : XD) (l : List (V × D)), Sub y.cls ∧ XHold a cls d y l ∧ liftS (F.pin l) (su a y) E σ H) (Wout := fun _ _ _ _ => False) hs hf hN hi hln hc ?_ ?_ ?_) fun E σ H ⟨G, ρ, k, r, h, o⟩ => ?_
  · rintro u s' ⟨_, _, _, _, _, _, _, _, _, _, _, _, _, _, _, _, z⟩
    exact z.elim
  · intro W pn xe tk po
    exact ⟨fun pins s σ H E I ⟨Wd, le, w⟩ => (hb Wd pn xe (tk.imp fun c d σ' H' z => le c d σ' H' z) po).run pins s σ H E I w⟩
  · intro a oe cls d pn zc fl
    exact ⟨fun pins s σ H E I ⟨y, l, h1, h2, w⟩ => (hsu a oe cls d pn y l h1 h2 zc fl).run pins s σ H E I w⟩
  · refine ⟨fun y ρ' => Sub y.cls ∧ ∀ a, su a y (onlyRt k) (ρ'.set i (.dat (.glb a))), fun cls d σ' H' ⟨G', ρ', y, r', ⟨w1, w2⟩, z⟩ => ?_, G, ρ, k, r, h, o⟩
    obtain ⟨z1, z2⟩ := z
    refine ⟨true, by rw [z1]; exact hsub _ w1, fun _ a _ => ?_, fun z => Bool.noConfusion z⟩
    have r2 : Rel F G' H' (σ'.set i (some (.ref a))) (ρ'.set i (.dat (.glb a))) := r'.slot (s := .dat (.glb a)) (o := some (.ref a)) (B := []) ⟨rfl, _, rfl, rfl⟩ List.nodup_nil fun _ _ p hp => by cases hp
    rcases z2 with ⟨z2, z3⟩ | ⟨f, p, dd, v, e1, e2, e3, e4⟩
    · exact ⟨y, [], w1, ⟨z1, .inl ⟨z2, z3⟩⟩, G', _, onlyRt k, r2.pinned (l := []) (fun q hq => (List.not_mem_nil hq).elim), w2 a, o.only rfl⟩
    · refine ⟨y, [(.ref dd, .lock default (.xd [(f, v)])), (v, p)], w1, ⟨z1, .inr ⟨f, p, dd, v, e1, e2, by simp, by simp⟩⟩, G', _, onlyRt k, r2.pinned (l := [(.ref dd, .lock default (.xd [(f, v)])), (v, p)]) (fun q hq => ?_), w2 a, o.only rfl⟩
      simp only [List.mem_cons, List.not_mem_nil, or_false] at hq
      rcases hq with rfl | rfl
      · exact ⟨dd, rfl, fun own => by have m := r'.tr dd own; rw [e3] at m; exact m, e3⟩
      · exact e4
/-- e.f -/
noncomputable def xfT (i : Nat) (a : Addr) (f : Str) (y : XD) : TD := fun ρ k => ρ[i]? = some (.dat (.glb a)) ∧ ∃ p, y.pay = some (f, p) ∧ k p
theorem d_xf {a : Addr} {oe : Obj} {cls : Value} {d : Option Addr} {pn : List (Addr × Obj)} {y : XD} {l : List (V × D)} {f : Str} (i : Nat) {p0 : Pos} (T : XfC X.K y.cls) (hno : PySem.W.findIn X.K (.ref y.cls) f = some none) (hx : XHold a cls d y l) (zc : Zc cls d oe) (fl : ∃ vs, oe.data = .fields vs)
    (hN : X.N[i]? = some n := by rfl) (hv : Vis X.env.scope n := by first | exact Or.inl rfl | exact Or.inr (Or.inl rfl) | exact Or.inr (Or.inr rfl)) (hd : (n == ("__debug__" : Str)) = false := by decide) (hcd : (n == ("__classdict__" : Str)) = false := by decide)
    (hb : attributeBase (.Name n p0) f X.env (eval (.Name n p0) X.env) = eval (.Name n p0) X.env := by rfl) :
    PE (X.suite a ((a, oe) :: pn)) (.Attribute (.Name n p0) f pos) (lift (F.pin l) (xfT i a f y)) := by
  refine pe_imp (pe_xf (pos := pos) T hno zc fl (pe_var (X := X.suite a ((a, oe) :: pn)) (i := i) (pos := p0) hN hv hd hcd) hb) fun σ H Q ⟨G, ρ, k, r, ⟨h1, p, h2, hk⟩, q⟩ => ?_
  obtain ⟨o, L, e1, -, v0, rfl, hv⟩ := r.at h1
  have ev : v0 = .ref a := hv
  subst ev
  rcases hx.py with ⟨z, _⟩ | ⟨f', p', dd, v, e2, e3, m1, m2⟩
  · rw [z] at h2; cases h2
  · rw [e2] at h2
    cases h2
    obtain ⟨a', ea, _, hd'⟩ := r.pn _ (List.mem_append_left _ m1)
    cases ea
    have hp := r.pn _ (List.mem_append_left _ m2)
    exact ⟨_, e1, rfl, hx.cl, dd, _, v, e3, hd', by simp [List.lookup], q p v H hk (.refl r.bag) hp⟩
/-- isinstance(e, C) -/
noncomputable def isET (i : Nat) (a : Addr) (b : Bool) : TD := fun ρ k => ρ[i]? = some (.dat (.glb a)) ∧ k (.bl b)
noncomputable def rIsE2 (K : PySem.W.Frag) (D a : Addr) (d : Option Addr) : List V → Hp → VK → Prop := fun xs H Q => ∃ (c : V) (cv : Value) (b : Bool), xs = [.ref a, c] ∧ (∀ u, RelV c u → u = cv) ∧ PySem.W.kitOne K (.ref D) cv = some b ∧ (d = none ∨ ∃ dd fs, d = some dd ∧ H dd = some (.xd fs)) ∧ Q (.bl b) H
theorem call_isE2 {X : Cx} {a D : Addr} {oe : Obj} {pn : List (Addr × Obj)} {d : Option Addr} (C : L2.ExcC X.K D) (hcl : (PySem.W.clsIn X.K D).isSome = true) (hz : Zc (.ref D) d oe) (hf : ∃ vs, oe.data = .fields vs) : CallR (X.suite a ((a, oe) :: pn)) (.builtin "isinstance") (rIsE2 X.K D a d) := by
  intro pins s σ H xs us Q I r h
  obtain ⟨c, cv, b, rfl, hcv, e, hd, q⟩ := h
  cases r with
  | cons rx rr =>
    cases rr with
    | cons rt rr =>
      cases rr
      cases rx
      have ec := hcv _ rt
      rw [ec]
      obtain ⟨hget, _⟩ := I.pin (a, oe) (List.mem_append.mpr (.inl List.mem_cons_self))
      obtain ⟨vs, hv⟩ := hf
      obtain ⟨h1, h2⟩ := hz
      have fin : ∀ od : Option Obj, PySem.W.InstAt s.heap a oe D od → wpAny (model X.prog X.w) (X.suite a ((a, oe) :: pn)).A (call (.builtin "isinstance") [.ref a, cv]) (EP (X.suite a ((a, oe) :: pn)) pins σ Q) (X.suite a ((a, oe) :: pn)).xe s := fun od J =>
        PySem.W.kia_one (PySem.W.kitx_exc hcl C.hg C.hk C.hs C.ha C.hn C.ht C.hm) I.kIn J e (fun z => nomatch z) fun tk => ⟨.bl b, H, I.kept (t' := tk) fun _ _ z => z, rfl, q⟩
      rcases hd with rfl | ⟨dd, fs, rfl, hx⟩
      · refine fin none ?_
        obtain ⟨oc, od, oda, osl⟩ := oe
        dsimp only at h1 h2 hv
        subst h1 h2 hv
        exact ⟨hget, rfl, rfl, trivial⟩
      · have hx' : ObjOk X.prog X.w H s.heap dd (.xd fs) := I.hok dd _ hx
        obtain ⟨mA, hns, _⟩ := hx'
        obtain ⟨od, ho, _⟩ := lookIn_ns hns
        exact fin (some od) ⟨hget, h1, by unfold PySem.W.notCls; rw [hv] <;> rfl, by rw [h2]; exact ho⟩
theorem d_isE {a : Addr} {oe : Obj} {cls : Value} {d : Option Addr} {pn : List (Addr × Obj)} {y : XD} {l : List (V × D)} {cn : Str} {CC : Addr} {b : Bool} (i : Nat) {p0 p1 p2 : Pos} (T : L2.ExcC X.K y.cls) (hcl : (PySem.W.clsIn X.K y.cls).isSome = true) (hb : PySem.W.kitOne X.K (.ref y.cls) (.ref CC) = some b)
    (hx : XHold a cls d y l) (zc : Zc cls d oe) (fl : ∃ vs, oe.data = .fields vs) (hg : Gl X "isinstance") (hm : X.mg "isinstance" = none) (hgc : Gl X cn) (hmc : X.mg cn = some (.ref CC))
    (hN : X.N[i]? = some n := by rfl) (hv : Vis X.env.scope n := by first | exact Or.inl rfl | exact Or.inr (Or.inl rfl) | exact Or.inr (Or.inr rfl)) (hd : (n == ("__debug__" : Str)) = false := by decide) (hcd : (n == ("__classdict__" : Str)) = false := by decide) (hdc : (cn == ("__debug__" : Str)) = false := by decide)
    (he : starEach [.Name n p0, .Name cn p1] X.env = (false, eval (.Name n p0) X.env) :: starEach [.Name cn p1] X.env := by rfl) (hpl : (backTo pos (starEach [.Name cn p1] X.env)).any (·.1) = false := by rfl)
    (hst : starEach [.Name cn p1] X.env = (false, eval (.Name cn p1) X.env) :: starEach [] X.env := by rfl) :
    PE (X.suite a ((a, oe) :: pn)) (.Call (.Name "isinstance" p2) [.Name n p0, .Name cn p1] [] pos) (lift (F.pin l) (isET i a b)) := by
  have zc' : Zc (.ref y.cls) d oe := hx.cl ▸ zc
  refine pe_imp (pe_callB (X := X.suite a ((a, oe) :: pn)) (call_isE2 T hcl zc' fl) hg hm (by decide +kernel) (pa_cons (pe_var (X := X.suite a ((a, oe) :: pn)) (i := i) (pos := p0) hN hv hd hcd) (pa_cons (pe_glob (X := X.suite a ((a, oe) :: pn)) (v := .ref CC) hgc hmc rfl hdc) pa_nil hst) he) (by decide) (by decide) he hpl) fun σ H Q ⟨G, ρ, k, r, ⟨h1, hk⟩, q⟩ => ?_
  obtain ⟨o, L, e1, -, v0, rfl, hv'⟩ := r.at h1
  have ev : v0 = .ref a := hv'
  subst ev
  refine ⟨_, e1, .ref CC, .ref CC, b, rfl, fun u hu => hu, hb, ?_, q (.bl b) (.bl b) H hk (.refl r.bag) rfl⟩
  rcases hx.py with ⟨_, z⟩ | ⟨f', p', dd, v, e2, e3, m1, m2⟩
  · exact .inl z
  · obtain ⟨a', ea, _, hd'⟩ := r.pn _ (List.mem_append_left _ m1)
    cases ea
    exact .inr ⟨dd, _, e3, hd'⟩
end
end DL
set_option Elab.async false
set_option linter.all false
set_option maxRecDepth 100000
set_option maxHeartbeats 1000000
/-! raise C(), C an own error that keeps nothing -/
namespace DL
open PySem PySem.Spec PyProof.Rows L2
end DL
set_option Elab.async false
set_option linter.all false
set_option maxRecDepth 100000
set_option maxHeartbeats 4000000
/-! ### ==, != and in for lists of own objects, by their own __eq__ -/
namespace DL
open PySem PySem.SeqAt
open AutoSeq1 (wpAny_loadPart')
open MeetsSeq MeetsSeq2 MeetsSeq3 SeqRoads2
end DL
set_option Elab.async false
set_option linter.all false
set_option maxRecDepth 100000
set_option maxHeartbeats 4000000
/-! ### ==, != and in for lists of own objects: as data -/
namespace DL
open PySem PySem.Spec PyProof.Rows L2 PySem.W
noncomputable abbrev CmpE := D → D → (Bool → Prop) → Prop
structure SubG (X : Cx) (n : Nat) (A : Around) : Prop where
  room : Room n A
  fr : A.frames = X.A.frames
  gd : A.guards = some []
theorem SubG.in1 {X : Cx} {n : Nat} {A : Around} (s : SubG X (n + 1) A) : SubG X n A.in1 := ⟨s.room.in1, s.fr, s.gd⟩
theorem SubG.mono {X : Cx} {n m : Nat} {A : Around} (s : SubG X n A) (h : m ≤ n) : SubG X m A := ⟨s.room.mono h, s.fr, s.gd⟩
section
variable {G : Gh} {H H' : Hp}
theorem GOk.evo (g : GOk G H) (e : Ext G H H') : Evo G G H H' := ⟨fun a o n h => e.lk (fun z => n (by rw [z]; exact g.ob)) h, g.tr, fun _ n _ => n, rfl, rfl⟩
theorem GOk.step (g : GOk G H) (e : Ext G H H') : GOk G H' := ⟨g.ob, g.oi, Ext.tr' g.ob g.tr e, e.bag⟩
end
/-- may be one and the same object -/
noncomputable def Alike (x y : D) : Prop := ∃ (K : PySem.W.Frag) (G : Gh) (H : Hp) (v : V), Dt K G H x v ∧ Dt K G H y v
noncomputable def EqSt (X : Cx) (m : Nat) (E : CmpE) : Prop :=
  ∀ (A : Around) (pins : List (Addr × Obj)) (s : Shared) (σ : L2.St) (H : Hp) (G : Gh) (dx dy : D) (x y : V) (u v : Value) (k : Bool → Prop), SubG X m A → Inv X pins σ H s → GOk G H → Dt X.K G H dx x → Dt X.K G H dy y → RelV x u → RelV y v → E dx dy k →
    wpAny (model X.prog X.w) A (eqBool u v) (fun r s' => ∃ H', Inv X pins σ H' s' ∧ Ext G H H' ∧ k r) X.xe s
noncomputable def RcSt (X : Cx) (op : CmpOp) (m : Nat) (E : CmpE) : Prop :=
  ∀ (A : Around) (pins : List (Addr × Obj)) (s : Shared) (σ : L2.St) (H : Hp) (G : Gh) (dx dy : D) (x y : V) (u v : Value) (k : Bool → Prop), SubG X m A → Inv X pins σ H s → GOk G H → Dt X.K G H dx x → Dt X.K G H dy y → RelV x u → RelV y v → E dx dy k →
    wpAny (model X.prog X.w) A (richCompare op u v) (fun r s' => ∃ b, r = .bool b ∧ ∃ H', Inv X pins σ H' s' ∧ Ext G H H' ∧ k b) X.xe s
section
variable {X : Cx} {n m : Nat} {E E' : CmpE}
theorem EqSt.mono (h : EqSt X n E) (hn : n ≤ m) : EqSt X m E := fun A pins s σ H G dx dy x y u v k sb => h A pins s σ H G dx dy x y u v k (sb.mono hn)
theorem RcSt.mono {op : CmpOp} (h : RcSt X op n E) (hn : n ≤ m) : RcSt X op m E := fun A pins s σ H G dx dy x y u v k sb => h A pins s σ H G dx dy x y u v k (sb.mono hn)
noncomputable def orE (E E' : CmpE) : CmpE := fun x y k => E x y k ∨ E' x y k
theorem EqSt.or (h : EqSt X n E) (h' : EqSt X n E') : EqSt X n (orE E E') := fun A pins s σ H G dx dy x y u v k sb I g d1 d2 rx ry e => by
  rcases e with e | e
  · exact h A pins s σ H G dx dy x y u v k sb I g d1 d2 rx ry e
  · exact h' A pins s σ H G dx dy x y u v k sb I g d1 d2 rx ry e
/-- within a list: one and the same object is equal to itself -/
noncomputable def sameE (E : CmpE) : CmpE := fun x y k => (Alike x y → k true) ∧ E x y k
/-! lists -/
noncomputable def allE (E : CmpE) : List D → List D → (Bool → Prop) → Prop
  | x :: xs, y :: ys, k => E x y fun c => match c with
    | true => allE E xs ys k
    | false => k false
  | _, _, k => k true
noncomputable def lstE (E : CmpE) : CmpE := fun x y k => ∃ xs ys, x = .lst xs ∧ y = .lst ys ∧ (xs.length ≠ ys.length → k false) ∧ (xs.length = ys.length → allE E xs ys k)
/-! x in a list of own objects -/
end
end DL
set_option Elab.async false
set_option linter.all false
set_option maxRecDepth 100000
set_option maxHeartbeats 4000000
/-! ### isinstance of any value against an own class, of an own object against built-in ones; x == y for any y -/
namespace DL
open PySem PySem.Spec PyProof.Rows L2 PySem.W
/-- what is no own class, as isinstance tells -/
structure OutC (K : PySem.W.Frag) (C : Addr) : Prop where
  ic : C8.InsC K C
  non : kitOne K (.type "NoneType") (.ref C) = some false
  bl : kitOne K (.type "bool") (.ref C) = some false
  int : kitOne K (.type "int") (.ref C) = some false
  str : kitOne K (.type "str") (.ref C) = some false
  lst : kitOne K (.type "list") (.ref C) = some false
  tup : kitOne K (.type "tuple") (.ref C) = some false
  dic : kitOne K (.type "dict") (.ref C) = some false
  clst : kitOne K (.ref C) (.type "list") = some false
  ctup : kitOne K (.ref C) (.type "tuple") = some false
theorem OutC.ty {K : PySem.W.Frag} {C : Addr} (o : OutC K C) {d : D} {a : String} (h : tyN d = some a) : kitOne K (.type a) (.ref C) = some false := by
  have m := tyN_mem h
  simp only [tyTs, List.mem_cons, List.not_mem_nil, or_false] at m
  rcases m with rfl | rfl | rfl | rfl | rfl | rfl | rfl
  · exact o.non
  · exact o.bl
  · exact o.int
  · exact o.str
  · exact o.lst
  · exact o.tup
  · exact o.dic
/-! x == y by x's own __eq__, y what it may be -/
end DL
set_option Elab.async false
set_option linter.all false
set_option maxRecDepth 100000
set_option maxHeartbeats 4000000
/-! ### self.f, self.g = a, b: a and b new, so the object owns them -/
namespace DL
open PySem PySem.Spec PyProof.Rows L2 PySem.W
theorem OwF.app {K : PySem.W.Frag} {G : Gh} {H : Hp} : ∀ {fs gs : List (Str × Tr)} {vs ws : List (Str × V)} {M N : List Addr}, OwF K G H fs vs M → OwF K G H gs ws N → OwF K G H (fs ++ gs) (vs ++ ws) (M ++ N)
  | [], _, _, _, _, _, h, h2 => by
    obtain ⟨rfl, rfl⟩ := h
    exact h2
  | (k, t) :: fs, _, _, _, _, _, h, h2 => by
    obtain ⟨v, r, A, B, rfl, h1, h3, rfl⟩ := h
    exact ⟨v, _, A, _, rfl, h1, OwF.app h3 h2, by rw [List.append_assoc]⟩
theorem OwF.names {K : PySem.W.Frag} {G : Gh} {H : Hp} : ∀ {fs : List (Str × Tr)} {vs : List (Str × V)} {M : List Addr}, OwF K G H fs vs M → vs.map (·.1) = fs.map (·.1)
  | [], _, _, h => by rw [h.1]; rfl
  | (k, t) :: fs, _, _, h => by
    obtain ⟨v, r, A, B, rfl, h1, h3, rfl⟩ := h
    simp [OwF.names h3]
end DL
set_option Elab.async false
set_option linter.all false
set_option maxRecDepth 100000
set_option maxHeartbeats 4000000
/-! ### what is new without lists of another's, behind a call that was handed owned lists; methods that return what is new; owned lists that are changed item by item -/
namespace DL
open PySem PySem.Spec PyProof.Rows L2 PySem.W
section
variable {K : PySem.W.Frag} {G G1 G2 : Gh} {H H1 H2 : Hp}
noncomputable def NoL (o : HO) : Prop := ∀ xs, o ≠ .lst xs
/-- what is no list stands -/
structure NolS (G1 G2 : Gh) (H1 H2 : Hp) : Prop where
  k : ∀ a o, NoL o → H1 a = some o → H2 a = some o
  g : ∀ a o, NoL o → H1 a = some o → ¬ G1.own a → ¬ G2.own a
  b : G2.bg = G1.bg
theorem NolS.rd (s : NolS G1 G2 H1 H2) {a : Addr} {u : HO} (n : NoL u) (h : Rd H1 a u) : Rd H2 a u := by
  rcases h with h | ⟨o, h⟩
  · exact .inl (s.k _ _ n h)
  · exact .inr ⟨o, s.k _ _ (by intro _ z; cases z) h⟩
theorem NolS.gd (s : NolS G1 G2 H1 H2) {a : Addr} {u : HO} (n : NoL u) (h : Rd H1 a u) (z : ¬ G1.own a) : ¬ G2.own a := by
  rcases h with h | ⟨o, h⟩
  · exact s.g _ _ n h z
  · exact s.g _ _ (by intro _ z; cases z) h z
end
/-! methods that return what is new -/
structure MetT (P : Program) (w : World) (K : PySem.W.Frag) (mg : Str → Option Value) (base : Heap) (n : Nat) (C : Addr) (m : Str) (R : RTD) : Prop where
  ex : ∃ (f : Addr) (fd : FuncData) (ps : List Str) (k : Nat), k ≤ n ∧ FnG P w K mg base CX0 k f fd ps (spT K R) ∧ Cls K C ∧ Meth K C m f ∧ Binds K fd ps []
theorem MetT.mono {P : Program} {w : World} {K : PySem.W.Frag} {mg : Str → Option Value} {base : Heap} {n n' : Nat} {C : Addr} {m : Str} {R : RTD} (c : MetT P w K mg base n C m R) (h : n ≤ n') : MetT P w K mg base n' C m R :=
  let ⟨f, fd, ps, k, hk, r⟩ := c.ex
  ⟨f, fd, ps, k, by omega, r⟩
/-! for y in x: y.append(None), and y.reverse(): x a name that owns lists and lets them go -/
end DL
set_option Elab.async false
set_option linter.all false
set_option maxRecDepth 100000
set_option maxHeartbeats 4000000
/-! ### [e for t in it], e new: a new list of new things -/
namespace DL
open PySem PySem.Spec PyProof.Rows L2
end DL
set_option Elab.async false
set_option linter.all false
set_option maxRecDepth 100000
set_option maxHeartbeats 4000000
/-! ### == and `in` of data without truths and dicts: just where they are the same -/
namespace DL
open PySem PySem.Spec PyProof.Rows L2 PySem.W
mutual
noncomputable def D.eqK : D → Bool
  | .non => true
  | .int _ => true
  | .str _ => true
  | .lst ds => D.eqKs ds
  | .tup ds => D.eqKs ds
  | .bl _ => false
  | .dic _ _ => false
  | .ins _ _ => false
  | .bag => false
  | .glb _ => false
  | .lock _ _ => false
  | .at _ _ => false
noncomputable def D.eqKs : List D → Bool
  | [] => true
  | d :: ds => d.eqK && D.eqKs ds
end
mutual
theorem eqv_iff : ∀ (x : D), x.eqK = true → ∀ y : D, y.eqK = true → (PyData.eqv x.py y.py = true ↔ x = y)
  | .non, _, y, hy => by cases y <;> simp_all [D.eqK, D.py, PyData.eqv]
  | .int i, _, y, hy => by cases y <;> simp_all [D.eqK, D.py, PyData.eqv]
  | .str s, _, y, hy => by cases y <;> simp_all [D.eqK, D.py, PyData.eqv]
  | .lst ds, h, y, hy => by
    cases y with
    | lst es =>
      simp only [D.eqK] at h hy
      simp only [D.py, PyData.eqv, D.lst.injEq]
      exact eqvs_iff ds h es hy
    | _ => simp_all [D.eqK, D.py, PyData.eqv]
  | .tup ds, h, y, hy => by
    cases y with
    | tup es =>
      simp only [D.eqK] at h hy
      simp only [D.py, PyData.eqv, D.tup.injEq]
      exact eqvs_iff ds h es hy
    | _ => simp_all [D.eqK, D.py, PyData.eqv]
  | .bl _, h, y, hy => by simp [D.eqK] at h
  | .dic _ _, h, y, hy => by simp [D.eqK] at h
  | .ins _ _, h, y, hy => by simp [D.eqK] at h
  | .bag, h, y, hy => by simp [D.eqK] at h
  | .glb _, h, y, hy => by simp [D.eqK] at h
  | .lock _ _, h, y, hy => by simp [D.eqK] at h
  | .at _ _, h, y, hy => by simp [D.eqK] at h
theorem eqvs_iff : ∀ (xs : List D), D.eqKs xs = true → ∀ ys : List D, D.eqKs ys = true → (PyData.eqvAll (D.pys xs) (D.pys ys) = true ↔ xs = ys)
  | [], _, ys, _ => by cases ys <;> simp [D.pys, PyData.eqvAll]
  | x :: xs, h, ys, hy => by
    cases ys with
    | nil => simp [D.pys, PyData.eqvAll]
    | cons y ys =>
      simp only [D.eqKs, Bool.and_eq_true] at h hy
      simp only [D.pys, PyData.eqvAll, Bool.and_eq_true, List.cons.injEq]
      rw [eqv_iff x h.1 y hy.1, eqvs_iff xs h.2 ys hy.2]
end
/-- data that are compared: no truths, no dicts, so deep at most -/
structure Cq (n : Nat) (d : D) : Prop where
  k : d.eqK = true
  l : d.py.canLay0 = true
  d : d.py.depth ≤ n
theorem Cq.mono {n m : Nat} {d : D} (h : Cq n d) (hm : n ≤ m) : Cq m d := ⟨h.k, h.l, by have := h.d; omega⟩
theorem cqs_of {n : Nat} : ∀ {ds : List D}, (∀ d ∈ ds, Cq n d) → D.eqKs ds = true ∧ PyData.canLayAll0 (D.pys ds) = true ∧ PyData.depthAll (D.pys ds) ≤ n
  | [], _ => by simp [D.eqKs, D.pys, PyData.canLayAll0, PyData.depthAll]
  | d :: ds, h => by
    obtain ⟨a, b, c⟩ := cqs_of fun x hx => h x (List.mem_cons_of_mem d hx)
    have e := h d List.mem_cons_self
    have := e.d
    exact ⟨by simp only [D.eqKs, e.k, a, Bool.and_self], by simp only [D.pys, PyData.canLayAll0, e.l, b, Bool.and_self], by simp only [D.pys, PyData.depthAll]; omega⟩
theorem Cq.lst {n : Nat} {ds : List D} (h : ∀ d ∈ ds, Cq n d) : Cq (n + 1) (.lst ds) := by
  obtain ⟨a, b, c⟩ := cqs_of h
  exact ⟨by simp only [D.eqK, a], by simp only [D.py, PyData.canLay0, b], by simp only [D.py, PyData.depth]; omega⟩
theorem Cq.tup {n : Nat} {ds : List D} (h : ∀ d ∈ ds, Cq n d) : Cq (n + 1) (.tup ds) := by
  obtain ⟨a, b, c⟩ := cqs_of h
  exact ⟨by simp only [D.eqK, a], by simp only [D.py, PyData.canLay0, b], by simp only [D.py, PyData.depth]; omega⟩
theorem Cq.int (n : Nat) (i : Int) : Cq n (.int i) := ⟨by simp only [D.eqK], by simp only [D.py, PyData.canLay0], by simp only [D.py, PyData.depth]; omega⟩
theorem Cq.non (n : Nat) : Cq n .non := ⟨by simp only [D.eqK], by simp only [D.py, PyData.canLay0], by simp only [D.py, PyData.depth]; omega⟩
theorem Cq.str (n : Nat) {s : Str} (h : PyData.strOk s = true) : Cq n (.str s) := ⟨by simp only [D.eqK], by simp only [D.py, PyData.canLay0, h], by simp only [D.py, PyData.depth]; omega⟩
theorem eqv_bool {x y : D} {n m : Nat} (hx : Cq n x) (hy : Cq m y) : (PyData.eqv x.py y.py = true ↔ x = y) := eqv_iff x hx.k y hy.k
theorem eqB_q {x y : D} {n m : Nat} {k : Bool → Prop} (hx : Cq n x) (hy : Cq m y) (hm : min n m ≤ 150) (h : ∀ v : Bool, (v = true ↔ x = y) → k v) : eqB x y k := by
  have g : eqOk x y ∧ k (PyData.eqv x.py y.py) := ⟨⟨hx.l, hy.l, by have := hx.d; have := hy.d; omega⟩, h _ (eqv_bool hx hy)⟩
  cases x <;> cases y <;> first | exact g | (refine h _ ?_; simp)
end DL
set_option Elab.async false
set_option linter.all false
set_option maxRecDepth 100000
set_option maxHeartbeats 4000000
/-! ### set(tuple of texts) -/
namespace DMS
open PySem PySem.Spec PyProof.Rows L2 PySem.Froz
end DMS
set_option Elab.async false
set_option linter.all false
set_option maxRecDepth 100000
set_option maxHeartbeats 4000000
/-! ### sorted(set(x)), x a list or a tuple of texts -/
namespace L2
open PySem PySem.Spec PyProof.Rows DMS PySem.Froz
end L2
namespace DL
open PySem PySem.Spec PyProof.Rows L2 DMS
end DL
set_option Elab.async false
set_option linter.all false
set_option maxRecDepth 100000
set_option maxHeartbeats 4000000
/-! ### a value tells its data; comparisons that decide -/
namespace DL
open PySem PySem.Spec PyProof.Rows L2 PySem.W
mutual
noncomputable def D.pl : D → Bool
  | .non => true
  | .bl _ => true
  | .int _ => true
  | .str _ => true
  | .lst ds => D.pls ds
  | .tup ds => D.pls ds
  | .dic _ es => D.plE es
  | .ins _ fs => D.plF fs
  | .bag => false
  | .glb _ => false
  | .lock _ _ => false
  | .at _ _ => false
noncomputable def D.pls : List D → Bool
  | [] => true
  | d :: ds => d.pl && D.pls ds
noncomputable def D.plE : List (D × D) → Bool
  | [] => true
  | (k, d) :: es => d.pl && D.plE es
noncomputable def D.plF : List (Str × D) → Bool
  | [] => true
  | (k, d) :: es => d.pl && D.plF es
end
theorem rdOne {H : Hp} {a : Addr} {u u' : HO} (n : ∀ o w, u ≠ .frz o w) (n' : ∀ o w, u' ≠ .frz o w) (h : Rd H a u) (h' : Rd H a u') : u = u' := by
  rcases h with h | ⟨o, h⟩ <;> rcases h' with h' | ⟨o', h'⟩
  · rw [h] at h'; injection h'
  · rw [h] at h'; injection h' with e; exact absurd e (n _ _)
  · rw [h] at h'; injection h' with e; exact absurd e.symm (n' _ _)
  · rw [h] at h'; injection h' with e; injection e
section
variable {K : PySem.W.Frag} {G : Gh} {H : Hp}
mutual
theorem Dt.inj : ∀ (x : D), x.pl = true → ∀ (y : D), y.pl = true → ∀ v : V, Dt K G H x v → Dt K G H y v → x = y
  | .non, _, y, py, v, hx, hy => by
    obtain rfl : v = .non := hx
    cases y with
    | non => rfl
    | bl _ => exact nomatch (show V.non = .bl _ from hy)
    | int _ => exact nomatch (show V.non = .int _ from hy)
    | str _ => exact nomatch (show V.non = .str _ from hy)
    | lst _ => obtain ⟨_, _, e, _⟩ := hy; cases e
    | tup _ => obtain ⟨_, _, e, _⟩ := hy; cases e
    | dic _ _ => obtain ⟨_, e, _⟩ := hy; cases e
    | ins _ _ => obtain ⟨_, _, _, e, _⟩ := hy; cases e
    | _ => simp [D.pl] at py
  | .bl b, _, y, py, v, hx, hy => by
    obtain rfl : v = .bl b := hx
    cases y with
    | bl c => rw [show b = c from by injection (show V.bl b = .bl c from hy)]
    | non => exact nomatch (show V.bl b = .non from hy)
    | int _ => exact nomatch (show V.bl b = .int _ from hy)
    | str _ => exact nomatch (show V.bl b = .str _ from hy)
    | lst _ => obtain ⟨_, _, e, _⟩ := hy; cases e
    | tup _ => obtain ⟨_, _, e, _⟩ := hy; cases e
    | dic _ _ => obtain ⟨_, e, _⟩ := hy; cases e
    | ins _ _ => obtain ⟨_, _, _, e, _⟩ := hy; cases e
    | _ => simp [D.pl] at py
  | .int b, _, y, py, v, hx, hy => by
    obtain rfl : v = .int b := hx
    cases y with
    | int c => rw [show b = c from by injection (show V.int b = .int c from hy)]
    | non => exact nomatch (show V.int b = .non from hy)
    | bl _ => exact nomatch (show V.int b = .bl _ from hy)
    | str _ => exact nomatch (show V.int b = .str _ from hy)
    | lst _ => obtain ⟨_, _, e, _⟩ := hy; cases e
    | tup _ => obtain ⟨_, _, e, _⟩ := hy; cases e
    | dic _ _ => obtain ⟨_, e, _⟩ := hy; cases e
    | ins _ _ => obtain ⟨_, _, _, e, _⟩ := hy; cases e
    | _ => simp [D.pl] at py
  | .str b, _, y, py, v, hx, hy => by
    obtain rfl : v = .str b := hx
    cases y with
    | str c => rw [show b = c from by injection (show V.str b = .str c from hy)]
    | non => exact nomatch (show V.str b = .non from hy)
    | bl _ => exact nomatch (show V.str b = .bl _ from hy)
    | int _ => exact nomatch (show V.str b = .int _ from hy)
    | lst _ => obtain ⟨_, _, e, _⟩ := hy; cases e
    | tup _ => obtain ⟨_, _, e, _⟩ := hy; cases e
    | dic _ _ => obtain ⟨_, e, _⟩ := hy; cases e
    | ins _ _ => obtain ⟨_, _, _, e, _⟩ := hy; cases e
    | _ => simp [D.pl] at py
  | .lst ds, px, y, py, v, hx, hy => by
    obtain ⟨a, xs, rfl, _, ha, hd⟩ := hx
    simp only [D.pl] at px
    cases y with
    | lst es =>
      simp only [D.pl] at py
      obtain ⟨a', ys, e, _, ha', hd'⟩ := hy
      cases e
      rw [ha] at ha'; cases ha'
      rw [DtL.inj ds px es py xs hd hd']
    | non => exact nomatch (show V.ref a = .non from hy)
    | bl _ => exact nomatch (show V.ref a = .bl _ from hy)
    | int _ => exact nomatch (show V.ref a = .int _ from hy)
    | str _ => exact nomatch (show V.ref a = .str _ from hy)
    | tup _ => obtain ⟨_, _, e, h', _⟩ := hy; cases e; rw [ha] at h'; cases h'
    | dic _ _ =>
      obtain ⟨_, e, _, ⟨_, r, _⟩ | ⟨_, r, _⟩⟩ := hy
      · cases e; rcases r with r | ⟨_, r⟩ <;> · rw [ha] at r; cases r
      · cases e; rcases r with r | ⟨_, r⟩ <;> · rw [ha] at r; cases r
    | ins _ _ => obtain ⟨_, _, _, e, _, h', _⟩ := hy; cases e; rw [ha] at h'; cases h'
    | _ => simp [D.pl] at py
  | .tup ds, px, y, py, v, hx, hy => by
    obtain ⟨a, xs, rfl, ha, hd⟩ := hx
    simp only [D.pl] at px
    cases y with
    | tup es =>
      simp only [D.pl] at py
      obtain ⟨a', ys, e, ha', hd'⟩ := hy
      cases e
      rw [ha] at ha'; cases ha'
      rw [DtL.inj ds px es py xs hd hd']
    | non => exact nomatch (show V.ref a = .non from hy)
    | bl _ => exact nomatch (show V.ref a = .bl _ from hy)
    | int _ => exact nomatch (show V.ref a = .int _ from hy)
    | str _ => exact nomatch (show V.ref a = .str _ from hy)
    | lst _ => obtain ⟨_, _, e, _, h', _⟩ := hy; cases e; rw [ha] at h'; cases h'
    | dic _ _ =>
      obtain ⟨_, e, _, ⟨_, r, _⟩ | ⟨_, r, _⟩⟩ := hy
      · cases e; rcases r with r | ⟨_, r⟩ <;> · rw [ha] at r; cases r
      · cases e; rcases r with r | ⟨_, r⟩ <;> · rw [ha] at r; cases r
    | ins _ _ => obtain ⟨_, _, _, e, _, h', _⟩ := hy; cases e; rw [ha] at h'; cases h'
    | _ => simp [D.pl] at py
  | .dic t es, px, y, py, v, hx, hy => by
    obtain ⟨a, rfl, _, hx⟩ := hx
    simp only [D.pl] at px
    cases y with
    | dic t' es' =>
      simp only [D.pl] at py
      obtain ⟨a', e, _, hy⟩ := hy
      cases e
      rcases hx with ⟨kvs, r, p⟩ | ⟨kvs, r, p⟩ <;> rcases hy with ⟨kvs', r', p'⟩ | ⟨kvs', r', p'⟩
      · have e := rdOne (by intro _ _ z; cases z) (by intro _ _ z; cases z) r r'
        injection e with e
        subst e
        obtain ⟨q1, q2⟩ := DtP.inj t es px t' es' py kvs p p'
        rw [q1, q2]
      · exact nomatch rdOne (by intro _ _ z; cases z) (by intro _ _ z; cases z) r r'
      · exact nomatch rdOne (by intro _ _ z; cases z) (by intro _ _ z; cases z) r r'
      · have e := rdOne (by intro _ _ z; cases z) (by intro _ _ z; cases z) r r'
        injection e with e
        subst e
        obtain ⟨q1, q2⟩ := DtQ.inj t es px t' es' py kvs p p'
        rw [q1, q2]
    | non => exact nomatch (show V.ref a = .non from hy)
    | bl _ => exact nomatch (show V.ref a = .bl _ from hy)
    | int _ => exact nomatch (show V.ref a = .int _ from hy)
    | str _ => exact nomatch (show V.ref a = .str _ from hy)
    | lst _ =>
      obtain ⟨_, _, e, _, h', _⟩ := hy
      cases e
      rcases hx with ⟨_, r, _⟩ | ⟨_, r, _⟩ <;> rcases r with r | ⟨_, r⟩ <;> · rw [h'] at r; cases r
    | tup _ =>
      obtain ⟨_, _, e, h', _⟩ := hy
      cases e
      rcases hx with ⟨_, r, _⟩ | ⟨_, r, _⟩ <;> rcases r with r | ⟨_, r⟩ <;> · rw [h'] at r; cases r
    | ins _ _ =>
      obtain ⟨_, _, _, e, _, h', _⟩ := hy
      cases e
      rcases hx with ⟨_, r, _⟩ | ⟨_, r, _⟩ <;> rcases r with r | ⟨_, r⟩ <;> · rw [h'] at r; cases r
    | _ => simp [D.pl] at py
  | .ins C fs, px, y, py, v, hx, hy => by
    obtain ⟨a, dx, vs, rfl, _, ha, hd⟩ := hx
    simp only [D.pl] at px
    cases y with
    | ins C' fs' =>
      simp only [D.pl] at py
      obtain ⟨a', dx', vs', e, _, ha', hd'⟩ := hy
      cases e
      rw [ha] at ha'; cases ha'
      rw [DtF.inj fs px fs' py vs hd hd']
    | non => exact nomatch (show V.ref a = .non from hy)
    | bl _ => exact nomatch (show V.ref a = .bl _ from hy)
    | int _ => exact nomatch (show V.ref a = .int _ from hy)
    | str _ => exact nomatch (show V.ref a = .str _ from hy)
    | lst _ => obtain ⟨_, _, e, _, h', _⟩ := hy; cases e; rw [ha] at h'; cases h'
    | tup _ => obtain ⟨_, _, e, h', _⟩ := hy; cases e; rw [ha] at h'; cases h'
    | dic _ _ =>
      obtain ⟨_, e, _, ⟨_, r, _⟩ | ⟨_, r, _⟩⟩ := hy
      · cases e; rcases r with r | ⟨_, r⟩ <;> · rw [ha] at r; cases r
      · cases e; rcases r with r | ⟨_, r⟩ <;> · rw [ha] at r; cases r
    | _ => simp [D.pl] at py
  | .bag, h, y, _, v, _, _ => by simp [D.pl] at h
  | .glb _, h, y, _, v, _, _ => by simp [D.pl] at h
  | .lock _ _, h, y, _, v, _, _ => by simp [D.pl] at h
  | .at _ _, h, y, _, v, _, _ => by simp [D.pl] at h
theorem DtL.inj : ∀ (xs : List D), D.pls xs = true → ∀ (ys : List D), D.pls ys = true → ∀ vs : List V, DtL K G H xs vs → DtL K G H ys vs → xs = ys
  | [], _, ys, _, vs, hx, hy => by
    obtain rfl : vs = [] := hx
    cases ys with
    | nil => rfl
    | cons y ys => obtain ⟨_, _, e, _⟩ := hy; cases e
  | x :: xs, px, ys, py, vs, hx, hy => by
    obtain ⟨v, r, rfl, h1, h2⟩ := hx
    cases ys with
    | nil => exact nomatch (show v :: r = [] from hy)
    | cons y ys =>
      obtain ⟨v', r', e, h1', h2'⟩ := hy
      cases e
      simp only [D.pls, Bool.and_eq_true] at px py
      rw [Dt.inj x px.1 y py.1 v h1 h1', DtL.inj xs px.2 ys py.2 r h2 h2']
theorem DtP.inj : ∀ (t : Bool) (es : List (D × D)), D.plE es = true → ∀ (t' : Bool) (es' : List (D × D)), D.plE es' = true → ∀ kvs : List (Key × V), DtP K G H t es kvs → DtP K G H t' es' kvs → t = t' ∧ es = es'
  | t, [], _, t', es', _, kvs, hx, hy => by
    obtain ⟨rfl, rfl⟩ := hx
    cases es' with
    | nil => exact ⟨hy.2.symm, rfl⟩
    | cons p q => obtain ⟨k, d⟩ := p; obtain ⟨_, _, _, e, _⟩ := hy; cases e
  | t, (k, d) :: es, px, t', es', py, kvs, hx, hy => by
    obtain ⟨j, v, r, rfl, rfl, h1, h2⟩ := hx
    cases es' with
    | nil => exact nomatch hy.1
    | cons p q =>
      obtain ⟨k', d'⟩ := p
      obtain ⟨j', v', r', e, rfl, h1', h2'⟩ := hy
      cases e
      simp only [D.plE, Bool.and_eq_true] at px py
      obtain ⟨a, b⟩ := DtP.inj t es px.2 t' q py.2 r h2 h2'
      rw [Dt.inj d px.1 d' py.1 v h1 h1', a, b]
      exact ⟨rfl, rfl⟩
theorem DtQ.inj : ∀ (t : Bool) (es : List (D × D)), D.plE es = true → ∀ (t' : Bool) (es' : List (D × D)), D.plE es' = true → ∀ kvs : List (List Key × V), DtQ K G H t es kvs → DtQ K G H t' es' kvs → t = t' ∧ es = es'
  | t, [], _, t', es', _, kvs, hx, hy => by
    obtain ⟨rfl, rfl⟩ := hx
    cases es' with
    | nil => exact ⟨hy.2.symm, rfl⟩
    | cons p q => obtain ⟨k, d⟩ := p; obtain ⟨_, _, _, e, _⟩ := hy; cases e
  | t, (k, d) :: es, px, t', es', py, kvs, hx, hy => by
    obtain ⟨j, v, r, rfl, rfl, h1, h2⟩ := hx
    cases es' with
    | nil => exact nomatch hy.1
    | cons p q =>
      obtain ⟨k', d'⟩ := p
      obtain ⟨j', v', r', e, rfl, h1', h2'⟩ := hy
      cases e
      simp only [D.plE, Bool.and_eq_true] at px py
      obtain ⟨a, b⟩ := DtQ.inj t es px.2 t' q py.2 r h2 h2'
      rw [Dt.inj d px.1 d' py.1 v h1 h1', a, b]
      exact ⟨rfl, rfl⟩
theorem DtF.inj : ∀ (fs : List (Str × D)), D.plF fs = true → ∀ (gs : List (Str × D)), D.plF gs = true → ∀ kvs : List (Str × V), DtF K G H fs kvs → DtF K G H gs kvs → fs = gs
  | [], _, gs, _, kvs, hx, hy => by
    obtain rfl : kvs = [] := hx
    cases gs with
    | nil => rfl
    | cons p q => obtain ⟨k, d⟩ := p; obtain ⟨_, _, e, _⟩ := hy; cases e
  | (k, d) :: fs, px, gs, py, kvs, hx, hy => by
    obtain ⟨v, r, rfl, h1, h2⟩ := hx
    cases gs with
    | nil => exact nomatch (show (k, v) :: r = [] from hy)
    | cons p q =>
      obtain ⟨k', d'⟩ := p
      obtain ⟨v', r', e, h1', h2'⟩ := hy
      cases e
      simp only [D.plF, Bool.and_eq_true] at px py
      rw [Dt.inj d px.1 d' py.1 v h1 h1', DtF.inj fs px.2 q py.2 r h2 h2']
end
end
theorem Alike.eq {x y : D} (px : x.pl = true) (py : y.pl = true) (h : Alike x y) : x = y := by
  obtain ⟨K, G, H, v, h1, h2⟩ := h
  exact Dt.inj x px y py v h1 h2
/-- a comparison that tells whether both are the same -/
noncomputable def Dec (E : CmpE) (x y : D) : Prop := ∀ k : Bool → Prop, (∀ v : Bool, (v = true ↔ x = y) → k v) → E x y k
theorem Dec.same {E : CmpE} {x y : D} (px : x.pl = true) (py : y.pl = true) (h : Dec E x y) : Dec (sameE E) x y := fun k hk => ⟨fun a => hk true (by simp only [true_iff]; exact a.eq px py), h k hk⟩
theorem Dec.data {x y : D} {n m : Nat} (hx : Cq n x) (hy : Cq m y) (hm : min n m ≤ 150) : Dec eqB x y := fun k hk => eqB_q hx hy hm hk
theorem dec_all {E : CmpE} : ∀ {xs ys : List D}, xs.length = ys.length → (∀ x ∈ xs, ∀ y ∈ ys, Dec E x y) → ∀ k : Bool → Prop, (∀ v : Bool, (v = true ↔ xs = ys) → k v) → allE E xs ys k
  | [], [], _, _, k, hk => hk true (by simp)
  | [], _ :: _, hl, _, _, _ => by simp at hl
  | _ :: _, [], hl, _, _, _ => by simp at hl
  | x :: xs, y :: ys, hl, h, k, hk => by
    show E x y fun c => match c with
      | true => allE E xs ys k
      | false => k false
    refine h x List.mem_cons_self y List.mem_cons_self _ fun v hv => ?_
    cases v with
    | true =>
      have e := hv.mp rfl
      refine dec_all (by simpa using hl) (fun a ha b hb => h a (List.mem_cons_of_mem _ ha) b (List.mem_cons_of_mem _ hb)) k fun v hv => hk v ?_
      rw [hv, e]; simp
    | false => exact hk false ⟨fun z => (by cases z), fun z => by injection z with z1 z2; exact hv.mpr z1⟩
theorem Dec.lst {E : CmpE} {xs ys : List D} (h : ∀ x ∈ xs, ∀ y ∈ ys, Dec E x y) : Dec (lstE E) (.lst xs) (.lst ys) := fun k hk =>
  ⟨xs, ys, rfl, rfl, fun n => hk false ⟨fun z => (by cases z), fun z => by injection z with z; exact absurd (by rw [z]) n⟩, fun e => dec_all e h k fun v hv => hk v (hv.trans ⟨fun z => by rw [z], fun z => by injection z⟩)⟩
end DL
set_option Elab.async false
set_option linter.all false
set_option maxRecDepth 100000
set_option maxHeartbeats 4000000
/-! ### tuples that hold owned things; [e for t in it], e new; for x in a list of tuples whose things are changed -/
namespace DL
open PySem PySem.Spec PyProof.Rows L2
section
variable {F : Fr} {G : Gh} {H : Hp} {σ : L2.St} {ρ : List Sl} {L : List Addr}
/-- what a slot holds is taken out -/
theorem RelL.take (r : RelL F G H σ ρ L) {i : Nat} {s : Sl} (hi : ρ[i]? = some s) : ∃ o B L', σ[i]? = some o ∧ SlR F G H s o B ∧ RelL F G H σ (ρ.set i .un) L' ∧ B.Nodup ∧ (∀ p ∈ B, p ∉ L') ∧ (∀ p ∈ L', p ∈ L) ∧ ∀ p ∈ B, p ∈ L := by
  obtain ⟨o, A, B, C, e1, rfl, hs, k⟩ := r.2.1.upd hi
  obtain ⟨n1, nB, nd⟩ := nodup_mid r.2.2
  have sl := k F G H .un o [] (fun _ _ _ _ z => z) rfl
  have eσ : σ.set i o = σ := by
    apply List.ext_getElem?
    intro j
    by_cases e : i = j
    · subst e; rw [List.getElem?_set_self', e1]; rfl
    · rw [List.getElem?_set_ne e]
  rw [eσ] at sl
  refine ⟨o, B, A ++ ([] ++ C), e1, hs, ⟨⟨r.1.bg, r.1.bi, r.1.ob, r.1.oi, r.1.sub, r.1.new, r.1.tr, r.1.ext, r.1.pn, _, sl, n1⟩, sl, n1⟩, nB, fun p hp z => ?_, fun p hp => ?_, fun p hp => List.mem_append_right _ (List.mem_append_left _ hp)⟩
  · rcases List.mem_append.mp z with z | z
    · exact (nd p hp).1 z
    · exact (nd p hp).2 z
  · rcases List.mem_append.mp hp with z | z
    · exact List.mem_append_left _ z
    · exact List.mem_append_right _ (List.mem_append_right _ z)
/-- a slot is given what nothing holds -/
theorem RelL.giveS (r : RelL F G H σ ρ L) {i : Nat} {s : Sl} {o : Option V} {B : List Addr} (hi : σ[i]? = some o) (hs : SlR F G H s o B) (hB : B.Nodup) (hf : ∀ p ∈ B, p ∉ L) : ∃ L', RelL F G H σ (ρ.set i s) L' ∧ ∀ p ∈ L', p ∈ L ∨ p ∈ B := by
  obtain ⟨r, sl, n⟩ := r
  have hl : i < ρ.length := by
    rw [sl.len]
    exact (List.getElem?_eq_some_iff.mp hi).1
  obtain ⟨u, A, B', C, e1, rfl, _, k⟩ := sl.upd (List.getElem?_eq_getElem hl)
  obtain ⟨n1, _, _⟩ := nodup_mid n
  have sl2 := k F G H s o B (fun _ _ _ _ z => z) hs
  have eσ : σ.set i o = σ := by
    apply List.ext_getElem?
    intro j
    by_cases e : i = j
    · subst e; rw [List.getElem?_set_self', hi]; rfl
    · rw [List.getElem?_set_ne e]
  rw [eσ] at sl2
  have n2 := nodup_in n1 hB fun p hp => ⟨fun z => hf p hp (List.mem_append_left _ z), fun z => hf p hp (List.mem_append_right _ (List.mem_append_right _ z))⟩
  refine ⟨_, ⟨⟨r.bg, r.bi, r.ob, r.oi, r.sub, r.new, r.tr, r.ext, r.pn, _, sl2, n2⟩, sl2, n2⟩, fun p hp => ?_⟩
  rcases List.mem_append.mp hp with z | z
  · exact .inl (List.mem_append_left _ z)
  · rcases List.mem_append.mp z with z | z
    · exact .inr z
    · exact .inl (List.mem_append_right _ (List.mem_append_right _ z))
theorem Rel.asTr (r : Rel F G H σ ρ) {i : Nat} {s : Sl} {t : Tr} {mk : Tr → Sl} (hi : ρ[i]? = some s) (hs : s.tree = some (t, mk)) : Rel F G H σ (ρ.set i (.tr t)) := by
  obtain ⟨L, rl⟩ := r.adrs
  obtain ⟨o, B, L1, e1, h1, r1, nB, f1, _, _⟩ := rl.take hi
  have h2 : SlR F G H (.tr t) o B := by
    cases s with
    | tr x => cases hs; exact h1
    | io v x => cases hs; exact ⟨h1.1, v, h1.2.1, h1.2.2⟩
    | _ => cases hs
  obtain ⟨L2, r2, _⟩ := r1.giveS e1 h2 nB f1
  rw [List.set_set] at r2
  exact r2.1
end
/-! reading what is owned (by a slot of either kind), for a flat result -/
/-! [e for t in it], e new -/
noncomputable def compRT (t : Tg) (te : TRD) (ρ : List Sl) : List D → List Tr → (List Tr → Prop) → Prop
  | [], acc, k => k acc
  | d :: ds, acc, k => tgD t d ρ fun ρ1 => te ρ1 fun e => compRT t te ρ ds (acc ++ [e]) k
noncomputable def lcR (t : Tg) (I : TLD) (te : TRD) (vs : List Nat) : TRD := fun ρ k => I ρ fun ds => ds.length ≤ sizeLine ∧ compRT t te (wipeS ρ vs) ds [] fun ts => k (.l ts)
section
variable {X : Cx} {F : Fr} {t : Tg} {I : TLD} {te : TRD}
theorem lcTR {K : PySem.W.Frag} (vs : List Nat) (ht : ∀ i ∈ t.ix, i ∈ vs) (hK : K = F.K) (tv : TE) (h2 : ∀ pn σ H Q, liftR (F.pin pn) te σ H Q → tv σ H Q) :
    ∀ σ H Q, liftR F (lcR t I te vs) σ H Q → tLc (liftI F I) (gOf K t) tYes tv vs σ H Q := by
  intro σ H Q ⟨G, ρ, k, r, h, q⟩
  refine ⟨G, ρ, _, r, h, fun ds J H1 pn ⟨hz, hk⟩ e1 wk hpn L hL => ?_⟩
  have r1 := r.step e1
  have e2 : Ext G H1 (upd H1 L (.lst [])) := Ext.new r1.bag hL
  obtain ⟨L0, s0⟩ := ((r1.pinned hpn).wipe vs).adrs
  have hno : L ∉ L0 := s0.new hL
  have r2 : RelL (F.pin pn) (G.add L) (upd H1 L (.lst [])) (L2.wipe σ vs) (wipeS ρ vs) L0 := s0.grow e2 hL (by rw [upd_same]; exact True.intro)
  rw [← Gh.adds_one] at r2
  have nF : ∀ p, H1 p = none → ¬ F.G.own p := fun p hp z => r1.free hp (r1.sub p z)
  have hnL := nF L hL
  refine ⟨fun i m H' => m = ds.length - i ∧ i ≤ ds.length ∧ ∃ acc xs M, H' L = some (.lst xs) ∧ (∀ p ∈ M, H1 p = none) ∧ (L :: M).Nodup ∧ OwL F.K (G.adds (L :: M)) H' acc xs M ∧ acc.length ≤ i ∧ RelL (F.pin pn) (G.adds (L :: M)) H' (L2.wipe σ vs) (wipeS ρ vs) L0 ∧ Ext G H1 H' ∧
      compRT t te (wipeS ρ vs) (ds.drop i) acc fun ts => k (.l ts), ⟨_, rfl, Nat.zero_le _, [], [], [], upd_same, (fun _ z => nomatch z), by simp, ⟨rfl, rfl⟩, Nat.le_refl _, r2, e2, hk⟩, ?_⟩
  rintro i m H' ⟨rfl, hi, acc, xs, M, hx, fM, nd, hd, hl, r', e', h'⟩
  have w := wk i (G.adds (L :: M)) H' r'.1.ok fun q hq => r'.1.pn q (List.mem_append_left _ hq)
  by_cases hlt : i < ds.length
  · obtain ⟨go, yl⟩ := w.1 hlt
    refine .inr ⟨go, fun H2 => i + 1 ≤ ds.length ∧ ∃ acc xs M, H2 L = some (.lst xs) ∧ (∀ p ∈ M, H1 p = none) ∧ (L :: M).Nodup ∧ OwL F.K (G.adds (L :: M)) H2 acc xs M ∧ acc.length ≤ i + 1 ∧ RelL (F.pin pn) (G.adds (L :: M)) H2 (L2.wipe σ vs) (wipeS ρ vs) L0 ∧ Ext G H1 H2 ∧
      compRT t te (wipeS ρ vs) (ds.drop (i + 1)) acc fun ts => k (.l ts), fun H2 ⟨hl, q⟩ => ⟨_, by omega, rfl, hl, q⟩, fun x H2 y => ?_⟩
    obtain ⟨kp, d, hdi, hxd⟩ := yl x H2 y
    rw [List.drop_eq_getElem_cons hlt] at h'
    have ed : ds[i] = d := by rw [List.getElem?_eq_getElem hlt] at hdi; exact Option.some.inj hdi
    rw [ed] at h'
    have x2 : Ext (G.adds (L :: M)) H' H2 := Ext.all r'.1.bag kp
    have r3 := r'.step x2
    have nbL : L ≠ G.bg := r1.own_ne_bg hnL
    refine gOf_ok (F := F.pin pn) hK r3.1 hxd h' fun ρ1 us hk1 r4 => ⟨by rw [wipe_tgS t x us _ ht, wipe_wipe], ?_⟩
    unfold tYes
    show (if true = true then _ else _)
    refine (if_pos rfl).mpr (h2 pn _ _ _ ⟨G.adds (L :: M), ρ1, _, r4, hk1, fun e v R H4 hd4 x4 hR nR ow => ?_⟩)
    have x24 := x2.trans x4
    have hR' : ∀ p ∈ R, H' p = none := fun p hp => x2.free r'.1.bag (hR p hp)
    have hR1 : ∀ p ∈ R, H1 p = none := fun p hp => e'.free r1.bag (hR' p hp)
    have hx4 : H4 L = some (.lst xs) := x24.mine nbL hx (.inr List.mem_cons_self)
    have r5 := r3.grows x4 hR fun p hp => Ow.mut e v R ow p hp
    have LR : L ∉ R := fun z => by have := hR' L z; rw [hx] at this; cases this
    have MR : ∀ p ∈ M, p ∉ R := fun p hp z => (OwL.own acc xs M hd p hp).2 (hR' p z)
    have ev := r'.1.evoAdds x24 hR'
    rw [Gh.adds_adds, List.cons_append] at r5 ev ow
    have r6 := r5.mutate (p := L) (o := .lst (xs ++ [v])) (.inr List.mem_cons_self) hnL True.intro hno
    have lx : xs.length < sizeLine := by rw [← hd.len]; omega
    have nd2 := List.nodup_cons.mp nd
    have ev2 : Evo (G.adds (L :: (M ++ R))) (G.adds (L :: (M ++ R))) H4 (upd H4 L (.lst (xs ++ [v]))) := ⟨fun a o n z => .inl (by rw [upd_ne fun w => n (.inr (by rw [w]; exact List.mem_cons_self))]; exact z), r5.1.tr, fun _ n _ => n, rfl, rfl⟩
    have oM : OwL F.K (G.adds (L :: (M ++ R))) H4 acc xs M := Ow.evoL ev acc xs M (fun p hp => ⟨.inr (List.mem_cons_of_mem _ (List.mem_append_left _ hp)), by
      have o := OwL.own acc xs M hd p hp
      cases z : H' p with
      | none => exact absurd z o.2
      | some u => exact x24.mine (r1.own_ne_bg (nF p (fM p hp))) z (.inr (List.mem_cons_of_mem _ hp))⟩) hd
    have oR : OwL F.K (G.adds (L :: (M ++ R))) H4 [e] [v] R := ⟨v, [], R, [], rfl, ow, ⟨rfl, rfl⟩, by simp⟩
    refine ⟨xs, hx4, lx, hlt, acc ++ [e], xs ++ [v], M ++ R, upd_same, fun p hp => ?_, List.nodup_cons.mpr ⟨fun z => ?_, List.nodup_append.mpr ⟨nd2.2, nR, fun a ha b hb z => MR a ha (z ▸ hb)⟩⟩, ?_, by simp; omega, r6, ⟨fun a o n z => ?_, ?_⟩, hd4⟩
    · rcases List.mem_append.mp hp with z | z
      · exact fM p z
      · exact hR1 p z
    · rcases List.mem_append.mp z with z | z
      · exact nd2.1 z
      · exact LR z
    · refine Ow.evoL ev2 _ _ _ (fun p hp => ⟨.inr (List.mem_cons_of_mem _ hp), upd_ne fun z => ?_⟩) (oM.app oR)
      rw [z] at hp
      rcases List.mem_append.mp hp with w | w
      · exact nd2.1 w
      · exact LR w
    · rw [upd_ne (fun w => by rw [w, hL] at z; cases z)]
      exact (e'.trans (Ext.cg (G := G.adds (L :: M)) (G' := G) rfl rfl (fun _ h => .inl h) x24)).keep a o n z
    · exact r6.1.bag
  · have e : i = ds.length := by omega
    subst e
    rw [List.drop_length] at h'
    refine .inl ⟨w.2 (Nat.le_refl _), q (.l acc) (.ref L) (L :: M) H' h' (e1.trans e') (fun p hp => ?_) nd ⟨L, xs, M, rfl, .inr List.mem_cons_self, hx, hd, rfl⟩⟩
    rcases List.mem_cons.mp hp with rfl | hp
    · exact e1.free r.bag hL
    · exact e1.free r.bag (fM p hp)
end
/-! return (a, x, c), x a name that owns what it has -/
/-! for x in y: body, y a name that was handed in and owns tuples, whose things are changed -/
end DL
set_option Elab.async false
set_option linter.all false
set_option maxRecDepth 100000
set_option maxHeartbeats 4000000
/-! ### x[n][(..)] = v, x a name that owns a tuple with a dict of its own; x is not None -/
namespace DL
open PySem PySem.Spec PyProof.Rows L2
end DL
set_option Elab.async false
set_option linter.all false
set_option maxRecDepth 100000
set_option maxHeartbeats 4000000
/-! ### {x: v}, x a name that holds a tuple -/
namespace DL
open PySem PySem.Spec PyProof.Rows L2
/-! min(list of whole numbers) -/
end DL
set_option Elab.async false
set_option linter.all false
set_option maxRecDepth 100000
set_option maxHeartbeats 4000000
/-! ### tuples of new things, new things by a test; defs that raise or return what is new; what is told by its address -/
namespace DL
open PySem PySem.Spec PyProof.Rows L2
noncomputable def tpR (t : TRL) : TRD := fun ρ k => t ρ fun ts => ts.length ≤ sizeLine ∧ k (.tp ts)
noncomputable def ifR (t : TBD) (a b : TRD) : TRD := fun ρ k => t ρ fun c => if c = true then a ρ k else b ρ k
section
variable {X : Cx} {F : Fr} {a b c : Expr} {es : List Expr} {tl : TRL} {tA : TBD} {ta tb : TRD} {pos : Pos}
theorem r_tp {x1 : Nat} (h : PA X es (liftRA F tl)) : PE X (.Tuple es x1 pos) (liftR F (tpR tl)) := by
  refine pe_imp (pe_tup h) fun σ H Q ⟨G, ρ, k, r, h, q⟩ => ⟨G, ρ, _, r, h, fun ts vs R H1 ⟨hz, h1⟩ e1 hR nR o1 => ⟨by rw [← o1.len]; exact hz, fun p hp => ?_⟩⟩
  have r1 := r.grows e1 hR fun p hp => OwL.mut ts vs R o1 p hp
  have e2 : Ext (G.adds R) H1 (upd H1 p (.tup vs)) := Ext.new r1.bag hp
  have pR : p ∉ R := fun z => (OwL.own ts vs R o1 p z).2 hp
  exact q (.tp ts) (.ref p) R _ h1 (e1.trans (Ext.cg (G := G.adds R) (G' := G) rfl rfl (fun _ h => .inl h) e2)) hR nR ⟨p, vs, rfl, upd_same, Ow.evoL (r1.evo e2) ts vs R (fun a ha => ⟨.inr ha, upd_ne fun z => pR (z ▸ ha)⟩) o1⟩
theorem r_if (hc : PT X c (liftT F tA)) (ha : PE X a (liftR F ta)) (hb : PE X b (liftR F tb)) : PE X (.IfExp c a b pos) (liftR F (ifR tA ta tb)) := by
  refine pe_imp (pe_ifExp hc ha hb) fun σ H Q ⟨G, ρ, k, r, h, q⟩ => ⟨G, ρ, _, r, h, fun d H1 h1 e1 => ?_⟩
  cases d with
  | true => exact iteT ⟨G, ρ, k, r.step e1, of_tt h1, fun t v R H2 h2 e2 hR nR o => q t v R H2 h2 (e1.trans e2) (fun p hp => e1.free r.bag (hR p hp)) nR o⟩
  | false => exact iteF ⟨G, ρ, k, r.step e1, of_ff h1, fun t v R H2 h2 e2 hR nR o => q t v R H2 h2 (e1.trans e2) (fun p hp => e1.free r.bag (hR p hp)) nR o⟩
end
/-! a def that raises, or returns what is new -/
noncomputable abbrev RXT := List D → (Tr → Prop) → (XD → Prop) → Prop
noncomputable def spVT (K : PySem.W.Frag) (R : RXT) : Sp := fun vs H Q E => ∃ G ds k e, GOk G H ∧ DtL K G H ds vs ∧ R ds k e ∧ (∀ t v L H', k t → Ext G H H' → (∀ p ∈ L, H p = none) → L.Nodup → Ow K (G.adds L) H' t v L → Q v H') ∧ ∀ x cls a H', e x → Ext G H H' → XRel K G H' x cls a → E cls a H'
theorem Fun.okVT {P : Program} {w : World} {K : PySem.W.Frag} {mg : Str → Option Value} {base : Heap} {x qual : Str} {st : Stmt} {f : Addr} {fd : FuncData} {N ps : List Str} {k : Nat} {R : RXT} (Fn : Fun K x qual st f fd) (S : FnScope N ps (defScope st))
    (len : ∀ ds k e, R ds k e → ds.length = ps.length)
    (hb : ∃ T : WXD → TSD, (∀ (cdv : Value) (A : Around) (outer : List Env) (s : Shared) (H : Hp) (E : XK) (G : Gh) (H' : Hp) (pn : List (V × D)) (W : WXD), Room k (A.deeper (envOfC qual (defScope st) s.heap.objs.size f cdv)) → A.guards = some [] →
      Takes (cxOf (L2.CX P w) P w K mg base N qual (defScope st) f cdv A outer s H E) (liftW ⟨K, G, H', pn⟩ W) →
      PSs (cxOf (L2.CX P w) P w K mg base N qual (defScope st) f cdv A outer s H E) (defBody st) (liftS ⟨K, G, H', pn⟩ (T W))) ∧ ∀ ds κ e, R ds κ e → T (fun x _ => e x) (endT κ) (enterS N.length ds)) : FnG P w K mg base (L2.CX P w) (k + 1) f fd ps (spVT K R) := by
  obtain ⟨oc, od, kV, doc, pm, an, cdv, ct, osl, rfl, lk, hcd⟩ := Fn.ex
  obtain ⟨T, hb, hq⟩ := hb
  refine fnG_of lk hcd S (fun vs H Q E h => ?_) fun A outer s H vs Q E hr hg h => ?_
  · obtain ⟨G, ds, κ, e, _, hd, hR, _⟩ := h
    rw [← hd.len]; exact len ds κ e hR
  · obtain ⟨G, ds, κ, e, ok, hd, hR, q, qe⟩ := h
    have dat : ∀ (d : D) (v : V) (H' : Hp), κ (.d d) → Ext G H H' → Dt K G H' d v → Q v H' := fun d v H' h x hd => q (.d d) v [] H' h x (fun _ z => nomatch z) List.nodup_nil (by rw [Gh.adds_nil]; exact ⟨rfl, hd⟩)
    have tk : Takes (cxOf (L2.CX P w) P w K mg base N qual (defScope st) f cdv A outer s H E) (liftW ⟨K, G, H, []⟩ fun x _ => e x) :=
      (takes_of rfl rfl rfl rfl).imp fun c d σ H1 ⟨G1, ρ, x, r, w, z⟩ => qe x c d H1 w r.ext (z.evo r.less)
    refine ⟨_, hb cdv A outer s H E G H [] (fun x _ => e x) hr hg tk, G, _, endT κ, ⟨rfl, rfl, ok.ob, ok.oi, fun _ h => h, fun a h n => absurd h n, ok.tr, .refl ok.bag, (fun _ z => nomatch z), [], ?_, List.nodup_nil⟩, hq ds κ e hR,
      ⟨fun ρ G' σ' H' h r => dat .non .non H' h r.ext rfl, fun t v R H' h x hR nR ho => q t v R H' h x hR nR ho, fun _ _ _ _ h _ => h.elim, fun _ _ _ _ h _ => h.elim, fun d ρ G' σ' H' v h r hd => dat d v H' h r.ext (r.less.dt d v hd)⟩⟩
    unfold enterS L2.start
    rw [hd.len]
    exact slots_start _ hd
structure CalVT (P : Program) (w : World) (K : PySem.W.Frag) (mg : Str → Option Value) (base : Heap) (n : Nat) (x : Str) (R : RXT) : Prop where
  ex : ∃ (f : Addr) (fd : FuncData) (ps : List Str) (k : Nat), k ≤ n ∧ FnG P w K mg base (L2.CX P w) k f fd ps (spVT K R) ∧ mg x = some (.ref f) ∧ PySem.W.keepIn K (.ref f) = true ∧ Binds K fd ps []
theorem CalVT.mono {P : Program} {w : World} {K : PySem.W.Frag} {mg : Str → Option Value} {base : Heap} {n n' : Nat} {x : Str} {R : RXT} (c : CalVT P w K mg base n x R) (h : n ≤ n') : CalVT P w K mg base n' x R :=
  let ⟨f, fd, ps, k, hk, r⟩ := c.ex
  ⟨f, fd, ps, k, by omega, r⟩
theorem CalVT.of {P : Program} {w : World} {K : PySem.W.Frag} {mg : Str → Option Value} {base : Heap} {n : Nat} {x : Str} {R : RXT} {f : Addr} {fd : FuncData} {ps : List Str} {q : Str} {st : Stmt} (fn : FnG P w K mg base (L2.CX P w) n f fd ps (spVT K R)) (hm : mg x = some (.ref f)) (F : Fun K x q st f fd) (hb : Binds K fd ps []) : CalVT P w K mg base n x R := ⟨f, fd, ps, n, Nat.le_refl _, fn, hm, F.kp, hb⟩
noncomputable def callVT (R : RXT) (W : WXD) (ta : TLD) : TRD := fun ρ k => ta ρ fun ds => R ds k fun x => W x ρ
section
variable {X : Cx} {F : Fr} {W : WXD} {n : Nat} {x : Str} {R : RXT} {e : Expr} {es : List Expr} {ta : TLD} {p pos : Pos}
theorem r_callVT (c : CalVT X.prog X.w X.K X.mg X.base n x R) (tk : Takes X (liftW F W)) (hr : Room n X.A) (hgd : X.A.guards = some []) (hg : Gl X x) (ha : PA X (e :: es) (liftA F ta)) (hK : X.K = F.K := by rfl) (hdb : (x == ("__debug__" : Str)) = false := by decide)
    (he : starEach (e :: es) X.env = (false, eval e X.env) :: starEach es X.env := by rfl) (hpl : (backTo pos (starEach es X.env)).any (·.1) = false := by rfl) : PE X (.Call (.Name x p) (e :: es) [] pos) (liftR F (callVT R W ta)) := by
  obtain ⟨f, fd, ps, j, hj, fn, hm, hk, hb⟩ := c.ex
  refine pe_imp (peGS_call fn (hr.mono hj) hgd hg hm hk hb (fun σ => passAt tk σ) ha hdb he hpl) fun σ H Q ⟨G, ρ, k, r, h, q⟩ => ?_
  refine ⟨G, ρ, _, r, h, fun ds vs H1 h1 e1 d1 => ?_⟩
  have r1 := r.step e1
  show spVT X.K R vs H1 Q (WE (liftW F W) σ)
  rw [hK]
  exact ⟨G, ds, k, _, r1.ok, d1, h1, fun t v L H2 h2 e2 hL nL o => q t v L H2 h2 (e1.trans e2) (fun p hp => e1.free r.bag (hL p hp)) nL o, fun y cls a H2 w e2 z => ⟨G, ρ, y, r1.step e2, w, z⟩⟩
end
/-! ### what is told by its address -/
mutual
noncomputable def D.flp : D → Bool
  | .non => true
  | .bl _ => true
  | .int _ => true
  | .str _ => true
  | .tup ds => D.flps ds
  | .glb _ => true
  | .at _ _ => true
  | _ => false
noncomputable def D.flps : List D → Bool
  | [] => true
  | d :: ds => d.flp && D.flps ds
end
mutual
/-- what stands at an address, as the address alone -/
noncomputable def D.unat : D → D
  | .tup ds => .tup (D.unats ds)
  | .at a _ => .glb a
  | d => d
noncomputable def D.unats : List D → List D
  | [] => []
  | d :: ds => d.unat :: D.unats ds
end
mutual
/-- what stands at an address, told again -/
noncomputable def reD (a : Addr) (x : D) : D → D
  | .tup ds => .tup (reDs a x ds)
  | .glb b => if b = a then .at a x else .glb b
  | d => d
noncomputable def reDs (a : Addr) (x : D) : List D → List D
  | [] => []
  | d :: ds => reD a x d :: reDs a x ds
end
section
variable {K : PySem.W.Frag} {G G' : Gh} {H H' : Hp}
mutual
theorem Dt.unat (hs : ∀ a xs, H a = some (.tup xs) → H' a = some (.tup xs)) : ∀ (d : D) (v : V), d.flp = true → Dt K G H d v → Dt K G' H' d.unat v
  | .non, v, _, h => h
  | .bl b, v, _, h => h
  | .int i, v, _, h => h
  | .str x, v, _, h => h
  | .tup ds, v, f, h => by
    obtain ⟨a, xs, h1, h3, h4⟩ := h
    exact ⟨a, xs, h1, hs _ _ h3, Dt.unats hs ds xs (by simpa only [D.flp] using f) h4⟩
  | .glb _, v, f, h => h
  | .at _ _, v, f, h => h.1
  | .lst ds, v, f, h => by simp [D.flp] at f
  | .dic t ds, v, f, h => by simp [D.flp] at f
  | .ins C ds, v, f, h => by simp [D.flp] at f
  | .bag, v, f, h => by simp [D.flp] at f
  | .lock _ _, v, f, h => by simp [D.flp] at f
theorem Dt.unats (hs : ∀ a xs, H a = some (.tup xs) → H' a = some (.tup xs)) : ∀ (ds : List D) (vs : List V), D.flps ds = true → DtL K G H ds vs → DtL K G' H' (D.unats ds) vs
  | [], _, _, h => h
  | d :: ds, vs, f, h => by
    obtain ⟨x, r, h1, h2, h3⟩ := h
    simp only [D.flps, Bool.and_eq_true] at f
    exact ⟨x, r, h1, Dt.unat hs d x f.1 h2, Dt.unats hs ds r f.2 h3⟩
end
mutual
theorem Dt.reat {a : Addr} {x : D} (hx : Dt K G H x (.ref a)) : ∀ (d : D) (v : V), Dt K G H d v → Dt K G H (reD a x d) v
  | .tup ds, v, h => by
    obtain ⟨b, xs, h1, h3, h4⟩ := h
    exact ⟨b, xs, h1, h3, Dt.reats hx ds xs h4⟩
  | .glb b, v, h => by
    obtain rfl : v = .ref b := h
    show Dt K G H (if b = a then .at a x else .glb b) (.ref b)
    split
    · rename_i e
      subst e
      exact ⟨rfl, hx⟩
    · rfl
  | .non, v, h => h
  | .bl b, v, h => h
  | .int i, v, h => h
  | .str x, v, h => h
  | .at _ _, v, h => h
  | .lst ds, v, h => h
  | .dic t ds, v, h => h
  | .ins C ds, v, h => h
  | .bag, v, h => h
  | .lock _ _, v, h => h
theorem Dt.reats {a : Addr} {x : D} (hx : Dt K G H x (.ref a)) : ∀ (ds : List D) (vs : List V), DtL K G H ds vs → DtL K G H (reDs a x ds) vs
  | [], _, h => h
  | d :: ds, vs, h => by
    obtain ⟨y, r, h1, h2, h3⟩ := h
    exact ⟨y, r, h1, Dt.reat hx d y h2, Dt.reats hx ds r h3⟩
end
end
section
variable {F : Fr} {G : Gh} {H : Hp} {σ : L2.St} {ρ : List Sl}
/-- data of a slot, told otherwise -/
theorem Rel.reDat (r : Rel F G H σ ρ) {i : Nat} {d d' : D} (hi : ρ[i]? = some (.dat d)) (f : ∀ v, σ[i]? = some (some v) → Dt F.K G H d v → Dt F.K G H d' v) : Rel F G H σ (ρ.set i (.dat d')) := by
  obtain ⟨L, rl⟩ := r.adrs
  obtain ⟨o, B, L1, e1, h1, r1, nB, f1, _, _⟩ := rl.take hi
  have h2 : SlR F G H (.dat d') o B := by
    obtain ⟨hb, v, rfl, hv⟩ := h1
    exact ⟨hb, v, rfl, f v e1 hv⟩
  obtain ⟨L2, r2, _⟩ := r1.giveS e1 h2 nB f1
  rw [List.set_set] at r2
  exact r2.1
theorem Rel.trIo (r : Rel F G H σ ρ) {i : Nat} {ts : List Tr} (hi : ρ[i]? = some (.tr (.l ts))) : ∃ a, σ[i]? = some (some (.ref a)) ∧ Rel F G H σ (ρ.set i (.io (.ref a) (.l ts))) := by
  obtain ⟨L, rl⟩ := r.adrs
  obtain ⟨o, B, L1, e1, h1, r1, nB, f1, _, _⟩ := rl.take hi
  obtain ⟨hn, v, rfl, ow⟩ := h1
  obtain ⟨p, xs, M, rfl, ow'⟩ := id ow
  have h2 : SlR F G H (.io (.ref p) (.l ts)) (some (.ref p)) B := ⟨hn, rfl, ow⟩
  obtain ⟨L2, r2, _⟩ := r1.giveS e1 h2 nB f1
  rw [List.set_set] at r2
  exact ⟨p, e1, r2.1⟩
theorem Rel.ioV (r : Rel F G H σ ρ) {i : Nat} {t : Tr} {v : V} (hi : ρ[i]? = some (.io v t)) : σ[i]? = some (some v) := by
  obtain ⟨L, rl⟩ := r.adrs
  obtain ⟨o, B, L1, e1, h1, _⟩ := rl.take hi
  rw [e1, h1.2.1]
end
noncomputable def ioT (i : Nat) (S : TSD) : TSD := fun k ρ => ∃ ts, ρ[i]? = some (.tr (.l ts)) ∧ ∀ a : Addr, S k (ρ.set i (.io (.ref a) (.l ts)))
/-- reading what is owned, by its address -/
noncomputable def ptrR (i : Nat) (t : TRD) : TRD := fun ρ k => ∃ a ts, ρ[i]? = some (.io (.ref a) (.l ts)) ∧ t (ρ.set i (.dat (.at a (Tr.l ts).toD))) fun x => ∃ d, x = .d d ∧ d.flp = true ∧ k (.d d.unat)
noncomputable def ptrB (i j : Nat) (t : TBD) : TBD := fun ρ k => ∃ a ts d, ρ[i]? = some (.io (.ref a) (.l ts)) ∧ ρ[j]? = some (.dat d) ∧ i ≠ j ∧ t ((ρ.set i (.dat (.at a (Tr.l ts).toD))).set j (.dat (reD a (Tr.l ts).toD d))) k
section
variable {X : Cx} {F : Fr} {e : Expr} {te : TRD} {tb : TBD} {st : List Stmt} {S : TSD}
theorem ss_io (i : Nat) (h : PSs X st (liftS F S)) : PSs X st (liftS F (ioT i S)) := by
  refine pss_imp h fun E σ H ⟨G, ρ, k, r, ⟨ts, hi, w⟩, o⟩ => ?_
  obtain ⟨a, _, r'⟩ := r.trIo hi
  exact ⟨_, _, k, r', w a, o⟩
theorem Rel.frzAt {G : Gh} {H : Hp} {σ : L2.St} {ρ : List Sl} (r : Rel F G H σ ρ) {i : Nat} {a : Addr} {ts : List Tr} (hi : ρ[i]? = some (.io (.ref a) (.l ts))) : ∃ B, Rel F (G.rems B) H σ (ρ.set i (.dat (.at a (Tr.l ts).toD))) ∧ (∀ p ∈ B, ∃ u, H p = some u ∧ Mut (some u)) ∧ G.bg ∉ B ∧ G.bi ∉ B := by
  have ev := r.ioV hi
  have r1 := r.asTr (mk := .io (.ref a)) hi rfl
  have hi2 : (ρ.set i (.tr (.l ts)))[i]? = some (.tr (.l ts)) := by rw [List.getElem?_set_self', hi]; rfl
  obtain ⟨B, r', hB, nb, ni⟩ := r1.frzR hi2
  rw [List.set_set] at r'
  have hi3 : (ρ.set i (.dat (Tr.l ts).toD))[i]? = some (.dat (Tr.l ts).toD) := by rw [List.getElem?_set_self', hi]; rfl
  have r2 := r'.reDat (d' := .at a (Tr.l ts).toD) hi3 fun v hv hd => by
    rw [ev] at hv
    cases hv
    exact ⟨rfl, hd⟩
  rw [List.set_set] at r2
  exact ⟨B, r2, hB, nb, ni⟩
theorem r_ptr (i : Nat) (h : PE X e (liftR F te)) : PE X e (liftR F (ptrR i te)) := by
  refine pe_imp (pe_thaw h) fun σ H Q ⟨G, ρ, k, r, ⟨a, ts, hi, w⟩, q⟩ => ?_
  obtain ⟨B, r', hB, nb, ni⟩ := r.frzAt hi
  refine ⟨B, hB, _, _, _, r', w, fun x v L H' ⟨d, ex, f, hk⟩ xt hL nL ow => ?_⟩
  subst ex
  obtain ⟨rfl, hd⟩ := ow
  refine q (.d d.unat) v [] _ hk (xt.rem hB nb ni) (fun _ z => nomatch z) List.nodup_nil ⟨rfl, ?_⟩
  exact Dt.unat (thaw_sqt xt hB nb) d v f hd
theorem t_ptr (i j : Nat) (h : PT X e (liftT F tb)) : PT X e (liftT F (ptrB i j tb)) := by
  refine pt_imp (pt_thaw h) fun σ H Q ⟨G, ρ, k, r, ⟨a, ts, d, hi, hj, ne, w⟩, q⟩ => ?_
  obtain ⟨B, r', hB, nb, ni⟩ := r.frzAt hi
  have hj' : (ρ.set i (.dat (.at a (Tr.l ts).toD)))[j]? = some (.dat d) := by rw [List.getElem?_set_ne ne]; exact hj
  have hi' : (ρ.set i (.dat (.at a (Tr.l ts).toD)))[i]? = some (.dat (.at a (Tr.l ts).toD)) := by rw [List.getElem?_set_self', hi]; rfl
  obtain ⟨o, L, e1, -, v0, rfl, hv⟩ := r'.at hi'
  have hx : Dt F.K (G.rems B) H (Tr.l ts).toD (.ref a) := by
    obtain ⟨rfl, z⟩ := hv
    exact z
  have r2 := r'.reDat (d' := reD a (Tr.l ts).toD d) hj' fun v _ hd => Dt.reat hx d v hd
  exact ⟨B, hB, _, _, _, r2, w, fun b H' h x => q b _ h (x.rem hB nb ni)⟩
end
/-! x[n][m].append(e), x a list of tuples that hold owned lists -/
noncomputable def tOwn2 (i : Nat) (z m : Int) : TE := fun σ H Q => ∃ p xs t zs w, σ[i]? = some (some (.ref p)) ∧ H p = some (.lst xs) ∧ atI xs z = some (.ref t) ∧ H t = some (.tup zs) ∧ atI zs m = some w ∧ Q w H
noncomputable def appIx2 (i : Nat) (z m : Int) (ta : TLD) : TSD := fun k ρ => match ρ[i]? with
  | some (.tr (.l ts)) => ∃ n us l vs, ixN ts.length z = some n ∧ ts[n]? = some (.tp us) ∧ ixN us.length m = some l ∧ us[l]? = some (.l vs) ∧ vs.length < sizeLine ∧ ta ρ fun args => ∃ d, args = [d] ∧ k.nx (ρ.set i (.tr (.l (ts.set n (.tp (us.set l (.l (vs ++ [.d d]))))))))
  | _ => False
section
variable {X : Cx} {F : Fr} {e : Expr} {ta : TLD} {pos px zpos ipos ipos2 mpos apos cpos : Pos} {x : Str} {z m : Int} {j j2 : Nat}
theorem pe_own2 (i : Nat) (hN : X.N[i]? = some x := by rfl) (hv : Vis X.env.scope x := by first | exact Or.inl rfl | exact Or.inr (Or.inl rfl) | exact Or.inr (Or.inr rfl)) (hdb : (x == ("__debug__" : Str)) = false := by decide)
    (hcd : (x == ("__classdict__" : Str)) = false := by decide) (hs : PlainIx (.Constant (.int z) j zpos) := by intro _ _; rfl) (hs2 : PlainIx (.Constant (.int m) j2 mpos) := by intro _ _; rfl) : PE X (.Subscript (.Subscript (.Name x px) (.Constant (.int z) j zpos) ipos) (.Constant (.int m) j2 mpos) ipos2) (tOwn2 i z m) := by
  refine pe_imp (pe_ix ix_seq (pe_ix ix_seq (pe_var hN hv hdb hcd) pe_int hs) pe_int hs2) fun σ H Q ⟨p, xs, t, zs, w, e1, hp, hw, ht, hm, q⟩ => ?_
  exact ⟨_, e1, .inl ⟨p, xs, z, .ref t, rfl, rfl, SqL.of hp, hw, .inr (.inl ⟨t, zs, m, w, rfl, rfl, SqT.of ht, hm, q⟩)⟩⟩
theorem s_appIx2 (i : Nat) (hpe : PE X (.Call (.Attribute (.Subscript (.Subscript (.Name x px) (.Constant (.int z) j zpos) ipos) (.Constant (.int m) j2 mpos) ipos2) "append" apos) [e] [] cpos) (tBM X.K "list" rAppend (tOwn2 i z m) (liftA F ta)))
    (hs : swapsWith (.Call (.Attribute (.Subscript (.Subscript (.Name x px) (.Constant (.int z) j zpos) ipos) (.Constant (.int m) j2 mpos) ipos2) "append" apos) [e] [] cpos) none pos.line X.env = pure false := by rfl) :
    PS X (.Expr (.Call (.Attribute (.Subscript (.Subscript (.Name x px) (.Constant (.int z) j zpos) ipos) (.Constant (.int m) j2 mpos) ipos2) "append" apos) [e] [] cpos) pos) (liftS F (appIx2 i z m ta)) := by
  refine ps_imp (ps_expr hpe hs) fun E σ H ⟨G, ρ, k, r, h, o⟩ => ?_
  obtain ⟨ts, hi, n, us, l, vs, hn, hu, hm, hv, hl, h⟩ := tl_of h
  obtain ⟨L, rl⟩ := r.adrs
  obtain ⟨v, B, e1, ⟨p, xs, M, rfl, o2, h4, h5, rfl⟩, _, _, nbg, _⟩ := rl.io (mk := .tr) hi rfl
  obtain ⟨w, A, M', B', w1, rfl, ⟨t, zs, rfl, ht, hzs⟩, _⟩ := h5.pick hu
  obtain ⟨y, A2, M2, B2, y1, rfl, ⟨q, ys, N, rfl, oq, hq, hys, rfl⟩, _⟩ := hzs.pick hv
  refine ⟨p, xs, t, zs, .ref q, e1, h4, ?_, ht, ?_, .inl ⟨rfl, _, SqL.of hq⟩, G, ρ, _, r, h, fun args vs2 H1 ⟨d, ea, h1⟩ x1 d1 => ?_⟩
  · unfold L2.atI
    rw [← h5.len, hn]; exact w1
  · unfold L2.atI
    rw [← hzs.len, hm]; exact y1
  · subst ea
    have r1 := r.step x1
    obtain ⟨v, B, e1', ⟨p', xs', M, rfl, o2, h4', h5, rfl⟩, nB, _, ch⟩ := r1.chg hi
    rw [e1] at e1'
    cases e1'
    obtain ⟨w, A, M', B', w1', rfl, ⟨t', zs', ew, ht', hzs'⟩, set⟩ := h5.pick hu
    obtain ⟨y', A2', M2', B2', y1', rfl, ⟨q', ys', N, ey, oq, hq', hys, rfl⟩, set2⟩ := hzs'.pick hv
    have npb : p ≠ G.bg := fun z => nbg (by rw [z]; simp)
    have hp1 : H1 p = some (.lst xs) := x1.mine npb h4 o2
    rw [hp1] at h4'
    cases h4'
    rw [w1] at w1'
    cases w1'
    cases ew
    have ht1 := (r.evo x1).tu ht
    rw [ht1] at ht'
    cases ht'
    rw [y1] at y1'
    cases y1'
    cases ey
    obtain ⟨g, rfl, hy⟩ := dl1 d1
    have hn1 := List.nodup_cons.mp nB
    have npq : p ≠ q := fun z => hn1.1 (by rw [z]; simp)
    obtain ⟨_, nM, nd⟩ := nodup_mid hn1.2
    obtain ⟨_, nM2, nd2⟩ := nodup_mid nM
    have ndq := nd q (by simp)
    have ndq2 := nd2 q (by simp)
    refine ⟨q, ys', g, rfl, rfl, hq', by rw [← hys.len]; exact hl, ?_⟩
    have ev : Evo G G H1 (upd H1 q (.lst (ys' ++ [g]))) := ⟨fun a u n h => .inl (by rw [upd_ne (fun z => n (by rw [z]; exact oq))]; exact h), r1.tr, fun _ n _ => n, rfl, rfl⟩
    have nqN : q ∉ N := (List.nodup_cons.mp nM2).1
    have hw : Ow F.K G (upd H1 q (.lst (ys' ++ [g]))) (.l (vs ++ [.d d])) (.ref q) (q :: N) := by
      have h6 := hys.app (OwL.one hy)
      rw [List.append_nil] at h6
      exact ⟨q, _, N, rfl, oq, upd_same, Ow.evoL ev _ _ N (fun a ha => ⟨(OwL.own _ _ N h6 a ha).1, upd_ne fun z => nqN (z ▸ ha)⟩) h6, rfl⟩
    have ntq : t ≠ q := fun z => by rw [z, hq'] at ht1; cases ht1
    have hw2 : Ow F.K G (upd H1 q (.lst (ys' ++ [g]))) (.tp (us.set l (.l (vs ++ [.d d])))) (.ref t) (A2' ++ (q :: N ++ B2')) :=
      ⟨t, zs, rfl, by rw [upd_ne ntq]; exact ht1, set2 G _ _ (fun u w N' s hw' => Ow.evo ev u w N' (fun a ha => ⟨(Ow.own u w N' hw' a ha).1, upd_ne fun z => (s a ha).elim (z ▸ ndq2.1) (z ▸ ndq2.2)⟩) hw') hw⟩
    exact o.nx _ G σ _ h1 (ch q (.lst (ys' ++ [g])) (.l (ts.set n (.tp (us.set l (.l (vs ++ [.d d])))))) (by simp) True.intro ⟨p, xs, _, rfl, o2, by rw [upd_ne npq]; exact hp1, set G _ _ (fun u w N' s hw' => Ow.evo ev u w N' (fun a ha => ⟨(Ow.own u w N' hw' a ha).1, upd_ne fun z => (s a ha).elim (z ▸ ndq.1) (z ▸ ndq.2)⟩) hw') hw2, rfl⟩)
end
/-! y = [e for t in it], e new -/
section
variable {X : Cx} {F : Fr} {t : Tg} {I : TLD} {te : TRD} {elt iter tg : Expr} {scope : Scope} {own : List (Str × Nat)} {pos : Pos}
theorem s_newLcR {i : Nat} {y : Str} {py spos : Pos} (t : Tg) (hc : X.calm = true) (hN : X.N.Nodup) (hy : X.N[i]? = some y) (hyl : X.env.scope.names.lookup y = some .local)
    (hsw : swapsWith (.ListComp elt [⟨tg, iter, [], 0⟩] scope pos) (some (.Name y py)) spos.line X.env = pure true) (hi : PI X tg iter (liftI F I)) (ok : BlkOk X.N X.env.scope scope own)
    (hg : ∀ (s : Shared) (H : Hp) (C : Addr) (cl : List (Str × Addr)) (fp : List Addr), PG (X.blk s H scope (compEnvC scope cl C X.env) fp) tg (gOf X.K t))
    (he : ∀ (s : Shared) (H : Hp) (C : Addr) (cl : List (Str × Addr)) (fp : List Addr) (pn : List (V × D)), PE (X.blk s H scope (compEnvC scope cl C X.env) fp) elt (liftR (F.pin pn) te))
    (hx : ∀ i ∈ t.ix, i ∈ own.map (·.2) := by decide) (hf : ∀ x, foldedSetIterable iter X.env x = pure x := by intro _; rfl) (hK : X.K = F.K := by rfl) :
    PS X (.Assign [.Name y py] (.ListComp elt [⟨tg, iter, [], 0⟩] scope pos) spos) (liftS F (newR i (lcR t I te (own.map (·.2))))) := by
  refine ps_imp (ps_setLc (tt := tYes) (te := fun σ H Q => ∃ pn, liftR (F.pin pn) te σ H Q) hc hN hy hyl hsw hi ok hg
    (fun s H C cl fp => pts_nil) (fun s H C cl fp => ⟨fun pins s1 σ H1 Q I ⟨pn, w⟩ => (he s H C cl fp pn).run pins s1 σ H1 Q I w⟩) hf) ?_
  intro E σ H ⟨G, ρ, k, r, h, o⟩
  refine lcTR (F := F) _ hx hK _ (fun pn _ _ _ w => ⟨pn, w⟩) σ H _ ⟨G, ρ, _, r, h, fun t v R H1 h1 e1 hR nR o1 => ?_⟩
  obtain ⟨L, rl⟩ := r.adrs
  have g := (rl.grows e1 hR fun p hp => Ow.mut t v R o1 p hp).give (i := i) o1 nR (fun p hp z => r.free (hR p hp) (r.sub p z)) fun p hp => rl.new (hR p hp)
  exact o.nx _ _ _ H1 h1 g
end
end DL
set_option Elab.async false
set_option linter.all false
set_option maxRecDepth 100000
set_option maxHeartbeats 4000000
/-! ### sorted(a list of tuples whose first one is empty) -/
namespace DL
open PySem PySem.Spec PyProof.Rows L2 PySem.W PySem.SeqAt
section
variable {prog : Program} {w : World} {A : Around} {E : Value → Shared → Prop} {s : Shared}
theorem call_tuple_lt {Q : Value → Shared → Prop} {l b : Addr} {items items2 : Array Value} {e r : Nat → Bool} (hl : s.heap.IsTuple l items) (hb : s.heap.IsTuple b items2)
    (he : ∀ j (h1 : j < items.size) (h2 : j < items2.size), EqAt A.in1 s items[j] items2[j] (e j)) (hr : ∀ j (h1 : j < items.size) (h2 : j < items2.size), e j = false → RcLt A.in1 s items[j] items2[j] (r j))
    (h : Q (.bool (firstLt e r (decide (items.size < items2.size)) (List.range (min items.size items2.size)))) s) : wpAny (model prog w) A (call (.builtin "tuple.__lt__") [.ref l, .ref b]) Q E s := by
  obtain ⟨⟨cls, dd, data, sl⟩, ho, hc, n, hd⟩ := id hl
  obtain ⟨⟨cls2, dd2, data2, sl2⟩, ho2, hc2, n2, hd2⟩ := id hb
  simp only at hc hd hc2 hd2
  subst hc hd hc2 hd2
  exact call_meets F.slot_tuple_lt ⟨_, ho, rfl⟩ F.entry_tuple_lt (F.args_tuple_lt_2 _ _) (tuple_ltAt l b items items2 n n2 dd dd2 sl sl2 e r) ⟨ho, ho2, he, hr, h⟩
theorem oneLt_tup {xs ys : List PyData} {a b : Value} {as bs : List Addr} {Q : Bool → Shared → Prop} (ra : Reads s.heap a (.tuple xs) as) (rb : Reads s.heap b (.tuple ys) bs) (hal : alikeAll xs ys = true)
    (hu : A.units + min (PyData.tuple xs).depth (PyData.tuple ys).depth < cLine) (hq : Q (dataLt (.tuple xs) (.tuple ys)) s) : wpAny (model prog w) A (oneLt' true a b) Q E s := by
  cases ra with
  | @tuple l o vs n _ as₁ h1 h2 h3 h4 =>
    cases rb with
    | @tuple l' o' vs' n' _ bs₁ k1 k2 k3 k4 =>
      have n1 : vs.size = xs.length := by simpa using ReadsAll.length _ _ _ h4
      have n2 : vs'.size = ys.length := by simpa using ReadsAll.length _ _ _ k4
      rw [dataLt_tuple, ← firstLt_toks xs ys hal, ← n1, ← n2] at hq
      rw [oneLt'_eq]
      simp only [if_true]
      refine wpAny_bind (wpAny_cRoomFor (room_here hu) ?_)
      refine wpAny_bind (wpAny_callSpecialIfBound?_slot (T := "tuple") ⟨_, h1, h2⟩ F.slot_tuple_lt (call_tuple_lt (e := pairEq xs ys) (r := fun j => dataLt (xs.getD j .none) (ys.getD j .none)) ⟨_, h1, h2, _, h3⟩ ⟨_, k1, k2, _, k3⟩ (fun j j1 j2 => ?_) (fun j j1 j2 hj => ?_) ?_))
      · have := eqAt_alikeAll xs ys A.in1 s vs.toList vs'.toList _ _ h4 k4 hal (room_in hu) j (by simpa using j1) (by simpa using j2)
        simpa using this
      · have := rcLt_alikeAll xs ys A.in1 s vs.toList vs'.toList _ _ h4 k4 hal (room_in hu) j (by simpa using j1) (by simpa using j2) hj
        simpa using this
      · exact wpAny_truthy_bool hq
end
noncomputable def IsTups (h : Heap) : List Value → List (Option Value) → Prop
  | [], [] => True
  | v :: vs, f :: fs => (∃ a o xs n, v = .ref a ∧ h.get? a = some o ∧ o.cls = .type "tuple" ∧ o.data = .seq xs n ∧ xs[0]? = f) ∧ IsTups h vs fs
  | _, _ => False
section
variable {M : Model} {A : Around} {E : Value → Shared → Prop} {s : Shared}
theorem tup_firsts : ∀ (vs : List Value) (fs : List (Option Value)) {Q : List (Option Value) → Shared → Prop}, IsTups s.heap vs fs → Q fs s → wpAny M A (vs.mapM firstOfTuple') Q E s
  | [], [], _, _, h => by rw [List.mapM_nil]; exact wpAny_pure h
  | [], _ :: _, _, t, _ => t.elim
  | _ :: _, [], _, t, _ => t.elim
  | v :: vs, f :: fs, Q, t, h => by
    obtain ⟨⟨a, o, xs, n, rfl, ho, hc, hd, hf⟩, t⟩ := t
    rw [List.mapM_cons]
    refine wpAny_bind ?_
    rw [kas_first_eq]
    refine wpAny_bind (Looks.here (show Looks M s.heap (typeOf (.ref a)) o.cls from (Looks.ld ho).andThen .now) ?_)
    rw [hc, if_neg (by first | decide | simp)]
    refine wpAny_bind (listItems_at ho hd (wpAny_pure ?_))
    rw [hf]
    exact wpAny_bind (tup_firsts vs fs (Q := fun bs s' => wpAny M A (pure (f :: bs)) Q E s') t (wpAny_pure h))
theorem isTups_look : ∀ {vs : List Value} {fs : List (Option Value)}, IsTups s.heap vs fs → ∀ v ∈ vs, Looks M s.heap (typeOf v) (Value.type "tuple")
  | v :: vs, f :: fs, t, u, hu => by
    obtain ⟨⟨a, o, xs, n, rfl, ho, hc, hd, hf⟩, t⟩ := t
    rcases List.mem_cons.mp hu with rfl | hu
    · exact hc ▸ (Looks.ld ho).andThen .now
    · exact isTups_look t u hu
  | [], [], _, _, hu => nomatch hu
  | [], _ :: _, t, _, _ => t.elim
  | _ :: _, [], t, _, _ => t.elim
theorem kind_first {vs : List Value} {fs : List (Option Value)} {Q : SortKind → Shared → Prop} (t : IsTups s.heap vs (none :: fs)) (h : Q oneType' s) : wpAny M A (keyKind' vs.toArray) Q E s := by
  rw [keyKind'_eq, List.mapM_toArray, map_eq_pure_bind]
  refine wpAny_bind (wpAny_bind (tup_firsts vs _ t (wpAny_pure ?_)))
  rw [if_neg (by simp), if_neg (by simp)]
  rw [oneTypeOnly'_eq, List.mapM_toArray, map_eq_pure_bind]
  refine wpAny_bind (wpAny_bind (wpAny_bind (kas_mapM (r := Value.type "tuple") _ (fun v hv Q' hq => (isTups_look t v hv).here hq) (wpAny_pure ?_))))
  have hall : ((List.map (fun _ => Value.type "tuple") vs).toArray.all fun x => x == Value.type "tuple") = true := by
    simp only [List.all_toArray, List.all_map, List.all_eq_true]
    intro _ _
    rfl
  cases vs with
  | nil => exact t.elim
  | cons v vs =>
    have h0 : (List.map (fun _ => Value.type "tuple") (v :: vs)).toArray[0]? = some (Value.type "tuple") := by simp
    rw [h0]
    simp only [hall, if_true]
    exact wpAny_pure (wpAny_pure h)
end
section
variable {prog : Program} {w : World} {A : Around} {E : Value → Shared → Prop} {s : Shared}
theorem each_tups {h : Heap} : ∀ {vs : List Value} {ds : List PyData}, EachIs (fun v d => ∃ as, Reads h v d as) vs ds → (∀ d, d ∈ ds → ∃ xs, d = .tuple xs) → ∃ fs, IsTups h vs fs
  | _, _, .nil, _ => ⟨[], trivial⟩
  | _, _, .cons (b := d) ⟨as, r⟩ t, ht => by
    obtain ⟨fs, h1⟩ := each_tups t fun d hd => ht d (List.mem_cons_of_mem _ hd)
    obtain ⟨xs, rfl⟩ := ht d (List.mem_cons_self ..)
    cases r with
    | @tuple a o xs n _ _ ho hc hd hr => exact ⟨xs[0]? :: fs, ⟨a, o, xs, n, rfl, ho, hc, hd, rfl⟩, h1⟩
noncomputable def TupsE (ds : List PyData) : Prop := ∃ ds', ds = .tuple [] :: ds' ∧ ∀ d ∈ ds', ∃ xs, d = .tuple xs
theorem TupsE.all {ds : List PyData} (h : TupsE ds) : ∀ d ∈ ds, ∃ xs, d = .tuple xs := fun d hd => by
  obtain ⟨ds', rfl, h⟩ := h
  rcases List.mem_cons.mp hd with rfl | hd
  · exact ⟨[], rfl⟩
  · exact h d hd
theorem sortsAt_E {vs : List Value} {ds : List PyData} (e : EachIs (fun v d => ∃ as, Reads s.heap v d as) vs ds) (hal : AllAlike ds) (hk : TupsE ds) (hu : ∀ d, d ∈ ds → A.units + d.depth < cLine) : SortsAt prog w A s (dataKind s.heap ds) vs := by
  have room : ∀ {d d' : PyData}, d ∈ ds → A.units + min d.depth d'.depth < cLine := fun {d d'} hd => Nat.lt_of_le_of_lt (Nat.add_le_add_left (Nat.min_le_left _ _) _) (hu d hd)
  refine ⟨fun v hv => ?_, oneType', ?_, fun h2 E Q hq => ?_⟩
  · obtain ⟨d, hd, as, r⟩ := e.left v hv
    exact ⟨_, dataKind_some hal hd r⟩
  · intro E x y a b Q ha hb hq
    obtain ⟨d, as, hd, ra, rfl⟩ := dataKind_inv ha
    obtain ⟨d', as', hd', rb, rfl⟩ := dataKind_inv hb
    rw [keyLt'_oneType]
    have hdd := hal d hd d' hd'
    have hroom := room (d' := d') hd
    obtain ⟨xs, rfl⟩ := hk.all d hd
    obtain ⟨ys, rfl⟩ := hk.all d' hd'
    exact oneLt_tup ra rb (by simpa [PySem.W.alike] using hdd) hroom hq
  · obtain ⟨ds', rfl, h⟩ := hk
    cases e with
    | cons r t =>
      obtain ⟨as, r⟩ := r
      obtain ⟨fs, h1⟩ := each_tups t h
      cases r with
      | @tuple a o xs n _ _ ho hc hd hr =>
        have z : xs[0]? = none := by
          have := SeqAt.ReadsAll.length _ _ _ hr
          simp at this
          simp [this]
        exact kind_first (fs := fs) ⟨⟨a, o, xs, n, rfl, ho, hc, hd, z⟩, h1⟩ hq
theorem sorted_dataE {β : Type} {vs : List Value} {bs : List β} {enc : β → PyData} {R : Value → β → Prop} {l : Addr} {Q : Value → Shared → Prop} (hl : s.heap.IsList l vs.toArray) (e : EachIs R vs bs) (er : EachIs (fun v b => ∃ as, Reads s.heap v (enc b) as) vs bs) (hal : AllAlike (bs.map enc)) (hk : TupsE (bs.map enc)) (hL : bs.length ≤ sizeLine)
    (hu : ∀ b, b ∈ bs → A.units + 2 + (enc b).depth < cLine) (h : ∀ out, out.length = bs.length → EachIs R out (bs.mergeSort (dataLe false enc)) → Q (.ref (s.heap.objs.size + 1)) { s with heap := sortedAll s.heap vs (List.toArray out) }) :
    wpAny (model prog w) A (call (.builtin "sorted") [.ref l]) Q E s := by
  have er' : EachIs (fun v b => ∃ as, Reads (sortingHeap (copyHeap s.heap vs) (s.heap.objs.size + 1) vs) v (enc b) as) vs bs := er.mono fun _ _ ⟨as, r⟩ => ⟨as, PyProof.Rows.Reads.keeps (fun _ _ => sorting_copy_old) r⟩
  exact sorted_vals hl (sortsAt_E (s := { s with heap := sortingHeap (copyHeap s.heap vs) (s.heap.objs.size + 1) vs }) (each_map (R := fun v d => ∃ as, Reads (sortingHeap (copyHeap s.heap vs) (s.heap.objs.size + 1) vs) v d as) enc er') hal hk (bound_map hu)) (by rw [e.length]; exact hL)
    (h _ (by rw [sortVals_length false rfl]; exact e.length) (sortVals_data false e er' hal))
end
/-- tuples of one kind, the first one empty -/
noncomputable def SrtOkE (m : Nat) (ds : List D) : Prop := (∀ d ∈ ds, d.fla = true ∧ d.pw.depth ≤ m) ∧ AllAlike (ds.map D.pw) ∧ TupsE (ds.map D.pw)
noncomputable def rSortE (K : PySem.W.Frag) (m : Nat) : List V → Hp → VK → Prop := fun vs H Q => ∃ (a : Addr) (xs : List V) (G : Gh) (ds : List D), vs = [.ref a] ∧ H a = some (.lst xs) ∧ DtL K G H ds xs ∧ SrtOkE m ds ∧ ∀ ys p, DtL K G H (srtD ds) ys → H p = none → Q (.ref p) (upd H p (.lst ys))
theorem cr_sortE {X : Cx} {m : Nat} (hu : X.A.units + m + 4 < cLine) : CallR X (.builtin "sorted") (rSortE X.K m) := by
  intro pins s σ H vs us Q I r h
  obtain ⟨a, xs, G, ds, rfl, ha, hd, ok, q⟩ := h
  rw [Vals.ref1 r]
  obtain ⟨its, rv, hl, hz⟩ := I.list (SqL.of (K := X.K) ha)
  have er := dtl_each hd rv
  have hlen : its.length = ds.length := er.length
  have hzl : ds.length ≤ sizeLine := by rw [← hlen, ← rv.length]; exact hz
  have fin : ∀ out : List Value, EachIs (fun u d => ∃ x, Dt X.K G H d x ∧ RelV x u) out (srtD ds) → EP X pins σ Q (.ref (s.heap.objs.size + 1)) { s with heap := sortedAll s.heap its out.toArray } := fun out eo => by
    obtain ⟨ys, d1, r1⟩ := each_dtl eo
    obtain ⟨ep, he'⟩ := sortedAll_at s.heap its out.toArray
    have hy : ys.length ≤ sizeLine := by
      have e1 := eo.length
      have e2 : out.length = ys.length := (Vals.length r1).symm
      have e3 : (srtD ds).length = ds.length := List.length_mergeSort _
      omega
    exact ⟨.ref _, upd H (s.heap.objs.size + 1) (.lst ys), I.laid (t' := s.toks) (fun _ _ => sortedAll_old) (Nat.le_succ _) ⟨hy, out, ep, r1, he'⟩, rfl, q ys _ d1 (I.hok.fresh (Nat.le_succ _))⟩
  obtain ⟨ok1, hal, hk⟩ := ok
  refine sorted_dataE hl.isList er ((each_mem er).mono fun v b ⟨⟨x, d1, r1⟩, hb⟩ => ⟨[], Dt.readsF I b x v (ok1 b hb).1 d1 r1⟩) hal hk hzl (fun b hb => ?_) fun out ho eo => ?_
  · have := (ok1 b hb).2
    omega
  · exact fin out eo
/-- sorted(a list of tuples, the first one empty) -/
noncomputable def sortEF (t : TLD) : TLD := fun ρ k => t ρ fun ds => ∃ es, ds = [.lst es] ∧ SrtOkE 100 es ∧ k (srtD es)
section
variable {X : Cx} {F : Fr} {e : Expr} {ta : TLD} {n : Nat} {p pos : Pos}
theorem f_sortE (hr : Room n X.A) (hg : Gl X "sorted") (hm : X.mg "sorted" = none) (ha : PA X [e] (liftA F ta)) (he : starEach [e] X.env = (false, eval e X.env) :: starEach [] X.env := by rfl) (hK : X.K = F.K := by rfl) :
    PE X (.Call (.Name "sorted" p) [e] [] pos) (liftF F (sortEF ta)) := by
  refine pe_imp (pe_callB (cr_sortE (m := 100) (by have := u150 hr; omega)) hg hm (by decide +kernel) ha (by decide) (by decide) he) fun σ H Q ⟨G, ρ, k, r, h, q⟩ => ⟨G, ρ, _, r, h, fun ds vs H1 ⟨es, e0, ok, h1⟩ e1 d1 => ?_⟩
  subst e0
  obtain ⟨v, rfl, a, us, rfl, n, ha, hl⟩ := dl1 d1
  have r1 := r.step e1
  refine ⟨a, us, G, es, rfl, ha, hK ▸ hl, ok, fun ys l d1 hn => ?_⟩
  have e4 : Ext G H1 (upd H1 l (.lst ys)) := Ext.new r1.bag hn
  rw [hK] at d1
  exact q _ l _ _ h1 (e1.trans e4) (e1.free r.bag hn) upd_same ((r1.evoAdd e4 hn).dts _ _ d1)
end
end DL
set_option Elab.async false
set_option linter.all false
set_option maxRecDepth 100000
set_option maxHeartbeats 4000000
namespace K13
open PySem L2 DL
noncomputable def top (i : Nat) : Stmt := PySem.Challenge.pw_farcatch_k13_parts_by_addresses.main.body.getD i (.Pass ⟨0, 0, 0, 0⟩)
section
variable {P : Program} {w : World} {K : PySem.W.Frag} {mg : Str → Option Value} {base : Heap}
noncomputable abbrev s_is_integer : Stmt := top 5
theorem sc_is_integer : FnScope ["thing"] ["thing"] (defScope s_is_integer) := ⟨rfl, rfl, rfl, by decide +kernel, rfl, by decide +kernel, by decide +kernel⟩
noncomputable def t_is_integer : TSD :=
  (retT (andT (isiT "int" (nameT 0)) (notT (isiT "bool" (nameT 0)))))
theorem fn_is_integer {n : Nat} {R : RD} {f : Addr} {fd : FuncData} (Fn : Fun K "is_integer" "is_integer" s_is_integer f fd) (z_bool : mg "bool" = none) (z_int : mg "int" = none) (z_isinstance : mg "isinstance" = none)
    (hl : ∀ ds k, R ds k → ds.length = 1) (hR : ∀ ds κ, R ds κ → t_is_integer (endD κ) (enterS 1 ds)) : FnG P w K mg base CX0 (n + 1) f fd ["thing"] (spD K R) :=
  Fun.okD Fn sc_is_integer hl ⟨_, fun cdv A outer s H E G H' pn hr hg =>
      (s_one (s_ret (d_and (d_isi (T' := "int") "int" rfl z_isinstance rfl z_int (by decide +kernel) (d_name 0)) (d_one (d_not (d_isi (T' := "bool") "bool" rfl z_isinstance rfl z_bool (by decide +kernel) (d_name 0))))))), hR⟩
noncomputable abbrev s_is_count : Stmt := top 6
theorem sc_is_count : FnScope ["thing"] ["thing"] (defScope s_is_count) := ⟨rfl, rfl, rfl, by decide +kernel, rfl, by decide +kernel, by decide +kernel⟩
noncomputable def t_is_count (Ris_integer : RD) : TSD :=
  (retT (andT (callT Ris_integer (consA (nameT 0) nilA)) (DL.binT (cmpI fun i j => decide (i ≥ j)) (nameT 0) (cT (.int 0)))))
theorem fn_is_count {n : Nat} {R : RD} {f : Addr} {fd : FuncData} {Ris_integer : RD} (Fn : Fun K "is_count" "is_count" s_is_count f fd) (cis_integer : CalP P w K mg base n "is_integer" Ris_integer)
    (hl : ∀ ds k, R ds k → ds.length = 1) (hR : ∀ ds κ, R ds κ → t_is_count Ris_integer (endD κ) (enterS 1 ds)) : FnG P w K mg base CX0 (n + 1) f fd ["thing"] (spD K R) :=
  Fun.okD Fn sc_is_count hl ⟨_, fun cdv A outer s H E G H' pn hr hg =>
      (s_one (s_ret (d_and (d_call ⟨cis_integer.ex⟩ hr hg rfl (a_cons (d_name 0) a_nil)) (d_one (d_cmp op_ge ok_cmpI (d_name 0) d_int (nomark _)))))), hR⟩
noncomputable abbrev s_is_address : Stmt := top 7
theorem sc_is_address : FnScope ["thing", "place"] ["thing"] (defScope s_is_address) := ⟨rfl, rfl, rfl, by decide +kernel, rfl, by decide +kernel, by decide +kernel⟩
theorem bk_is_address_0 : BlkOk ["thing", "place"] (defScope s_is_address) { kind := .function, names := [(".0", .local), ("place", .local), ("is_count", .globalImplicit)], isGenerator := false, isCoroutine := false, more := [] : Scope } [("place", 1)] := blkOk_by (by decide +kernel)
noncomputable def t_is_address (Ris_count : RD) : TSD :=
  (retT (andT (isiT "tuple" (nameT 0)) (callT allR (consA (ofF (lcF (.nm 1) (seqI (nameT 0)) yesT (callT Ris_count (consA (nameT 1) nilA)) [1])) nilA))))
theorem fn_is_address {n : Nat} {R : RD} {f : Addr} {fd : FuncData} {Ris_count : RD} (Fn : Fun K "is_address" "is_address" s_is_address f fd) (z_all : mg "all" = none) (z_isinstance : mg "isinstance" = none) (z_tuple : mg "tuple" = none) (cis_count : CalP P w K mg base n "is_count" Ris_count)
    (hl : ∀ ds k, R ds k → ds.length = 1) (hR : ∀ ds κ, R ds κ → t_is_address Ris_count (endD κ) (enterS 2 ds)) : FnG P w K mg base CX0 (n + 1) f fd ["thing"] (spD K R) :=
  Fun.okD Fn sc_is_address hl ⟨_, fun cdv A outer s H E G H' pn hr hg =>
      (s_one (s_ret (d_and (d_isi (T' := "tuple") "tuple" rfl z_isinstance rfl z_tuple (by decide +kernel) (d_name 0)) (d_one (d_all rfl rfl z_all (a_cons (d_of (f_lc (.nm 1) rfl sc_is_address.nd (i_seq (d_name 0)) bk_is_address_0 (fun _ _ _ _ _ => (pg_name (i := 1) sc_is_address.nd rfl (Or.inl rfl))) (fun _ _ _ _ _ _ => ts_nil) (fun _ _ _ _ _ _ => (d_call ⟨cis_count.ex⟩ hr hg rfl (a_cons (d_name 1) a_nil))))) a_nil)))))), hR⟩
noncomputable abbrev s_codes_within : Stmt := top 9
theorem sc_codes_within : FnScope ["code"] ["code"] (defScope s_codes_within) := ⟨rfl, rfl, rfl, by decide +kernel, rfl, by decide +kernel, by decide +kernel⟩
noncomputable def t_codes_within : TSD :=
  (seqT (iffT (blT (DL.binT inD (DL.binT ixD (nameT 0) (cT (.int 0))) (tupT (consA (cT (.str "name")) (consA (cT (.str "given")) nilA))))) (retT (tupT nilA)) nextT)
    (seqT (iffT (blT (DL.binT eqD (DL.binT ixD (nameT 0) (cT (.int 0))) (cT (.str "if")))) (retT (slT slD (nameT 0) (someO (cT (.int 1))) noneO)) nextT)
    (retT (ifT (blT (DL.binT eqD (DL.binT ixD (nameT 0) (cT (.int 0))) (cT (.str "with")))) (slT slD (nameT 0) (someO (cT (.int 2))) noneO) (DL.binT ixD (nameT 0) (cT (.int 2)))))))
theorem fn_codes_within {n : Nat} {R : RD} {f : Addr} {fd : FuncData} (Fn : Fun K "codes_within" "codes_within" s_codes_within f fd)
    (hl : ∀ ds k, R ds k → ds.length = 1) (hR : ∀ ds κ, R ds κ → t_codes_within (endD κ) (enterS 1 ds)) : FnG P w K mg base CX0 (n + 1) f fd ["code"] (spD K R) :=
  Fun.okD Fn sc_codes_within hl ⟨_, fun cdv A outer s H E G H' pn hr hg =>
      (s_cons (s_if (t_cmp (op_inA hr) ok_in (d_ix (d_name 0) d_int) (d_tup (a_cons d_str (a_cons d_str a_nil))) (by rfl)) (s_one (s_ret (d_tup a_nil))) s_nil)
      (s_cons (s_if (t_cmp (op_eqA hr) ok_eq (d_ix (d_name 0) d_int) d_str (nomark _)) (s_one (s_ret (d_slice (d_name 0) (o_some d_int) o_none))) s_nil)
      (s_one (s_ret (d_if (t_cmp (op_eqA hr) ok_eq (d_ix (d_name 0) d_int) d_str (nomark _)) (d_slice (d_name 0) (o_some d_int) o_none) (d_ix (d_name 0) d_int)))))), hR⟩
noncomputable abbrev s_with_codes : Stmt := top 10
theorem sc_with_codes : FnScope ["code", "codes"] ["code", "codes"] (defScope s_with_codes) := ⟨rfl, rfl, rfl, by decide +kernel, rfl, by decide +kernel, by decide +kernel⟩
noncomputable def t_with_codes : TSD :=
  (seqT (iffT (blT (DL.binT inD (DL.binT ixD (nameT 0) (cT (.int 0))) (tupT (consA (cT (.str "name")) (consA (cT (.str "given")) nilA))))) (retT (nameT 0)) nextT)
    (seqT (iffT (blT (DL.binT eqD (DL.binT ixD (nameT 0) (cT (.int 0))) (cT (.str "if")))) (retT (tupT (consA (cT (.str "if")) (starA (nameT 1) nilA)))) nextT)
    (retT (ifT (blT (DL.binT eqD (DL.binT ixD (nameT 0) (cT (.int 0))) (cT (.str "with")))) (tupT (consA (cT (.str "with")) (consA (DL.binT ixD (nameT 0) (cT (.int 1))) (starA (nameT 1) nilA)))) (tupT (consA (DL.binT ixD (nameT 0) (cT (.int 0))) (consA (DL.binT ixD (nameT 0) (cT (.int 1))) (consA (callT tupR (consA (nameT 1) nilA)) nilA))))))))
theorem fn_with_codes {n : Nat} {R : RD} {f : Addr} {fd : FuncData} (Fn : Fun K "with_codes" "with_codes" s_with_codes f fd) (z_tuple : mg "tuple" = none)
    (hl : ∀ ds k, R ds k → ds.length = 2) (hR : ∀ ds κ, R ds κ → t_with_codes (endD κ) (enterS 2 ds)) : FnG P w K mg base CX0 (n + 1) f fd ["code", "codes"] (spD K R) :=
  Fun.okD Fn sc_with_codes hl ⟨_, fun cdv A outer s H E G H' pn hr hg =>
      (s_cons (s_if (t_cmp (op_inA hr) ok_in (d_ix (d_name 0) d_int) (d_tup (a_cons d_str (a_cons d_str a_nil))) (by rfl)) (s_one (s_ret (d_name 0))) s_nil)
      (s_cons (s_if (t_cmp (op_eqA hr) ok_eq (d_ix (d_name 0) d_int) d_str (nomark _)) (s_one (s_ret (d_tup (a_cons d_str (a_star (d_name 1) a_nil))))) s_nil)
      (s_one (s_ret (d_if (t_cmp (op_eqA hr) ok_eq (d_ix (d_name 0) d_int) d_str (nomark _)) (d_tup (a_cons d_str (a_cons (d_ix (d_name 0) d_int) (a_star (d_name 1) a_nil)))) (d_tup (a_cons (d_ix (d_name 0) d_int) (a_cons (d_ix (d_name 0) d_int) (a_cons (d_totup rfl z_tuple (a_cons (d_name 1) a_nil)) a_nil))))))))), hR⟩
noncomputable abbrev s_addresses : Stmt := top 11
theorem sc_addresses : FnScope ["code", "found", "at", "one", "address"] ["code"] (defScope s_addresses) := ⟨rfl, rfl, rfl, by decide +kernel, rfl, by decide +kernel, by decide +kernel⟩
theorem bk_addresses_0 : BlkOk ["code", "found", "at", "one", "address"] (defScope s_addresses) { kind := .function, names := [(".0", .local), ("address", .local), ("at", .free)], isGenerator := false, isCoroutine := false, more := [] : Scope } [("address", 4)] := blkOk_by (by decide +kernel)
noncomputable def t_addresses (Rcodes_within : RD) (Raddresses : RTD) : TSD :=
  (seqT (newT 1 (lstF (consA (tupT nilA) nilA)))
    (seqT (forT (.tp [2, 3]) (enumI (consA (callT Rcodes_within (consA (nameT 0) nilA)) nilA)) (mT 1 extD (consA (ofF (lcF (.nm 4) (seqI (datO (callRT Raddresses (consA (nameT 3) nilA)))) yesT (tupT (consA (nameT 2) (starA (nameT 4) nilA))) [4])) nilA)))
    (retO 1)))
theorem fn_addresses {n : Nat} {R : RTD} {f : Addr} {fd : FuncData} {Rcodes_within : RD} {Raddresses : RTD} (Fn : Fun K "addresses" "addresses" s_addresses f fd) (z_enumerate : mg "enumerate" = none) (ccodes_within : CalP P w K mg base n "codes_within" Rcodes_within) (caddresses : CalT P w K mg base n "addresses" Raddresses)
    (hl : ∀ ds k, R ds k → ds.length = 1) (hR : ∀ ds κ, R ds κ → t_addresses Rcodes_within Raddresses (endT κ) (enterS 5 ds)) : FnG P w K mg base CX0 (n + 1) f fd ["code"] (spT K R) :=
  Fun.okT Fn sc_addresses hl ⟨_, fun cdv A outer s H E G H' pn hr hg =>
      (s_cons (s_new (i := 1) sc_addresses.nd rfl (Or.inl rfl) (f_lst (a_cons (d_tup a_nil) a_nil)))
      (s_cons (s_for (t := (.tp [2, 3])) PassesOwn.never rfl (i_enum rfl z_enumerate (a_cons (d_call ⟨ccodes_within.ex⟩ hr hg rfl (a_cons (d_name 0) a_nil)) a_nil)) (pg_tup rfl (pgs_cons (pg_name (i := 2) sc_addresses.nd rfl (Or.inr rfl)) (pgs_cons (pg_name (i := 3) sc_addresses.nd rfl (Or.inl rfl)) pgs_nil))) (fun _ => (s_one (s_ext 1 (a_cons (d_of (f_lc (.nm 4) rfl sc_addresses.nd (i_seq (d_ofR (r_callT ⟨caddresses.ex⟩ hr hg rfl (a_cons (d_name 3) a_nil)))) bk_addresses_0 (fun _ _ _ _ _ => (pg_name (i := 4) sc_addresses.nd rfl (Or.inl rfl))) (fun _ _ _ _ _ _ => ts_nil) (fun _ _ _ _ _ _ => (d_tup (a_cons (d_name 2) (a_star (d_name 4) a_nil)))))) a_nil) (pe_bm PySem.F.plainAttrs_list PySem.F.slot_list_extend PySem.F.type_list_extend mt_extend (pv 1) (a_cons (d_of (f_lc (.nm 4) rfl sc_addresses.nd (i_seq (d_ofR (r_callT ⟨caddresses.ex⟩ hr hg rfl (a_cons (d_name 3) a_nil)))) bk_addresses_0 (fun _ _ _ _ _ => (pg_name (i := 4) sc_addresses.nd rfl (Or.inl rfl))) (fun _ _ _ _ _ _ => ts_nil) (fun _ _ _ _ _ _ => (d_tup (a_cons (d_name 2) (a_star (d_name 4) a_nil)))))) a_nil))))))
      (s_one (s_retO 1)))), hR⟩
noncomputable abbrev s_need_part : Stmt := top 12
theorem sc_need_part : FnScope ["code", "address"] ["code", "address"] (defScope s_need_part) := ⟨rfl, rfl, rfl, by decide +kernel, rfl, by decide +kernel, by decide +kernel⟩
noncomputable def t_need_partV (Ris_address : RD) (Raddresses : RTD) (C_NoPart : Addr) (W : WXD) : TSD :=
  (iffT (orB (notB (truT (callT Ris_address (consA (nameT 1) nilA)))) (blT (DL.binT notInD (nameT 1) (datO (callRT Raddresses (consA (nameT 0) nilA)))))) (raiseT C_NoPart "address" (consA (nameT 1) nilA) W) nextT)
theorem fn_need_partV {n : Nat} {R : RXD} {f : Addr} {fd : FuncData} {Ris_address : RD} {Raddresses : RTD} {C_NoPart : Addr} (Fn : Fun K "need_part" "need_part" s_need_part f fd) (cis_address : CalP P w K mg base n "is_address" Ris_address) (caddresses : CalT P w K mg base n "addresses" Raddresses) (er_NoPart : ErrP P K mg "NoPart" "address" C_NoPart)
    (hl : ∀ ds k e, R ds k e → ds.length = 2) (hR : ∀ ds κ e, R ds κ e → t_need_partV Ris_address Raddresses C_NoPart (fun x _ => e x) (endD κ) (enterS 2 ds)) : FnG P w K mg base (L2.CX P w) (n + 1) f fd ["code", "address"] (spV K R) :=
  Fun.okV Fn sc_need_part hl ⟨_, fun cdv A outer s H E G H' pn W hr hg tk =>
      (s_one (s_if (PW.pt (w_or (t_not (t_tru (d_call ⟨cis_address.ex⟩ hr hg rfl (a_cons (d_name 1) a_nil)))) (w_or1 (t_cmp (op_notInA hr) ok_notIn (d_name 1) (d_ofR (r_callT ⟨caddresses.ex⟩ hr hg rfl (a_cons (d_name 0) a_nil))) (by rfl))))) (s_one (s_raise tk er_NoPart hr (a_cons (d_name 1) a_nil) rfl)) s_nil)), hR⟩
noncomputable abbrev s_part_at : Stmt := top 13
theorem sc_part_at : FnScope ["code", "address", "at"] ["code", "address"] (defScope s_part_at) := ⟨rfl, rfl, rfl, by decide +kernel, rfl, by decide +kernel, by decide +kernel⟩
noncomputable def t_part_atV (Rcodes_within : RD) (Vneed_part : RXD) (W : WXD) : TSD :=
  (seqT (dropT (callV Vneed_part W (consA (nameT 0) (consA (nameT 1) nilA))))
    (seqT (forT (.nm 2) (seqI (nameT 1)) (setT 0 (DL.binT ixD (callT Rcodes_within (consA (nameT 0) nilA)) (nameT 2))))
    (retT (nameT 0))))
theorem fn_part_atV {n : Nat} {R : RXD} {f : Addr} {fd : FuncData} {Rcodes_within : RD} {Vneed_part : RXD} (Fn : Fun K "part_at" "part_at" s_part_at f fd) (ccodes_within : CalP P w K mg base n "codes_within" Rcodes_within) (vneed_part : CalV P w K mg base n "need_part" Vneed_part)
    (hl : ∀ ds k e, R ds k e → ds.length = 2) (hR : ∀ ds κ e, R ds κ e → t_part_atV Rcodes_within Vneed_part (fun x _ => e x) (endD κ) (enterS 3 ds)) : FnG P w K mg base (L2.CX P w) (n + 1) f fd ["code", "address"] (spV K R) :=
  Fun.okV Fn sc_part_at hl ⟨_, fun cdv A outer s H E G H' pn W hr hg tk =>
      (s_cons (s_expr (d_callV ⟨vneed_part.ex⟩ tk hr hg rfl (a_cons (d_name 0) (a_cons (d_name 1) a_nil))))
      (s_cons (s_for (t := (.nm 2)) (passes_of rfl) rfl (i_seq (d_name 1)) (pg_name (i := 2) sc_part_at.nd rfl (Or.inl rfl)) (fun _ => (s_one (s_set (i := 0) sc_part_at.nd rfl (Or.inl rfl) (d_ix (d_call ⟨ccodes_within.ex⟩ hr hg rfl (a_cons (d_name 0) a_nil)) (d_name 2))))))
      (s_one (s_ret (d_name 0))))), hR⟩
noncomputable abbrev s_put_at : Stmt := top 14
theorem sc_put_at : FnScope ["code", "address", "part", "codes"] ["code", "address", "part"] (defScope s_put_at) := ⟨rfl, rfl, rfl, by decide +kernel, rfl, by decide +kernel, by decide +kernel⟩
noncomputable def t_put_atV (Rcodes_within : RD) (Rwith_codes : RD) (Vneed_part : RXD) (Vput_at : RXD) (W : WXD) : TSD :=
  (seqT (dropT (callV Vneed_part W (consA (nameT 0) (consA (nameT 1) nilA))))
    (seqT (iffT (blT (DL.binT e0D (nameT 1) (tupT nilA))) (retT (nameT 2)) nextT)
    (seqT (newT 3 (lstR (consA (callT Rcodes_within (consA (nameT 0) nilA)) nilA)))
    (seqT (putT 3 (DL.binT ixD (nameT 1) (cT (.int 0))) (callV Vput_at W (consA (ixO 3 (DL.binT ixD (nameT 1) (cT (.int 0)))) (consA (slT slD (nameT 1) (someO (cT (.int 1))) noneO) (consA (nameT 2) nilA)))))
    (frzT 3 (retT (callT Rwith_codes (consA (nameT 0) (consA (nameT 3) nilA)))))))))
theorem fn_put_atV {n : Nat} {R : RXD} {f : Addr} {fd : FuncData} {Rcodes_within : RD} {Rwith_codes : RD} {Vneed_part : RXD} {Vput_at : RXD} (Fn : Fun K "put_at" "put_at" s_put_at f fd) (z_list : mg "list" = none) (ccodes_within : CalP P w K mg base n "codes_within" Rcodes_within) (cwith_codes : CalP P w K mg base n "with_codes" Rwith_codes) (vneed_part : CalV P w K mg base n "need_part" Vneed_part) (vput_at : CalV P w K mg base n "put_at" Vput_at)
    (hl : ∀ ds k e, R ds k e → ds.length = 3) (hR : ∀ ds κ e, R ds κ e → t_put_atV Rcodes_within Rwith_codes Vneed_part Vput_at (fun x _ => e x) (endD κ) (enterS 4 ds)) : FnG P w K mg base (L2.CX P w) (n + 1) f fd ["code", "address", "part"] (spV K R) :=
  Fun.okV Fn sc_put_at hl ⟨_, fun cdv A outer s H E G H' pn W hr hg tk =>
      (s_cons (s_expr (d_callV ⟨vneed_part.ex⟩ tk hr hg rfl (a_cons (d_name 0) (a_cons (d_name 1) a_nil))))
      (s_cons (s_if (t_cmp (op_e0 hr) ok_e0 (d_name 1) (d_tup a_nil) (nomark _)) (s_one (s_ret (d_name 2))) s_nil)
      (s_cons (s_new (i := 3) sc_put_at.nd rfl (Or.inl rfl) (f_tolst rfl z_list (a_cons (d_call ⟨ccodes_within.ex⟩ hr hg rfl (a_cons (d_name 0) a_nil)) a_nil)))
      (s_cons (s_put 3 (d_callV ⟨vput_at.ex⟩ tk hr hg rfl (a_cons (d_ixO 3 (d_ix (d_name 1) d_int)) (a_cons (d_slice (d_name 1) (o_some d_int) o_none) (a_cons (d_name 2) a_nil)))) (d_ix (d_name 1) d_int))
      (ss_frz 3 (s_one (s_ret (d_call ⟨cwith_codes.ex⟩ hr hg rfl (a_cons (d_name 0) (a_cons (d_name 3) a_nil)))))))))), hR⟩
noncomputable abbrev s_bound_at : Stmt := top 15
theorem sc_bound_at : FnScope ["code", "address", "found", "at"] ["code", "address"] (defScope s_bound_at) := ⟨rfl, rfl, rfl, by decide +kernel, rfl, by decide +kernel, by decide +kernel⟩
noncomputable def t_bound_atV (Rcodes_within : RD) (Vneed_part : RXD) (W : WXD) : TSD :=
  (seqT (dropT (callV Vneed_part W (consA (nameT 0) (consA (nameT 1) nilA))))
    (seqT (newT 2 (lstF nilA))
    (seqT (forT (.nm 3) (seqI (nameT 1)) (seqT (iffT (andB (blT (DL.binT eqD (DL.binT ixD (nameT 0) (cT (.int 0))) (cT (.str "with")))) (blT (DL.binT eqD (nameT 3) (cT (.int 1))))) (mT 2 appD (consA (DL.binT ixD (nameT 0) (cT (.int 1))) nilA)) nextT)
    (setT 0 (DL.binT ixD (callT Rcodes_within (consA (nameT 0) nilA)) (nameT 3)))))
    (frzT 2 (retR (treeT (sortSetF (consA (nameT 2) nilA))))))))
theorem fn_bound_atV {n : Nat} {R : RXT} {f : Addr} {fd : FuncData} {Rcodes_within : RD} {Vneed_part : RXD} (Fn : Fun K "bound_at" "bound_at" s_bound_at f fd) (z_set : mg "set" = none) (z_sorted : mg "sorted" = none) (ccodes_within : CalP P w K mg base n "codes_within" Rcodes_within) (vneed_part : CalV P w K mg base n "need_part" Vneed_part)
    (hl : ∀ ds k e, R ds k e → ds.length = 2) (hR : ∀ ds κ e, R ds κ e → t_bound_atV Rcodes_within Vneed_part (fun x _ => e x) (endT κ) (enterS 4 ds)) : FnG P w K mg base (L2.CX P w) (n + 1) f fd ["code", "address"] (spVT K R) :=
  Fun.okVT Fn sc_bound_at hl ⟨_, fun cdv A outer s H E G H' pn W hr hg tk =>
      (s_cons (s_expr (d_callV ⟨vneed_part.ex⟩ tk hr hg rfl (a_cons (d_name 0) (a_cons (d_name 1) a_nil))))
      (s_cons (s_new (i := 2) sc_bound_at.nd rfl (Or.inl rfl) (f_lst a_nil))
      (s_cons (s_for (t := (.nm 3)) (passes_of rfl) rfl (i_seq (d_name 1)) (pg_name (i := 3) sc_bound_at.nd rfl (Or.inl rfl)) (fun _ => (s_cons (s_if (PW.pt (w_and (t_cmp (op_eqA hr) ok_eq (d_ix (d_name 0) d_int) d_str (nomark _)) (w_and1 (t_cmp (op_eqA hr) ok_eq (d_name 3) d_int (nomark _))))) (s_one (s_app 2 (a_cons (d_ix (d_name 0) d_int) a_nil) (pe_bm PySem.F.plainAttrs_list PySem.F.slot_list_append PySem.F.type_list_append mt_append (pv 2) (a_cons (d_ix (d_name 0) d_int) a_nil)))) s_nil)
      (s_one (s_set (i := 0) sc_bound_at.nd rfl (Or.inl rfl) (d_ix (d_call ⟨ccodes_within.ex⟩ hr hg rfl (a_cons (d_name 0) a_nil)) (d_name 3)))))))
      (ss_frz 2 (s_one (s_retR (r_tree (f_sortSet rfl rfl z_sorted rfl z_set (a_cons (d_name 2) a_nil))))))))), hR⟩
noncomputable abbrev s_L_bag : Stmt := top 17
theorem sc_L_bag : FnScope ["_law_script", "_law_cell"] ["_law_script"] (defScope s_L_bag) := ⟨rfl, rfl, rfl, by decide +kernel, rfl, by decide +kernel, by decide +kernel⟩
theorem bk_L_bag_0 : BlkOk ["_law_script", "_law_cell"] (defScope s_L_bag) { kind := .function, names := [(".0", .local), ("_law_cell", .local), ("abs", .globalImplicit)], isGenerator := false, isCoroutine := false, more := [] : Scope } [("_law_cell", 1)] := blkOk_by (by decide +kernel)
theorem fn_L_bag {n : Nat} {f : Addr} {fd : FuncData} (Fn : Fun K "_law_bag" "_law_bag" s_L_bag f fd) (z_abs : mg "abs" = none) : FnG P w K mg base CX0 (n + 1) f fd ["_law_script"] (spBag K 1234567891) :=
  Fun.okBag Fn sc_L_bag ⟨_, fun cdv A outer s H E =>
    (pss_one (ps_ret (pe_lst (pa_cons pe_int (pa_cons pe_int (pa_cons pe_int (pa_cons (pe_lc rfl sc_L_bag.nd (pi_list (pe_slice sl_list (pv 0) po_none (po_some pe_int))) bk_L_bag_0 (fun _ _ _ _ _ => (pg_name (i := 1) sc_L_bag.nd rfl (Or.inl rfl))) (fun _ _ _ _ _ => pts_nil) (fun _ _ _ _ _ => (pe_callB call_abs rfl z_abs (by decide +kernel) (pa_cons (pv 1) pa_nil)))) pa_nil))))))), fun _ _ _ h => h⟩
noncomputable abbrev s_L_take : Stmt := top 18
theorem sc_L_take : FnScope ["_law_bag_here", "_law_many", "_law_cell", "_law_stirred", "_law_value", "_law_begin", "_law_second"] ["_law_bag_here", "_law_many"] (defScope s_L_take) := ⟨rfl, rfl, rfl, by decide +kernel, rfl, by decide +kernel, by decide +kernel⟩
noncomputable def t_L_take : TSD :=
  (seqT (iffT (blT (DL.binT eqD (bagT 0 (nameT 0)) (cT (.int 0)))) (seqT (setT 2 (DL.binT ixD (DL.binT addD (cutBT (nameT 0) (someO (bagT 2 (nameT 0)))) (ofF (lstF (consA (cT (.int 0)) nilA)))) (cT (.int 0))))
    (seqT (augBT 2 (nameT 0) (cT (.int 1)))
    (seqT (iffT (blT (DL.binT (cmpI fun i j => decide (i ≥ j)) (nameT 2) (cT (.int 1000000000000000000)))) (putBT 0 (nameT 0) (nameT 2)) nextT)
    (seqT (setT 3 (DL.binT addD (DL.binT addD (DL.binT mulD (bagT 1 (nameT 0)) (cT (.int 48271))) (DL.binT modD (callT intR (consA (nameT 2) nilA)) (cT (.int 2147483647)))) (DL.binT mulD (cT (.int 7919)) (bagT 2 (nameT 0)))))
    (putBT 1 (nameT 0) (DL.binT modD (callT intR (consA (nameT 3) nilA)) (cT (.int 2147483647)))))))) nextT)
    (seqT (iffT (blT (DL.binT (cmpI fun i j => decide (i > j)) (bagT 0 (nameT 0)) (cT (.int 0)))) (seqT (setT 4 (DL.binT modD (callT intR (consA (bagT 0 (nameT 0)) nilA)) (nameT 1)))
    (seqT (putBT 0 (nameT 0) (DL.binT fdivD (bagT 0 (nameT 0)) (nameT 1)))
    (retT (nameT 4)))) nextT)
    (seqT (setT 5 (DL.binT modD (callT intR (consA (DL.binT mulD (DL.binT addD (bagT 1 (nameT 0)) (cT (.int 1))) (cT (.int 39373))) nilA)) (cT (.int 1000000007))))
    (seqT (setT 6 (DL.binT modD (callT intR (consA (DL.binT mulD (DL.binT modD (callT intR (consA (DL.binT mulD (nameT 5) (nameT 5)) nilA)) (cT (.int 998244353))) (cT (.int 30011))) nilA)) (cT (.int 998244353))))
    (retT (DL.binT modD (callT intR (consA (DL.binT fdivD (nameT 6) (cT (.int 7))) nilA)) (nameT 1)))))))
theorem fn_L_take {n : Nat} {R : RD} {f : Addr} {fd : FuncData} (Fn : Fun K "_law_take" "_law_take" s_L_take f fd) (z_int : mg "int" = none)
    (hl : ∀ ds k, R ds k → ds.length = 2) (hR : ∀ ds κ, R ds κ → t_L_take (endD κ) (enterS 7 ds)) : FnG P w K mg base CX0 (n + 1) f fd ["_law_bag_here", "_law_many"] (spD K R) :=
  Fun.okD Fn sc_L_take hl ⟨_, fun cdv A outer s H E G H' pn hr hg =>
      (s_cons (s_if (t_cmp (op_eqA hr) ok_eq (d_bag (d_name 0)) d_int (nomark _)) (s_cons (s_set (i := 2) sc_L_take.nd rfl (Or.inl rfl) (d_ix (d_add (d_bagcut (d_name 0) (o_some (d_bag (d_name 0)))) (d_of (f_lst (a_cons d_int a_nil)))) d_int))
      (s_cons (s_bagaug (i := 0) d_int)
      (s_cons (s_if (t_cmp op_ge ok_cmpI (d_name 2) d_int (nomark _)) (s_one (s_bagput (i := 0) (d_name 2))) s_nil)
      (s_cons (s_set (i := 3) sc_L_take.nd rfl (Or.inl rfl) (d_add (d_add (d_mul (d_bag (d_name 0)) d_int) (d_mod (d_toint rfl z_int (a_cons (d_name 2) a_nil)) d_int)) (d_mul d_int (d_bag (d_name 0)))))
      (s_one (s_bagput (i := 0) (d_mod (d_toint rfl z_int (a_cons (d_name 3) a_nil)) d_int))))))) s_nil)
      (s_cons (s_if (t_cmp op_gt ok_cmpI (d_bag (d_name 0)) d_int (nomark _)) (s_cons (s_set (i := 4) sc_L_take.nd rfl (Or.inl rfl) (d_mod (d_toint rfl z_int (a_cons (d_bag (d_name 0)) a_nil)) (d_name 1)))
      (s_cons (s_bagput (i := 0) (d_fdiv (d_bag (d_name 0)) (d_name 1)))
      (s_one (s_ret (d_name 4))))) s_nil)
      (s_cons (s_set (i := 5) sc_L_take.nd rfl (Or.inl rfl) (d_mod (d_toint rfl z_int (a_cons (d_mul (d_add (d_bag (d_name 0)) d_int) d_int) a_nil)) d_int))
      (s_cons (s_set (i := 6) sc_L_take.nd rfl (Or.inl rfl) (d_mod (d_toint rfl z_int (a_cons (d_mul (d_mod (d_toint rfl z_int (a_cons (d_mul (d_name 5) (d_name 5)) a_nil)) d_int) d_int) a_nil)) d_int))
      (s_one (s_ret (d_mod (d_toint rfl z_int (a_cons (d_fdiv (d_name 6) d_int) a_nil)) (d_name 1)))))))), hR⟩
noncomputable abbrev s_L_alike : Stmt := top 19
theorem sc_L_alike : FnScope ["_law_found", "_law_due"] ["_law_found", "_law_due"] (defScope s_L_alike) := ⟨rfl, rfl, rfl, by decide +kernel, rfl, by decide +kernel, by decide +kernel⟩
noncomputable def t_L_alike : TSD :=
  (retT (andT (DL.binT eqSD (nameT 0) (nameT 1)) (DL.binT eqD (callT reprX (consA (nameT 0) nilA)) (callT reprX (consA (nameT 1) nilA)))))
theorem fn_L_alike {n : Nat} {R : RD} {f : Addr} {fd : FuncData} (Fn : Fun K "_law_alike" "_law_alike" s_L_alike f fd) (z_repr : mg "repr" = none) (hS : ∃ m, base.Ns sysModules m)
    (hl : ∀ ds k, R ds k → ds.length = 2) (hR : ∀ ds κ, R ds κ → t_L_alike (endD κ) (enterS 2 ds)) : FnG P w K mg base CX0 (n + 1) f fd ["_law_found", "_law_due"] (spD K R) :=
  Fun.okD Fn sc_L_alike hl ⟨_, fun cdv A outer s H E G H' pn hr hg =>
      (s_one (s_ret (d_and (d_cmp (op_eqS hr) ok_eqS (d_name 0) (d_name 1) (nomark _)) (d_one (d_cmp (op_eqA hr) ok_eq (d_reprX hr hg hS rfl z_repr (a_cons (d_name 0) a_nil)) (d_reprX hr hg hS rfl z_repr (a_cons (d_name 1) a_nil)) (nomark _)))))), hR⟩
noncomputable abbrev s_L_some : Stmt := top 20
theorem sc_L_some : FnScope ["_law_bag_here", "_law_things"] ["_law_bag_here", "_law_things"] (defScope s_L_some) := ⟨rfl, rfl, rfl, by decide +kernel, rfl, by decide +kernel, by decide +kernel⟩
noncomputable def t_L_some (R_law_take : RD) : TSD :=
  (retT (DL.binT ixD (nameT 1) (callT R_law_take (consA (nameT 0) (consA (callT lenR (consA (nameT 1) nilA)) nilA)))))
theorem fn_L_some {n : Nat} {R : RD} {f : Addr} {fd : FuncData} {R_law_take : RD} (Fn : Fun K "_law_some" "_law_some" s_L_some f fd) (z_len : mg "len" = none) (c_law_take : CalP P w K mg base n "_law_take" R_law_take)
    (hl : ∀ ds k, R ds k → ds.length = 2) (hR : ∀ ds κ, R ds κ → t_L_some R_law_take (endD κ) (enterS 2 ds)) : FnG P w K mg base CX0 (n + 1) f fd ["_law_bag_here", "_law_things"] (spD K R) :=
  Fun.okD Fn sc_L_some hl ⟨_, fun cdv A outer s H E G H' pn hr hg =>
      (s_one (s_ret (d_ix (d_name 1) (d_call ⟨c_law_take.ex⟩ hr hg rfl (a_cons (d_name 0) (a_cons (d_len rfl z_len (a_cons (d_name 1) a_nil)) a_nil)))))), hR⟩
noncomputable abbrev s_L_mixed : Stmt := top 21
theorem sc_L_mixed : FnScope ["_law_bag_here", "_law_things", "_law_found", "_law_thing"] ["_law_bag_here", "_law_things"] (defScope s_L_mixed) := ⟨rfl, rfl, rfl, by decide +kernel, rfl, by decide +kernel, by decide +kernel⟩
noncomputable def t_L_mixed (R_law_take : RD) : TSD :=
  (seqT (newT 2 (lstF nilA))
    (seqT (forT (.nm 3) (seqI (nameT 1)) (mT 2 insD (consA (thruT 2 (callT R_law_take (consA (nameT 0) (consA (DL.binT addD (callT lenR (consA (nameT 2) nilA)) (cT (.int 1))) nilA)))) (consA (nameT 3) nilA))))
    (frzT 2 (retT (nameT 2)))))
theorem fn_L_mixed {n : Nat} {R : RD} {f : Addr} {fd : FuncData} {R_law_take : RD} (Fn : Fun K "_law_mixed" "_law_mixed" s_L_mixed f fd) (z_len : mg "len" = none) (c_law_take : CalP P w K mg base n "_law_take" R_law_take)
    (hl : ∀ ds k, R ds k → ds.length = 2) (hR : ∀ ds κ, R ds κ → t_L_mixed R_law_take (endD κ) (enterS 4 ds)) : FnG P w K mg base CX0 (n + 1) f fd ["_law_bag_here", "_law_things"] (spD K R) :=
  Fun.okD Fn sc_L_mixed hl ⟨_, fun cdv A outer s H E G H' pn hr hg =>
      (s_cons (s_new (i := 2) sc_L_mixed.nd rfl (Or.inl rfl) (f_lst a_nil))
      (s_cons (s_for (t := (.nm 3)) PassesOwn.never rfl (i_seq (d_name 1)) (pg_name (i := 3) sc_L_mixed.nd rfl (Or.inl rfl)) (fun _ => (s_one (s_ins 2 (a_cons (d_thru 2 (d_call ⟨c_law_take.ex⟩ hr hg rfl (a_cons (d_name 0) (a_cons (d_add (d_len rfl z_len (a_cons (d_name 2) a_nil)) d_int) a_nil)))) (a_cons (d_name 3) a_nil)) (pe_bm PySem.F.plainAttrs_list PySem.F.slot_list_insert PySem.F.type_list_insert mt_insert (pv 2) (a_cons (d_thru 2 (d_call ⟨c_law_take.ex⟩ hr hg rfl (a_cons (d_name 0) (a_cons (d_add (d_len rfl z_len (a_cons (d_name 2) a_nil)) d_int) a_nil)))) (a_cons (d_name 3) a_nil)))))))
      (ss_frz 2 (s_one (s_ret (d_name 2)))))), hR⟩
noncomputable abbrev s_L_words : Stmt := top 22
theorem sc_L_words : FnScope ["_law_bag_here", "_law_many", "_law_menu", "_law_at_here", "_law_found", "_law_word"] ["_law_bag_here", "_law_many"] (defScope s_L_words) := ⟨rfl, rfl, rfl, by decide +kernel, rfl, by decide +kernel, by decide +kernel⟩
noncomputable def t_L_words (R_law_take : RD) (R_law_mixed : RD) : TSD :=
  (seqT (setT 2 (methT splitM (onT isStr (cT (.str "name given work if with call leaf test worth place there code up of one a aa b zzzzzzzz"))) (consA (cT (.str " ")) nilA)))
    (seqT (parT 3 4 (consA (callT R_law_take (consA (nameT 0) (consA (cT (.int 19)) nilA))) (consA (ofF (lstF nilA)) nilA)))
    (seqT (forT (.nm 5) (seqI (callT R_law_mixed (consA (nameT 0) (consA (slT slD (DL.binT addD (nameT 2) (nameT 2)) (someO (nameT 3)) (someO (DL.binT addD (DL.binT addD (nameT 3) (nameT 1)) (cT (.int 2))))) nilA)))) (setT 4 (DL.binT addD (nameT 4) (DL.binT mulD (ofF (lstF (consA (nameT 5) nilA))) (callT intR (consA (DL.binT notInD (nameT 5) (nameT 4)) nilA))))))
    (retT (slT slD (nameT 4) noneO (someO (nameT 1)))))))
theorem fn_L_words {n : Nat} {R : RD} {f : Addr} {fd : FuncData} {R_law_take : RD} {R_law_mixed : RD} (Fn : Fun K "_law_words" "_law_words" s_L_words f fd) (z_int : mg "int" = none) (c_law_take : CalP P w K mg base n "_law_take" R_law_take) (c_law_mixed : CalP P w K mg base n "_law_mixed" R_law_mixed)
    (hl : ∀ ds k, R ds k → ds.length = 2) (hR : ∀ ds κ, R ds κ → t_L_words R_law_take R_law_mixed (endD κ) (enterS 6 ds)) : FnG P w K mg base CX0 (n + 1) f fd ["_law_bag_here", "_law_many"] (spD K R) :=
  Fun.okD Fn sc_L_words hl ⟨_, fun cdv A outer s H E G H' pn hr hg =>
      (s_cons (s_set (i := 2) sc_L_words.nd rfl (Or.inl rfl) (d_split d_str d_str))
      (s_cons (s_par (i := 3) (j := 4) rfl (by rfl) sc_L_words.nd rfl rfl (by decide) rfl rfl (a_cons (d_call ⟨c_law_take.ex⟩ hr hg rfl (a_cons (d_name 0) (a_cons d_int a_nil))) (a_cons (d_of (f_lst a_nil)) a_nil)))
      (s_cons (s_for (t := (.nm 5)) PassesOwn.never rfl (i_seq (d_call ⟨c_law_mixed.ex⟩ hr hg rfl (a_cons (d_name 0) (a_cons (d_slice (d_add (d_name 2) (d_name 2)) (o_some (d_name 3)) (o_some (d_add (d_add (d_name 3) (d_name 1)) d_int))) a_nil)))) (pg_name (i := 5) sc_L_words.nd rfl (Or.inl rfl)) (fun _ => (s_one (s_set (i := 4) sc_L_words.nd rfl (Or.inl rfl) (d_add (d_name 4) (d_mul (d_of (f_lst (a_cons (d_name 5) a_nil))) (d_toint rfl z_int (a_cons (d_cmp (op_notInA hr) ok_notIn (d_name 5) (d_name 4) (by rfl)) a_nil))))))))
      (s_one (s_ret (d_slice (d_name 4) o_none (o_some (d_name 1)))))))), hR⟩
noncomputable abbrev s_L_inner : Stmt := top 23
theorem sc_L_inner : FnScope ["_law_code"] ["_law_code"] (defScope s_L_inner) := ⟨rfl, rfl, rfl, by decide +kernel, rfl, by decide +kernel, by decide +kernel⟩
noncomputable def t_L_inner : TSD :=
  (seqT (iffT (blT (DL.binT inD (DL.binT ixD (nameT 0) (cT (.int 0))) (tupT (consA (cT (.str "name")) (consA (cT (.str "given")) nilA))))) (retT (tupT nilA)) nextT)
    (seqT (iffT (blT (DL.binT eqD (DL.binT ixD (nameT 0) (cT (.int 0))) (cT (.str "if")))) (retT (slT slD (nameT 0) (someO (cT (.int 1))) noneO)) nextT)
    (retT (ifT (blT (DL.binT eqD (DL.binT ixD (nameT 0) (cT (.int 0))) (cT (.str "with")))) (slT slD (nameT 0) (someO (cT (.int 2))) noneO) (DL.binT ixD (nameT 0) (cT (.int 2)))))))
theorem fn_L_inner {n : Nat} {R : RD} {f : Addr} {fd : FuncData} (Fn : Fun K "_law_inner" "_law_inner" s_L_inner f fd)
    (hl : ∀ ds k, R ds k → ds.length = 1) (hR : ∀ ds κ, R ds κ → t_L_inner (endD κ) (enterS 1 ds)) : FnG P w K mg base CX0 (n + 1) f fd ["_law_code"] (spD K R) :=
  Fun.okD Fn sc_L_inner hl ⟨_, fun cdv A outer s H E G H' pn hr hg =>
      (s_cons (s_if (t_cmp (op_inA hr) ok_in (d_ix (d_name 0) d_int) (d_tup (a_cons d_str (a_cons d_str a_nil))) (by rfl)) (s_one (s_ret (d_tup a_nil))) s_nil)
      (s_cons (s_if (t_cmp (op_eqA hr) ok_eq (d_ix (d_name 0) d_int) d_str (nomark _)) (s_one (s_ret (d_slice (d_name 0) (o_some d_int) o_none))) s_nil)
      (s_one (s_ret (d_if (t_cmp (op_eqA hr) ok_eq (d_ix (d_name 0) d_int) d_str (nomark _)) (d_slice (d_name 0) (o_some d_int) o_none) (d_ix (d_name 0) d_int)))))), hR⟩
noncomputable abbrev s_L_odd : Stmt := top 24
theorem sc_L_odd : FnScope ["_law_bag_here", "_law_deep", "_law_k", "_law_some_here"] ["_law_bag_here"] (defScope s_L_odd) := ⟨rfl, rfl, rfl, by decide +kernel, rfl, by decide +kernel, by decide +kernel⟩
noncomputable def t_L_odd (R_law_some : RD) : TSD :=
  (seqT (setT 1 (ofF (lstF nilA)))
    (seqT (forT (.nm 2) (rng1I (consA (cT (.int 12)) nilA)) (setT 1 (ofF (lstF (consA (nameT 1) nilA)))))
    (seqT (setT 3 (ofF (lstF (consA (cT .non) (consA (cT (.bl true)) (consA (cT (.bl false)) (consA (cT (.int 0)) (consA (cT (.int 1)) (consA (negT (cT (.int 1))) (consA (DL.binT powD (cT (.int 10)) (cT (.int 30))) (consA (cT (.str "")) (consA (cT (.str "a")) (consA (cT (.str "A")) (consA (cT (.str "ninesigns")) (consA (cT (.str "a b")) (consA (ofF (lstF nilA)) (consA emptyT (consA (tupT nilA) (consA (ofF (lstF (consA (cT (.str "a")) nilA))) (consA (dispT ["a"] (consA (cT (.int 0)) nilA)) (consA (nameT 1) nilA)))))))))))))))))))))
    (seqT (setT 3 (DL.binT addD (nameT 3) (ofF (lstF (consA (tupT (consA (cT (.str "name")) nilA)) (consA (tupT (consA (cT (.str "name")) (consA (cT (.str "A")) nilA))) (consA (tupT (consA (cT (.str "name")) (consA (cT (.int 1)) nilA))) (consA (ofF (lstF (consA (cT (.str "name")) (consA (cT (.str "a")) nilA)))) (consA (tupT (consA (cT (.str "given")) (consA (negT (cT (.int 1))) nilA))) (consA (tupT (consA (cT (.str "given")) (consA (cT (.bl true)) nilA))) (consA (tupT (consA (cT (.str "given")) (consA (cT (.str "a")) nilA))) nilA)))))))))))
    (seqT (setT 3 (DL.binT addD (nameT 3) (ofF (lstF (consA (tupT (consA (cT (.str "work")) (consA (cT (.str "a")) (consA (ofF (lstF nilA)) nilA)))) (consA (tupT (consA (cT (.str "work")) (consA (cT (.str "a")) (consA (tupT (consA (cT (.str "a")) nilA)) nilA)))) (consA (tupT (consA (cT (.str "call")) (consA (cT (.str "")) (consA (tupT nilA) nilA)))) (consA (tupT (consA (cT (.str "if")) (consA (cT (.int 1)) (consA (cT (.int 2)) (consA (cT (.int 3)) (consA (cT (.int 4)) nilA)))))) (consA (tupT (consA (cT (.str "leaf")) nilA)) (consA (tupT (consA (cT (.int 0)) nilA)) nilA))))))))))
    (retT (callT R_law_some (consA (nameT 0) (consA (DL.binT addD (nameT 3) (ofF (lstF (consA (tupT (consA (cT (.str "with")) (consA (cT (.str "a")) (consA (tupT (consA (cT (.str "name")) (consA (cT (.str "a")) nilA))) nilA)))) (consA (tupT (consA (cT (.str "test")) (consA (cT (.int 0)) nilA))) (consA (DL.binT mulD (ofF (lstF (consA (cT (.int 0)) nilA))) (cT (.int 300))) (consA (tupT (consA (cT (.str "name")) (consA (cT (.str "a")) nilA))) (consA (tupT (consA (cT (.int 0)) (consA (cT (.int 1)) nilA))) nilA)))))))) nilA)))))))))
theorem fn_L_odd {n : Nat} {R : RD} {f : Addr} {fd : FuncData} {R_law_some : RD} (Fn : Fun K "_law_odd" "_law_odd" s_L_odd f fd) (z_range : mg "range" = none) (c_law_some : CalP P w K mg base n "_law_some" R_law_some)
    (hl : ∀ ds k, R ds k → ds.length = 1) (hR : ∀ ds κ, R ds κ → t_L_odd R_law_some (endD κ) (enterS 4 ds)) : FnG P w K mg base CX0 (n + 1) f fd ["_law_bag_here"] (spD K R) :=
  Fun.okD Fn sc_L_odd hl ⟨_, fun cdv A outer s H E G H' pn hr hg =>
      (s_cons (s_set (i := 1) sc_L_odd.nd rfl (Or.inl rfl) (d_of (f_lst a_nil)))
      (s_cons (s_for (t := (.nm 2)) PassesOwn.never rfl (i_rng1 rfl z_range (a_cons d_int a_nil)) (pg_name (i := 2) sc_L_odd.nd rfl (Or.inl rfl)) (fun _ => (s_one (s_set (i := 1) sc_L_odd.nd rfl (Or.inl rfl) (d_of (f_lst (a_cons (d_name 1) a_nil)))))))
      (s_cons (s_set (i := 3) sc_L_odd.nd rfl (Or.inl rfl) (d_of (f_lst (a_cons d_non (a_cons d_bl (a_cons d_bl (a_cons d_int (a_cons d_int (a_cons (d_neg d_int) (a_cons (d_pow d_int d_int) (a_cons d_str (a_cons d_str (a_cons d_str (a_cons d_str (a_cons d_str (a_cons (d_of (f_lst a_nil)) (a_cons d_dictE (a_cons (d_tup a_nil) (a_cons (d_of (f_lst (a_cons d_str a_nil))) (a_cons (d_disp (ks := ["a"]) (pk_cons d_int pk_nil) (by decide +kernel) (by decide) (by decide)) (a_cons (d_name 1) a_nil)))))))))))))))))))))
      (s_cons (s_set (i := 3) sc_L_odd.nd rfl (Or.inl rfl) (d_add (d_name 3) (d_of (f_lst (a_cons (d_tup (a_cons d_str a_nil)) (a_cons (d_tup (a_cons d_str (a_cons d_str a_nil))) (a_cons (d_tup (a_cons d_str (a_cons d_int a_nil))) (a_cons (d_of (f_lst (a_cons d_str (a_cons d_str a_nil)))) (a_cons (d_tup (a_cons d_str (a_cons (d_neg d_int) a_nil))) (a_cons (d_tup (a_cons d_str (a_cons d_bl a_nil))) (a_cons (d_tup (a_cons d_str (a_cons d_str a_nil))) a_nil)))))))))))
      (s_cons (s_set (i := 3) sc_L_odd.nd rfl (Or.inl rfl) (d_add (d_name 3) (d_of (f_lst (a_cons (d_tup (a_cons d_str (a_cons d_str (a_cons (d_of (f_lst a_nil)) a_nil)))) (a_cons (d_tup (a_cons d_str (a_cons d_str (a_cons (d_tup (a_cons d_str a_nil)) a_nil)))) (a_cons (d_tup (a_cons d_str (a_cons d_str (a_cons (d_tup a_nil) a_nil)))) (a_cons (d_tup (a_cons d_str (a_cons d_int (a_cons d_int (a_cons d_int (a_cons d_int a_nil)))))) (a_cons (d_tup (a_cons d_str a_nil)) (a_cons (d_tup (a_cons d_int a_nil)) a_nil))))))))))
      (s_one (s_ret (d_call ⟨c_law_some.ex⟩ hr hg rfl (a_cons (d_name 0) (a_cons (d_add (d_name 3) (d_of (f_lst (a_cons (d_tup (a_cons d_str (a_cons d_str (a_cons (d_tup (a_cons d_str (a_cons d_str a_nil))) a_nil)))) (a_cons (d_tup (a_cons d_str (a_cons d_int a_nil))) (a_cons (d_mul (d_of (f_lst (a_cons d_int a_nil))) d_int) (a_cons (d_tup (a_cons d_str (a_cons d_str a_nil))) (a_cons (d_tup (a_cons d_int (a_cons d_int a_nil))) a_nil)))))))) a_nil)))))))))), hR⟩
noncomputable abbrev s_L_any : Stmt := top 25
theorem sc_L_any : FnScope ["_law_bag_here", "_law_names", "_law_room", "_law_way", "_law_name", "_law_many", "_law_some_here", "_law_k"] ["_law_bag_here", "_law_names", "_law_room"] (defScope s_L_any) := ⟨rfl, rfl, rfl, by decide +kernel, rfl, by decide +kernel, by decide +kernel⟩
theorem bk_L_any_0 : BlkOk ["_law_bag_here", "_law_names", "_law_room", "_law_way", "_law_name", "_law_many", "_law_some_here", "_law_k"] (defScope s_L_any) { kind := .function, names := [(".0", .local), ("_law_k", .local), ("_law_any", .globalImplicit), ("_law_bag_here", .free), ("_law_names", .free), ("_law_room", .free)], isGenerator := false, isCoroutine := false, more := [] : Scope } [("_law_k", 7)] := blkOk_by (by decide +kernel)
theorem bk_L_any_1 : BlkOk ["_law_bag_here", "_law_names", "_law_room", "_law_way", "_law_name", "_law_many", "_law_some_here", "_law_k"] (defScope s_L_any) { kind := .function, names := [(".0", .local), ("_law_k", .local), ("_law_any", .globalImplicit), ("int", .globalImplicit), ("_law_bag_here", .free), ("_law_many", .free), ("_law_names", .free), ("_law_room", .free)], isGenerator := false, isCoroutine := false, more := [] : Scope } [("_law_k", 7)] := blkOk_by (by decide +kernel)
noncomputable def t_L_any (R_law_take : RD) (R_law_some : RD) (R_law_any : RD) : TSD :=
  (seqT (setT 3 (callT R_law_take (consA (nameT 0) (consA (cT (.int 12)) nilA))))
    (seqT (iffT (orB (blT (DL.binT (cmpI fun i j => decide (i < j)) (nameT 2) (cT (.int 2)))) (blT (DL.binT (cmpI fun i j => decide (i < j)) (nameT 3) (cT (.int 2))))) (retT (ifT (blT (DL.binT eqD (nameT 3) (cT (.int 1)))) (tupT (consA (cT (.str "given")) (consA (callT R_law_some (consA (nameT 0) (consA (ofF (lstF (consA (cT (.int 0)) (consA (cT (.int 1)) (consA (cT (.int 2)) (consA (cT (.int 2)) (consA (cT (.int 10)) (consA (cT (.int 11)) nilA)))))))) nilA))) nilA))) (tupT (consA (cT (.str "name")) (consA (callT R_law_some (consA (nameT 0) (consA (nameT 1) nilA))) nilA))))) nextT)
    (seqT (iffT (andB (blT (DL.binT (cmpI fun i j => decide (i < j)) (nameT 3) (cT (.int 5)))) (blT (DL.binT (cmpI fun i j => decide (i > j)) (nameT 2) (cT (.int 4))))) (retT (DL.binT addD (tupT (consA (cT (.str "if")) nilA)) (callT tupR (consA (ofF (lcF (.nm 7) (rng1I (consA (cT (.int 4)) nilA)) yesT (callT R_law_any (consA (nameT 0) (consA (nameT 1) (consA (DL.binT fdivD (DL.binT subD (nameT 2) (cT (.int 1))) (cT (.int 4))) nilA)))) [7])) nilA)))) nextT)
    (seqT (iffT (andB (blT (DL.binT (cmpI fun i j => decide (i < j)) (nameT 3) (cT (.int 8)))) (blT (DL.binT (cmpI fun i j => decide (i > j)) (nameT 2) (cT (.int 2))))) (seqT (setT 4 (callT R_law_some (consA (nameT 0) (consA (nameT 1) nilA))))
    (retT (tupT (consA (cT (.str "with")) (consA (nameT 4) (consA (callT R_law_any (consA (nameT 0) (consA (nameT 1) (consA (DL.binT fdivD (DL.binT subD (nameT 2) (cT (.int 1))) (cT (.int 3))) nilA)))) (consA (callT R_law_any (consA (nameT 0) (consA (nameT 1) (consA (DL.binT fdivD (DL.binT mulD (DL.binT subD (nameT 2) (cT (.int 1))) (cT (.int 2))) (cT (.int 3))) nilA)))) nilA))))))) nextT)
    (seqT (setT 5 (callT minR (consA (callT R_law_take (consA (nameT 0) (consA (ifT (blT (DL.binT eqD (callT R_law_take (consA (nameT 0) (consA (cT (.int 8)) nilA))) (cT (.int 0)))) (cT (.int 13)) (cT (.int 4))) nilA))) (consA (DL.binT subD (nameT 2) (cT (.int 1))) nilA))))
    (seqT (setT 6 (callT tupR (consA (ofF (lcF (.nm 7) (rng1I (consA (nameT 5) nilA)) yesT (callT R_law_any (consA (nameT 0) (consA (nameT 1) (consA (DL.binT fdivD (DL.binT mulD (DL.binT subD (nameT 2) (cT (.int 1))) (cT (.int 3))) (DL.binT addD (DL.binT mulD (cT (.int 3)) (nameT 5)) (callT intR (consA (DL.binT eqD (nameT 5) (cT (.int 1))) nilA)))) nilA)))) [7])) nilA)))
    (retT (tupT (consA (ifT (blT (DL.binT (cmpI fun i j => decide (i < j)) (nameT 3) (cT (.int 10)))) (cT (.str "work")) (cT (.str "call"))) (consA (callT R_law_some (consA (nameT 0) (consA (ofF (lstF (consA (cT (.str "up")) (consA (cT (.str "of")) (consA (cT (.str "one")) nilA))))) nilA))) (consA (nameT 6) nilA)))))))))))
theorem fn_L_any {n : Nat} {R : RD} {f : Addr} {fd : FuncData} {R_law_take : RD} {R_law_some : RD} {R_law_any : RD} (Fn : Fun K "_law_any" "_law_any" s_L_any f fd) (z_int : mg "int" = none) (z_min : mg "min" = none) (z_range : mg "range" = none) (z_tuple : mg "tuple" = none) (c_law_take : CalP P w K mg base n "_law_take" R_law_take) (c_law_some : CalP P w K mg base n "_law_some" R_law_some) (c_law_any : CalP P w K mg base n "_law_any" R_law_any)
    (hl : ∀ ds k, R ds k → ds.length = 3) (hR : ∀ ds κ, R ds κ → t_L_any R_law_take R_law_some R_law_any (endD κ) (enterS 8 ds)) : FnG P w K mg base CX0 (n + 1) f fd ["_law_bag_here", "_law_names", "_law_room"] (spD K R) :=
  Fun.okD Fn sc_L_any hl ⟨_, fun cdv A outer s H E G H' pn hr hg =>
      (s_cons (s_set (i := 3) sc_L_any.nd rfl (Or.inl rfl) (d_call ⟨c_law_take.ex⟩ hr hg rfl (a_cons (d_name 0) (a_cons d_int a_nil))))
      (s_cons (s_if (PW.pt (w_or (t_cmp op_lt ok_cmpI (d_name 2) d_int (nomark _)) (w_or1 (t_cmp op_lt ok_cmpI (d_name 3) d_int (nomark _))))) (s_one (s_ret (d_if (t_cmp (op_eqA hr) ok_eq (d_name 3) d_int (nomark _)) (d_tup (a_cons d_str (a_cons (d_call ⟨c_law_some.ex⟩ hr hg rfl (a_cons (d_name 0) (a_cons (d_of (f_lst (a_cons d_int (a_cons d_int (a_cons d_int (a_cons d_int (a_cons d_int (a_cons d_int a_nil)))))))) a_nil))) a_nil))) (d_tup (a_cons d_str (a_cons (d_call ⟨c_law_some.ex⟩ hr hg rfl (a_cons (d_name 0) (a_cons (d_name 1) a_nil))) a_nil)))))) s_nil)
      (s_cons (s_if (PW.pt (w_and (t_cmp op_lt ok_cmpI (d_name 3) d_int (nomark _)) (w_and1 (t_cmp op_gt ok_cmpI (d_name 2) d_int (nomark _))))) (s_one (s_ret (d_add (d_tup (a_cons d_str a_nil)) (d_totup rfl z_tuple (a_cons (d_of (f_lc (.nm 7) rfl sc_L_any.nd (i_rng1 rfl z_range (a_cons d_int a_nil)) bk_L_any_0 (fun _ _ _ _ _ => (pg_name (i := 7) sc_L_any.nd rfl (Or.inl rfl))) (fun _ _ _ _ _ _ => ts_nil) (fun _ _ _ _ _ _ => (d_call ⟨c_law_any.ex⟩ hr hg rfl (a_cons (d_name 0) (a_cons (d_name 1) (a_cons (d_fdiv (d_sub (d_name 2) d_int) d_int) a_nil))))))) a_nil))))) s_nil)
      (s_cons (s_if (PW.pt (w_and (t_cmp op_lt ok_cmpI (d_name 3) d_int (nomark _)) (w_and1 (t_cmp op_gt ok_cmpI (d_name 2) d_int (nomark _))))) (s_cons (s_set (i := 4) sc_L_any.nd rfl (Or.inl rfl) (d_call ⟨c_law_some.ex⟩ hr hg rfl (a_cons (d_name 0) (a_cons (d_name 1) a_nil))))
      (s_one (s_ret (d_tup (a_cons d_str (a_cons (d_name 4) (a_cons (d_call ⟨c_law_any.ex⟩ hr hg rfl (a_cons (d_name 0) (a_cons (d_name 1) (a_cons (d_fdiv (d_sub (d_name 2) d_int) d_int) a_nil)))) (a_cons (d_call ⟨c_law_any.ex⟩ hr hg rfl (a_cons (d_name 0) (a_cons (d_name 1) (a_cons (d_fdiv (d_mul (d_sub (d_name 2) d_int) d_int) d_int) a_nil)))) a_nil)))))))) s_nil)
      (s_cons (s_set (i := 5) sc_L_any.nd rfl (Or.inr rfl) (d_min rfl rfl z_min (a_cons (d_call ⟨c_law_take.ex⟩ hr hg rfl (a_cons (d_name 0) (a_cons (d_if (t_cmp (op_eqA hr) ok_eq (d_call ⟨c_law_take.ex⟩ hr hg rfl (a_cons (d_name 0) (a_cons d_int a_nil))) d_int (nomark _)) d_int d_int) a_nil))) (a_cons (d_sub (d_name 2) d_int) a_nil))))
      (s_cons (s_set (i := 6) sc_L_any.nd rfl (Or.inl rfl) (d_totup rfl z_tuple (a_cons (d_of (f_lc (.nm 7) rfl sc_L_any.nd (i_rng1 rfl z_range (a_cons (d_name 5) a_nil)) bk_L_any_1 (fun _ _ _ _ _ => (pg_name (i := 7) sc_L_any.nd rfl (Or.inl rfl))) (fun _ _ _ _ _ _ => ts_nil) (fun _ _ _ _ _ _ => (d_call ⟨c_law_any.ex⟩ hr hg rfl (a_cons (d_name 0) (a_cons (d_name 1) (a_cons (d_fdiv (d_mul (d_sub (d_name 2) d_int) d_int) (d_add (d_mul d_int (d_name 5)) (d_toint rfl z_int (a_cons (d_cmp (op_eqA hr) ok_eq (d_name 5) d_int (nomark _)) a_nil)))) a_nil))))))) a_nil)))
      (s_one (s_ret (d_tup (a_cons (d_if (t_cmp op_lt ok_cmpI (d_name 3) d_int (nomark _)) d_str d_str) (a_cons (d_call ⟨c_law_some.ex⟩ hr hg rfl (a_cons (d_name 0) (a_cons (d_of (f_lst (a_cons d_str (a_cons d_str (a_cons d_str a_nil))))) a_nil))) (a_cons (d_name 6) a_nil)))))))))))), hR⟩
noncomputable abbrev s_L_addresses : Stmt := top 26
theorem sc_L_addresses : FnScope ["_law_code", "_law_found", "_law_at_here", "_law_one", "_law_rest"] ["_law_code"] (defScope s_L_addresses) := ⟨rfl, rfl, rfl, by decide +kernel, rfl, by decide +kernel, by decide +kernel⟩
theorem bk_L_addresses_0 : BlkOk ["_law_code", "_law_found", "_law_at_here", "_law_one", "_law_rest"] (defScope s_L_addresses) { kind := .function, names := [(".0", .local), ("_law_rest", .local), ("_law_at_here", .free)], isGenerator := false, isCoroutine := false, more := [] : Scope } [("_law_rest", 4)] := blkOk_by (by decide +kernel)
noncomputable def t_L_addresses (R_law_inner : RD) (R_law_addresses : RD) : TSD :=
  (seqT (setT 1 (ofF (lstF (consA (tupT nilA) nilA))))
    (seqT (forT (.tp [2, 3]) (enumI (consA (callT R_law_inner (consA (nameT 0) nilA)) nilA)) (setT 1 (DL.binT addD (nameT 1) (ofF (lcF (.nm 4) (seqI (callT R_law_addresses (consA (nameT 3) nilA))) yesT (DL.binT addD (tupT (consA (nameT 2) nilA)) (nameT 4)) [4])))))
    (retT (nameT 1))))
theorem fn_L_addresses {n : Nat} {R : RD} {f : Addr} {fd : FuncData} {R_law_inner : RD} {R_law_addresses : RD} (Fn : Fun K "_law_addresses" "_law_addresses" s_L_addresses f fd) (z_enumerate : mg "enumerate" = none) (c_law_inner : CalP P w K mg base n "_law_inner" R_law_inner) (c_law_addresses : CalP P w K mg base n "_law_addresses" R_law_addresses)
    (hl : ∀ ds k, R ds k → ds.length = 1) (hR : ∀ ds κ, R ds κ → t_L_addresses R_law_inner R_law_addresses (endD κ) (enterS 5 ds)) : FnG P w K mg base CX0 (n + 1) f fd ["_law_code"] (spD K R) :=
  Fun.okD Fn sc_L_addresses hl ⟨_, fun cdv A outer s H E G H' pn hr hg =>
      (s_cons (s_set (i := 1) sc_L_addresses.nd rfl (Or.inl rfl) (d_of (f_lst (a_cons (d_tup a_nil) a_nil))))
      (s_cons (s_for (t := (.tp [2, 3])) PassesOwn.never rfl (i_enum rfl z_enumerate (a_cons (d_call ⟨c_law_inner.ex⟩ hr hg rfl (a_cons (d_name 0) a_nil)) a_nil)) (pg_tup rfl (pgs_cons (pg_name (i := 2) sc_L_addresses.nd rfl (Or.inr rfl)) (pgs_cons (pg_name (i := 3) sc_L_addresses.nd rfl (Or.inl rfl)) pgs_nil))) (fun _ => (s_one (s_set (i := 1) sc_L_addresses.nd rfl (Or.inl rfl) (d_add (d_name 1) (d_of (f_lc (.nm 4) rfl sc_L_addresses.nd (i_seq (d_call ⟨c_law_addresses.ex⟩ hr hg rfl (a_cons (d_name 3) a_nil))) bk_L_addresses_0 (fun _ _ _ _ _ => (pg_name (i := 4) sc_L_addresses.nd rfl (Or.inl rfl))) (fun _ _ _ _ _ _ => ts_nil) (fun _ _ _ _ _ _ => (d_add (d_tup (a_cons (d_name 2) a_nil)) (d_name 4))))))))))
      (s_one (s_ret (d_name 1))))), hR⟩
noncomputable abbrev s_L_put : Stmt := top 27
theorem sc_L_put : FnScope ["_law_code", "_law_address", "_law_part", "_law_codes"] ["_law_code", "_law_address", "_law_part"] (defScope s_L_put) := ⟨rfl, rfl, rfl, by decide +kernel, rfl, by decide +kernel, by decide +kernel⟩
noncomputable def t_L_put (R_law_inner : RD) (R_law_put : RD) : TSD :=
  (seqT (iffT (blT (DL.binT e0D (nameT 1) (tupT nilA))) (retT (nameT 2)) nextT)
    (seqT (newT 3 (lstR (consA (callT R_law_inner (consA (nameT 0) nilA)) nilA)))
    (seqT (putT 3 (DL.binT ixD (nameT 1) (cT (.int 0))) (callT R_law_put (consA (ixO 3 (DL.binT ixD (nameT 1) (cT (.int 0)))) (consA (slT slD (nameT 1) (someO (cT (.int 1))) noneO) (consA (nameT 2) nilA)))))
    (frzT 3 (seqT (iffT (blT (DL.binT eqD (DL.binT ixD (nameT 0) (cT (.int 0))) (cT (.str "if")))) (retT (DL.binT addD (tupT (consA (cT (.str "if")) nilA)) (callT tupR (consA (nameT 3) nilA)))) nextT)
    (retT (ifT (blT (DL.binT eqD (DL.binT ixD (nameT 0) (cT (.int 0))) (cT (.str "with")))) (DL.binT addD (tupT (consA (cT (.str "with")) (consA (DL.binT ixD (nameT 0) (cT (.int 1))) nilA))) (callT tupR (consA (nameT 3) nilA))) (DL.binT addD (slT slD (nameT 0) noneO (someO (cT (.int 2)))) (tupT (consA (callT tupR (consA (nameT 3) nilA)) nilA))))))))))
theorem fn_L_put {n : Nat} {R : RD} {f : Addr} {fd : FuncData} {R_law_inner : RD} {R_law_put : RD} (Fn : Fun K "_law_put" "_law_put" s_L_put f fd) (z_list : mg "list" = none) (z_tuple : mg "tuple" = none) (c_law_inner : CalP P w K mg base n "_law_inner" R_law_inner) (c_law_put : CalP P w K mg base n "_law_put" R_law_put)
    (hl : ∀ ds k, R ds k → ds.length = 3) (hR : ∀ ds κ, R ds κ → t_L_put R_law_inner R_law_put (endD κ) (enterS 4 ds)) : FnG P w K mg base CX0 (n + 1) f fd ["_law_code", "_law_address", "_law_part"] (spD K R) :=
  Fun.okD Fn sc_L_put hl ⟨_, fun cdv A outer s H E G H' pn hr hg =>
      (s_cons (s_if (t_cmp (op_e0 hr) ok_e0 (d_name 1) (d_tup a_nil) (nomark _)) (s_one (s_ret (d_name 2))) s_nil)
      (s_cons (s_new (i := 3) sc_L_put.nd rfl (Or.inl rfl) (f_tolst rfl z_list (a_cons (d_call ⟨c_law_inner.ex⟩ hr hg rfl (a_cons (d_name 0) a_nil)) a_nil)))
      (s_cons (s_put 3 (d_call ⟨c_law_put.ex⟩ hr hg rfl (a_cons (d_ixO 3 (d_ix (d_name 1) d_int)) (a_cons (d_slice (d_name 1) (o_some d_int) o_none) (a_cons (d_name 2) a_nil)))) (d_ix (d_name 1) d_int))
      (ss_frz 3 (s_cons (s_if (t_cmp (op_eqA hr) ok_eq (d_ix (d_name 0) d_int) d_str (nomark _)) (s_one (s_ret (d_add (d_tup (a_cons d_str a_nil)) (d_totup rfl z_tuple (a_cons (d_name 3) a_nil))))) s_nil)
      (s_one (s_ret (d_if (t_cmp (op_eqA hr) ok_eq (d_ix (d_name 0) d_int) d_str (nomark _)) (d_add (d_tup (a_cons d_str (a_cons (d_ix (d_name 0) d_int) a_nil))) (d_totup rfl z_tuple (a_cons (d_name 3) a_nil))) (d_add (d_slice (d_name 0) o_none (o_some d_int)) (d_tup (a_cons (d_totup rfl z_tuple (a_cons (d_name 3) a_nil)) a_nil))))))))))), hR⟩
noncomputable abbrev s_L_at : Stmt := top 28
theorem sc_L_at : FnScope ["_law_code", "_law_address", "_law_at_here"] ["_law_code", "_law_address"] (defScope s_L_at) := ⟨rfl, rfl, rfl, by decide +kernel, rfl, by decide +kernel, by decide +kernel⟩
noncomputable def t_L_at (R_law_inner : RD) : TSD :=
  (seqT (forT (.nm 2) (seqI (nameT 1)) (setT 0 (DL.binT ixD (callT R_law_inner (consA (nameT 0) nilA)) (nameT 2))))
    (retT (nameT 0)))
theorem fn_L_at {n : Nat} {R : RD} {f : Addr} {fd : FuncData} {R_law_inner : RD} (Fn : Fun K "_law_at" "_law_at" s_L_at f fd) (c_law_inner : CalP P w K mg base n "_law_inner" R_law_inner)
    (hl : ∀ ds k, R ds k → ds.length = 2) (hR : ∀ ds κ, R ds κ → t_L_at R_law_inner (endD κ) (enterS 3 ds)) : FnG P w K mg base CX0 (n + 1) f fd ["_law_code", "_law_address"] (spD K R) :=
  Fun.okD Fn sc_L_at hl ⟨_, fun cdv A outer s H E G H' pn hr hg =>
      (s_cons (s_for (t := (.nm 2)) PassesOwn.never rfl (i_seq (d_name 1)) (pg_name (i := 2) sc_L_at.nd rfl (Or.inl rfl)) (fun _ => (s_one (s_set (i := 0) sc_L_at.nd rfl (Or.inl rfl) (d_ix (d_call ⟨c_law_inner.ex⟩ hr hg rfl (a_cons (d_name 0) a_nil)) (d_name 2))))))
      (s_one (s_ret (d_name 0)))), hR⟩
noncomputable abbrev s_L_names_of : Stmt := top 29
theorem sc_L_names_of : FnScope ["_law_bag_here", "_law_many", "_law_letters", "_law_found", "_law_k", "_law_word", "_law_j"] ["_law_bag_here", "_law_many"] (defScope s_L_names_of) := ⟨rfl, rfl, rfl, by decide +kernel, rfl, by decide +kernel, by decide +kernel⟩
theorem bk_L_names_of_0 : BlkOk ["_law_bag_here", "_law_many", "_law_letters", "_law_found", "_law_k", "_law_word", "_law_j"] (defScope s_L_names_of) { kind := .function, names := [(".0", .local), ("_law_j", .local), ("_law_some", .globalImplicit), ("_law_bag_here", .free), ("_law_letters", .free)], isGenerator := false, isCoroutine := false, more := [] : Scope } [("_law_j", 6)] := blkOk_by (by decide +kernel)
noncomputable def t_L_names_of (R_law_take : RD) (R_law_words : RD) (R_law_some : RD) : TSD :=
  (seqT (iffT (blT (DL.binT (cmpI fun i j => decide (i > j)) (callT R_law_take (consA (nameT 0) (consA (cT (.int 3)) nilA))) (cT (.int 0)))) (retT (callT R_law_words (consA (nameT 0) (consA (nameT 1) nilA)))) nextT)
    (seqT (tgtT (.tp [2, 3]) (tupT (consA (cT (.str "abcdefghijklmnopqrstuvwxyz")) (consA (ofF (lstF nilA)) nilA))))
    (seqT (forT (.nm 4) (rng1I (consA (DL.binT addD (nameT 1) (cT (.int 3))) nilA)) (seqT (setT 5 (methT joinM (onT isStr (cT (.str ""))) (consA (ofF (lcF (.nm 6) (rng1I (consA (DL.binT addD (cT (.int 1)) (DL.binT mulD (callT R_law_take (consA (nameT 0) (consA (cT (.int 2)) nilA))) (callT R_law_take (consA (nameT 0) (consA (cT (.int 8)) nilA))))) nilA)) yesT (callT R_law_some (consA (nameT 0) (consA (nameT 2) nilA))) [6])) nilA)))
    (setT 3 (DL.binT addD (nameT 3) (DL.binT mulD (ofF (lstF (consA (nameT 5) nilA))) (callT intR (consA (DL.binT notInD (nameT 5) (nameT 3)) nilA)))))))
    (retT (slT slD (nameT 3) noneO (someO (nameT 1)))))))
theorem fn_L_names_of {n : Nat} {R : RD} {f : Addr} {fd : FuncData} {R_law_take : RD} {R_law_words : RD} {R_law_some : RD} (Fn : Fun K "_law_names_of" "_law_names_of" s_L_names_of f fd) (z_int : mg "int" = none) (z_range : mg "range" = none) (c_law_take : CalP P w K mg base n "_law_take" R_law_take) (c_law_words : CalP P w K mg base n "_law_words" R_law_words) (c_law_some : CalP P w K mg base n "_law_some" R_law_some)
    (hl : ∀ ds k, R ds k → ds.length = 2) (hR : ∀ ds κ, R ds κ → t_L_names_of R_law_take R_law_words R_law_some (endD κ) (enterS 7 ds)) : FnG P w K mg base CX0 (n + 1) f fd ["_law_bag_here", "_law_many"] (spD K R) :=
  Fun.okD Fn sc_L_names_of hl ⟨_, fun cdv A outer s H E G H' pn hr hg =>
      (s_cons (s_if (t_cmp op_gt ok_cmpI (d_call ⟨c_law_take.ex⟩ hr hg rfl (a_cons (d_name 0) (a_cons d_int a_nil))) d_int (nomark _)) (s_one (s_ret (d_call ⟨c_law_words.ex⟩ hr hg rfl (a_cons (d_name 0) (a_cons (d_name 1) a_nil))))) s_nil)
      (s_cons (s_tgt (.tp [2, 3]) (d_tup (a_cons d_str (a_cons (d_of (f_lst a_nil)) a_nil))) (pg_tup rfl (pgs_cons (pg_name (i := 2) sc_L_names_of.nd rfl (Or.inr rfl)) (pgs_cons (pg_name (i := 3) sc_L_names_of.nd rfl (Or.inl rfl)) pgs_nil))))
      (s_cons (s_for (t := (.nm 4)) PassesOwn.never rfl (i_rng1 rfl z_range (a_cons (d_add (d_name 1) d_int) a_nil)) (pg_name (i := 4) sc_L_names_of.nd rfl (Or.inl rfl)) (fun _ => (s_cons (s_set (i := 5) sc_L_names_of.nd rfl (Or.inl rfl) (d_join d_str (d_of (f_lc (.nm 6) rfl sc_L_names_of.nd (i_rng1 rfl z_range (a_cons (d_add d_int (d_mul (d_call ⟨c_law_take.ex⟩ hr hg rfl (a_cons (d_name 0) (a_cons d_int a_nil))) (d_call ⟨c_law_take.ex⟩ hr hg rfl (a_cons (d_name 0) (a_cons d_int a_nil))))) a_nil)) bk_L_names_of_0 (fun _ _ _ _ _ => (pg_name (i := 6) sc_L_names_of.nd rfl (Or.inl rfl))) (fun _ _ _ _ _ _ => ts_nil) (fun _ _ _ _ _ _ => (d_call ⟨c_law_some.ex⟩ hr hg rfl (a_cons (d_name 0) (a_cons (d_name 2) a_nil))))))))
      (s_one (s_set (i := 3) sc_L_names_of.nd rfl (Or.inl rfl) (d_add (d_name 3) (d_mul (d_of (f_lst (a_cons (d_name 5) a_nil))) (d_toint rfl z_int (a_cons (d_cmp (op_notInA hr) ok_notIn (d_name 5) (d_name 3) (by rfl)) a_nil)))))))))
      (s_one (s_ret (d_slice (d_name 3) o_none (o_some (d_name 1)))))))), hR⟩
noncomputable abbrev s_L_deepened : Stmt := top 30
theorem sc_L_deepened : FnScope ["_law_bag_here", "_law_names", "_law_code", "_law_k", "_law_way"] ["_law_bag_here", "_law_names", "_law_code"] (defScope s_L_deepened) := ⟨rfl, rfl, rfl, by decide +kernel, rfl, by decide +kernel, by decide +kernel⟩
noncomputable def t_L_deepened (R_law_take : RD) : TSD :=
  (seqT (forT (.nm 3) (rng1I (consA (DL.binT mulD (callT R_law_take (consA (nameT 0) (consA (cT (.int 13)) nilA))) (callT intR (consA (DL.binT eqD (callT R_law_take (consA (nameT 0) (consA (cT (.int 5)) nilA))) (cT (.int 0))) nilA))) nilA)) (seqT (setT 4 (callT R_law_take (consA (nameT 0) (consA (cT (.int 3)) nilA))))
    (setT 2 (DL.binT ixD (ofF (lstF (consA (tupT (consA (cT (.str "work")) (consA (cT (.str "up")) (consA (tupT (consA (nameT 2) nilA)) nilA)))) (consA (tupT (consA (cT (.str "call")) (consA (cT (.str "of")) (consA (tupT (consA (nameT 2) nilA)) nilA)))) (consA (tupT (consA (cT (.str "with")) (consA (DL.binT ixD (nameT 1) (cT (.int 0))) (consA (nameT 2) (consA (tupT (consA (cT (.str "name")) (consA (DL.binT ixD (nameT 1) (negT (cT (.int 1)))) nilA))) nilA))))) nilA))))) (nameT 4)))))
    (retT (nameT 2)))
theorem fn_L_deepened {n : Nat} {R : RD} {f : Addr} {fd : FuncData} {R_law_take : RD} (Fn : Fun K "_law_deepened" "_law_deepened" s_L_deepened f fd) (z_int : mg "int" = none) (z_range : mg "range" = none) (c_law_take : CalP P w K mg base n "_law_take" R_law_take)
    (hl : ∀ ds k, R ds k → ds.length = 3) (hR : ∀ ds κ, R ds κ → t_L_deepened R_law_take (endD κ) (enterS 5 ds)) : FnG P w K mg base CX0 (n + 1) f fd ["_law_bag_here", "_law_names", "_law_code"] (spD K R) :=
  Fun.okD Fn sc_L_deepened hl ⟨_, fun cdv A outer s H E G H' pn hr hg =>
      (s_cons (s_for (t := (.nm 3)) PassesOwn.never rfl (i_rng1 rfl z_range (a_cons (d_mul (d_call ⟨c_law_take.ex⟩ hr hg rfl (a_cons (d_name 0) (a_cons d_int a_nil))) (d_toint rfl z_int (a_cons (d_cmp (op_eqA hr) ok_eq (d_call ⟨c_law_take.ex⟩ hr hg rfl (a_cons (d_name 0) (a_cons d_int a_nil))) d_int (nomark _)) a_nil))) a_nil)) (pg_name (i := 3) sc_L_deepened.nd rfl (Or.inl rfl)) (fun _ => (s_cons (s_set (i := 4) sc_L_deepened.nd rfl (Or.inl rfl) (d_call ⟨c_law_take.ex⟩ hr hg rfl (a_cons (d_name 0) (a_cons d_int a_nil))))
      (s_one (s_set (i := 2) sc_L_deepened.nd rfl (Or.inl rfl) (d_ix (d_of (f_lst (a_cons (d_tup (a_cons d_str (a_cons d_str (a_cons (d_tup (a_cons (d_name 2) a_nil)) a_nil)))) (a_cons (d_tup (a_cons d_str (a_cons d_str (a_cons (d_tup (a_cons (d_name 2) a_nil)) a_nil)))) (a_cons (d_tup (a_cons d_str (a_cons (d_ix (d_name 1) d_int) (a_cons (d_name 2) (a_cons (d_tup (a_cons d_str (a_cons (d_ix (d_name 1) (d_neg d_int)) a_nil))) a_nil))))) a_nil))))) (d_name 4)))))))
      (s_one (s_ret (d_name 2)))), hR⟩
noncomputable abbrev s_L_bound : Stmt := top 31
theorem sc_L_bound : FnScope ["_law_code", "_law_address", "_law_found", "_law_at_here"] ["_law_code", "_law_address"] (defScope s_L_bound) := ⟨rfl, rfl, rfl, by decide +kernel, rfl, by decide +kernel, by decide +kernel⟩
noncomputable def t_L_bound (R_law_inner : RD) : TSD :=
  (seqT (newT 2 (lstF nilA))
    (seqT (forT (.nm 3) (seqI (nameT 1)) (seqT (iffT (andB (blT (DL.binT eqD (DL.binT ixD (nameT 0) (cT (.int 0))) (cT (.str "with")))) (blT (DL.binT eqD (nameT 3) (cT (.int 1))))) (mT 2 appD (consA (DL.binT ixD (nameT 0) (cT (.int 1))) nilA)) nextT)
    (setT 0 (DL.binT ixD (callT R_law_inner (consA (nameT 0) nilA)) (nameT 3)))))
    (frzT 2 (retT (ofF (sortSetF (consA (nameT 2) nilA)))))))
theorem fn_L_bound {n : Nat} {R : RD} {f : Addr} {fd : FuncData} {R_law_inner : RD} (Fn : Fun K "_law_bound" "_law_bound" s_L_bound f fd) (z_set : mg "set" = none) (z_sorted : mg "sorted" = none) (c_law_inner : CalP P w K mg base n "_law_inner" R_law_inner)
    (hl : ∀ ds k, R ds k → ds.length = 2) (hR : ∀ ds κ, R ds κ → t_L_bound R_law_inner (endD κ) (enterS 4 ds)) : FnG P w K mg base CX0 (n + 1) f fd ["_law_code", "_law_address"] (spD K R) :=
  Fun.okD Fn sc_L_bound hl ⟨_, fun cdv A outer s H E G H' pn hr hg =>
      (s_cons (s_new (i := 2) sc_L_bound.nd rfl (Or.inl rfl) (f_lst a_nil))
      (s_cons (s_for (t := (.nm 3)) PassesOwn.never rfl (i_seq (d_name 1)) (pg_name (i := 3) sc_L_bound.nd rfl (Or.inl rfl)) (fun _ => (s_cons (s_if (PW.pt (w_and (t_cmp (op_eqA hr) ok_eq (d_ix (d_name 0) d_int) d_str (nomark _)) (w_and1 (t_cmp (op_eqA hr) ok_eq (d_name 3) d_int (nomark _))))) (s_one (s_app 2 (a_cons (d_ix (d_name 0) d_int) a_nil) (pe_bm PySem.F.plainAttrs_list PySem.F.slot_list_append PySem.F.type_list_append mt_append (pv 2) (a_cons (d_ix (d_name 0) d_int) a_nil)))) s_nil)
      (s_one (s_set (i := 0) sc_L_bound.nd rfl (Or.inl rfl) (d_ix (d_call ⟨c_law_inner.ex⟩ hr hg rfl (a_cons (d_name 0) a_nil)) (d_name 3)))))))
      (ss_frz 2 (s_one (s_ret (d_of (f_sortSet rfl rfl z_sorted rfl z_set (a_cons (d_name 2) a_nil)))))))), hR⟩
noncomputable abbrev s_L_heard : Stmt := top 32
theorem sc_L_heard : FnScope ["_law_way", "_law_code", "_law_address", "_law_part", "e"] ["_law_way", "_law_code", "_law_address", "_law_part"] (defScope s_L_heard) := ⟨rfl, rfl, rfl, by decide +kernel, rfl, by decide +kernel, by decide +kernel⟩
noncomputable def t_L_heard (Vpart_at : RXD) (Vbound_at : RXT) (Vput_at : RXD) (C_FarError : Addr) (C_NoPart : Addr) (C_Wrong : Addr) (Sub : Addr → Prop) (is_NoPart : Addr → Bool) (is_Wrong : Addr → Bool) : TSD :=
  (tryN 4 Sub (fun W => (seqT (iffT (blT (DL.binT eqD (nameT 0) (cT (.int 0)))) (retR (datR (tupT (consA (cT (.str "told")) (consA (callV Vpart_at W (consA (nameT 1) (consA (nameT 2) nilA))) nilA))))) nextT)
    (retR (tpR (consR (datR (cT (.str "told"))) (consR (ifR (blT (DL.binT eqD (nameT 0) (cT (.int 1)))) (callVT Vbound_at W (consA (nameT 1) (consA (nameT 2) nilA))) (datR (callV Vput_at W (consA (nameT 1) (consA (nameT 2) (consA (nameT 3) nilA)))))) nilR)))))) (fun a y => (retR (datR (ifT (andB (truT (isET 4 a (is_NoPart y.cls))) (notB (truT (isET 4 a (is_Wrong y.cls))))) (tupT (consA (cT (.str "none")) (consA (xfT 4 a "address" y) nilA))) (tupT (consA (cT (.str "other")) (consA (cT .non) nilA))))))))
theorem fn_L_heard {n : Nat} {R : RTD} {f : Addr} {fd : FuncData} {Vpart_at : RXD} {Vbound_at : RXT} {Vput_at : RXD} {C_FarError : Addr} {C_NoPart : Addr} {C_Wrong : Addr} {Sub : Addr → Prop} {is_NoPart : Addr → Bool} {is_Wrong : Addr → Bool} (Fn : Fun K "_law_heard" "_law_heard" s_L_heard f fd) (z_isinstance : mg "isinstance" = none) (vpart_at : CalV P w K mg base n "part_at" Vpart_at) (vbound_at : CalVT P w K mg base n "bound_at" Vbound_at) (vput_at : CalV P w K mg base n "put_at" Vput_at) (xE : ∀ C, Sub C → XfC K C ∧ L2.ExcC K C ∧ (PySem.W.clsIn K C).isSome = true) (xn_address : ∀ C, Sub C → PySem.W.findIn K (.ref C) "address" = some none) (ix_NoPart : ∀ D, Sub D → PySem.W.kitOne K (.ref D) (.ref C_NoPart) = some (is_NoPart D)) (mc_NoPart : mg "NoPart" = some (.ref C_NoPart)) (ix_Wrong : ∀ D, Sub D → PySem.W.kitOne K (.ref D) (.ref C_Wrong) = some (is_Wrong D)) (mc_Wrong : mg "Wrong" = some (.ref C_Wrong)) (gF : mg "FarError" = some (.ref C_FarError)) (hsub : ∀ C, Sub C → PySem.W.exmOne K (.ref C) (.ref C_FarError) = some true)
    (hl : ∀ ds k, R ds k → ds.length = 4) (hR : ∀ ds κ, R ds κ → t_L_heard Vpart_at Vbound_at Vput_at C_FarError C_NoPart C_Wrong Sub is_NoPart is_Wrong (endT κ) (enterS 5 ds)) : FnG P w K mg base CX0 (n + 1) f fd ["_law_way", "_law_code", "_law_address", "_law_part"] (spT K R) :=
  Fun.okT Fn sc_L_heard hl ⟨_, fun cdv A outer s H E G H' pn hr hg =>
      (s_one (s_tryN (i := 4) rfl rfl sc_L_heard.nd rfl rfl ⟨rfl, by decide, .inl gF⟩ hsub (fun W pn xe tk po => (s_cons (s_if (t_cmp (op_eqA hr) ok_eq (d_name 0) d_int (nomark _)) (s_one (s_retR (r_dat (d_tup (a_cons d_str (a_cons (d_callV ⟨vpart_at.ex⟩ tk hr hg rfl (a_cons (d_name 1) (a_cons (d_name 2) a_nil))) a_nil)))))) s_nil)
      (s_one (s_retR (r_tp (ra_cons (r_dat d_str) (ra_cons (r_if (t_cmp (op_eqA hr) ok_eq (d_name 0) d_int (nomark _)) (r_callVT ⟨vbound_at.ex⟩ tk hr hg rfl (a_cons (d_name 1) (a_cons (d_name 2) a_nil))) (r_dat (d_callV ⟨vput_at.ex⟩ tk hr hg rfl (a_cons (d_name 1) (a_cons (d_name 2) (a_cons (d_name 3) a_nil)))))) ra_nil))))))) (fun a oe cls d pn y l hy hx zc fl => (s_one (s_retR (r_dat (d_if (PW.pt (w_and (t_tru (d_isE 4 (xE _ hy).2.1 (xE _ hy).2.2 (ix_NoPart _ hy) hx zc fl rfl z_isinstance rfl mc_NoPart)) (w_and1 (t_not (t_tru (d_isE 4 (xE _ hy).2.1 (xE _ hy).2.2 (ix_Wrong _ hy) hx zc fl rfl z_isinstance rfl mc_Wrong)))))) (d_tup (a_cons d_str (a_cons (d_xf 4 (xE _ hy).1 (xn_address _ hy) hx zc fl) a_nil))) (d_tup (a_cons d_str (a_cons d_non a_nil)))))))))), hR⟩
noncomputable abbrev s_L_places : Stmt := top 33
theorem sc_L_places : FnScope ["_law_bag_here", "_law_every", "_law_found", "_law_far", "_law_k"] ["_law_bag_here", "_law_every"] (defScope s_L_places) := ⟨rfl, rfl, rfl, by decide +kernel, rfl, by decide +kernel, by decide +kernel⟩
theorem bk_L_places_0 : BlkOk ["_law_bag_here", "_law_every", "_law_found", "_law_far", "_law_k"] (defScope s_L_places) { kind := .function, names := [(".0", .local), ("_law_k", .local), ("_law_some", .globalImplicit), ("_law_bag_here", .free), ("_law_every", .free)], isGenerator := false, isCoroutine := false, more := [] : Scope } [("_law_k", 4)] := blkOk_by (by decide +kernel)
noncomputable def t_L_places (R_law_some : RD) (R_law_take : RD) (R_law_odd : RD) : TSD :=
  (seqT (setT 2 (ofF (lcF (.nm 4) (rng1I (consA (cT (.int 3)) nilA)) yesT (callT R_law_some (consA (nameT 0) (consA (nameT 1) nilA))) [4])))
    (seqT (setT 3 (callT R_law_some (consA (nameT 0) (consA (nameT 1) nilA))))
    (seqT (setT 2 (DL.binT addD (nameT 2) (ofF (lstF (consA (DL.binT addD (nameT 3) (tupT (consA (callT R_law_take (consA (nameT 0) (consA (cT (.int 4)) nilA))) nilA))) (consA (DL.binT addD (slT slD (nameT 3) noneO (someO (negT (cT (.int 1))))) (tupT (consA (ifT (blT (DL.binT neD (nameT 3) (tupT nilA))) (DL.binT addD (DL.binT ixD (nameT 3) (negT (cT (.int 1)))) (cT (.int 1))) (cT (.int 9))) nilA))) (consA (ofF (lstR (consA (nameT 3) nilA))) nilA)))))))
    (retT (DL.binT addD (nameT 2) (ofF (lstF (consA (DL.binT addD (nameT 3) (tupT (consA (cT (.bl true)) nilA))) (consA (DL.binT addD (nameT 3) (tupT (consA (negT (cT (.int 1))) nilA))) (consA (callT R_law_odd (consA (nameT 0) nilA)) (consA (callT R_law_odd (consA (nameT 0) nilA)) nilA)))))))))))
theorem fn_L_places {n : Nat} {R : RD} {f : Addr} {fd : FuncData} {R_law_some : RD} {R_law_take : RD} {R_law_odd : RD} (Fn : Fun K "_law_places" "_law_places" s_L_places f fd) (z_list : mg "list" = none) (z_range : mg "range" = none) (c_law_some : CalP P w K mg base n "_law_some" R_law_some) (c_law_take : CalP P w K mg base n "_law_take" R_law_take) (c_law_odd : CalP P w K mg base n "_law_odd" R_law_odd)
    (hl : ∀ ds k, R ds k → ds.length = 2) (hR : ∀ ds κ, R ds κ → t_L_places R_law_some R_law_take R_law_odd (endD κ) (enterS 5 ds)) : FnG P w K mg base CX0 (n + 1) f fd ["_law_bag_here", "_law_every"] (spD K R) :=
  Fun.okD Fn sc_L_places hl ⟨_, fun cdv A outer s H E G H' pn hr hg =>
      (s_cons (s_setLc (i := 2) (.nm 4) rfl sc_L_places.nd rfl rfl (by rfl) (i_rng1 rfl z_range (a_cons d_int a_nil)) bk_L_places_0 (fun _ _ _ _ _ => (pg_name (i := 4) sc_L_places.nd rfl (Or.inl rfl))) (fun _ _ _ _ _ _ => ts_nil) (fun _ _ _ _ _ _ => (d_call ⟨c_law_some.ex⟩ hr hg rfl (a_cons (d_name 0) (a_cons (d_name 1) a_nil)))))
      (s_cons (s_set (i := 3) sc_L_places.nd rfl (Or.inl rfl) (d_call ⟨c_law_some.ex⟩ hr hg rfl (a_cons (d_name 0) (a_cons (d_name 1) a_nil))))
      (s_cons (s_set (i := 2) sc_L_places.nd rfl (Or.inl rfl) (d_add (d_name 2) (d_of (f_lst (a_cons (d_add (d_name 3) (d_tup (a_cons (d_call ⟨c_law_take.ex⟩ hr hg rfl (a_cons (d_name 0) (a_cons d_int a_nil))) a_nil))) (a_cons (d_add (d_slice (d_name 3) o_none (o_some (d_neg d_int))) (d_tup (a_cons (d_if (t_cmp (op_neA hr) ok_ne (d_name 3) (d_tup a_nil) (nomark _)) (d_add (d_ix (d_name 3) (d_neg d_int)) d_int) d_int) a_nil))) (a_cons (d_of (f_tolst rfl z_list (a_cons (d_name 3) a_nil))) a_nil)))))))
      (s_one (s_ret (d_add (d_name 2) (d_of (f_lst (a_cons (d_add (d_name 3) (d_tup (a_cons d_bl a_nil))) (a_cons (d_add (d_name 3) (d_tup (a_cons (d_neg d_int) a_nil))) (a_cons (d_call ⟨c_law_odd.ex⟩ hr hg rfl (a_cons (d_name 0) a_nil)) (a_cons (d_call ⟨c_law_odd.ex⟩ hr hg rfl (a_cons (d_name 0) a_nil)) a_nil)))))))))))), hR⟩
noncomputable abbrev s_law : Stmt := top 34
theorem sc_law : FnScope ["_law_script", "_law_bag_here", "_law_spin", "_law_names", "_law_code", "_law_part", "_law_every", "_law_again", "_law_found", "_law_address", "_law_is_one", "_law_due", "_law_said", "_law_way", "_law_held", "_law_one"] ["_law_script"] (defScope s_law) := ⟨rfl, rfl, rfl, by decide +kernel, rfl, by decide +kernel, by decide +kernel⟩
theorem bk_law_0 : BlkOk ["_law_script", "_law_bag_here", "_law_spin", "_law_names", "_law_code", "_law_part", "_law_every", "_law_again", "_law_found", "_law_address", "_law_is_one", "_law_due", "_law_said", "_law_way", "_law_held", "_law_one"] (defScope s_law) { kind := .function, names := [(".0", .local), ("_law_one", .local), ("isinstance", .globalImplicit), ("bool", .globalImplicit)], isGenerator := false, isCoroutine := false, more := [] : Scope } [("_law_one", 15)] := blkOk_by (by decide +kernel)
theorem bk_law_1 : BlkOk ["_law_script", "_law_bag_here", "_law_spin", "_law_names", "_law_code", "_law_part", "_law_every", "_law_again", "_law_found", "_law_address", "_law_is_one", "_law_due", "_law_said", "_law_way", "_law_held", "_law_one"] (defScope s_law) { kind := .function, names := [(".0", .local), ("_law_one", .local)], isGenerator := false, isCoroutine := false, more := [] : Scope } [("_law_one", 15)] := blkOk_by (by decide +kernel)
theorem bk_law_2 : BlkOk ["_law_script", "_law_bag_here", "_law_spin", "_law_names", "_law_code", "_law_part", "_law_every", "_law_again", "_law_found", "_law_address", "_law_is_one", "_law_due", "_law_said", "_law_way", "_law_held", "_law_one"] (defScope s_law) { kind := .function, names := [(".0", .local), ("_law_way", .local), ("_law_heard", .globalImplicit), ("_law_address", .free), ("_law_code", .free), ("_law_part", .free)], isGenerator := false, isCoroutine := false, more := [] : Scope } [("_law_way", 13)] := blkOk_by (by decide +kernel)
noncomputable def t_law (R_law_names_of : RD) (R_law_take : RD) (R_law_any : RD) (R_law_deepened : RD) (R_law_addresses : RD) (Raddresses : RTD) (R_law_alike : RD) (R_law_places : RD) (R_law_put : RD) (R_law_bound : RD) (R_law_at : RD) (R_law_heard : RTD) : TSD :=
  (seqT (forT (.nm 2) (rng1I (consA (cT (.int 5)) nilA)) (seqT (setT 3 (callT R_law_names_of (consA (nameT 1) (consA (cT (.int 4)) nilA))))
    (seqT (setT 4 (callT R_law_deepened (consA (nameT 1) (consA (nameT 3) (consA (callT R_law_any (consA (nameT 1) (consA (nameT 3) (consA (DL.binT addD (cT (.int 1)) (callT R_law_take (consA (nameT 1) (consA (cT (.int 40)) nilA)))) nilA)))) nilA)))))
    (seqT (setT 5 (callT R_law_any (consA (nameT 1) (consA (nameT 3) (consA (cT (.int 6)) nilA)))))
    (seqT (setT 6 (ofF (sortEF (consA (callT R_law_addresses (consA (nameT 4) nilA)) nilA))))
    (seqT (forT (.nm 7) (rng1I (consA (cT (.int 2)) nilA)) (seqT (newR 8 (callRT Raddresses (consA (nameT 4) nilA)))
    (seqT (iffT (thruB 8 (notB (truT (callT R_law_alike (consA (nameT 8) (consA (nameT 6) nilA)))))) (retT (cT (.bl false))) nextT)
    (mT 8 appD (consA (cT .non) nilA)))))
    (seqT (forT (.nm 9) (seqI (callT R_law_places (consA (nameT 1) (consA (nameT 6) nilA)))) (seqT (setT 10 (andT (isiT "tuple" (nameT 9)) (DL.binT inD (nameT 9) (nameT 6))))
    (seqT (setT 10 (andT (nameT 10) (DL.binT e0D (ofF (lcF (.nm 15) (seqI (nameT 9)) (truT (isiT "bool" (nameT 15))) (nameT 15) [15])) (ofF (lstF nilA)))))
    (seqT (setT 11 (DL.binT mulD (ofF (lstF (consA (tupT (consA (cT (.str "none")) (consA (nameT 9) nilA))) nilA))) (cT (.int 3))))
    (seqT (iffT (truT (nameT 10)) (seqT (setT 12 (ofF (lstF (consA (callT R_law_at (consA (nameT 4) (consA (nameT 9) nilA))) (consA (callT R_law_bound (consA (nameT 4) (consA (nameT 9) nilA))) (consA (callT R_law_put (consA (nameT 4) (consA (nameT 9) (consA (nameT 5) nilA)))) nilA))))))
    (setT 11 (ofF (lcF (.nm 15) (seqI (nameT 12)) yesT (tupT (consA (cT (.str "told")) (consA (nameT 15) nilA))) [15])))) nextT)
    (forT (.nm 7) (rng1I (consA (cT (.int 2)) nilA)) (seqT (newR 8 (lcR (.nm 13) (rng1I (consA (cT (.int 3)) nilA)) (callRT R_law_heard (consA (nameT 13) (consA (nameT 4) (consA (nameT 9) (consA (nameT 5) nilA))))) [13]))
    (seqT (iffT (thruB 8 (notB (truT (callT R_law_alike (consA (nameT 8) (consA (nameT 11) nilA)))))) (retT (cT (.bl false))) nextT)
    (iffT (truT (nameT 10)) (appIx2 8 1 1 (consA (cT .non) nilA)) nextT)))))))))
    (forT (.nm 13) (rng1I (consA (cT (.int 3)) nilA)) (seqT (newT 14 (lstF (consA (cT (.int 0)) nilA)))
    (ioT 14 (seqT (newR 8 (ptrR 14 (callRT R_law_heard (consA (nameT 13) (consA (nameT 4) (consA (nameT 14) (consA (nameT 5) nilA)))))))
    (frzT 8 (seqT (mX 14 appD (consA (cT (.int 1)) nilA))
    (iffT (ptrB 14 8 (blT (DL.binT neD (nameT 8) (tupT (consA (cT (.str "none")) (consA (ofF (lstF (consA (cT (.int 0)) (consA (cT (.int 1)) nilA)))) nilA)))))) (retT (cT (.bl false))) nextT))))))))))))))
    (retT (cT (.bl true))))
theorem fn_law {n : Nat} {f : Addr} {fd : FuncData} {R_law_names_of : RD} {R_law_take : RD} {R_law_any : RD} {R_law_deepened : RD} {R_law_addresses : RD} {Raddresses : RTD} {R_law_alike : RD} {R_law_places : RD} {R_law_put : RD} {R_law_bound : RD} {R_law_at : RD} {R_law_heard : RTD} (Fn : Fun K "law" "law" s_law f fd) (z_bool : mg "bool" = none) (z_isinstance : mg "isinstance" = none) (z_range : mg "range" = none) (z_sorted : mg "sorted" = none) (z_tuple : mg "tuple" = none) (cbag : BagP P w K mg base n "_law_bag") (c_law_names_of : CalP P w K mg base n "_law_names_of" R_law_names_of) (c_law_take : CalP P w K mg base n "_law_take" R_law_take) (c_law_any : CalP P w K mg base n "_law_any" R_law_any) (c_law_deepened : CalP P w K mg base n "_law_deepened" R_law_deepened) (c_law_addresses : CalP P w K mg base n "_law_addresses" R_law_addresses) (caddresses : CalT P w K mg base n "addresses" Raddresses) (c_law_alike : CalP P w K mg base n "_law_alike" R_law_alike) (c_law_places : CalP P w K mg base n "_law_places" R_law_places) (c_law_put : CalP P w K mg base n "_law_put" R_law_put) (c_law_bound : CalP P w K mg base n "_law_bound" R_law_bound) (c_law_at : CalP P w K mg base n "_law_at" R_law_at) (c_law_heard : CalT P w K mg base n "_law_heard" R_law_heard)
    (hR : t_law R_law_names_of R_law_take R_law_any R_law_deepened R_law_addresses Raddresses R_law_alike R_law_places R_law_put R_law_bound R_law_at R_law_heard endLaw (.un :: .dat .bag :: List.replicate 14 .un)) : FnG P w K mg base CX0 (n + 1) f fd ["_law_script"] (spLaw K) :=
  Fun.okLaw Fn sc_law rfl rfl ⟨_, fun cdv A outer s H E hr hg => ⟨s_bag0 ⟨cbag.ex⟩ hr hg sc_law.nd rfl (Or.inl rfl) rfl rfl, fun G H' pn =>
      (s_cons (s_for (t := (.nm 2)) PassesOwn.never rfl (i_rng1 rfl z_range (a_cons d_int a_nil)) (pg_name (i := 2) sc_law.nd rfl (Or.inl rfl)) (fun _ => (s_cons (s_set (i := 3) sc_law.nd rfl (Or.inl rfl) (d_call ⟨c_law_names_of.ex⟩ hr hg rfl (a_cons (d_name 1) (a_cons d_int a_nil))))
      (s_cons (s_set (i := 4) sc_law.nd rfl (Or.inr rfl) (d_call ⟨c_law_deepened.ex⟩ hr hg rfl (a_cons (d_name 1) (a_cons (d_name 3) (a_cons (d_call ⟨c_law_any.ex⟩ hr hg rfl (a_cons (d_name 1) (a_cons (d_name 3) (a_cons (d_add d_int (d_call ⟨c_law_take.ex⟩ hr hg rfl (a_cons (d_name 1) (a_cons d_int a_nil)))) a_nil)))) a_nil)))))
      (s_cons (s_set (i := 5) sc_law.nd rfl (Or.inr rfl) (d_call ⟨c_law_any.ex⟩ hr hg rfl (a_cons (d_name 1) (a_cons (d_name 3) (a_cons d_int a_nil)))))
      (s_cons (s_set (i := 6) sc_law.nd rfl (Or.inl rfl) (d_of (f_sortE hr rfl z_sorted (a_cons (d_call ⟨c_law_addresses.ex⟩ hr hg rfl (a_cons (d_name 4) a_nil)) a_nil))))
      (s_cons (s_for (t := (.nm 7)) PassesOwn.never rfl (i_rng1 rfl z_range (a_cons d_int a_nil)) (pg_name (i := 7) sc_law.nd rfl (Or.inl rfl)) (fun _ => (s_cons (s_newR (i := 8) sc_law.nd rfl (Or.inl rfl) (r_callT ⟨caddresses.ex⟩ hr hg rfl (a_cons (d_name 4) a_nil)))
      (s_cons (s_if (t_thru 8 (t_not (t_tru (d_call ⟨c_law_alike.ex⟩ hr hg rfl (a_cons (d_name 8) (a_cons (d_name 6) a_nil)))))) (s_one (s_ret d_bl)) s_nil)
      (s_one (s_app 8 (a_cons d_non a_nil) (pe_bm PySem.F.plainAttrs_list PySem.F.slot_list_append PySem.F.type_list_append mt_append (pv 8) (a_cons d_non a_nil))))))))
      (s_cons (s_for (t := (.nm 9)) PassesOwn.never rfl (i_seq (d_call ⟨c_law_places.ex⟩ hr hg rfl (a_cons (d_name 1) (a_cons (d_name 6) a_nil)))) (pg_name (i := 9) sc_law.nd rfl (Or.inr rfl)) (fun _ => (s_cons (s_set (i := 10) sc_law.nd rfl (Or.inl rfl) (d_and (d_isi (T' := "tuple") "tuple" rfl z_isinstance rfl z_tuple (by decide +kernel) (d_name 9)) (d_one (d_cmp (op_inA hr) ok_in (d_name 9) (d_name 6) (by rfl)))))
      (s_cons (s_set (i := 10) sc_law.nd rfl (Or.inl rfl) (d_and (d_name 10) (d_one (d_cmp (op_e0 hr) ok_e0 (d_of (f_lc (.nm 15) rfl sc_law.nd (i_seq (d_name 9)) bk_law_0 (fun _ _ _ _ _ => (pg_name (i := 15) sc_law.nd rfl (Or.inl rfl))) (fun _ _ _ _ _ _ => (ts_one (t_tru (d_isi (T' := "bool") "bool" rfl z_isinstance rfl z_bool (by decide +kernel) (d_name 15))))) (fun _ _ _ _ _ _ => (d_name 15)))) (d_of (f_lst a_nil)) (nomark _)))))
      (s_cons (s_set (i := 11) sc_law.nd rfl (Or.inl rfl) (d_mul (d_of (f_lst (a_cons (d_tup (a_cons d_str (a_cons (d_name 9) a_nil))) a_nil))) d_int))
      (s_cons (s_if (t_tru (d_name 10)) (s_cons (s_set (i := 12) sc_law.nd rfl (Or.inl rfl) (d_of (f_lst (a_cons (d_call ⟨c_law_at.ex⟩ hr hg rfl (a_cons (d_name 4) (a_cons (d_name 9) a_nil))) (a_cons (d_call ⟨c_law_bound.ex⟩ hr hg rfl (a_cons (d_name 4) (a_cons (d_name 9) a_nil))) (a_cons (d_call ⟨c_law_put.ex⟩ hr hg rfl (a_cons (d_name 4) (a_cons (d_name 9) (a_cons (d_name 5) a_nil)))) a_nil))))))
      (s_one (s_setLc (i := 11) (.nm 15) rfl sc_law.nd rfl rfl (by rfl) (i_seq (d_name 12)) bk_law_1 (fun _ _ _ _ _ => (pg_name (i := 15) sc_law.nd rfl (Or.inl rfl))) (fun _ _ _ _ _ _ => ts_nil) (fun _ _ _ _ _ _ => (d_tup (a_cons d_str (a_cons (d_name 15) a_nil))))))) s_nil)
      (s_one (s_for (t := (.nm 7)) PassesOwn.never rfl (i_rng1 rfl z_range (a_cons d_int a_nil)) (pg_name (i := 7) sc_law.nd rfl (Or.inl rfl)) (fun _ => (s_cons (s_newLcR (i := 8) (.nm 13) rfl sc_law.nd rfl rfl (by rfl) (i_rng1 rfl z_range (a_cons d_int a_nil)) bk_law_2 (fun _ _ _ _ _ => (pg_name (i := 13) sc_law.nd rfl (Or.inl rfl))) (fun _ _ _ _ _ _ => (r_callT ⟨c_law_heard.ex⟩ hr hg rfl (a_cons (d_name 13) (a_cons (d_name 4) (a_cons (d_name 9) (a_cons (d_name 5) a_nil)))))))
      (s_cons (s_if (t_thru 8 (t_not (t_tru (d_call ⟨c_law_alike.ex⟩ hr hg rfl (a_cons (d_name 8) (a_cons (d_name 11) a_nil)))))) (s_one (s_ret d_bl)) s_nil)
      (s_one (s_if (t_tru (d_name 10)) (s_one (s_appIx2 8 (pe_bm PySem.F.plainAttrs_list PySem.F.slot_list_append PySem.F.type_list_append mt_append (pe_own2 8) (a_cons d_non a_nil)))) s_nil)))))))))))))
      (s_one (s_for (t := (.nm 13)) PassesOwn.never rfl (i_rng1 rfl z_range (a_cons d_int a_nil)) (pg_name (i := 13) sc_law.nd rfl (Or.inl rfl)) (fun _ => (s_cons (s_new (i := 14) sc_law.nd rfl (Or.inl rfl) (f_lst (a_cons d_int a_nil)))
      (ss_io 14 (s_cons (s_newR (i := 8) sc_law.nd rfl (Or.inl rfl) (r_ptr 14 (r_callT ⟨c_law_heard.ex⟩ hr hg rfl (a_cons (d_name 13) (a_cons (d_name 4) (a_cons (d_name 14) (a_cons (d_name 5) a_nil)))))))
      (ss_frz 8 (s_cons (s_appX 14 (a_cons d_int a_nil) (pe_bm PySem.F.plainAttrs_list PySem.F.slot_list_append PySem.F.type_list_append mt_append (pv 14) (a_cons d_int a_nil)))
      (s_one (s_if (t_ptr 14 8 (t_cmp (op_neA hr) ok_ne (d_name 8) (d_tup (a_cons d_str (a_cons (d_of (f_lst (a_cons d_int (a_cons d_int a_nil)))) a_nil))) (nomark _))) (s_one (s_ret d_bl)) s_nil))))))))))))))))))
      (s_one (s_ret d_bl)))⟩, hR⟩
end
end K13
set_option Elab.async false
set_option linter.all false
set_option maxRecDepth 100000
set_option maxHeartbeats 4000000
namespace K13
open PySem L2 DL
local macro_rules | `(tactic| walk_at "dl") => do
  let l ← (("Tr.toD toDs_d map_snoc map_ins treeT seqT iffT setT retT nextT retN blT DL.binT nameT cT bagT cutBT putBT augBT consA nilA callT ofF lstF lstR tupT eqD neD inD notInD someO noneO slT revF endD enterS ifT andT orT notT andB orB notB truT newT mT thruT thruB frzT putT parT tgtT methT onT isStr isLst getT starA negT dropT breakT contT tgD putA seqI rng1I enumI zipI forT lcF wipeS addD_ii addD_ib addD_ss addD_ll addD_tt subD_ii mulD_ii mulD_li fdivD_ii modD_ii cmpI_ii eqB_ss eqB_ii eqB_bb eqB_tt eqB_ll inB_l inB_t ixD_l ixD_t ixD_s slD_l slD_t truD_b truD_i truD_n truD_s truD_l truD_t intR_i intR_b lenR_s lenR_l lenR_t absR_i minR_ii maxR_ii tupR_l tupR_t appD_1 insD_1 extD_1 splitM_1 optK_some atI_0 atI_1 atI_2 atI_3 atI_4 cutL_1 cutL_2 cutL_t1 cutL_t2 List.map_cons List.map_nil List.replicate_succ List.replicate_zero List.cons_append List.nil_append List.length_cons List.length_nil List.set_cons_zero List.set_cons_succ List.getElem?_cons_zero List.getElem?_cons_succ List.drop_succ_cons List.drop_zero List.take_succ_cons List.take_zero true_and and_true true_or or_true decide_eq_true_eq reduceCtorEq if_true if_false ite_true ite_false D.int.injEq Nat.reduceAdd Nat.reduceSub Int.reduceSub Int.reduceAdd Int.reduceNeg Bool.false_eq_true Bool.true_eq_false decide_true decide_false Bool.not_true Bool.not_false Bool.not_eq_true' decide_eq_false_iff_not".splitOn " ").toArray.mapM fun s => `(Lean.Parser.Tactic.simpLemma| $(Lean.mkIdent s.toName):ident) : Lean.MacroM _)
  `(tactic| simp only [$l,*])
noncomputable def R_take : RD := fun ds k => ∃ m : Int, ds = [.bag, .int m] ∧ 0 < m ∧ m < 2 ^ 30 ∧ ∀ i : Int, 0 ≤ i → i < m → k (.int i)
theorem p_take : ∀ ds κ, R_take ds κ → t_L_take (endD κ) (enterS 7 ds) := by
  rintro ds κ ⟨m, rfl, h0, h1, h⟩
  unfold t_L_take
  walk_at "dl"
  have hm : ∀ i : Int, κ (.int (i % m)) := fun i => h _ (Int.emod_nonneg _ (by omega)) (Int.emod_lt_of_pos _ h0)
  have cm : ∀ {a b : Int}, 0 ≤ b → b < 2 ^ 64 → CMul a b := fun h1 h2 => .inr ⟨by omega, h2⟩
  have cd : ∀ {a b c : Int}, 0 ≤ a → a < 2 ^ 64 → CMul a c := fun h1 h2 => .inl ⟨by omega, h2⟩
  have em : ∀ {a b : Int}, 0 < b → 0 ≤ a % b ∧ a % b < b := fun hb => ⟨Int.emod_nonneg _ (by omega), Int.emod_lt_of_pos _ hb⟩
  intro x hx
  split
  · intro y hy ns hns hl
    have hs : sizeLine = 16777216 := sizeLine_eq
    refine ⟨by omega, by rw [List.length_map]; omega, ?_⟩
    have hc : ∃ c : Int, 0 ≤ c ∧ L2.atI (List.map D.int ns ++ [D.int 0]) 0 = some (D.int c) := by
      cases ns with
      | nil => exact ⟨0, by omega, atI_0⟩
      | cons a ns => exact ⟨a, hns a List.mem_cons_self, atI_0⟩
    obtain ⟨c, hc, e⟩ := hc
    refine optK_of e ⟨1, by omega, rfl, ?_⟩
    walk_at "dl"
    have tl : ∀ (z u : Int), 0 ≤ z → (0 ≤ u) → CMul z 48271 ∧ CMul 7919 u := fun z u _ _ => ⟨cm (by omega) (by omega), .inl ⟨by omega, by omega⟩⟩
    split
    · refine ⟨c, hc, rfl, fun z hz => ⟨cm (by omega) (by omega), by omega, fun u hu => ⟨.inl ⟨by omega, by omega⟩, by omega, _, (em (by omega)).1, rfl, fun v hv => ?_⟩⟩⟩
      split
      · exact fun a ha => ⟨h0, fun b hb => ⟨⟨h0, by omega⟩, _, Int.ediv_nonneg hb (by omega), rfl, hm _⟩⟩
      · exact fun a ha => ⟨cm (by omega) (by omega), by omega, .inl ⟨by have := (em (a := (a + 1) * 39373) (b := 1000000007) (by omega)).1; omega, by have := (em (a := (a + 1) * 39373) (b := 1000000007) (by omega)).2; omega⟩, by omega, cm (by omega) (by omega), by omega, ⟨by omega, by omega⟩, h0, hm _⟩
    · refine fun z hz => ⟨cm (by omega) (by omega), by omega, fun u hu => ⟨.inl ⟨by omega, by omega⟩, by omega, _, (em (by omega)).1, rfl, fun v hv => ?_⟩⟩
      split
      · exact fun a ha => ⟨h0, fun b hb => ⟨⟨h0, by omega⟩, _, Int.ediv_nonneg hb (by omega), rfl, hm _⟩⟩
      · exact fun a ha => ⟨cm (by omega) (by omega), by omega, .inl ⟨by have := (em (a := (a + 1) * 39373) (b := 1000000007) (by omega)).1; omega, by have := (em (a := (a + 1) * 39373) (b := 1000000007) (by omega)).2; omega⟩, by omega, cm (by omega) (by omega), by omega, ⟨by omega, by omega⟩, h0, hm _⟩
  · intro v hv
    split
    · exact fun a ha => ⟨h0, fun b hb => ⟨⟨h0, by omega⟩, _, Int.ediv_nonneg hb (by omega), rfl, hm _⟩⟩
    · exact fun a ha => ⟨cm (by omega) (by omega), by omega, .inl ⟨by have := (em (a := (a + 1) * 39373) (b := 1000000007) (by omega)).1; omega, by have := (em (a := (a + 1) * 39373) (b := 1000000007) (by omega)).2; omega⟩, by omega, cm (by omega) (by omega), by omega, ⟨by omega, by omega⟩, h0, hm _⟩
/-! ### draws -/
noncomputable def R_some : RD := fun ds k => (∃ xs, ds = [.bag, .lst xs] ∧ xs ≠ [] ∧ xs.length < 2 ^ 20 ∧ ∀ x ∈ xs, k x) ∨ ∃ z : Str, ds = [.bag, .str z] ∧ 0 < z.length ∧ z.length < 2 ^ 20 ∧ ∀ c ∈ z.cps.toList, k (.str ⟨#[c]⟩)
theorem p_some : ∀ ds κ, R_some ds κ → t_L_some R_take (endD κ) (enterS 2 ds) := by
  have hs : sizeLine = 16777216 := sizeLine_eq
  rintro ds κ (⟨xs, rfl, hn, hl, h⟩ | ⟨z, rfl, hn, hl, h⟩)
  · unfold t_L_some
    walk_at "dl"
    have hp : 0 < xs.length := List.length_pos_iff.mpr hn
    refine ⟨_, rfl, by omega, by omega, fun i h0 h1 => ?_⟩
    walk_at "dl"
    obtain ⟨c, e1, e2⟩ := atI_lt h0 h1
    exact optK_of e1 (h c (List.mem_of_getElem? e2))
  · unfold t_L_some
    walk_at "dl"
    refine ⟨by omega, _, rfl, by omega, by omega, fun i h0 h1 => ?_⟩
    walk_at "dl"
    have h2 : i < z.cps.toList.length := h1
    obtain ⟨c, e1, e2⟩ := atI_lt h0 h2
    exact ⟨by omega, optK_of e1 (h c (List.mem_of_getElem? e2))⟩
/-- some order of what is there -/
noncomputable def R_mixed (n : Nat) : RD := fun ds k => ∃ xs, (ds = [.bag, .lst xs] ∨ ds = [.bag, .tup xs]) ∧ xs.length ≤ n ∧ ∀ ys : List D, (∀ y, y ∈ ys ↔ y ∈ xs) → ys.length = xs.length → k (.lst ys)
theorem p_mixed {n : Nat} (hn : n < 2 ^ 20) : ∀ ds κ, R_mixed n ds κ → t_L_mixed R_take (endD κ) (enterS 4 ds) := by
  have hs : sizeLine = 16777216 := sizeLine_eq
  rintro ds κ ⟨xs, hd, hl, h⟩
  have go : ∀ s0 : D, (s0 = .lst xs ∨ s0 = .tup xs) → t_L_mixed R_take (endD κ) (enterS 4 [.bag, s0]) := by
    intro s0 hs0
    unfold t_L_mixed
    walk_at "dl"
    refine ⟨by omega, ?_⟩
    have main : loopT (.nm 3) (mT 2 insD (consA (thruT 2 (callT R_take (consA (nameT 0) (consA (DL.binT addD (callT lenR (consA (nameT 2) nilA)) (cT (.int 1))) nilA)))) (consA (nameT 3) nilA)))
        { nx := frzT 2 (retT (nameT 2)) (endD κ), rt := (endD κ).rt, bk := (endD κ).bk, ct := (endD κ).ct } xs [.dat .bag, .dat s0, .ml [], .un] := by
      refine loopT_ind (I := fun rest ρ => ∃ ys u, ρ = [.dat .bag, .dat s0, .ml ys, u] ∧ (∀ y, (y ∈ ys ∨ y ∈ rest) ↔ y ∈ xs) ∧ ys.length + rest.length = xs.length) ?_ ?_ ⟨[], .un, rfl, fun y => by simp, by simp⟩
      · rintro ρ ⟨ys, u, rfl, h1, h2⟩
        walk_at "dl"
        exact h ys (fun y => by rw [← h1 y]; simp) (by simpa using h2)
      · rintro d rest ρ N hN ⟨ys, u, rfl, h1, h2⟩
        rw [List.length_cons] at h2
        walk_at "dl"
        refine ⟨_, rfl, by omega, by omega, fun i h3 h4 => ⟨rfl, ?_⟩⟩
        walk_at "dl"
        refine ⟨by rw [List.length_map]; omega, h3, by omega, hN _ ⟨_, _, rfl, fun y => ?_, by simp [List.length_take, List.length_drop]; omega⟩⟩
        rw [← h1 y]
        have e : ys = ys.take i.toNat ++ ys.drop i.toNat := (List.take_append_drop _ _).symm
        have e2 : y ∈ ys ↔ y ∈ ys.take i.toNat ∨ y ∈ ys.drop i.toNat := by
          constructor
          · intro hy; rw [e] at hy; exact List.mem_append.mp hy
          · intro hy; rw [e]; exact List.mem_append.mpr hy
        rw [e2]
        simp only [List.mem_append, List.mem_cons, List.not_mem_nil, or_false]
        constructor
        · rintro (((a | b) | c) | d)
          · exact .inl (.inl a)
          · exact .inr (.inl b)
          · exact .inl (.inr c)
          · exact .inr (.inr d)
        · rintro ((a | b) | (c | d))
          · exact .inl (.inl (.inl a))
          · exact .inl (.inr b)
          · exact .inl (.inl (.inr c))
          · exact .inr d
    rcases hs0 with rfl | rfl <;> exact main
  rcases hd with rfl | rfl
  · exact go _ (.inl rfl)
  · exact go _ (.inr rfl)
/-! ### words -/
noncomputable def lowc (c : Nat) : Bool := decide (97 ≤ c) && decide (c < 123)
noncomputable def wOk (w : Str) : Bool := w.cps.all lowc && (decide (w.length ≤ 8) && decide (0 < w.length))
theorem low_asc {w : Str} (h : w.cps.all lowc = true) : w.cps.all (· < 128) = true := by
  rw [Array.all_eq_true] at h ⊢
  intro i hi
  have := h i hi
  simp only [lowc, Bool.and_eq_true, decide_eq_true_eq] at this ⊢
  omega
theorem asc_ok {w : Str} (h : w.cps.all (· < 128) = true) : PyData.strOk w = true := by
  unfold PyData.strOk
  rw [Array.all_eq_true] at h ⊢
  intro i hi
  have := h i hi
  simp only [decide_eq_true_eq] at this ⊢
  omega
theorem wOk_str {w : Str} (h : wOk w = true) : PyData.strOk w = true := by
  unfold wOk at h
  rw [Bool.and_eq_true] at h
  exact asc_ok (low_asc h.1)
noncomputable abbrev Good (ws : List Str) : Prop := ∀ w ∈ ws, wOk w = true
theorem lay_strs : ∀ ws : List Str, Good ws → PyData.canLayAll0 (D.pys (ws.map .str)) = true
  | [], _ => by simp [D.pys, PyData.canLayAll0]
  | w :: ws, h => by simp [D.pys, D.py, PyData.canLayAll0, PyData.canLay0, lay_strs ws fun z hz => h z (List.mem_cons_of_mem _ hz), wOk_str (h w List.mem_cons_self)]
theorem in_strs {x : Str} {ws : List Str} (hx : wOk x = true) (h : Good ws) : inOk (.str x) (ws.map .str) := ⟨by simp [D.py, PyData.canLay0, wOk_str hx], lay_strs ws h, by simp [D.py, PyData.depth]⟩
theorem any_strs (x : Str) : ∀ l : List Str, ((l.map D.str).any fun z => z.py.eqv (.str x)) = decide (x ∈ l)
  | [] => by simp
  | y :: l => by
    rw [List.map_cons, List.any_cons, any_strs x l]
    simp only [D.py, PyData.eqv, List.mem_cons]
    by_cases e : y = x
    · subst e; simp
    · have e' : ¬ x = y := fun z => e z.symm
      simp [e, e']
noncomputable def addS (xs : List Str) (x : Str) : List Str := if x ∈ xs then xs else xs ++ [x]
theorem addS_mem {xs : List Str} {x y : Str} : y ∈ addS xs x ↔ y ∈ xs ∨ y = x := by
  unfold addS
  split
  · constructor
    · exact .inl
    · rintro (h | rfl)
      · exact h
      · assumption
  · simp
theorem addS_len (xs : List Str) (x : Str) : (addS xs x).length ≤ xs.length + 1 := by
  unfold addS
  split
  · omega
  · simp
theorem addS_ne (xs : List Str) (x : Str) : addS xs x ≠ [] := fun e => by
  have : x ∈ addS xs x := addS_mem.mpr (.inr rfl)
  rw [e] at this; cases this
theorem addS_good {xs : List Str} {x : Str} (h : Good xs) (hx : wOk x = true) : Good (addS xs x) := fun w hw => by
  rcases addS_mem.mp hw with z | rfl
  · exact h w z
  · exact hx
/-- found + [word] * int(word not in found) -/
theorem grows {x : Str} {ws : List Str} {κ : D → Prop} (B : Bool) (hB : B = decide (x ∈ ws)) (h : κ (.lst ((addS ws x).map .str))) (hl : ws.length < 2 ^ 20) :
    ((-2 ^ 63 ≤ if B = false then (1 : Int) else 0) ∧ (if B = false then (1 : Int) else 0) < 2 ^ 63) ∧ 1 * (if B = false then (1 : Int) else 0).toNat ≤ sizeLine ∧
      (ws.map D.str).length + (List.replicate (if B = false then (1 : Int) else 0).toNat [D.str x]).flatten.length ≤ sizeLine ∧ κ (.lst (ws.map .str ++ (List.replicate (if B = false then (1 : Int) else 0).toNat [D.str x]).flatten)) := by
  have hs : sizeLine = 16777216 := sizeLine_eq
  subst hB
  unfold addS at h
  by_cases q : x ∈ ws
  · rw [if_pos q] at h
    rw [decide_eq_true q]
    have e : ws.map D.str ++ (List.replicate (if true = false then (1 : Int) else 0).toNat [D.str x]).flatten = ws.map .str := by simp
    rw [e]
    exact ⟨by simp, by simp, by simp; omega, h⟩
  · rw [if_neg q] at h
    rw [decide_eq_false q]
    have e : ws.map D.str ++ (List.replicate (if false = false then (1 : Int) else 0).toNat [D.str x]).flatten = (ws ++ [x]).map .str := by rw [List.map_append]; rfl
    rw [e]
    exact ⟨by simp, by simp; omega, by simp; omega, h⟩
noncomputable def R_words : RD := fun ds k => ∃ m : Nat, ds = [.bag, .int m] ∧ 1 ≤ m ∧ m ≤ 14 ∧ ∀ ws : List Str, Good ws → ws.Nodup → ws.length = m → k (.lst (ws.map .str))
noncomputable abbrev wordsText : Str := "name given work if with call leaf test worth place there code up of one a aa b zzzzzzzz"
theorem words_len : (Txt.split wordsText " ").length = 19 := by decide +kernel
theorem words_ok : (Txt.split wordsText " ").all wOk = true := by decide +kernel
theorem words_nd : ∀ a : Fin 19, (((Txt.split wordsText " ") ++ (Txt.split wordsText " ")).drop a).take 19 |>.Nodup := by decide +kernel
theorem p_words : ∀ ds κ, R_words ds κ → t_L_words R_take (R_mixed 16) (endD κ) (enterS 6 ds) := by
  have hs : sizeLine = 16777216 := sizeLine_eq
  rintro ds κ ⟨m, rfl, h1, h3, h⟩
  unfold t_L_words
  walk_at "dl"
  refine ⟨⟨by decide +kernel, by decide +kernel⟩, _, rfl, by omega, by omega, fun i i0 i1 => ⟨by omega, ?_⟩⟩
  have wl := words_len
  have wo : Good (Txt.split wordsText " ") := List.all_eq_true.mp words_ok
  have wn := words_nd
  generalize hW : Txt.split _ _ = W at wl wo wn ⊢
  refine ⟨by simp only [List.length_map, wl]; omega, ?_⟩
  walk_at "dl"
  obtain ⟨a, rfl⟩ : ∃ a : Nat, i = a := ⟨i.toNat, by omega⟩
  have e2 : ((a : Int) + (m : Int) + 2) = ((a + m + 2 : Nat) : Int) := by omega
  rw [e2, cutL_r, ← List.map_append, ← List.map_drop, ← List.map_take]
  generalize hV : List.take _ _ = V
  have hl : V.length = m + 2 := by
    rw [← hV, List.length_take, List.length_drop, List.length_append, wl]; omega
  have vo : Good V := fun v hv => by
    rw [← hV] at hv
    rcases List.mem_append.mp (List.mem_of_mem_drop (List.mem_of_mem_take hv)) with q | q <;> exact wo v q
  have vn : V.Nodup := by
    have q := wn ⟨a, by omega⟩
    have e : V = (((W ++ W).drop a).take 19).take (m + 2) := by
      rw [← hV, List.take_take]
      congr 1
      omega
    rw [e]
    exact q.sublist (List.take_sublist _ _)
  refine ⟨_, .inl rfl, by rw [List.length_map, hl]; omega, fun ys hy hyl => ?_⟩
  have hys : ∃ us : List Str, ys = us.map .str ∧ ∀ u ∈ us, u ∈ V := by
    have : ∀ ys : List D, (∀ y ∈ ys, y ∈ V.map D.str) → ∃ us : List Str, ys = us.map .str ∧ ∀ u ∈ us, u ∈ V := by
      intro ys
      induction ys with
      | nil => exact fun _ => ⟨[], rfl, fun _ z => nomatch z⟩
      | cons y ys ih =>
        intro h
        obtain ⟨us, e, g⟩ := ih fun z hz => h z (List.mem_cons_of_mem _ hz)
        obtain ⟨x, hx, e'⟩ := List.mem_map.mp (h y List.mem_cons_self)
        refine ⟨x :: us, by rw [e, ← e']; rfl, fun z hz => ?_⟩
        rcases List.mem_cons.mp hz with rfl | hz
        · exact hx
        · exact g z hz
    exact this ys fun y h => (hy y).mp h
  obtain ⟨us, rfl, uV⟩ := hys
  have uo : Good us := fun u hu => vo u (uV u hu)
  rw [List.length_map, List.length_map, hl] at hyl
  have un : us.Nodup := by
    have p : us.Perm V := (DMS.perm_of vn (fun x hx => by
      have := (hy (.str x)).mpr (List.mem_map.mpr ⟨x, hx, rfl⟩)
      obtain ⟨z, hz, e⟩ := List.mem_map.mp this
      cases e; exact hz) (by omega))
    exact p.symm.nodup vn
  walk_at "dl"
  refine loopT_ind (I := fun rest ρ => ∃ (ws us : List Str) (p q u : Sl), rest = us.map .str ∧ ρ = [.dat .bag, .dat (.int m), p, q, .dat (.lst (ws.map .str)), u] ∧ Good ws ∧ Good us ∧ (ws ++ us).Nodup ∧ ws.length + us.length = m + 2) ?_ ?_ ⟨[], us, _, _, _, rfl, rfl, (fun _ z => nomatch z), uo, by simpa using un, by simp; omega⟩
  · rintro ρ ⟨ws, us, p, q, u, e1, rfl, g1, g2, hne, hle⟩
    walk_at "dl"
    rw [cutL_to, ← List.map_take]
    have hu : us = [] := by cases us with
      | nil => rfl
      | cons a l => cases e1
    subst hu
    rw [List.append_nil] at hne
    rw [List.length_nil] at hle
    exact h _ (fun z hz => g1 z (List.mem_of_mem_take hz)) (hne.sublist (List.take_sublist _ _)) (by rw [List.length_take]; omega)
  · rintro d rest ρ N hN ⟨ws, us, p, q, u, e1, rfl, g1, g2, hne, hle⟩
    cases us with
    | nil => cases e1
    | cons x us =>
      obtain ⟨rfl, rfl⟩ := List.cons.inj e1
      rw [List.length_cons] at hle
      have hx : x ∉ ws := fun z => (List.nodup_append.mp hne).2.2 x z x List.mem_cons_self rfl
      have ex : addS ws x = ws ++ [x] := if_neg hx
      walk_at "dl"
      refine ⟨by omega, in_strs (g2 x List.mem_cons_self) g1, grows (κ := fun d => N [.dat .bag, .dat (.int m), p, q, .dat d, .dat (.str x)]) _ (any_strs x ws) ?_ (by omega)⟩
      refine hN _ ⟨addS ws x, us, p, q, _, rfl, rfl, addS_good g1 (g2 x List.mem_cons_self), fun z hz => g2 z (List.mem_cons_of_mem _ hz), ?_, ?_⟩
      · rw [ex, List.append_assoc]; exact hne
      · rw [ex, List.length_append, List.length_singleton]; omega
/-! ### names -/
theorem join_ok : ∀ ys : List Str, (∀ y ∈ ys, y.cps.all lowc = true ∧ y.length = 1) → (Str.join "" ys).cps.all lowc = true ∧ (Str.join "" ys).length = ys.length
  | [], _ => by decide +kernel
  | [x], h => ⟨(h x List.mem_cons_self).1, (h x List.mem_cons_self).2⟩
  | x :: y :: rest, h => by
    have ih := join_ok (y :: rest) fun z hz => h z (List.mem_cons_of_mem _ hz)
    have hx := h x List.mem_cons_self
    have e : Str.join "" (x :: y :: rest) = x ++ ("" : Str) ++ Str.join "" (y :: rest) := rfl
    rw [e]
    have c : (x ++ ("" : Str) ++ Str.join "" (y :: rest)).cps = x.cps ++ (Str.join "" (y :: rest)).cps := by
      show x.cps ++ #[] ++ _ = _
      rw [Array.append_empty]
    refine ⟨by rw [c, Array.all_append, hx.1, ih.1]; rfl, ?_⟩
    show (x ++ ("" : Str) ++ Str.join "" (y :: rest)).cps.size = _
    rw [c, Array.size_append]
    have h1 : x.cps.size = 1 := hx.2
    have h2 : (Str.join "" (y :: rest)).cps.size = (y :: rest).length := ih.2
    rw [h1, h2]; simp only [List.length_cons]; omega
theorem strs_out {P : Str → Prop} {ds es : List D} (h : All2 (fun _ e => ∃ c : Str, e = .str c ∧ P c) ds es) : ∃ cs : List Str, es = cs.map .str ∧ cs.length = ds.length ∧ ∀ c ∈ cs, P c := by
  induction h with
  | nil => exact ⟨[], rfl, rfl, fun _ z => nomatch z⟩
  | cons hr _ ih =>
    obtain ⟨c, rfl, hc⟩ := hr
    obtain ⟨cs, rfl, hl, hp⟩ := ih
    refine ⟨c :: cs, rfl, by simp [hl], fun d hd => ?_⟩
    rcases List.mem_cons.mp hd with rfl | hd
    · exact hc
    · exact hp d hd
noncomputable abbrev letters : Str := "abcdefghijklmnopqrstuvwxyz"
theorem letters_ok : letters.cps.toList.all lowc = true := by decide +kernel
theorem letters_len : letters.length = 26 := by decide +kernel
noncomputable def R_names : RD := fun ds k => ∃ m : Nat, ds = [.bag, .int m] ∧ 1 ≤ m ∧ m ≤ 5 ∧ ∀ ws : List Str, Good ws → ws ≠ [] → ws.length ≤ m → k (.lst (ws.map .str))
theorem p_names : ∀ ds κ, R_names ds κ → t_L_names_of R_take R_words R_some (endD κ) (enterS 7 ds) := by
  have hs : sizeLine = 16777216 := sizeLine_eq
  rintro ds κ ⟨m, rfl, h1, h3, h⟩
  unfold t_L_names_of
  generalize hB : (seqT (setT 5 (methT joinM _ _)) _ : TSD) = body
  walk_at "dl"
  refine ⟨_, rfl, by omega, by omega, fun i i0 i1 => ?_⟩
  walk_at "dl"
  split
  · exact ⟨m, rfl, h1, by omega, fun ws g n l => h ws g (fun e => by rw [e] at l; simp at l; omega) (by omega)⟩
  · refine ⟨by omega, by omega, ⟨by omega, by omega⟩, ?_⟩
    obtain ⟨b, hb0⟩ : ∃ b : Nat, b = m := ⟨m, rfl⟩
    subst hb0
    refine loopT_ind (I := fun rest ρ => ∃ (ws : List Str) (u v w : Sl), ρ = [.dat .bag, .dat (.int b), .dat (.str letters), .dat (.lst (ws.map .str)), u, v, w] ∧ Good ws ∧ (rest.length < b + 3 → ws ≠ []) ∧ ws.length + rest.length ≤ b + 3) ?_ ?_ ⟨[], _, _, _, rfl, (fun _ z => nomatch z), (fun h => ?_), ?_⟩
    · rintro ρ ⟨ws, u, v, w, rfl, g, hne, hle⟩
      walk_at "dl"
      rw [cutL_to, ← List.map_take]
      have hn := hne (by simp)
      refine h _ (fun z hz => g z (List.mem_of_mem_take hz)) (fun e => ?_) (by rw [List.length_take]; omega)
      have := congrArg List.length e
      rw [List.length_take] at this
      have h0 : 0 < ws.length := List.length_pos_iff.mpr hn
      rw [List.length_nil] at this
      omega
    · rintro d rest ρ N hN ⟨ws, u, v, w, rfl, g, hne, hle⟩
      rw [List.length_cons] at hle
      subst hB
      walk_at "dl"
      refine ⟨_, rfl, by omega, by omega, fun p p0 p1 => ⟨_, rfl, by omega, by omega, fun q q0 q1 => ?_⟩⟩
      walk_at "dl"
      have pq : p * q ≤ 7 := by
        have : p = 0 ∨ p = 1 := by omega
        rcases this with rfl | rfl <;> omega
      have pq0 : 0 ≤ p * q := Int.mul_nonneg p0 q0
      refine ⟨.inr ⟨by omega, by omega⟩, ⟨by omega, by omega⟩, by rw [List.length_map, List.length_range]; omega, ?_⟩
      refine compT_ind (R := fun _ e => ∃ c : Str, e = .str c ∧ (c.cps.all lowc = true ∧ c.length = 1)) (fun d' _ κ' k => ?_) fun es he => ?_
      · walk_at "dl"
        refine .inr ⟨letters, rfl, by rw [letters_len]; omega, by rw [letters_len]; omega, fun c hc => k _ ⟨_, rfl, ?_, rfl⟩⟩
        have := List.all_eq_true.mp letters_ok c hc
        simpa using this
      · obtain ⟨cs, rfl, cl, cp⟩ := strs_out he
        have cs1 : (cs.map (·.length)).sum = cs.length := by
          have : ∀ cs : List Str, (∀ c ∈ cs, c.length = 1) → (cs.map (·.length)).sum = cs.length := by
            intro cs
            induction cs with
            | nil => intro _; rfl
            | cons a l ih => intro h; rw [List.map_cons, List.sum_cons, ih fun c hc => h c (List.mem_cons_of_mem _ hc), h a List.mem_cons_self, List.length_cons]; omega
          exact this cs fun c hc => (cp c hc).2
        rw [List.length_map, List.length_range] at cl
        rw [List.nil_append]
        refine ⟨cs, .inl rfl, ?_, by omega, ?_⟩
        · have e0 : ("" : Str).length = 0 := by decide +kernel
          rw [cs1, e0]; omega
        · have ok : wOk (Txt.join "" cs) = true := by
            rw [TL.join_eq]
            have := join_ok cs fun c hc => cp c hc
            unfold wOk
            rw [this.1, this.2, Bool.true_and, Bool.and_eq_true]
            exact ⟨decide_eq_true (by omega), decide_eq_true (by omega)⟩
          refine ⟨in_strs ok g, grows (κ := fun d' => N [.dat .bag, .dat (.int b), .dat (.str letters), .dat d', .dat d, .dat (.str (Txt.join "" cs)), w]) _ (any_strs _ ws) ?_ (by omega)⟩
          have := addS_len ws (Txt.join "" cs)
          exact hN _ ⟨addS ws (Txt.join "" cs), _, _, _, rfl, addS_good g ok, fun _ => addS_ne _ _, by omega⟩
    · rw [List.length_map, List.length_range] at h; omega
    · rw [List.length_map, List.length_range, List.length_nil]; omega
/-! ### codes -/
inductive Code where
  | nm (x : Str) | gv (i : Int) | ite (a b c d : Code) | wth (x : Str) (a b : Code) | app (w : Bool) (f : Str) (cs : List Code)
mutual
noncomputable def Code.toD : Code → D
  | .nm x => .tup [.str "name", .str x]
  | .gv i => .tup [.str "given", .int i]
  | .ite a b c d => .tup [.str "if", a.toD, b.toD, c.toD, d.toD]
  | .wth x a b => .tup [.str "with", .str x, a.toD, b.toD]
  | .app w f cs => .tup [.str (if w = true then "work" else "call"), .str f, .tup (Code.toDs cs)]
noncomputable def Code.toDs : List Code → List D
  | [] => []
  | c :: cs => c.toD :: Code.toDs cs
end
mutual
noncomputable def Code.size : Code → Nat
  | .nm _ => 1
  | .gv _ => 1
  | .ite a b c d => 1 + a.size + b.size + c.size + d.size
  | .wth _ a b => 1 + a.size + b.size
  | .app _ _ cs => 1 + Code.sizes cs
noncomputable def Code.sizes : List Code → Nat
  | [] => 0
  | c :: cs => c.size + Code.sizes cs
end
mutual
/-- its texts are good -/
noncomputable def Code.ok : Code → Prop
  | .nm x => wOk x = true
  | .gv i => 0 ≤ i ∧ i < 13
  | .ite a b c d => a.ok ∧ b.ok ∧ c.ok ∧ d.ok
  | .wth x a b => wOk x = true ∧ a.ok ∧ b.ok
  | .app _ f cs => wOk f = true ∧ Code.oks cs
noncomputable def Code.oks : List Code → Prop
  | [] => True
  | c :: cs => c.ok ∧ Code.oks cs
end
noncomputable def Code.kids : Code → List Code
  | .nm _ => []
  | .gv _ => []
  | .ite a b c d => [a, b, c, d]
  | .wth _ a b => [a, b]
  | .app _ _ cs => cs
theorem toDs_map : ∀ cs : List Code, Code.toDs cs = cs.map Code.toD
  | [] => by simp only [Code.toDs, List.map_nil]
  | c :: cs => by simp only [Code.toDs, List.map_cons, toDs_map cs]
theorem Code.size_pos (c : Code) : 0 < c.size := by cases c <;> simp only [Code.size] <;> omega
theorem sizes_mem : ∀ {cs : List Code} {c : Code}, c ∈ cs → c.size ≤ Code.sizes cs
  | d :: cs, c, h => by
    simp only [Code.sizes]
    rcases List.mem_cons.mp h with rfl | h
    · omega
    · have := sizes_mem h; omega
theorem sizes_len : ∀ cs : List Code, cs.length ≤ Code.sizes cs
  | [] => Nat.le_refl _
  | c :: cs => by
    have := sizes_len cs
    have := c.size_pos
    simp only [Code.sizes, List.length_cons]; omega
theorem kids_sizes (c : Code) : Code.sizes c.kids < c.size := by cases c <;> simp only [Code.kids, Code.sizes, Code.size] <;> omega
theorem oks_mem : ∀ {cs : List Code}, Code.oks cs → ∀ c ∈ cs, c.ok
  | d :: cs, h, c, hc => by
    simp only [Code.oks] at h
    rcases List.mem_cons.mp hc with rfl | hc
    · exact h.1
    · exact oks_mem h.2 c hc
theorem oks_of : ∀ {cs : List Code}, (∀ c ∈ cs, c.ok) → Code.oks cs
  | [], _ => by simp only [Code.oks]
  | c :: cs, h => by simp only [Code.oks]; exact ⟨h c List.mem_cons_self, oks_of fun d hd => h d (List.mem_cons_of_mem _ hd)⟩
theorem four {cs : List Code} {k : List Code → Prop} (h : cs.length = 4) (q : ∀ a b c d, cs = [a, b, c, d] → k [a, b, c, d]) : k cs := by
  match cs, h with
  | [a, b, c, d], _ => exact q a b c d rfl
mutual
/-- its texts are good, and its names are some words' -/
noncomputable def Code.okw (ws : List Str) : Code → Prop
  | .nm x => wOk x = true ∧ x ∈ ws
  | .gv i => 0 ≤ i ∧ i < 13
  | .ite a b c d => a.okw ws ∧ b.okw ws ∧ c.okw ws ∧ d.okw ws
  | .wth x a b => wOk x = true ∧ a.okw ws ∧ b.okw ws
  | .app _ f cs => wOk f = true ∧ Code.okws ws cs
noncomputable def Code.okws (ws : List Str) : List Code → Prop
  | [] => True
  | c :: cs => c.okw ws ∧ Code.okws ws cs
end
theorem okws_of {ws : List Str} : ∀ {cs : List Code}, (∀ c ∈ cs, c.okw ws) → Code.okws ws cs
  | [], _ => by simp only [Code.okws]
  | c :: cs, h => by simp only [Code.okws]; exact ⟨h c List.mem_cons_self, okws_of fun d hd => h d (List.mem_cons_of_mem _ hd)⟩
mutual
theorem okw_ok {ws : List Str} : ∀ c : Code, c.okw ws → c.ok
  | .nm x, h => by simp only [Code.okw] at h; simp only [Code.ok]; exact h.1
  | .gv i, h => by simp only [Code.okw] at h; simp only [Code.ok]; exact h
  | .ite a b c d, h => by simp only [Code.okw] at h; simp only [Code.ok]; exact ⟨okw_ok a h.1, okw_ok b h.2.1, okw_ok c h.2.2.1, okw_ok d h.2.2.2⟩
  | .wth x a b, h => by simp only [Code.okw] at h; simp only [Code.ok]; exact ⟨h.1, okw_ok a h.2.1, okw_ok b h.2.2⟩
  | .app w f cs, h => by simp only [Code.okw] at h; simp only [Code.ok]; exact ⟨h.1, okws_oks cs h.2⟩
theorem okws_oks {ws : List Str} : ∀ cs : List Code, Code.okws ws cs → Code.oks cs
  | [], _ => by simp only [Code.oks]
  | c :: cs, h => by simp only [Code.okws] at h; simp only [Code.oks]; exact ⟨okw_ok c h.1, okws_oks cs h.2⟩
end
/-! ### a code -/
noncomputable def R_any (n : Nat) : RD := fun ds k => ∃ (ws : List Str) (r : Int), ds = [.bag, .lst (ws.map .str), .int r] ∧ Good ws ∧ ws ≠ [] ∧ ws.length ≤ 10 ∧ 0 ≤ r ∧ r < n ∧ r ≤ 60 ∧ ∀ c : Code, c.okw ws → (c.size : Int) ≤ max r 1 → k c.toD
theorem sizes_le {b : Nat} : ∀ {cs : List Code}, (∀ c ∈ cs, c.size ≤ b) → Code.sizes cs ≤ cs.length * b
  | [], _ => by simp [Code.sizes]
  | c :: cs, h => by
    have h1 := sizes_le (cs := cs) fun d hd => h d (List.mem_cons_of_mem _ hd)
    have h2 := h c List.mem_cons_self
    simp only [Code.sizes, List.length_cons, Nat.succ_mul]
    omega
theorem codes_out {P : Code → Prop} {ds es : List D} (h : All2 (fun _ e => ∃ c : Code, e = c.toD ∧ P c) ds es) : ∃ cs, es = Code.toDs cs ∧ cs.length = ds.length ∧ ∀ c ∈ cs, P c := by
  induction h with
  | nil => exact ⟨[], by simp only [Code.toDs], rfl, fun _ z => nomatch z⟩
  | cons hr _ ih =>
    obtain ⟨c, rfl, hc⟩ := hr
    obtain ⟨cs, rfl, hl, hp⟩ := ih
    refine ⟨c :: cs, by simp only [Code.toDs], by simp [hl], fun d hd => ?_⟩
    rcases List.mem_cons.mp hd with rfl | hd
    · exact hc
    · exact hp d hd
/-- a call's result for each i in range(m) -/
theorem comp_any {n m : Nat} {te : TD} {P : Code → Prop} {ρ : List Sl} {i : Nat} {k : List D → Prop} (h : ∀ d κ', (∀ c : Code, P c → κ' c.toD) → te (ρ.set i (.dat d)) κ') (hk : ∀ cs : List Code, cs.length = m → (∀ c ∈ cs, P c) → k (Code.toDs cs)) :
    compT (.nm i) yesT te ρ ((List.range m).map fun i => D.int (i : Nat)) [] k := by
  refine compT_ind (R := fun _ e => ∃ c : Code, e = c.toD ∧ P c) (fun d _ κ' q => h d κ' fun c hc => q _ ⟨c, rfl, hc⟩) fun es he => ?_
  obtain ⟨cs, rfl, hl, hp⟩ := codes_out he
  exact hk cs (by simpa using hl) hp
theorem some_words {l : List Str} {κ : D → Prop} (hl : l.length < 2 ^ 20) (hn : l ≠ []) (h : ∀ w ∈ l, κ (.str w)) : R_some [.bag, .lst (l.map .str)] κ :=
  .inl ⟨_, rfl, by simpa using hn, by rw [List.length_map]; exact hl, fun d hd => by obtain ⟨w, hw', rfl⟩ := List.mem_map.mp hd; exact h w hw'⟩
theorem up_good : Good ["up", "of", "one"] := List.all_eq_true.mp (by decide +kernel : (["up", "of", "one"] : List Str).all wOk = true)
theorem p_any (n : Nat) : ∀ ds κ, R_any (n + 1) ds κ → t_L_any R_take R_some (R_any n) (endD κ) (enterS 8 ds) := by
  have hs : sizeLine = 16777216 := sizeLine_eq
  rintro ds κ ⟨ws, r, rfl, hw, hne, hwl, r0, rn, rz, h⟩
  unfold t_L_any
  have leaf : ∀ c : Code, c.okw ws → c.size = 1 → κ c.toD := fun c o s => h c o (by omega)
  have h1 : (6 ≤ sizeLine ∧ R_some [D.bag, D.lst [D.int 0, D.int 1, D.int 2, D.int 2, D.int 10, D.int 11]] fun d => 2 ≤ sizeLine ∧ κ (D.tup [D.str "given", d])) := by
    refine ⟨by omega, .inl ⟨_, rfl, by simp, by simp, fun d hd => ⟨by omega, ?_⟩⟩⟩
    simp only [List.mem_cons, List.not_mem_nil, or_false] at hd
    rcases hd with rfl | rfl | rfl | rfl | rfl | rfl <;> exact leaf (.gv _) (by simp only [Code.okw]; omega) rfl
  have h2 : R_some [D.bag, D.lst (List.map D.str ws)] fun d => 2 ≤ sizeLine ∧ κ (D.tup [D.str "name", d]) :=
    some_words (by omega) hne fun w hw' => ⟨by omega, leaf (.nm w) (by simp only [Code.okw]; exact ⟨hw w hw', hw'⟩) rfl⟩
  generalize hT : (seqT (setT 5 (callT minR _)) _ : TSD) = tl
  walk_at "dl"
  refine ⟨_, rfl, by omega, by omega, fun way w0 w1 => ?_⟩
  have h3 : ∀ ρ : List Sl, (∃ s, ρ = [.dat .bag, .dat (.lst (ws.map .str)), .dat (.int r), .dat (.int way), s, .un, .un, .un]) → 2 ≤ r → tl { nx := fun _ => κ .non, rt := fun t => κ t.toD, bk := fun _ => False, ct := fun _ => False } ρ := by
    rintro ρ ⟨s, rfl⟩ hr
    subst hT
    walk_at "dl"
    refine ⟨_, rfl, by omega, by omega, fun z z0 z1 => ?_⟩
    walk_at "dl"
    have go : ∀ m : Int, 0 < m → m < 2 ^ 10 → R_take [D.bag, D.int m] fun d => minR [d, D.int (r - 1)] fun d => (rng1I (fun _ k => k [d]) [] fun ds => ds.length ≤ sizeLine ∧
        compT (Tg.nm 7) yesT (callT (R_any n) (consA (nameT 0) (consA (nameT 1) (consA (DL.binT fdivD (DL.binT mulD (DL.binT subD (nameT 2) (cT (D.int 1))) (cT (D.int 3))) (DL.binT addD (DL.binT mulD (cT (D.int 3)) (nameT 5)) (callT intR (consA (DL.binT eqD (nameT 5) (cT (D.int 1))) nilA)))) nilA))))
          [.dat .bag, .dat (.lst (ws.map .str)), .dat (.int r), .dat (.int way), s, .dat d, .un, .un] ds [] fun ds => if way < 10 then
            3 ≤ sizeLine ∧ R_some [D.bag, D.lst [D.str "up", D.str "of", D.str "one"]] fun d => 3 ≤ sizeLine ∧ κ (D.tup [D.str "work", d, D.tup ds])
          else 3 ≤ sizeLine ∧ R_some [D.bag, D.lst [D.str "up", D.str "of", D.str "one"]] fun d => 3 ≤ sizeLine ∧ κ (D.tup [D.str "call", d, D.tup ds])) := by
      intro m m0 m1
      refine ⟨m, rfl, m0, by omega, fun j j0 j1 => ?_⟩
      walk_at "dl"
      generalize hq : (if r - 1 < j then r - 1 else j) = q
      have q0 : 0 ≤ q := by rw [← hq]; split <;> omega
      have q1 : q ≤ r - 1 := by rw [← hq]; split <;> omega
      have q2 : q < 2 ^ 10 := by rw [← hq]; split <;> omega
      obtain ⟨a, rfl⟩ : ∃ a : Nat, q = a := ⟨q.toNat, by omega⟩
      refine ⟨by omega, by simp; omega, ?_⟩
      rw [Int.toNat_natCast]
      -- the room of each
      have fin : ∀ cs : List Code, Code.okws ws cs → (Code.sizes cs : Int) ≤ r - 1 → cs.length = a → if way < 10 then
            3 ≤ sizeLine ∧ R_some [D.bag, D.lst [D.str "up", D.str "of", D.str "one"]] fun d => 3 ≤ sizeLine ∧ κ (D.tup [D.str "work", d, D.tup (Code.toDs cs)])
          else 3 ≤ sizeLine ∧ R_some [D.bag, D.lst [D.str "up", D.str "of", D.str "one"]] fun d => 3 ≤ sizeLine ∧ κ (D.tup [D.str "call", d, D.tup (Code.toDs cs)]) := by
        intro cs o sz l
        split
        · exact ⟨by omega, some_words (l := ["up", "of", "one"]) (by simp) (by simp) fun w hw' => ⟨by omega, h (.app true w cs) (by simp only [Code.okw]; exact ⟨up_good w hw', o⟩) (by simp only [Code.size]; omega)⟩⟩
        · exact ⟨by omega, some_words (l := ["up", "of", "one"]) (by simp) (by simp) fun w hw' => ⟨by omega, h (.app false w cs) (by simp only [Code.okw]; exact ⟨up_good w hw', o⟩) (by simp only [Code.size]; omega)⟩⟩
      by_cases a0 : a = 0
      · subst a0
        exact fin [] (by simp only [Code.okws]) (by simp only [Code.sizes]; omega) rfl
      · have bnd : ∃ x : Int, (r - 1) * 3 / (3 * (a : Int) + if ((a : Int) = 1) then 1 else 0) = x ∧ 0 ≤ x ∧ x < n ∧ x ≤ 60 ∧ ((a : Int) * max x 1 ≤ r - 1) := by
          by_cases a1 : a = 1
          · subst a1
            refine ⟨_, rfl, ?_⟩
            simp only [Int.cast_ofNat_Int, if_true]
            omega
          · rw [if_neg (by omega)]
            have ha : (0 : Int) < 3 * (a : Int) + 0 := by omega
            have e1 := Int.ediv_mul_le ((r - 1) * 3) (b := 3 * (a : Int) + 0) (by omega)
            have e2 : 0 ≤ (r - 1) * 3 / (3 * (a : Int) + 0) := Int.ediv_nonneg (by omega) (by omega)
            generalize (r - 1) * 3 / (3 * (a : Int) + 0) = x at e1 e2
            have e3 : x * (3 * (a : Int) + 0) = 3 * ((a : Int) * x) := by rw [Int.add_zero, Int.mul_left_comm, Int.mul_comm x]
            rw [e3] at e1
            have e4 : (a : Int) * x ≤ r - 1 := by omega
            have e5 : x ≤ (a : Int) * x := by
              have : (1 : Int) * x ≤ (a : Int) * x := Int.mul_le_mul_of_nonneg_right (by omega) e2
              omega
            refine ⟨x, rfl, e2, by omega, by omega, ?_⟩
            rcases Int.le_total x 1 with hx | hx
            · rw [Int.max_eq_right hx]; omega
            · rw [Int.max_eq_left hx]; exact e4
        obtain ⟨x, hx, x0, xn, x60, hsz⟩ := bnd
        refine comp_any (n := 0) (P := fun c => c.okw ws ∧ (c.size : Int) ≤ max x 1) (fun d κ' q => ?_) fun cs l p => fin cs (okws_of fun c hc => (p c hc).1) ?_ l
        · walk_at "dl"
          refine ⟨.inr ⟨by omega, by omega⟩, .inl ⟨by omega, by omega⟩, ⟨by split <;> omega, by split <;> omega⟩, ?_⟩
          rw [hx]
          exact ⟨ws, x, rfl, hw, hne, hwl, x0, xn, x60, fun c o sz => q c ⟨o, sz⟩⟩
        · obtain ⟨y, hy⟩ : ∃ y : Nat, max x 1 = y := ⟨(max x 1).toNat, by omega⟩
          rw [hy] at hsz p
          have := sizes_le (b := y) fun c hc => by have := (p c hc).2; omega
          rw [l] at this
          have e : ((a * y : Nat) : Int) = (a : Int) * (y : Int) := Int.natCast_mul a y
          omega
    split
    · exact go 13 (by omega) (by omega)
    · exact go 4 (by omega) (by omega)
  have h4 : r > 4 → (1 ≤ sizeLine ∧ (-2 ^ 62 ≤ (4 : Int) ∧ (4 : Int) < 2 ^ 62) ∧ (List.map (fun i => D.int (i : Nat)) (List.range (Int.toNat 4))).length ≤ sizeLine ∧
      compT (Tg.nm 7) yesT (callT (R_any n) (consA (nameT 0) (consA (nameT 1) (consA (DL.binT fdivD (DL.binT subD (nameT 2) (cT (D.int 1))) (cT (D.int 4))) nilA))))
        [Sl.dat D.bag, Sl.dat (D.lst (List.map D.str ws)), Sl.dat (D.int r), Sl.dat (D.int way), Sl.un, Sl.un, Sl.un, Sl.un]
        (List.map (fun i => D.int (i : Nat)) (List.range (Int.toNat 4))) [] fun ds => 1 + ds.length ≤ sizeLine ∧ κ (D.tup (D.str "if" :: ds))) := by
    intro hr
    refine ⟨by omega, by omega, by simp; omega, comp_any (n := 0) (m := 4) (P := fun c => c.okw ws ∧ (c.size : Int) ≤ (r - 1) / 4) (fun d κ' q => ?_) fun cs l p => ?_⟩
    · walk_at "dl"
      exact ⟨⟨by omega, by omega⟩, ws, _, rfl, hw, hne, hwl, by omega, by omega, by omega, fun c o sz => q c ⟨o, by omega⟩⟩
    · refine four (k := fun cs => 1 + (Code.toDs cs).length ≤ sizeLine ∧ κ (D.tup (D.str "if" :: Code.toDs cs))) l fun a b c d e => ?_
      subst e
      have pa := p a (by simp)
      have pb := p b (by simp)
      have pc := p c (by simp)
      have pd := p d (by simp)
      exact ⟨by simp only [Code.toDs, List.length_cons, List.length_nil]; omega, h (.ite a b c d) (by simp only [Code.okw]; exact ⟨pa.1, pb.1, pc.1, pd.1⟩) (by simp only [Code.size]; omega)⟩
  have h5 : r > 2 → R_some [D.bag, D.lst (List.map D.str ws)] fun d => CDiv (r - 1) 3 ∧ R_any n [D.bag, D.lst (List.map D.str ws), D.int ((r - 1) / 3)] fun d_1 => CMul (r - 1) 2 ∧ CDiv ((r - 1) * 2) 3 ∧
      R_any n [D.bag, D.lst (List.map D.str ws), D.int ((r - 1) * 2 / 3)] fun d_2 => 4 ≤ sizeLine ∧ κ (D.tup [D.str "with", d, d_1, d_2]) := by
    intro hr
    refine some_words (by omega) hne fun w hw' => ⟨⟨by omega, by omega⟩, ws, _, rfl, hw, hne, hwl, by omega, by omega, by omega, fun c o sz => ⟨.inr ⟨by omega, by omega⟩, ⟨by omega, by omega⟩, ws, _, rfl, hw, hne, hwl, by omega, by omega, by omega, fun c' o' sz' => ⟨by omega, ?_⟩⟩⟩
    exact h (.wth w c c') (by simp only [Code.okw]; exact ⟨hw w hw', o, o'⟩) (by simp only [Code.size]; omega)
  walk_at "dl"
  repeat' split
  all_goals first | exact h1 | exact h2 | exact h4 (by omega) | exact h5 (by omega) | exact h3 _ ⟨_, rfl⟩ (by omega)
mutual
theorem Code.flat : ∀ c : Code, c.toD.flat = true
  | .nm _ => by simp [Code.toD, D.flat, D.flats]
  | .gv _ => by simp [Code.toD, D.flat, D.flats]
  | .ite a b c d => by simp [Code.toD, D.flat, D.flats, a.flat, b.flat, c.flat, d.flat]
  | .wth x a b => by simp [Code.toD, D.flat, D.flats, a.flat, b.flat]
  | .app w f cs => by simp [Code.toD, D.flat, D.flats, Code.flats cs]
theorem Code.flats : ∀ cs : List Code, D.flats (Code.toDs cs) = true
  | [] => by simp [Code.toDs, D.flats]
  | c :: cs => by simp [Code.toDs, D.flats, c.flat, Code.flats cs]
end
theorem q_name_given : ((("name" : Str) = ("given" : Str)) = False) := eq_false (by decide +kernel)
theorem q_name_if : ((("name" : Str) = ("if" : Str)) = False) := eq_false (by decide +kernel)
theorem q_name_with : ((("name" : Str) = ("with" : Str)) = False) := eq_false (by decide +kernel)
theorem q_name_work : ((("name" : Str) = ("work" : Str)) = False) := eq_false (by decide +kernel)
theorem q_name_call : ((("name" : Str) = ("call" : Str)) = False) := eq_false (by decide +kernel)
theorem q_name_bound : ((("name" : Str) = ("bound" : Str)) = False) := eq_false (by decide +kernel)
theorem q_given_name : ((("given" : Str) = ("name" : Str)) = False) := eq_false (by decide +kernel)
theorem q_given_if : ((("given" : Str) = ("if" : Str)) = False) := eq_false (by decide +kernel)
theorem q_given_with : ((("given" : Str) = ("with" : Str)) = False) := eq_false (by decide +kernel)
theorem q_given_work : ((("given" : Str) = ("work" : Str)) = False) := eq_false (by decide +kernel)
theorem q_given_call : ((("given" : Str) = ("call" : Str)) = False) := eq_false (by decide +kernel)
theorem q_given_bound : ((("given" : Str) = ("bound" : Str)) = False) := eq_false (by decide +kernel)
theorem q_if_name : ((("if" : Str) = ("name" : Str)) = False) := eq_false (by decide +kernel)
theorem q_if_given : ((("if" : Str) = ("given" : Str)) = False) := eq_false (by decide +kernel)
theorem q_if_with : ((("if" : Str) = ("with" : Str)) = False) := eq_false (by decide +kernel)
theorem q_if_work : ((("if" : Str) = ("work" : Str)) = False) := eq_false (by decide +kernel)
theorem q_if_call : ((("if" : Str) = ("call" : Str)) = False) := eq_false (by decide +kernel)
theorem q_if_bound : ((("if" : Str) = ("bound" : Str)) = False) := eq_false (by decide +kernel)
theorem q_with_name : ((("with" : Str) = ("name" : Str)) = False) := eq_false (by decide +kernel)
theorem q_with_given : ((("with" : Str) = ("given" : Str)) = False) := eq_false (by decide +kernel)
theorem q_with_if : ((("with" : Str) = ("if" : Str)) = False) := eq_false (by decide +kernel)
theorem q_with_work : ((("with" : Str) = ("work" : Str)) = False) := eq_false (by decide +kernel)
theorem q_with_call : ((("with" : Str) = ("call" : Str)) = False) := eq_false (by decide +kernel)
theorem q_with_bound : ((("with" : Str) = ("bound" : Str)) = False) := eq_false (by decide +kernel)
theorem q_work_name : ((("work" : Str) = ("name" : Str)) = False) := eq_false (by decide +kernel)
theorem q_work_given : ((("work" : Str) = ("given" : Str)) = False) := eq_false (by decide +kernel)
theorem q_work_if : ((("work" : Str) = ("if" : Str)) = False) := eq_false (by decide +kernel)
theorem q_work_with : ((("work" : Str) = ("with" : Str)) = False) := eq_false (by decide +kernel)
theorem q_work_call : ((("work" : Str) = ("call" : Str)) = False) := eq_false (by decide +kernel)
theorem q_work_bound : ((("work" : Str) = ("bound" : Str)) = False) := eq_false (by decide +kernel)
theorem q_call_name : ((("call" : Str) = ("name" : Str)) = False) := eq_false (by decide +kernel)
theorem q_call_given : ((("call" : Str) = ("given" : Str)) = False) := eq_false (by decide +kernel)
theorem q_call_if : ((("call" : Str) = ("if" : Str)) = False) := eq_false (by decide +kernel)
theorem q_call_with : ((("call" : Str) = ("with" : Str)) = False) := eq_false (by decide +kernel)
theorem q_call_work : ((("call" : Str) = ("work" : Str)) = False) := eq_false (by decide +kernel)
theorem q_call_bound : ((("call" : Str) = ("bound" : Str)) = False) := eq_false (by decide +kernel)
theorem q_bound_name : ((("bound" : Str) = ("name" : Str)) = False) := eq_false (by decide +kernel)
theorem q_bound_given : ((("bound" : Str) = ("given" : Str)) = False) := eq_false (by decide +kernel)
theorem q_bound_if : ((("bound" : Str) = ("if" : Str)) = False) := eq_false (by decide +kernel)
theorem q_bound_with : ((("bound" : Str) = ("with" : Str)) = False) := eq_false (by decide +kernel)
theorem q_bound_work : ((("bound" : Str) = ("work" : Str)) = False) := eq_false (by decide +kernel)
theorem q_bound_call : ((("bound" : Str) = ("call" : Str)) = False) := eq_false (by decide +kernel)
theorem good2 : Good ["name", "given"] := List.all_eq_true.mp (by decide +kernel : (["name", "given"] : List Str).all wOk = true)
theorem in_name : inOk (.str "name") [.str "name", .str "given"] = True := eq_true (in_strs (ws := ["name", "given"]) (by decide +kernel) good2)
theorem in_given : inOk (.str "given") [.str "name", .str "given"] = True := eq_true (in_strs (ws := ["name", "given"]) (by decide +kernel) good2)
theorem in_if : inOk (.str "if") [.str "name", .str "given"] = True := eq_true (in_strs (ws := ["name", "given"]) (by decide +kernel) good2)
theorem in_with : inOk (.str "with") [.str "name", .str "given"] = True := eq_true (in_strs (ws := ["name", "given"]) (by decide +kernel) good2)
theorem in_work : inOk (.str "work") [.str "name", .str "given"] = True := eq_true (in_strs (ws := ["name", "given"]) (by decide +kernel) good2)
theorem in_call : inOk (.str "call") [.str "name", .str "given"] = True := eq_true (in_strs (ws := ["name", "given"]) (by decide +kernel) good2)
local macro_rules | `(tactic| walk_at "cd") => do
  let l ← (("Code.toD Code.toDs Code.kids List.any_cons List.any_nil D.py PyData.eqv beq_iff_eq Bool.or_false Bool.or_eq_true Bool.or_eq_false_iff or_false false_or q_name_given q_name_if q_name_with q_name_work q_name_call q_name_bound q_given_name q_given_if q_given_with q_given_work q_given_call q_given_bound q_if_name q_if_given q_if_with q_if_work q_if_call q_if_bound q_with_name q_with_given q_with_if q_with_work q_with_call q_with_bound q_work_name q_work_given q_work_if q_work_with q_work_call q_work_bound q_call_name q_call_given q_call_if q_call_with q_call_work q_call_bound q_bound_name q_bound_given q_bound_if q_bound_with q_bound_work q_bound_call in_name in_given in_if in_with in_work in_call".splitOn " ").toArray.mapM fun s => `(Lean.Parser.Tactic.simpLemma| $(Lean.mkIdent s.toName):ident) : Lean.MacroM _)
  `(tactic| simp only [$l,*])
noncomputable def R_in : RD := fun ds k => ∃ c : Code, ds = [c.toD] ∧ k (.tup (Code.toDs c.kids))
theorem p_in (t : TSD) (ht : t = t_codes_within ∨ t = t_L_inner) : ∀ ds κ, R_in ds κ → t (endD κ) (enterS 1 ds) := by
  have hs : sizeLine = 16777216 := sizeLine_eq
  have main : ∀ ds κ, R_in ds κ → t_codes_within (endD κ) (enterS 1 ds) := by
    rintro ds κ ⟨c, rfl, h⟩
    unfold t_codes_within
    have h2 : 2 ≤ sizeLine := by omega
    have h0 : 0 ≤ sizeLine := by omega
    cases c with
    | app w f cs => cases w <;> (walk_at "cd"; walk_at "dl"; walk_at "cd"; simp only [Code.kids] at h; simpa [h2, h0] using h)
    | _ => walk_at "cd"; walk_at "dl"; walk_at "cd"; (simp only [Code.kids, Code.toDs] at h); simpa [h2, h0] using h
  rcases ht with rfl | rfl
  · exact main
  · exact main
local macro_rules | `(tactic| walk_at "di") => do
  let l ← (("isiT chainT e0D ixO parO parS disp1T emptyT getT2 lookD keyD keyT keysD valD valQ dixT listKR itemsF keysI valsI itemsI dputK newR emptyR augI whileT dcT lc2F Tr.toEs ib_int_NoneType ib_int_bool ib_int_int ib_int_tuple ib_bool_int ib_bool_bool ib_tuple_tuple Bool.or_true Bool.or_false Bool.true_or Bool.false_or".splitOn " ").toArray.mapM fun s => `(Lean.Parser.Tactic.simpLemma| $(Lean.mkIdent s.toName):ident) : Lean.MacroM _)
  `(tactic| simp only [$l,*])
local macro_rules | `(tactic| walk_at "dx") => `(tactic| ((try walk_at "dl"); (try walk_at "di"); (try walk_at "dl"); (try walk_at "di"); (try walk_at "dl")))
/-! ### isinstance, by kinds -/
theorem ib_int_NoneType : isB .non "int" = some false := by decide +kernel
theorem ib_int_bool {b : Bool} : isB (.bl b) "int" = some true := by simp only [isB, tyN]; rw [if_pos (by decide +kernel)]; exact congrArg some (by decide +kernel)
theorem ib_int_int {i : Int} : isB (.int i) "int" = some true := by simp only [isB, tyN]; rw [if_pos (by decide +kernel)]; exact congrArg some (by decide +kernel)
theorem ib_int_str {x : Str} : isB (.str x) "int" = some false := by simp only [isB, tyN]; rw [if_pos (by decide +kernel)]; exact congrArg some (by decide +kernel)
theorem ib_int_list {ds : List D} : isB (.lst ds) "int" = some false := by simp only [isB, tyN]; rw [if_pos (by decide +kernel)]; exact congrArg some (by decide +kernel)
theorem ib_int_tuple {ds : List D} : isB (.tup ds) "int" = some false := by simp only [isB, tyN]; rw [if_pos (by decide +kernel)]; exact congrArg some (by decide +kernel)
theorem ib_int_dict {es : List (D × D)} : isB (.dic false es) "int" = some false := by simp only [isB, tyN]; rw [if_pos (by decide +kernel)]; exact congrArg some (by decide +kernel)
theorem ib_bool_NoneType : isB .non "bool" = some false := by decide +kernel
theorem ib_bool_bool {b : Bool} : isB (.bl b) "bool" = some true := by simp only [isB, tyN]; rw [if_pos (by decide +kernel)]; exact congrArg some (by decide +kernel)
theorem ib_bool_int {i : Int} : isB (.int i) "bool" = some false := by simp only [isB, tyN]; rw [if_pos (by decide +kernel)]; exact congrArg some (by decide +kernel)
theorem ib_bool_str {x : Str} : isB (.str x) "bool" = some false := by simp only [isB, tyN]; rw [if_pos (by decide +kernel)]; exact congrArg some (by decide +kernel)
theorem ib_bool_list {ds : List D} : isB (.lst ds) "bool" = some false := by simp only [isB, tyN]; rw [if_pos (by decide +kernel)]; exact congrArg some (by decide +kernel)
theorem ib_bool_tuple {ds : List D} : isB (.tup ds) "bool" = some false := by simp only [isB, tyN]; rw [if_pos (by decide +kernel)]; exact congrArg some (by decide +kernel)
theorem ib_bool_dict {es : List (D × D)} : isB (.dic false es) "bool" = some false := by simp only [isB, tyN]; rw [if_pos (by decide +kernel)]; exact congrArg some (by decide +kernel)
theorem ib_str_NoneType : isB .non "str" = some false := by decide +kernel
theorem ib_str_bool {b : Bool} : isB (.bl b) "str" = some false := by simp only [isB, tyN]; rw [if_pos (by decide +kernel)]; exact congrArg some (by decide +kernel)
theorem ib_str_int {i : Int} : isB (.int i) "str" = some false := by simp only [isB, tyN]; rw [if_pos (by decide +kernel)]; exact congrArg some (by decide +kernel)
theorem ib_str_str {x : Str} : isB (.str x) "str" = some true := by simp only [isB, tyN]; rw [if_pos (by decide +kernel)]; exact congrArg some (by decide +kernel)
theorem ib_str_list {ds : List D} : isB (.lst ds) "str" = some false := by simp only [isB, tyN]; rw [if_pos (by decide +kernel)]; exact congrArg some (by decide +kernel)
theorem ib_str_tuple {ds : List D} : isB (.tup ds) "str" = some false := by simp only [isB, tyN]; rw [if_pos (by decide +kernel)]; exact congrArg some (by decide +kernel)
theorem ib_str_dict {es : List (D × D)} : isB (.dic false es) "str" = some false := by simp only [isB, tyN]; rw [if_pos (by decide +kernel)]; exact congrArg some (by decide +kernel)
theorem ib_list_NoneType : isB .non "list" = some false := by decide +kernel
theorem ib_list_bool {b : Bool} : isB (.bl b) "list" = some false := by simp only [isB, tyN]; rw [if_pos (by decide +kernel)]; exact congrArg some (by decide +kernel)
theorem ib_list_int {i : Int} : isB (.int i) "list" = some false := by simp only [isB, tyN]; rw [if_pos (by decide +kernel)]; exact congrArg some (by decide +kernel)
theorem ib_list_str {x : Str} : isB (.str x) "list" = some false := by simp only [isB, tyN]; rw [if_pos (by decide +kernel)]; exact congrArg some (by decide +kernel)
theorem ib_list_list {ds : List D} : isB (.lst ds) "list" = some true := by simp only [isB, tyN]; rw [if_pos (by decide +kernel)]; exact congrArg some (by decide +kernel)
theorem ib_list_tuple {ds : List D} : isB (.tup ds) "list" = some false := by simp only [isB, tyN]; rw [if_pos (by decide +kernel)]; exact congrArg some (by decide +kernel)
theorem ib_list_dict {es : List (D × D)} : isB (.dic false es) "list" = some false := by simp only [isB, tyN]; rw [if_pos (by decide +kernel)]; exact congrArg some (by decide +kernel)
theorem ib_tuple_NoneType : isB .non "tuple" = some false := by decide +kernel
theorem ib_tuple_bool {b : Bool} : isB (.bl b) "tuple" = some false := by simp only [isB, tyN]; rw [if_pos (by decide +kernel)]; exact congrArg some (by decide +kernel)
theorem ib_tuple_int {i : Int} : isB (.int i) "tuple" = some false := by simp only [isB, tyN]; rw [if_pos (by decide +kernel)]; exact congrArg some (by decide +kernel)
theorem ib_tuple_str {x : Str} : isB (.str x) "tuple" = some false := by simp only [isB, tyN]; rw [if_pos (by decide +kernel)]; exact congrArg some (by decide +kernel)
theorem ib_tuple_list {ds : List D} : isB (.lst ds) "tuple" = some false := by simp only [isB, tyN]; rw [if_pos (by decide +kernel)]; exact congrArg some (by decide +kernel)
theorem ib_tuple_tuple {ds : List D} : isB (.tup ds) "tuple" = some true := by simp only [isB, tyN]; rw [if_pos (by decide +kernel)]; exact congrArg some (by decide +kernel)
theorem ib_tuple_dict {es : List (D × D)} : isB (.dic false es) "tuple" = some false := by simp only [isB, tyN]; rw [if_pos (by decide +kernel)]; exact congrArg some (by decide +kernel)
/-! ### what a code is without its withs -/
noncomputable abbrev Env := Str → Code
noncomputable def Env.put (s : Env) (x : Str) (c : Code) : Env := fun y => if y = x then c else s y
mutual
noncomputable def Code.out : Code → Env → Code
  | .nm x, s => s x
  | .gv i, _ => .gv i
  | .ite a b c d, s => .ite (a.out s) (b.out s) (c.out s) (d.out s)
  | .wth x a b, s => b.out (s.put x (a.out s))
  | .app w f cs, s => .app w f (Code.outs cs s)
noncomputable def Code.outs : List Code → Env → List Code
  | [], _ => []
  | c :: cs, s => c.out s :: Code.outs cs s
end
mutual
noncomputable def Code.fr : Code → Str → Prop
  | .nm y, x => x = y
  | .gv _, _ => False
  | .ite a b c d, x => a.fr x ∨ b.fr x ∨ c.fr x ∨ d.fr x
  | .wth y a b, x => a.fr x ∨ (x ≠ y ∧ b.fr x)
  | .app _ _ cs, x => Code.frs cs x
noncomputable def Code.frs : List Code → Str → Prop
  | [], _ => False
  | c :: cs, x => c.fr x ∨ Code.frs cs x
end
mutual
/-- no withs -/
noncomputable def Code.pl : Code → Prop
  | .nm _ => True
  | .gv _ => True
  | .ite a b c d => a.pl ∧ b.pl ∧ c.pl ∧ d.pl
  | .wth _ _ _ => False
  | .app _ _ cs => Code.pls cs
noncomputable def Code.pls : List Code → Prop
  | [] => True
  | c :: cs => c.pl ∧ Code.pls cs
end
/-! depth, and how much a code may add to it -/
mutual
noncomputable def Code.dp : Code → Nat
  | .nm _ => 1
  | .gv _ => 1
  | .ite a b c d => 1 + max (max a.dp b.dp) (max c.dp d.dp)
  | .wth _ a b => 1 + max a.dp b.dp
  | .app _ _ cs => 1 + Code.dps cs
noncomputable def Code.dps : List Code → Nat
  | [] => 0
  | c :: cs => max c.dp (Code.dps cs)
end
mutual
noncomputable def Code.wt : Code → Nat
  | .nm _ => 0
  | .gv _ => 1
  | .ite a b c d => 1 + max (max a.wt b.wt) (max c.wt d.wt)
  | .wth _ a b => 1 + a.wt + b.wt
  | .app _ _ cs => 1 + Code.wts cs
noncomputable def Code.wts : List Code → Nat
  | [] => 0
  | c :: cs => max c.wt (Code.wts cs)
end
mutual
theorem dp_wt : ∀ c : Code, c.dp ≤ c.wt + 1
  | .nm x => by simp only [Code.dp, Code.wt]; omega
  | .gv i => by simp only [Code.dp, Code.wt]; omega
  | .ite a b c d => by have := dp_wt a; have := dp_wt b; have := dp_wt c; have := dp_wt d; simp only [Code.dp, Code.wt]; omega
  | .wth y a b => by have := dp_wt a; have := dp_wt b; simp only [Code.dp, Code.wt]; omega
  | .app w f cs => by have := dps_wts cs; simp only [Code.dp, Code.wt]; omega
theorem dps_wts : ∀ cs : List Code, Code.dps cs ≤ Code.wts cs + 1
  | [] => by simp only [Code.dps, Code.wts]; omega
  | c :: cs => by have := dp_wt c; have := dps_wts cs; simp only [Code.dps, Code.wts]; omega
end
mutual
theorem wt_size : ∀ c : Code, c.wt ≤ c.size
  | .nm x => by simp only [Code.size, Code.wt]; omega
  | .gv i => by simp only [Code.size, Code.wt]; omega
  | .ite a b c d => by have := wt_size a; have := wt_size b; have := wt_size c; have := wt_size d; simp only [Code.size, Code.wt]; omega
  | .wth y a b => by have := wt_size a; have := wt_size b; simp only [Code.size, Code.wt]; omega
  | .app w f cs => by have := wts_sizes cs; simp only [Code.size, Code.wt]; omega
theorem wts_sizes : ∀ cs : List Code, Code.wts cs ≤ Code.sizes cs
  | [] => by simp only [Code.sizes, Code.wts]; omega
  | c :: cs => by have := wt_size c; have := wts_sizes cs; simp only [Code.sizes, Code.wts]; omega
end
/-- the codes within others, in their place -/
noncomputable def Code.re : Code → List Code → Code
  | .ite _ _ _ _, [a, b, c, d] => .ite a b c d
  | .wth x _ _, [a, b] => .wth x a b
  | .app w f _, cs => .app w f cs
  | c, _ => c
local macro_rules | `(tactic| walk_at "di") => do
  let l ← (("isiT chainT e0D ixO parO parS disp1T emptyT getT2 lookD keyD keyT keysD valD valQ dixT listKR itemsF keysI valsI itemsI dputK newR emptyR augI whileT dcT lc2F Tr.toEs Bool.or_true Bool.or_false Bool.true_or Bool.false_or isi2T inSg notInSg tabT List.isEmpty_nil List.isEmpty_cons ib_int_NoneType ib_int_bool ib_int_int ib_int_str ib_int_list ib_int_tuple ib_int_dict ib_bool_NoneType ib_bool_bool ib_bool_int ib_bool_str ib_bool_list ib_bool_tuple ib_bool_dict ib_str_NoneType ib_str_bool ib_str_int ib_str_str ib_str_list ib_str_tuple ib_str_dict ib_list_NoneType ib_list_bool ib_list_int ib_list_str ib_list_list ib_list_tuple ib_list_dict ib_tuple_NoneType ib_tuple_bool ib_tuple_int ib_tuple_str ib_tuple_list ib_tuple_tuple ib_tuple_dict".splitOn " ").toArray.mapM fun s => `(Lean.Parser.Tactic.simpLemma| $(Lean.mkIdent s.toName):ident) : Lean.MacroM _)
  `(tactic| simp only [$l,*])
local macro_rules | `(tactic| walk_at "cd") => do
  let l ← (("Code.toD Code.toDs Code.kids List.any_cons List.any_nil D.py PyData.eqv beq_iff_eq Bool.or_false Bool.or_eq_true Bool.or_eq_false_iff or_false false_or q_name_given q_name_if q_name_with q_name_work q_name_call q_name_bound q_given_name q_given_if q_given_with q_given_work q_given_call q_given_bound q_if_name q_if_given q_if_with q_if_work q_if_call q_if_bound q_with_name q_with_given q_with_if q_with_work q_with_call q_with_bound q_work_name q_work_given q_work_if q_work_with q_work_call q_work_bound q_call_name q_call_given q_call_if q_call_with q_call_work q_call_bound q_bound_name q_bound_given q_bound_if q_bound_with q_bound_work q_bound_call in_name in_given in_if in_with in_work in_call".splitOn " ").toArray.mapM fun s => `(Lean.Parser.Tactic.simpLemma| $(Lean.mkIdent s.toName):ident) : Lean.MacroM _)
  `(tactic| simp only [$l,*])
local macro_rules | `(tactic| walk_at "ce") => `(tactic| (walk_at "cd"; walk_at "dl"; (try walk_at "cd"); (try walk_at "dl"); (try walk_at "cd")))
theorem toDs_len (cs : List Code) : (Code.toDs cs).length = cs.length := by rw [toDs_map, List.length_map]
theorem numb_get? {ds : List D} {i : Nat} {d : D} {rest : List D} (h : d :: rest = (numb ds).drop i) : ∃ e, ds[i]? = some e ∧ d = .tup [.int (i : Nat), e] ∧ rest = (numb ds).drop (i + 1) := by
  have hi : i < (numb ds).length := by
    have := congrArg List.length h
    rw [List.length_cons, List.length_drop] at this; omega
  rw [List.drop_eq_getElem_cons hi] at h
  obtain ⟨h1, h2⟩ := List.cons.inj h
  rw [numb_len] at hi
  refine ⟨ds[i], List.getElem?_eq_getElem hi, ?_, h2⟩
  have := numb_get (List.getElem?_eq_getElem hi)
  rw [List.getElem?_eq_getElem (by rw [numb_len]; exact hi)] at this
  rw [h1]
  exact Option.some.inj this
theorem kids_dp : ∀ {c d : Code}, d ∈ c.kids → d.dp < c.dp := by
  intro c d h
  have dps : ∀ {cs : List Code}, d ∈ cs → d.dp ≤ Code.dps cs := by
    intro cs
    induction cs with
    | nil => intro h; cases h
    | cons e cs ih =>
      intro h
      simp only [Code.dps]
      rcases List.mem_cons.mp h with rfl | h
      · omega
      · have := ih h; omega
  cases c with
  | nm y => cases h
  | gv y => cases h
  | ite a b c e =>
    simp only [Code.kids, List.mem_cons, List.not_mem_nil, or_false] at h
    simp only [Code.dp]
    rcases h with rfl | rfl | rfl | rfl <;> omega
  | wth y a b =>
    simp only [Code.kids, List.mem_cons, List.not_mem_nil, or_false] at h
    simp only [Code.dp]
    rcases h with rfl | rfl <;> omega
  | app w f cs =>
    have := dps (cs := cs) h
    simp only [Code.dp]; omega
theorem sizes_take {cs : List Code} {i : Nat} {d : Code} (h : cs[i]? = some d) : Code.sizes (cs.take (i + 1)) = Code.sizes (cs.take i) + d.size := by
  induction cs generalizing i with
  | nil => simp at h
  | cons c cs ih =>
    cases i with
    | zero =>
      obtain rfl : c = d := by simpa using h
      simp only [List.take_succ_cons, List.take_zero, Code.sizes]; omega
    | succ i =>
      have := ih (i := i) (by simpa using h)
      simp only [List.take_succ_cons, Code.sizes, this]; omega
theorem sizes_take_le (cs : List Code) (i : Nat) : Code.sizes (cs.take i) ≤ Code.sizes cs := by
  induction cs generalizing i with
  | nil => simp
  | cons c cs ih =>
    cases i with
    | zero => simp [Code.sizes]
    | succ i => have := ih i; simp only [List.take_succ_cons, Code.sizes]; omega
noncomputable def Code.hd : Code → Str
  | .nm _ => "name" | .gv _ => "given" | .ite _ _ _ _ => "if" | .wth _ _ _ => "with" | .app w _ _ => if w = true then "work" else "call"
/-! ### canonical forms of dicts -/
section
open PySem.W
variable {α β γ : Type} [DecidableEq α] {le : α → α → Bool} {z : β → Bool}
noncomputable def look : List (α × β) → α → Option β
  | [], _ => none
  | (a, b) :: l, k => if a = k then some b else look l k
/-- what stands for one key, if it is not nothing -/
noncomputable def pick (z : β → Bool) (es : List (α × β)) (k : α) : Option (α × β) := match look es k with
  | some v => if z v = true then none else some (k, v)
  | none => none
end
section
open PySem.W PyProof.Rows
/-! the orders of keys -/
noncomputable abbrev pI (is : List Int) : PyData := .tuple (is.map .int)
noncomputable abbrev leI : List Int → List Int → Bool := dataLe false pI
theorem leI_eq : leI = fun p q => decide (p ≤ q) := by
  funext p q
  show (!dataLt (.tuple (q.map .int)) (.tuple (p.map .int))) = _
  rw [dataLt_tuple]
  show (!rowLt (q.map .int) (p.map .int)) = _
  rw [dataLt_ints]
  by_cases h : q < p
  · have h' : ¬ p ≤ q := fun z => List.not_lt.mpr z h
    rw [decide_eq_true h, decide_eq_false h']; rfl
  · have h' : p ≤ q := List.not_lt.mp h
    rw [decide_eq_false h, decide_eq_true h']; rfl
theorem srtD_map {β : Type} (f : β → D) (k : β → PyData) (h : ∀ b, (f b).pw = k b) (l : List β) : srtD (l.map f) = (l.mergeSort (dataLe false k)).map f := by
  unfold srtD
  refine (sort_maps f fun a _ b _ => ?_).symm
  rw [dataLe_eq, dataLe_eq]
  simp only [h]
theorem pw_ints (is : List Int) : D.pwL (is.map .int) = is.map .int := by
  induction is with
  | nil => rfl
  | cons i is ih => simp only [List.map_cons, D.pwL, D.pw, ih]
end
local macro_rules | `(tactic| walk_at "dw") => do
  let l ← (("isiDT sortLF lstRgF lstRg2F dputQ isiCT neOD keysQ valsQ itemsQ qixT srtF dcQ dcT metT fldT callY pureE asgE retE dropE binE consX ownX nilX consY lastY mX fldX fldX2 lcE compE starT datO makT endM enterX Sl.tree List.map_cons List.map_nil".splitOn " ").toArray.mapM fun s => `(Lean.Parser.Tactic.simpLemma| $(Lean.mkIdent s.toName):ident) : Lean.MacroM _)
  `(tactic| simp only [$l,*])
local macro_rules | `(tactic| walk_at "dz") => `(tactic| ((try walk_at "dl"); (try walk_at "dw"); (try walk_at "di"); (try walk_at "dl"); (try walk_at "dw"); (try walk_at "di"); (try walk_at "dl")))
local macro_rules | `(tactic| walk_at "ds") => do
  let l ← (("retR retO retOF slF endT callRT newR dispR dictOT dictDT par2T parDT par3T parO popE callE tgtE forE seqE appIx dputK dputKR dputL propT fldO thruM Tr.toD toDs_d List.map_cons List.map_nil List.set_cons_zero List.set_cons_succ List.getElem?_cons_zero List.getElem?_cons_succ".splitOn " ").toArray.mapM fun s => `(Lean.Parser.Tactic.simpLemma| $(Lean.mkIdent s.toName):ident) : Lean.MacroM _)
  `(tactic| simp only [$l,*])
local macro_rules | `(tactic| walk_at "dy") => `(tactic| ((try walk_at "dl"); (try walk_at "ds"); (try walk_at "dw"); (try walk_at "di"); (try walk_at "dl"); (try walk_at "ds"); (try walk_at "dw"); (try walk_at "di"); (try walk_at "dl")))
local macro_rules | `(tactic| walk_at "dv") => do
  let l ← (("raiseT callV callVT metV dropT isET xfT datR tpR consR nilR ifR lcR ptrR ioT ptrB mX appIx2 retR callRT endT newR sortEF onlyRt datO Sl.tree Tr.toD toDs_d List.map_cons List.map_nil List.set_cons_zero List.set_cons_succ List.getElem?_cons_zero List.getElem?_cons_succ".splitOn " ").toArray.mapM fun s => `(Lean.Parser.Tactic.simpLemma| $(Lean.mkIdent s.toName):ident) : Lean.MacroM _)
  `(tactic| simp only [$l,*])
local macro_rules | `(tactic| walk_at "du") => `(tactic| ((try walk_at "dl"); (try walk_at "dv"); (try walk_at "dw"); (try walk_at "di"); (try walk_at "dl"); (try walk_at "dv"); (try walk_at "di"); (try walk_at "dl")))
/-! ### what is a word, a count, a code -/
noncomputable def isInt : D → Bool
  | .int _ => true
  | _ => false
noncomputable def isCount : D → Bool
  | .int i => decide (0 ≤ i)
  | _ => false
noncomputable def isAddr : D → Bool
  | .tup ds => ds.all isCount
  | _ => false
/-! ### data of a fit size -/
noncomputable def asc (x : Str) : Bool := x.cps.all (· < 128) && decide (x.length ≤ 5000)
noncomputable def kOk : D → Bool
  | .str x => asc x
  | _ => false
noncomputable def vOk : D → Bool
  | .int i => decide (i.natAbs < 10 ^ 31)
  | _ => false
mutual
noncomputable def fit : D → Bool
  | .non => true
  | .bl _ => true
  | .int i => decide (i.natAbs < 10 ^ 31)
  | .str x => asc x
  | .lst ds => decide (ds.length ≤ 5000) && fits ds
  | .tup ds => decide (ds.length ≤ 5000) && fits ds
  | .dic t es => !t && fitP es
  | .ins _ _ => false
  | .bag => false
  | .glb _ => false
  | .lock _ _ => false
  | .at _ _ => false
noncomputable def fits : List D → Bool
  | [] => true
  | d :: ds => fit d && fits ds
noncomputable def fitP : List (D × D) → Bool
  | [] => true
  | (k, v) :: es => kOk k && vOk v && fitP es
end
theorem fits_mem : ∀ {ds : List D} {d : D}, fits ds = true → d ∈ ds → fit d = true
  | e :: ds, d, h, hd => by
    simp only [fits, Bool.and_eq_true] at h
    rcases List.mem_cons.mp hd with rfl | hd
    · exact h.1
    · exact fits_mem h.2 hd
noncomputable def R_intG : RD := fun ds k => ∃ d : D, ds = [d] ∧ fit d = true ∧ k (.bl (isInt d))
theorem p_intG : ∀ ds κ, R_intG ds κ → t_is_integer (endD κ) (enterS 1 ds) := by
  rintro ds κ ⟨d, rfl, o, h⟩
  unfold t_is_integer
  cases d with
  | dic t es => cases t <;> (walk_at "dx"; first | exact h | simp [fit] at o)
  | ins C fs => simp [fit] at o
  | bag => simp [fit] at o
  | glb a => simp [fit] at o
  | lock a1 a2 => simp [fit] at o
  | «at» a1 a2 => simp [fit] at o
  | _ => walk_at "dx"; exact h
noncomputable def R_cntG : RD := fun ds k => ∃ d : D, ds = [d] ∧ fit d = true ∧ k (.bl (isCount d))
theorem p_cntG : ∀ ds κ, R_cntG ds κ → t_is_count R_intG (endD κ) (enterS 1 ds) := by
  rintro ds κ ⟨d, rfl, o, h⟩
  unfold t_is_count
  walk_at "dx"
  refine ⟨d, rfl, o, ?_⟩
  cases d with
  | int i => simp only [isInt]; walk_at "dx"; simpa [isCount] using h
  | _ => simp only [isInt]; walk_at "dx"; exact h
/-! ### is_code -/
mutual
noncomputable def hi : D → Nat
  | .lst ds => his ds + 1
  | .tup ds => his ds + 1
  | _ => 1
noncomputable def his : List D → Nat
  | [] => 0
  | d :: ds => max (hi d) (his ds)
end
/-! ### weights -/
mutual
noncomputable def wt : D → Nat
  | .str x => x.length + 1
  | .lst ds => wts ds + 1
  | .tup ds => wts ds + 1
  | .dic _ es => wtP es + 1
  | _ => 1
noncomputable def wts : List D → Nat
  | [] => 0
  | d :: ds => wt d + wts ds
noncomputable def wtP : List (D × D) → Nat
  | [] => 0
  | (k, d) :: es => wt k + wt d + wtP es
end
mutual
/-- the greatest number in it -/
noncomputable def mg : D → Nat
  | .int i => i.natAbs
  | .lst ds => mgs ds
  | .tup ds => mgs ds
  | .dic _ es => mgP es
  | _ => 0
noncomputable def mgs : List D → Nat
  | [] => 0
  | d :: ds => max (mg d) (mgs ds)
noncomputable def mgP : List (D × D) → Nat
  | [] => 0
  | (_, d) :: es => max (mg d) (mgP es)
end
noncomputable def asci (x : Str) : Bool := x.cps.all (· < 128)
noncomputable def kvS : D → D → Bool
  | .str x, .int _ => asci x
  | _, _ => false
theorem kvS_of {k v : D} (h : kvS k v = true) : ∃ x i, k = .str x ∧ v = .int i ∧ asci x = true := by
  cases k <;> try (simp [kvS] at h; done)
  cases v <;> try (simp [kvS] at h; done)
  exact ⟨_, _, rfl, rfl, h⟩
mutual
/-- its texts are ASCII, its dicts from texts to numbers -/
noncomputable def shp : D → Bool
  | .non => true
  | .bl _ => true
  | .int _ => true
  | .str x => asci x
  | .lst ds => shps ds
  | .tup ds => shps ds
  | .dic t es => !t && shpP es
  | .ins _ _ => false
  | .bag => false
  | .glb _ => false
  | .lock _ _ => false
  | .at _ _ => false
noncomputable def shps : List D → Bool
  | [] => true
  | d :: ds => shp d && shps ds
noncomputable def shpP : List (D × D) → Bool
  | [] => true
  | (k, v) :: es => kvS k v && shpP es
end
structure Sm (b h m : Nat) (d : D) : Prop where
  s : shp d = true
  w : wt d ≤ b
  h : hi d ≤ h
  m : mg d ≤ m
theorem Sm.mono {b b' h h' m m' : Nat} {d : D} (x : Sm b h m d) (e1 : b ≤ b') (e2 : h ≤ h') (e3 : m ≤ m') : Sm b' h' m' d := ⟨x.s, Nat.le_trans x.w e1, Nat.le_trans x.h e2, Nat.le_trans x.m e3⟩
theorem wt_pos (d : D) : 0 < wt d := by cases d <;> simp only [wt] <;> omega
theorem wts_len : ∀ ds : List D, ds.length ≤ wts ds
  | [] => by simp [wts]
  | d :: ds => by have := wts_len ds; have := wt_pos d; simp only [wts, List.length_cons]; omega
mutual
theorem shp_fit : ∀ (d : D), shp d = true → wt d ≤ 5000 → mg d < 10 ^ 31 → fit d = true
  | .non, _, _, _ => by simp [fit]
  | .bl _, _, _, _ => by simp [fit]
  | .int i, _, _, h => by simpa only [fit, mg, decide_eq_true_eq] using h
  | .str x, h, w, _ => by
    simp only [shp, asci, wt] at h w
    simp only [fit, asc, Bool.and_eq_true, decide_eq_true_eq]
    exact ⟨h, by omega⟩
  | .lst ds, h, w, m => by
    simp only [shp, wt, mg] at h w m
    simp only [fit, Bool.and_eq_true, decide_eq_true_eq]
    exact ⟨by have := wts_len ds; omega, shps_fit ds h (by omega) m⟩
  | .tup ds, h, w, m => by
    simp only [shp, wt, mg] at h w m
    simp only [fit, Bool.and_eq_true, decide_eq_true_eq]
    exact ⟨by have := wts_len ds; omega, shps_fit ds h (by omega) m⟩
  | .dic t es, h, w, m => by
    simp only [shp, wt, mg, Bool.and_eq_true] at h w m
    simp only [fit, Bool.and_eq_true]
    exact ⟨h.1, shpP_fit es h.2 (by omega) m⟩
  | .ins _ _, h, _, _ => by simp [shp] at h
  | .bag, h, _, _ => by simp [shp] at h
  | .glb _, h, _, _ => by simp [shp] at h
  | .lock _ _, h, _, _ => by simp [shp] at h
  | .at _ _, h, _, _ => by simp [shp] at h
theorem shps_fit : ∀ (ds : List D), shps ds = true → wts ds ≤ 5000 → mgs ds < 10 ^ 31 → fits ds = true
  | [], _, _, _ => by simp [fits]
  | d :: ds, h, w, m => by
    simp only [shps, wts, mgs, Bool.and_eq_true] at h w m
    simp only [fits, Bool.and_eq_true]
    exact ⟨shp_fit d h.1 (by omega) (by omega), shps_fit ds h.2 (by omega) (by omega)⟩
theorem shpP_fit : ∀ (ds : List (D × D)), shpP ds = true → wtP ds ≤ 5000 → mgP ds < 10 ^ 31 → fitP ds = true
  | [], _, _, _ => by simp [fitP]
  | (k, v) :: es, h, w, m => by
    simp only [shpP, Bool.and_eq_true] at h
    obtain ⟨x, i, rfl, rfl, hx⟩ := kvS_of h.1
    have h := And.intro hx h.2
    simp only [wtP, wt, mgP, mg] at w m
    simp only [fitP, kOk, vOk, asc, Bool.and_eq_true, decide_eq_true_eq]
    exact ⟨⟨⟨h.1, by omega⟩, by omega⟩, shpP_fit es h.2 (by omega) (by omega)⟩
end
theorem Sm.fit {b h m : Nat} {d : D} (x : Sm b h m d) (hb : b ≤ 5000) (hm : m < 10 ^ 31) : fit d = true := shp_fit d x.s (Nat.le_trans x.w hb) (Nat.lt_of_le_of_lt x.m hm)
theorem shps_app : ∀ {as bs : List D}, shps (as ++ bs) = (shps as && shps bs)
  | [], bs => by simp [shps]
  | a :: as, bs => by simp [shps, shps_app (as := as), Bool.and_assoc]
theorem wts_app : ∀ {as bs : List D}, wts (as ++ bs) = wts as + wts bs
  | [], bs => by simp [wts]
  | a :: as, bs => by simp only [List.cons_append, wts, wts_app (as := as)]; omega
theorem his_app : ∀ {as bs : List D}, his (as ++ bs) = max (his as) (his bs)
  | [], bs => by simp [his]
  | a :: as, bs => by simp only [List.cons_append, his, his_app (as := as)]; omega
theorem mgs_app : ∀ {as bs : List D}, mgs (as ++ bs) = max (mgs as) (mgs bs)
  | [], bs => by simp [mgs]
  | a :: as, bs => by simp only [List.cons_append, mgs, mgs_app (as := as)]; omega
/-! ### what repr asks -/
theorem big31 : 10 ^ 31 ≤ 2 ^ 1920 := Nat.le_trans (by decide : 10 ^ 31 ≤ 2 ^ 104) (Nat.pow_le_pow_right (by decide) (by decide))
theorem intlen {i : Int} (h : i.natAbs < 10 ^ 31) : (PyData.shown (.int i)).length ≤ 40 := by
  have e := int_text_length_le10 (k := 31) (by decide) h
  show (Str.ofString (toString i)).length ≤ 40
  rw [PySem.ofString_length]; omega
mutual
theorem bulk_le : ∀ d : D, shp d = true → d.pw.bulk + 1 ≤ wt d
  | .non, _ => by simp [D.pw, PyData.bulk, wt]
  | .bl _, _ => by simp [D.pw, PyData.bulk, wt]
  | .int _, _ => by simp [D.pw, PyData.bulk, wt]
  | .str x, _ => by simp only [D.pw, PyData.bulk, wt]; exact Nat.le_refl _
  | .lst ds, h => by simp only [D.pw, PyData.bulk, wt, shp] at h ⊢; have := bulks_le ds h; omega
  | .tup ds, h => by simp only [D.pw, PyData.bulk, wt, shp] at h ⊢; have := bulks_le ds h; omega
  | .dic t es, h => by simp only [D.pw, PyData.bulk, wt, shp, Bool.and_eq_true] at h ⊢; have := bulkP_le es h.2; omega
  | .ins _ _, h => by simp [shp] at h
  | .bag, h => by simp [shp] at h
  | .glb _, h => by simp [shp] at h
  | .lock _ _, h => by simp [shp] at h
  | .at _ _, h => by simp [shp] at h
theorem bulks_le : ∀ ds : List D, shps ds = true → PyData.bulkAll (D.pwL ds) ≤ wts ds
  | [], _ => by simp [D.pwL, PyData.bulkAll, wts]
  | d :: ds, h => by
    simp only [shps, Bool.and_eq_true] at h
    have := bulk_le d h.1
    have := bulks_le ds h.2
    simp only [D.pwL, PyData.bulkAll, wts]; omega
theorem bulkP_le : ∀ ds : List (D × D), shpP ds = true → PyData.bulkKv (D.pwP ds) ≤ wtP ds
  | [], _ => by simp [D.pwP, PyData.bulkKv, wtP]
  | (k, v) :: es, h => by
    simp only [shpP, Bool.and_eq_true] at h
    obtain ⟨x, i, rfl, rfl, hx⟩ := kvS_of h.1
    have h := And.intro hx h.2
    have := bulkP_le es h.2
    have e : x.cps.size = x.length := rfl
    simp only [D.pwP, D.py, D.pw, PyData.bulkKv, PyData.bulk, wtP, wt]; omega
end
theorem asci_short {x : Str} (h : asci x = true) : (x.cps.toList.all fun c => decide (c < 16 ^ 8)) = true := by
  unfold asci at h
  rw [← Array.all_toList] at h
  rw [List.all_eq_true] at h ⊢
  intro c hc
  have := h c hc
  simp only [decide_eq_true_eq] at this ⊢
  omega
mutual
theorem leaves_of : ∀ d : D, shp d = true → mg d < 10 ^ 31 → d.pw.leavesShort 40 = true
  | .non, _, _ => by simp [D.pw, PyData.leavesShort]
  | .bl _, _, _ => by simp [D.pw, PyData.leavesShort]
  | .int _, _, m => by simp only [D.pw, PyData.leavesShort, decide_eq_true_eq]; exact intlen m
  | .str x, h, _ => by simp only [D.pw, PyData.leavesShort]; exact asci_short h
  | .lst ds, h, m => by simp only [D.pw, PyData.leavesShort, shp, mg] at h m ⊢; exact leaves_ofs ds h m
  | .tup ds, h, m => by simp only [D.pw, PyData.leavesShort, shp, mg] at h m ⊢; exact leaves_ofs ds h m
  | .dic t es, h, m => by simp only [D.pw, PyData.leavesShort, shp, mg, Bool.and_eq_true] at h m ⊢; exact leaves_ofP es h.2 m
  | .ins _ _, h, _ => by simp [shp] at h
  | .bag, h, _ => by simp [shp] at h
  | .glb _, h, _ => by simp [shp] at h
  | .lock _ _, h, _ => by simp [shp] at h
  | .at _ _, h, _ => by simp [shp] at h
theorem leaves_ofs : ∀ ds : List D, shps ds = true → mgs ds < 10 ^ 31 → PyData.leavesShortAll 40 (D.pwL ds) = true
  | [], _, _ => by simp [D.pwL, PyData.leavesShortAll]
  | d :: ds, h, m => by
    simp only [shps, mgs, Bool.and_eq_true] at h m
    simp only [D.pwL, PyData.leavesShortAll, Bool.and_eq_true]
    exact ⟨leaves_of d h.1 (by omega), leaves_ofs ds h.2 (by omega)⟩
theorem leaves_ofP : ∀ ds : List (D × D), shpP ds = true → mgP ds < 10 ^ 31 → PyData.leavesShortKv 40 (D.pwP ds) = true
  | [], _, _ => by simp [D.pwP, PyData.leavesShortKv]
  | (k, v) :: es, h, m => by
    simp only [shpP, Bool.and_eq_true] at h
    obtain ⟨x, i, rfl, rfl, hx⟩ := kvS_of h.1
    have h := And.intro hx h.2
    simp only [mgP, mg] at m
    simp only [D.pwP, D.py, D.pw, PyData.leavesShortKv, PyData.leavesShort, Bool.and_eq_true, decide_eq_true_eq]
    exact ⟨⟨asci_short h.1, intlen (by omega)⟩, leaves_ofP es h.2 (by omega)⟩
end
mutual
theorem show_of : ∀ d : D, shp d = true → mg d < 10 ^ 31 → d.pw.showable = true
  | .non, _, _ => by simp [D.pw, PyData.showable]
  | .bl _, _, _ => by simp [D.pw, PyData.showable]
  | .int i, _, m => by
    simp only [D.pw, PyData.showable, decide_eq_true_eq, mg] at m ⊢
    rcases Nat.eq_zero_or_pos i.natAbs with e | e
    · rw [e]; decide
    · exact (Nat.log2_lt (by omega)).mpr (Nat.lt_of_lt_of_le m big31)
  | .str x, h, _ => by simp [D.pw, PyData.showable]
  | .lst ds, h, m => by simp only [D.pw, PyData.showable, shp, mg] at h m ⊢; exact show_ofs ds h m
  | .tup ds, h, m => by simp only [D.pw, PyData.showable, shp, mg] at h m ⊢; exact show_ofs ds h m
  | .dic t es, h, m => by simp only [D.pw, PyData.showable, shp, mg, Bool.and_eq_true] at h m ⊢; exact show_ofP es h.2 m
  | .ins _ _, h, _ => by simp [shp] at h
  | .bag, h, _ => by simp [shp] at h
  | .glb _, h, _ => by simp [shp] at h
  | .lock _ _, h, _ => by simp [shp] at h
  | .at _ _, h, _ => by simp [shp] at h
theorem show_ofs : ∀ ds : List D, shps ds = true → mgs ds < 10 ^ 31 → PyData.showableAll (D.pwL ds) = true
  | [], _, _ => by simp [D.pwL, PyData.showableAll]
  | d :: ds, h, m => by
    simp only [shps, mgs, Bool.and_eq_true] at h m
    simp only [D.pwL, PyData.showableAll, Bool.and_eq_true]
    exact ⟨show_of d h.1 (by omega), show_ofs ds h.2 (by omega)⟩
theorem show_ofP : ∀ ds : List (D × D), shpP ds = true → mgP ds < 10 ^ 31 → PyData.showableKv (D.pwP ds) = true
  | [], _, _ => by simp [D.pwP, PyData.showableKv]
  | (k, v) :: es, h, m => by
    simp only [shpP, Bool.and_eq_true] at h
    obtain ⟨x, i, rfl, rfl, hx⟩ := kvS_of h.1
    have h := And.intro hx h.2
    simp only [mgP, mg] at m
    simp only [D.pwP, D.py, D.pw, PyData.showableKv, PyData.showable, Bool.and_eq_true, decide_eq_true_eq, Bool.true_and]
    refine ⟨?_, show_ofP es h.2 (by omega)⟩
    rcases Nat.eq_zero_or_pos i.natAbs with e | e
    · rw [e]; decide
    · exact (Nat.log2_lt (by omega)).mpr (Nat.lt_of_lt_of_le (by omega) big31)
end
mutual
theorem deep_of : ∀ d : D, shp d = true → d.pw.depth ≤ hi d
  | .non, _ => by simp [D.pw, PyData.depth, hi]
  | .bl _, _ => by simp [D.pw, PyData.depth, hi]
  | .int _, _ => by simp [D.pw, PyData.depth, hi]
  | .str x, _ => by simp [D.pw, PyData.depth, hi]
  | .lst ds, h => by simp only [D.pw, PyData.depth, hi, shp] at h ⊢; have := deep_ofs ds h; omega
  | .tup ds, h => by simp only [D.pw, PyData.depth, hi, shp] at h ⊢; have := deep_ofs ds h; omega
  | .dic t es, h => by simp only [D.pw, PyData.depth, hi, shp, Bool.and_eq_true] at h ⊢; have := deep_ofP es h.2; omega
  | .ins _ _, h => by simp [shp] at h
  | .bag, h => by simp [shp] at h
  | .glb _, h => by simp [shp] at h
  | .lock _ _, h => by simp [shp] at h
  | .at _ _, h => by simp [shp] at h
theorem deep_ofs : ∀ ds : List D, shps ds = true → PyData.depthAll (D.pwL ds) ≤ his ds
  | [], _ => by simp [D.pwL, PyData.depthAll, his]
  | d :: ds, h => by
    simp only [shps, Bool.and_eq_true] at h
    have := deep_of d h.1
    have := deep_ofs ds h.2
    simp only [D.pwL, PyData.depthAll, his]; omega
theorem deep_ofP : ∀ ds : List (D × D), shpP ds = true → PyData.depthKv (D.pwP ds) = 0
  | [], _ => by simp [D.pwP, PyData.depthKv]
  | (k, v) :: es, h => by
    simp only [shpP, Bool.and_eq_true] at h
    obtain ⟨x, i, rfl, rfl, hx⟩ := kvS_of h.1
    have h := And.intro hx h.2
    have := deep_ofP es h.2
    simp only [D.pwP, D.py, D.pw, PyData.depthKv, PyData.depth, this]; omega
end
/-! ### odd things, bent things -/
/-- what may stand at the head of an event -/
noncomputable def hdV : D → Bool
  | .str x => asci x
  | .int _ => true
  | .non => true
  | .lst ds => ds.isEmpty
  | _ => false
noncomputable def hdL : List D → Bool
  | [] => true
  | h :: _ => hdV h
noncomputable def hdOk : D → Bool
  | .tup ds => hdL ds
  | _ => true
noncomputable def tall : Nat → D
  | 0 => .lst []
  | n + 1 => .lst [tall n]
noncomputable def smB (d : D) : Bool := hdOk d && shp d && decide (wt d ≤ 400) && decide (hi d ≤ 14) && decide (mg d ≤ 10 ^ 30)
theorem sm_of {d : D} (h : smB d = true) : Sm 400 14 (10 ^ 30) d ∧ hdOk d = true := by
  simp only [smB, Bool.and_eq_true, decide_eq_true_eq] at h
  exact ⟨⟨h.1.1.1.2, h.1.1.2, h.1.2, h.2⟩, h.1.1.1.1⟩
theorem cpow30 : CPow 10 30 := by
  first | decide | (unfold CPow; decide) | (unfold CPow; omega)
noncomputable abbrev aD (a : List Nat) : D := .tup (a.map fun i => .int (i : Nat))
/-! ### addresses -/
noncomputable def atC : List Nat → Code → Option Code
  | [], c => some c
  | i :: a, c => (c.kids[i]?).bind (atC a)
theorem atC_nil (c : Code) : atC [] c = some c := by simp only [atC]
theorem atC_cons {i : Nat} {a : List Nat} {c d : Code} (h : c.kids[i]? = some d) : atC (i :: a) c = atC a d := by simp only [atC, h, Option.bind_some]
theorem atC_step {i : Nat} {a : List Nat} {c : Code} (h : (atC (i :: a) c).isSome = true) : ∃ d, c.kids[i]? = some d ∧ (atC a d).isSome = true := by
  simp only [atC] at h
  cases q : c.kids[i]? with
  | none => rw [q] at h; simp at h
  | some d => rw [q] at h; exact ⟨d, rfl, by simpa using h⟩
theorem atC_len : ∀ {a : List Nat} {c : Code}, (atC a c).isSome = true → a.length < c.dp
  | [], c, _ => by
    have := c.size_pos
    cases c <;> simp only [Code.dp, List.length_nil] <;> omega
  | i :: a, c, h => by
    obtain ⟨d, h1, h2⟩ := atC_step h
    have h3 := atC_len h2
    have h4 := kids_dp (List.mem_of_getElem? h1)
    rw [List.length_cons]; omega
theorem comp_fnD {α : Type} {i : Nat} {te : TD} {ρ : List Sl} {g : α → DL.D} {f : α → DL.D} {k : List DL.D → Prop} : ∀ {l : List α} {acc : List DL.D}, (∀ a ∈ l, ∀ κ : DL.D → Prop, κ (f a) → te (ρ.set i (.dat (g a))) κ) → k (acc ++ l.map f) → compT (.nm i) yesT te ρ (l.map g) acc k
  | [], acc, _, hk => by rw [List.map_nil, List.append_nil] at hk; exact hk
  | a :: l, acc, h, hk => by
    rw [List.map_cons]
    refine h a List.mem_cons_self _ ?_
    refine comp_fnD (l := l) (fun b hb => h b (List.mem_cons_of_mem _ hb)) ?_
    rw [List.map_cons] at hk
    rw [List.append_assoc]
    exact hk
mutual
/-- the addresses of a code, in order -/
noncomputable def Code.ads : Code → List (List Nat)
  | .nm _ => [[]]
  | .gv _ => [[]]
  | .ite a b c d => [] :: (a.ads.map (0 :: ·) ++ (b.ads.map (1 :: ·) ++ (c.ads.map (2 :: ·) ++ (d.ads.map (3 :: ·) ++ []))))
  | .wth _ a b => [] :: (a.ads.map (0 :: ·) ++ (b.ads.map (1 :: ·) ++ []))
  | .app _ _ cs => [] :: Code.adss 0 cs
noncomputable def Code.adss : Nat → List Code → List (List Nat)
  | _, [] => []
  | i, c :: cs => c.ads.map (i :: ·) ++ Code.adss (i + 1) cs
end
theorem ads_kids (c : Code) : c.ads = [] :: Code.adss 0 c.kids := by
  cases c <;> simp only [Code.ads, Code.kids, Code.adss]
theorem mem_adss {a : List Nat} : ∀ {cs : List Code} {i : Nat}, a ∈ Code.adss i cs ↔ ∃ (j : Nat) (b : List Nat) (d : Code), cs[j]? = some d ∧ a = (i + j) :: b ∧ b ∈ d.ads
  | [], i => by simp [Code.adss]
  | c :: cs, i => by
    simp only [Code.adss, List.mem_append, List.mem_map, mem_adss (cs := cs)]
    constructor
    · rintro (⟨b, hb, rfl⟩ | ⟨j, b, d, h, rfl, hb⟩)
      · exact ⟨0, b, c, rfl, rfl, hb⟩
      · exact ⟨j + 1, b, d, by simpa using h, by rw [show i + (j + 1) = i + 1 + j by omega], hb⟩
    · rintro ⟨j, b, d, h, rfl, hb⟩
      cases j with
      | zero =>
        obtain rfl : c = d := by simpa using h
        exact .inl ⟨b, hb, rfl⟩
      | succ j => exact .inr ⟨j, b, d, by simpa using h, by rw [show i + (j + 1) = i + 1 + j by omega], hb⟩
theorem mem_ads : ∀ {a : List Nat} {c : Code}, a ∈ c.ads ↔ (atC a c).isSome = true
  | [], c => by rw [ads_kids, atC_nil]; simp
  | i :: a, c => by
    rw [ads_kids, List.mem_cons, mem_adss]
    constructor
    · rintro (h | ⟨j, b, d, h, e, hb⟩)
      · cases h
      · obtain ⟨e1, rfl⟩ := List.cons.inj e
        rw [Nat.zero_add] at e1
        subst e1
        rw [atC_cons h]
        exact mem_ads.mp hb
    · intro h
      obtain ⟨d, h1, h2⟩ := atC_step h
      exact .inr ⟨i, a, d, h1, by rw [Nat.zero_add], mem_ads.mpr h2⟩
mutual
theorem ads_len : ∀ c : Code, c.ads.length = c.size
  | .nm x => by simp [Code.ads, Code.size]
  | .gv i => by simp [Code.ads, Code.size]
  | .ite a b c d => by
    simp only [Code.ads, Code.size, List.length_cons, List.length_append, List.length_map, List.length_nil, ads_len a, ads_len b, ads_len c, ads_len d]; omega
  | .wth x a b => by
    simp only [Code.ads, Code.size, List.length_cons, List.length_append, List.length_map, List.length_nil, ads_len a, ads_len b]; omega
  | .app w f cs => by
    simp only [Code.ads, Code.size, List.length_cons, adss_len cs 0]; omega
theorem adss_len : ∀ (cs : List Code) (i : Nat), (Code.adss i cs).length = Code.sizes cs
  | [], i => by simp [Code.adss, Code.sizes]
  | c :: cs, i => by simp only [Code.adss, Code.sizes, List.length_append, List.length_map, ads_len c, adss_len cs (i + 1)]
end
theorem adss_take (ks : List Code) (i : Nat) (d : Code) (h : ks[i]? = some d) : Code.adss 0 (ks.take (i + 1)) = Code.adss 0 (ks.take i) ++ d.ads.map (i :: ·) := by
  have gen : ∀ (ks : List Code) (i j : Nat), ks[i]? = some d → Code.adss j (ks.take (i + 1)) = Code.adss j (ks.take i) ++ d.ads.map ((j + i) :: ·) := by
    intro ks
    induction ks with
    | nil => intro i j h; simp at h
    | cons c ks ih =>
      intro i j h
      cases i with
      | zero =>
        obtain rfl : c = d := by simpa using h
        simp [Code.adss]
      | succ i =>
        have e := ih i (j + 1) (by simpa using h)
        simp only [List.take_succ_cons, Code.adss]
        rw [e, List.append_assoc, show j + 1 + i = j + (i + 1) by omega]
  have := gen ks i 0 h
  rw [Nat.zero_add] at this
  exact this
noncomputable abbrev aI (a : List Nat) : List Int := a.map fun i => ((i : Nat) : Int)
theorem adss_cons {c : Code} {cs : List Code} {i : Nat} (h1 : c.ads.Pairwise fun p q => aI p ≤ aI q) (h2 : (Code.adss (i + 1) cs).Pairwise fun p q => aI p ≤ aI q) : (Code.adss i (c :: cs)).Pairwise fun p q => aI p ≤ aI q := by
  simp only [Code.adss]
  refine List.pairwise_append.mpr ⟨List.pairwise_map.mpr (h1.imp fun {p q} h => ?_), h2, fun p hp q hq => ?_⟩
  · show (((i : Nat) : Int) :: aI p) ≤ (((i : Nat) : Int) :: aI q)
    exact List.cons_le_cons_iff.mpr (.inr ⟨rfl, h⟩)
  · obtain ⟨b, _, rfl⟩ := List.mem_map.mp hp
    obtain ⟨j, b', d, _, rfl, _⟩ := mem_adss.mp hq
    show (((i : Nat) : Int) :: aI b) ≤ (((i + 1 + j : Nat) : Int) :: aI b')
    exact List.cons_le_cons_iff.mpr (.inl (by omega))
mutual
theorem ads_srt : ∀ c : Code, c.ads.Pairwise fun p q => aI p ≤ aI q
  | .nm x => by simp [Code.ads]
  | .gv i => by simp [Code.ads]
  | .ite a b c d => by
    have e : Code.ads (.ite a b c d) = [] :: Code.adss 0 [a, b, c, d] := by simp only [Code.ads, Code.adss]
    rw [e]
    refine List.pairwise_cons.mpr ⟨fun q _ => List.nil_le _, ?_⟩
    exact adss_cons (ads_srt a) (adss_cons (ads_srt b) (adss_cons (ads_srt c) (adss_cons (ads_srt d) (by simp [Code.adss]))))
  | .wth x a b => by
    have e : Code.ads (.wth x a b) = [] :: Code.adss 0 [a, b] := by simp only [Code.ads, Code.adss]
    rw [e]
    refine List.pairwise_cons.mpr ⟨fun q _ => List.nil_le _, ?_⟩
    exact adss_cons (ads_srt a) (adss_cons (ads_srt b) (by simp [Code.adss]))
  | .app w f cs => by
    simp only [Code.ads]
    exact List.pairwise_cons.mpr ⟨fun q _ => List.nil_le _, adss_srt cs 0⟩
theorem adss_srt : ∀ (cs : List Code) (i : Nat), (Code.adss i cs).Pairwise fun p q => aI p ≤ aI q
  | [], i => by simp [Code.adss]
  | c :: cs, i => adss_cons (ads_srt c) (adss_srt cs (i + 1))
end
theorem pw_aD (a : List Nat) : (aD a).pw = pI (aI a) := by
  show PyData.tuple (D.pwL (a.map fun i => .int (i : Nat))) = .tuple ((a.map fun i => ((i : Nat) : Int)).map .int)
  rw [show (a.map fun i => D.int (i : Nat)) = (aI a).map .int by rw [List.map_map]; rfl, pw_ints]
theorem srt_ads (c : Code) : srtD (c.ads.map aD) = c.ads.map aD := by
  rw [srtD_map aD (fun a => pI (aI a)) pw_aD]
  congr 1
  refine List.mergeSort_of_pairwise ((ads_srt c).imp fun {p q} h => ?_)
  show leI (aI p) (aI q) = true
  rw [leI_eq]
  exact decide_eq_true h
theorem ints_alike : ∀ xs ys : List Int, PySem.W.alikeAll (xs.map .int) (ys.map .int) = true
  | [], _ => by simp [PySem.W.alikeAll]
  | _ :: _, [] => by simp [PySem.W.alikeAll]
  | x :: xs, y :: ys => by simp only [List.map_cons, PySem.W.alikeAll, PySem.W.alike, ints_alike xs ys, Bool.and_self]
theorem ints_depth (xs : List Int) : PyData.depthAll (xs.map .int) = 0 := by
  induction xs with
  | nil => rfl
  | cons x xs ih => simp [PyData.depthAll, PyData.depth, ih]
theorem fla_ints (a : List Nat) : (aD a).fla = true := by
  simp only [aD, D.fla]
  induction a with
  | nil => simp [D.flaL]
  | cons i a ih => simp only [List.map_cons, D.flaL, D.fla, ih, Bool.and_self]
theorem srtE_ads (c : Code) : SrtOkE 100 (c.ads.map aD) := by
  refine ⟨fun d hd => ?_, fun d hd d' hd' => ?_, ?_⟩
  · obtain ⟨a, _, rfl⟩ := List.mem_map.mp hd
    refine ⟨fla_ints a, ?_⟩
    rw [pw_aD]
    simp only [PyData.depth, ints_depth]
    omega
  · obtain ⟨x, hx, rfl⟩ := List.mem_map.mp hd
    obtain ⟨y, hy, rfl⟩ := List.mem_map.mp hd'
    obtain ⟨a, _, rfl⟩ := List.mem_map.mp hx
    obtain ⟨b, _, rfl⟩ := List.mem_map.mp hy
    rw [pw_aD, pw_aD]
    simp only [PySem.W.alike]
    exact ints_alike _ _
  · rw [ads_kids]
    refine ⟨((Code.adss 0 c.kids).map aD).map D.pw, rfl, fun d hd => ?_⟩
    obtain ⟨x, hx, rfl⟩ := List.mem_map.mp hd
    obtain ⟨a, _, rfl⟩ := List.mem_map.mp hx
    exact ⟨_, pw_aD a⟩
/-! the walks -/
noncomputable def R_adrT (n : Nat) : RTD := fun ds k => ∃ c : Code, ds = [c.toD] ∧ c.dp ≤ n ∧ c.size < 2 ^ 16 ∧ k (.l ((c.ads.map aD).map .d))
noncomputable def R_ladr (n : Nat) : RD := fun ds k => ∃ c : Code, ds = [c.toD] ∧ c.dp ≤ n ∧ c.size < 2 ^ 16 ∧ k (.lst (c.ads.map aD))
theorem p_addresses (n : Nat) : ∀ ds κ, R_adrT (n + 1) ds κ → t_addresses R_in (R_adrT n) (endT κ) (enterS 5 ds) := by
  have hs : sizeLine = 16777216 := sizeLine_eq
  rintro ds κ ⟨c, rfl, hn, hz, h⟩
  unfold t_addresses
  walk_at "dl"
  refine ⟨by omega, by omega, c, rfl, ?_⟩
  dsimp only
  have hk := kids_sizes c
  refine loopT_ind (I := fun rest ρ => ∃ (i : Nat) (s2 s3 s4 : Sl), rest = (numb (Code.toDs c.kids)).drop i ∧ i ≤ c.kids.length ∧ ρ = [.dat c.toD, .tr (.l ((([] :: Code.adss 0 (c.kids.take i)).map aD).map .d)), s2, s3, s4]) ?_ ?_ ⟨0, _, _, _, rfl, Nat.zero_le _, rfl⟩
  · rintro ρ ⟨i, s2, s3, s4, e, hi, rfl⟩
    have hi' : c.kids.length ≤ i := by
      have := congrArg List.length e
      rw [List.length_nil, List.length_drop, numb_len, toDs_len] at this; omega
    rw [List.take_of_length_le hi', ← ads_kids]
    exact ⟨_, rfl, h⟩
  · rintro d rest ρ N hN ⟨i, s2, s3, s4, e, hi, rfl⟩
    obtain ⟨e', he, rfl, rfl⟩ := numb_get? e
    rw [toDs_map, List.getElem?_map] at he
    obtain ⟨d, hdd, rfl⟩ := Option.map_eq_some_iff.mp he
    have hm := List.mem_of_getElem? hdd
    have il := (List.getElem?_eq_some_iff.mp hdd).1
    have h1 := kids_dp hm
    have h2 := sizes_mem hm
    have st := sizes_take hdd
    have sl := sizes_take_le c.kids (i + 1)
    walk_at "du"
    have al := ads_len d
    have as := adss_len (c.kids.take i) 0
    refine ⟨d, rfl, by omega, by omega, ?_⟩
    dsimp only
    rw [show (Tr.l ((d.ads.map aD).map .d)).toD = .lst (d.ads.map aD) by simp only [Tr.toD, toDs_d]]
    dsimp only
    refine ⟨by rw [List.length_map]; omega, ?_⟩
    refine comp_fnD (f := fun a => aD (i :: a)) (fun a ha κ' q => ?_) ?_
    · have la : a.length < d.dp := atC_len (mem_ads.mp ha)
      have dd := dp_wt d
      have ww := wt_size d
      walk_at "du"
      rw [List.append_nil]
      exact ⟨by rw [List.length_map]; omega, q⟩
    · rw [List.nil_append]
      refine ⟨by simp; omega, hN _ ⟨i + 1, .dat (.int (i : Nat)), .dat d.toD, s4, rfl, by omega, ?_⟩⟩
      rw [adss_take c.kids i d hdd]
      simp only [List.map_append, List.map_map, List.map_cons]
      rfl
theorem p_laddr (n : Nat) : ∀ ds κ, R_ladr (n + 1) ds κ → t_L_addresses R_in (R_ladr n) (endD κ) (enterS 5 ds) := by
  have hs : sizeLine = 16777216 := sizeLine_eq
  rintro ds κ ⟨c, rfl, hn, hz, h⟩
  unfold t_L_addresses
  walk_at "dl"
  refine ⟨by omega, by omega, c, rfl, ?_⟩
  dsimp only
  have hk := kids_sizes c
  refine loopT_ind (I := fun rest ρ => ∃ (i : Nat) (s2 s3 s4 : Sl), rest = (numb (Code.toDs c.kids)).drop i ∧ i ≤ c.kids.length ∧ ρ = [.dat c.toD, .dat (.lst (([] :: Code.adss 0 (c.kids.take i)).map aD)), s2, s3, s4]) ?_ ?_ ⟨0, _, _, _, rfl, Nat.zero_le _, rfl⟩
  · rintro ρ ⟨i, s2, s3, s4, e, hi, rfl⟩
    have hi' : c.kids.length ≤ i := by
      have := congrArg List.length e
      rw [List.length_nil, List.length_drop, numb_len, toDs_len] at this; omega
    rw [List.take_of_length_le hi', ← ads_kids]
    walk_at "dl"
    exact h
  · rintro d rest ρ N hN ⟨i, s2, s3, s4, e, hi, rfl⟩
    obtain ⟨e', he, rfl, rfl⟩ := numb_get? e
    rw [toDs_map, List.getElem?_map] at he
    obtain ⟨d, hdd, rfl⟩ := Option.map_eq_some_iff.mp he
    have hm := List.mem_of_getElem? hdd
    have il := (List.getElem?_eq_some_iff.mp hdd).1
    have h1 := kids_dp hm
    have h2 := sizes_mem hm
    have st := sizes_take hdd
    have sl := sizes_take_le c.kids (i + 1)
    have al := ads_len d
    have as := adss_len (c.kids.take i) 0
    walk_at "du"
    refine ⟨d, rfl, by omega, by omega, ?_⟩
    dsimp only
    refine ⟨by rw [List.length_map]; omega, ?_⟩
    refine comp_fnD (f := fun a => aD (i :: a)) (fun a ha κ' q => ?_) ?_
    · have la : a.length < d.dp := atC_len (mem_ads.mp ha)
      have dd := dp_wt d
      have ww := wt_size d
      walk_at "du"
      refine ⟨by omega, by rw [List.length_map]; omega, q⟩
    · rw [List.nil_append]
      refine ⟨by simp; omega, hN _ ⟨i + 1, .dat (.int (i : Nat)), .dat d.toD, s4, rfl, by omega, ?_⟩⟩
      rw [adss_take c.kids i d hdd]
      simp only [List.map_append, List.map_map, List.map_cons]
      rfl
/-! ### addresses of any value; parts at addresses, put there; the names bound there -/
noncomputable def R_withc : RD := fun ds k => ∃ (c : Code) (cs : List Code), ds = [c.toD, .lst (Code.toDs cs)] ∧ cs.length = c.kids.length ∧ cs.length < 2 ^ 20 ∧ k (c.re cs).toD
theorem p_with_codes : ∀ ds κ, R_withc ds κ → t_with_codes (endD κ) (enterS 2 ds) := by
  have hs : sizeLine = 16777216 := sizeLine_eq
  rintro ds κ ⟨c, cs, rfl, hl, hz, h⟩
  unfold t_with_codes
  have h2 : 2 ≤ sizeLine := by omega
  have h3 : 3 ≤ sizeLine := by omega
  have tl := toDs_len cs
  cases c with
  | nm y =>
    simp only [Code.re, Code.toD] at h
    walk_at "cd"; walk_at "dl"; walk_at "cd"
    simpa [h2] using h
  | gv y =>
    simp only [Code.re, Code.toD] at h
    walk_at "cd"; walk_at "dl"; walk_at "cd"
    simpa [h2] using h
  | ite a b c d =>
    match cs, hl with
    | [a', b', c', d'], _ =>
      simp only [Code.re, Code.toD] at h
      walk_at "cd"; walk_at "dl"; walk_at "cd"
      have h5 : 5 ≤ sizeLine := by omega
      simpa [h2, h5] using h
  | wth y a b =>
    match cs, hl with
    | [a', b'], _ =>
      simp only [Code.re, Code.toD] at h
      walk_at "cd"; walk_at "dl"; walk_at "cd"
      have h4 : 4 ≤ sizeLine := by omega
      simpa [h2, h4] using h
  | app w f ds =>
    simp only [Code.re, Code.toD] at h
    cases w <;> (walk_at "cd"; walk_at "dl"; walk_at "cd"; simpa [h2, h3] using h)
theorem adr_lay : ∀ a : List Nat, PyData.canLayAll0 (D.pys (a.map fun i => D.int (i : Nat))) = true
  | [] => by simp [D.pys, PyData.canLayAll0]
  | i :: a => by simp [D.pys, D.py, PyData.canLayAll0, PyData.canLay0, adr_lay a]
theorem adr_deep : ∀ a : List Nat, PyData.depthAll (D.pys (a.map fun i => D.int (i : Nat))) ≤ 1
  | [] => by simp [D.pys, PyData.depthAll]
  | i :: a => by have := adr_deep a; simp [D.pys, D.py, PyData.depthAll, PyData.depth]; omega
theorem adrs_lay : ∀ as : List (List Nat), PyData.canLayAll0 (D.pys (as.map aD)) = true
  | [] => by simp [D.pys, PyData.canLayAll0]
  | a :: as => by simp [D.pys, D.py, PyData.canLayAll0, PyData.canLay0, adrs_lay as, adr_lay a]
theorem adr_in (a : List Nat) (as : List (List Nat)) : inOk (aD a) (as.map aD) := by
  refine ⟨by simp [D.py, PyData.canLay0, adr_lay a], adrs_lay as, ?_⟩
  have := adr_deep a
  simp [D.py, PyData.depth]; omega
theorem adr_eqv : ∀ a b : List Nat, PyData.eqvAll (D.pys (a.map fun i => D.int (i : Nat))) (D.pys (b.map fun i => D.int (i : Nat))) = decide (a = b)
  | [], [] => by simp [D.pys, PyData.eqvAll]
  | [], _ :: _ => by simp [D.pys, PyData.eqvAll]
  | _ :: _, [] => by simp [D.pys, PyData.eqvAll]
  | i :: a, j :: b => by
    simp only [List.map_cons, D.pys, PyData.eqvAll, adr_eqv a b]
    by_cases e : i = j
    · subst e; simp [D.py, PyData.eqv]
    · have : ¬ (i : Int) = j := by omega
      simp [D.py, PyData.eqv, e, this]
theorem any_adrs (a : List Nat) : ∀ as : List (List Nat), ((as.map aD).any fun z => z.py.eqv (aD a).py) = decide (a ∈ as)
  | [] => by simp
  | b :: as => by
    rw [List.map_cons, List.any_cons, any_adrs a as]
    have e : (aD b).py.eqv (aD a).py = decide (b = a) := by
      simp only [D.py, PyData.eqv]; exact adr_eqv b a
    rw [e]
    by_cases q : b = a
    · subst q; simp
    · have q' : ¬ a = b := fun z => q z.symm
      simp [q, q']
theorem kid_at {c d : Code} {i : Nat} (h : c.kids[i]? = some d) : L2.atI (Code.toDs c.kids) ((i : Nat) : Int) = some d.toD := by
  have hl := (List.getElem?_eq_some_iff.mp h).1
  obtain ⟨e, e1, e2⟩ := atI_lt (l := Code.toDs c.kids) (i := ((i : Nat) : Int)) (by omega) (by rw [toDs_len]; omega)
  rw [e1]
  rw [Int.toNat_natCast, toDs_map, List.getElem?_map, h] at e2
  exact e2.symm
noncomputable def R_lat : RD := fun ds k => ∃ (c d : Code) (a : List Nat), ds = [c.toD, aD a] ∧ atC a c = some d ∧ a.length < 2 ^ 17 ∧ k d.toD
theorem p_lat : ∀ ds κ, R_lat ds κ → t_L_at R_in (endD κ) (enterS 3 ds) := by
  have hs : sizeLine = 16777216 := sizeLine_eq
  rintro ds κ ⟨c, d, a, rfl, ha, hl, h⟩
  unfold t_L_at
  walk_at "dl"
  refine loopT_ind (I := fun rest ρ => ∃ (b : List Nat) (e : Code) (s : Sl), rest = b.map (fun i => D.int (i : Nat)) ∧ atC b e = some d ∧ ρ = [.dat e.toD, .dat (aD a), s]) ?_ ?_ ⟨a, c, .un, rfl, ha, rfl⟩
  · rintro ρ ⟨b, e, s, e1, e2, rfl⟩
    have : b = [] := by
      cases b with
      | nil => rfl
      | cons x l => cases e1
    subst this
    rw [atC_nil] at e2
    cases e2
    walk_at "dl"
    exact h
  · rintro x rest ρ N hN ⟨b, e, s, e1, e2, rfl⟩
    cases b with
    | nil => cases e1
    | cons i b =>
      obtain ⟨rfl, rfl⟩ := List.cons.inj e1
      obtain ⟨f, h1, h2⟩ := atC_step (i := i) (a := b) (c := e) (by rw [e2]; rfl)
      rw [atC_cons h1] at e2
      walk_at "dl"
      refine ⟨e, rfl, ?_⟩
      walk_at "dl"
      exact optK_of (kid_at h1) (hN _ ⟨b, f, _, rfl, e2, rfl⟩)
noncomputable def putC : List Nat → Code → Code → Code
  | [], _, p => p
  | i :: a, c, p => match c.kids[i]? with
    | some d => c.re (c.kids.set i (putC a d p))
    | none => c
theorem re_toD_ite {x y z u : Code} {cs : List Code} (h : cs.length = 4) : (Code.re (.ite x y z u) cs).toD = .tup (.str "if" :: Code.toDs cs) := by
  match cs, h with
  | [a, b, c, d], _ => simp only [Code.re, Code.toD, Code.toDs]
theorem re_toD_wth {x : Str} {y z : Code} {cs : List Code} (h : cs.length = 2) : (Code.re (.wth x y z) cs).toD = .tup (.str "with" :: .str x :: Code.toDs cs) := by
  match cs, h with
  | [a, b], _ => simp only [Code.re, Code.toD, Code.toDs]
noncomputable def R_lput (n : Nat) : RD := fun ds k => ∃ (c p : Code) (a : List Nat), ds = [c.toD, aD a, p.toD] ∧ c.dp ≤ n ∧ c.size < 2 ^ 16 ∧ a.length < 2 ^ 17 ∧ (atC a c).isSome = true ∧ k (putC a c p).toD
theorem p_lput (n : Nat) : ∀ ds κ, R_lput (n + 1) ds κ → t_L_put R_in (R_lput n) (endD κ) (enterS 4 ds) := by
  have hs : sizeLine = 16777216 := sizeLine_eq
  rintro ds κ ⟨c, p, a, rfl, hn, hz, hl, ha, h⟩
  unfold t_L_put
  cases a with
  | nil =>
    simp only [putC] at h
    walk_at "dl"
    simp only [e0D]
    exact ⟨by omega, by rw [if_pos (by simp)]; exact h⟩
  | cons i a =>
    obtain ⟨d, h1, h2⟩ := atC_step ha
    have hm := List.mem_of_getElem? h1
    have k1 := kids_dp hm
    have k2 := sizes_mem hm
    have k3 := kids_sizes c
    have hi := (List.getElem?_eq_some_iff.mp h1).1
    have sl := sizes_len c.kids
    rw [List.length_cons] at hl
    walk_at "dl"
    simp only [e0D]
    walk_at "dl"
    refine ⟨by omega, ?_⟩
    rw [if_neg (by simp)]
    refine ⟨c, rfl, ?_⟩
    dsimp only
    simp only [ixO]
    walk_at "dl"
    have hg : (Code.toDs c.kids)[i]? = some d.toD := by rw [toDs_map, List.getElem?_map, h1]; rfl
    have tg : ((Code.toDs c.kids).map Tr.d)[i]? = some (.d d.toD) := by rw [List.getElem?_map, hg]; rfl
    have ix : ixN ((Code.toDs c.kids).map Tr.d).length ((i : Nat) : Int) = some i := by
      unfold ixN
      rw [List.length_map, toDs_len, if_pos (by omega), if_pos (by omega), Int.toNat_natCast]
    have e : Tr.toDs (((Code.toDs c.kids).map Tr.d).set i (Tr.d (putC a d p).toD)) = Code.toDs (c.kids.set i (putC a d p)) := by
      have e0 : ((Code.toDs c.kids).map Tr.d).set i (Tr.d (putC a d p).toD) = (Code.toDs (c.kids.set i (putC a d p))).map Tr.d := by
        rw [toDs_map, toDs_map, List.map_map, List.map_map, List.map_set]; rfl
      rw [e0, toDs_d]
    have ek : (putC (i :: a) c p) = c.re (c.kids.set i (putC a d p)) := by simp only [putC, h1]
    have lk : (c.kids.set i (putC a d p)).length = c.kids.length := List.length_set
    refine ⟨d.toD, L2.atI_nat tg, d, p, a, rfl, by omega, by omega, by omega, h2, ?_⟩
    dsimp only
    rw [ix]
    refine ⟨i, rfl, ⟨_, tg⟩, ?_⟩
    rw [e]
    rw [ek] at h
    have sz : (Code.toDs (c.kids.set i (putC a d p))).length < 2 ^ 16 := by rw [toDs_len, lk]; omega
    generalize putC a d p = z at *
    have b1 : ¬ ("with" : Str) = "if" := by decide +kernel
    have b2 : ∀ w : Bool, ¬ (if w = true then ("work" : Str) else "call") = "if" := by decide +kernel
    have b3 : ∀ w : Bool, ¬ (if w = true then ("work" : Str) else "call") = "with" := by decide +kernel
    cases c with
    | nm x => simp [Code.kids] at hi
    | gv x => simp [Code.kids] at hi
    | ite x y z u =>
      rw [re_toD_ite (by rw [lk]; rfl)] at h
      have et : (Code.ite x y z u).toD = .tup (.str "if" :: Code.toDs [x, y, z, u]) := by simp only [Code.toD, Code.toDs]
      rw [et]
      walk_at "dl"
      exact ⟨by omega, by omega, h⟩
    | wth x y z =>
      rw [re_toD_wth (by rw [lk]; rfl)] at h
      have et : (Code.wth x y z).toD = .tup (.str "with" :: .str x :: Code.toDs [y, z]) := by simp only [Code.toD, Code.toDs]
      rw [et]
      walk_at "dl"
      rw [if_neg b1]
      exact ⟨by omega, by omega, h⟩
    | app w f cs =>
      simp only [Code.re, Code.toD] at h
      have et : (Code.app w f cs).toD = .tup [.str (if w = true then "work" else "call"), .str f, .tup (Code.toDs cs)] := by simp only [Code.toD]
      rw [et]
      walk_at "dl"
      rw [if_neg (b2 w), if_neg (b3 w)]
      have ec : (Code.app w f cs).kids = cs := rfl
      rw [ec] at *
      exact ⟨by omega, by omega, h⟩
/-- data that may be asked for -/
noncomputable def Fd (d : DL.D) : Prop := fit d = true ∨ ∃ p ds, d = .at p (.lst ds)
theorem counts_all : ∀ {ds : List DL.D}, ds.all isCount = true → ∃ a : List Nat, ds = a.map fun i => .int (i : Nat)
  | [], _ => ⟨[], rfl⟩
  | d :: ds, h => by
    simp only [List.all_cons, Bool.and_eq_true] at h
    obtain ⟨a, rfl⟩ := counts_all h.2
    cases d with
    | int i =>
      have : 0 ≤ i := by simpa [isCount] using h.1
      exact ⟨i.toNat :: a, by rw [List.map_cons, Int.toNat_of_nonneg this]⟩
    | _ => simp [isCount] at h
theorem isAddr_aD {d : DL.D} (h : isAddr d = true) : ∃ a, d = aD a := by
  cases d with
  | tup ds =>
    obtain ⟨a, rfl⟩ := counts_all (by simpa only [isAddr] using h)
    exact ⟨a, rfl⟩
  | _ => simp [isAddr] at h
theorem aD_isAddr (a : List Nat) : isAddr (aD a) = true := by
  simp only [aD, isAddr, List.all_map]
  rw [List.all_eq_true]
  intro i _
  simp [isCount]
noncomputable def R_isad : RD := fun ds k => ∃ d : DL.D, ds = [d] ∧ Fd d ∧ k (.bl (isAddr d))
theorem isB_at {p : Addr} {ds : List DL.D} : isB (.at p (.lst ds)) "tuple" = some false := ib_tuple_list (ds := ds)
theorem p_isad : ∀ ds κ, R_isad ds κ → t_is_address R_cntG (endD κ) (enterS 2 ds) := by
  have hs : sizeLine = 16777216 := sizeLine_eq
  rintro ds κ ⟨d, rfl, o | ⟨p, es, rfl⟩, h⟩
  · unfold t_is_address
    cases d with
    | tup ds =>
      simp only [fit, Bool.and_eq_true, decide_eq_true_eq] at o
      walk_at "dx"
      refine ⟨by omega, ?_⟩
      have go := comp_fnD (i := 1) (te := callT R_cntG (consA (nameT 1) nilA)) (ρ := [.dat (.tup ds), .un]) (g := fun d => d) (f := fun d => .bl (isCount d)) (l := ds) (acc := []) (k := fun es => allR [.lst es] fun d => κ d) (fun d hd κ' q => by
        walk_at "dx"
        exact ⟨d, rfl, fits_mem o.2 hd, q⟩) (by
        rw [List.nil_append]
        refine ⟨ds.map isCount, by rw [List.map_map]; rfl, ?_⟩
        simp only [isAddr] at h
        rw [List.all_map]
        exact h)
      rw [List.map_id'] at go
      exact go
    | dic t es => cases t <;> (walk_at "dx"; first | exact h | simp [fit] at o)
    | ins C fs => simp [fit] at o
    | bag => simp [fit] at o
    | glb a => simp [fit] at o
    | lock a1 a2 => simp [fit] at o
    | «at» a1 a2 => simp [fit] at o
    | _ => walk_at "dx"; exact h
  · unfold t_is_address
    walk_at "dl"
    simp only [isiT]
    walk_at "dl"
    rw [isB_at]
    walk_at "dx"
    exact h
/-- a datum is an address of a code -/
noncomputable def AdOf (c : Code) (d : DL.D) : Prop := ∃ a : List Nat, d = aD a ∧ (atC a c).isSome = true
noncomputable def R_needV (C : Addr) (n : Nat) : RXD := fun ds k e => ∃ (c : Code) (d : DL.D), ds = [c.toD, d] ∧ c.dp ≤ n ∧ c.size < 2 ^ 10 ∧ ((AdOf c d ∧ k .non) ∨ (Fd d ∧ ¬ AdOf c d ∧ e ⟨C, some ("address", d)⟩))
theorem adr_small : ∀ {a : List Nat} {c : Code}, (atC a c).isSome = true → ∀ i ∈ a, i < c.size
  | i :: a, c, h, j, hj => by
    obtain ⟨d, h1, h2⟩ := atC_step h
    have il := (List.getElem?_eq_some_iff.mp h1).1
    have sl := sizes_len c.kids
    have k3 := kids_sizes c
    have k2 := sizes_mem (List.mem_of_getElem? h1)
    rcases List.mem_cons.mp hj with rfl | hj
    · omega
    · have := adr_small h2 j hj
      omega
theorem fits_of : ∀ {ds : List DL.D}, (∀ d ∈ ds, fit d = true) → fits ds = true
  | [], _ => by simp [fits]
  | d :: ds, h => by simp only [fits, h d List.mem_cons_self, fits_of fun e he => h e (List.mem_cons_of_mem _ he), Bool.and_self]
theorem fit_aD {c : Code} {d : DL.D} (h : AdOf c d) (hz : c.size < 2 ^ 10) : fit d = true := by
  obtain ⟨a, rfl, ha⟩ := h
  have := atC_len ha
  have := dp_wt c
  have := wt_size c
  simp only [aD, fit, List.length_map, Bool.and_eq_true, decide_eq_true_eq]
  refine ⟨by omega, ?_⟩
  refine fits_of fun d hd => ?_
  obtain ⟨i, hi, rfl⟩ := List.mem_map.mp hd
  have := adr_small ha i hi
  simp only [fit, decide_eq_true_eq]
  exact Nat.lt_trans (by omega : ((i : Nat) : Int).natAbs < 2 ^ 10) (by decide)
theorem p_needV (C : Addr) (n : Nat) : ∀ ds κ e, R_needV C n ds κ e → t_need_partV R_isad (R_adrT n) C (fun x _ => e x) (endD κ) (enterS 2 ds) := by
  have hs : sizeLine = 16777216 := sizeLine_eq
  rintro ds κ e ⟨c, d, rfl, hn, hz, h⟩
  unfold t_need_partV
  rcases h with ⟨⟨a, rfl, ha⟩, h⟩ | ⟨hf, hb, h⟩
  · have fa := fit_aD ⟨a, rfl, ha⟩ hz
    walk_at "du"
    refine ⟨aD a, rfl, .inl fa, ?_⟩
    rw [aD_isAddr]
    walk_at "du"
    refine ⟨c, rfl, hn, by omega, ?_⟩
    dsimp only
    rw [show (Tr.l ((c.ads.map aD).map .d)).toD = .lst (c.ads.map aD) by simp only [Tr.toD, toDs_d]]
    simp only [inB]
    refine ⟨adr_in a c.ads, ?_⟩
    rw [show ((c.ads.map aD).any fun z => z.py.eqv (aD a).py) = true from (any_adrs a c.ads).trans (decide_eq_true (mem_ads.mpr ha))]
    exact h
  · walk_at "du"
    refine ⟨d, rfl, hf, ?_⟩
    cases q : isAddr d with
    | false =>
      walk_at "du"
      exact ⟨d, rfl, h⟩
    | true =>
      obtain ⟨a, rfl⟩ := isAddr_aD q
      walk_at "du"
      refine ⟨c, rfl, hn, by omega, ?_⟩
      dsimp only
      rw [show (Tr.l ((c.ads.map aD).map .d)).toD = .lst (c.ads.map aD) by simp only [Tr.toD, toDs_d]]
      simp only [inB]
      refine ⟨adr_in a c.ads, ?_⟩
      rw [show ((c.ads.map aD).any fun z => z.py.eqv (aD a).py) = false from (any_adrs a c.ads).trans (decide_eq_false fun z => hb ⟨a, rfl, mem_ads.mp z⟩)]
      exact ⟨aD a, rfl, h⟩
noncomputable def R_patV (C : Addr) (n : Nat) : RXD := fun ds k e => ∃ (c : Code) (d : DL.D), ds = [c.toD, d] ∧ c.dp ≤ n ∧ c.size < 2 ^ 10 ∧ ((∃ a p, d = aD a ∧ atC a c = some p ∧ k p.toD) ∨ (Fd d ∧ ¬ AdOf c d ∧ e ⟨C, some ("address", d)⟩))
theorem p_patV (C : Addr) (n : Nat) : ∀ ds κ e, R_patV C n ds κ e → t_part_atV R_in (R_needV C n) (fun x _ => e x) (endD κ) (enterS 3 ds) := by
  have hs : sizeLine = 16777216 := sizeLine_eq
  rintro ds κ e ⟨c, d, rfl, hn, hz, h⟩
  unfold t_part_atV
  rcases h with ⟨a, p, rfl, ha, h⟩ | ⟨hf, hb, h⟩
  · walk_at "du"
    refine ⟨c, aD a, rfl, hn, hz, .inl ⟨⟨a, rfl, by rw [ha]; rfl⟩, ?_⟩⟩
    refine loopT_ind (I := fun rest ρ => ∃ (b : List Nat) (e : Code) (s : Sl), rest = b.map (fun i => D.int (i : Nat)) ∧ atC b e = some p ∧ ρ = [.dat e.toD, .dat (aD a), s]) ?_ ?_ ⟨a, c, .un, rfl, ha, rfl⟩
    · rintro ρ ⟨b, e, s, e1, e2, rfl⟩
      have : b = [] := by
        cases b with
        | nil => rfl
        | cons x l => cases e1
      subst this
      rw [atC_nil] at e2
      cases e2
      walk_at "dl"
      exact h
    · rintro x rest ρ N hN ⟨b, e, s, e1, e2, rfl⟩
      cases b with
      | nil => cases e1
      | cons i b =>
        obtain ⟨rfl, rfl⟩ := List.cons.inj e1
        obtain ⟨f, h1, h2⟩ := atC_step (i := i) (a := b) (c := e) (by rw [e2]; rfl)
        rw [atC_cons h1] at e2
        walk_at "dl"
        refine ⟨e, rfl, ?_⟩
        walk_at "dl"
        exact optK_of (kid_at h1) (hN _ ⟨b, f, _, rfl, e2, rfl⟩)
  · walk_at "du"
    exact ⟨c, d, rfl, hn, hz, .inr ⟨hf, hb, h⟩⟩
noncomputable def R_ptaV (C : Addr) (n : Nat) : RXD := fun ds k e => ∃ (c p : Code) (d : DL.D), ds = [c.toD, d, p.toD] ∧ c.dp ≤ n ∧ n ≤ 100 ∧ c.size < 2 ^ 10 ∧ ((∃ a, d = aD a ∧ (atC a c).isSome = true ∧ k (putC a c p).toD) ∨ (Fd d ∧ ¬ AdOf c d ∧ e ⟨C, some ("address", d)⟩))
theorem p_ptaV (C : Addr) (n : Nat) : ∀ ds κ e, R_ptaV C (n + 1) ds κ e → t_put_atV R_in R_withc (R_needV C 100) (R_ptaV C n) (fun x _ => e x) (endD κ) (enterS 4 ds) := by
  have hs : sizeLine = 16777216 := sizeLine_eq
  rintro ds κ e ⟨c, p, d, rfl, hn, hn2, hz, h⟩
  unfold t_put_atV
  rcases h with ⟨a, rfl, ha, h⟩ | ⟨hf, hb, h⟩
  · walk_at "du"
    refine ⟨c, aD a, rfl, by omega, hz, .inl ⟨⟨a, rfl, ha⟩, ?_⟩⟩
    cases a with
    | nil =>
      simp only [e0D, List.map_nil]
      simp only [putC] at h
      simpa [hs] using h
    | cons i a =>
      obtain ⟨d, h1, h2⟩ := atC_step ha
      have hm := List.mem_of_getElem? h1
      have k1 := kids_dp hm
      have k2 := sizes_mem hm
      have k3 := kids_sizes c
      have hi := (List.getElem?_eq_some_iff.mp h1).1
      have sl := sizes_len c.kids
      simp only [e0D, List.map_cons]
      walk_at "dl"
      refine ⟨by omega, ?_⟩
      rw [if_neg (by simp)]
      refine ⟨c, rfl, ?_⟩
      dsimp only
      walk_at "du"
      have hg : (Code.toDs c.kids)[i]? = some d.toD := by rw [toDs_map, List.getElem?_map, h1]; rfl
      have tg : ((Code.toDs c.kids).map Tr.d)[i]? = some (.d d.toD) := by rw [List.getElem?_map, hg]; rfl
      have ix : ixN ((Code.toDs c.kids).map Tr.d).length ((i : Nat) : Int) = some i := by
        unfold ixN
        rw [List.length_map, toDs_len, if_pos (by omega), if_pos (by omega), Int.toNat_natCast]
      refine ⟨d.toD, L2.atI_nat tg, d, p, aD a, rfl, by omega, by omega, by omega, .inl ⟨a, rfl, h2, i, ix, ⟨_, tg⟩, c, c.kids.set i (putC a d p), ?_, by rw [List.length_set], by rw [List.length_set]; omega, ?_⟩⟩
      · have e : ((Code.toDs c.kids).map Tr.d).set i (Tr.d (putC a d p).toD) = (Code.toDs (c.kids.set i (putC a d p))).map Tr.d := by
          rw [toDs_map, toDs_map, List.map_map, List.map_map, List.map_set]; rfl
        rw [e, toDs_d]
      · simp only [putC, h1] at h
        exact h
  · walk_at "du"
    exact ⟨c, d, rfl, by omega, hz, .inr ⟨hf, hb, h⟩⟩
/-! ### codes have a small weight -/
theorem wok_asci {x : Str} (h : wOk x = true) : asci x = true ∧ x.length ≤ 8 := by
  unfold wOk at h
  rw [Bool.and_eq_true, Bool.and_eq_true] at h
  exact ⟨low_asc h.1, of_decide_eq_true h.2.1⟩
theorem l4 : ("name" : Str).length = 4 ∧ ("given" : Str).length = 5 ∧ ("if" : Str).length = 2 ∧ ("with" : Str).length = 4 ∧ ("work" : Str).length = 4 ∧ ("call" : Str).length = 4 := by decide +kernel
theorem a4 : asci ("name" : Str) = true ∧ asci ("given" : Str) = true ∧ asci ("if" : Str) = true ∧ asci ("with" : Str) = true ∧ asci ("work" : Str) = true ∧ asci ("call" : Str) = true := by decide +kernel
mutual
theorem code_sm : ∀ c : Code, c.ok → Sm (16 * c.size) (2 * c.dp) 100 c.toD
  | .nm x, h => by
    simp only [Code.ok] at h
    obtain ⟨h1, h2⟩ := wok_asci h
    have := l4; have := a4
    refine ⟨?_, ?_, ?_, ?_⟩ <;> simp only [Code.toD, Code.size, Code.dp, shp, shps, wt, wts, hi, his, mg, mgs, a4, h1] <;> first | rfl | omega
  | .gv i, h => by
    simp only [Code.ok] at h
    have := l4; have := a4
    refine ⟨?_, ?_, ?_, ?_⟩ <;> simp only [Code.toD, Code.size, Code.dp, shp, shps, wt, wts, hi, his, mg, mgs, a4] <;> first | rfl | omega
  | .ite a b c d, h => by
    simp only [Code.ok] at h
    have := l4; have := a4
    have sa := code_sm a h.1
    have sb := code_sm b h.2.1
    have sc := code_sm c h.2.2.1
    have sd := code_sm d h.2.2.2
    obtain ⟨a1, a2, a3, a4'⟩ := sa
    obtain ⟨b1, b2, b3, b4⟩ := sb
    obtain ⟨c1, c2, c3, c4⟩ := sc
    obtain ⟨d1, d2, d3, d4⟩ := sd
    refine ⟨?_, ?_, ?_, ?_⟩ <;> simp only [Code.toD, Code.size, Code.dp, shp, shps, wt, wts, hi, his, mg, mgs, a4, a1, b1, c1, d1] <;> first | rfl | omega
  | .wth x a b, h => by
    simp only [Code.ok] at h
    have := l4; have := a4
    obtain ⟨h1, h2⟩ := wok_asci h.1
    obtain ⟨a1, a2, a3, a4'⟩ := code_sm a h.2.1
    obtain ⟨b1, b2, b3, b4⟩ := code_sm b h.2.2
    refine ⟨?_, ?_, ?_, ?_⟩ <;> simp only [Code.toD, Code.size, Code.dp, shp, shps, wt, wts, hi, his, mg, mgs, a4, h1, a1, b1] <;> first | rfl | omega
  | .app w f cs, h => by
    simp only [Code.ok] at h
    have := l4; have := a4
    obtain ⟨h1, h2⟩ := wok_asci h.1
    obtain ⟨a1, a2, a3, a4'⟩ := codes_sm cs h.2
    refine ⟨?_, ?_, ?_, ?_⟩ <;> simp only [Code.toD, Code.size, Code.dp, shp, shps, wt, wts, hi, his, mg, mgs, h1, a1] <;> cases w <;> (try simp only [if_true, Bool.false_eq_true, if_false, a4]) <;> first | rfl | omega
theorem codes_sm : ∀ cs : List Code, Code.oks cs → shps (Code.toDs cs) = true ∧ wts (Code.toDs cs) ≤ 16 * Code.sizes cs ∧ his (Code.toDs cs) ≤ 2 * Code.dps cs ∧ mgs (Code.toDs cs) ≤ 100
  | [], _ => by simp only [Code.toDs, shps, wts, his, mgs]; exact ⟨trivial, by omega, by omega, by omega⟩
  | c :: cs, h => by
    simp only [Code.oks] at h
    obtain ⟨b1, b2, b3, b4⟩ := code_sm c h.1
    obtain ⟨a1, a2, a3, a4'⟩ := codes_sm cs h.2
    simp only [Code.toDs, Code.sizes, Code.dps, shps, wts, his, mgs, b1, a1]
    exact ⟨by rfl, by omega, by omega, by omega⟩
end
/-! what repr asks, of data of any weight -/
mutual
theorem shp_okW : ∀ d : D, shp d = true → d.okW = true
  | .non, _ => by simp [D.okW]
  | .bl _, _ => by simp [D.okW]
  | .int _, _ => by simp [D.okW]
  | .str _, _ => by simp [D.okW]
  | .lst ds, h => by simp only [shp] at h; simp only [D.okW]; exact shps_okW ds h
  | .tup ds, h => by simp only [shp] at h; simp only [D.okW]; exact shps_okW ds h
  | .dic t es, h => by simp only [shp, Bool.and_eq_true] at h; simp only [D.okW, Bool.and_eq_true]; exact ⟨h.1, shpP_okW es h.2⟩
  | .ins _ _, h => by simp [shp] at h
  | .bag, h => by simp [shp] at h
  | .glb _, h => by simp [shp] at h
  | .lock _ _, h => by simp [shp] at h
  | .at _ _, h => by simp [shp] at h
theorem shps_okW : ∀ ds : List D, shps ds = true → D.okL ds = true
  | [], _ => by simp [D.okL]
  | d :: ds, h => by simp only [shps, Bool.and_eq_true] at h; simp only [D.okL, Bool.and_eq_true]; exact ⟨shp_okW d h.1, shps_okW ds h.2⟩
theorem shpP_okW : ∀ es : List (D × D), shpP es = true → D.okP es = true
  | [], _ => by simp [D.okP]
  | (k, v) :: es, h => by
    simp only [shpP, Bool.and_eq_true] at h
    obtain ⟨x, i, rfl, rfl, hx⟩ := kvS_of h.1
    simp only [D.okP, D.okW, Bool.and_eq_true]
    exact ⟨trivial, shpP_okW es h.2⟩
end
theorem Sm.shows2 {b h m : Nat} {d : D} (x : Sm b h m d) (hb : b ≤ 300000) (hh : h ≤ 140) (hm : m < 10 ^ 31) : d.okW = true ∧ d.pw.showable = true ∧ d.pw.depth ≤ 140 ∧ d.pw.shown.length ≤ sizeLine := by
  have hs : sizeLine = 16777216 := sizeLine_eq
  have m' : mg d < 10 ^ 31 := Nat.lt_of_le_of_lt x.m hm
  refine ⟨shp_okW d x.s, show_of d x.s m', Nat.le_trans (deep_of d x.s) (Nat.le_trans x.h hh), ?_⟩
  have h1 := PyData.shown_le_bulk 40 (by omega) d.pw (leaves_of d x.s m')
  have h2 := bulk_le d x.s
  have h3 := x.w
  have h4 : (40 + 2) * d.pw.bulk ≤ 42 * 300000 := Nat.mul_le_mul (Nat.le_refl _) (by omega)
  omega
mutual
theorem shp_okX : ∀ d : DL.D, shp d = true → d.okX = true
  | .non, _ => by simp only [D.okX]
  | .bl _, _ => by simp only [D.okX]
  | .int _, _ => by simp only [D.okX]
  | .str _, _ => by simp only [D.okX]
  | .lst ds, h => by simp only [shp] at h; simp only [D.okX]; exact shp_okXs ds h
  | .tup ds, h => by simp only [shp] at h; simp only [D.okX]; exact shp_okXs ds h
  | .dic t es, h => by simp only [shp, Bool.and_eq_true] at h; simp only [D.okX]; exact shp_okXP es h.2
  | .ins _ _, h => by simp [shp] at h
  | .bag, h => by simp [shp] at h
  | .glb _, h => by simp [shp] at h
  | .lock _ _, h => by simp [shp] at h
  | .at _ _, h => by simp [shp] at h
theorem shp_okXs : ∀ ds : List DL.D, shps ds = true → D.okXL ds = true
  | [], _ => by simp only [D.okXL]
  | d :: ds, h => by simp only [shps, Bool.and_eq_true] at h; simp only [D.okXL, Bool.and_eq_true]; exact ⟨shp_okX d h.1, shp_okXs ds h.2⟩
theorem shp_okXP : ∀ es : List (DL.D × DL.D), shpP es = true → D.okXP es = true
  | [], _ => by simp only [D.okXP]
  | (k, v) :: es, h => by
    simp only [shpP, Bool.and_eq_true] at h
    obtain ⟨x, i, rfl, rfl, _⟩ := kvS_of h.1
    simp only [D.okXP, D.okX, Bool.true_and]
    exact shp_okXP es h.2
end
mutual
theorem tall_hi2 : ∀ d : DL.D, shp d = true → d.tall ≤ hi d
  | .non, _ => by simp only [D.tall]; omega
  | .bl _, _ => by simp only [D.tall]; omega
  | .int _, _ => by simp only [D.tall]; omega
  | .str _, _ => by simp only [D.tall]; omega
  | .lst ds, h => by simp only [shp] at h; simp only [D.tall, hi]; have := tall_his ds h; omega
  | .tup ds, h => by simp only [shp] at h; simp only [D.tall, hi]; have := tall_his ds h; omega
  | .dic t es, h => by simp only [shp, Bool.and_eq_true] at h; simp only [D.tall, hi]; have := tall_P es h.2; omega
  | .ins _ _, h => by simp [shp] at h
  | .bag, h => by simp [shp] at h
  | .glb _, h => by simp [shp] at h
  | .lock _ _, h => by simp [shp] at h
  | .at _ _, h => by simp [shp] at h
theorem tall_his : ∀ ds : List DL.D, shps ds = true → D.tallL ds ≤ his ds
  | [], _ => by simp only [D.tallL]; omega
  | d :: ds, h => by
    simp only [shps, Bool.and_eq_true] at h
    simp only [D.tallL, his]
    have := tall_hi2 d h.1
    have := tall_his ds h.2
    omega
theorem tall_P : ∀ es : List (DL.D × DL.D), shpP es = true → D.tallP es = 0
  | [], _ => by simp only [D.tallP]
  | (k, v) :: es, h => by
    simp only [shpP, Bool.and_eq_true] at h
    obtain ⟨x, i, rfl, rfl, _⟩ := kvS_of h.1
    simp only [D.tallP, D.tall, tall_P es h.2]
    rfl
end
noncomputable def R_lalike : RD := fun ds k => ∃ d : DL.D, ds = [d, d] ∧ Sm 300000 138 (10 ^ 30) d ∧ d.comp = true ∧ k (.bl true)
theorem p_lalike : ∀ ds κ, R_lalike ds κ → t_L_alike (endD κ) (enterS 2 ds) := by
  have hs : sizeLine = 16777216 := sizeLine_eq
  rintro ds κ ⟨d, rfl, sm, hc, q⟩
  have hX := shp_okX d sm.s
  have hT := tall_hi2 d sm.s
  have hh := sm.h
  obtain ⟨_, h1, h2, h3⟩ := sm.shows2 (by omega) (by omega) (by decide)
  unfold t_L_alike
  walk_at "dl"
  simp only [eqSD]
  refine ⟨trivial, hX, by omega, hc, ?_⟩
  walk_at "dl"
  simp only [reprX]
  refine ⟨⟨hX, h1, h2, h3⟩, ⟨hX, h1, h2, h3⟩, ?_⟩
  walk_at "dl"
  exact q
/-! ### the names that are bound at an address -/
noncomputable def wn : Code → Nat → List Str
  | .wth x _ _, i => if i = 1 then [x] else []
  | _, _ => []
noncomputable def bnd : List Nat → Code → List Str
  | [], _ => []
  | i :: a, c => wn c i ++ match c.kids[i]? with
    | some d => bnd a d
    | none => []
theorem bnd_cons {i : Nat} {a : List Nat} {c d : Code} (h : c.kids[i]? = some d) : bnd (i :: a) c = wn c i ++ bnd a d := by simp only [bnd, h]
theorem wn_len (c : Code) (i : Nat) : (wn c i).length ≤ 1 := by
  cases c <;> simp only [wn] <;> first | (split <;> simp) | simp
noncomputable abbrev bndB : TSD := (seqT (iffT (andB (blT (DL.binT eqD (DL.binT ixD (nameT 0) (cT (.int 0))) (cT (.str "with")))) (blT (DL.binT eqD (nameT 3) (cT (.int 1))))) (mT 2 appD (consA (DL.binT ixD (nameT 0) (cT (.int 1))) nilA)) nextT)
    (setT 0 (DL.binT ixD (callT R_in (consA (nameT 0) nilA)) (nameT 3))))
theorem bnd_step {K : DE} {c d : Code} {i : Nat} {a0 : List Nat} {xs : List Str} (h1 : c.kids[i]? = some d) (hl : xs.length < 4000) (h : K.nx [.dat d.toD, .dat (aD a0), .tr (.l (((xs ++ wn c i).map D.str).map .d)), .dat (.int (i : Nat))]) : bndB K [.dat c.toD, .dat (aD a0), .tr (.l ((xs.map D.str).map .d)), .dat (.int (i : Nat))] := by
  have hs : sizeLine = 16777216 := sizeLine_eq
  have fin : ∀ ts, Tr.l ts = Tr.l (((xs ++ wn c i).map D.str).map .d) → (setT 0 (DL.binT ixD (callT R_in (consA (nameT 0) nilA)) (nameT 3))) K [.dat c.toD, .dat (aD a0), .tr (.l ts), .dat (.int (i : Nat))] := fun ts e => by
    rw [e]
    walk_at "dl"
    refine ⟨c, rfl, ?_⟩
    walk_at "dl"
    exact optK_of (kid_at h1) h
  cases c with
  | wth x p q =>
    generalize hT : (setT 0 _ : TSD) = tl at fin
    unfold bndB
    rw [hT]
    walk_at "cd"; walk_at "dl"; (try walk_at "cd")
    split
    · rename_i hi
      have hi' : i = 1 := by omega
      refine ⟨by simp; omega, fin _ ?_⟩
      simp only [wn, hi', if_true, List.map_append, List.map_cons, List.map_nil]
    · rename_i hi
      have hi' : ¬ i = 1 := by omega
      refine fin _ ?_
      simp only [wn, hi', if_false, List.append_nil]
  | nm x => simp [Code.kids] at h1
  | gv x => simp [Code.kids] at h1
  | ite p q r s =>
    generalize hT : (setT 0 _ : TSD) = tl at fin
    unfold bndB
    rw [hT]
    walk_at "cd"; walk_at "dl"; (try walk_at "cd")
    rw [if_neg (fun z => z)]
    exact fin _ (by simp only [wn, List.append_nil])
  | app w f cs =>
    generalize hT : (setT 0 _ : TSD) = tl at fin
    unfold bndB
    rw [hT]
    cases w <;> (walk_at "cd"; walk_at "dl"; (try walk_at "cd"); rw [if_neg (fun z => z)]; exact fin _ (by simp only [wn, List.append_nil]))
theorem bnd_loop {K : DE} {a0 : List Nat} {a : List Nat} {c : Code} {s3 : Sl} (ha : (atC a c).isSome = true) (hl : a.length < 2000) (h : ∀ (e : Code) (s3 : Sl), K.nx [.dat e.toD, .dat (aD a0), .tr (.l (((bnd a c).map D.str).map .d)), s3]) :
    loopT (.nm 3) bndB K (a.map fun i => .int (i : Nat)) [.dat c.toD, .dat (aD a0), .tr (.l []), s3] := by
  refine loopT_ind (I := fun rest ρ => ∃ (b : List Nat) (e : Code) (xs : List Str) (s3 : Sl), rest = b.map (fun i => .int (i : Nat)) ∧ (atC b e).isSome = true ∧ ρ = [.dat e.toD, .dat (aD a0), .tr (.l ((xs.map D.str).map .d)), s3] ∧ xs ++ bnd b e = bnd a c ∧ xs.length + b.length ≤ a.length) ?_ ?_ ⟨a, c, [], s3, rfl, ha, rfl, rfl, by simp⟩
  · rintro ρ ⟨b, e, xs, s3, e1, _, rfl, e2, _⟩
    have : b = [] := by
      cases b with
      | nil => rfl
      | cons x l => cases e1
    subst this
    simp only [bnd, List.append_nil] at e2
    rw [e2]
    exact h e s3
  · rintro x rest ρ N hN ⟨b, e, xs, s3, e1, ha, rfl, e2, hl2⟩
    cases b with
    | nil => cases e1
    | cons i b =>
      obtain ⟨rfl, rfl⟩ := List.cons.inj e1
      obtain ⟨f, h1, h2⟩ := atC_step ha
      rw [List.length_cons] at hl2
      have wl := wn_len e i
      show bndB _ _
      refine bnd_step h1 (by omega) (hN _ ⟨b, f, xs ++ wn e i, _, rfl, h2, rfl, ?_, by rw [List.length_append]; omega⟩)
      rw [← e2, bnd_cons h1, List.append_assoc]
theorem bnd_len : ∀ (a : List Nat) (c : Code), (bnd a c).length ≤ a.length
  | [], c => by simp [bnd]
  | i :: a, c => by
    have := wn_len c i
    simp only [bnd, List.length_append, List.length_cons]
    split
    · rename_i d _
      have := bnd_len a d
      omega
    · simp; omega
noncomputable abbrev bdW (a : List Nat) (c : Code) : List Str := DMS.srt (DMS.dd (bnd a c))
noncomputable def R_lbnd : RD := fun ds k => ∃ (c : Code) (a : List Nat), ds = [c.toD, aD a] ∧ (atC a c).isSome = true ∧ c.size < 2 ^ 10 ∧ k (.lst ((bdW a c).map .str))
theorem ad_len {a : List Nat} {c : Code} (ha : (atC a c).isSome = true) (hz : c.size < 2 ^ 10) : a.length < 1100 := by
  have := atC_len ha
  have := dp_wt c
  have := wt_size c
  omega
theorem p_lbnd : ∀ ds κ, R_lbnd ds κ → t_L_bound R_in (endD κ) (enterS 4 ds) := by
  have hs : sizeLine = 16777216 := sizeLine_eq
  rintro ds κ ⟨c, a, rfl, ha, hz, h⟩
  have al := ad_len ha hz
  have bl := bnd_len a c
  show seqT (newT 2 (lstF nilA)) (seqT (forT (.nm 3) (seqI (nameT 1)) bndB) _) _ _
  generalize hT : (frzT 2 (retT (ofF (sortSetF (consA (nameT 2) nilA)))) : TSD) = tl
  walk_at "dl"
  refine ⟨by omega, bnd_loop ha (by omega) fun e s3 => ?_⟩
  subst hT
  walk_at "dl"
  simp only [sortSetF]
  walk_at "dl"
  exact ⟨bnd a c, rfl, by omega, h⟩
noncomputable def R_bndV (C : Addr) (n : Nat) : RXT := fun ds k e => ∃ (c : Code) (d : DL.D), ds = [c.toD, d] ∧ c.dp ≤ n ∧ c.size < 2 ^ 10 ∧ ((∃ a, d = aD a ∧ (atC a c).isSome = true ∧ k (.l (((bdW a c).map D.str).map .d))) ∨ (Fd d ∧ ¬ AdOf c d ∧ e ⟨C, some ("address", d)⟩))
theorem p_bndV (C : Addr) (n : Nat) : ∀ ds κ e, R_bndV C n ds κ e → t_bound_atV R_in (R_needV C n) (fun x _ => e x) (endT κ) (enterS 4 ds) := by
  have hs : sizeLine = 16777216 := sizeLine_eq
  rintro ds κ e ⟨c, d, rfl, hn, hz, h⟩
  show seqT _ (seqT (newT 2 (lstF nilA)) (seqT (forT (.nm 3) (seqI (nameT 1)) bndB) _)) _ _
  rcases h with ⟨a, rfl, ha, h⟩ | ⟨hf, hb, h⟩
  · have al := ad_len ha hz
    have bl := bnd_len a c
    generalize hT : (frzT 2 (retR _) : TSD) = tl
    walk_at "du"
    refine ⟨c, aD a, rfl, hn, hz, .inl ⟨⟨a, rfl, ha⟩, ?_⟩⟩
    refine ⟨by omega, bnd_loop ha (by omega) fun e s3 => ?_⟩
    subst hT
    walk_at "du"
    simp only [sortSetF]
    walk_at "du"
    exact ⟨bnd a c, rfl, by omega, h⟩
  · generalize hT : (seqT (newT 2 _) _ : TSD) = tl
    walk_at "du"
    exact ⟨c, d, rfl, hn, hz, .inr ⟨hf, hb, h⟩⟩
/-! ### heard -/
noncomputable def resT (w : Nat) (a : List Nat) (c p q : Code) : Tr := match w with
  | 0 => .d (.tup [.str "told", q.toD])
  | 1 => .tp [.d (.str "told"), .l (((bdW a c).map D.str).map .d)]
  | _ => .tp [.d (.str "told"), .d (putC a c p).toD]
noncomputable def R_heard : RTD := fun ds k => ∃ (w : Nat) (c p : Code) (d : DL.D), ds = [.int (w : Nat), c.toD, d, p.toD] ∧ w < 3 ∧ c.dp ≤ 90 ∧ c.size < 2 ^ 10 ∧ ((∃ a q, d = aD a ∧ atC a c = some q ∧ k (resT w a c p q)) ∨ (Fd d ∧ ¬ AdOf c d ∧ k (.d (.tup [.str "none", d]))))
theorem p_heard (CF CN CW : Addr) (Sub : Addr → Prop) (isN isW : Addr → Bool) (hs1 : Sub CN) (hN : isN CN = true) (hW : isW CN = false) : ∀ ds κ, R_heard ds κ → t_L_heard (R_patV CN 100) (R_bndV CN 100) (R_ptaV CN 100) CF CN CW Sub isN isW (endT κ) (enterS 5 ds) := by
  have hs : sizeLine = 16777216 := sizeLine_eq
  rintro ds κ ⟨w, c, p, d, rfl, hw, hd, hz, h⟩
  unfold t_L_heard tryN
  rcases h with ⟨a, q, rfl, ha, h⟩ | ⟨hf, hb, h⟩
  · match w, hw with
    | 0, _ =>
      walk_at "du"
      rw [if_pos (by rfl)]
      exact ⟨c, aD a, rfl, by omega, hz, .inl ⟨a, q, rfl, ha, by omega, h⟩⟩
    | 1, _ =>
      walk_at "du"
      rw [if_neg (by decide), if_pos (by rfl)]
      exact ⟨c, aD a, rfl, by omega, hz, .inl ⟨a, rfl, by rw [ha]; rfl, by omega, h⟩⟩
    | 2, _ =>
      walk_at "du"
      rw [if_neg (by decide), if_neg (by decide)]
      exact ⟨c, p, aD a, rfl, by omega, by omega, hz, .inl ⟨a, rfl, by rw [ha]; rfl, by omega, h⟩⟩
  · have hs2 : 2 ≤ sizeLine := by omega
    match w, hw with
    | 0, _ =>
      walk_at "du"
      rw [if_pos (by rfl)]
      exact ⟨c, d, rfl, by omega, hz, .inr ⟨hf, hb, hs1, fun a => by rw [if_pos hN, if_pos hW]; exact ⟨d, rfl, hs2, h⟩⟩⟩
    | 1, _ =>
      walk_at "du"
      rw [if_neg (by decide), if_pos (by rfl)]
      exact ⟨c, d, rfl, by omega, hz, .inr ⟨hf, hb, hs1, fun a => by rw [if_pos hN, if_pos hW]; exact ⟨d, rfl, hs2, h⟩⟩⟩
    | 2, _ =>
      walk_at "du"
      rw [if_neg (by decide), if_neg (by decide)]
      exact ⟨c, p, d, rfl, by omega, by omega, hz, .inr ⟨hf, hb, hs1, fun a => by rw [if_pos hN, if_pos hW]; exact ⟨d, rfl, hs2, h⟩⟩⟩
/-! ### bodies with parts put -/
theorem dps_leM {m : Nat} : ∀ {cs : List Code}, (∀ c ∈ cs, c.dp ≤ m) → Code.dps cs ≤ m
  | [], _ => by simp [Code.dps]
  | c :: cs, h => by
    have h1 := h c List.mem_cons_self
    have h2 := dps_leM fun d hd => h d (List.mem_cons_of_mem c hd)
    simp only [Code.dps]
    omega
theorem re_dp {c : Code} {cs : List Code} {m : Nat} (hl : cs.length = c.kids.length) (hk : ∀ d ∈ cs, d.dp ≤ m) : (c.re cs).dp ≤ m + 1 := by
  cases c with
  | nm x => simp only [Code.re, Code.dp]; omega
  | gv i => simp only [Code.re, Code.dp]; omega
  | ite a b c d =>
    match cs, hl, hk with
    | [p, q, r, s], _, hk =>
      have h1 := hk p (by simp)
      have h2 := hk q (by simp)
      have h3 := hk r (by simp)
      have h4 := hk s (by simp)
      simp only [Code.re, Code.dp]; omega
  | wth x a b =>
    match cs, hl, hk with
    | [p, q], _, hk =>
      have h1 := hk p (by simp)
      have h2 := hk q (by simp)
      simp only [Code.re, Code.dp]; omega
  | app w f ks =>
    have := dps_leM hk
    simp only [Code.re, Code.dp]; omega
theorem re_size {c : Code} {cs : List Code} (hl : cs.length = c.kids.length) : (c.re cs).size ≤ 1 + Code.sizes cs := by
  cases c with
  | nm x => simp only [Code.re, Code.size]; omega
  | gv i => simp only [Code.re, Code.size]; omega
  | ite a b c d =>
    match cs, hl with
    | [p, q, r, s], _ => simp only [Code.re, Code.size, Code.sizes]; omega
  | wth x a b =>
    match cs, hl with
    | [p, q], _ => simp only [Code.re, Code.size, Code.sizes]; omega
  | app w f ks => simp only [Code.re, Code.size]; omega
theorem kids_ok2 {c : Code} (hc : c.ok) : ∀ d ∈ c.kids, d.ok := by
  cases c with
  | nm x => intro d hd; simp [Code.kids] at hd
  | gv i => intro d hd; simp [Code.kids] at hd
  | ite a b c d =>
    simp only [Code.ok] at hc
    intro e he
    simp only [Code.kids, List.mem_cons, List.not_mem_nil, or_false] at he
    rcases he with rfl | rfl | rfl | rfl
    · exact hc.1
    · exact hc.2.1
    · exact hc.2.2.1
    · exact hc.2.2.2
  | wth x a b =>
    simp only [Code.ok] at hc
    intro e he
    simp only [Code.kids, List.mem_cons, List.not_mem_nil, or_false] at he
    rcases he with rfl | rfl
    · exact hc.2.1
    · exact hc.2.2
  | app w f ks => simp only [Code.ok] at hc; exact oks_mem hc.2
theorem re_ok {c : Code} {cs : List Code} (hc : c.ok) (hl : cs.length = c.kids.length) (hk : ∀ d ∈ cs, d.ok) : (c.re cs).ok := by
  cases c with
  | nm x => simpa only [Code.re] using hc
  | gv i => simpa only [Code.re] using hc
  | ite a b c d =>
    match cs, hl, hk with
    | [p, q, r, s], _, hk =>
      simp only [Code.re, Code.ok]
      exact ⟨hk p (by simp), hk q (by simp), hk r (by simp), hk s (by simp)⟩
  | wth x a b =>
    match cs, hl, hk with
    | [p, q], _, hk =>
      simp only [Code.ok] at hc
      simp only [Code.re, Code.ok]
      exact ⟨hc.1, hk p (by simp), hk q (by simp)⟩
  | app w f ks =>
    simp only [Code.ok] at hc
    simp only [Code.re, Code.ok]
    exact ⟨hc.1, oks_of hk⟩
theorem sizes_set : ∀ {cs : List Code} {i : Nat} {d e : Code}, cs[i]? = some d → Code.sizes (cs.set i e) + d.size = Code.sizes cs + e.size
  | c :: cs, 0, d, e, h => by
    obtain rfl : c = d := by simpa using h
    simp only [List.set_cons_zero, Code.sizes]; omega
  | c :: cs, i + 1, d, e, h => by
    have := sizes_set (e := e) (show cs[i]? = some d by simpa using h)
    simp only [List.set_cons_succ, Code.sizes]; omega
  | [], i, d, e, h => by simp at h
theorem kids_size1 (c : Code) : c.size = 1 + Code.sizes c.kids := by
  cases c <;> simp only [Code.size, Code.kids, Code.sizes] <;> omega
theorem putC_facts {p : Code} (hp : p.ok) : ∀ (a : List Nat) (c : Code), c.ok → (putC a c p).ok ∧ (putC a c p).dp ≤ c.dp + p.dp ∧ (putC a c p).size ≤ c.size + p.size
  | [], c, hc => by simp only [putC]; exact ⟨hp, by omega, by omega⟩
  | i :: a, c, hc => by
    simp only [putC]
    split
    · rename_i d hd
      have hm := List.mem_of_getElem? hd
      obtain ⟨h1, h2, h3⟩ := putC_facts hp a d (kids_ok2 hc d hm)
      have kd := kids_dp hm
      have hl : (c.kids.set i (putC a d p)).length = c.kids.length := List.length_set
      have dp0 : 0 < c.dp := by cases c <;> simp only [Code.dp] <;> omega
      refine ⟨re_ok hc hl fun x hx => ?_, Nat.le_trans (re_dp (m := c.dp - 1 + p.dp) hl fun x hx => ?_) (by omega), Nat.le_trans (re_size hl) ?_⟩
      · rcases List.mem_or_eq_of_mem_set hx with hx | rfl
        · exact kids_ok2 hc x hx
        · exact h1
      · rcases List.mem_or_eq_of_mem_set hx with hx | rfl
        · have := kids_dp hx; omega
        · omega
      · have := sizes_set (e := putC a d p) hd
        have := kids_size1 c
        omega
    · exact ⟨hc, by omega, by omega⟩
theorem atC_facts : ∀ {a : List Nat} {c d : Code}, atC a c = some d → c.ok → d.ok ∧ d.dp ≤ c.dp ∧ d.size ≤ c.size
  | [], c, d, h, hc => by
    rw [atC_nil] at h
    cases h
    exact ⟨hc, Nat.le_refl _, Nat.le_refl _⟩
  | i :: a, c, d, h, hc => by
    obtain ⟨e, h1, h2⟩ := atC_step (i := i) (a := a) (c := c) (by rw [h]; rfl)
    rw [atC_cons h1] at h
    have hm := List.mem_of_getElem? h1
    obtain ⟨q1, q2, q3⟩ := atC_facts h (kids_ok2 hc e hm)
    have := kids_dp hm
    have := sizes_mem hm
    have := kids_size1 c
    exact ⟨q1, by omega, by omega⟩
/-! ### odd things whose tuples can be laid -/
noncomputable def lay3 : DL.D → Bool
  | .tup ds => PyData.canLayAll0 (D.pys ds)
  | _ => true
noncomputable def R_odd3 : RD := fun ds k => ds = [.bag] ∧ ∀ d, Sm 400 14 (10 ^ 30) d → lay3 d = true → k d
noncomputable def sm3 (d : DL.D) : Bool := smB d && lay3 d
theorem sm3_of {d : DL.D} (h : sm3 d = true) : Sm 400 14 (10 ^ 30) d ∧ lay3 d = true := by
  unfold sm3 at h
  rw [Bool.and_eq_true] at h
  exact ⟨(sm_of h.1).1, h.2⟩
theorem p_odd3 : ∀ ds κ, R_odd3 ds κ → t_L_odd R_some (endD κ) (enterS 4 ds) := by
  have hs : sizeLine = 16777216 := sizeLine_eq
  rintro ds κ ⟨rfl, h⟩
  unfold t_L_odd
  generalize hT : (seqT (setT 3 (ofF (lstF (consA (cT .non) _)))) _ : TSD) = tl
  walk_at "dx"
  refine ⟨by omega, by omega, ?_⟩
  refine loopT_ind (I := fun rest ρ => rest.length ≤ 12 ∧ ∃ u, ρ = [.dat .bag, .dat (tall (12 - rest.length)), u, .un]) ?_ ?_ ⟨by simp, .un, by simp [tall]⟩
  · rintro ρ ⟨_, u, rfl⟩
    subst hT
    walk_at "dx"
    refine ⟨cpow30, ?_⟩
    repeat refine ⟨by omega, ?_⟩
    refine .inr ?_
    repeat refine ⟨by omega, ?_⟩
    refine .inl ⟨_, rfl, by simp, by decide +kernel, fun x hx => h x (sm3_of (List.all_eq_true.mp ?_ x hx)).1 (sm3_of (List.all_eq_true.mp ?_ x hx)).2⟩
    all_goals decide +kernel
  · rintro d rest ρ N hN ⟨hl, u, rfl⟩
    rw [List.length_cons] at hl
    walk_at "dx"
    refine ⟨by omega, hN _ ⟨by omega, .dat d, ?_⟩⟩
    rw [show 12 - rest.length = (12 - (rest.length + 1)) + 1 by omega]; rfl
theorem up_ok : wOk "up" = true := by decide +kernel
theorem of_ok : wOk "of" = true := by decide +kernel
noncomputable def WsOk (ws : List Str) : Prop := Good ws ∧ ws ≠ [] ∧ ws.length ≤ 10
/-! ### deeper codes -/
noncomputable def R_deep : RD := fun ds k => ∃ (ws : List Str) (c : Code), ds = [.bag, .lst (ws.map .str), c.toD] ∧ WsOk ws ∧ c.ok ∧ ∀ c' : Code, c'.ok → c'.wt ≤ c.wt + 12 → c'.size ≤ c.size + 24 → k c'.toD
theorem at_last {ws : List Str} (h : ws ≠ []) : ∃ w ∈ ws, L2.atI (ws.map D.str) (-1) = some (.str w) := by
  have hl : 0 < ws.length := List.length_pos_iff.mpr h
  have hg : ws.length - 1 < ws.length := by omega
  refine ⟨ws[ws.length - 1], List.getElem_mem hg, ?_⟩
  unfold L2.atI
  have e : ixN (ws.map D.str).length (-1) = some (ws.length - 1) := by
    unfold ixN
    rw [if_neg (by omega), List.length_map, if_pos (by omega)]
    congr 1
    omega
  rw [e, Option.bind_some, List.getElem?_map, List.getElem?_eq_getElem hg]
  rfl
theorem at_first {ws : List Str} (h : ws ≠ []) : ∃ w ∈ ws, L2.atI (ws.map D.str) 0 = some (.str w) := by
  cases ws with
  | nil => exact absurd rfl h
  | cons w ws => exact ⟨w, List.mem_cons_self, atI_0⟩
theorem p_deep : ∀ ds κ, R_deep ds κ → t_L_deepened R_take (endD κ) (enterS 5 ds) := by
  have hs : sizeLine = 16777216 := sizeLine_eq
  rintro ds κ ⟨ws, c, rfl, hw, hc, q⟩
  unfold t_L_deepened
  walk_at "dl"
  refine ⟨13, rfl, by omega, by omega, fun i i0 i1 => ⟨5, rfl, by omega, by omega, fun j _ _ => ?_⟩⟩
  walk_at "dl"
  have im : ∃ m : Nat, (i * if j = 0 then 1 else 0) = (m : Int) ∧ m ≤ 12 := by
    split
    · exact ⟨i.toNat, by omega, by omega⟩
    · exact ⟨0, by omega, by omega⟩
  obtain ⟨m, em, m12⟩ := im
  rw [em]
  refine ⟨by split <;> exact .inr ⟨by omega, by omega⟩, by omega, ?_⟩
  rw [Int.toNat_natCast]
  refine loopT_ind (I := fun rest ρ => ∃ (c' : Code) (s3 s4 : Sl), ρ = [.dat .bag, .dat (.lst (ws.map .str)), .dat c'.toD, s3, s4] ∧ c'.ok ∧ c'.wt + rest.length ≤ c.wt + 12 ∧ c'.size + 2 * rest.length ≤ c.size + 24) ?_ ?_ ⟨c, _, _, rfl, hc, by simp; omega, by simp; omega⟩
  · rintro ρ ⟨c', s3, s4, rfl, h1, h2, h3⟩
    walk_at "dl"
    exact q c' h1 (by simpa using h2) (by simpa using h3)
  · rintro x rest ρ N hN ⟨c', s3, s4, rfl, h1, h2, h3⟩
    rw [List.length_cons] at h2 h3
    walk_at "dl"
    refine ⟨3, rfl, by omega, by omega, fun w w0 w3 => ?_⟩
    obtain ⟨f, hf, e1⟩ := at_first hw.2.1
    obtain ⟨l, hl, e2⟩ := at_last hw.2.1
    walk_at "dl"
    have h4 : 4 ≤ sizeLine := by omega
    have hN' : ∀ c2 : Code, c2.ok → c2.wt ≤ c'.wt + 1 → c2.size ≤ c'.size + 2 → N [.dat .bag, .dat (.lst (ws.map .str)), .dat c2.toD, .dat x, .dat (.int w)] := fun c2 a b d => hN _ ⟨c2, _, _, rfl, a, by omega, by omega⟩
    refine ⟨by omega, by omega, by omega, by omega, optK_of e1 (optK_of e2 ⟨by omega, by omega, by omega, ?_⟩)⟩
    have hw3 : w = 0 ∨ w = 1 ∨ w = 2 := by omega
    rcases hw3 with rfl | rfl | rfl
    · exact optK_of atI_0 (hN' (.app true "up" [c']) (by simp only [Code.ok, Code.oks, and_true]; exact ⟨up_ok, h1⟩) (by simp only [Code.wt, Code.wts]; omega) (by simp only [Code.size, Code.sizes]; omega))
    · exact optK_of atI_1 (hN' (.app false "of" [c']) (by simp only [Code.ok, Code.oks, and_true]; exact ⟨of_ok, h1⟩) (by simp only [Code.wt, Code.wts]; omega) (by simp only [Code.size, Code.sizes]; omega))
    · exact optK_of atI_2 (hN' (.wth f c' (.nm l)) (by simp only [Code.ok]; exact ⟨hw.1 f hf, h1, hw.1 l hl⟩) (by simp only [Code.wt]; omega) (by simp only [Code.size]; omega))
/-! ### places -/
/-- what is asked for -/
noncomputable def Pl (c : Code) (d : DL.D) : Prop := AdOf c d ∨ (Sm 2000 80 (10 ^ 30) d ∧ lay3 d = true ∧ fit d = true)
noncomputable def R_places : RD := fun ds k => ∃ c : Code, ds = [.bag, .lst (c.ads.map aD)] ∧ c.size < 2 ^ 7 ∧ c.dp ≤ 70 ∧ ∀ xs : List DL.D, (∀ x ∈ xs, Pl c x) → xs.length ≤ 20 → k (.lst xs)
theorem at_idx : ∀ {a : List Nat} {c : Code}, (atC a c).isSome = true → ∀ i ∈ a, i < c.size
  | [], _, _, _, h => nomatch h
  | j :: a, c, h, i, hi => by
    obtain ⟨d, h1, h2⟩ := atC_step h
    have hm := List.mem_of_getElem? h1
    have := sizes_mem hm
    have := kids_size1 c
    rcases List.mem_cons.mp hi with rfl | hi
    · have l : i < c.kids.length := by
        rcases Nat.lt_or_ge i c.kids.length with l | l
        · exact l
        · rw [List.getElem?_eq_none l] at h1; cases h1
      have : ∀ cs : List Code, cs.length ≤ Code.sizes cs := by
        intro cs
        induction cs with
        | nil => simp
        | cons c cs ih => have : 0 < c.size := by cases c <;> simp only [Code.size] <;> omega
                          simp only [List.length_cons, Code.sizes]; omega
      have := this c.kids
      omega
    · have := at_idx h2 i hi
      omega
theorem intz_all {c : Code} (hz : c.size < 2 ^ 7) : ∀ b : List Nat, (∀ i ∈ b, i < c.size ∨ i ≤ 1000) → shps (b.map fun i => D.int (i : Nat)) = true ∧ wts (b.map fun i => D.int (i : Nat)) = b.length ∧ his (b.map fun i => D.int (i : Nat)) ≤ 1 ∧ mgs (b.map fun i => D.int (i : Nat)) ≤ 1000 ∧ PyData.canLayAll0 (D.pys (b.map fun i => D.int (i : Nat))) = true ∧ fits (b.map fun i => D.int (i : Nat)) = true := by
    intro b
    induction b with
    | nil => intro _; decide
    | cons i b ih =>
      intro h
      obtain ⟨a1, a2, a3, a4, a5, a6⟩ := ih fun j hj => h j (List.mem_cons_of_mem _ hj)
      have := h i List.mem_cons_self
      refine ⟨by simp only [List.map_cons, shps, shp, a1, Bool.and_self], by simp only [List.map_cons, wts, wt, a2, List.length_cons]; omega, by simp only [List.map_cons, his, hi]; omega, by simp only [List.map_cons, mgs, mg]; omega, by simp only [List.map_cons, D.pys, D.py, PyData.canLayAll0, PyData.canLay0, a5, Bool.and_self], ?_⟩
      simp only [List.map_cons, fits, fit, a6, Bool.and_true, decide_eq_true_eq]
      exact Nat.lt_trans (by omega : ((i : Nat) : Int).natAbs < 2 ^ 13) (by decide)
theorem sm_addr {a : List Nat} {c : Code} (ha : (atC a c).isSome = true) (hz : c.size < 2 ^ 7) (hdp : c.dp ≤ 70) {e : DL.D} (he : e = .bl true ∨ ∃ i : Int, e = .int i ∧ i.natAbs ≤ 1000) : ∀ {b : List Nat}, b.length ≤ a.length → (∀ i ∈ b, i < c.size ∨ i ≤ 1000) → Pl c (.tup (b.map (fun i => .int (i : Nat)) ++ [e])) := by
  intro b hb hs
  right
  have al := atC_len ha
  have w := dp_wt c
  have z := wt_size c
  have se : shp e = true ∧ wt e = 1 ∧ hi e = 1 ∧ mg e ≤ 1000 ∧ e.py.canLay0 = true ∧ fit e = true := by
    rcases he with rfl | ⟨i, rfl, hi'⟩
    · decide
    · refine ⟨rfl, rfl, rfl, by simpa [mg] using hi', rfl, ?_⟩
      simp only [fit, decide_eq_true_eq]
      exact Nat.lt_of_le_of_lt hi' (by decide)
  obtain ⟨s1, s2, s3, s4, s5, s6⟩ := se
  obtain ⟨i1, i2, i3, i4, i5, i6⟩ := intz_all hz b hs
  refine ⟨⟨?_, ?_, ?_, ?_⟩, ?_, ?_⟩
  · simp only [shp, shps_app, i1, shps, s1, Bool.and_self]
  · simp only [wt, wts_app, i2, wts, s2]; omega
  · simp only [hi, his_app, his, s3]; omega
  · have : mgs (b.map (fun i => D.int (i : Nat)) ++ [e]) ≤ 1000 := by simp only [mgs_app, mgs]; omega
    simp only [mg]
    exact Nat.le_trans this (by decide)
  · have lapp : ∀ xs ys : List DL.D, PyData.canLayAll0 (D.pys (xs ++ ys)) = (PyData.canLayAll0 (D.pys xs) && PyData.canLayAll0 (D.pys ys)) := by
      intro xs ys
      induction xs with
      | nil => simp [D.pys, PyData.canLayAll0]
      | cons x xs ih => simp only [List.cons_append, D.pys, PyData.canLayAll0, ih, Bool.and_assoc]
    simp only [lay3, lapp, i5, D.pys, PyData.canLayAll0, s5, Bool.and_self]
  · have fapp : ∀ xs ys : List DL.D, fits (xs ++ ys) = (fits xs && fits ys) := by
      intro xs ys
      induction xs with
      | nil => simp [fits]
      | cons x xs ih => simp only [List.cons_append, fits, ih, Bool.and_assoc]
    simp only [fit, fapp, i6, fits, s6, Bool.and_self, Bool.and_true, decide_eq_true_eq, List.length_append, List.length_map, List.length_singleton]
    omega
theorem sm_list {a : List Nat} {c : Code} (ha : (atC a c).isSome = true) (hz : c.size < 2 ^ 7) (hdp : c.dp ≤ 70) (hs : ∀ i ∈ a, i < c.size ∨ i ≤ 1000) : Pl c (.lst (a.map fun i => .int (i : Nat))) := by
  right
  have al := atC_len ha
  obtain ⟨i1, i2, i3, i4, i5, i6⟩ := intz_all hz a hs
  refine ⟨⟨?_, ?_, ?_, ?_⟩, rfl, ?_⟩
  · simp only [shp, i1]
  · simp only [wt, i2]; omega
  · simp only [hi]; omega
  · simp only [mg]; exact Nat.le_trans i4 (by decide)
  · simp only [fit, i6, List.length_map, Bool.and_true, decide_eq_true_eq]; omega
theorem p_places : ∀ ds κ, R_places ds κ → t_L_places R_some R_take R_odd3 (endD κ) (enterS 5 ds) := by
  have hs : sizeLine = 16777216 := sizeLine_eq
  rintro ds κ ⟨c, rfl, hz, hdp, h⟩
  have hne : c.ads.map aD ≠ [] := by rw [ads_kids]; simp
  have hlen : (c.ads.map aD).length < 2 ^ 20 := by rw [List.length_map, ads_len]; omega
  have pick : ∀ κ' : DL.D → Prop, (∀ a, (atC a c).isSome = true → κ' (aD a)) → R_some [.bag, .lst (c.ads.map aD)] κ' := fun κ' q => .inl ⟨_, rfl, hne, hlen, fun x hx => by
    obtain ⟨a, ha, rfl⟩ := List.mem_map.mp hx
    exact q a (mem_ads.mp ha)⟩
  unfold t_L_places
  walk_at "dx"
  refine ⟨⟨by decide, by decide⟩, by simp; omega, ?_⟩
  refine compT_ind (R := fun _ e => Pl c e) (fun d hd κ' q => ?_) fun es he => ?_
  · walk_at "dx"
    exact pick _ fun a ha => q _ (.inl ⟨a, rfl, ha⟩)
  · have el : es.length = 3 := by
      have : ∀ {xs ys : List DL.D} {R : DL.D → DL.D → Prop}, All2 R xs ys → ys.length = xs.length := by
        intro xs ys R h
        induction h with
        | nil => rfl
        | cons _ _ ih => simp [ih]
      rw [this he]; simp
    have ep : ∀ e ∈ es, Pl c e := by
      generalize (List.map (fun i => D.int (i : Nat)) (List.range (Int.toNat 3))) = xs at he
      clear el
      induction he with
      | nil => exact fun _ z => nomatch z
      | cons hr _ ih =>
        intro e hm
        rcases List.mem_cons.mp hm with rfl | hm
        · exact hr
        · exact ih e hm
    rw [List.nil_append]
    refine pick _ fun a ha => ?_
    have al := atC_len ha
    walk_at "dx"
    have len20 : ∀ xs : List DL.D, xs.length ≤ 1000 → xs.length + 1 ≤ sizeLine := fun xs h => by omega
    have hal : (List.map (fun i => D.int (i : Nat)) a).length ≤ 1000 := by rw [List.length_map]; omega
    have hz' := at_idx ha
    have lay : ∀ b : List Nat, PyData.canLayAll0 (D.pys (b.map fun i => D.int (i : Nat))) = true ∧ PyData.depthAll (D.pys (b.map fun i => D.int (i : Nat))) = 0 := by
      intro b
      induction b with
      | nil => simp [D.pys, PyData.canLayAll0, PyData.depthAll]
      | cons i b ih => simp only [List.map_cons, D.pys, D.py, PyData.canLayAll0, PyData.canLay0, PyData.depthAll, PyData.depth, ih.1, ih.2]; simp
    refine ⟨4, rfl, by omega, by omega, fun j j0 j4 => ⟨by omega, len20 _ hal, by omega, ⟨?_, rfl, ?_⟩, ?_⟩⟩
    · simp only [D.py, PyData.canLay0, (lay a).1]
    · refine Nat.le_trans (Nat.min_le_left _ _) ?_
      simp only [D.py, PyData.depth, (lay a).2]
      omega
    have p1 : Pl c (.tup (List.map (fun i => D.int (i : Nat)) a ++ [.int j])) := sm_addr ha hz hdp (.inr ⟨j, rfl, by omega⟩) (Nat.le_refl _) fun i hi => .inl (hz' i hi)
    have p3 : Pl c (.lst (List.map (fun i => D.int (i : Nat)) a)) := sm_list ha hz hdp fun i hi => .inl (hz' i hi)
    have p4 : Pl c (.tup (List.map (fun i => D.int (i : Nat)) a ++ [.bl true])) := sm_addr ha hz hdp (.inl rfl) (Nat.le_refl _) fun i hi => .inl (hz' i hi)
    have p5 : Pl c (.tup (List.map (fun i => D.int (i : Nat)) a ++ [.int (-1)])) := sm_addr ha hz hdp (.inr ⟨-1, rfl, by decide⟩) (Nat.le_refl _) fun i hi => .inl (hz' i hi)
    have odd : ∀ d, Sm 400 14 (10 ^ 30) d → lay3 d = true → Pl c d := fun d q1 q2 => .inr ⟨q1.mono (by omega) (by omega) (Nat.le_refl _), q2, shp_fit d q1.s (by have := q1.w; omega) (Nat.lt_of_le_of_lt q1.m (by decide))⟩
    have fin : ∀ p2 : DL.D, Pl c p2 → R_odd3 [.bag] fun d2 => R_odd3 [.bag] fun d3 => 4 ≤ sizeLine ∧ (es ++ [D.tup (List.map (fun i => D.int (i : Nat)) a ++ [.int j]), p2, D.lst (List.map (fun i => D.int (i : Nat)) a)]).length + 4 ≤ sizeLine ∧ κ (.lst (es ++ [D.tup (List.map (fun i => D.int (i : Nat)) a ++ [.int j]), p2, D.lst (List.map (fun i => D.int (i : Nat)) a)] ++ [D.tup (List.map (fun i => D.int (i : Nat)) a ++ [.bl true]), D.tup (List.map (fun i => D.int (i : Nat)) a ++ [.int (-1)]), d2, d3])) := fun p2 hp2 => by
      refine ⟨rfl, fun d2 q1 q2 => ⟨rfl, fun d3 r1 r2 => ⟨by omega, by simp only [List.length_append, List.length_cons, List.length_nil, el]; omega, h _ (fun x hx => ?_) (by simp only [List.length_append, List.length_cons, List.length_nil, el]; omega)⟩⟩⟩
      simp only [List.mem_append, List.mem_cons, List.not_mem_nil, or_false] at hx
      rcases hx with (hx | rfl | rfl | rfl) | rfl | rfl | rfl | rfl
      · exact ep x hx
      · exact p1
      · exact hp2
      · exact p3
      · exact p4
      · exact p5
      · exact odd _ q1 q2
      · exact odd _ r1 r2
    have e0 : (D.tup (List.map (fun i => D.int (i : Nat)) a)).py.eqv (D.tup []).py = a.isEmpty := by
      cases a <;> simp [D.py, D.pys, PyData.eqv, PyData.eqvAll]
    rw [e0]
    rcases List.eq_nil_or_concat a with rfl | ⟨b, i, rfl⟩
    · rw [if_neg (by simp)]
      walk_at "dx"
      have e9 : cutL ([] : List DL.D) none (some (-1)) = ([] : List Nat).map fun i => D.int (i : Nat) := by simp [cutL]
      rw [e9]
      refine ⟨by omega, len20 _ (by simp), by omega, by omega, by omega, by omega, by omega, by omega, fin _ (sm_addr (b := []) ha hz hdp (.inr ⟨9, rfl, by decide⟩) (Nat.le_refl _) fun i hi => nomatch hi)⟩
    · rw [if_pos (by simp)]
      have ea : atI (List.map (fun i => D.int (i : Nat)) (b.concat i)) (-1) = some (.int (i : Nat)) := by
        unfold atI
        have : ixN (List.map (fun i => D.int (i : Nat)) (b.concat i)).length (-1) = some b.length := by
          unfold ixN
          rw [if_neg (by omega), List.length_map, List.concat_eq_append, List.length_append, List.length_singleton, if_pos (by omega)]
          congr 1
          omega
        rw [this, Option.bind_some, List.concat_eq_append, List.map_append, List.getElem?_append_right (by simp), List.length_map, Nat.sub_self]
        rfl
      have ec : cutL (List.map (fun i => D.int (i : Nat)) (b.concat i)) none (some (-1)) = b.map fun i => D.int (i : Nat) := by
        rw [List.concat_eq_append, List.map_append]
        have : ∀ (xs : List DL.D) (x : DL.D), cutL (xs ++ [x]) none (some (-1)) = xs := by
          intro xs x
          have e1 : HT.sIx (xs ++ [x]).length 0 none = 0 := rfl
          have e2 : HT.sIx (xs ++ [x]).length (xs ++ [x]).length (some (-1)) = xs.length := by
            show (if (-1 : Int) < 0 then ((-1 : Int) + (((xs ++ [x]).length : Nat) : Int)).toNat else min (-1 : Int).toNat (xs ++ [x]).length) = _
            rw [if_pos (by omega), List.length_append, List.length_singleton]; omega
          unfold cutL
          rw [e1, e2]
          simp
        exact this _ _
      rw [ea, ec]
      have ib := hz' i (by simp)
      refine optK_of rfl ?_
      walk_at "dx"
      refine ⟨by omega, len20 _ (by rw [List.length_map]; rw [List.length_map, List.length_concat] at hal; omega), by omega, by omega, by omega, len20 _ hal, by omega, len20 _ hal, fin _ (sm_addr (b := b) ha hz hdp (.inr ⟨((i : Nat) : Int) + 1, rfl, by omega⟩) (by simp) fun k hk => .inl (hz' k (by simp [hk])))⟩
/-! ### the law: is it an address -/
noncomputable abbrev ρJ (s2 s3 s4 s5 s6 s7 s8 s9 s10 s11 s12 s13 s14 s15 : Sl) : List Sl := [.un, .dat .bag, s2, s3, s4, s5, s6, s7, s8, s9, s10, s11, s12, s13, s14, s15]
noncomputable abbrev cS (c : Code) : Sl := .dat c.toD
noncomputable abbrev adS (c : Code) : Sl := .dat (.lst (c.ads.map aD))
noncomputable def isBl : DL.D → Bool
  | .bl _ => true
  | _ => false
theorem isB_bool {d : DL.D} (h : fit d = true) : isB d "bool" = some (isBl d) := by
  cases d with
  | non => exact ib_bool_NoneType
  | bl b => exact ib_bool_bool
  | int i => exact ib_bool_int
  | str x => exact ib_bool_str
  | lst ds => exact ib_bool_list
  | tup ds => exact ib_bool_tuple
  | dic t es => cases t <;> first | exact ib_bool_dict | simp [fit] at h
  | ins C fs => simp [fit] at h
  | bag => simp [fit] at h
  | glb a => simp [fit] at h
  | lock a b => simp [fit] at h
  | «at» a b => simp [fit] at h
theorem comp_bools {ρ : List Sl} (hl : 15 < ρ.length) {k : List DL.D → Prop} : ∀ {ds acc : List DL.D}, (∀ d ∈ ds, fit d = true) → k (acc ++ ds.filter isBl) → compT (.nm 15) (truT (isiT "bool" (nameT 15))) (nameT 15) ρ ds acc k
  | [], acc, _, hk => by simpa [compT] using hk
  | d :: ds, acc, h, hk => by
    have e15 : (ρ.set 15 (.dat d))[15]? = some (.dat d) := List.getElem?_set_self hl
    have hf := h d List.mem_cons_self
    show truT (isiT "bool" (nameT 15)) (ρ.set 15 (.dat d)) _
    simp only [truT, isiT, nameT, e15]
    rw [isB_bool hf]
    simp only [optK_some]
    rw [truD_b]
    have ih : ∀ acc, k (acc ++ ds.filter isBl) → compT (.nm 15) (truT (isiT "bool" (nameT 15))) (nameT 15) ρ ds acc k := fun acc q => comp_bools hl (fun e he => h e (List.mem_cons_of_mem _ he)) q
    cases q : isBl d with
    | true =>
      rw [List.filter_cons, if_pos q] at hk
      refine ih _ ?_
      rw [List.append_assoc]
      exact hk
    | false =>
      rw [List.filter_cons, if_neg (by rw [q]; decide)] at hk
      exact ih _ hk
theorem eqv_ints : ∀ {a : List Nat} {ds : List DL.D}, PyData.eqvAll (D.pys (a.map fun i => D.int (i : Nat))) (D.pys ds) = true → ds.filter isBl = [] → fits ds = true → ds = a.map fun i => .int (i : Nat)
  | [], [], _, _, _ => rfl
  | [], d :: ds, h, _, _ => by simp [D.pys, PyData.eqvAll] at h
  | i :: a, [], h, _, _ => by simp [D.pys, PyData.eqvAll] at h
  | i :: a, d :: ds, h, hb, hf => by
    simp only [List.map_cons, D.pys, PyData.eqvAll, Bool.and_eq_true] at h
    simp only [fits, Bool.and_eq_true] at hf
    cases d with
    | int j =>
      have e : ((i : Nat) : Int) = j := by simpa [D.py, PyData.eqv] using h.1
      rw [List.filter_cons, if_neg (by simp [isBl])] at hb
      rw [List.map_cons, ← eqv_ints h.2 hb hf.2, e]
    | bl b => rw [List.filter_cons, if_pos (by simp [isBl])] at hb; cases hb
    | «at» a b => simp [fit] at hf
    | _ => simp [D.py, PyData.eqv] at h
mutual
theorem py_deep : ∀ d : DL.D, shp d = true → d.py.depth ≤ hi d
  | .non, _ => by simp [D.py, PyData.depth]
  | .bl _, _ => by simp [D.py, PyData.depth]
  | .int _, _ => by simp [D.py, PyData.depth]
  | .str _, _ => by simp [D.py, PyData.depth]
  | .lst ds, h => by simp only [shp] at h; have := pys_deep ds h; simp only [D.py, PyData.depth, hi]; omega
  | .tup ds, h => by simp only [shp] at h; have := pys_deep ds h; simp only [D.py, PyData.depth, hi]; omega
  | .dic t es, h => by simp only [D.py, PyData.depth, hi, PyData.depthKv]; omega
  | .ins _ _, h => by simp [shp] at h
  | .bag, h => by simp [shp] at h
  | .glb _, h => by simp [shp] at h
  | .lock _ _, h => by simp [shp] at h
  | .at _ _, h => by simp [shp] at h
theorem pys_deep : ∀ ds : List DL.D, shps ds = true → PyData.depthAll (D.pys ds) ≤ his ds
  | [], _ => by simp [D.pys, PyData.depthAll]
  | d :: ds, h => by
    simp only [shps, Bool.and_eq_true] at h
    have := py_deep d h.1
    have := pys_deep ds h.2
    simp only [D.pys, PyData.depthAll, his]; omega
end
noncomputable abbrev w9a : TSD := (setT 10 (andT (isiT "tuple" (nameT 9)) (DL.binT inD (nameT 9) (nameT 6))))
noncomputable abbrev w9b : TSD := (setT 10 (andT (nameT 10) (DL.binT e0D (ofF (lcF (.nm 15) (seqI (nameT 9)) (truT (isiT "bool" (nameT 15))) (nameT 15) [15])) (ofF (lstF nilA)))))
section
variable {K : DE} {s2 s3 s4 s5 s6 s7 s8 s9 s10 s11 s12 s13 s14 s15 : Sl} {c : Code} {d : DL.D}
theorem w9b_f (h : K.nx (ρJ s2 s3 s4 s5 s6 s7 s8 s9 (.dat (.bl false)) s11 s12 s13 s14 s15)) : w9b K (ρJ s2 s3 s4 s5 s6 s7 s8 s9 (.dat (.bl false)) s11 s12 s13 s14 s15) := by
  have hs : sizeLine = 16777216 := sizeLine_eq
  unfold w9b ρJ
  walk_at "dx"
  exact h
theorem w9b_t {ds : List DL.D} (hf : fits ds = true) (hl : ds.length ≤ 5000) (h : K.nx (ρJ s2 s3 s4 s5 s6 s7 s8 (.dat (.tup ds)) (.dat (.bl (ds.filter isBl).isEmpty)) s11 s12 s13 s14 s15)) : w9b K (ρJ s2 s3 s4 s5 s6 s7 s8 (.dat (.tup ds)) (.dat (.bl true)) s11 s12 s13 s14 s15) := by
  have hs : sizeLine = 16777216 := sizeLine_eq
  have fm : ∀ {ds : List DL.D}, fits ds = true → ∀ d ∈ ds, fit d = true := by
    intro ds
    induction ds with
    | nil => exact fun _ _ z => nomatch z
    | cons d ds ih =>
      intro h e he
      simp only [fits, Bool.and_eq_true] at h
      rcases List.mem_cons.mp he with rfl | he
      · exact h.1
      · exact ih h.2 e he
  unfold w9b ρJ
  walk_at "dx"
  refine ⟨by omega, comp_bools (by simp) (fm hf) ?_⟩
  exact ⟨by omega, h⟩
theorem w9a_f (hd : isB d "tuple" = some false) (h : K.nx (ρJ s2 s3 s4 s5 s6 s7 s8 (.dat d) (.dat (.bl false)) s11 s12 s13 s14 s15)) : w9a K (ρJ s2 s3 s4 s5 s6 s7 s8 (.dat d) s10 s11 s12 s13 s14 s15) := by
  unfold w9a ρJ
  walk_at "dx"
  rw [hd]
  refine optK_of rfl ?_
  walk_at "dx"
  exact h
theorem w9a_t {ds : List DL.D} (hi : inOk (.tup ds) (c.ads.map aD)) (h : K.nx (ρJ s2 s3 s4 s5 (adS c) s7 s8 (.dat (.tup ds)) (.dat (.bl ((c.ads.map aD).any fun z => z.py.eqv (D.tup ds).py))) s11 s12 s13 s14 s15)) : w9a K (ρJ s2 s3 s4 s5 (adS c) s7 s8 (.dat (.tup ds)) s10 s11 s12 s13 s14 s15) := by
  unfold w9a ρJ
  walk_at "dx"
  exact ⟨hi, h⟩
end
theorem isB_tuple {d : DL.D} (h : fit d = true) : isB d "tuple" = some false ∨ ∃ ds, d = .tup ds := by
  cases d with
  | non => exact .inl ib_tuple_NoneType
  | bl b => exact .inl ib_tuple_bool
  | int i => exact .inl ib_tuple_int
  | str x => exact .inl ib_tuple_str
  | lst ds => exact .inl ib_tuple_list
  | tup ds => exact .inr ⟨_, rfl⟩
  | dic t es => cases t <;> first | exact .inl ib_tuple_dict | simp [fit] at h
  | ins C fs => simp [fit] at h
  | bag => simp [fit] at h
  | glb a => simp [fit] at h
  | lock a b => simp [fit] at h
  | «at» a b => simp [fit] at h
/-! ### codes drawn -/
structure Cd (c : Code) : Prop where
  o : c.ok
  d : c.dp ≤ 60
  z : c.size ≤ 64
structure Pt (p : Code) : Prop where
  o : p.ok
  d : p.dp ≤ 7
  z : p.size ≤ 6
theorem seqd {A B : TSD} {K : DE} {ρ : List Sl} (h : A { K with nx := B K } ρ) : seqT A B K ρ := h
theorem no_bl (a : List Nat) : (a.map fun i => D.int (i : Nat)).filter isBl = [] := by
  induction a with
  | nil => rfl
  | cons i a ih => rw [List.map_cons, List.filter_cons, if_neg (by simp [isBl])]; exact ih
section
variable {K : DE} {s2 s3 s4 s5 s6 s7 s8 s9 s10 s11 s12 s13 s14 s15 : Sl} {c : Code} {d : DL.D}
theorem one_ok {S : TSD} (hc : Cd c) (hd : Pl c d) (h1 : AdOf c d → S K (ρJ s2 s3 s4 s5 (adS c) s7 s8 (.dat d) (.dat (.bl true)) s11 s12 s13 s14 s15)) (h2 : ¬ AdOf c d → Sm 2000 80 (10 ^ 30) d → S K (ρJ s2 s3 s4 s5 (adS c) s7 s8 (.dat d) (.dat (.bl false)) s11 s12 s13 s14 s15)) :
    (seqT w9a (seqT w9b S)) K (ρJ s2 s3 s4 s5 (adS c) s7 s8 (.dat d) s10 s11 s12 s13 s14 s15) := by
  have hz := hc.z
  have hdp := hc.d
  by_cases had : AdOf c d
  · obtain ⟨a, rfl, ha⟩ := id had
    have e := any_adrs a c.ads
    rw [decide_eq_true (mem_ads.mpr ha)] at e
    have hfa := fit_aD had (by omega)
    have al := ad_len ha (by omega)
    show w9a _ _
    unfold aD
    refine w9a_t (adr_in a c.ads) ?_
    rw [show ((c.ads.map aD).any fun z => z.py.eqv (D.tup (a.map fun i => D.int (i : Nat))).py) = true from e]
    refine seqd (w9b_t ?_ (by rw [List.length_map]; omega) ?_)
    · simp only [aD, fit, Bool.and_eq_true] at hfa
      exact hfa.2
    · rw [no_bl]
      exact h1 had
  · rcases hd with hd | ⟨hsm, hl, hf⟩
    · exact absurd hd had
    · have q2 := h2 had hsm
      show w9a _ _
      rcases isB_tuple hf with hb | ⟨ds, rfl⟩
      · refine w9a_f hb ?_
        exact seqd (w9b_f q2)
      · have hin : inOk (.tup ds) (c.ads.map aD) := ⟨by simpa only [lay3, D.py, PyData.canLay0] using hl, adrs_lay _, Nat.le_trans (py_deep _ hsm.s) (Nat.le_trans hsm.h (by decide))⟩
        refine w9a_t hin ?_
        have hfs : fits ds = true := by
          simp only [fit, Bool.and_eq_true] at hf
          exact hf.2
        have hlen : ds.length ≤ 5000 := by
          have := wts_len ds
          have := hsm.w
          simp only [wt] at this
          omega
        cases e : ((c.ads.map aD).any fun z => z.py.eqv (D.tup ds).py) with
        | false => exact seqd (w9b_f q2)
        | true =>
          refine seqd (w9b_t hfs hlen ?_)
          cases e2 : (ds.filter isBl).isEmpty with
          | false => exact q2
          | true =>
            obtain ⟨x, hx, e3⟩ := List.any_eq_true.mp e
            obtain ⟨a, ha, rfl⟩ := List.mem_map.mp hx
            have := eqv_ints (a := a) (ds := ds) (by simpa only [aD, D.py, PyData.eqv] using e3) (List.isEmpty_iff.mp e2) hfs
            exact absurd ⟨a, by rw [this], mem_ads.mp ha⟩ had
end
/-! ### what is due -/
noncomputable abbrev noneD (d : DL.D) : DL.D := .tup [.str "none", d]
noncomputable abbrev toldD (d : DL.D) : DL.D := .tup [.str "told", d]
noncomputable abbrev dueN (d : DL.D) : DL.D := .lst [noneD d, noneD d, noneD d]
noncomputable abbrev dueT (a : List Nat) (c p q : Code) : DL.D := .lst [toldD q.toD, toldD (.lst ((bdW a c).map .str)), toldD (putC a c p).toD]
theorem tn_len : ("told" : Str).length = 4 ∧ ("none" : Str).length = 4 ∧ asci ("told" : Str) = true ∧ asci ("none" : Str) = true := by decide +kernel
theorem dueN_sm {d : DL.D} (h : Sm 2000 80 (10 ^ 30) d) : Sm 300000 138 (10 ^ 30) (dueN d) ∧ (dueN d).comp = true := by
  obtain ⟨t1, t2, t3, t4⟩ := tn_len
  obtain ⟨h1, h2, h3, h4⟩ := h
  refine ⟨⟨?_, ?_, ?_, ?_⟩, rfl⟩ <;> simp only [shp, shps, wt, wts, hi, his, mg, mgs, t1, t2, t3, t4, h1]
  · rfl
  · omega
  · omega
  · simpa using h4
theorem strs_sm : ∀ {xs : List Str}, (∀ x ∈ xs, asci x = true ∧ x.length ≤ 8) → shps (xs.map D.str) = true ∧ wts (xs.map D.str) ≤ 9 * xs.length ∧ his (xs.map D.str) ≤ 1 ∧ mgs (xs.map D.str) = 0
  | [], _ => by simp [shps, wts, his, mgs]
  | x :: xs, h => by
    obtain ⟨a, b⟩ := h x List.mem_cons_self
    obtain ⟨h1, h2, h3, h4⟩ := strs_sm fun y hy => h y (List.mem_cons_of_mem _ hy)
    refine ⟨?_, ?_, ?_, ?_⟩ <;> simp only [List.map_cons, List.length_cons, shps, shp, wts, wt, his, hi, mgs, mg, a, h1, h4]
    · rfl
    · omega
    · omega
    · rfl
theorem wn_ok {c : Code} (hc : c.ok) (i : Nat) : ∀ x ∈ wn c i, asci x = true ∧ x.length ≤ 8 := by
  intro x hx
  cases c with
  | wth y p q =>
    simp only [wn] at hx
    split at hx
    · simp only [List.mem_singleton] at hx
      subst hx
      simp only [Code.ok] at hc
      exact wok_asci hc.1
    · cases hx
  | _ => simp [wn] at hx
theorem bnd_ok : ∀ {a : List Nat} {c : Code}, c.ok → ∀ x ∈ bnd a c, asci x = true ∧ x.length ≤ 8
  | [], c, _, x, hx => by simp [bnd] at hx
  | i :: a, c, hc, x, hx => by
    simp only [bnd, List.mem_append] at hx
    rcases hx with hx | hx
    · exact wn_ok hc i x hx
    · split at hx
      · rename_i d hd
        exact bnd_ok (kids_ok2 hc d (List.mem_of_getElem? hd)) x hx
      · cases hx
theorem dd_len (xs : List Str) : (DMS.dd xs).length ≤ xs.length := DPS.nd_le (DMS.dd_nd xs) fun x hx => DMS.dd_mem.mp hx
theorem bdW_ok {a : List Nat} {c : Code} (hc : c.ok) : (∀ x ∈ bdW a c, asci x = true ∧ x.length ≤ 8) ∧ (bdW a c).length ≤ a.length := by
  have p := DMS.srt_perm (DMS.dd (bnd a c))
  constructor
  · intro x hx
    exact bnd_ok hc x (DMS.dd_mem.mp (p.mem_iff.mp hx))
  · rw [p.length_eq]
    exact Nat.le_trans (dd_len _) (bnd_len a c)
theorem dueT_sm {a : List Nat} {c p q : Code} (hc : Cd c) (hp : Pt p) (hq : atC a c = some q) : Sm 300000 138 (10 ^ 30) (dueT a c p q) ∧ (dueT a c p q).comp = true := by
  obtain ⟨t1, t2, t3, t4⟩ := tn_len
  obtain ⟨q0, q1, q2⟩ := atC_facts hq hc.o
  obtain ⟨p0, p1, p2⟩ := putC_facts hp.o a c hc.o
  have al := atC_len (a := a) (c := c) (by rw [hq]; rfl)
  obtain ⟨b1, b2⟩ := bdW_ok (a := a) hc.o
  obtain ⟨e1, e2, e3, e4⟩ := strs_sm b1
  obtain ⟨f1, f2, f3, f4⟩ := code_sm q q0
  obtain ⟨g1, g2, g3, g4⟩ := code_sm _ p0
  have hd := hc.d
  have hz := hc.z
  have pd := hp.d
  have pz := hp.z
  have big : (100 : Nat) ≤ 10 ^ 30 := by decide
  refine ⟨⟨?_, ?_, ?_, ?_⟩, rfl⟩ <;> simp only [shp, shps, wt, wts, hi, his, mg, mgs, t1, t2, t3, t4, e1, f1, g1, e4]
  · rfl
  · omega
  · omega
  · simp only [Nat.max_le]
    refine ⟨⟨by omega, by omega, by omega⟩, ⟨by omega, by omega, by omega⟩, ⟨by omega, by omega, by omega⟩, by omega⟩
theorem ads_sm {c : Code} (hc : Cd c) : Sm 300000 138 (10 ^ 30) (.lst (c.ads.map aD)) ∧ (DL.D.lst (c.ads.map aD)).comp = true := by
  have hz := hc.z
  have hd := hc.d
  have main : ∀ as : List (List Nat), (∀ a ∈ as, (atC a c).isSome = true) → shps (as.map aD) = true ∧ wts (as.map aD) ≤ 70 * as.length ∧ his (as.map aD) ≤ 2 ∧ mgs (as.map aD) ≤ 1000 := by
    intro as
    induction as with
    | nil => intro _; simp [shps, wts, his, mgs]
    | cons a as ih =>
      intro h
      obtain ⟨h1, h2, h3, h4⟩ := ih fun b hb => h b (List.mem_cons_of_mem _ hb)
      have ha := h a List.mem_cons_self
      obtain ⟨i1, i2, i3, i4, i5, i6⟩ := intz_all (c := c) (by omega) a fun i hi => .inl (at_idx ha i hi)
      have al := atC_len ha
      refine ⟨?_, ?_, ?_, ?_⟩ <;> simp only [List.map_cons, List.length_cons, aD, shps, shp, wts, wt, his, hi, mgs, mg, i1, i2]
      · rw [h1]; rfl
      · omega
      · omega
      · omega
  obtain ⟨h1, h2, h3, h4⟩ := main c.ads fun a ha => mem_ads.mp ha
  rw [ads_len] at h2
  refine ⟨⟨?_, ?_, ?_, ?_⟩, rfl⟩ <;> simp only [shp, wt, hi, mg]
  · exact h1
  · omega
  · omega
  · exact Nat.le_trans h4 (by decide)
/-! ### the law's steps -/
noncomputable abbrev w9c : TSD := (setT 11 (DL.binT mulD (ofF (lstF (consA (tupT (consA (cT (.str "none")) (consA (nameT 9) nilA))) nilA))) (cT (.int 3))))
noncomputable abbrev w9d : TSD := (iffT (truT (nameT 10)) (seqT (setT 12 (ofF (lstF (consA (callT R_lat (consA (nameT 4) (consA (nameT 9) nilA))) (consA (callT R_lbnd (consA (nameT 4) (consA (nameT 9) nilA))) (consA (callT (R_lput 100) (consA (nameT 4) (consA (nameT 9) (consA (nameT 5) nilA)))) nilA)))))) (setT 11 (ofF (lcF (.nm 15) (seqI (nameT 12)) yesT (tupT (consA (cT (.str "told")) (consA (nameT 15) nilA))) [15])))) nextT)
noncomputable abbrev w9h : TSD := (newR 8 (lcR (.nm 13) (rng1I (consA (cT (.int 3)) nilA)) (callRT R_heard (consA (nameT 13) (consA (nameT 4) (consA (nameT 9) (consA (nameT 5) nilA))))) [13]))
noncomputable abbrev w9i : TSD := (iffT (thruB 8 (notB (truT (callT R_lalike (consA (nameT 8) (consA (nameT 11) nilA)))))) (retT (cT (.bl false))) nextT)
noncomputable abbrev w9j : TSD := (iffT (truT (nameT 10)) (appIx2 8 1 1 (consA (cT .non) nilA)) nextT)
section
variable {K : DE} {s2 s3 s4 s5 s6 s7 s8 s9 s10 s11 s12 s13 s14 s15 : Sl} {c p : Code} {d : DL.D}
theorem w9c_ok (h : K.nx (ρJ s2 s3 s4 s5 s6 s7 s8 (.dat d) s10 (.dat (dueN d)) s12 s13 s14 s15)) : w9c K (ρJ s2 s3 s4 s5 s6 s7 s8 (.dat d) s10 s11 s12 s13 s14 s15) := by
  have hs : sizeLine = 16777216 := sizeLine_eq
  unfold w9c ρJ
  walk_at "dx"
  refine ⟨by omega, by omega, by omega, by simp; omega, ?_⟩
  exact h
theorem w9d_f (h : K.nx (ρJ s2 s3 s4 s5 s6 s7 s8 s9 (.dat (.bl false)) s11 s12 s13 s14 s15)) : w9d K (ρJ s2 s3 s4 s5 s6 s7 s8 s9 (.dat (.bl false)) s11 s12 s13 s14 s15) := by
  unfold w9d ρJ
  walk_at "dx"
  exact h
theorem w9d_t {a : List Nat} {q : Code} (hc : Cd c) (hp : Pt p) (hq : atC a c = some q) (h : ∀ s12, K.nx (ρJ s2 s3 (cS c) (cS p) s6 s7 s8 (.dat (aD a)) (.dat (.bl true)) (.dat (dueT a c p q)) s12 s13 s14 s15)) : w9d K (ρJ s2 s3 (cS c) (cS p) s6 s7 s8 (.dat (aD a)) (.dat (.bl true)) s11 s12 s13 s14 s15) := by
  have hs : sizeLine = 16777216 := sizeLine_eq
  have hd := hc.d
  have hz := hc.z
  have hS : (atC a c).isSome = true := by rw [hq]; rfl
  have al := atC_len hS
  unfold w9d ρJ
  walk_at "dx"
  refine ⟨c, q, a, rfl, hq, by omega, ?_⟩
  refine ⟨c, a, rfl, hS, by omega, ?_⟩
  refine ⟨c, p, a, rfl, by omega, by omega, by omega, hS, ?_⟩
  refine ⟨by omega, by omega, ?_⟩
  walk_at "dx"
  simp only [compT, yesT]
  walk_at "dx"
  exact ⟨by omega, by omega, by omega, h _⟩
theorem w9j_f {t : Tr} (h : K.nx (ρJ s2 s3 s4 s5 s6 s7 (.tr t) s9 (.dat (.bl false)) s11 s12 s13 s14 s15)) : w9j K (ρJ s2 s3 s4 s5 s6 s7 (.tr t) s9 (.dat (.bl false)) s11 s12 s13 s14 s15) := by
  unfold w9j ρJ
  walk_at "dx"
  exact h
theorem w9j_t {a : List Nat} {q : Code} (hc : Cd c) (ha : (atC a c).isSome = true) (h : ∀ s8, K.nx (ρJ s2 s3 s4 s5 s6 s7 s8 s9 (.dat (.bl true)) s11 s12 s13 s14 s15)) : w9j K (ρJ s2 s3 s4 s5 s6 s7 (.tr (.l [resT 0 a c p q, resT 1 a c p q, resT 2 a c p q])) s9 (.dat (.bl true)) s11 s12 s13 s14 s15) := by
  have hs : sizeLine = 16777216 := sizeLine_eq
  have al := atC_len ha
  have hd := hc.d
  have bl := (bdW_ok (a := a) hc.o).2
  unfold w9j ρJ
  walk_at "dx"
  refine ⟨1, _, 1, _, rfl, rfl, rfl, rfl, ?_, ?_⟩
  · simp only [List.length_map]; omega
  · refine ⟨_, rfl, ?_⟩
    exact h _
theorem w9i_ok {ts : List Tr} {e : DL.D} (he : (Tr.l ts).toD = e) (hS : Sm 300000 138 (10 ^ 30) e ∧ e.comp = true) (h : K.nx (ρJ s2 s3 s4 s5 s6 s7 (.tr (.l ts)) s9 s10 (.dat e) s12 s13 s14 s15)) : w9i K (ρJ s2 s3 s4 s5 s6 s7 (.tr (.l ts)) s9 s10 (.dat e) s12 s13 s14 s15) := by
  subst he
  unfold w9i ρJ
  walk_at "dl"
  simp only [Tr.toD] at hS ⊢
  exact ⟨_, rfl, hS.1, hS.2, h⟩
theorem w9h_t {a : List Nat} {q : Code} (hc : Cd c) (hp : Pt p) (hq : atC a c = some q) (h : ∀ s13, K.nx (ρJ s2 s3 (cS c) (cS p) s6 s7 (.tr (.l [resT 0 a c p q, resT 1 a c p q, resT 2 a c p q])) (.dat (aD a)) s10 s11 s12 s13 s14 s15)) : w9h K (ρJ s2 s3 (cS c) (cS p) s6 s7 s8 (.dat (aD a)) s10 s11 s12 s13 s14 s15) := by
  have hs : sizeLine = 16777216 := sizeLine_eq
  have hd := hc.d
  have hz := hc.z
  unfold w9h ρJ
  walk_at "du"
  refine ⟨by omega, by simp; omega, ?_⟩
  rw [show (List.map (fun i => D.int (i : Nat)) (List.range (Int.toNat 3))) = [.int 0, .int 1, .int 2] from rfl]
  simp only [compRT]
  walk_at "du"
  exact ⟨0, c, p, _, rfl, by omega, by omega, by omega, .inl ⟨a, q, rfl, hq, ⟨1, c, p, _, rfl, by omega, by omega, by omega, .inl ⟨a, q, rfl, hq, ⟨2, c, p, _, rfl, by omega, by omega, by omega, .inl ⟨a, q, rfl, hq, h _⟩⟩⟩⟩⟩⟩
theorem w9h_f (hc : Cd c) (hp : Pt p) (hd : Fd d) (hn : ¬ AdOf c d) (h : ∀ s13, K.nx (ρJ s2 s3 (cS c) (cS p) s6 s7 (.tr (.l [.d (noneD d), .d (noneD d), .d (noneD d)])) (.dat d) s10 s11 s12 s13 s14 s15)) : w9h K (ρJ s2 s3 (cS c) (cS p) s6 s7 s8 (.dat d) s10 s11 s12 s13 s14 s15) := by
  have hs : sizeLine = 16777216 := sizeLine_eq
  have hd' := hc.d
  have hz := hc.z
  unfold w9h ρJ
  walk_at "du"
  refine ⟨by omega, by simp; omega, ?_⟩
  rw [show (List.map (fun i => D.int (i : Nat)) (List.range (Int.toNat 3))) = [.int 0, .int 1, .int 2] from rfl]
  simp only [compRT]
  walk_at "du"
  exact ⟨0, c, p, _, rfl, by omega, by omega, by omega, .inr ⟨hd, hn, ⟨1, c, p, _, rfl, by omega, by omega, by omega, .inr ⟨hd, hn, ⟨2, c, p, _, rfl, by omega, by omega, by omega, .inr ⟨hd, hn, h _⟩⟩⟩⟩⟩⟩
/-! ### each place -/
noncomputable abbrev wAg : TSD := (forT (.nm 7) (rng1I (consA (cT (.int 2)) nilA)) (seqT w9h (seqT w9i w9j)))
theorem again_t {a : List Nat} {q : Code} (hc : Cd c) (hp : Pt p) (hq : atC a c = some q) (h : ∀ s7 s8 s13, K.nx (ρJ s2 s3 (cS c) (cS p) s6 s7 s8 (.dat (aD a)) (.dat (.bl true)) (.dat (dueT a c p q)) s12 s13 s14 s15)) : wAg K (ρJ s2 s3 (cS c) (cS p) s6 s7 s8 (.dat (aD a)) (.dat (.bl true)) (.dat (dueT a c p q)) s12 s13 s14 s15) := by
  have hs : sizeLine = 16777216 := sizeLine_eq
  have st : ∀ (K' : DE) (s7 s8 s13 : Sl), (∀ s8 s13, K'.nx (ρJ s2 s3 (cS c) (cS p) s6 s7 s8 (.dat (aD a)) (.dat (.bl true)) (.dat (dueT a c p q)) s12 s13 s14 s15)) → (seqT w9h (seqT w9i w9j)) K' (ρJ s2 s3 (cS c) (cS p) s6 s7 s8 (.dat (aD a)) (.dat (.bl true)) (.dat (dueT a c p q)) s12 s13 s14 s15) := fun K' s7 s8 s13 g =>
    seqd (w9h_t hc hp hq fun s13 => seqd (w9i_ok (by simp only [resT, Tr.toD, Tr.toDs, toDs_d]) (dueT_sm hc hp hq) (w9j_t hc (by rw [hq]; rfl) fun s8 => g _ _)))
  unfold wAg
  generalize (seqT w9h (seqT w9i w9j)) = S at st ⊢
  unfold ρJ at h st ⊢
  walk_at "dx"
  refine ⟨by omega, ?_⟩
  refine loopT_ind (I := fun rest ρ => ∃ s7 s8 s13 : Sl, ρ = [.un, .dat .bag, s2, s3, cS c, cS p, s6, s7, s8, .dat (aD a), .dat (.bl true), .dat (dueT a c p q), s12, s13, s14, s15]) ?_ ?_ ⟨_, _, _, rfl⟩
  · rintro ρ ⟨x, y, z, rfl⟩
    exact h _ _ _
  · rintro x rest ρ N hN ⟨s7', y, z, rfl⟩
    exact st _ (.dat x) y z fun s8 s13 => hN _ ⟨_, _, _, rfl⟩
theorem again_f (hc : Cd c) (hp : Pt p) (hd : Fd d) (hn : ¬ AdOf c d) (hS : Sm 2000 80 (10 ^ 30) d) (h : ∀ s7 s8 s13, K.nx (ρJ s2 s3 (cS c) (cS p) s6 s7 s8 (.dat d) (.dat (.bl false)) (.dat (dueN d)) s12 s13 s14 s15)) : wAg K (ρJ s2 s3 (cS c) (cS p) s6 s7 s8 (.dat d) (.dat (.bl false)) (.dat (dueN d)) s12 s13 s14 s15) := by
  have hs : sizeLine = 16777216 := sizeLine_eq
  have st : ∀ (K' : DE) (s7 s8 s13 : Sl), (∀ s8 s13, K'.nx (ρJ s2 s3 (cS c) (cS p) s6 s7 s8 (.dat d) (.dat (.bl false)) (.dat (dueN d)) s12 s13 s14 s15)) → (seqT w9h (seqT w9i w9j)) K' (ρJ s2 s3 (cS c) (cS p) s6 s7 s8 (.dat d) (.dat (.bl false)) (.dat (dueN d)) s12 s13 s14 s15) := fun K' s7 s8 s13 g =>
    seqd (w9h_f hc hp hd hn fun s13 => seqd (w9i_ok (by simp only [Tr.toD, Tr.toDs]) (dueN_sm hS) (w9j_f (g _ _))))
  unfold wAg
  generalize (seqT w9h (seqT w9i w9j)) = S at st ⊢
  unfold ρJ at h st ⊢
  walk_at "dx"
  refine ⟨by omega, ?_⟩
  refine loopT_ind (I := fun rest ρ => ∃ s7 s8 s13 : Sl, ρ = [.un, .dat .bag, s2, s3, cS c, cS p, s6, s7, s8, .dat d, .dat (.bl false), .dat (dueN d), s12, s13, s14, s15]) ?_ ?_ ⟨_, _, _, rfl⟩
  · rintro ρ ⟨x, y, z, rfl⟩
    exact h _ _ _
  · rintro x rest ρ N hN ⟨s7', y, z, rfl⟩
    exact st _ (.dat x) y z fun s8 s13 => hN _ ⟨_, _, _, rfl⟩
theorem place_ok (hc : Cd c) (hp : Pt p) (hd : Pl c d) (h : ∀ s7 s8 s10 s11 s12 s13, K.nx (ρJ s2 s3 (cS c) (cS p) (adS c) s7 s8 (.dat d) s10 s11 s12 s13 s14 s15)) : (seqT w9a (seqT w9b (seqT w9c (seqT w9d wAg)))) K (ρJ s2 s3 (cS c) (cS p) (adS c) s7 s8 (.dat d) s10 s11 s12 s13 s14 s15) :=
  one_ok hc hd (fun had => by
    obtain ⟨a, rfl, ha⟩ := had
    obtain ⟨q, hq⟩ := Option.isSome_iff_exists.mp ha
    exact seqd (w9c_ok (seqd (w9d_t hc hp hq fun s12 => again_t hc hp hq fun _ _ _ => h _ _ _ _ _ _)))) fun hn hS => seqd (w9c_ok (seqd (w9d_f (again_f hc hp (.inl (shp_fit d hS.s (by have := hS.w; omega) (Nat.lt_of_le_of_lt hS.m (by decide)))) hn hS fun _ _ _ => h _ _ _ _ _ _))))
end
/-! ### the law -/
noncomputable abbrev lw1 : TSD := (setT 3 (callT R_names (consA (nameT 1) (consA (cT (.int 4)) nilA))))
noncomputable abbrev lw2 : TSD := (setT 4 (callT R_deep (consA (nameT 1) (consA (nameT 3) (consA (callT (R_any 61) (consA (nameT 1) (consA (nameT 3) (consA (DL.binT addD (cT (.int 1)) (callT R_take (consA (nameT 1) (consA (cT (.int 40)) nilA)))) nilA)))) nilA)))))
noncomputable abbrev lw3 : TSD := (setT 5 (callT (R_any 61) (consA (nameT 1) (consA (nameT 3) (consA (cT (.int 6)) nilA)))))
noncomputable abbrev lw4 : TSD := (setT 6 (ofF (sortEF (consA (callT (R_ladr 100) (consA (nameT 4) nilA)) nilA))))
noncomputable abbrev lw5a : TSD := (newR 8 (callRT (R_adrT 100) (consA (nameT 4) nilA)))
noncomputable abbrev lw5b : TSD := (iffT (thruB 8 (notB (truT (callT R_lalike (consA (nameT 8) (consA (nameT 6) nilA)))))) (retT (cT (.bl false))) nextT)
noncomputable abbrev lw5c : TSD := (mT 8 appD (consA (cT .non) nilA))
noncomputable abbrev lw5 : TSD := (forT (.nm 7) (rng1I (consA (cT (.int 2)) nilA)) (seqT lw5a (seqT lw5b lw5c)))
noncomputable abbrev lw6 : TSD := (forT (.nm 9) (seqI (callT R_places (consA (nameT 1) (consA (nameT 6) nilA)))) (seqT w9a (seqT w9b (seqT w9c (seqT w9d wAg)))))
noncomputable abbrev lw7a : TSD := (newT 14 (lstF (consA (cT (.int 0)) nilA)))
noncomputable abbrev lw7b : TSD := (newR 8 (ptrR 14 (callRT R_heard (consA (nameT 13) (consA (nameT 4) (consA (nameT 14) (consA (nameT 5) nilA)))))))
noncomputable abbrev lw7c : TSD := (frzT 8 (seqT (mX 14 appD (consA (cT (.int 1)) nilA))
    (iffT (ptrB 14 8 (blT (DL.binT neD (nameT 8) (tupT (consA (cT (.str "none")) (consA (ofF (lstF (consA (cT (.int 0)) (consA (cT (.int 1)) nilA)))) nilA)))))) (retT (cT (.bl false))) nextT)))
noncomputable abbrev lw7 : TSD := (forT (.nm 13) (rng1I (consA (cT (.int 3)) nilA)) (seqT lw7a (ioT 14 (seqT lw7b lw7c))))
noncomputable abbrev lB : TSD := (seqT lw1 (seqT lw2 (seqT lw3 (seqT lw4 (seqT lw5 (seqT lw6 lw7))))))
theorem law_eq : t_law R_names R_take (R_any 61) R_deep (R_ladr 100) (R_adrT 100) R_lalike R_places (R_lput 100) R_lbnd R_lat R_heard = seqT (forT (.nm 2) (rng1I (consA (cT (.int 5)) nilA)) (lB)) (retT (cT (.bl true))) := rfl
section
variable {K : DE} {s2 s3 s4 s5 s6 s7 s8 s9 s10 s11 s12 s13 s14 s15 : Sl} {c p : Code} {d : DL.D}
theorem lw4_ok (hc : Cd c) (h : K.nx (ρJ s2 s3 (cS c) s5 (adS c) s7 s8 s9 s10 s11 s12 s13 s14 s15)) : lw4 K (ρJ s2 s3 (cS c) s5 s6 s7 s8 s9 s10 s11 s12 s13 s14 s15) := by
  have hs : sizeLine = 16777216 := sizeLine_eq
  have hd := hc.d
  have hz := hc.z
  unfold lw4 ρJ
  walk_at "du"
  exact ⟨c, rfl, by omega, by omega, _, rfl, srtE_ads c, by rw [srt_ads]; exact h⟩
theorem lw5_ok (hc : Cd c) (h : ∀ s7 s8, K.nx (ρJ s2 s3 (cS c) s5 (adS c) s7 s8 s9 s10 s11 s12 s13 s14 s15)) : lw5 K (ρJ s2 s3 (cS c) s5 (adS c) s7 s8 s9 s10 s11 s12 s13 s14 s15) := by
  have hs : sizeLine = 16777216 := sizeLine_eq
  have hd := hc.d
  have hz := hc.z
  have st : ∀ (K' : DE) (s7 s8 : Sl), (∀ s8, K'.nx (ρJ s2 s3 (cS c) s5 (adS c) s7 s8 s9 s10 s11 s12 s13 s14 s15)) → (seqT lw5a (seqT lw5b lw5c)) K' (ρJ s2 s3 (cS c) s5 (adS c) s7 s8 s9 s10 s11 s12 s13 s14 s15) := by
    intro K' s7 s8 g
    unfold ρJ at g ⊢
    walk_at "du"
    refine ⟨c, rfl, by omega, by omega, ?_⟩
    have sm := ads_sm hc
    have e : (Tr.l ((c.ads.map aD).map .d)).toD = .lst (c.ads.map aD) := by simp only [Tr.toD, toDs_d]
    refine ⟨_, by rw [e], sm.1, sm.2, ?_⟩
    walk_at "du"
    refine ⟨by rw [List.length_map, List.length_map, ads_len]; omega, g _⟩
  unfold lw5
  generalize (seqT lw5a (seqT lw5b lw5c)) = S at st ⊢
  unfold ρJ at h st ⊢
  walk_at "dx"
  refine ⟨by omega, ?_⟩
  refine loopT_ind (I := fun rest ρ => ∃ s7 s8 : Sl, ρ = [.un, .dat .bag, s2, s3, cS c, s5, adS c, s7, s8, s9, s10, s11, s12, s13, s14, s15]) ?_ ?_ ⟨_, _, rfl⟩
  · rintro ρ ⟨x, y, rfl⟩
    exact h _ _
  · rintro x rest ρ N hN ⟨s7', y, rfl⟩
    exact st _ (.dat x) y fun s8 => hN _ ⟨_, _, rfl⟩
theorem lw6_ok (hc : Cd c) (hp : Pt p) (h : ∀ s7 s8 s9 s10 s11 s12 s13, K.nx (ρJ s2 s3 (cS c) (cS p) (adS c) s7 s8 s9 s10 s11 s12 s13 s14 s15)) : lw6 K (ρJ s2 s3 (cS c) (cS p) (adS c) s7 s8 s9 s10 s11 s12 s13 s14 s15) := by
  have hs : sizeLine = 16777216 := sizeLine_eq
  have hd := hc.d
  have hz := hc.z
  have st : ∀ (K' : DE) (d : DL.D) (s7 s8 s10 s11 s12 s13 : Sl), Pl c d → (∀ s7 s8 s10 s11 s12 s13, K'.nx (ρJ s2 s3 (cS c) (cS p) (adS c) s7 s8 (.dat d) s10 s11 s12 s13 s14 s15)) → (seqT w9a (seqT w9b (seqT w9c (seqT w9d wAg)))) K' (ρJ s2 s3 (cS c) (cS p) (adS c) s7 s8 (.dat d) s10 s11 s12 s13 s14 s15) := fun K' d s7 s8 s10 s11 s12 s13 hd g => place_ok hc hp hd g
  unfold lw6
  generalize (seqT w9a (seqT w9b (seqT w9c (seqT w9d wAg)))) = S at st ⊢
  unfold ρJ at h st ⊢
  walk_at "dx"
  refine ⟨c, rfl, by omega, by omega, fun xs hx hl => ?_⟩
  refine loopT_ind (I := fun rest ρ => (∀ x ∈ rest, Pl c x) ∧ ∃ s7 s8 s9 s10 s11 s12 s13 : Sl, ρ = [.un, .dat .bag, s2, s3, cS c, cS p, adS c, s7, s8, s9, s10, s11, s12, s13, s14, s15]) ?_ ?_ ⟨hx, _, _, _, _, _, _, _, rfl⟩
  · rintro ρ ⟨_, s7, s8, s9, s10, s11, s12, s13, rfl⟩
    exact h _ _ _ _ _ _ _
  · rintro x rest ρ N hN ⟨hr, s7, s8, s9, s10, s11, s12, s13, rfl⟩
    exact st _ x s7 s8 s10 s11 s12 s13 (hr x List.mem_cons_self) fun a b e f g i => hN _ ⟨fun y hy => hr y (List.mem_cons_of_mem _ hy), _, _, _, _, _, _, _, rfl⟩
theorem lw7_ok (hc : Cd c) (hp : Pt p) (h : ∀ s8 s13 s14, K.nx (ρJ s2 s3 (cS c) (cS p) s6 s7 s8 s9 s10 s11 s12 s13 s14 s15)) : lw7 K (ρJ s2 s3 (cS c) (cS p) s6 s7 s8 s9 s10 s11 s12 s13 s14 s15) := by
  have hs : sizeLine = 16777216 := sizeLine_eq
  have hd := hc.d
  have hz := hc.z
  have st : ∀ (K' : DE) (w : Nat) (s8 s14 : Sl), w < 3 → (∀ s8 s14, K'.nx (ρJ s2 s3 (cS c) (cS p) s6 s7 s8 s9 s10 s11 s12 (.dat (.int (w : Nat))) s14 s15)) → (seqT lw7a (ioT 14 (seqT lw7b lw7c))) K' (ρJ s2 s3 (cS c) (cS p) s6 s7 s8 s9 s10 s11 s12 (.dat (.int (w : Nat))) s14 s15) := by
    intro K' w s8 s14 hw g
    unfold ρJ at g ⊢
    walk_at "du"
    refine ⟨by omega, _, rfl, fun a => ⟨a, _, rfl, w, c, p, _, rfl, hw, by omega, by omega, .inr ⟨.inr ⟨_, _, rfl⟩, ?_, _, rfl, rfl, ?_⟩⟩⟩
    · rintro ⟨b, h, _⟩
      cases h
    · walk_at "du"
      have e : reD a (D.lst (Tr.toDs ([Tr.d (D.int 0)] ++ [Tr.d (D.int 1)]))) (D.tup [D.str "none", D.at a (D.lst (Tr.toDs [Tr.d (D.int 0)]))]).unat = D.tup [D.str "none", .at a (.lst [.int 0, .int 1])] := by
        simp [reD, reDs, D.unat, D.unats, Tr.toDs, Tr.toD]
      refine ⟨_, _, _, rfl, rfl, by simp; omega, a, _, _, rfl, rfl, by decide, by omega, by omega, ?_⟩
      have py : (D.tup [D.str "none", D.at a (.lst [.int 0, .int 1])]).py = (D.tup [D.str "none", .lst [.int 0, .int 1]]).py := by simp only [D.py, D.pys]
      rw [e, eqB_tt, eqOk, py]
      refine ⟨⟨by decide +kernel, by decide +kernel, by decide +kernel⟩, ?_⟩
      rw [if_neg (by decide +kernel)]
      exact g _ _
  unfold lw7
  generalize (seqT lw7a (ioT 14 (seqT lw7b lw7c))) = S at st ⊢
  unfold ρJ at h st ⊢
  walk_at "dx"
  refine ⟨by omega, ?_⟩
  refine loopT_ind (I := fun rest ρ => (∀ x ∈ rest, ∃ w : Nat, w < 3 ∧ x = .int (w : Nat)) ∧ ∃ s8 s13 s14 : Sl, ρ = [.un, .dat .bag, s2, s3, cS c, cS p, s6, s7, s8, s9, s10, s11, s12, s13, s14, s15]) ?_ ?_ ⟨fun x hx => ?_, _, _, _, rfl⟩
  · rintro ρ ⟨_, x, y, z, rfl⟩
    exact h _ _ _
  · rintro x rest ρ N hN ⟨hr, a, b, e, rfl⟩
    obtain ⟨w, hw, rfl⟩ := hr x List.mem_cons_self
    exact st _ w a e hw fun s8 s14 => hN _ ⟨fun y hy => hr y (List.mem_cons_of_mem _ hy), _, _, _, rfl⟩
  · obtain ⟨w, hw, rfl⟩ := List.mem_map.mp hx
    exact ⟨w, by simpa using hw, rfl⟩
end
theorem p_law : t_law R_names R_take (R_any 61) R_deep (R_ladr 100) (R_adrT 100) R_lalike R_places (R_lput 100) R_lbnd R_lat R_heard endLaw (.un :: .dat .bag :: List.replicate 14 .un) := by
  have hs : sizeLine = 16777216 := sizeLine_eq
  rw [law_eq]
  have fin : ∀ (K : DE) (c p : Code) (s2 s3 s6 s7 s8 s9 s10 s11 s12 s13 s14 s15 : Sl), Cd c → Pt p → (∀ s4 s5 s6 s7 s8 s9 s10 s11 s12 s13 s14, K.nx (ρJ s2 s3 s4 s5 s6 s7 s8 s9 s10 s11 s12 s13 s14 s15)) → (seqT lw4 (seqT lw5 (seqT lw6 lw7))) K (ρJ s2 s3 (cS c) (cS p) s6 s7 s8 s9 s10 s11 s12 s13 s14 s15) :=
    fun K c p s2 s3 s6 s7 s8 s9 s10 s11 s12 s13 s14 s15 hc hp h => seqd (lw4_ok hc (seqd (lw5_ok hc fun s7 s8 => seqd (lw6_ok hc hp fun s7 s8 s9 s10 s11 s12 s13 => lw7_ok hc hp fun s8 s13 s14 => h _ _ _ _ _ _ _ _ _ _ _))))
  have spin : ∀ (K : DE) (s2 s3 s4 s5 s6 s7 s8 s9 s10 s11 s12 s13 s14 s15 : Sl), (∀ s3 s4 s5 s6 s7 s8 s9 s10 s11 s12 s13 s14, K.nx (ρJ s2 s3 s4 s5 s6 s7 s8 s9 s10 s11 s12 s13 s14 s15)) → lB K (ρJ s2 s3 s4 s5 s6 s7 s8 s9 s10 s11 s12 s13 s14 s15) := by
    intro K s2 s3 s4 s5 s6 s7 s8 s9 s10 s11 s12 s13 s14 s15 h
    have fi := fun c p s3 hc hp => fin K c p s2 s3 s6 s7 s8 s9 s10 s11 s12 s13 s14 s15 hc hp fun _ _ _ _ _ _ _ _ _ _ _ => h _ _ _ _ _ _ _ _ _ _ _ _
    unfold lB
    generalize (seqT lw4 (seqT lw5 (seqT lw6 lw7))) = S at fi ⊢
    unfold ρJ at fi ⊢
    walk_at "dl"
    refine ⟨4, rfl, by omega, by omega, fun ws g ne l => ?_⟩
    walk_at "dl"
    refine ⟨40, rfl, by omega, by omega, fun i i0 i1 => ?_⟩
    walk_at "dl"
    refine ⟨ws, _, rfl, g, ne, by omega, by omega, by omega, by omega, fun c hc hz => ?_⟩
    refine ⟨ws, c, rfl, ⟨g, ne, by omega⟩, okw_ok c hc, fun c' c1 c2 c3 => ?_⟩
    refine ⟨ws, 6, rfl, g, ne, by omega, by omega, by omega, by omega, fun p hp pz => ?_⟩
    have w1 := wt_size c
    have d1 := dp_wt c'
    have w2 := wt_size p
    have d2 := dp_wt p
    exact fi c' p _ ⟨c1, by omega, by omega⟩ ⟨okw_ok p hp, by omega, by omega⟩
  generalize lB = st at spin ⊢
  unfold ρJ at spin
  simp only [endLaw]
  walk_at "dl"
  refine ⟨by omega, ?_⟩
  refine loopT_ind (I := fun rest ρ => ∃ s2 s3 s4 s5 s6 s7 s8 s9 s10 s11 s12 s13 s14 s15 : Sl, ρ = [.un, .dat .bag, s2, s3, s4, s5, s6, s7, s8, s9, s10, s11, s12, s13, s14, s15]) ?_ ?_ ⟨_, _, _, _, _, _, _, _, _, _, _, _, _, _, rfl⟩
  · rintro ρ ⟨s2, s3, s4, s5, s6, s7, s8, s9, s10, s11, s12, s13, s14, s15, rfl⟩
    walk_at "dl"
  · rintro x rest ρ N hN ⟨s2, s3, s4, s5, s6, s7, s8, s9, s10, s11, s12, s13, s14, s15, rfl⟩
    exact spin _ (.dat x) s3 s4 s5 s6 s7 s8 s9 s10 s11 s12 s13 s14 s15 fun _ _ _ _ _ _ _ _ _ _ _ _ => hN _ ⟨_, _, _, _, _, _, _, _, _, _, _, _, _, _, rfl⟩
/-! ### facts as the chain asks them -/
section
open PySem.ErrX PySem.W PySem.Calls
theorem err_ev {f qual : Str} {p1 p2 a b c d e e' q1 q2 q3 q4 : Pos} {doc pm : Value} {an : Option Addr} {cda cc fI : Addr} {ct : Value} (h : (c.endLine == e.line) = true) : ∃ pl : Sem Bool, ∀ L : Addr, eval (.Call (.Attribute (.Call (.Name "super" a) [] [] b) "__init__" c) [.Name f d] [] e) (callEnv (iF f qual p1 p2 a b c d e e' q1 q2 q3 q4 doc pm an (.ref cda) ct cc) L fI) = (do
      let ov ← attributeBase (.Call (.Name "super" a) [] [] b) "__init__" (callEnv (iF f qual p1 p2 a b c d e e' q1 q2 q3 q4 doc pm an (.ref cda) ct cc) L fI) (eval (.Call (.Name "super" a) [] [] b) (callEnv (iF f qual p1 p2 a b c d e e' q1 q2 q3 q4 doc pm an (.ref cda) ct cc) L fI))
      standAt c.atName
      let (g, first) ← holding [ov] (getMethod ov "__init__" pl)
      callWith e g first (backTo e (starEach [.Name f d] (callEnv (iF f qual p1 p2 a b c d e e' q1 q2 q3 q4 doc pm an (.ref cda) ct cc) L fI))) []) := by
  refine ⟨do return (← (pure (some false) : Sem (Option Bool))).getD true, fun L => ?_⟩
  have hm : ∀ few o env, methodCallPos few o env c e = pure e := fun few o env => by
    unfold methodCallPos
    rw [if_pos (by rw [h, Bool.or_true])]
  show (do
    let ov ← attributeBase (.Call (.Name "super" a) [] [] b) "__init__" (callEnv (iF f qual p1 p2 a b c d e e' q1 q2 q3 q4 doc pm an (.ref cda) ct cc) L fI) (eval (.Call (.Name "super" a) [] [] b) (callEnv (iF f qual p1 p2 a b c d e e' q1 q2 q3 q4 doc pm an (.ref cda) ct cc) L fI))
    standAt c.atName
    methodCall (.Call (.Name "super" a) [] [] b) "__init__" c e (callEnv (iF f qual p1 p2 a b c d e e' q1 q2 q3 q4 doc pm an (.ref cda) ct cc) L fI) ov 1 (backTo e (starEach [.Name f d] (callEnv (iF f qual p1 p2 a b c d e e' q1 q2 q3 q4 doc pm an (.ref cda) ct cc) L fI))) []) = _
  unfold methodCall
  simp only [hm]
  rfl
theorem err_sw {f qual : Str} {p1 p2 a b c d e e' q1 q2 q3 q4 : Pos} {doc pm : Value} {an : Option Addr} {cda cc fI : Addr} {ct : Value} : ∀ L : Addr, swapsWith (.Name f q3) (some (.Attribute (.Name "self" q1) f q2)) q4.line (callEnv (iF f qual p1 p2 a b c d e e' q1 q2 q3 q4 doc pm an (.ref cda) ct cc) L fI) = pure false := fun L => rfl
end
/-! as many arguments -/
theorem usE1 {P : List Value → Prop} (h : ∀ a : Value, P [a]) : ∀ us : List Value, us.length = 1 → P us
  | [a], _ => h a
theorem usE2 {P : List Value → Prop} (h : ∀ a b : Value, P [a, b]) : ∀ us : List Value, us.length = 2 → P us
  | [a, b], _ => h a b
theorem usE3 {P : List Value → Prop} (h : ∀ a b c : Value, P [a, b, c]) : ∀ us : List Value, us.length = 3 → P us
  | [a, b, c], _ => h a b c
theorem usE4 {P : List Value → Prop} (h : ∀ a b c d : Value, P [a, b, c, d]) : ∀ us : List Value, us.length = 4 → P us
  | [a, b, c, d], _ => h a b c d
theorem kit_own {K : PySem.W.Frag} {C : Addr} {ci : ClassData} {t : Value} {b : Bool} (hc : PySem.W.clsIn K C = some ci) (ht : PySem.W.typeIn K (.ref C) = some (.type "type")) (ne : (t == .ref C) = false) (hs : PySem.W.subIn K t (.ref C) = some b) : PySem.W.kitOne K t (.ref C) = some b := by
  unfold PySem.W.kitOne
  rw [if_neg (by rw [ne]; simp)]
  simp only [PySem.W.kitCls]
  rw [hc, ht, if_pos (by simp)]
  exact hs
theorem kit_self {K : PySem.W.Frag} {C : Addr} : PySem.W.kitOne K (.ref C) (.ref C) = some true := if_pos (beq_self_eq_true _)
section
variable {P : Program} {w : World} {K : PySem.W.Frag} {mg : Str → Option Value} {base : Heap}
theorem FnG.neverT {R : RTD} {n : Nat} {f : Addr} {fd : FuncData} {ps : List Str} (h : ∀ ds k, ¬ R ds k) : FnG P w K mg base CX0 n f fd ps (spT K R) :=
  ⟨fun vs H Q E q => by obtain ⟨_, ds, k, _, _, z, _⟩ := q; exact absurd z (h ds k), fun A outer s H args us vs Q E _ _ _ _ _ q => by obtain ⟨_, ds, k, _, _, z, _⟩ := q; exact absurd z (h ds k)⟩
theorem FnG.neverV {R : RXD} {n : Nat} {f : Addr} {fd : FuncData} {ps : List Str} (h : ∀ ds k e, ¬ R ds k e) : FnG P w K mg base (L2.CX P w) n f fd ps (spV K R) :=
  ⟨fun vs H Q E q => by obtain ⟨_, ds, k, e, _, _, z, _⟩ := q; exact absurd z (h ds k e), fun A outer s H args us vs Q E _ _ _ _ _ q => by obtain ⟨_, ds, k, e, _, _, z, _⟩ := q; exact absurd z (h ds k e)⟩
end
end K13
set_option Elab.async false
set_option linter.all false
set_option maxRecDepth 100000
set_option maxHeartbeats 4000000
namespace K13
open PySem L2 DL
theorem all_mk {l : PySem.W.OpenLaw} {w : World} {K : PySem.W.Frag} {h : Heap} {mg : Str → Option Value} {fa f1 f2 f3 f4 f5 f6 f7 f8 f9 f10 f11 f12 f13 f14 f15 f16 f17 f18 f19 f20 f21 f22 f23 f24 f25 f26 f27 f28 : Addr} (X : K.In h) (G : h.Ns mainGlobals mg) (hfa : mg "law" = some (.ref fa))
    {od1 an1 od2 an2 od3 an3 od4 an4 od5 an5 od6 an6 od7 an7 od8 an8 od9 an9 od10 an10 od11 an11 od12 an12 od13 an13 od14 an14 od15 an15 od16 an16 od17 an17 od18 an18 od19 an19 od20 an20 od21 an21 od22 an22 od23 an23 od24 an24 od25 an25 od26 an26 od27 an27 od28 an28 : Option Addr} {sl1 sl2 sl3 sl4 sl5 sl6 sl7 sl8 sl9 sl10 sl11 sl12 sl13 sl14 sl15 sl16 sl17 sl18 sl19 sl20 sl21 sl22 sl23 sl24 sl25 sl26 sl27 sl28 : Array (Option Value)} {oc1 kV1 dc1 pm1 cd1 ct1 oc2 kV2 dc2 pm2 cd2 ct2 oc3 kV3 dc3 pm3 cd3 ct3 oc4 kV4 dc4 pm4 cd4 ct4 oc5 kV5 dc5 pm5 cd5 ct5 oc6 kV6 dc6 pm6 cd6 ct6 oc7 kV7 dc7 pm7 cd7 ct7 oc8 kV8 dc8 pm8 cd8 ct8 oc9 kV9 dc9 pm9 cd9 ct9 oc10 kV10 dc10 pm10 cd10 ct10 oc11 kV11 dc11 pm11 cd11 ct11 oc12 kV12 dc12 pm12 cd12 ct12 oc13 kV13 dc13 pm13 cd13 ct13 oc14 kV14 dc14 pm14 cd14 ct14 oc15 kV15 dc15 pm15 cd15 ct15 oc16 kV16 dc16 pm16 cd16 ct16 oc17 kV17 dc17 pm17 cd17 ct17 oc18 kV18 dc18 pm18 cd18 ct18 oc19 kV19 dc19 pm19 cd19 ct19 oc20 kV20 dc20 pm20 cd20 ct20 oc21 kV21 dc21 pm21 cd21 ct21 oc22 kV22 dc22 pm22 cd22 ct22 oc23 kV23 dc23 pm23 cd23 ct23 oc24 kV24 dc24 pm24 cd24 ct24 oc25 kV25 dc25 pm25 cd25 ct25 oc26 kV26 dc26 pm26 cd26 ct26 oc27 kV27 dc27 pm27 cd27 ct27 oc28 kV28 dc28 pm28 cd28 ct28 : Value}
    (a1 : PySem.W.nsIn K mainGlobals "is_integer" = some (some (.ref f1))) (l1 : K.lookup f1 = some ⟨oc1, od1, .func (PySem.W.fnOf "is_integer" "is_integer" (defArgs s_is_integer) (defBody s_is_integer) (defScope s_is_integer) .none kV1 dc1 pm1 an1 cd1 ct1), sl1⟩) (c1 : PySem.W.codeIn K cd1 "is_integer" = true) (k1 : PySem.W.keepIn K (.ref f1) = true)
    (a2 : PySem.W.nsIn K mainGlobals "is_count" = some (some (.ref f2))) (l2 : K.lookup f2 = some ⟨oc2, od2, .func (PySem.W.fnOf "is_count" "is_count" (defArgs s_is_count) (defBody s_is_count) (defScope s_is_count) .none kV2 dc2 pm2 an2 cd2 ct2), sl2⟩) (c2 : PySem.W.codeIn K cd2 "is_count" = true) (k2 : PySem.W.keepIn K (.ref f2) = true)
    (a3 : PySem.W.nsIn K mainGlobals "is_address" = some (some (.ref f3))) (l3 : K.lookup f3 = some ⟨oc3, od3, .func (PySem.W.fnOf "is_address" "is_address" (defArgs s_is_address) (defBody s_is_address) (defScope s_is_address) .none kV3 dc3 pm3 an3 cd3 ct3), sl3⟩) (c3 : PySem.W.codeIn K cd3 "is_address" = true) (k3 : PySem.W.keepIn K (.ref f3) = true)
    (a4 : PySem.W.nsIn K mainGlobals "codes_within" = some (some (.ref f4))) (l4 : K.lookup f4 = some ⟨oc4, od4, .func (PySem.W.fnOf "codes_within" "codes_within" (defArgs s_codes_within) (defBody s_codes_within) (defScope s_codes_within) .none kV4 dc4 pm4 an4 cd4 ct4), sl4⟩) (c4 : PySem.W.codeIn K cd4 "codes_within" = true) (k4 : PySem.W.keepIn K (.ref f4) = true)
    (a5 : PySem.W.nsIn K mainGlobals "with_codes" = some (some (.ref f5))) (l5 : K.lookup f5 = some ⟨oc5, od5, .func (PySem.W.fnOf "with_codes" "with_codes" (defArgs s_with_codes) (defBody s_with_codes) (defScope s_with_codes) .none kV5 dc5 pm5 an5 cd5 ct5), sl5⟩) (c5 : PySem.W.codeIn K cd5 "with_codes" = true) (k5 : PySem.W.keepIn K (.ref f5) = true)
    (a6 : PySem.W.nsIn K mainGlobals "addresses" = some (some (.ref f6))) (l6 : K.lookup f6 = some ⟨oc6, od6, .func (PySem.W.fnOf "addresses" "addresses" (defArgs s_addresses) (defBody s_addresses) (defScope s_addresses) .none kV6 dc6 pm6 an6 cd6 ct6), sl6⟩) (c6 : PySem.W.codeIn K cd6 "addresses" = true) (k6 : PySem.W.keepIn K (.ref f6) = true)
    (a7 : PySem.W.nsIn K mainGlobals "need_part" = some (some (.ref f7))) (l7 : K.lookup f7 = some ⟨oc7, od7, .func (PySem.W.fnOf "need_part" "need_part" (defArgs s_need_part) (defBody s_need_part) (defScope s_need_part) .none kV7 dc7 pm7 an7 cd7 ct7), sl7⟩) (c7 : PySem.W.codeIn K cd7 "need_part" = true) (k7 : PySem.W.keepIn K (.ref f7) = true)
    (a8 : PySem.W.nsIn K mainGlobals "part_at" = some (some (.ref f8))) (l8 : K.lookup f8 = some ⟨oc8, od8, .func (PySem.W.fnOf "part_at" "part_at" (defArgs s_part_at) (defBody s_part_at) (defScope s_part_at) .none kV8 dc8 pm8 an8 cd8 ct8), sl8⟩) (c8 : PySem.W.codeIn K cd8 "part_at" = true) (k8 : PySem.W.keepIn K (.ref f8) = true)
    (a9 : PySem.W.nsIn K mainGlobals "put_at" = some (some (.ref f9))) (l9 : K.lookup f9 = some ⟨oc9, od9, .func (PySem.W.fnOf "put_at" "put_at" (defArgs s_put_at) (defBody s_put_at) (defScope s_put_at) .none kV9 dc9 pm9 an9 cd9 ct9), sl9⟩) (c9 : PySem.W.codeIn K cd9 "put_at" = true) (k9 : PySem.W.keepIn K (.ref f9) = true)
    (a10 : PySem.W.nsIn K mainGlobals "bound_at" = some (some (.ref f10))) (l10 : K.lookup f10 = some ⟨oc10, od10, .func (PySem.W.fnOf "bound_at" "bound_at" (defArgs s_bound_at) (defBody s_bound_at) (defScope s_bound_at) .none kV10 dc10 pm10 an10 cd10 ct10), sl10⟩) (c10 : PySem.W.codeIn K cd10 "bound_at" = true) (k10 : PySem.W.keepIn K (.ref f10) = true)
    (a11 : PySem.W.nsIn K mainGlobals "_law_bag" = some (some (.ref f11))) (l11 : K.lookup f11 = some ⟨oc11, od11, .func (PySem.W.fnOf "_law_bag" "_law_bag" (defArgs s_L_bag) (defBody s_L_bag) (defScope s_L_bag) .none kV11 dc11 pm11 an11 cd11 ct11), sl11⟩) (c11 : PySem.W.codeIn K cd11 "_law_bag" = true) (k11 : PySem.W.keepIn K (.ref f11) = true)
    (a12 : PySem.W.nsIn K mainGlobals "_law_take" = some (some (.ref f12))) (l12 : K.lookup f12 = some ⟨oc12, od12, .func (PySem.W.fnOf "_law_take" "_law_take" (defArgs s_L_take) (defBody s_L_take) (defScope s_L_take) .none kV12 dc12 pm12 an12 cd12 ct12), sl12⟩) (c12 : PySem.W.codeIn K cd12 "_law_take" = true) (k12 : PySem.W.keepIn K (.ref f12) = true)
    (a13 : PySem.W.nsIn K mainGlobals "_law_alike" = some (some (.ref f13))) (l13 : K.lookup f13 = some ⟨oc13, od13, .func (PySem.W.fnOf "_law_alike" "_law_alike" (defArgs s_L_alike) (defBody s_L_alike) (defScope s_L_alike) .none kV13 dc13 pm13 an13 cd13 ct13), sl13⟩) (c13 : PySem.W.codeIn K cd13 "_law_alike" = true) (k13 : PySem.W.keepIn K (.ref f13) = true)
    (a14 : PySem.W.nsIn K mainGlobals "_law_some" = some (some (.ref f14))) (l14 : K.lookup f14 = some ⟨oc14, od14, .func (PySem.W.fnOf "_law_some" "_law_some" (defArgs s_L_some) (defBody s_L_some) (defScope s_L_some) .none kV14 dc14 pm14 an14 cd14 ct14), sl14⟩) (c14 : PySem.W.codeIn K cd14 "_law_some" = true) (k14 : PySem.W.keepIn K (.ref f14) = true)
    (a15 : PySem.W.nsIn K mainGlobals "_law_mixed" = some (some (.ref f15))) (l15 : K.lookup f15 = some ⟨oc15, od15, .func (PySem.W.fnOf "_law_mixed" "_law_mixed" (defArgs s_L_mixed) (defBody s_L_mixed) (defScope s_L_mixed) .none kV15 dc15 pm15 an15 cd15 ct15), sl15⟩) (c15 : PySem.W.codeIn K cd15 "_law_mixed" = true) (k15 : PySem.W.keepIn K (.ref f15) = true)
    (a16 : PySem.W.nsIn K mainGlobals "_law_words" = some (some (.ref f16))) (l16 : K.lookup f16 = some ⟨oc16, od16, .func (PySem.W.fnOf "_law_words" "_law_words" (defArgs s_L_words) (defBody s_L_words) (defScope s_L_words) .none kV16 dc16 pm16 an16 cd16 ct16), sl16⟩) (c16 : PySem.W.codeIn K cd16 "_law_words" = true) (k16 : PySem.W.keepIn K (.ref f16) = true)
    (a17 : PySem.W.nsIn K mainGlobals "_law_inner" = some (some (.ref f17))) (l17 : K.lookup f17 = some ⟨oc17, od17, .func (PySem.W.fnOf "_law_inner" "_law_inner" (defArgs s_L_inner) (defBody s_L_inner) (defScope s_L_inner) .none kV17 dc17 pm17 an17 cd17 ct17), sl17⟩) (c17 : PySem.W.codeIn K cd17 "_law_inner" = true) (k17 : PySem.W.keepIn K (.ref f17) = true)
    (a18 : PySem.W.nsIn K mainGlobals "_law_odd" = some (some (.ref f18))) (l18 : K.lookup f18 = some ⟨oc18, od18, .func (PySem.W.fnOf "_law_odd" "_law_odd" (defArgs s_L_odd) (defBody s_L_odd) (defScope s_L_odd) .none kV18 dc18 pm18 an18 cd18 ct18), sl18⟩) (c18 : PySem.W.codeIn K cd18 "_law_odd" = true) (k18 : PySem.W.keepIn K (.ref f18) = true)
    (a19 : PySem.W.nsIn K mainGlobals "_law_any" = some (some (.ref f19))) (l19 : K.lookup f19 = some ⟨oc19, od19, .func (PySem.W.fnOf "_law_any" "_law_any" (defArgs s_L_any) (defBody s_L_any) (defScope s_L_any) .none kV19 dc19 pm19 an19 cd19 ct19), sl19⟩) (c19 : PySem.W.codeIn K cd19 "_law_any" = true) (k19 : PySem.W.keepIn K (.ref f19) = true)
    (a20 : PySem.W.nsIn K mainGlobals "_law_addresses" = some (some (.ref f20))) (l20 : K.lookup f20 = some ⟨oc20, od20, .func (PySem.W.fnOf "_law_addresses" "_law_addresses" (defArgs s_L_addresses) (defBody s_L_addresses) (defScope s_L_addresses) .none kV20 dc20 pm20 an20 cd20 ct20), sl20⟩) (c20 : PySem.W.codeIn K cd20 "_law_addresses" = true) (k20 : PySem.W.keepIn K (.ref f20) = true)
    (a21 : PySem.W.nsIn K mainGlobals "_law_put" = some (some (.ref f21))) (l21 : K.lookup f21 = some ⟨oc21, od21, .func (PySem.W.fnOf "_law_put" "_law_put" (defArgs s_L_put) (defBody s_L_put) (defScope s_L_put) .none kV21 dc21 pm21 an21 cd21 ct21), sl21⟩) (c21 : PySem.W.codeIn K cd21 "_law_put" = true) (k21 : PySem.W.keepIn K (.ref f21) = true)
    (a22 : PySem.W.nsIn K mainGlobals "_law_at" = some (some (.ref f22))) (l22 : K.lookup f22 = some ⟨oc22, od22, .func (PySem.W.fnOf "_law_at" "_law_at" (defArgs s_L_at) (defBody s_L_at) (defScope s_L_at) .none kV22 dc22 pm22 an22 cd22 ct22), sl22⟩) (c22 : PySem.W.codeIn K cd22 "_law_at" = true) (k22 : PySem.W.keepIn K (.ref f22) = true)
    (a23 : PySem.W.nsIn K mainGlobals "_law_names_of" = some (some (.ref f23))) (l23 : K.lookup f23 = some ⟨oc23, od23, .func (PySem.W.fnOf "_law_names_of" "_law_names_of" (defArgs s_L_names_of) (defBody s_L_names_of) (defScope s_L_names_of) .none kV23 dc23 pm23 an23 cd23 ct23), sl23⟩) (c23 : PySem.W.codeIn K cd23 "_law_names_of" = true) (k23 : PySem.W.keepIn K (.ref f23) = true)
    (a24 : PySem.W.nsIn K mainGlobals "_law_deepened" = some (some (.ref f24))) (l24 : K.lookup f24 = some ⟨oc24, od24, .func (PySem.W.fnOf "_law_deepened" "_law_deepened" (defArgs s_L_deepened) (defBody s_L_deepened) (defScope s_L_deepened) .none kV24 dc24 pm24 an24 cd24 ct24), sl24⟩) (c24 : PySem.W.codeIn K cd24 "_law_deepened" = true) (k24 : PySem.W.keepIn K (.ref f24) = true)
    (a25 : PySem.W.nsIn K mainGlobals "_law_bound" = some (some (.ref f25))) (l25 : K.lookup f25 = some ⟨oc25, od25, .func (PySem.W.fnOf "_law_bound" "_law_bound" (defArgs s_L_bound) (defBody s_L_bound) (defScope s_L_bound) .none kV25 dc25 pm25 an25 cd25 ct25), sl25⟩) (c25 : PySem.W.codeIn K cd25 "_law_bound" = true) (k25 : PySem.W.keepIn K (.ref f25) = true)
    (a26 : PySem.W.nsIn K mainGlobals "_law_heard" = some (some (.ref f26))) (l26 : K.lookup f26 = some ⟨oc26, od26, .func (PySem.W.fnOf "_law_heard" "_law_heard" (defArgs s_L_heard) (defBody s_L_heard) (defScope s_L_heard) .none kV26 dc26 pm26 an26 cd26 ct26), sl26⟩) (c26 : PySem.W.codeIn K cd26 "_law_heard" = true) (k26 : PySem.W.keepIn K (.ref f26) = true)
    (a27 : PySem.W.nsIn K mainGlobals "_law_places" = some (some (.ref f27))) (l27 : K.lookup f27 = some ⟨oc27, od27, .func (PySem.W.fnOf "_law_places" "_law_places" (defArgs s_L_places) (defBody s_L_places) (defScope s_L_places) .none kV27 dc27 pm27 an27 cd27 ct27), sl27⟩) (c27 : PySem.W.codeIn K cd27 "_law_places" = true) (k27 : PySem.W.keepIn K (.ref f27) = true)
    (a28 : PySem.W.nsIn K mainGlobals "law" = some (some (.ref f28))) (l28 : K.lookup f28 = some ⟨oc28, od28, .func (PySem.W.fnOf "law" "law" (defArgs s_law) (defBody s_law) (defScope s_law) .none kV28 dc28 pm28 an28 cd28 ct28), sl28⟩) (c28 : PySem.W.codeIn K cd28 "law" = true) (k28 : PySem.W.keepIn K (.ref f28) = true)
    (y_abs : PySem.W.nsIn K mainGlobals "abs" = some none)
    (y_all : PySem.W.nsIn K mainGlobals "all" = some none)
    (y_bool : PySem.W.nsIn K mainGlobals "bool" = some none)
    (y_enumerate : PySem.W.nsIn K mainGlobals "enumerate" = some none)
    (y_int : PySem.W.nsIn K mainGlobals "int" = some none)
    (y_isinstance : PySem.W.nsIn K mainGlobals "isinstance" = some none)
    (y_len : PySem.W.nsIn K mainGlobals "len" = some none)
    (y_list : PySem.W.nsIn K mainGlobals "list" = some none)
    (y_min : PySem.W.nsIn K mainGlobals "min" = some none)
    (y_range : PySem.W.nsIn K mainGlobals "range" = some none)
    (y_repr : PySem.W.nsIn K mainGlobals "repr" = some none)
    (y_set : PySem.W.nsIn K mainGlobals "set" = some none)
    (y_sorted : PySem.W.nsIn K mainGlobals "sorted" = some none)
    (y_tuple : PySem.W.nsIn K mainGlobals "tuple" = some none)
    (y_super : PySem.W.nsIn K mainGlobals "super" = some none)
    {C_FarError : Addr} {ci_FarError : _} (fA : PySem.W.nsIn K mainGlobals "FarError" = some (some (.ref C_FarError))) (fB : PySem.W.subIn K (.ref C_FarError) (.type "BaseException") = some true) (fT : PySem.W.typeIn K (.ref C_FarError) = some (.type "type")) (fC : PySem.W.clsIn K C_FarError = some ci_FarError)
    (eTop : (l.prog.main.scope.names.lookup ("super" : Str)).isSome = false) (eOpq : PySem.W.nsIn K cStatics "thirdparty.any" = some none)
    {C_NoPart : Addr} {fI_NoPart : Addr} {N_NoPart : Addr} {cda_NoPart : Addr} {cc_NoPart : Addr} {nm_NoPart : Str} {qn_NoPart : Str} {bs_NoPart : List Value} {bm_NoPart : List Value} {sub_NoPart : List Value} {sn_NoPart : List Str} {ab_NoPart : Bool} {col_NoPart : Option Bool} {dd_NoPart : Option Addr} {ka_NoPart : Option Value} {kb_NoPart : Option Value} {kc_NoPart : Option Value} {kd_NoPart : Option Value} {ke_NoPart : Option Value} {oc_NoPart : Value} {doc_NoPart : Value} {pm_NoPart : Value} {ct_NoPart : Value} {od_NoPart : Option Addr} {an_NoPart : Option Addr} {osl_NoPart : Array (Option Value)} {ccl_NoPart : Value} {cdd_NoPart : Option Addr} {vs_NoPart : Array Value} {ccs_NoPart : Array (Option Value)} {tf_NoPart : _} {cl_NoPart : Value} {cld_NoPart : Option Addr} {csl_NoPart : Array (Option Value)} {pa_NoPart : Pos} {pb_NoPart : Pos} {pc_NoPart : Pos} {pd_NoPart : Pos} {pe_NoPart : Pos} {pf_NoPart : Pos} {pg_NoPart : Pos} {ph_NoPart : Pos} {pi_NoPart : Pos} {pj_NoPart : Pos} {pk_NoPart : Pos} {pl_NoPart : Pos}
    (eA_NoPart : PySem.W.nsIn K mainGlobals "NoPart" = some (some (.ref C_NoPart))) (eC_NoPart : K.lookup C_NoPart = some (PySem.excClassObj nm_NoPart qn_NoPart C_NoPart N_NoPart bs_NoPart bm_NoPart true sn_NoPart sub_NoPart ab_NoPart col_NoPart dd_NoPart ka_NoPart kb_NoPart kc_NoPart kd_NoPart ke_NoPart "ValueError.__new__")) (eV_NoPart : PySem.HandSPX.refsVE bm_NoPart = true)
    (eS_NoPart : PySem.W.findIn K (.ref C_NoPart) "__setattr__" = some (some (.builtin "object.__setattr__"))) (eG_NoPart : PySem.W.findIn K (.ref C_NoPart) "__getattribute__" = some (some (.builtin "BaseException.__getattribute__"))) (eH_NoPart : PySem.W.findIn K (.ref C_NoPart) "__getattr__" = some none) (eN_NoPart : PySem.W.findIn K (.ref C_NoPart) "address" = some none) (eI_NoPart : PySem.W.findIn K (.ref C_NoPart) "__init__" = some (some (.ref fI_NoPart)))
    (eT_NoPart : PySem.W.typeIn K (.ref fI_NoPart) = some (.type "function")) (eK_NoPart : PySem.W.keepIn K (.ref C_NoPart) = true) (eX_NoPart : PySem.W.subIn K (.ref C_NoPart) (.type "BaseException") = some true) (eY_NoPart : PySem.W.subIn K (.ref C_NoPart) (.type "ValueError") = some true) (eZ_NoPart : PySem.W.typeIn K (.ref C_NoPart) = some (.type "type")) (eD_NoPart : PySem.W.hasDictIn K C_NoPart = true) (eM_NoPart : PySem.W.mroIn K C_NoPart (.ref C_NoPart) = some true) (eP_NoPart : PySem.W.ks_superIn K C_NoPart C_NoPart "__init__" = some (some (.builtin "ValueError.__init__")))
    (eF_NoPart : K.lookup fI_NoPart = some ⟨oc_NoPart, od_NoPart, .func (PySem.ErrX.iF "address" "NoPart.__init__" pa_NoPart pb_NoPart pc_NoPart pd_NoPart pe_NoPart pf_NoPart pg_NoPart ph_NoPart pi_NoPart pj_NoPart pk_NoPart pl_NoPart doc_NoPart pm_NoPart an_NoPart (.ref cda_NoPart) ct_NoPart cc_NoPart), osl_NoPart⟩) (eQ_NoPart : PySem.W.codeIn K (.ref cda_NoPart) "NoPart.__init__" = true) (eL_NoPart : K.lookup cda_NoPart = some ⟨ccl_NoPart, cdd_NoPart, .fields vs_NoPart, ccs_NoPart⟩) (eW_NoPart : vs_NoPart[2]? = some (.str l.prog.main.file tf_NoPart)) (eO_NoPart : K.lookup cc_NoPart = some ⟨cl_NoPart, cld_NoPart, .cell (some (.ref C_NoPart)), csl_NoPart⟩) (eE_NoPart : PySem.W.subIn K (.ref C_NoPart) (.ref C_FarError) = some true) (eR_NoPart : (pe_NoPart.endLine == pg_NoPart.line) = true)
    {C_Wrong : Addr} {fI_Wrong : Addr} {N_Wrong : Addr} {cda_Wrong : Addr} {cc_Wrong : Addr} {nm_Wrong : Str} {qn_Wrong : Str} {bs_Wrong : List Value} {bm_Wrong : List Value} {sub_Wrong : List Value} {sn_Wrong : List Str} {ab_Wrong : Bool} {col_Wrong : Option Bool} {dd_Wrong : Option Addr} {ka_Wrong : Option Value} {kb_Wrong : Option Value} {kc_Wrong : Option Value} {kd_Wrong : Option Value} {ke_Wrong : Option Value} {oc_Wrong : Value} {doc_Wrong : Value} {pm_Wrong : Value} {ct_Wrong : Value} {od_Wrong : Option Addr} {an_Wrong : Option Addr} {osl_Wrong : Array (Option Value)} {ccl_Wrong : Value} {cdd_Wrong : Option Addr} {vs_Wrong : Array Value} {ccs_Wrong : Array (Option Value)} {tf_Wrong : _} {cl_Wrong : Value} {cld_Wrong : Option Addr} {csl_Wrong : Array (Option Value)} {pa_Wrong : Pos} {pb_Wrong : Pos} {pc_Wrong : Pos} {pd_Wrong : Pos} {pe_Wrong : Pos} {pf_Wrong : Pos} {pg_Wrong : Pos} {ph_Wrong : Pos} {pi_Wrong : Pos} {pj_Wrong : Pos} {pk_Wrong : Pos} {pl_Wrong : Pos}
    (eA_Wrong : PySem.W.nsIn K mainGlobals "Wrong" = some (some (.ref C_Wrong))) (eC_Wrong : K.lookup C_Wrong = some (PySem.excClassObj nm_Wrong qn_Wrong C_Wrong N_Wrong bs_Wrong bm_Wrong true sn_Wrong sub_Wrong ab_Wrong col_Wrong dd_Wrong ka_Wrong kb_Wrong kc_Wrong kd_Wrong ke_Wrong "ValueError.__new__")) (eV_Wrong : PySem.HandSPX.refsVE bm_Wrong = true)
    (eS_Wrong : PySem.W.findIn K (.ref C_Wrong) "__setattr__" = some (some (.builtin "object.__setattr__"))) (eG_Wrong : PySem.W.findIn K (.ref C_Wrong) "__getattribute__" = some (some (.builtin "BaseException.__getattribute__"))) (eH_Wrong : PySem.W.findIn K (.ref C_Wrong) "__getattr__" = some none) (eN_Wrong : PySem.W.findIn K (.ref C_Wrong) "place" = some none) (eI_Wrong : PySem.W.findIn K (.ref C_Wrong) "__init__" = some (some (.ref fI_Wrong)))
    (eT_Wrong : PySem.W.typeIn K (.ref fI_Wrong) = some (.type "function")) (eK_Wrong : PySem.W.keepIn K (.ref C_Wrong) = true) (eX_Wrong : PySem.W.subIn K (.ref C_Wrong) (.type "BaseException") = some true) (eY_Wrong : PySem.W.subIn K (.ref C_Wrong) (.type "ValueError") = some true) (eZ_Wrong : PySem.W.typeIn K (.ref C_Wrong) = some (.type "type")) (eD_Wrong : PySem.W.hasDictIn K C_Wrong = true) (eM_Wrong : PySem.W.mroIn K C_Wrong (.ref C_Wrong) = some true) (eP_Wrong : PySem.W.ks_superIn K C_Wrong C_Wrong "__init__" = some (some (.builtin "ValueError.__init__")))
    (eF_Wrong : K.lookup fI_Wrong = some ⟨oc_Wrong, od_Wrong, .func (PySem.ErrX.iF "place" "Wrong.__init__" pa_Wrong pb_Wrong pc_Wrong pd_Wrong pe_Wrong pf_Wrong pg_Wrong ph_Wrong pi_Wrong pj_Wrong pk_Wrong pl_Wrong doc_Wrong pm_Wrong an_Wrong (.ref cda_Wrong) ct_Wrong cc_Wrong), osl_Wrong⟩) (eQ_Wrong : PySem.W.codeIn K (.ref cda_Wrong) "Wrong.__init__" = true) (eL_Wrong : K.lookup cda_Wrong = some ⟨ccl_Wrong, cdd_Wrong, .fields vs_Wrong, ccs_Wrong⟩) (eW_Wrong : vs_Wrong[2]? = some (.str l.prog.main.file tf_Wrong)) (eO_Wrong : K.lookup cc_Wrong = some ⟨cl_Wrong, cld_Wrong, .cell (some (.ref C_Wrong)), csl_Wrong⟩) (eE_Wrong : PySem.W.subIn K (.ref C_Wrong) (.ref C_FarError) = some true) (eR_Wrong : (pe_Wrong.endLine == pg_Wrong.line) = true)
    (xG : PySem.W.specialIn K (.builtin "object.__class__") "__get__" = some (some (.builtin "getset_descriptor.__get__"))) (xT : PySem.W.takesIn K (.builtin "object.__class__") = some true)
    {ci_NoPart : _} (xA_NoPart : PySem.W.findIn K (.ref C_NoPart) "__class__" = some (some (.builtin "object.__class__"))) (xM_NoPart : PySem.W.mroIn K C_NoPart (.type "object") = some true) (xC_NoPart : PySem.W.clsIn K C_NoPart = some ci_NoPart)
    {ci_Wrong : _} (xA_Wrong : PySem.W.findIn K (.ref C_Wrong) "__class__" = some (some (.builtin "object.__class__"))) (xM_Wrong : PySem.W.mroIn K C_Wrong (.type "object") = some true) (xC_Wrong : PySem.W.clsIn K C_Wrong = some ci_Wrong)
    (xN_NoPart_place : PySem.W.findIn K (.ref C_NoPart) "place" = some none)
    (xN_Wrong_address : PySem.W.findIn K (.ref C_Wrong) "address" = some none)
    (xD_NoPart_Wrong : ¬ C_NoPart = C_Wrong)
    (xS_NoPart_Wrong : PySem.W.subIn K (.ref C_NoPart) (.ref C_Wrong) = some false)
    (xS_Wrong_NoPart : PySem.W.subIn K (.ref C_Wrong) (.ref C_NoPart) = some false)
    : ∃ fd : FuncData, (∀ (s : Shared) (v : Value), BindsTo s fd ⟨[v], []⟩ [("_law_script", v)]) ∧ ∀ base : Heap, K.In base → base.Ns mainGlobals mg → (∃ m, base.Ns sysModules m) → FnG l.prog w K mg base CX0 207 fa fd ["_law_script"] (spLaw K) := by
  have e := hfa.symm.trans (PySem.W.mg_of X G a28)
  cases e
  have z_abs := PySem.W.mg_none_of X G y_abs
  have z_all := PySem.W.mg_none_of X G y_all
  have z_bool := PySem.W.mg_none_of X G y_bool
  have z_enumerate := PySem.W.mg_none_of X G y_enumerate
  have z_int := PySem.W.mg_none_of X G y_int
  have z_isinstance := PySem.W.mg_none_of X G y_isinstance
  have z_len := PySem.W.mg_none_of X G y_len
  have z_list := PySem.W.mg_none_of X G y_list
  have z_min := PySem.W.mg_none_of X G y_min
  have z_range := PySem.W.mg_none_of X G y_range
  have z_repr := PySem.W.mg_none_of X G y_repr
  have z_set := PySem.W.mg_none_of X G y_set
  have z_sorted := PySem.W.mg_none_of X G y_sorted
  have z_tuple := PySem.W.mg_none_of X G y_tuple
  have z_super := PySem.W.mg_none_of X G y_super
  have F_is_integer := fun_mk (st := s_is_integer) l1 c1 k1
  have m_is_integer := PySem.W.mg_of X G a1
  have b_is_integer := F_is_integer.binds (ps := ["thing"]) fun _ _ _ _ _ _ us hl => usE1 (P := fun us => bindArgs _ ⟨us, []⟩ = pure (List.zip _ us)) (fun _ => rfl) us hl
  have F_is_count := fun_mk (st := s_is_count) l2 c2 k2
  have m_is_count := PySem.W.mg_of X G a2
  have b_is_count := F_is_count.binds (ps := ["thing"]) fun _ _ _ _ _ _ us hl => usE1 (P := fun us => bindArgs _ ⟨us, []⟩ = pure (List.zip _ us)) (fun _ => rfl) us hl
  have F_is_address := fun_mk (st := s_is_address) l3 c3 k3
  have m_is_address := PySem.W.mg_of X G a3
  have b_is_address := F_is_address.binds (ps := ["thing"]) fun _ _ _ _ _ _ us hl => usE1 (P := fun us => bindArgs _ ⟨us, []⟩ = pure (List.zip _ us)) (fun _ => rfl) us hl
  have F_codes_within := fun_mk (st := s_codes_within) l4 c4 k4
  have m_codes_within := PySem.W.mg_of X G a4
  have b_codes_within := F_codes_within.binds (ps := ["code"]) fun _ _ _ _ _ _ us hl => usE1 (P := fun us => bindArgs _ ⟨us, []⟩ = pure (List.zip _ us)) (fun _ => rfl) us hl
  have F_with_codes := fun_mk (st := s_with_codes) l5 c5 k5
  have m_with_codes := PySem.W.mg_of X G a5
  have b_with_codes := F_with_codes.binds (ps := ["code", "codes"]) fun _ _ _ _ _ _ us hl => usE2 (P := fun us => bindArgs _ ⟨us, []⟩ = pure (List.zip _ us)) (fun _ _ => rfl) us hl
  have F_addresses := fun_mk (st := s_addresses) l6 c6 k6
  have m_addresses := PySem.W.mg_of X G a6
  have b_addresses := F_addresses.binds (ps := ["code"]) fun _ _ _ _ _ _ us hl => usE1 (P := fun us => bindArgs _ ⟨us, []⟩ = pure (List.zip _ us)) (fun _ => rfl) us hl
  have F_need_part := fun_mk (st := s_need_part) l7 c7 k7
  have m_need_part := PySem.W.mg_of X G a7
  have b_need_part := F_need_part.binds (ps := ["code", "address"]) fun _ _ _ _ _ _ us hl => usE2 (P := fun us => bindArgs _ ⟨us, []⟩ = pure (List.zip _ us)) (fun _ _ => rfl) us hl
  have F_part_at := fun_mk (st := s_part_at) l8 c8 k8
  have m_part_at := PySem.W.mg_of X G a8
  have b_part_at := F_part_at.binds (ps := ["code", "address"]) fun _ _ _ _ _ _ us hl => usE2 (P := fun us => bindArgs _ ⟨us, []⟩ = pure (List.zip _ us)) (fun _ _ => rfl) us hl
  have F_put_at := fun_mk (st := s_put_at) l9 c9 k9
  have m_put_at := PySem.W.mg_of X G a9
  have b_put_at := F_put_at.binds (ps := ["code", "address", "part"]) fun _ _ _ _ _ _ us hl => usE3 (P := fun us => bindArgs _ ⟨us, []⟩ = pure (List.zip _ us)) (fun _ _ _ => rfl) us hl
  have F_bound_at := fun_mk (st := s_bound_at) l10 c10 k10
  have m_bound_at := PySem.W.mg_of X G a10
  have b_bound_at := F_bound_at.binds (ps := ["code", "address"]) fun _ _ _ _ _ _ us hl => usE2 (P := fun us => bindArgs _ ⟨us, []⟩ = pure (List.zip _ us)) (fun _ _ => rfl) us hl
  have F_L_bag := fun_mk (st := s_L_bag) l11 c11 k11
  have m_L_bag := PySem.W.mg_of X G a11
  have b_L_bag := F_L_bag.binds (ps := ["_law_script"]) fun _ _ _ _ _ _ us hl => usE1 (P := fun us => bindArgs _ ⟨us, []⟩ = pure (List.zip _ us)) (fun _ => rfl) us hl
  have F_L_take := fun_mk (st := s_L_take) l12 c12 k12
  have m_L_take := PySem.W.mg_of X G a12
  have b_L_take := F_L_take.binds (ps := ["_law_bag_here", "_law_many"]) fun _ _ _ _ _ _ us hl => usE2 (P := fun us => bindArgs _ ⟨us, []⟩ = pure (List.zip _ us)) (fun _ _ => rfl) us hl
  have F_L_alike := fun_mk (st := s_L_alike) l13 c13 k13
  have m_L_alike := PySem.W.mg_of X G a13
  have b_L_alike := F_L_alike.binds (ps := ["_law_found", "_law_due"]) fun _ _ _ _ _ _ us hl => usE2 (P := fun us => bindArgs _ ⟨us, []⟩ = pure (List.zip _ us)) (fun _ _ => rfl) us hl
  have F_L_some := fun_mk (st := s_L_some) l14 c14 k14
  have m_L_some := PySem.W.mg_of X G a14
  have b_L_some := F_L_some.binds (ps := ["_law_bag_here", "_law_things"]) fun _ _ _ _ _ _ us hl => usE2 (P := fun us => bindArgs _ ⟨us, []⟩ = pure (List.zip _ us)) (fun _ _ => rfl) us hl
  have F_L_mixed := fun_mk (st := s_L_mixed) l15 c15 k15
  have m_L_mixed := PySem.W.mg_of X G a15
  have b_L_mixed := F_L_mixed.binds (ps := ["_law_bag_here", "_law_things"]) fun _ _ _ _ _ _ us hl => usE2 (P := fun us => bindArgs _ ⟨us, []⟩ = pure (List.zip _ us)) (fun _ _ => rfl) us hl
  have F_L_words := fun_mk (st := s_L_words) l16 c16 k16
  have m_L_words := PySem.W.mg_of X G a16
  have b_L_words := F_L_words.binds (ps := ["_law_bag_here", "_law_many"]) fun _ _ _ _ _ _ us hl => usE2 (P := fun us => bindArgs _ ⟨us, []⟩ = pure (List.zip _ us)) (fun _ _ => rfl) us hl
  have F_L_inner := fun_mk (st := s_L_inner) l17 c17 k17
  have m_L_inner := PySem.W.mg_of X G a17
  have b_L_inner := F_L_inner.binds (ps := ["_law_code"]) fun _ _ _ _ _ _ us hl => usE1 (P := fun us => bindArgs _ ⟨us, []⟩ = pure (List.zip _ us)) (fun _ => rfl) us hl
  have F_L_odd := fun_mk (st := s_L_odd) l18 c18 k18
  have m_L_odd := PySem.W.mg_of X G a18
  have b_L_odd := F_L_odd.binds (ps := ["_law_bag_here"]) fun _ _ _ _ _ _ us hl => usE1 (P := fun us => bindArgs _ ⟨us, []⟩ = pure (List.zip _ us)) (fun _ => rfl) us hl
  have F_L_any := fun_mk (st := s_L_any) l19 c19 k19
  have m_L_any := PySem.W.mg_of X G a19
  have b_L_any := F_L_any.binds (ps := ["_law_bag_here", "_law_names", "_law_room"]) fun _ _ _ _ _ _ us hl => usE3 (P := fun us => bindArgs _ ⟨us, []⟩ = pure (List.zip _ us)) (fun _ _ _ => rfl) us hl
  have F_L_addresses := fun_mk (st := s_L_addresses) l20 c20 k20
  have m_L_addresses := PySem.W.mg_of X G a20
  have b_L_addresses := F_L_addresses.binds (ps := ["_law_code"]) fun _ _ _ _ _ _ us hl => usE1 (P := fun us => bindArgs _ ⟨us, []⟩ = pure (List.zip _ us)) (fun _ => rfl) us hl
  have F_L_put := fun_mk (st := s_L_put) l21 c21 k21
  have m_L_put := PySem.W.mg_of X G a21
  have b_L_put := F_L_put.binds (ps := ["_law_code", "_law_address", "_law_part"]) fun _ _ _ _ _ _ us hl => usE3 (P := fun us => bindArgs _ ⟨us, []⟩ = pure (List.zip _ us)) (fun _ _ _ => rfl) us hl
  have F_L_at := fun_mk (st := s_L_at) l22 c22 k22
  have m_L_at := PySem.W.mg_of X G a22
  have b_L_at := F_L_at.binds (ps := ["_law_code", "_law_address"]) fun _ _ _ _ _ _ us hl => usE2 (P := fun us => bindArgs _ ⟨us, []⟩ = pure (List.zip _ us)) (fun _ _ => rfl) us hl
  have F_L_names_of := fun_mk (st := s_L_names_of) l23 c23 k23
  have m_L_names_of := PySem.W.mg_of X G a23
  have b_L_names_of := F_L_names_of.binds (ps := ["_law_bag_here", "_law_many"]) fun _ _ _ _ _ _ us hl => usE2 (P := fun us => bindArgs _ ⟨us, []⟩ = pure (List.zip _ us)) (fun _ _ => rfl) us hl
  have F_L_deepened := fun_mk (st := s_L_deepened) l24 c24 k24
  have m_L_deepened := PySem.W.mg_of X G a24
  have b_L_deepened := F_L_deepened.binds (ps := ["_law_bag_here", "_law_names", "_law_code"]) fun _ _ _ _ _ _ us hl => usE3 (P := fun us => bindArgs _ ⟨us, []⟩ = pure (List.zip _ us)) (fun _ _ _ => rfl) us hl
  have F_L_bound := fun_mk (st := s_L_bound) l25 c25 k25
  have m_L_bound := PySem.W.mg_of X G a25
  have b_L_bound := F_L_bound.binds (ps := ["_law_code", "_law_address"]) fun _ _ _ _ _ _ us hl => usE2 (P := fun us => bindArgs _ ⟨us, []⟩ = pure (List.zip _ us)) (fun _ _ => rfl) us hl
  have F_L_heard := fun_mk (st := s_L_heard) l26 c26 k26
  have m_L_heard := PySem.W.mg_of X G a26
  have b_L_heard := F_L_heard.binds (ps := ["_law_way", "_law_code", "_law_address", "_law_part"]) fun _ _ _ _ _ _ us hl => usE4 (P := fun us => bindArgs _ ⟨us, []⟩ = pure (List.zip _ us)) (fun _ _ _ _ => rfl) us hl
  have F_L_places := fun_mk (st := s_L_places) l27 c27 k27
  have m_L_places := PySem.W.mg_of X G a27
  have b_L_places := F_L_places.binds (ps := ["_law_bag_here", "_law_every"]) fun _ _ _ _ _ _ us hl => usE2 (P := fun us => bindArgs _ ⟨us, []⟩ = pure (List.zip _ us)) (fun _ _ => rfl) us hl
  have F_law := fun_mk (st := s_law) l28 c28 k28
  have m_law := PySem.W.mg_of X G a28
  refine ⟨PySem.W.fnOf "law" "law" (defArgs s_law) (defBody s_law) (defScope s_law) .none kV28 dc28 pm28 an28 cd28 ct28, fun s v => .of_eq rfl, fun base _ _ hS => ?_⟩
  have m_FarError := PySem.W.mg_of X G fA
  have er_NoPart : ErrP l.prog K mg "NoPart" "address" C_NoPart := ⟨_, _, ⟨⟨by decide, by decide, by decide, by decide, by decide⟩, PySem.W.mg_of X G eA_NoPart, z_super, eTop, ⟨_, _, _, _, _, _, _, _, _, _, _, _, _, _, _, eC_NoPart, eV_NoPart⟩, eS_NoPart, eG_NoPart, eH_NoPart, eN_NoPart, eI_NoPart, eT_NoPart, eK_NoPart, eX_NoPart, eY_NoPart, eZ_NoPart, eD_NoPart, eM_NoPart, eP_NoPart, eOpq,
    ⟨_, _, _, _, _, _, _, _, _, _, _, _, _, _, _, _, _, _, _, _, _, eF_NoPart, eQ_NoPart, ⟨_, _, _, _, _, _, eL_NoPart, eW_NoPart, beq_self_eq_true _⟩, ⟨_, _, _, eO_NoPart⟩, fun _ _ => rfl, err_ev eR_NoPart, err_sw⟩⟩⟩
  have ex_NoPart : PySem.W.exmOne K (.ref C_NoPart) (.ref C_FarError) = some true := by
    unfold PySem.W.exmOne
    rw [fB, if_pos (by decide)]
    simp only [PySem.W.kitCls]
    rw [fC, fT, if_pos (by simp)]
    exact eE_NoPart
  have er_Wrong : ErrP l.prog K mg "Wrong" "place" C_Wrong := ⟨_, _, ⟨⟨by decide, by decide, by decide, by decide, by decide⟩, PySem.W.mg_of X G eA_Wrong, z_super, eTop, ⟨_, _, _, _, _, _, _, _, _, _, _, _, _, _, _, eC_Wrong, eV_Wrong⟩, eS_Wrong, eG_Wrong, eH_Wrong, eN_Wrong, eI_Wrong, eT_Wrong, eK_Wrong, eX_Wrong, eY_Wrong, eZ_Wrong, eD_Wrong, eM_Wrong, eP_Wrong, eOpq,
    ⟨_, _, _, _, _, _, _, _, _, _, _, _, _, _, _, _, _, _, _, _, _, eF_Wrong, eQ_Wrong, ⟨_, _, _, _, _, _, eL_Wrong, eW_Wrong, beq_self_eq_true _⟩, ⟨_, _, _, eO_Wrong⟩, fun _ _ => rfl, err_ev eR_Wrong, err_sw⟩⟩⟩
  have ex_Wrong : PySem.W.exmOne K (.ref C_Wrong) (.ref C_FarError) = some true := by
    unfold PySem.W.exmOne
    rw [fB, if_pos (by decide)]
    simp only [PySem.W.kitCls]
    rw [fC, fT, if_pos (by simp)]
    exact eE_Wrong
  have xE : ∀ C, (C = C_NoPart ∨ C = C_Wrong) → XfC K C ∧ L2.ExcC K C ∧ (PySem.W.clsIn K C).isSome = true := fun C hC => by
    rcases hC with rfl | rfl
    · exact ⟨⟨eG_NoPart, eH_NoPart, eX_NoPart, eD_NoPart⟩, ⟨eG_NoPart, eH_NoPart, eX_NoPart, eD_NoPart, xA_NoPart, xG, xT, xM_NoPart⟩, by rw [xC_NoPart]; rfl⟩
    · exact ⟨⟨eG_Wrong, eH_Wrong, eX_Wrong, eD_Wrong⟩, ⟨eG_Wrong, eH_Wrong, eX_Wrong, eD_Wrong, xA_Wrong, xG, xT, xM_Wrong⟩, by rw [xC_Wrong]; rfl⟩
  have xn_address : ∀ C, (C = C_NoPart ∨ C = C_Wrong) → PySem.W.findIn K (.ref C) "address" = some none := fun C hC => by
    rcases hC with rfl | rfl
    · exact eN_NoPart
    · exact xN_Wrong_address
  have xn_place : ∀ C, (C = C_NoPart ∨ C = C_Wrong) → PySem.W.findIn K (.ref C) "place" = some none := fun C hC => by
    rcases hC with rfl | rfl
    · exact xN_NoPart_place
    · exact eN_Wrong
  have ne_NoPart_Wrong : ¬ C_NoPart = C_Wrong := xD_NoPart_Wrong
  have ne_Wrong_NoPart : ¬ C_Wrong = C_NoPart := fun z => xD_NoPart_Wrong z.symm
  have mc_NoPart := PySem.W.mg_of X G eA_NoPart
  have ix_NoPart : ∀ D, (D = C_NoPart ∨ D = C_Wrong) → PySem.W.kitOne K (.ref D) (.ref C_NoPart) = some (decide (D = C_NoPart)) := fun D hD => by
    rcases hD with rfl | rfl
    · rw [decide_eq_true rfl]; exact kit_self
    · rw [decide_eq_false ne_Wrong_NoPart]; exact kit_own xC_NoPart eZ_NoPart (by simp only [beq_eq_false_iff_ne, ne_eq, Value.ref.injEq]; exact ne_Wrong_NoPart) xS_Wrong_NoPart
  have mc_Wrong := PySem.W.mg_of X G eA_Wrong
  have ix_Wrong : ∀ D, (D = C_NoPart ∨ D = C_Wrong) → PySem.W.kitOne K (.ref D) (.ref C_Wrong) = some (decide (D = C_Wrong)) := fun D hD => by
    rcases hD with rfl | rfl
    · rw [decide_eq_false ne_NoPart_Wrong]; exact kit_own xC_Wrong eZ_Wrong (by simp only [beq_eq_false_iff_ne, ne_eq, Value.ref.injEq]; exact ne_NoPart_Wrong) xS_NoPart_Wrong
    · rw [decide_eq_true rfl]; exact kit_self
  -- LEVEL 207
  have dpos : ∀ c : Code, 0 < c.dp := fun c => by cases c <;> simp only [Code.dp] <;> omega
  have c_iint : CalP l.prog w K mg base 1 "is_integer" R_intG := CalP.of (fn_is_integer F_is_integer z_bool z_int z_isinstance (fun _ _ h => by first | (exact congrArg List.length h.1) | (exact Exists.elim h fun _ h => congrArg List.length h.1) | (exact Exists.elim h fun _ h => Exists.elim h fun _ h => congrArg List.length h.1) | (exact Exists.elim h fun _ h => Exists.elim h fun _ h => Exists.elim h fun _ h => congrArg List.length h.1) | (exact Exists.elim h fun _ h => Exists.elim h fun _ h => Exists.elim h fun _ h => Exists.elim h fun _ h => congrArg List.length h.1) | (exact Exists.elim h fun _ h => Exists.elim h fun _ h => Exists.elim h fun _ h => Exists.elim h fun _ h => Exists.elim h fun _ h => congrArg List.length h.1) | (exact Exists.elim h fun _ h => Exists.elim h fun _ h => Exists.elim h fun _ h => Exists.elim h fun _ h => Exists.elim h fun _ h => Exists.elim h fun _ h => congrArg List.length h.1) | (exact Exists.elim h fun _ h => Exists.elim h fun _ h => Exists.elim h fun _ h => Exists.elim h fun _ h => Exists.elim h fun _ h => Exists.elim h fun _ h => Exists.elim h fun _ h => congrArg List.length h.1) | (exact Exists.elim h fun _ h => Exists.elim h fun _ h => Exists.elim h fun _ h => Exists.elim h fun _ h => Exists.elim h fun _ h => Exists.elim h fun _ h => Exists.elim h fun _ h => Exists.elim h fun _ h => congrArg List.length h.1) | (exact Exists.elim h fun _ h => Exists.elim h fun _ h => Exists.elim h fun _ h => Exists.elim h fun _ h => Exists.elim h fun _ h => Exists.elim h fun _ h => Exists.elim h fun _ h => Exists.elim h fun _ h => Exists.elim h fun _ h => congrArg List.length h.1)) p_intG) m_is_integer F_is_integer b_is_integer
  have c_icnt : CalP l.prog w K mg base 2 "is_count" R_cntG := CalP.of (fn_is_count F_is_count (c_iint.mono (by omega)) (fun _ _ h => by first | (exact congrArg List.length h.1) | (exact Exists.elim h fun _ h => congrArg List.length h.1) | (exact Exists.elim h fun _ h => Exists.elim h fun _ h => congrArg List.length h.1) | (exact Exists.elim h fun _ h => Exists.elim h fun _ h => Exists.elim h fun _ h => congrArg List.length h.1) | (exact Exists.elim h fun _ h => Exists.elim h fun _ h => Exists.elim h fun _ h => Exists.elim h fun _ h => congrArg List.length h.1) | (exact Exists.elim h fun _ h => Exists.elim h fun _ h => Exists.elim h fun _ h => Exists.elim h fun _ h => Exists.elim h fun _ h => congrArg List.length h.1) | (exact Exists.elim h fun _ h => Exists.elim h fun _ h => Exists.elim h fun _ h => Exists.elim h fun _ h => Exists.elim h fun _ h => Exists.elim h fun _ h => congrArg List.length h.1) | (exact Exists.elim h fun _ h => Exists.elim h fun _ h => Exists.elim h fun _ h => Exists.elim h fun _ h => Exists.elim h fun _ h => Exists.elim h fun _ h => Exists.elim h fun _ h => congrArg List.length h.1) | (exact Exists.elim h fun _ h => Exists.elim h fun _ h => Exists.elim h fun _ h => Exists.elim h fun _ h => Exists.elim h fun _ h => Exists.elim h fun _ h => Exists.elim h fun _ h => Exists.elim h fun _ h => congrArg List.length h.1) | (exact Exists.elim h fun _ h => Exists.elim h fun _ h => Exists.elim h fun _ h => Exists.elim h fun _ h => Exists.elim h fun _ h => Exists.elim h fun _ h => Exists.elim h fun _ h => Exists.elim h fun _ h => Exists.elim h fun _ h => congrArg List.length h.1)) p_cntG) m_is_count F_is_count b_is_count
  have c_isad : CalP l.prog w K mg base 3 "is_address" R_isad := CalP.of (fn_is_address F_is_address z_all z_isinstance z_tuple (c_icnt.mono (by omega)) (fun _ _ h => by first | (exact congrArg List.length h.1) | (exact Exists.elim h fun _ h => congrArg List.length h.1) | (exact Exists.elim h fun _ h => Exists.elim h fun _ h => congrArg List.length h.1) | (exact Exists.elim h fun _ h => Exists.elim h fun _ h => Exists.elim h fun _ h => congrArg List.length h.1) | (exact Exists.elim h fun _ h => Exists.elim h fun _ h => Exists.elim h fun _ h => Exists.elim h fun _ h => congrArg List.length h.1) | (exact Exists.elim h fun _ h => Exists.elim h fun _ h => Exists.elim h fun _ h => Exists.elim h fun _ h => Exists.elim h fun _ h => congrArg List.length h.1) | (exact Exists.elim h fun _ h => Exists.elim h fun _ h => Exists.elim h fun _ h => Exists.elim h fun _ h => Exists.elim h fun _ h => Exists.elim h fun _ h => congrArg List.length h.1) | (exact Exists.elim h fun _ h => Exists.elim h fun _ h => Exists.elim h fun _ h => Exists.elim h fun _ h => Exists.elim h fun _ h => Exists.elim h fun _ h => Exists.elim h fun _ h => congrArg List.length h.1) | (exact Exists.elim h fun _ h => Exists.elim h fun _ h => Exists.elim h fun _ h => Exists.elim h fun _ h => Exists.elim h fun _ h => Exists.elim h fun _ h => Exists.elim h fun _ h => Exists.elim h fun _ h => congrArg List.length h.1) | (exact Exists.elim h fun _ h => Exists.elim h fun _ h => Exists.elim h fun _ h => Exists.elim h fun _ h => Exists.elim h fun _ h => Exists.elim h fun _ h => Exists.elim h fun _ h => Exists.elim h fun _ h => Exists.elim h fun _ h => congrArg List.length h.1)) p_isad) m_is_address F_is_address b_is_address
  have c_in : CalP l.prog w K mg base 1 "codes_within" R_in := CalP.of (fn_codes_within F_codes_within  (fun _ _ h => by first | (exact congrArg List.length h.1) | (exact Exists.elim h fun _ h => congrArg List.length h.1) | (exact Exists.elim h fun _ h => Exists.elim h fun _ h => congrArg List.length h.1) | (exact Exists.elim h fun _ h => Exists.elim h fun _ h => Exists.elim h fun _ h => congrArg List.length h.1) | (exact Exists.elim h fun _ h => Exists.elim h fun _ h => Exists.elim h fun _ h => Exists.elim h fun _ h => congrArg List.length h.1) | (exact Exists.elim h fun _ h => Exists.elim h fun _ h => Exists.elim h fun _ h => Exists.elim h fun _ h => Exists.elim h fun _ h => congrArg List.length h.1) | (exact Exists.elim h fun _ h => Exists.elim h fun _ h => Exists.elim h fun _ h => Exists.elim h fun _ h => Exists.elim h fun _ h => Exists.elim h fun _ h => congrArg List.length h.1) | (exact Exists.elim h fun _ h => Exists.elim h fun _ h => Exists.elim h fun _ h => Exists.elim h fun _ h => Exists.elim h fun _ h => Exists.elim h fun _ h => Exists.elim h fun _ h => congrArg List.length h.1) | (exact Exists.elim h fun _ h => Exists.elim h fun _ h => Exists.elim h fun _ h => Exists.elim h fun _ h => Exists.elim h fun _ h => Exists.elim h fun _ h => Exists.elim h fun _ h => Exists.elim h fun _ h => congrArg List.length h.1) | (exact Exists.elim h fun _ h => Exists.elim h fun _ h => Exists.elim h fun _ h => Exists.elim h fun _ h => Exists.elim h fun _ h => Exists.elim h fun _ h => Exists.elim h fun _ h => Exists.elim h fun _ h => Exists.elim h fun _ h => congrArg List.length h.1)) (p_in _ (.inl rfl))) m_codes_within F_codes_within b_codes_within
  have c_inner : CalP l.prog w K mg base 1 "_law_inner" R_in := CalP.of (fn_L_inner F_L_inner  (fun _ _ h => by first | (exact congrArg List.length h.1) | (exact Exists.elim h fun _ h => congrArg List.length h.1) | (exact Exists.elim h fun _ h => Exists.elim h fun _ h => congrArg List.length h.1) | (exact Exists.elim h fun _ h => Exists.elim h fun _ h => Exists.elim h fun _ h => congrArg List.length h.1) | (exact Exists.elim h fun _ h => Exists.elim h fun _ h => Exists.elim h fun _ h => Exists.elim h fun _ h => congrArg List.length h.1) | (exact Exists.elim h fun _ h => Exists.elim h fun _ h => Exists.elim h fun _ h => Exists.elim h fun _ h => Exists.elim h fun _ h => congrArg List.length h.1) | (exact Exists.elim h fun _ h => Exists.elim h fun _ h => Exists.elim h fun _ h => Exists.elim h fun _ h => Exists.elim h fun _ h => Exists.elim h fun _ h => congrArg List.length h.1) | (exact Exists.elim h fun _ h => Exists.elim h fun _ h => Exists.elim h fun _ h => Exists.elim h fun _ h => Exists.elim h fun _ h => Exists.elim h fun _ h => Exists.elim h fun _ h => congrArg List.length h.1) | (exact Exists.elim h fun _ h => Exists.elim h fun _ h => Exists.elim h fun _ h => Exists.elim h fun _ h => Exists.elim h fun _ h => Exists.elim h fun _ h => Exists.elim h fun _ h => Exists.elim h fun _ h => congrArg List.length h.1) | (exact Exists.elim h fun _ h => Exists.elim h fun _ h => Exists.elim h fun _ h => Exists.elim h fun _ h => Exists.elim h fun _ h => Exists.elim h fun _ h => Exists.elim h fun _ h => Exists.elim h fun _ h => Exists.elim h fun _ h => congrArg List.length h.1)) (p_in _ (.inr rfl))) m_L_inner F_L_inner b_L_inner
  have c_withc : CalP l.prog w K mg base 1 "with_codes" R_withc := CalP.of (fn_with_codes F_with_codes z_tuple (fun _ _ h => by first | (exact congrArg List.length h.1) | (exact Exists.elim h fun _ h => congrArg List.length h.1) | (exact Exists.elim h fun _ h => Exists.elim h fun _ h => congrArg List.length h.1) | (exact Exists.elim h fun _ h => Exists.elim h fun _ h => Exists.elim h fun _ h => congrArg List.length h.1) | (exact Exists.elim h fun _ h => Exists.elim h fun _ h => Exists.elim h fun _ h => Exists.elim h fun _ h => congrArg List.length h.1) | (exact Exists.elim h fun _ h => Exists.elim h fun _ h => Exists.elim h fun _ h => Exists.elim h fun _ h => Exists.elim h fun _ h => congrArg List.length h.1) | (exact Exists.elim h fun _ h => Exists.elim h fun _ h => Exists.elim h fun _ h => Exists.elim h fun _ h => Exists.elim h fun _ h => Exists.elim h fun _ h => congrArg List.length h.1) | (exact Exists.elim h fun _ h => Exists.elim h fun _ h => Exists.elim h fun _ h => Exists.elim h fun _ h => Exists.elim h fun _ h => Exists.elim h fun _ h => Exists.elim h fun _ h => congrArg List.length h.1) | (exact Exists.elim h fun _ h => Exists.elim h fun _ h => Exists.elim h fun _ h => Exists.elim h fun _ h => Exists.elim h fun _ h => Exists.elim h fun _ h => Exists.elim h fun _ h => Exists.elim h fun _ h => congrArg List.length h.1) | (exact Exists.elim h fun _ h => Exists.elim h fun _ h => Exists.elim h fun _ h => Exists.elim h fun _ h => Exists.elim h fun _ h => Exists.elim h fun _ h => Exists.elim h fun _ h => Exists.elim h fun _ h => Exists.elim h fun _ h => congrArg List.length h.1)) p_with_codes) m_with_codes F_with_codes b_with_codes
  have c_adr : ∀ n, CalT l.prog w K mg base (n + 2) "addresses" (R_adrT n) := fun n => by
    induction n with
    | zero => exact CalT.of (FnG.neverT fun _ _ h => by obtain ⟨c, _, h0, _⟩ := h; have := dpos c; omega) m_addresses F_addresses b_addresses
    | succ n ih => exact CalT.of (fn_addresses F_addresses z_enumerate (c_in.mono (by omega)) ih (fun _ _ h => by first | (exact congrArg List.length h.1) | (exact Exists.elim h fun _ h => congrArg List.length h.1) | (exact Exists.elim h fun _ h => Exists.elim h fun _ h => congrArg List.length h.1) | (exact Exists.elim h fun _ h => Exists.elim h fun _ h => Exists.elim h fun _ h => congrArg List.length h.1) | (exact Exists.elim h fun _ h => Exists.elim h fun _ h => Exists.elim h fun _ h => Exists.elim h fun _ h => congrArg List.length h.1) | (exact Exists.elim h fun _ h => Exists.elim h fun _ h => Exists.elim h fun _ h => Exists.elim h fun _ h => Exists.elim h fun _ h => congrArg List.length h.1) | (exact Exists.elim h fun _ h => Exists.elim h fun _ h => Exists.elim h fun _ h => Exists.elim h fun _ h => Exists.elim h fun _ h => Exists.elim h fun _ h => congrArg List.length h.1) | (exact Exists.elim h fun _ h => Exists.elim h fun _ h => Exists.elim h fun _ h => Exists.elim h fun _ h => Exists.elim h fun _ h => Exists.elim h fun _ h => Exists.elim h fun _ h => congrArg List.length h.1) | (exact Exists.elim h fun _ h => Exists.elim h fun _ h => Exists.elim h fun _ h => Exists.elim h fun _ h => Exists.elim h fun _ h => Exists.elim h fun _ h => Exists.elim h fun _ h => Exists.elim h fun _ h => congrArg List.length h.1) | (exact Exists.elim h fun _ h => Exists.elim h fun _ h => Exists.elim h fun _ h => Exists.elim h fun _ h => Exists.elim h fun _ h => Exists.elim h fun _ h => Exists.elim h fun _ h => Exists.elim h fun _ h => Exists.elim h fun _ h => congrArg List.length h.1)) (p_addresses n)) m_addresses F_addresses b_addresses
  have c_need : CalV l.prog w K mg base 103 "need_part" (R_needV C_NoPart 100) := CalV.of (fn_need_partV F_need_part (c_isad.mono (by omega)) ((c_adr 100).mono (by omega)) er_NoPart (fun _ _ _ h => by first | (obtain ⟨_, rfl, _⟩ := h; rfl) | (obtain ⟨_, _, rfl, _⟩ := h; rfl) | (obtain ⟨_, _, _, rfl, _⟩ := h; rfl) | (obtain ⟨_, _, _, _, rfl, _⟩ := h; rfl)) (p_needV C_NoPart 100)) m_need_part F_need_part b_need_part
  have c_pat : CalV l.prog w K mg base 104 "part_at" (R_patV C_NoPart 100) := CalV.of (fn_part_atV F_part_at (c_in.mono (by omega)) (c_need.mono (by omega)) (fun _ _ _ h => by first | (obtain ⟨_, rfl, _⟩ := h; rfl) | (obtain ⟨_, _, rfl, _⟩ := h; rfl) | (obtain ⟨_, _, _, rfl, _⟩ := h; rfl) | (obtain ⟨_, _, _, _, rfl, _⟩ := h; rfl)) (p_patV C_NoPart 100)) m_part_at F_part_at b_part_at
  have c_pta : ∀ n, CalV l.prog w K mg base (n + 104) "put_at" (R_ptaV C_NoPart n) := fun n => by
    induction n with
    | zero => exact CalV.of (FnG.neverV fun _ _ _ h => by obtain ⟨c, _, _, _, h0, _⟩ := h; have := dpos c; omega) m_put_at F_put_at b_put_at
    | succ n ih => exact CalV.of (fn_put_atV F_put_at z_list (c_in.mono (by omega)) (c_withc.mono (by omega)) (c_need.mono (by omega)) ih (fun _ _ _ h => by first | (obtain ⟨_, rfl, _⟩ := h; rfl) | (obtain ⟨_, _, rfl, _⟩ := h; rfl) | (obtain ⟨_, _, _, rfl, _⟩ := h; rfl) | (obtain ⟨_, _, _, _, rfl, _⟩ := h; rfl)) (p_ptaV C_NoPart n)) m_put_at F_put_at b_put_at
  have c_bat : CalVT l.prog w K mg base 104 "bound_at" (R_bndV C_NoPart 100) := CalVT.of (fn_bound_atV F_bound_at z_set z_sorted (c_in.mono (by omega)) (c_need.mono (by omega)) (fun _ _ _ h => by first | (obtain ⟨_, rfl, _⟩ := h; rfl) | (obtain ⟨_, _, rfl, _⟩ := h; rfl) | (obtain ⟨_, _, _, rfl, _⟩ := h; rfl) | (obtain ⟨_, _, _, _, rfl, _⟩ := h; rfl)) (p_bndV C_NoPart 100)) m_bound_at F_bound_at b_bound_at
  have c_take : CalP l.prog w K mg base 1 "_law_take" R_take := CalP.of (fn_L_take F_L_take z_int (fun _ _ h => by first | (exact congrArg List.length h.1) | (exact Exists.elim h fun _ h => congrArg List.length h.1) | (exact Exists.elim h fun _ h => Exists.elim h fun _ h => congrArg List.length h.1) | (exact Exists.elim h fun _ h => Exists.elim h fun _ h => Exists.elim h fun _ h => congrArg List.length h.1) | (exact Exists.elim h fun _ h => Exists.elim h fun _ h => Exists.elim h fun _ h => Exists.elim h fun _ h => congrArg List.length h.1) | (exact Exists.elim h fun _ h => Exists.elim h fun _ h => Exists.elim h fun _ h => Exists.elim h fun _ h => Exists.elim h fun _ h => congrArg List.length h.1) | (exact Exists.elim h fun _ h => Exists.elim h fun _ h => Exists.elim h fun _ h => Exists.elim h fun _ h => Exists.elim h fun _ h => Exists.elim h fun _ h => congrArg List.length h.1) | (exact Exists.elim h fun _ h => Exists.elim h fun _ h => Exists.elim h fun _ h => Exists.elim h fun _ h => Exists.elim h fun _ h => Exists.elim h fun _ h => Exists.elim h fun _ h => congrArg List.length h.1) | (exact Exists.elim h fun _ h => Exists.elim h fun _ h => Exists.elim h fun _ h => Exists.elim h fun _ h => Exists.elim h fun _ h => Exists.elim h fun _ h => Exists.elim h fun _ h => Exists.elim h fun _ h => congrArg List.length h.1) | (exact Exists.elim h fun _ h => Exists.elim h fun _ h => Exists.elim h fun _ h => Exists.elim h fun _ h => Exists.elim h fun _ h => Exists.elim h fun _ h => Exists.elim h fun _ h => Exists.elim h fun _ h => Exists.elim h fun _ h => congrArg List.length h.1)) p_take) m_L_take F_L_take b_L_take
  have c_bag : BagP l.prog w K mg base 1 "_law_bag" := ⟨_, _, _, 1, _, by decide, Nat.le_refl _, fn_L_bag F_L_bag z_abs, m_L_bag, F_L_bag.kp, b_L_bag⟩
  have c_lal : CalP l.prog w K mg base 1 "_law_alike" R_lalike := CalP.of (fn_L_alike F_L_alike z_repr hS (fun _ _ h => by first | (exact congrArg List.length h.1) | (exact Exists.elim h fun _ h => congrArg List.length h.1) | (exact Exists.elim h fun _ h => Exists.elim h fun _ h => congrArg List.length h.1) | (exact Exists.elim h fun _ h => Exists.elim h fun _ h => Exists.elim h fun _ h => congrArg List.length h.1) | (exact Exists.elim h fun _ h => Exists.elim h fun _ h => Exists.elim h fun _ h => Exists.elim h fun _ h => congrArg List.length h.1) | (exact Exists.elim h fun _ h => Exists.elim h fun _ h => Exists.elim h fun _ h => Exists.elim h fun _ h => Exists.elim h fun _ h => congrArg List.length h.1) | (exact Exists.elim h fun _ h => Exists.elim h fun _ h => Exists.elim h fun _ h => Exists.elim h fun _ h => Exists.elim h fun _ h => Exists.elim h fun _ h => congrArg List.length h.1) | (exact Exists.elim h fun _ h => Exists.elim h fun _ h => Exists.elim h fun _ h => Exists.elim h fun _ h => Exists.elim h fun _ h => Exists.elim h fun _ h => Exists.elim h fun _ h => congrArg List.length h.1) | (exact Exists.elim h fun _ h => Exists.elim h fun _ h => Exists.elim h fun _ h => Exists.elim h fun _ h => Exists.elim h fun _ h => Exists.elim h fun _ h => Exists.elim h fun _ h => Exists.elim h fun _ h => congrArg List.length h.1) | (exact Exists.elim h fun _ h => Exists.elim h fun _ h => Exists.elim h fun _ h => Exists.elim h fun _ h => Exists.elim h fun _ h => Exists.elim h fun _ h => Exists.elim h fun _ h => Exists.elim h fun _ h => Exists.elim h fun _ h => congrArg List.length h.1)) p_lalike) m_L_alike F_L_alike b_L_alike
  have c_some : CalP l.prog w K mg base 2 "_law_some" R_some := CalP.of (fn_L_some F_L_some z_len (c_take.mono (by omega)) (fun _ _ h => by rcases h with ⟨_, rfl, _⟩ | ⟨_, rfl, _⟩ <;> rfl) p_some) m_L_some F_L_some b_L_some
  have c_mixed : CalP l.prog w K mg base 2 "_law_mixed" (R_mixed 16) := CalP.of (fn_L_mixed F_L_mixed z_len (c_take.mono (by omega)) (fun _ _ h => by obtain ⟨_, h | h, _⟩ := h <;> (subst h; rfl)) (p_mixed (by decide))) m_L_mixed F_L_mixed b_L_mixed
  have c_words : CalP l.prog w K mg base 3 "_law_words" R_words := CalP.of (fn_L_words F_L_words z_int (c_take.mono (by omega)) (c_mixed.mono (by omega)) (fun _ _ h => by first | (exact congrArg List.length h.1) | (exact Exists.elim h fun _ h => congrArg List.length h.1) | (exact Exists.elim h fun _ h => Exists.elim h fun _ h => congrArg List.length h.1) | (exact Exists.elim h fun _ h => Exists.elim h fun _ h => Exists.elim h fun _ h => congrArg List.length h.1) | (exact Exists.elim h fun _ h => Exists.elim h fun _ h => Exists.elim h fun _ h => Exists.elim h fun _ h => congrArg List.length h.1) | (exact Exists.elim h fun _ h => Exists.elim h fun _ h => Exists.elim h fun _ h => Exists.elim h fun _ h => Exists.elim h fun _ h => congrArg List.length h.1) | (exact Exists.elim h fun _ h => Exists.elim h fun _ h => Exists.elim h fun _ h => Exists.elim h fun _ h => Exists.elim h fun _ h => Exists.elim h fun _ h => congrArg List.length h.1) | (exact Exists.elim h fun _ h => Exists.elim h fun _ h => Exists.elim h fun _ h => Exists.elim h fun _ h => Exists.elim h fun _ h => Exists.elim h fun _ h => Exists.elim h fun _ h => congrArg List.length h.1) | (exact Exists.elim h fun _ h => Exists.elim h fun _ h => Exists.elim h fun _ h => Exists.elim h fun _ h => Exists.elim h fun _ h => Exists.elim h fun _ h => Exists.elim h fun _ h => Exists.elim h fun _ h => congrArg List.length h.1) | (exact Exists.elim h fun _ h => Exists.elim h fun _ h => Exists.elim h fun _ h => Exists.elim h fun _ h => Exists.elim h fun _ h => Exists.elim h fun _ h => Exists.elim h fun _ h => Exists.elim h fun _ h => Exists.elim h fun _ h => congrArg List.length h.1)) p_words) m_L_words F_L_words b_L_words
  have c_names : CalP l.prog w K mg base 4 "_law_names_of" R_names := CalP.of (fn_L_names_of F_L_names_of z_int z_range (c_take.mono (by omega)) (c_words.mono (by omega)) (c_some.mono (by omega)) (fun _ _ h => by first | (exact congrArg List.length h.1) | (exact Exists.elim h fun _ h => congrArg List.length h.1) | (exact Exists.elim h fun _ h => Exists.elim h fun _ h => congrArg List.length h.1) | (exact Exists.elim h fun _ h => Exists.elim h fun _ h => Exists.elim h fun _ h => congrArg List.length h.1) | (exact Exists.elim h fun _ h => Exists.elim h fun _ h => Exists.elim h fun _ h => Exists.elim h fun _ h => congrArg List.length h.1) | (exact Exists.elim h fun _ h => Exists.elim h fun _ h => Exists.elim h fun _ h => Exists.elim h fun _ h => Exists.elim h fun _ h => congrArg List.length h.1) | (exact Exists.elim h fun _ h => Exists.elim h fun _ h => Exists.elim h fun _ h => Exists.elim h fun _ h => Exists.elim h fun _ h => Exists.elim h fun _ h => congrArg List.length h.1) | (exact Exists.elim h fun _ h => Exists.elim h fun _ h => Exists.elim h fun _ h => Exists.elim h fun _ h => Exists.elim h fun _ h => Exists.elim h fun _ h => Exists.elim h fun _ h => congrArg List.length h.1) | (exact Exists.elim h fun _ h => Exists.elim h fun _ h => Exists.elim h fun _ h => Exists.elim h fun _ h => Exists.elim h fun _ h => Exists.elim h fun _ h => Exists.elim h fun _ h => Exists.elim h fun _ h => congrArg List.length h.1) | (exact Exists.elim h fun _ h => Exists.elim h fun _ h => Exists.elim h fun _ h => Exists.elim h fun _ h => Exists.elim h fun _ h => Exists.elim h fun _ h => Exists.elim h fun _ h => Exists.elim h fun _ h => Exists.elim h fun _ h => congrArg List.length h.1)) p_names) m_L_names_of F_L_names_of b_L_names_of
  have c_odd : CalP l.prog w K mg base 3 "_law_odd" R_odd3 := CalP.of (fn_L_odd F_L_odd z_range (c_some.mono (by omega)) (fun _ _ h => congrArg List.length h.1) p_odd3) m_L_odd F_L_odd b_L_odd
  have c_any : ∀ n, CalP l.prog w K mg base (n + 3) "_law_any" (R_any n) := fun n => by
    induction n with
    | zero => exact CalP.of (FnG.never fun _ _ h => by obtain ⟨_, _, _, _, _, _, h0, h1, _⟩ := h; omega) m_L_any F_L_any b_L_any
    | succ n ih => exact CalP.of (fn_L_any F_L_any z_int z_min z_range z_tuple (c_take.mono (by omega)) (c_some.mono (by omega)) ih (fun _ _ h => by first | (exact congrArg List.length h.1) | (exact Exists.elim h fun _ h => congrArg List.length h.1) | (exact Exists.elim h fun _ h => Exists.elim h fun _ h => congrArg List.length h.1) | (exact Exists.elim h fun _ h => Exists.elim h fun _ h => Exists.elim h fun _ h => congrArg List.length h.1) | (exact Exists.elim h fun _ h => Exists.elim h fun _ h => Exists.elim h fun _ h => Exists.elim h fun _ h => congrArg List.length h.1) | (exact Exists.elim h fun _ h => Exists.elim h fun _ h => Exists.elim h fun _ h => Exists.elim h fun _ h => Exists.elim h fun _ h => congrArg List.length h.1) | (exact Exists.elim h fun _ h => Exists.elim h fun _ h => Exists.elim h fun _ h => Exists.elim h fun _ h => Exists.elim h fun _ h => Exists.elim h fun _ h => congrArg List.length h.1) | (exact Exists.elim h fun _ h => Exists.elim h fun _ h => Exists.elim h fun _ h => Exists.elim h fun _ h => Exists.elim h fun _ h => Exists.elim h fun _ h => Exists.elim h fun _ h => congrArg List.length h.1) | (exact Exists.elim h fun _ h => Exists.elim h fun _ h => Exists.elim h fun _ h => Exists.elim h fun _ h => Exists.elim h fun _ h => Exists.elim h fun _ h => Exists.elim h fun _ h => Exists.elim h fun _ h => congrArg List.length h.1) | (exact Exists.elim h fun _ h => Exists.elim h fun _ h => Exists.elim h fun _ h => Exists.elim h fun _ h => Exists.elim h fun _ h => Exists.elim h fun _ h => Exists.elim h fun _ h => Exists.elim h fun _ h => Exists.elim h fun _ h => congrArg List.length h.1)) (p_any n)) m_L_any F_L_any b_L_any
  have c_laddr : ∀ n, CalP l.prog w K mg base (n + 2) "_law_addresses" (R_ladr n) := fun n => by
    induction n with
    | zero => exact CalP.of (FnG.never fun _ _ h => by obtain ⟨c, _, h0, _⟩ := h; have := dpos c; omega) m_L_addresses F_L_addresses b_L_addresses
    | succ n ih => exact CalP.of (fn_L_addresses F_L_addresses z_enumerate (c_inner.mono (by omega)) ih (fun _ _ h => by first | (exact congrArg List.length h.1) | (exact Exists.elim h fun _ h => congrArg List.length h.1) | (exact Exists.elim h fun _ h => Exists.elim h fun _ h => congrArg List.length h.1) | (exact Exists.elim h fun _ h => Exists.elim h fun _ h => Exists.elim h fun _ h => congrArg List.length h.1) | (exact Exists.elim h fun _ h => Exists.elim h fun _ h => Exists.elim h fun _ h => Exists.elim h fun _ h => congrArg List.length h.1) | (exact Exists.elim h fun _ h => Exists.elim h fun _ h => Exists.elim h fun _ h => Exists.elim h fun _ h => Exists.elim h fun _ h => congrArg List.length h.1) | (exact Exists.elim h fun _ h => Exists.elim h fun _ h => Exists.elim h fun _ h => Exists.elim h fun _ h => Exists.elim h fun _ h => Exists.elim h fun _ h => congrArg List.length h.1) | (exact Exists.elim h fun _ h => Exists.elim h fun _ h => Exists.elim h fun _ h => Exists.elim h fun _ h => Exists.elim h fun _ h => Exists.elim h fun _ h => Exists.elim h fun _ h => congrArg List.length h.1) | (exact Exists.elim h fun _ h => Exists.elim h fun _ h => Exists.elim h fun _ h => Exists.elim h fun _ h => Exists.elim h fun _ h => Exists.elim h fun _ h => Exists.elim h fun _ h => Exists.elim h fun _ h => congrArg List.length h.1) | (exact Exists.elim h fun _ h => Exists.elim h fun _ h => Exists.elim h fun _ h => Exists.elim h fun _ h => Exists.elim h fun _ h => Exists.elim h fun _ h => Exists.elim h fun _ h => Exists.elim h fun _ h => Exists.elim h fun _ h => congrArg List.length h.1)) (p_laddr n)) m_L_addresses F_L_addresses b_L_addresses
  have c_lput : ∀ n, CalP l.prog w K mg base (n + 2) "_law_put" (R_lput n) := fun n => by
    induction n with
    | zero => exact CalP.of (FnG.never fun _ _ h => by obtain ⟨c, _, _, _, h0, _⟩ := h; have := dpos c; omega) m_L_put F_L_put b_L_put
    | succ n ih => exact CalP.of (fn_L_put F_L_put z_list z_tuple (c_inner.mono (by omega)) ih (fun _ _ h => by first | (exact congrArg List.length h.1) | (exact Exists.elim h fun _ h => congrArg List.length h.1) | (exact Exists.elim h fun _ h => Exists.elim h fun _ h => congrArg List.length h.1) | (exact Exists.elim h fun _ h => Exists.elim h fun _ h => Exists.elim h fun _ h => congrArg List.length h.1) | (exact Exists.elim h fun _ h => Exists.elim h fun _ h => Exists.elim h fun _ h => Exists.elim h fun _ h => congrArg List.length h.1) | (exact Exists.elim h fun _ h => Exists.elim h fun _ h => Exists.elim h fun _ h => Exists.elim h fun _ h => Exists.elim h fun _ h => congrArg List.length h.1) | (exact Exists.elim h fun _ h => Exists.elim h fun _ h => Exists.elim h fun _ h => Exists.elim h fun _ h => Exists.elim h fun _ h => Exists.elim h fun _ h => congrArg List.length h.1) | (exact Exists.elim h fun _ h => Exists.elim h fun _ h => Exists.elim h fun _ h => Exists.elim h fun _ h => Exists.elim h fun _ h => Exists.elim h fun _ h => Exists.elim h fun _ h => congrArg List.length h.1) | (exact Exists.elim h fun _ h => Exists.elim h fun _ h => Exists.elim h fun _ h => Exists.elim h fun _ h => Exists.elim h fun _ h => Exists.elim h fun _ h => Exists.elim h fun _ h => Exists.elim h fun _ h => congrArg List.length h.1) | (exact Exists.elim h fun _ h => Exists.elim h fun _ h => Exists.elim h fun _ h => Exists.elim h fun _ h => Exists.elim h fun _ h => Exists.elim h fun _ h => Exists.elim h fun _ h => Exists.elim h fun _ h => Exists.elim h fun _ h => congrArg List.length h.1)) (p_lput n)) m_L_put F_L_put b_L_put
  have c_lat : CalP l.prog w K mg base 2 "_law_at" R_lat := CalP.of (fn_L_at F_L_at (c_inner.mono (by omega)) (fun _ _ h => by first | (exact congrArg List.length h.1) | (exact Exists.elim h fun _ h => congrArg List.length h.1) | (exact Exists.elim h fun _ h => Exists.elim h fun _ h => congrArg List.length h.1) | (exact Exists.elim h fun _ h => Exists.elim h fun _ h => Exists.elim h fun _ h => congrArg List.length h.1) | (exact Exists.elim h fun _ h => Exists.elim h fun _ h => Exists.elim h fun _ h => Exists.elim h fun _ h => congrArg List.length h.1) | (exact Exists.elim h fun _ h => Exists.elim h fun _ h => Exists.elim h fun _ h => Exists.elim h fun _ h => Exists.elim h fun _ h => congrArg List.length h.1) | (exact Exists.elim h fun _ h => Exists.elim h fun _ h => Exists.elim h fun _ h => Exists.elim h fun _ h => Exists.elim h fun _ h => Exists.elim h fun _ h => congrArg List.length h.1) | (exact Exists.elim h fun _ h => Exists.elim h fun _ h => Exists.elim h fun _ h => Exists.elim h fun _ h => Exists.elim h fun _ h => Exists.elim h fun _ h => Exists.elim h fun _ h => congrArg List.length h.1) | (exact Exists.elim h fun _ h => Exists.elim h fun _ h => Exists.elim h fun _ h => Exists.elim h fun _ h => Exists.elim h fun _ h => Exists.elim h fun _ h => Exists.elim h fun _ h => Exists.elim h fun _ h => congrArg List.length h.1) | (exact Exists.elim h fun _ h => Exists.elim h fun _ h => Exists.elim h fun _ h => Exists.elim h fun _ h => Exists.elim h fun _ h => Exists.elim h fun _ h => Exists.elim h fun _ h => Exists.elim h fun _ h => Exists.elim h fun _ h => congrArg List.length h.1)) p_lat) m_L_at F_L_at b_L_at
  have c_deep : CalP l.prog w K mg base 2 "_law_deepened" R_deep := CalP.of (fn_L_deepened F_L_deepened z_int z_range (c_take.mono (by omega)) (fun _ _ h => by first | (exact congrArg List.length h.1) | (exact Exists.elim h fun _ h => congrArg List.length h.1) | (exact Exists.elim h fun _ h => Exists.elim h fun _ h => congrArg List.length h.1) | (exact Exists.elim h fun _ h => Exists.elim h fun _ h => Exists.elim h fun _ h => congrArg List.length h.1) | (exact Exists.elim h fun _ h => Exists.elim h fun _ h => Exists.elim h fun _ h => Exists.elim h fun _ h => congrArg List.length h.1) | (exact Exists.elim h fun _ h => Exists.elim h fun _ h => Exists.elim h fun _ h => Exists.elim h fun _ h => Exists.elim h fun _ h => congrArg List.length h.1) | (exact Exists.elim h fun _ h => Exists.elim h fun _ h => Exists.elim h fun _ h => Exists.elim h fun _ h => Exists.elim h fun _ h => Exists.elim h fun _ h => congrArg List.length h.1) | (exact Exists.elim h fun _ h => Exists.elim h fun _ h => Exists.elim h fun _ h => Exists.elim h fun _ h => Exists.elim h fun _ h => Exists.elim h fun _ h => Exists.elim h fun _ h => congrArg List.length h.1) | (exact Exists.elim h fun _ h => Exists.elim h fun _ h => Exists.elim h fun _ h => Exists.elim h fun _ h => Exists.elim h fun _ h => Exists.elim h fun _ h => Exists.elim h fun _ h => Exists.elim h fun _ h => congrArg List.length h.1) | (exact Exists.elim h fun _ h => Exists.elim h fun _ h => Exists.elim h fun _ h => Exists.elim h fun _ h => Exists.elim h fun _ h => Exists.elim h fun _ h => Exists.elim h fun _ h => Exists.elim h fun _ h => Exists.elim h fun _ h => congrArg List.length h.1)) p_deep) m_L_deepened F_L_deepened b_L_deepened
  have c_lbnd : CalP l.prog w K mg base 2 "_law_bound" R_lbnd := CalP.of (fn_L_bound F_L_bound z_set z_sorted (c_inner.mono (by omega)) (fun _ _ h => by first | (exact congrArg List.length h.1) | (exact Exists.elim h fun _ h => congrArg List.length h.1) | (exact Exists.elim h fun _ h => Exists.elim h fun _ h => congrArg List.length h.1) | (exact Exists.elim h fun _ h => Exists.elim h fun _ h => Exists.elim h fun _ h => congrArg List.length h.1) | (exact Exists.elim h fun _ h => Exists.elim h fun _ h => Exists.elim h fun _ h => Exists.elim h fun _ h => congrArg List.length h.1) | (exact Exists.elim h fun _ h => Exists.elim h fun _ h => Exists.elim h fun _ h => Exists.elim h fun _ h => Exists.elim h fun _ h => congrArg List.length h.1) | (exact Exists.elim h fun _ h => Exists.elim h fun _ h => Exists.elim h fun _ h => Exists.elim h fun _ h => Exists.elim h fun _ h => Exists.elim h fun _ h => congrArg List.length h.1) | (exact Exists.elim h fun _ h => Exists.elim h fun _ h => Exists.elim h fun _ h => Exists.elim h fun _ h => Exists.elim h fun _ h => Exists.elim h fun _ h => Exists.elim h fun _ h => congrArg List.length h.1) | (exact Exists.elim h fun _ h => Exists.elim h fun _ h => Exists.elim h fun _ h => Exists.elim h fun _ h => Exists.elim h fun _ h => Exists.elim h fun _ h => Exists.elim h fun _ h => Exists.elim h fun _ h => congrArg List.length h.1) | (exact Exists.elim h fun _ h => Exists.elim h fun _ h => Exists.elim h fun _ h => Exists.elim h fun _ h => Exists.elim h fun _ h => Exists.elim h fun _ h => Exists.elim h fun _ h => Exists.elim h fun _ h => Exists.elim h fun _ h => congrArg List.length h.1)) p_lbnd) m_L_bound F_L_bound b_L_bound
  have c_heard : CalT l.prog w K mg base 205 "_law_heard" R_heard := CalT.of (fn_L_heard F_L_heard z_isinstance (c_pat.mono (by omega)) (c_bat.mono (by omega)) ((c_pta 100).mono (by omega)) xE xn_address ix_NoPart mc_NoPart ix_Wrong mc_Wrong m_FarError (fun C hC => by rcases hC with rfl | rfl <;> first | exact ex_NoPart | exact ex_Wrong) (fun _ _ h => by first | (exact congrArg List.length h.1) | (exact Exists.elim h fun _ h => congrArg List.length h.1) | (exact Exists.elim h fun _ h => Exists.elim h fun _ h => congrArg List.length h.1) | (exact Exists.elim h fun _ h => Exists.elim h fun _ h => Exists.elim h fun _ h => congrArg List.length h.1) | (exact Exists.elim h fun _ h => Exists.elim h fun _ h => Exists.elim h fun _ h => Exists.elim h fun _ h => congrArg List.length h.1) | (exact Exists.elim h fun _ h => Exists.elim h fun _ h => Exists.elim h fun _ h => Exists.elim h fun _ h => Exists.elim h fun _ h => congrArg List.length h.1) | (exact Exists.elim h fun _ h => Exists.elim h fun _ h => Exists.elim h fun _ h => Exists.elim h fun _ h => Exists.elim h fun _ h => Exists.elim h fun _ h => congrArg List.length h.1) | (exact Exists.elim h fun _ h => Exists.elim h fun _ h => Exists.elim h fun _ h => Exists.elim h fun _ h => Exists.elim h fun _ h => Exists.elim h fun _ h => Exists.elim h fun _ h => congrArg List.length h.1) | (exact Exists.elim h fun _ h => Exists.elim h fun _ h => Exists.elim h fun _ h => Exists.elim h fun _ h => Exists.elim h fun _ h => Exists.elim h fun _ h => Exists.elim h fun _ h => Exists.elim h fun _ h => congrArg List.length h.1) | (exact Exists.elim h fun _ h => Exists.elim h fun _ h => Exists.elim h fun _ h => Exists.elim h fun _ h => Exists.elim h fun _ h => Exists.elim h fun _ h => Exists.elim h fun _ h => Exists.elim h fun _ h => Exists.elim h fun _ h => congrArg List.length h.1)) (p_heard C_FarError C_NoPart C_Wrong (fun C => C = C_NoPart ∨ C = C_Wrong) (fun D => decide (D = C_NoPart)) (fun D => decide (D = C_Wrong)) (.inl rfl) (decide_eq_true rfl) (decide_eq_false ne_NoPart_Wrong))) m_L_heard F_L_heard b_L_heard
  have c_places : CalP l.prog w K mg base 4 "_law_places" R_places := CalP.of (fn_L_places F_L_places z_list z_range (c_some.mono (by omega)) (c_take.mono (by omega)) (c_odd.mono (by omega)) (fun _ _ h => by first | (exact congrArg List.length h.1) | (exact Exists.elim h fun _ h => congrArg List.length h.1) | (exact Exists.elim h fun _ h => Exists.elim h fun _ h => congrArg List.length h.1) | (exact Exists.elim h fun _ h => Exists.elim h fun _ h => Exists.elim h fun _ h => congrArg List.length h.1) | (exact Exists.elim h fun _ h => Exists.elim h fun _ h => Exists.elim h fun _ h => Exists.elim h fun _ h => congrArg List.length h.1) | (exact Exists.elim h fun _ h => Exists.elim h fun _ h => Exists.elim h fun _ h => Exists.elim h fun _ h => Exists.elim h fun _ h => congrArg List.length h.1) | (exact Exists.elim h fun _ h => Exists.elim h fun _ h => Exists.elim h fun _ h => Exists.elim h fun _ h => Exists.elim h fun _ h => Exists.elim h fun _ h => congrArg List.length h.1) | (exact Exists.elim h fun _ h => Exists.elim h fun _ h => Exists.elim h fun _ h => Exists.elim h fun _ h => Exists.elim h fun _ h => Exists.elim h fun _ h => Exists.elim h fun _ h => congrArg List.length h.1) | (exact Exists.elim h fun _ h => Exists.elim h fun _ h => Exists.elim h fun _ h => Exists.elim h fun _ h => Exists.elim h fun _ h => Exists.elim h fun _ h => Exists.elim h fun _ h => Exists.elim h fun _ h => congrArg List.length h.1) | (exact Exists.elim h fun _ h => Exists.elim h fun _ h => Exists.elim h fun _ h => Exists.elim h fun _ h => Exists.elim h fun _ h => Exists.elim h fun _ h => Exists.elim h fun _ h => Exists.elim h fun _ h => Exists.elim h fun _ h => congrArg List.length h.1)) p_places) m_L_places F_L_places b_L_places
  exact fn_law (n := 206) F_law z_bool z_isinstance z_range z_sorted z_tuple ⟨let ⟨f, fd, ps, k, c, h0, h1, r⟩ := c_bag.ex; ⟨f, fd, ps, k, c, h0, by omega, r⟩⟩ (c_names.mono (by omega)) (c_take.mono (by omega)) ((c_any 61).mono (by omega)) (c_deep.mono (by omega)) ((c_laddr 100).mono (by omega)) ((c_adr 100).mono (by omega)) (c_lal.mono (by omega)) (c_places.mono (by omega)) ((c_lput 100).mono (by omega)) (c_lbnd.mono (by omega)) (c_lat.mono (by omega)) (c_heard.mono (by omega)) p_law
end K13
open PySem PySem.W PyProof.Rows in
set_option maxRecDepth 100000 in
set_option maxHeartbeats 0 in
theorem PySem.Challenge.cw_farcatch_k13_parts_by_addresses_holds : PySem.Challenge.rw_farcatch_k13_parts_by_addresses.Holds := by
  w_on; o_law; k_head; (case hw => w_witness2)
  k_fill
  refine DL.walkG2 (l := PySem.Challenge.rw_farcatch_k13_parts_by_addresses) (k := 207) (x := "_law_script") rfl rfl ⟨rfl, by decide, by decide⟩ rfl (fun w h Y => PySem.W.kIn_of Y) ?F
  case F =>
    intro w mg fa h KX G hmg
    refine' K13.all_mk KX G hmg ?a1 ?l1 ?c1 ?k1 ?a2 ?l2 ?c2 ?k2 ?a3 ?l3 ?c3 ?k3 ?a4 ?l4 ?c4 ?k4 ?a5 ?l5 ?c5 ?k5 ?a6 ?l6 ?c6 ?k6 ?a7 ?l7 ?c7 ?k7 ?a8 ?l8 ?c8 ?k8 ?a9 ?l9 ?c9 ?k9 ?a10 ?l10 ?c10 ?k10 ?a11 ?l11 ?c11 ?k11 ?a12 ?l12 ?c12 ?k12 ?a13 ?l13 ?c13 ?k13 ?a14 ?l14 ?c14 ?k14 ?a15 ?l15 ?c15 ?k15 ?a16 ?l16 ?c16 ?k16 ?a17 ?l17 ?c17 ?k17 ?a18 ?l18 ?c18 ?k18 ?a19 ?l19 ?c19 ?k19 ?a20 ?l20 ?c20 ?k20 ?a21 ?l21 ?c21 ?k21 ?a22 ?l22 ?c22 ?k22 ?a23 ?l23 ?c23 ?k23 ?a24 ?l24 ?c24 ?k24 ?a25 ?l25 ?c25 ?k25 ?a26 ?l26 ?c26 ?k26 ?a27 ?l27 ?c27 ?k27 ?a28 ?l28 ?c28 ?k28 ?y_abs ?y_all ?y_bool ?y_enumerate ?y_int ?y_isinstance ?y_len ?y_list ?y_min ?y_range ?y_repr ?y_set ?y_sorted ?y_tuple ?y_super ?fA ?fB ?fT ?fC ?eTop ?eOpq ?eA_NoPart ?eC_NoPart ?eV_NoPart ?eS_NoPart ?eG_NoPart ?eH_NoPart ?eN_NoPart ?eI_NoPart ?eT_NoPart ?eK_NoPart ?eX_NoPart ?eY_NoPart ?eZ_NoPart ?eD_NoPart ?eM_NoPart ?eP_NoPart ?eF_NoPart ?eQ_NoPart ?eL_NoPart ?eW_NoPart ?eO_NoPart ?eE_NoPart ?eR_NoPart ?eA_Wrong ?eC_Wrong ?eV_Wrong ?eS_Wrong ?eG_Wrong ?eH_Wrong ?eN_Wrong ?eI_Wrong ?eT_Wrong ?eK_Wrong ?eX_Wrong ?eY_Wrong ?eZ_Wrong ?eD_Wrong ?eM_Wrong ?eP_Wrong ?eF_Wrong ?eQ_Wrong ?eL_Wrong ?eW_Wrong ?eO_Wrong ?eE_Wrong ?eR_Wrong ?xG ?xT ?xA_NoPart ?xM_NoPart ?xC_NoPart ?xA_Wrong ?xM_Wrong ?xC_Wrong ?xN_NoPart_place ?xN_Wrong_address ?xD_NoPart_Wrong ?xS_NoPart_Wrong ?xS_Wrong_NoPart
    (case a1 => k_is)
    (case l1 => k_is)
    (case c1 => k_is)
    (case k1 => k_is)
    (case a2 => k_is)
    (case l2 => k_is)
    (case c2 => k_is)
    (case k2 => k_is)
    (case a3 => k_is)
    (case l3 => k_is)
    (case c3 => k_is)
    (case k3 => k_is)
    (case a4 => k_is)
    (case l4 => k_is)
    (case c4 => k_is)
    (case k4 => k_is)
    (case a5 => k_is)
    (case l5 => k_is)
    (case c5 => k_is)
    (case k5 => k_is)
    (case a6 => k_is)
    (case l6 => k_is)
    (case c6 => k_is)
    (case k6 => k_is)
    (case a7 => k_is)
    (case l7 => k_is)
    (case c7 => k_is)
    (case k7 => k_is)
    (case a8 => k_is)
    (case l8 => k_is)
    (case c8 => k_is)
    (case k8 => k_is)
    (case a9 => k_is)
    (case l9 => k_is)
    (case c9 => k_is)
    (case k9 => k_is)
    (case a10 => k_is)
    (case l10 => k_is)
    (case c10 => k_is)
    (case k10 => k_is)
    (case a11 => k_is)
    (case l11 => k_is)
    (case c11 => k_is)
    (case k11 => k_is)
    (case a12 => k_is)
    (case l12 => k_is)
    (case c12 => k_is)
    (case k12 => k_is)
    (case a13 => k_is)
    (case l13 => k_is)
    (case c13 => k_is)
    (case k13 => k_is)
    (case a14 => k_is)
    (case l14 => k_is)
    (case c14 => k_is)
    (case k14 => k_is)
    (case a15 => k_is)
    (case l15 => k_is)
    (case c15 => k_is)
    (case k15 => k_is)
    (case a16 => k_is)
    (case l16 => k_is)
    (case c16 => k_is)
    (case k16 => k_is)
    (case a17 => k_is)
    (case l17 => k_is)
    (case c17 => k_is)
    (case k17 => k_is)
    (case a18 => k_is)
    (case l18 => k_is)
    (case c18 => k_is)
    (case k18 => k_is)
    (case a19 => k_is)
    (case l19 => k_is)
    (case c19 => k_is)
    (case k19 => k_is)
    (case a20 => k_is)
    (case l20 => k_is)
    (case c20 => k_is)
    (case k20 => k_is)
    (case a21 => k_is)
    (case l21 => k_is)
    (case c21 => k_is)
    (case k21 => k_is)
    (case a22 => k_is)
    (case l22 => k_is)
    (case c22 => k_is)
    (case k22 => k_is)
    (case a23 => k_is)
    (case l23 => k_is)
    (case c23 => k_is)
    (case k23 => k_is)
    (case a24 => k_is)
    (case l24 => k_is)
    (case c24 => k_is)
    (case k24 => k_is)
    (case a25 => k_is)
    (case l25 => k_is)
    (case c25 => k_is)
    (case k25 => k_is)
    (case a26 => k_is)
    (case l26 => k_is)
    (case c26 => k_is)
    (case k26 => k_is)
    (case a27 => k_is)
    (case l27 => k_is)
    (case c27 => k_is)
    (case k27 => k_is)
    (case a28 => k_is)
    (case l28 => k_is)
    (case c28 => k_is)
    (case k28 => k_is)
    (case y_abs => k_is)
    (case y_all => k_is)
    (case y_bool => k_is)
    (case y_enumerate => k_is)
    (case y_int => k_is)
    (case y_isinstance => k_is)
    (case y_len => k_is)
    (case y_list => k_is)
    (case y_min => k_is)
    (case y_range => k_is)
    (case y_repr => k_is)
    (case y_set => k_is)
    (case y_sorted => k_is)
    (case y_tuple => k_is)
    (case y_super => k_is)
    (case fA => k_is)
    (case fB => k_is)
    (case fT => k_is)
    (case fC => k_is)
    (case eTop => rfl)
    (case eOpq => k_is)
    (case eA_NoPart => k_is)
    (case eC_NoPart => k_is)
    (case eV_NoPart => rfl)
    (case eS_NoPart => k_is)
    (case eG_NoPart => k_is)
    (case eH_NoPart => k_is)
    (case eN_NoPart => k_is)
    (case eI_NoPart => k_is)
    (case eT_NoPart => k_is)
    (case eK_NoPart => k_is)
    (case eX_NoPart => k_is)
    (case eY_NoPart => k_is)
    (case eZ_NoPart => k_is)
    (case eD_NoPart => k_is)
    (case eM_NoPart => k_is)
    (case eP_NoPart => ks_is)
    (case eF_NoPart => k_is)
    (case eQ_NoPart => k_is)
    (case eL_NoPart => k_is)
    (case eW_NoPart => rfl)
    (case eO_NoPart => k_is)
    (case eE_NoPart => k_is)
    (case eR_NoPart => rfl)
    (case eA_Wrong => k_is)
    (case eC_Wrong => k_is)
    (case eV_Wrong => rfl)
    (case eS_Wrong => k_is)
    (case eG_Wrong => k_is)
    (case eH_Wrong => k_is)
    (case eN_Wrong => k_is)
    (case eI_Wrong => k_is)
    (case eT_Wrong => k_is)
    (case eK_Wrong => k_is)
    (case eX_Wrong => k_is)
    (case eY_Wrong => k_is)
    (case eZ_Wrong => k_is)
    (case eD_Wrong => k_is)
    (case eM_Wrong => k_is)
    (case eP_Wrong => ks_is)
    (case eF_Wrong => k_is)
    (case eQ_Wrong => k_is)
    (case eL_Wrong => k_is)
    (case eW_Wrong => rfl)
    (case eO_Wrong => k_is)
    (case eE_Wrong => k_is)
    (case eR_Wrong => rfl)
    (case xG => k_is)
    (case xT => k_is)
    (case xA_NoPart => k_is)
    (case xM_NoPart => k_is)
    (case xC_NoPart => k_is)
    (case xA_Wrong => k_is)
    (case xM_Wrong => k_is)
    (case xC_Wrong => k_is)
    (case xN_NoPart_place => k_is)
    (case xN_Wrong_address => k_is)
    (case xD_NoPart_Wrong => decide)
    (case xS_NoPart_Wrong => k_is)
    (case xS_Wrong_NoPart => k_is)
