import PyProof.Rows.All
import Wide.All
import OpenK.AllK
import Wide.FinOn
import HandS.ForMost
import HandS.TupAny
import HandS.Style
import HandS.Flow
import HandS.More
import HandS.Zip
import HandS.Star
import HandS.Deep
import KE.GoesEnum
import HandS.IsInst
import HandS.TupMul
import PyProof.EqAt
import PyProof.ReprRoads
import HandS.ListItems
import HandS.DictComp
import KE.KDictDisplayH
import HandS.SortInts
import HandS.SetTxt0
import PyProof.Rows.SortKeyStr
import HandS.Set
import PyProof.Rows.SetFrom
import HandS.SetFor
import PyProof.SeqRoads2
import KE.KDictSum
import HandS.Conv
import PySem.Challenge.RW_farcatch_k15_whole_names_for_names
set_option Elab.async false
set_option linter.all false
set_option maxRecDepth 100000
set_option maxHeartbeats 1000000
/-! DL: a layer of data over HandS. -/
namespace DL
open PySem L2

/-- what a value stands for -/
inductive D where
  | non | bl (b : Bool) | int (i : Int) | str (x : Str)
  | lst (ds : List D) | tup (ds : List D) | dic (t : Bool) (kvs : List (D × D))
  | ins (C : Addr) (fs : List (Str × D)) | bag
  | lock (o : Obj) (u : HO)

/-- bg: where the bag stands, bi: its list; own: what data never reach -/
structure Gh where
  bg : Addr
  bi : Addr
  own : Addr → Prop

def kD : Key → D
  | .inl i => .int i
  | .inr x => .str x

mutual
def Dt (K : PySem.W.Frag) (G : Gh) (H : Hp) : D → V → Prop
  | .non, v => v = .non
  | .bl b, v => v = .bl b
  | .int i, v => v = .int i
  | .str x, v => v = .str x
  | .lst ds, v => ∃ a xs, v = .ref a ∧ ¬ G.own a ∧ H a = some (.lst xs) ∧ DtL K G H ds xs
  | .tup ds, v => ∃ a xs, v = .ref a ∧ SqT K H a xs ∧ DtL K G H ds xs
  | .dic t es, v => ∃ a, v = .ref a ∧ ¬ G.own a ∧ ((∃ kvs, Rd H a (.dK kvs) ∧ DtP K G H t es kvs) ∨ ∃ kvs, Rd H a (.dT kvs) ∧ DtQ K G H t es kvs)
  | .ins C fs, v => ∃ a dx vs, v = .ref a ∧ ¬ G.own a ∧ H a = some (.ins C dx vs) ∧ DtF K G H fs vs
  | .bag, v => v = .ref G.bg
  | .lock o u, v => ∃ a, v = .ref a ∧ ¬ G.own a ∧ H a = some (.frz o u)
def DtL (K : PySem.W.Frag) (G : Gh) (H : Hp) : List D → List V → Prop
  | [], xs => xs = []
  | d :: ds, xs => ∃ x r, xs = x :: r ∧ Dt K G H d x ∧ DtL K G H ds r
def DtP (K : PySem.W.Frag) (G : Gh) (H : Hp) (t : Bool) : List (D × D) → List (Key × V) → Prop
  | [], kvs => kvs = [] ∧ t = false
  | (k, d) :: es, kvs => ∃ j v r, kvs = (j, v) :: r ∧ k = kD j ∧ Dt K G H d v ∧ DtP K G H t es r
def DtQ (K : PySem.W.Frag) (G : Gh) (H : Hp) (t : Bool) : List (D × D) → List (List Key × V) → Prop
  | [], kvs => kvs = [] ∧ t = true
  | (k, d) :: es, kvs => ∃ j v r, kvs = (j, v) :: r ∧ k = .tup (j.map kD) ∧ Dt K G H d v ∧ DtQ K G H t es r
def DtF (K : PySem.W.Frag) (G : Gh) (H : Hp) : List (Str × D) → List (Str × V) → Prop
  | [], kvs => kvs = []
  | (k, d) :: es, kvs => ∃ v r, kvs = (k, v) :: r ∧ Dt K G H d v ∧ DtF K G H es r
end

theorem Rd.kp {H H' : Hp} {a : Addr} {u : HO} (k : ∀ o, H a = some o → H' a = some o) (h : Rd H a u) : Rd H' a u := by
  rcases h with h | ⟨o, h⟩
  · exact .inl (k _ h)
  · exact .inr ⟨o, k _ h⟩
def Dic : HO → Prop
  | .dK _ => True
  | .dT _ => True
  | _ => False
/-- a dict that a walk needs is locked for good -/
def Lk (H H' : Hp) (a : Addr) (o : HO) : Prop := H' a = some o ∨ (Dic o ∧ ∃ od, H' a = some (.frz od o))
theorem Lk.plain {H H' : Hp} {a : Addr} {o : HO} (h : Lk H H' a o) (n : ¬ Dic o) : H' a = some o := h.elim _root_.id fun z => absurd z.1 n
theorem Rd.lk {H H' : Hp} {a : Addr} {u : HO} (k : ∀ o, H a = some o → Lk H H' a o) (h : Rd H a u) : Rd H' a u := by
  rcases h with h | ⟨o, h⟩
  · rcases k _ h with q | ⟨_, od, q⟩
    · exact .inl q
    · exact .inr ⟨od, q⟩
  · exact .inr ⟨o, (k _ h).plain fun z => z⟩

section
variable {K : PySem.W.Frag} {G G' : Gh} {H H' : Hp}
/-- a change of what is mutable and owned alone leaves all data -/
structure Evo (G G' : Gh) (H H' : Hp) : Prop where
  keep : ∀ a o, ¬ G.own a → H a = some o → Lk H H' a o
  tr : ∀ a, G.own a → Mut (H a)
  out : ∀ a, ¬ G.own a → H a ≠ none → ¬ G'.own a
  bg : G'.bg = G.bg
  bi : G'.bi = G.bi
theorem Evo.sq {xs : List V} {a : Addr} (e : Evo G G' H H') (h : SqT K H a xs) : SqT K H' a xs := by
  rcases h with h | h
  · refine .inl (Rd.lk (fun o q => e.keep a o (fun z => ?_) q) h)
    have m := e.tr a z
    rcases h with h | ⟨o, h⟩ <;> rw [h] at m <;> exact m
  · exact .inr h
theorem Evo.rd {u : HO} {a : Addr} (e : Evo G G' H H') (n : ¬ G.own a) (h : Rd H a u) : ¬ G'.own a ∧ Rd H' a u :=
  ⟨e.out a n (by rcases h with h | ⟨o, h⟩ <;> rw [h] <;> exact fun z => nomatch z), Rd.lk (fun o q => e.keep a o n q) h⟩

mutual
theorem Evo.dt (e : Evo G G' H H') : ∀ (d : D) (v : V), Dt K G H d v → Dt K G' H' d v
  | .non, v, h => h
  | .bl b, v, h => h
  | .int i, v, h => h
  | .str x, v, h => h
  | .lst ds, v, h => by
    obtain ⟨a, xs, h1, h2, h3, h4⟩ := h
    exact ⟨a, xs, h1, e.out a h2 (by rw [h3]; exact fun z => nomatch z), (e.keep a _ h2 h3).plain (fun z => z), Evo.dts e ds xs h4⟩
  | .tup ds, v, h => by
    obtain ⟨a, xs, h1, h3, h4⟩ := h
    exact ⟨a, xs, h1, e.sq h3, Evo.dts e ds xs h4⟩
  | .dic t es, v, h => by
    obtain ⟨a, h1, h2, h3⟩ := h
    rcases h3 with ⟨kvs, h3, h4⟩ | ⟨kvs, h3, h4⟩
    · obtain ⟨n, r⟩ := e.rd h2 h3
      exact ⟨a, h1, n, .inl ⟨kvs, r, Evo.dtp e t es kvs h4⟩⟩
    · obtain ⟨n, r⟩ := e.rd h2 h3
      exact ⟨a, h1, n, .inr ⟨kvs, r, Evo.dtq e t es kvs h4⟩⟩
  | .ins C fs, v, h => by
    obtain ⟨a, dx, vs, h1, h2, h3, h4⟩ := h
    exact ⟨a, dx, vs, h1, e.out a h2 (by rw [h3]; exact fun z => nomatch z), (e.keep a _ h2 h3).plain (fun z => z), Evo.dtf e fs vs h4⟩
  | .bag, v, h => by
    have h' : v = .ref G.bg := h
    show v = .ref G'.bg
    rw [e.bg]; exact h'
  | .lock o u, v, h => by
    obtain ⟨a, h1, h2, h3⟩ := h
    exact ⟨a, h1, e.out a h2 (by rw [h3]; exact fun z => nomatch z), (e.keep a _ h2 h3).plain fun z => z⟩
theorem Evo.dts (e : Evo G G' H H') : ∀ (ds : List D) (xs : List V), DtL K G H ds xs → DtL K G' H' ds xs
  | [], xs, h => h
  | d :: ds, xs, h => by
    obtain ⟨x, r, h1, h2, h3⟩ := h
    exact ⟨x, r, h1, Evo.dt e d x h2, Evo.dts e ds r h3⟩
theorem Evo.dtp (e : Evo G G' H H') : ∀ (t : Bool) (es : List (D × D)) (kvs : List (Key × V)), DtP K G H t es kvs → DtP K G' H' t es kvs
  | t, [], xs, h => h
  | t, (k, d) :: es, kvs, h => by
    obtain ⟨j, v, r, h1, h2, h3, h4⟩ := h
    exact ⟨j, v, r, h1, h2, Evo.dt e d v h3, Evo.dtp e t es r h4⟩
theorem Evo.dtq (e : Evo G G' H H') : ∀ (t : Bool) (es : List (D × D)) (kvs : List (List Key × V)), DtQ K G H t es kvs → DtQ K G' H' t es kvs
  | t, [], xs, h => h
  | t, (k, d) :: es, kvs, h => by
    obtain ⟨j, v, r, h1, h2, h3, h4⟩ := h
    exact ⟨j, v, r, h1, h2, Evo.dt e d v h3, Evo.dtq e t es r h4⟩
theorem Evo.dtf (e : Evo G G' H H') : ∀ (es : List (Str × D)) (kvs : List (Str × V)), DtF K G H es kvs → DtF K G' H' es kvs
  | [], xs, h => h
  | (k, d) :: es, kvs, h => by
    obtain ⟨v, r, h1, h3, h4⟩ := h
    exact ⟨v, r, h1, Evo.dt e d v h3, Evo.dtf e es r h4⟩
end
end
end DL

set_option Elab.async false
set_option linter.all false
set_option maxRecDepth 100000
set_option maxHeartbeats 1000000
namespace DL
open PySem L2

/-- the bag of a law: its number, its seed, its place, the script's numbers -/
def BagOk (H : Hp) (bg bi : Addr) : Prop := ∃ (x y z : Int) (ns : List Int), H bg = some (.lst [.int x, .int y, .int z, .ref bi]) ∧ H bi = some (.lst (ns.map V.int)) ∧
  0 ≤ x ∧ 0 ≤ y ∧ 0 ≤ z ∧ (∀ n ∈ ns, 0 ≤ n) ∧ ns.length ≤ 63
theorem BagOk.ne {H : Hp} {bg bi : Addr} (h : BagOk H bg bi) : H bg ≠ none := by
  obtain ⟨x, y, z, ns, h1, _⟩ := h
  rw [h1]; exact fun z => nomatch z

/-- what an expression may do -/
structure Ext (G : Gh) (H H' : Hp) : Prop where
  keep : ∀ a o, a ≠ G.bg → H a = some o → H' a = some o ∨ (¬ G.own a ∧ Dic o ∧ ∃ od, H' a = some (.frz od o))
  bag : BagOk H' G.bg G.bi
theorem Ext.refl {G : Gh} {H : Hp} (b : BagOk H G.bg G.bi) : Ext G H H := ⟨fun _ _ _ h => .inl h, b⟩
theorem Ext.lk {G : Gh} {H H' : Hp} (e : Ext G H H') {a : Addr} {o : HO} (n : a ≠ G.bg) (h : H a = some o) : Lk H H' a o := (e.keep a o n h).imp _root_.id fun z => z.2
theorem Ext.plain {G : Gh} {H H' : Hp} (e : Ext G H H') {a : Addr} {o : HO} (n : a ≠ G.bg) (h : H a = some o) (d : ¬ Dic o) : H' a = some o := (e.lk n h).plain d
theorem Ext.mine {G : Gh} {H H' : Hp} (e : Ext G H H') {a : Addr} {o : HO} (n : a ≠ G.bg) (h : H a = some o) (d : G.own a) : H' a = some o := (e.keep a o n h).elim _root_.id fun z => absurd d z.1
theorem Ext.trans {G : Gh} {H H1 H2 : Hp} (a : Ext G H H1) (b : Ext G H1 H2) : Ext G H H2 := ⟨fun x o n h => by
  rcases a.keep x o n h with q | ⟨q1, q2, od, q3⟩
  · exact b.keep x o n q
  · exact .inr ⟨q1, q2, od, b.plain n q3 fun z => z⟩, b.bag⟩
theorem Ext.free {G : Gh} {H H1 : Hp} {p : Addr} (a : Ext G H H1) (b : BagOk H G.bg G.bi) (h : H1 p = none) : H p = none := by
  cases q : H p with
  | none => rfl
  | some o =>
    by_cases e : p = G.bg
    · subst e; exact absurd h a.bag.ne
    · rcases a.lk e q with z | ⟨_, od, z⟩ <;> · rw [z] at h; cases h
theorem Ext.cg {G G' : Gh} {H H' : Hp} (e : G'.bg = G.bg) (e2 : G'.bi = G.bi) (e3 : ∀ a, G'.own a → G.own a) (x : Ext G H H') : Ext G' H H' := ⟨fun a o n h => (x.keep a o (by rw [← e]; exact n) h).imp _root_.id fun z => ⟨fun w => z.1 (e3 a w), z.2⟩, by rw [e, e2]; exact x.bag⟩
theorem BagOk.kept {H H' : Hp} {bg bi : Addr} (h : BagOk H bg bi) (k : ∀ a o, H a = some o → H' a = some o) : BagOk H' bg bi := by
  obtain ⟨x, y, z, ns, h1, h2, r⟩ := h
  exact ⟨x, y, z, ns, k _ _ h1, k _ _ h2, r⟩
/-- what stands at any time -/
structure GOk (G : Gh) (H : Hp) : Prop where
  ob : G.own G.bg
  oi : G.own G.bi
  tr : ∀ a, G.own a → Mut (H a)
  bag : BagOk H G.bg G.bi
theorem Ext.all {G : Gh} {H H' : Hp} (b : BagOk H G.bg G.bi) (k : ∀ a o, H a = some o → H' a = some o) : Ext G H H' := ⟨fun a o _ h => .inl (k a o h), b.kept k⟩
theorem Ext.new {G : Gh} {H : Hp} {p : Addr} {o : HO} (b : BagOk H G.bg G.bi) (h : H p = none) : Ext G H (upd H p o) :=
  .all b fun a u e => by rw [upd_ne (ne_of_none e h)]; exact e

/-- what a def owns: data, a list of its own, a dict of its own, within one another -/
inductive Tr where
  | d (x : D) | l (ts : List Tr) | m (b : Bool) (es : List (D × Tr))
mutual
def Tr.toD : Tr → D
  | .d x => x
  | .l ts => .lst (Tr.toDs ts)
  | .m b es => .dic b (Tr.toEs es)
def Tr.toDs : List Tr → List D
  | [] => []
  | t :: ts => t.toD :: Tr.toDs ts
def Tr.toEs : List (D × Tr) → List (D × D)
  | [] => []
  | (k, t) :: es => (k, t.toD) :: Tr.toEs es
end
mutual
/-- v stands for t; L: the addresses that are owned -/
def Ow (K : PySem.W.Frag) (G : Gh) (H : Hp) : Tr → V → List Addr → Prop
  | .d x, v, L => L = [] ∧ Dt K G H x v
  | .l ts, v, L => ∃ p xs M, v = .ref p ∧ G.own p ∧ H p = some (.lst xs) ∧ OwL K G H ts xs M ∧ L = p :: M
  | .m b es, v, L => ∃ p M, v = .ref p ∧ G.own p ∧ ((∃ kvs, H p = some (.dK kvs) ∧ OwP K G H b es kvs M) ∨ ∃ kvs, H p = some (.dT kvs) ∧ OwQ K G H b es kvs M) ∧ L = p :: M
def OwL (K : PySem.W.Frag) (G : Gh) (H : Hp) : List Tr → List V → List Addr → Prop
  | [], xs, L => xs = [] ∧ L = []
  | t :: ts, xs, L => ∃ x r M N, xs = x :: r ∧ Ow K G H t x M ∧ OwL K G H ts r N ∧ L = M ++ N
def OwP (K : PySem.W.Frag) (G : Gh) (H : Hp) (b : Bool) : List (D × Tr) → List (Key × V) → List Addr → Prop
  | [], kvs, L => kvs = [] ∧ b = false ∧ L = []
  | (k, t) :: es, kvs, L => ∃ j v r M N, kvs = (j, v) :: r ∧ k = kD j ∧ Ow K G H t v M ∧ OwP K G H b es r N ∧ L = M ++ N
def OwQ (K : PySem.W.Frag) (G : Gh) (H : Hp) (b : Bool) : List (D × Tr) → List (List Key × V) → List Addr → Prop
  | [], kvs, L => kvs = [] ∧ b = true ∧ L = []
  | (k, t) :: es, kvs, L => ∃ j v r M N, kvs = (j, v) :: r ∧ k = .tup (j.map kD) ∧ Ow K G H t v M ∧ OwQ K G H b es r N ∧ L = M ++ N
end
section
variable {K : PySem.W.Frag} {G G' : Gh} {H H' : Hp}
mutual
theorem Ow.own : ∀ (t : Tr) (v : V) (L : List Addr), Ow K G H t v L → ∀ p ∈ L, G.own p ∧ H p ≠ none
  | .d x, v, L, h, p, hp => by rw [h.1] at hp; cases hp
  | .l ts, v, L, h, p, hp => by
    obtain ⟨q, xs, M, rfl, o, e, h, rfl⟩ := h
    rcases List.mem_cons.mp hp with rfl | hp
    · exact ⟨o, by rw [e]; exact fun z => nomatch z⟩
    · exact OwL.own ts xs M h p hp
  | .m b es, v, L, h, p, hp => by
    obtain ⟨q, M, rfl, o, h, rfl⟩ := h
    rcases List.mem_cons.mp hp with rfl | hp
    · rcases h with ⟨_, e, _⟩ | ⟨_, e, _⟩ <;> exact ⟨o, by rw [e]; exact fun z => nomatch z⟩
    · rcases h with ⟨kvs, _, h⟩ | ⟨kvs, _, h⟩
      · exact OwP.own b es kvs M h p hp
      · exact OwQ.own b es kvs M h p hp
theorem OwL.own : ∀ (ts : List Tr) (xs : List V) (L : List Addr), OwL K G H ts xs L → ∀ p ∈ L, G.own p ∧ H p ≠ none
  | [], xs, L, h, p, hp => by rw [h.2] at hp; cases hp
  | t :: ts, xs, L, h, p, hp => by
    obtain ⟨x, r, M, N, rfl, h1, h2, rfl⟩ := h
    rcases List.mem_append.mp hp with hp | hp
    · exact Ow.own t x M h1 p hp
    · exact OwL.own ts r N h2 p hp
theorem OwP.own (b : Bool) : ∀ (es : List (D × Tr)) (kvs : List (Key × V)) (L : List Addr), OwP K G H b es kvs L → ∀ p ∈ L, G.own p ∧ H p ≠ none
  | [], xs, L, h, p, hp => by rw [h.2.2] at hp; cases hp
  | (k, t) :: es, kvs, L, h, p, hp => by
    obtain ⟨j, v, r, M, N, rfl, _, h1, h2, rfl⟩ := h
    rcases List.mem_append.mp hp with hp | hp
    · exact Ow.own t v M h1 p hp
    · exact OwP.own b es r N h2 p hp
theorem OwQ.own (b : Bool) : ∀ (es : List (D × Tr)) (kvs : List (List Key × V)) (L : List Addr), OwQ K G H b es kvs L → ∀ p ∈ L, G.own p ∧ H p ≠ none
  | [], xs, L, h, p, hp => by rw [h.2.2] at hp; cases hp
  | (k, t) :: es, kvs, L, h, p, hp => by
    obtain ⟨j, v, r, M, N, rfl, _, h1, h2, rfl⟩ := h
    rcases List.mem_append.mp hp with hp | hp
    · exact Ow.own t v M h1 p hp
    · exact OwQ.own b es r N h2 p hp
end
mutual
/-- what is owned stands, data go along -/
theorem Ow.evo (e : Evo G G' H H') : ∀ (t : Tr) (v : V) (L : List Addr), (∀ p ∈ L, G'.own p ∧ H' p = H p) → Ow K G H t v L → Ow K G' H' t v L
  | .d x, v, L, k, h => ⟨h.1, e.dt x v h.2⟩
  | .l ts, v, L, k, h => by
    obtain ⟨p, xs, M, rfl, o, q, h, rfl⟩ := h
    have kp := k p List.mem_cons_self
    exact ⟨p, xs, M, rfl, kp.1, by rw [kp.2]; exact q, Ow.evoL e ts xs M (fun p hp => k p (List.mem_cons_of_mem _ hp)) h, rfl⟩
  | .m b es, v, L, k, h => by
    obtain ⟨p, M, rfl, o, h, rfl⟩ := h
    have kp := k p List.mem_cons_self
    have km := fun p hp => k p (List.mem_cons_of_mem _ hp)
    refine ⟨p, M, rfl, kp.1, ?_, rfl⟩
    rcases h with ⟨kvs, q, h⟩ | ⟨kvs, q, h⟩
    · exact .inl ⟨kvs, by rw [kp.2]; exact q, Ow.evoP e b es kvs M km h⟩
    · exact .inr ⟨kvs, by rw [kp.2]; exact q, Ow.evoQ e b es kvs M km h⟩
theorem Ow.evoL (e : Evo G G' H H') : ∀ (ts : List Tr) (xs : List V) (L : List Addr), (∀ p ∈ L, G'.own p ∧ H' p = H p) → OwL K G H ts xs L → OwL K G' H' ts xs L
  | [], xs, L, k, h => h
  | t :: ts, xs, L, k, h => by
    obtain ⟨x, r, M, N, rfl, h1, h2, rfl⟩ := h
    exact ⟨x, r, M, N, rfl, Ow.evo e t x M (fun p hp => k p (List.mem_append_left _ hp)) h1, Ow.evoL e ts r N (fun p hp => k p (List.mem_append_right _ hp)) h2, rfl⟩
theorem Ow.evoP (e : Evo G G' H H') (b : Bool) : ∀ (es : List (D × Tr)) (kvs : List (Key × V)) (L : List Addr), (∀ p ∈ L, G'.own p ∧ H' p = H p) → OwP K G H b es kvs L → OwP K G' H' b es kvs L
  | [], xs, L, k, h => h
  | (c, t) :: es, kvs, L, k, h => by
    obtain ⟨j, v, r, M, N, rfl, hc, h1, h2, rfl⟩ := h
    exact ⟨j, v, r, M, N, rfl, hc, Ow.evo e t v M (fun p hp => k p (List.mem_append_left _ hp)) h1, Ow.evoP e b es r N (fun p hp => k p (List.mem_append_right _ hp)) h2, rfl⟩
theorem Ow.evoQ (e : Evo G G' H H') (b : Bool) : ∀ (es : List (D × Tr)) (kvs : List (List Key × V)) (L : List Addr), (∀ p ∈ L, G'.own p ∧ H' p = H p) → OwQ K G H b es kvs L → OwQ K G' H' b es kvs L
  | [], xs, L, k, h => h
  | (c, t) :: es, kvs, L, k, h => by
    obtain ⟨j, v, r, M, N, rfl, hc, h1, h2, rfl⟩ := h
    exact ⟨j, v, r, M, N, rfl, hc, Ow.evo e t v M (fun p hp => k p (List.mem_append_left _ hp)) h1, Ow.evoQ e b es r N (fun p hp => k p (List.mem_append_right _ hp)) h2, rfl⟩
end
/-- less is owned -/
def Gh.rems (G : Gh) (R : List Addr) : Gh := ⟨G.bg, G.bi, fun a => G.own a ∧ a ∉ R⟩
theorem Gh.rems_evo {R : List Addr} (tr : ∀ a, G.own a → Mut (H a)) : Evo G (G.rems R) H H := ⟨fun _ _ _ h => .inl h, tr, fun a n _ z => n z.1, rfl, rfl⟩
mutual
/-- what was owned, as data -/
theorem Ow.dt {R : List Addr} (tr : ∀ a, G.own a → Mut (H a)) : ∀ (t : Tr) (v : V) (L : List Addr), (∀ p ∈ L, p ∈ R) → Ow K G H t v L → Dt K (G.rems R) H t.toD v
  | .d x, v, L, k, h => by simp only [Tr.toD]; exact (Gh.rems_evo tr).dt x v h.2
  | .l ts, v, L, k, h => by
    obtain ⟨p, xs, M, rfl, o, q, h, rfl⟩ := h
    simp only [Tr.toD]
    exact ⟨p, xs, rfl, fun z => z.2 (k p List.mem_cons_self), q, Ow.dts tr ts xs M (fun p hp => k p (List.mem_cons_of_mem _ hp)) h⟩
  | .m b es, v, L, k, h => by
    obtain ⟨p, M, rfl, o, h, rfl⟩ := h
    have km := fun p hp => k p (List.mem_cons_of_mem _ hp)
    simp only [Tr.toD]
    refine ⟨p, rfl, fun z => z.2 (k p List.mem_cons_self), ?_⟩
    rcases h with ⟨kvs, q, h⟩ | ⟨kvs, q, h⟩
    · exact .inl ⟨kvs, .inl q, Ow.dtp tr b es kvs M km h⟩
    · exact .inr ⟨kvs, .inl q, Ow.dtq tr b es kvs M km h⟩
theorem Ow.dts {R : List Addr} (tr : ∀ a, G.own a → Mut (H a)) : ∀ (ts : List Tr) (xs : List V) (L : List Addr), (∀ p ∈ L, p ∈ R) → OwL K G H ts xs L → DtL K (G.rems R) H (Tr.toDs ts) xs
  | [], xs, L, k, h => by simp only [Tr.toDs]; exact h.1
  | t :: ts, xs, L, k, h => by
    obtain ⟨x, r, M, N, rfl, h1, h2, rfl⟩ := h
    simp only [Tr.toDs]
    exact ⟨x, r, rfl, Ow.dt tr t x M (fun p hp => k p (List.mem_append_left _ hp)) h1, Ow.dts tr ts r N (fun p hp => k p (List.mem_append_right _ hp)) h2⟩
theorem Ow.dtp {R : List Addr} (tr : ∀ a, G.own a → Mut (H a)) (b : Bool) : ∀ (es : List (D × Tr)) (kvs : List (Key × V)) (L : List Addr), (∀ p ∈ L, p ∈ R) → OwP K G H b es kvs L → DtP K (G.rems R) H b (Tr.toEs es) kvs
  | [], xs, L, k, h => by simp only [Tr.toEs]; exact ⟨h.1, h.2.1⟩
  | (c, t) :: es, kvs, L, k, h => by
    obtain ⟨j, v, r, M, N, rfl, hc, h1, h2, rfl⟩ := h
    simp only [Tr.toEs]
    exact ⟨j, v, r, rfl, hc, Ow.dt tr t v M (fun p hp => k p (List.mem_append_left _ hp)) h1, Ow.dtp tr b es r N (fun p hp => k p (List.mem_append_right _ hp)) h2⟩
theorem Ow.dtq {R : List Addr} (tr : ∀ a, G.own a → Mut (H a)) (b : Bool) : ∀ (es : List (D × Tr)) (kvs : List (List Key × V)) (L : List Addr), (∀ p ∈ L, p ∈ R) → OwQ K G H b es kvs L → DtQ K (G.rems R) H b (Tr.toEs es) kvs
  | [], xs, L, k, h => by simp only [Tr.toEs]; exact ⟨h.1, h.2.1⟩
  | (c, t) :: es, kvs, L, k, h => by
    obtain ⟨j, v, r, M, N, rfl, hc, h1, h2, rfl⟩ := h
    simp only [Tr.toEs]
    exact ⟨j, v, r, rfl, hc, Ow.dt tr t v M (fun p hp => k p (List.mem_append_left _ hp)) h1, Ow.dtq tr b es r N (fun p hp => k p (List.mem_append_right _ hp)) h2⟩
end
theorem Ow.ofL : ∀ {ds : List D} {xs : List V}, DtL K G H ds xs → OwL K G H (ds.map .d) xs []
  | [], _, h => ⟨h, rfl⟩
  | d :: ds, _, h => by
    obtain ⟨x, r, rfl, h1, h2⟩ := h
    exact ⟨x, r, [], [], rfl, ⟨rfl, h1⟩, Ow.ofL h2, rfl⟩
theorem OwL.toL : ∀ {ds : List D} {xs : List V} {L : List Addr}, OwL K G H (ds.map .d) xs L → L = [] ∧ DtL K G H ds xs
  | [], _, _, h => ⟨h.2, h.1⟩
  | d :: ds, _, _, h => by
    obtain ⟨x, r, M, N, rfl, h1, h2, rfl⟩ := h
    obtain ⟨rfl, h3⟩ := OwL.toL h2
    exact ⟨by rw [h1.1]; rfl, x, r, rfl, h1.2, h3⟩
theorem toDs_d : ∀ ds : List D, Tr.toDs (ds.map .d) = ds
  | [] => by simp only [List.map_nil, Tr.toDs]
  | d :: ds => by simp only [List.map_cons, Tr.toDs, Tr.toD, toDs_d ds]
end

/-- what a name of a def may hold: nothing known, data, what the def owns -/
inductive Sl where
  | un | dat (d : D) | tr (t : Tr)
/-- a list of data, owned -/
abbrev Sl.ml (ds : List D) : Sl := .tr (.l (ds.map .d))
structure Fr where
  K : PySem.W.Frag
  G : Gh
  H : Hp
  pn : List (V × D)
abbrev Fr.pin (F : Fr) (l : List (V × D)) : Fr := { F with pn := l ++ F.pn }
def SlR (F : Fr) (G : Gh) (H : Hp) : Sl → Option V → List Addr → Prop
  | .un, _, L => L = []
  | .dat d, o, L => L = [] ∧ ∃ v, o = some v ∧ Dt F.K G H d v
  | .tr t, o, L => (∀ p ∈ L, ¬ F.G.own p) ∧ ∃ v, o = some v ∧ Ow F.K G H t v L
def Slots (F : Fr) (G : Gh) (H : Hp) : List Sl → St → List Addr → Prop
  | [], σ, L => σ = [] ∧ L = []
  | s :: ρ, σ, L => ∃ o r M N, σ = o :: r ∧ SlR F G H s o M ∧ Slots F G H ρ r N ∧ L = M ++ N
structure Rel (F : Fr) (G : Gh) (H : Hp) (σ : St) (ρ : List Sl) : Prop where
  bg : G.bg = F.G.bg
  bi : G.bi = F.G.bi
  ob : F.G.own F.G.bg
  oi : F.G.own F.G.bi
  sub : ∀ a, F.G.own a → G.own a
  new : ∀ a, G.own a → ¬ F.G.own a → F.H a = none
  tr : ∀ a, G.own a → Mut (H a)
  ext : Ext F.G F.H H
  pn : ∀ q ∈ F.pn, Dt F.K G H q.2 q.1
  sl : ∃ L, Slots F G H ρ σ L ∧ L.Nodup

theorem SlR.own {F : Fr} {G : Gh} {H : Hp} {s : Sl} {o : Option V} {L : List Addr} (h : SlR F G H s o L) : ∀ p ∈ L, G.own p ∧ H p ≠ none ∧ ¬ F.G.own p := by
  cases s with
  | un =>
    have e : L = [] := h
    intro p hp; rw [e] at hp; cases hp
  | dat d => intro p hp; rw [h.1] at hp; cases hp
  | tr t =>
    obtain ⟨n, v, _, h⟩ := h
    intro p hp
    obtain ⟨h1, h2⟩ := Ow.own t v L h p hp
    exact ⟨h1, h2, n p hp⟩
theorem Slots.own {F : Fr} {G : Gh} {H : Hp} : ∀ {ρ : List Sl} {σ : St} {L : List Addr}, Slots F G H ρ σ L → ∀ p ∈ L, G.own p ∧ H p ≠ none ∧ ¬ F.G.own p
  | [], _, _, h, p, hp => by rw [h.2] at hp; cases hp
  | s :: ρ, _, _, h, p, hp => by
    obtain ⟨o, r, M, N, rfl, h1, h2, rfl⟩ := h
    rcases List.mem_append.mp hp with hp | hp
    · exact h1.own p hp
    · exact Slots.own h2 p hp
theorem Slots.map {F F' : Fr} {G G' : Gh} {H H' : Hp} : ∀ {ρ : List Sl} {σ : St} {L : List Addr}, (∀ s o M, (∀ p ∈ M, p ∈ L) → SlR F G H s o M → SlR F' G' H' s o M) → Slots F G H ρ σ L → Slots F' G' H' ρ σ L
  | [], _, _, _, h => h
  | a :: ρ, σ, L, f, h => by
    obtain ⟨q, r, M, N, rfl, h1, h2, rfl⟩ := h
    exact ⟨q, r, M, N, rfl, f _ _ _ (fun p hp => List.mem_append_left _ hp) h1, Slots.map (fun s o R k => f s o R fun p hp => List.mem_append_right _ (k p hp)) h2, rfl⟩
theorem Slots.len {F : Fr} {G : Gh} {H : Hp} : ∀ {ρ : List Sl} {σ : St} {L : List Addr}, Slots F G H ρ σ L → ρ.length = σ.length
  | [], _, _, h => by rw [h.1]; rfl
  | a :: ρ, σ, _, h => by
    obtain ⟨q, r, M, N, rfl, h1, h2, rfl⟩ := h
    simp [Slots.len h2]
/-- one slot changes, the others go along -/
theorem Slots.upd {F : Fr} {G : Gh} {H : Hp} : ∀ {ρ : List Sl} {σ : St} {L : List Addr} {i : Nat} {s : Sl}, Slots F G H ρ σ L → ρ[i]? = some s → ∃ o A B C, σ[i]? = some o ∧ L = A ++ (B ++ C) ∧ SlR F G H s o B ∧
    ∀ (F' : Fr) (G' : Gh) (H' : Hp) (s' : Sl) (o' : Option V) (B' : List Addr), (∀ t u M, (∀ p ∈ M, p ∈ A ∨ p ∈ C) → SlR F G H t u M → SlR F' G' H' t u M) → SlR F' G' H' s' o' B' → Slots F' G' H' (ρ.set i s') (σ.set i o') (A ++ (B' ++ C))
  | [], _, _, i, s, _, e => by simp at e
  | a :: ρ, _, _, 0, s, h, e => by
    obtain ⟨q, r, M, N, rfl, h1, h2, rfl⟩ := h
    simp at e; subst e
    refine ⟨q, [], M, N, rfl, rfl, h1, fun F' G' H' s' o' B' k hs => ⟨o', r, B', N, rfl, hs, Slots.map (fun t u R z => k t u R fun p hp => .inr (z p hp)) h2, rfl⟩⟩
  | a :: ρ, _, _, i + 1, s, h, e => by
    obtain ⟨q, r, M, N, rfl, h1, h2, rfl⟩ := h
    obtain ⟨o, A, B, C, e1, rfl, e3, e4⟩ := Slots.upd (i := i) h2 (by simpa using e)
    refine ⟨o, M ++ A, B, C, by simpa using e1, by rw [List.append_assoc], e3, fun F' G' H' s' o' B' k hs => ⟨q, r.set i o', M, A ++ (B' ++ C), rfl, k _ _ _ (fun p hp => .inl (List.mem_append_left _ hp)) h1, e4 F' G' H' s' o' B' (fun t u R z => k t u R fun p hp => (z p hp).imp (List.mem_append_right _) _root_.id) hs, by rw [List.append_assoc]⟩⟩

section
variable {F : Fr} {G G' : Gh} {H H' : Hp} {σ : St} {ρ : List Sl}
theorem Rel.obg (r : Rel F G H σ ρ) : G.own G.bg := by rw [r.bg]; exact r.sub _ r.ob
theorem Rel.bag (r : Rel F G H σ ρ) : BagOk H G.bg G.bi := by rw [r.bg, r.bi]; exact r.ext.bag
theorem Rel.ok (r : Rel F G H σ ρ) : GOk G H := ⟨r.obg, by rw [r.bi]; exact r.sub _ r.oi, r.tr, r.bag⟩
theorem Rel.len (r : Rel F G H σ ρ) : ρ.length = σ.length := let ⟨_, h, _⟩ := r.sl; h.len
theorem Rel.free (r : Rel F G H σ ρ) {p : Addr} (h : H p = none) : ¬ G.own p := fun z => by
  have m := r.tr p z
  rw [h] at m; exact m
theorem Rel.at (r : Rel F G H σ ρ) {i : Nat} {s : Sl} (e : ρ[i]? = some s) : ∃ o L, σ[i]? = some o ∧ SlR F G H s o L := by
  obtain ⟨L, h, _⟩ := r.sl
  obtain ⟨o, A, B, C, e1, _, e3, _⟩ := h.upd e
  exact ⟨o, B, e1, e3⟩
theorem Rel.evo (r : Rel F G H σ ρ) (e : Ext G H H') : Evo G G H H' :=
  ⟨fun a o n h => e.lk (fun z => n (by rw [z]; exact r.obg)) h, r.tr, fun _ n _ => n, rfl, rfl⟩
theorem Ext.tr' (o : G.own G.bg) (tr : ∀ a, G.own a → Mut (H a)) (e : Ext G H H') : ∀ a, G.own a → Mut (H' a) := fun a z => by
  by_cases q : a = G.bg
  · subst q
    obtain ⟨x, y, z, ns, h1, _⟩ := e.bag
    rw [h1]; exact True.intro
  · have m := tr a z
    cases h : H a with
    | none => rw [h] at m; exact m.elim
    | some o => rw [e.mine q h z]; rw [h] at m; exact m
/-- a slot's content goes along where data do and what is owned stands -/
theorem SlR.go {F' : Fr} (hK : F'.K = F.K) (hG : F'.G = F.G) (e : Evo G G' H H') : ∀ (s : Sl) (o : Option V) (M : List Addr), (∀ p ∈ M, G.own p → H p ≠ none → ¬ F.G.own p → G'.own p ∧ H' p = H p) → SlR F G H s o M → SlR F' G' H' s o M
  | .un, _, _, _, h => h
  | .dat d, o, M, _, h => by
    obtain ⟨h0, v, h1, h2⟩ := h
    exact ⟨h0, v, h1, by rw [hK]; exact e.dt d v h2⟩
  | .tr t, o, M, k, h => by
    have w := SlR.own (s := .tr t) h
    obtain ⟨n, v, h1, h2⟩ := h
    refine ⟨fun p hp => by rw [hG]; exact n p hp, v, h1, ?_⟩
    rw [hK]
    exact Ow.evo e t v M (fun p hp => k p hp (w p hp).1 (w p hp).2.1 (w p hp).2.2) h2
theorem Ext.stands (bg : G.bg = F.G.bg) (ob : F.G.own F.G.bg) (e : Ext G H H') : ∀ p, G.own p → H p ≠ none → ¬ F.G.own p → G.own p ∧ H' p = H p := fun p h1 h2 h3 => by
  cases q : H p with
  | none => exact absurd q h2
  | some o => exact ⟨h1, e.mine (fun z => h3 (by rw [z, bg]; exact ob)) q h1⟩
theorem Rel.step (r : Rel F G H σ ρ) (e : Ext G H H') : Rel F G H' σ ρ :=
  ⟨r.bg, r.bi, r.ob, r.oi, r.sub, r.new, Ext.tr' r.obg r.tr e, r.ext.trans (e.cg r.bg.symm r.bi.symm r.sub), fun q hq => (r.evo e).dt _ _ (r.pn q hq), let ⟨L, h, n⟩ := r.sl; ⟨L, h.map fun s o M _ => SlR.go rfl rfl (r.evo e) s o M fun p _ => Ext.stands r.bg r.ob e p, n⟩⟩
/-- what data avoid may be less -/
theorem Rel.less (r : Rel F G H σ ρ) : Evo G F.G H H := ⟨fun _ _ _ h => .inl h, r.tr, fun a n _ z => n (r.sub a z), r.bg.symm, r.bi.symm⟩
theorem Rel.same (r : Rel F G H σ ρ) : Evo G G H H := ⟨fun _ _ _ h => .inl h, r.tr, fun _ n _ => n, rfl, rfl⟩
theorem Rel.unpin {l : List (V × D)} (r : Rel (F.pin l) G H σ ρ) : Rel F G H σ ρ := by
  obtain ⟨L, h, n⟩ := r.sl
  have k : ∀ (s : Sl) (o : Option V) (M : List Addr), (∀ p ∈ M, p ∈ L) → SlR (F.pin l) G H s o M → SlR F G H s o M := fun s o M _ h => by
    cases s <;> exact h
  exact ⟨r.bg, r.bi, r.ob, r.oi, r.sub, r.new, r.tr, r.ext, fun q hq => r.pn q (List.mem_append_right _ hq), L, Slots.map k h, n⟩
theorem Rel.pinned {l : List (V × D)} (r : Rel F G H σ ρ) (h : ∀ q ∈ l, Dt F.K G H q.2 q.1) : Rel (F.pin l) G H σ ρ := by
  obtain ⟨L, hl, n⟩ := r.sl
  have k : ∀ (s : Sl) (o : Option V) (M : List Addr), (∀ p ∈ M, p ∈ L) → SlR F G H s o M → SlR (F.pin l) G H s o M := fun s o M _ h => by
    cases s <;> exact h
  exact ⟨r.bg, r.bi, r.ob, r.oi, r.sub, r.new, r.tr, r.ext, fun q hq => (List.mem_append.mp hq).elim (h q) (r.pn q), L, Slots.map k hl, n⟩
theorem nodup_mid {A B C : List Addr} (h : (A ++ (B ++ C)).Nodup) : (A ++ C).Nodup ∧ B.Nodup ∧ ∀ p ∈ B, p ∉ A ∧ p ∉ C := by
  rw [List.nodup_append] at h
  obtain ⟨h1, h2, h3⟩ := h
  rw [List.nodup_append] at h2
  obtain ⟨h4, h5, h6⟩ := h2
  refine ⟨List.nodup_append.mpr ⟨h1, h5, fun a ha b hb => h3 a ha b (List.mem_append_right _ hb)⟩, h4, fun p hp => ⟨fun z => h3 p z p (List.mem_append_left _ hp) rfl, fun z => h6 p hp p z rfl⟩⟩
theorem nodup_in {A B C : List Addr} (h : (A ++ C).Nodup) (hb : B.Nodup) (k : ∀ p ∈ B, p ∉ A ∧ p ∉ C) : (A ++ (B ++ C)).Nodup := by
  rw [List.nodup_append] at h
  obtain ⟨h1, h2, h3⟩ := h
  refine List.nodup_append.mpr ⟨h1, List.nodup_append.mpr ⟨hb, h2, fun a ha b hb e => (k a ha).2 (e ▸ hb)⟩, fun a ha b hb e => ?_⟩
  rcases List.mem_append.mp hb with z | z
  · exact (k b z).1 (e ▸ ha)
  · exact h3 a ha b z e
/-- a slot gets another content, what it owned is let go -/
theorem Rel.slot (r : Rel F G H σ ρ) {i : Nat} {s : Sl} {o : Option V} {B : List Addr} (hs : SlR F G H s o B) (hB : B.Nodup) (hf : ∀ L, (∃ ρ' σ', Slots F G H ρ' σ' L) → ∀ p ∈ B, p ∉ L) : Rel F G H (σ.set i o) (ρ.set i s) := by
  refine ⟨r.bg, r.bi, r.ob, r.oi, r.sub, r.new, r.tr, r.ext, r.pn, ?_⟩
  obtain ⟨L, h, n⟩ := r.sl
  cases e : ρ[i]? with
  | none =>
    have hi : ρ.length ≤ i := by simpa using e
    rw [List.set_eq_of_length_le hi, List.set_eq_of_length_le (by rw [← h.len]; exact hi)]
    exact ⟨L, h, n⟩
  | some t =>
    obtain ⟨u, A, B', C, _, rfl, _, k⟩ := h.upd e
    obtain ⟨n1, _, _⟩ := nodup_mid n
    have f := hf _ ⟨_, _, h⟩
    exact ⟨_, k F G H s o B (fun _ _ _ _ z => z) hs, nodup_in n1 hB fun p hp => ⟨fun z => f p hp (List.mem_append_left _ z), fun z => f p hp (List.mem_append_right _ (List.mem_append_right _ z))⟩⟩
/-- a slot is given data -/
theorem Rel.put (r : Rel F G H σ ρ) {i : Nat} {d : D} {v : V} (h : Dt F.K G H d v) : Rel F G H (σ.set i (some v)) (ρ.set i (.dat d)) :=
  r.slot (B := []) ⟨rfl, v, rfl, h⟩ List.nodup_nil fun _ _ _ z => nomatch z
theorem Rel.drop (r : Rel F G H σ ρ) (i : Nat) (o : Option V) : Rel F G H (σ.set i o) (ρ.set i .un) := r.slot (B := []) rfl List.nodup_nil fun _ _ _ z => nomatch z
/-- a slot is given what is new: its addresses are no other slot's -/
theorem Rel.give (r : Rel F G H σ ρ) {i : Nat} {t : Tr} {v : V} {B : List Addr} (h : Ow F.K G H t v B) (hB : B.Nodup) (n : ∀ p ∈ B, ¬ F.G.own p) (f : ∀ L, (∃ ρ' σ', Slots F G H ρ' σ' L) → ∀ p ∈ B, p ∉ L) : Rel F G H (σ.set i (some v)) (ρ.set i (.tr t)) :=
  r.slot ⟨n, v, rfl, h⟩ hB f
def Gh.add (G : Gh) (p : Addr) : Gh := ⟨G.bg, G.bi, fun a => G.own a ∨ a = p⟩
theorem Rel.evoAdd (r : Rel F G H σ ρ) (e : Ext G H H') {p : Addr} (hp : H p = none) : Evo G (G.add p) H H' :=
  ⟨fun a o n h => e.lk (fun z => n (by rw [z]; exact r.obg)) h, r.tr, fun a n q z => z.elim n fun w => q (by rw [w]; exact hp), rfl, rfl⟩
def Gh.adds (G : Gh) (R : List Addr) : Gh := ⟨G.bg, G.bi, fun a => G.own a ∨ a ∈ R⟩
theorem Rel.evoAdds (r : Rel F G H σ ρ) (e : Ext G H H') {R : List Addr} (hp : ∀ p ∈ R, H p = none) : Evo G (G.adds R) H H' :=
  ⟨fun a o n h => e.lk (fun z => n (by rw [z]; exact r.obg)) h, r.tr, fun a n q z => z.elim n fun w => q (hp a w), rfl, rfl⟩
/-- new lists (or dicts) that nothing knows -/
theorem Rel.grows (r : Rel F G H σ ρ) (e : Ext G H H') {R : List Addr} (hp : ∀ p ∈ R, H p = none) (hm : ∀ p ∈ R, Mut (H' p)) : Rel F (G.adds R) H' σ ρ := by
  have ev := r.evoAdds e hp
  refine ⟨r.bg, r.bi, r.ob, r.oi, fun a h => .inl (r.sub a h), fun a h n => ?_, fun a h => ?_, r.ext.trans (e.cg r.bg.symm r.bi.symm r.sub), fun q hq => ev.dt _ _ (r.pn q hq), let ⟨L, h, n⟩ := r.sl; ⟨L, h.map fun s o M _ => SlR.go rfl rfl ev s o M fun p _ h1 h2 h3 => let ⟨z, w⟩ := Ext.stands r.bg r.ob e p h1 h2 h3; ⟨.inl z, w⟩, n⟩⟩
  · rcases h with h | h
    · exact r.new a h n
    · cases q : F.H a with
      | none => rfl
      | some o =>
        have hp := hp a h
        have q2 : a ≠ F.G.bg := fun z => by
          have := r.ext.bag.ne
          rw [← z] at this
          exact this hp
        rcases r.ext.lk q2 q with z | ⟨_, od, z⟩ <;> · rw [z] at hp; cases hp
  · rcases h with h | h
    · exact Ext.tr' r.obg r.tr e a h
    · exact hm a h
theorem Gh.adds_one (G : Gh) (p : Addr) : G.adds [p] = G.add p := by
  unfold Gh.adds Gh.add
  congr 1
  funext a
  simp
theorem Rel.grow (r : Rel F G H σ ρ) (e : Ext G H H') {p : Addr} (hp : H p = none) (hm : Mut (H' p)) : Rel F (G.add p) H' σ ρ := by
  rw [← Gh.adds_one]
  exact r.grows e (fun a h => by rw [List.mem_singleton.mp h]; exact hp) fun a h => by rw [List.mem_singleton.mp h]; exact hm
end
end DL

set_option Elab.async false
set_option linter.all false
set_option maxRecDepth 100000
set_option maxHeartbeats 1000000
namespace DL
open PySem L2

abbrev TD := List Sl → (D → Prop) → Prop
abbrev TBD := List Sl → (Bool → Prop) → Prop
abbrev TLD := List Sl → (List D → Prop) → Prop
def lift (F : Fr) (T : TD) : TE := fun σ H Q => ∃ G ρ k, Rel F G H σ ρ ∧ T ρ k ∧ ∀ d v H', k d → Ext G H H' → Dt F.K G H' d v → Q v H'
def liftT (F : Fr) (T : TBD) : TT := fun σ H Q => ∃ G ρ k, Rel F G H σ ρ ∧ T ρ k ∧ ∀ b H', k b → Ext G H H' → Q b H'
def liftA (F : Fr) (T : TLD) : TA := fun σ H Q => ∃ G ρ k, Rel F G H σ ρ ∧ T ρ k ∧ ∀ ds vs H', k ds → Ext G H H' → DtL F.K G H' ds vs → Q vs H'
/-- a new list, that nothing else knows -/
def liftF (F : Fr) (T : TLD) : TE := fun σ H Q => ∃ G ρ k, Rel F G H σ ρ ∧ T ρ k ∧ ∀ ds p vs H', k ds → Ext G H H' → H p = none → H' p = some (.lst vs) → DtL F.K (G.add p) H' ds vs → Q (.ref p) H'

theorem pe_imp {X : Cx} {e : Expr} {t t' : TE} (h : PE X e t) (i : ∀ σ H Q, t' σ H Q → t σ H Q) : PE X e t' := ⟨fun pins s σ H Q I w => h.run pins s σ H Q I (i _ _ _ w)⟩
theorem pt_imp {X : Cx} {e : Expr} {t t' : TT} (h : PT X e t) (i : ∀ σ H Q, t' σ H Q → t σ H Q) : PT X e t' := ⟨fun pins s σ H Q I w => h.run pins s σ H Q I (i _ _ _ w)⟩
theorem pa_imp {X : Cx} {e : List Expr} {t t' : TA} (h : PA X e t) (i : ∀ σ H Q, t' σ H Q → t σ H Q) : PA X e t' := ⟨fun pos pins s σ H Q I w => h.run pos pins s σ H Q I (i _ _ _ w)⟩
theorem ps_imp {X : Cx} {e : Stmt} {t t' : TS} (h : PS X e t) (i : ∀ D σ H, t' D σ H → t D σ H) : PS X e t' := ⟨fun pins s σ H D I w => h.run pins s σ H D I (i _ _ _ w)⟩
theorem pss_imp {X : Cx} {e : List Stmt} {t t' : TS} (h : PSs X e t) (i : ∀ D σ H, t' D σ H → t D σ H) : PSs X e t' := ⟨fun pins s σ H D I w => h.run pins s σ H D I (i _ _ _ w)⟩

/-! ### names, constants -/
def nameT (i : Nat) : TD := fun ρ k => match ρ[i]? with
  | some (.dat d) => k d
  | _ => False
def cT (d : D) : TD := fun _ k => k d
section
variable {X : Cx} {F : Fr}
theorem d_name (i : Nat) {x : Str} {pos : Pos} (hN : X.N[i]? = some x := by rfl) (hv : Vis X.env.scope x := by first | exact Or.inl rfl | exact Or.inr (Or.inl rfl) | exact Or.inr (Or.inr rfl)) (hd : (x == ("__debug__" : Str)) = false := by decide)
    (hcd : (x == ("__classdict__" : Str)) = false := by decide) : PE X (.Name x pos) (lift F (nameT i)) := by
  refine pe_imp (pe_var hN hv hd hcd) fun σ H Q h => ?_
  obtain ⟨G, ρ, k, r, h, q⟩ := h
  unfold nameT at h
  cases e : ρ[i]? with
  | none => rw [e] at h; exact h.elim
  | some s =>
    cases s with
    | dat d =>
      rw [e] at h
      obtain ⟨o, L, e1, -, v, rfl, hv⟩ := r.at e
      exact ⟨v, e1, q d v H h (.refl r.bag) hv⟩
    | _ => rw [e] at h; exact h.elim
theorem d_cst {e : Expr} {d : D} {v : V} (h : PE X e (tC v)) (hd : ∀ G H, Dt F.K G H d v) : PE X e (lift F (cT d)) :=
  pe_imp h fun σ H Q ⟨G, ρ, k, r, h, q⟩ => q d v H h (.refl r.bag) (hd G H)
theorem d_int {i : Int} {j : Nat} {pos : Pos} : PE X (.Constant (.int i) j pos) (lift F (cT (.int i))) := d_cst pe_int fun _ _ => rfl
theorem d_bl {b : Bool} {j : Nat} {pos : Pos} : PE X (.Constant (.bool b) j pos) (lift F (cT (.bl b))) := d_cst pe_bl fun _ _ => rfl
theorem d_non {j : Nat} {pos : Pos} : PE X (.Constant .none j pos) (lift F (cT .non)) := d_cst pe_non fun _ _ => rfl
theorem d_str {x : Str} {j : Nat} {pos : Pos} : PE X (.Constant (.str x) j pos) (lift F (cT (.str x))) := d_cst pe_str fun _ _ => rfl
end

/-! ### argument lists -/
def nilA : TLD := fun _ k => k []
def consA (t : TD) (u : TLD) : TLD := fun ρ k => t ρ fun d => u ρ fun ds => k (d :: ds)
section
variable {X : Cx} {F : Fr} {e : Expr} {es : List Expr} {te : TD} {ta : TLD}
theorem a_nil : PA X [] (liftA F nilA) := pa_imp pa_nil fun σ H Q ⟨G, ρ, k, r, h, q⟩ => q [] [] H h (.refl r.bag) rfl
theorem a_cons (ha : PE X e (lift F te)) (hr : PA X es (liftA F ta)) (hs : starEach (e :: es) X.env = (false, eval e X.env) :: starEach es X.env := by rfl) : PA X (e :: es) (liftA F (consA te ta)) := by
  refine pa_imp (pa_cons ha hr hs) fun σ H Q ⟨G, ρ, k, r, h, q⟩ => ?_
  refine ⟨G, ρ, _, r, h, fun d v H1 h1 e1 d1 => ?_⟩
  refine ⟨G, ρ, _, r.step e1, h1, fun ds vs H2 h2 e2 d2 => ?_⟩
  exact q _ _ H2 h2 (e1.trans e2) ⟨v, vs, rfl, ((r.step e1).evo e2).dt d v d1, d2⟩
end
theorem DtL.len {K : PySem.W.Frag} {G : Gh} {H : Hp} : ∀ {ds : List D} {vs : List V}, DtL K G H ds vs → ds.length = vs.length
  | [], _, h => by
    have h' : _ = [] := h
    rw [h']; rfl
  | d :: ds, _, h => by
    obtain ⟨x, r, rfl, _, h2⟩ := h
    simp [DtL.len h2]
/-- () is no new thing in what it holds: lists, tuples, displays -/
def tupT (t : TLD) : TD := fun ρ k => t ρ fun ds => ds.length ≤ sizeLine ∧ k (.tup ds)
def lstF (t : TLD) : TLD := fun ρ k => t ρ fun ds => ds.length ≤ sizeLine ∧ k ds
def ofF (t : TLD) : TD := fun ρ k => t ρ fun ds => k (.lst ds)
section
variable {X : Cx} {F : Fr} {e : Expr} {es : List Expr} {te : TD} {ta : TLD} {pos : Pos}
theorem d_tup {x1 : Nat} (h : PA X es (liftA F ta)) : PE X (.Tuple es x1 pos) (lift F (tupT ta)) := by
  refine pe_imp (pe_tup h) fun σ H Q ⟨G, ρ, k, r, h, q⟩ => ?_
  refine ⟨G, ρ, _, r, h, fun ds vs H1 ⟨hl, h1⟩ e1 d1 => ⟨by rw [← d1.len]; exact hl, fun p hp => ?_⟩⟩
  have r1 := r.step e1
  have e2 : Ext G H1 (upd H1 p (.tup vs)) := Ext.new r1.bag hp
  exact q _ _ _ h1 (e1.trans e2) ⟨p, vs, rfl, .inl (.inl upd_same), (r1.evo e2).dts ds vs d1⟩
theorem f_lst (h : PA X es (liftA F ta)) : PE X (.List es pos) (liftF F (lstF ta)) := by
  refine pe_imp (pe_lst h) fun σ H Q ⟨G, ρ, k, r, h, q⟩ => ?_
  refine ⟨G, ρ, _, r, h, fun ds vs H1 ⟨hl, h1⟩ e1 d1 => ⟨by rw [← d1.len]; exact hl, fun p hp => ?_⟩⟩
  have r1 := r.step e1
  have e2 : Ext G H1 (upd H1 p (.lst vs)) := Ext.new r1.bag hp
  exact q ds p vs _ h1 (e1.trans e2) (e1.free r.bag hp) upd_same ((r1.evoAdd e2 hp).dts ds vs d1)
/-- a new list as data -/
theorem d_of (h : PE X e (liftF F ta)) : PE X e (lift F (ofF ta)) := by
  refine pe_imp h fun σ H Q ⟨G, ρ, k, r, h, q⟩ => ?_
  refine ⟨G, ρ, _, r, h, fun ds p vs H1 h1 e1 hp hl d1 => q _ _ _ h1 e1 ⟨p, vs, rfl, r.free hp, hl, ?_⟩⟩
  have ev : Evo (G.add p) G H1 H1 := ⟨fun _ _ _ h => .inl h, fun a z => z.elim (Ext.tr' r.obg r.tr e1 a) fun z => by rw [z, hl]; exact True.intro, fun a n _ z => n (.inl z), rfl, rfl⟩
  exact ev.dts ds vs d1
end

/-! ### two-place operations -/
abbrev OD := D → D → (D → Prop) → Prop
def binT (o : OD) (ta tb : TD) : TD := fun ρ k => ta ρ fun x => tb ρ fun y => o x y k
/-- an operation by values does what o says of data -/
def OkOp (F : Fr) (r : R2) (o : OD) : Prop := ∀ (G : Gh) (H : Hp) (x y : D) (v u : V) (k : D → Prop) (Q : VK), GOk G H → o x y k → Dt F.K G H x v → Dt F.K G H y u →
  (∀ d w H', k d → Ext G H H' → Dt F.K G H' d w → Q w H') → r v u H Q
section
variable {X : Cx} {F : Fr} {a b : Expr} {ta tb : TD} {r : R2} {o : OD} {pos : Pos}
theorem opT (hr : OkOp F r o) : ∀ σ H Q, lift F (binT o ta tb) σ H Q → tOp r (lift F ta) (lift F tb) σ H Q := by
  intro σ H Q ⟨G, ρ, k, rl, h, q⟩
  refine ⟨G, ρ, _, rl, h, fun x v H1 h1 e1 d1 => ?_⟩
  have r1 := rl.step e1
  refine ⟨G, ρ, _, r1, h1, fun y u H2 h2 e2 d2 => ?_⟩
  have r2 := r1.step e2
  exact hr G H2 x y v u k Q r2.ok h2 ((r1.evo e2).dt x v d1) d2 fun d w H3 h3 e3 d3 => q d w H3 h3 ((e1.trans e2).trans e3) d3
theorem d_bin {op : Operator} (ho : OpR X (binaryOp op) r) (hr : OkOp F r o) (ha : PE X a (lift F ta)) (hb : PE X b (lift F tb)) : PE X (.BinOp a op b pos) (lift F (binT o ta tb)) :=
  pe_imp (pe_op ho ha hb) (opT hr)
theorem d_cmp {op : CmpOp} (ho : OpR X (compareOp op) r) (hr : OkOp F r o) (ha : PE X a (lift F ta)) (hb : PE X b (lift F tb)) (hm : behindInMarks op b = false) : PE X (.Compare a [op] [b] pos) (lift F (binT o ta tb)) :=
  pe_imp (pe_cmpR ho ha hb hm) (opT hr)
/-- a value that is a bool, as a test -/
def blT (t : TD) : TBD := fun ρ k => t ρ fun d => match d with
  | .bl b => k b
  | _ => False
theorem t_val {e : Expr} {te : TD} (h : PE X e (lift F te)) (he : ∀ whole, isTrue e X.env whole = (do let v ← whole; standAt e.pos; holding [v] (truthy v)) := by intro _; rfl) : PT X e (liftT F (blT te)) := by
  refine pt_imp (pt_val h he) fun σ H Q ⟨G, ρ, k, r, h, q⟩ => ⟨G, ρ, _, r, h, fun d v H1 h1 e1 d1 => ?_⟩
  cases d with
  | bl b => exact ⟨b, d1, q b H1 h1 e1⟩
  | _ => exact h1.elim
theorem t_cmp {op : CmpOp} (ho : OpR X (compareOp op) r) (hr : OkOp F r o) (ha : PE X a (lift F ta)) (hb : PE X b (lift F tb)) (hm : behindInMarks op b = false) : PT X (.Compare a [op] [b] pos) (liftT F (blT (binT o ta tb))) := by
  refine pt_imp (pt_cmpR ho ha hb hm) fun σ H Q ⟨G, ρ, k, r, h, q⟩ => ?_
  refine opT hr σ H _ ⟨G, ρ, _, r, h, fun d v H1 h1 e1 d1 => ?_⟩
  cases d with
  | bl b => exact ⟨b, d1, q b H1 h1 e1⟩
  | _ => exact h1.elim
end

def addD : OD
  | .int i, .int j, k => k (.int (i + j))
  | .int i, .bl b, k => k (.int (i + PyProof.Rows.b2i b))
  | .str x, .str y, k => x.length + y.length ≤ sizeLine ∧ k (.str (x ++ y))
  | .lst x, .lst y, k => x.length + y.length ≤ sizeLine ∧ k (.lst (x ++ y))
  | .tup x, .tup y, k => x.length + y.length ≤ sizeLine ∧ k (.tup (x ++ y))
  | _, _, _ => False
def subD : OD
  | .int i, .int j, k => k (.int (i - j))
  | _, _, _ => False
def mulD : OD
  | .int i, .int j, k => CMul i j ∧ k (.int (i * j))
  | .lst x, .int j, k => (-(2 ^ 63) ≤ j ∧ j < 2 ^ 63) ∧ x.length * j.toNat ≤ sizeLine ∧ k (.lst (List.replicate j.toNat x).flatten)
  | _, _, _ => False
def fdivD : OD
  | .int i, .int j, k => CDiv i j ∧ k (.int (i / j))
  | _, _, _ => False
def modD : OD
  | .int i, .int j, k => 0 < j ∧ k (.int (i % j))
  | _, _, _ => False
def cmpI (f : Int → Int → Bool) : OD
  | .int i, .int j, k => k (.bl (f i j))
  | _, _, _ => False
theorem DtL.app {K : PySem.W.Frag} {G : Gh} {H : Hp} : ∀ {ds es : List D} {vs us : List V}, DtL K G H ds vs → DtL K G H es us → DtL K G H (ds ++ es) (vs ++ us)
  | [], _, _, _, h, h' => by
    have e : _ = [] := h
    subst e; exact h'
  | d :: ds, _, _, _, h, h' => by
    obtain ⟨x, r, rfl, h1, h2⟩ := h
    exact ⟨x, _, rfl, h1, DtL.app h2 h'⟩
theorem DtL.rep {K : PySem.W.Frag} {G : Gh} {H : Hp} {ds : List D} {vs : List V} (h : DtL K G H ds vs) : ∀ n : Nat, DtL K G H (List.replicate n ds).flatten (List.replicate n vs).flatten
  | 0 => rfl
  | n + 1 => by
    rw [List.replicate_succ, List.replicate_succ, List.flatten_cons, List.flatten_cons]
    exact h.app (DtL.rep h n)
section
variable {X : Cx} {F : Fr} {a b : Expr} {ta tb : TD} {pos : Pos}
theorem ok_opI {C : Int → Int → Prop} {g : Int → Int → Int} {o : OD} (ho : ∀ x y k, o x y k → ∃ i j, x = .int i ∧ y = .int j ∧ C i j ∧ k (.int (g i j))) : OkOp F (rI C fun i j => .int (g i j)) o := by
  intro G H x y v u k Q ⟨ob, oi, tr, bg⟩ h hx hy q
  obtain ⟨i, j, rfl, rfl, c, h'⟩ := ho x y k h
  exact ⟨i, j, hx, hy, c, q _ _ _ h' (.refl bg) rfl⟩
theorem ok_opI0 {g : Int → Int → Int} {o : OD} (ho : ∀ x y k, o x y k → ∃ i j, x = .int i ∧ y = .int j ∧ k (.int (g i j))) : OkOp F (rI0 fun i j => .int (g i j)) o := by
  intro G H x y v u k Q ⟨ob, oi, tr, bg⟩ h hx hy q
  obtain ⟨i, j, rfl, rfl, h'⟩ := ho x y k h
  exact ⟨i, j, hx, hy, q _ _ _ h' (.refl bg) rfl⟩
theorem ok_cmpI {g : Int → Int → Bool} : OkOp F (rI0 fun i j => .bl (g i j)) (cmpI g) := by
  intro G H x y v u k Q ⟨ob, oi, tr, bg⟩ h hx hy q
  cases x with
  | int i =>
    cases y with
    | int j => exact ⟨i, j, hx, hy, q _ _ _ h (.refl bg) rfl⟩
    | _ => exact (show False from h).elim
  | _ => exact (show False from h).elim
theorem d_sub (ha : PE X a (lift F ta)) (hb : PE X b (lift F tb)) : PE X (.BinOp a .Sub b pos) (lift F (binT subD ta tb)) :=
  d_bin op_sub (ok_opI0 fun x y k h => by
    cases x <;> try exact (show False from h).elim
    cases y <;> try exact (show False from h).elim
    exact ⟨_, _, rfl, rfl, h⟩) ha hb
theorem d_fdiv (ha : PE X a (lift F ta)) (hb : PE X b (lift F tb)) : PE X (.BinOp a .FloorDiv b pos) (lift F (binT fdivD ta tb)) :=
  d_bin op_fdiv (ok_opI fun x y k h => by
    cases x <;> try exact (show False from h).elim
    cases y <;> try exact (show False from h).elim
    exact ⟨_, _, rfl, rfl, h.1, h.2⟩) ha hb
theorem d_mod (ha : PE X a (lift F ta)) (hb : PE X b (lift F tb)) : PE X (.BinOp a .Mod b pos) (lift F (binT modD ta tb)) :=
  d_bin op_mod (ok_opI fun x y k h => by
    cases x <;> try exact (show False from h).elim
    cases y <;> try exact (show False from h).elim
    exact ⟨_, _, rfl, rfl, h.1, h.2⟩) ha hb
theorem d_mul (ha : PE X a (lift F ta)) (hb : PE X b (lift F tb)) : PE X (.BinOp a .Mult b pos) (lift F (binT mulD ta tb)) := by
  refine d_bin (r := fun x y H Q => rI CMul (fun i j => .int (i * j)) x y H Q ∨ rRep x y H Q) (op_mul.or op_rep) ?_ ha hb
  intro G H x y v u k Q ⟨ob, oi, tr, bg⟩ h hx hy q
  cases x <;> try exact (show False from h).elim
  · cases y <;> try exact (show False from h).elim
    exact .inl ⟨_, _, hx, hy, h.1, q _ _ _ h.2 (.refl bg) rfl⟩
  · cases y <;> try exact (show False from h).elim
    obtain ⟨a, xs, rfl, n, ha, hd⟩ := hx
    obtain ⟨⟨b1, b2⟩, hz, h⟩ := h
    refine .inr ⟨a, _, xs, rfl, hy, ha, b1, b2, by rw [← hd.len]; exact hz, fun p hp => ?_⟩
    have ev : ∀ {o : HO}, Evo G G H (upd H p o) := fun {o} => ⟨fun a o n h => (Ext.new bg hp).lk (fun z => n (by rw [z]; exact ob)) h, tr, fun _ n _ => n, rfl, rfl⟩
    exact q _ _ _ h (Ext.new bg hp) ⟨p, _, rfl, fun z => by have m := tr p z; rw [hp] at m; exact m, upd_same, ev.dts _ _ (hd.rep _)⟩
theorem d_add (ha : PE X a (lift F ta)) (hb : PE X b (lift F tb)) (hK : X.K = F.K := by rfl) : PE X (.BinOp a .Add b pos) (lift F (binT addD ta tb)) := by
  refine d_bin (op_add.or (op_add_ib.or (op_add_str.or (op_cat.or op_catA)))) ?_ ha hb
  intro G H x y v u k Q ⟨ob, oi, tr, bg⟩ h hx hy q
  have free : ∀ {p : Addr}, H p = none → ¬ G.own p := fun hp z => by
    have m := tr _ z
    rw [hp] at m; exact m
  have evn : ∀ {p : Addr} {o : HO}, H p = none → Evo G G H (upd H p o) := fun {p o} hp =>
    have e : Ext G H (upd H p o) := Ext.new bg hp
    ⟨fun a o n h => e.lk (fun z => n (by rw [z]; exact ob)) h, tr, fun _ n _ => n, rfl, rfl⟩
  cases x <;> try exact (show False from h).elim
  · cases y <;> try exact (show False from h).elim
    · exact .inr (.inl ⟨_, _, hx, hy, q _ _ _ h (.refl bg) rfl⟩)
    · exact .inl ⟨_, _, hx, hy, q _ _ _ h (.refl bg) rfl⟩
  · cases y <;> try exact (show False from h).elim
    exact .inr (.inr (.inl ⟨_, _, hx, hy, h.1, q _ _ _ h.2 (.refl bg) rfl⟩))
  · cases y <;> try exact (show False from h).elim
    obtain ⟨a, xs, rfl, n, ha, hd⟩ := hx
    obtain ⟨a', xs', rfl, n', ha', hd'⟩ := hy
    refine .inr (.inr (.inr (.inl ⟨a, a', xs, xs', rfl, rfl, ha, ha', by rw [← hd.len, ← hd'.len]; exact h.1, fun p hp => ?_⟩)))
    exact q _ _ _ h.2 (Ext.new bg hp) ⟨p, _, rfl, free hp, upd_same, (evn hp).dts _ _ (hd.app hd')⟩
  · cases y <;> try exact (show False from h).elim
    obtain ⟨a, xs, rfl, ha, hd⟩ := hx
    obtain ⟨a', xs', rfl, ha', hd'⟩ := hy
    rw [← hK] at ha ha'
    refine .inr (.inr (.inr (.inr ⟨a, a', xs, xs', rfl, rfl, ha, ha', by rw [← hd.len, ← hd'.len]; exact h.1, fun e => ?_, fun _ e => ?_, fun _ _ p hp => ?_⟩)))
    · have l := hd.len
      rw [e] at l
      obtain rfl := List.length_eq_zero_iff.mp l
      exact q _ _ _ h.2 (.refl bg) ⟨a', xs', rfl, hK ▸ ha', hd'⟩
    · have l := hd'.len
      rw [e] at l
      obtain rfl := List.length_eq_zero_iff.mp l
      exact q _ _ _ h.2 (.refl bg) ⟨a, xs, rfl, hK ▸ ha, by rw [List.append_nil]; exact hd⟩
    · exact q _ _ _ h.2 (Ext.new bg hp) ⟨p, _, rfl, .inl (.inl upd_same), (evn hp).dts _ _ (hd.app hd')⟩
end
end DL

set_option Elab.async false
set_option linter.all false
set_option maxRecDepth 100000
set_option maxHeartbeats 1000000
namespace DL
open PySem PySem.Spec PyProof.Rows L2

/-! ### defs that run where no repr runs -/
structure FnG (P : Program) (w : World) (K : PySem.W.Frag) (mg : Str → Option Value) (base : Heap) (CX : CXT) (k : Nat) (f : Addr) (fd : FuncData) (ps : List Str) (sp : Sp) : Prop where
  len : ∀ (vs : List V) (H : Hp) (Q : VK) (E : XK), sp vs H Q E → vs.length = ps.length
  run : ∀ (A : Around) (outer : List Env) (s : Shared) (H : Hp) (args : Args) (us : List Value) (vs : List V) (Q : VK) (E : XK), Room k A → A.guards = some [] →
    Env0 P w K mg base A outer s H → BindsTo s fd args (ps.zip us) → Vals vs us → sp vs H Q E →
    codeAny (model P w) A (.call (.ref f) args) (CR CX outer P w H s Q E) s
section
variable {P : Program} {w : World} {K : PySem.W.Frag} {mg : Str → Option Value} {base : Heap} {CX : CXT} {j k : Nat} {f : Addr} {fd : FuncData} {ps : List Str} {sp sp' : Sp}
theorem FnG.mono (F : FnG P w K mg base CX j f fd ps sp) (h : j ≤ k) : FnG P w K mg base CX k f fd ps sp :=
  ⟨F.len, fun A outer s H args us vs Q E r => F.run A outer s H args us vs Q E (r.mono h)⟩
theorem FnG.imp (F : FnG P w K mg base CX k f fd ps sp) (h : ∀ vs H Q E, sp' vs H Q E → sp vs H Q E) : FnG P w K mg base CX k f fd ps sp' :=
  ⟨fun vs H Q E q => F.len vs H Q E (h _ _ _ _ q), fun A outer s H args us vs Q E r g e b v q => F.run A outer s H args us vs Q E r g e b v (h _ _ _ _ q)⟩
theorem FnG.of (F : FnOk P w K mg base CX k f fd ps sp) : FnG P w K mg base CX k f fd ps sp :=
  ⟨F.len, fun A outer s H args us vs Q E r _ => F.run A outer s H args us vs Q E r⟩
/-- a def by its body -/
theorem fnG_of {name qual : Str} {params : Arguments} {body : List Stmt} {scope : Scope} {dV kV doc pm cdv ct oc : Value} {an od : Option Addr} {osl : Array (Option Value)} {N : List Str}
    (lk : K.lookup f = some ⟨oc, od, .func (PySem.W.fnOf name qual params body scope dV kV doc pm an cdv ct), osl⟩) (cd : PySem.W.codeIn K cdv qual = true) (S : FnScope N ps scope)
    (len : ∀ vs H Q E, sp vs H Q E → vs.length = ps.length)
    (hb : ∀ (A : Around) (outer : List Env) (s : Shared) (H : Hp) (vs : List V) (Q : VK) (E : XK), Room k (A.deeper (envOfC qual scope s.heap.objs.size f cdv)) → A.guards = some [] → sp vs H Q E →
      ∃ t, PSs (cxOf CX P w K mg base N qual scope f cdv A outer s H E) body t ∧ t { nx := fun _ H1 => Q .non H1, rt := Q } (start N vs) H) :
    FnG P w K mg base CX (k + 1) f (PySem.W.fnOf name qual params body scope dV kV doc pm an cdv ct) ps sp := by
  refine ⟨len, ?_⟩
  intro A outer s H args us vs Q E r g e b v q
  have n := len vs H Q E q
  have kin : K.In s.heap := e.mod.kin.keeps fun c o z => (e.bs c o z).1
  refine codeAny_call_function r.depth (kin _ _ lk) rfl S.co S.gen rfl (PySem.W.codeRec_of kin cd) (b _ _ _ _ ?_)
  refine wpAny_newFunctionEnv_cells S.kind (fun y hy => ?_) fun env he s1 x => ?_
  · obtain ⟨m, u⟩ := y
    rcases S.par m (List.of_mem_zip hy).1 with z | z
    · exact Or.inl z
    · exact Or.inr ⟨z, PySem.W.cellsFrom_some _ _ _ (Or.inl z)⟩
  · subst he
    refine ⟨(e.mod.nolimit.keeps fun c o z => (e.bs c o z).1).keeps x.toInCall.keep, codeAny_func ?_⟩
    obtain ⟨t, ht, hq⟩ := hb A outer s H vs Q E (r.deeper _) g q
    have I := inv_start (CX := CX) (E := E) S r.hd e n v x
    refine wpAny_mono (ht.run [] s1 (start N vs) H _ I hq) (fun fl s2 hs => ?_) fun _ _ z => z
    cases fl with
    | ret u =>
      obtain ⟨v', σ', H', J, rv, q'⟩ := hs
      exact ⟨v', H', J.os, J.bare, J.base, J.hok, rv, q'⟩
    | next =>
      obtain ⟨σ', H', J, q'⟩ := hs
      exact ⟨V.non, H', J.os, J.bare, J.base, J.hok, rfl, q'⟩
    | brk =>
      obtain ⟨_, _, _, z⟩ := hs
      exact False.elim z
    | cont =>
      obtain ⟨_, _, _, z⟩ := hs
      exact False.elim z
end
section
variable {X : Cx} {CX : CXT} {k : Nat} {f C : Addr} {fd : FuncData} {ps : List Str} {sp : Sp} {dvs : List V} {ds : List Value} {E : XK} {x m : Str} {p pos apos : Pos} {e o : Expr} {es : List Expr} {ta : TE} {t : TA}
theorem runG {pins : List (Addr × Obj)} {σ : L2.St} {H : Hp} {s : Shared} {Q : VK} {us : List Value} {vs : List V} (F : FnG X.prog X.w X.K X.mg X.base CX k f fd ps sp) (hr : Room k X.A) (hg : X.A.guards = some []) (hb : Binds X.K fd ps ds) (hd : Vals dvs ds) (hx : Passes CX X E)
    (I : Inv X pins σ H s) (r : Vals vs us) (h : sp (vs ++ dvs) H Q E) : wpAny (model X.prog X.w) X.A (call (.ref f) us) (EP X pins σ Q) X.xe s := by
  have q := r.append hd
  have n : (us ++ ds).length = ps.length := by rw [← q.length]; exact F.len _ _ _ _ h
  refine wpAny_call (codeAny_mono (F.run X.A X.stack s H ⟨us, []⟩ (us ++ ds) (vs ++ dvs) Q E hr hg I.env0 (hb s us I.kIn n) q h) fun z s' hz => ?_)
  cases z with
  | error w => exact hx pins σ H s w s' I hz
  | ok fl =>
    cases fl with
    | ret u => exact I.after hz
    | _ => exact False.elim hz
theorem peG_call (F : FnG X.prog X.w X.K X.mg X.base CX k f fd ps sp) (hr : Room k X.A) (hgd : X.A.guards = some []) (hg : Gl X x) (hm : X.mg x = some (.ref f)) (hk : PySem.W.keepIn X.K (.ref f) = true) (hb : Binds X.K fd ps ds) (hd : Vals dvs ds) (hx : Passes CX X E)
    (ha : PA X (e :: es) t) (hdb : (x == ("__debug__" : Str)) = false := by decide) (he : starEach (e :: es) X.env = (false, eval e X.env) :: starEach es X.env := by rfl) (hpl : (backTo pos (starEach es X.env)).any (·.1) = false := by rfl) :
    PE X (.Call (.Name x p) (e :: es) [] pos) (tCall sp dvs E t) := by
  constructor
  intro pins s σ H Q I h
  refine wpAny_Call_Name_kw (ld_glob I hg hm (PySem.W.callWith_K (h₀ := X.base) I.ok.mod.kin hk (thn (ha.run pos pins s σ H _ I h) fun us s1 q => ?_) he hpl) hdb)
  obtain ⟨vs, H1, I1, r, q⟩ := q
  exact ⟨I1.kIn, runG F hr hgd hb hd hx I1 r q⟩
end

/-! ### a def of data -/
abbrev RD := List D → (D → Prop) → Prop
def spD (K : PySem.W.Frag) (R : RD) : Sp := fun vs H Q _ => ∃ G ds k, GOk G H ∧ DtL K G H ds vs ∧ R ds k ∧ ∀ d v H', k d → Ext G H H' → Dt K G H' d v → Q v H'
def callT (R : RD) (ta : TLD) : TD := fun ρ k => ta ρ fun ds => R ds k
/-- all that is asked of a def to call it -/
structure Cal (X : Cx) (n : Nat) (x : Str) (R : RD) : Prop where
  ex : ∃ (f : Addr) (fd : FuncData) (ps : List Str) (k : Nat), k ≤ n ∧ FnG X.prog X.w X.K X.mg X.base CX0 k f fd ps (spD X.K R) ∧ X.mg x = some (.ref f) ∧ PySem.W.keepIn X.K (.ref f) = true ∧ Binds X.K fd ps []
section
variable {X : Cx} {F : Fr} {n : Nat} {x : Str} {R : RD} {e : Expr} {es : List Expr} {ta : TLD} {p pos : Pos}
theorem d_call (c : Cal X n x R) (hr : Room n X.A) (hgd : X.A.guards = some []) (hg : Gl X x) (ha : PA X (e :: es) (liftA F ta)) (hK : X.K = F.K := by rfl) (hdb : (x == ("__debug__" : Str)) = false := by decide)
    (he : starEach (e :: es) X.env = (false, eval e X.env) :: starEach es X.env := by rfl) (hpl : (backTo pos (starEach es X.env)).any (·.1) = false := by rfl) : PE X (.Call (.Name x p) (e :: es) [] pos) (lift F (callT R ta)) := by
  obtain ⟨f, fd, ps, j, hj, fn, hm, hk, hb⟩ := c.ex
  refine pe_imp (peG_call fn (hr.mono hj) hgd hg hm hk hb .nil pass0 ha hdb he hpl) fun σ H Q ⟨G, ρ, k, r, h, q⟩ => ?_
  refine ⟨G, ρ, _, r, h, fun ds vs H1 h1 e1 d1 => ?_⟩
  have r1 := r.step e1
  show spD X.K R (vs ++ []) H1 Q E0
  rw [List.append_nil, hK]
  exact ⟨G, ds, k, r1.ok, d1, h1, fun d v H2 h2 e2 d2 => q d v H2 h2 (e1.trans e2) d2⟩
end
end DL

set_option Elab.async false
set_option linter.all false
set_option maxRecDepth 100000
set_option maxHeartbeats 1000000
namespace DL
open PySem L2

/-! ### data of the model's own kind -/
mutual
def D.py : D → PyData
  | .non => .none
  | .bl b => .bool b
  | .int i => .int i
  | .str x => .str x
  | .lst ds => .list (D.pys ds)
  | .tup ds => .tuple (D.pys ds)
  | .dic _ _ => .dict []
  | .ins _ _ => .dict []
  | .bag => .dict []
  | .lock _ _ => .dict []
def D.pys : List D → List PyData
  | [] => []
  | d :: ds => D.py d :: D.pys ds
end
theorem pys_map : ∀ ds : List D, D.pys ds = ds.map D.py
  | [] => by simp only [D.pys, List.map_nil]
  | d :: ds => by simp only [D.pys, List.map_cons, pys_map ds]
section
variable {K : PySem.W.Frag} {G : Gh} {H : Hp}
mutual
theorem Dt.dp : ∀ (d : D) (v : V), d.py.canLay0 = true → Dt K G H d v → Dp K H v d.py
  | .non, v, _, h => by
    obtain rfl : v = .non := h
    exact .non
  | .bl b, v, _, h => by
    obtain rfl : v = .bl b := h
    exact .bl b
  | .int b, v, _, h => by
    obtain rfl : v = .int b := h
    exact .int b
  | .str b, v, _, h => by
    obtain rfl : v = .str b := h
    exact .str b
  | .lst ds, v, c, h => by
    obtain ⟨a, xs, rfl, _, h3, h4⟩ := h
    exact .lst (SqL.of h3) (Dt.dps ds xs (by simpa only [D.py, PyData.canLay0] using c) h4)
  | .tup ds, v, c, h => by
    obtain ⟨a, xs, rfl, h3, h4⟩ := h
    exact .tup h3 (Dt.dps ds xs (by simpa only [D.py, PyData.canLay0] using c) h4)
  | .dic t es, v, c, h => by simp [D.py, PyData.canLay0] at c
  | .ins C es, v, c, h => by simp [D.py, PyData.canLay0] at c
  | .bag, v, c, h => by simp [D.py, PyData.canLay0] at c
  | .lock _ _, v, c, h => by simp [D.py, PyData.canLay0] at c
theorem Dt.dps : ∀ (ds : List D) (vs : List V), PyData.canLayAll0 (D.pys ds) = true → DtL K G H ds vs → DpAll K H vs (D.pys ds)
  | [], v, _, h => by
    obtain rfl : v = [] := h
    exact .nil
  | d :: ds, v, c, h => by
    obtain ⟨x, r, rfl, h1, h2⟩ := h
    simp only [D.pys, PyData.canLayAll0, Bool.and_eq_true] at c
    exact .cons (Dt.dp d x c.1 h1) (Dt.dps ds r c.2 h2)
end
end
/-- data that may be compared -/
def eqOk (x y : D) : Prop := x.py.canLay0 = true ∧ y.py.canLay0 = true ∧ min x.py.depth y.py.depth ≤ 150
def eqB : D → D → (Bool → Prop) → Prop
  | .str a, .str b, k => k (decide (a = b))
  | .int a, .int b, k => k (decide (a = b))
  | .bl a, .bl b, k => k (decide (a = b))
  | x, y, k => eqOk x y ∧ k (PyData.eqv x.py y.py)
def eqD : OD := fun x y k => eqB x y fun b => k (.bl b)
def neD : OD := fun x y k => eqB x y fun b => k (.bl (!b))
theorem eqB_cases {x y : D} {k : Bool → Prop} (h : eqB x y k) : (∃ a b, x = .str a ∧ y = .str b ∧ k (decide (a = b))) ∨ (∃ a b, x = .int a ∧ y = .int b ∧ k (decide (a = b))) ∨ (∃ a b, x = .bl a ∧ y = .bl b ∧ k (decide (a = b))) ∨
    (eqOk x y ∧ k (PyData.eqv x.py y.py)) := by
  cases x <;> cases y <;> first
    | exact .inl ⟨_, _, rfl, rfl, h⟩
    | exact .inr (.inl ⟨_, _, rfl, rfl, h⟩)
    | exact .inr (.inr (.inl ⟨_, _, rfl, rfl, h⟩))
    | exact .inr (.inr (.inr h))
def rEqA (K : PySem.W.Frag) : R2 := fun x y H Q => rEq x y H Q ∨ ∃ d e, Dp K H x d ∧ Dp K H y e ∧ d.canLay0 = true ∧ e.canLay0 = true ∧ min d.depth e.depth ≤ 150 ∧ Q (.bl (PyData.eqv d e)) H
def rNeA (K : PySem.W.Frag) : R2 := fun x y H Q => rNe x y H Q ∨ ∃ d e, Dp K H x d ∧ Dp K H y e ∧ d.canLay0 = true ∧ e.canLay0 = true ∧ min d.depth e.depth ≤ 150 ∧ Q (.bl (!PyData.eqv d e)) H
section
variable {X : Cx} {F : Fr} {n : Nat}
theorem u150 (hr : Room n X.A) : X.A.units + 150 < cLine := by have := hr.un; omega
theorem op_eqA (hr : Room n X.A) : OpR X (compareOp .Eq) (rEqA X.K) := by
  refine op_eq.or ?_
  intro pins s σ H x y v u Q I rx ry h
  obtain ⟨d, e, hd, he, cd, ce, hm, q⟩ := h
  obtain ⟨as, r1⟩ := Dp.reads I d x v hd rx
  obtain ⟨bs, r2⟩ := Dp.reads I e y u he ry
  exact SeqAt.compareEq_reads r1 r2 cd ce (by have := u150 hr; omega) ⟨.bl _, H, I, rfl, q⟩
theorem op_neA (hr : Room n X.A) : OpR X (compareOp .NotEq) (rNeA X.K) := by
  refine op_ne.or ?_
  intro pins s σ H x y v u Q I rx ry h
  obtain ⟨d, e, hd, he, cd, ce, hm, q⟩ := h
  obtain ⟨as, r1⟩ := Dp.reads I d x v hd rx
  obtain ⟨bs, r2⟩ := Dp.reads I e y u he ry
  exact SeqAt.compareNe_reads r1 r2 cd ce (by have := u150 hr; omega) ⟨.bl _, H, I, rfl, q⟩
theorem dec_of {α β : Type} {f : α → β} [DecidableEq α] [DecidableEq β] (hf : ∀ a b, f a = f b → a = b) (a b : α) : decide (f a = f b) = decide (a = b) := by
  by_cases h : a = b
  · subst h; simp
  · rw [decide_eq_false h, decide_eq_false fun z => h (hf a b z)]
theorem ok_eq : OkOp F (rEqA F.K) eqD := by
  intro G H x y v u k Q ⟨ob, oi, tr, bg⟩ h hx hy q
  rcases eqB_cases h with ⟨a, b, rfl, rfl, h⟩ | ⟨a, b, rfl, rfl, h⟩ | ⟨a, b, rfl, rfl, h⟩ | ⟨⟨h1, h2, h3⟩, h⟩
  · obtain rfl : v = .str a := hx
    obtain rfl : u = .str b := hy
    exact .inl ⟨rfl, by rw [dec_of fun _ _ z => V.str.inj z]; exact q _ _ _ h (.refl bg) rfl⟩
  · obtain rfl : v = .int a := hx
    obtain rfl : u = .int b := hy
    exact .inl ⟨rfl, by rw [dec_of fun _ _ z => V.int.inj z]; exact q _ _ _ h (.refl bg) rfl⟩
  · obtain rfl : v = .bl a := hx
    obtain rfl : u = .bl b := hy
    exact .inl ⟨rfl, by rw [dec_of fun _ _ z => V.bl.inj z]; exact q _ _ _ h (.refl bg) rfl⟩
  · exact .inr ⟨_, _, Dt.dp x v h1 hx, Dt.dp y u h2 hy, h1, h2, h3, q _ _ _ h (.refl bg) rfl⟩
theorem ok_ne : OkOp F (rNeA F.K) neD := by
  intro G H x y v u k Q ⟨ob, oi, tr, bg⟩ h hx hy q
  rcases eqB_cases h with ⟨a, b, rfl, rfl, h⟩ | ⟨a, b, rfl, rfl, h⟩ | ⟨a, b, rfl, rfl, h⟩ | ⟨⟨h1, h2, h3⟩, h⟩
  · obtain rfl : v = .str a := hx
    obtain rfl : u = .str b := hy
    exact .inl ⟨rfl, by rw [dec_of fun _ _ z => V.str.inj z]; exact q _ _ _ h (.refl bg) rfl⟩
  · obtain rfl : v = .int a := hx
    obtain rfl : u = .int b := hy
    exact .inl ⟨rfl, by rw [dec_of fun _ _ z => V.int.inj z]; exact q _ _ _ h (.refl bg) rfl⟩
  · obtain rfl : v = .bl a := hx
    obtain rfl : u = .bl b := hy
    exact .inl ⟨rfl, by rw [dec_of fun _ _ z => V.bl.inj z]; exact q _ _ _ h (.refl bg) rfl⟩
  · exact .inr ⟨_, _, Dt.dp x v h1 hx, Dt.dp y u h2 hy, h1, h2, h3, q _ _ _ h (.refl bg) rfl⟩
end
/-! ### x in y: lists, tuples -/
def inOk (x : D) (ys : List D) : Prop := x.py.canLay0 = true ∧ PyData.canLayAll0 (D.pys ys) = true ∧ x.py.depth ≤ 140
def inB (x y : D) (k : Bool → Prop) : Prop := match y with
  | .lst ys => inOk x ys ∧ k (ys.any fun z => PyData.eqv z.py x.py)
  | .tup ys => inOk x ys ∧ k (ys.any fun z => PyData.eqv z.py x.py)
  | _ => False
def inD : OD := fun x y k => inB x y fun b => k (.bl b)
def notInD : OD := fun x y k => inB x y fun b => k (.bl (!b))
def rInA (K : PySem.W.Frag) (neg : Bool) : R2 := fun x y H Q => ∃ d ds, Dp K H x d ∧ (Dp K H y (.list ds) ∨ Dp K H y (.tuple ds)) ∧ d.canLay0 = true ∧ PyData.canLayAll0 ds = true ∧ d.depth ≤ 140 ∧
  Q (.bl (if neg then !ds.any fun z => PyData.eqv z d else ds.any fun z => PyData.eqv z d)) H
section
variable {X : Cx} {F : Fr} {n : Nat}
theorem op_inA (hr : Room n X.A) : OpR X (compareOp .In) (rInA X.K false) := by
  intro pins s σ H x y v u Q I rx ry h
  obtain ⟨d, ds, hd, he, cd, ce, hm, q⟩ := h
  obtain ⟨as, r1⟩ := Dp.reads I d x v hd rx
  have hu : X.A.units + 1 + min (PyData.depthAll ds) d.depth < cLine := by have := u150 hr; omega
  rcases he with he | he
  · obtain ⟨bs, r2⟩ := Dp.reads I _ y u he ry
    exact SeqAt.in_list_reads r2 r1 ce cd hu ⟨.bl _, H, I, rfl, q⟩
  · obtain ⟨bs, r2⟩ := Dp.reads I _ y u he ry
    exact SeqAt.in_tuple_reads r2 r1 ce cd hu ⟨.bl _, H, I, rfl, q⟩
theorem op_notInA (hr : Room n X.A) : OpR X (compareOp .NotIn) (rInA X.K true) := by
  intro pins s σ H x y v u Q I rx ry h
  obtain ⟨d, ds, hd, he, cd, ce, hm, q⟩ := h
  obtain ⟨as, r1⟩ := Dp.reads I d x v hd rx
  have hu : X.A.units + 1 + min (PyData.depthAll ds) d.depth < cLine := by have := u150 hr; omega
  rcases he with he | he
  · obtain ⟨bs, r2⟩ := Dp.reads I _ y u he ry
    exact SeqAt.notIn_list_reads r2 r1 ce cd hu ⟨.bl _, H, I, rfl, q⟩
  · obtain ⟨bs, r2⟩ := Dp.reads I _ y u he ry
    exact SeqAt.notIn_tuple_reads r2 r1 ce cd hu ⟨.bl _, H, I, rfl, q⟩
theorem any_pys (f : PyData → Bool) (ys : List D) : (D.pys ys).any f = ys.any fun z => f z.py := by rw [pys_map, List.any_map]; rfl
theorem ok_in : OkOp F (rInA F.K false) inD := by
  intro G H x y v u k Q ⟨ob, oi, tr, bg⟩ h hx hy q
  cases y with
  | lst ys =>
    obtain ⟨⟨h1, h2, h3⟩, h⟩ := h
    have e := Dt.dp (.lst ys) u (by simpa only [D.py, PyData.canLay0] using h2) hy
    refine ⟨_, _, Dt.dp x v h1 hx, .inl e, h1, h2, h3, ?_⟩
    rw [any_pys]
    exact q _ _ _ h (.refl bg) rfl
  | tup ys =>
    obtain ⟨⟨h1, h2, h3⟩, h⟩ := h
    have e := Dt.dp (.tup ys) u (by simpa only [D.py, PyData.canLay0] using h2) hy
    refine ⟨_, _, Dt.dp x v h1 hx, .inr e, h1, h2, h3, ?_⟩
    rw [any_pys]
    exact q _ _ _ h (.refl bg) rfl
  | _ => exact (show False from h).elim
theorem ok_notIn : OkOp F (rInA F.K true) notInD := by
  intro G H x y v u k Q ⟨ob, oi, tr, bg⟩ h hx hy q
  cases y with
  | lst ys =>
    obtain ⟨⟨h1, h2, h3⟩, h⟩ := h
    have e := Dt.dp (.lst ys) u (by simpa only [D.py, PyData.canLay0] using h2) hy
    refine ⟨_, _, Dt.dp x v h1 hx, .inl e, h1, h2, h3, ?_⟩
    rw [any_pys]
    exact q _ _ _ h (.refl bg) rfl
  | tup ys =>
    obtain ⟨⟨h1, h2, h3⟩, h⟩ := h
    have e := Dt.dp (.tup ys) u (by simpa only [D.py, PyData.canLay0] using h2) hy
    refine ⟨_, _, Dt.dp x v h1 hx, .inr e, h1, h2, h3, ?_⟩
    rw [any_pys]
    exact q _ _ _ h (.refl bg) rfl
  | _ => exact (show False from h).elim
end

theorem of_tt {A B : Prop} (h : if true = true then A else B) : A := (if_pos (c := true = true) rfl).mp h
theorem of_ff {A B : Prop} (h : if false = true then A else B) : B := (if_neg Bool.false_ne_true).mp h
/-! ### truth; and, or, not; a if t else b -/
def truD : D → (Bool → Prop) → Prop
  | .non, k => k false
  | .bl b, k => k b
  | .int i, k => k (i != 0)
  | .str x, k => x.length ≤ sizeLine ∧ k ((x.length : Int) != 0)
  | .lst ds, k => k (!ds.isEmpty)
  | .tup ds, k => k (!ds.isEmpty)
  | _, _ => False
theorem truD_ok {K : PySem.W.Frag} {G : Gh} {H : Hp} {d : D} {v : V} {k : Bool → Prop} (h : truD d k) (hd : Dt K G H d v) : ∃ b, TruV K v H b ∧ k b := by
  cases d with
  | non =>
    obtain rfl : v = .non := hd
    exact ⟨false, rfl, h⟩
  | bl b =>
    obtain rfl : v = .bl b := hd
    exact ⟨b, rfl, h⟩
  | int i =>
    obtain rfl : v = .int i := hd
    exact ⟨_, rfl, h⟩
  | str x =>
    obtain rfl : v = .str x := hd
    exact ⟨_, ⟨h.1, rfl⟩, h.2⟩
  | lst ds =>
    obtain ⟨a, xs, rfl, _, ha, hl⟩ := hd
    refine ⟨_, .inl ⟨xs, SqL.of ha, rfl⟩, ?_⟩
    cases ds <;> cases xs <;> first | exact h | (have := hl.len; simp at this)
  | tup ds =>
    obtain ⟨a, xs, rfl, ha, hl⟩ := hd
    refine ⟨_, .inr (.inl ⟨xs, ha, rfl⟩), ?_⟩
    cases ds <;> cases xs <;> first | exact h | (have := hl.len; simp at this)
  | _ => exact (show False from h).elim
def andT (ta tb : TD) : TD := fun ρ k => ta ρ fun x => truD x fun b => if b = true then tb ρ k else k x
def orT (ta tb : TD) : TD := fun ρ k => ta ρ fun x => truD x fun b => if b = true then k x else tb ρ k
def notT (ta : TD) : TD := fun ρ k => ta ρ fun x => truD x fun b => k (.bl (!b))
def ifT (t : TBD) (ta tb : TD) : TD := fun ρ k => t ρ fun b => if b = true then ta ρ k else tb ρ k
def andB (t u : TBD) : TBD := fun ρ k => t ρ fun b => if b = true then u ρ k else k false
def orB (t u : TBD) : TBD := fun ρ k => t ρ fun b => if b = true then k true else u ρ k
def notB (t : TBD) : TBD := fun ρ k => t ρ fun b => k (!b)
def truT (ta : TD) : TBD := fun ρ k => ta ρ fun x => truD x k
theorem pw_imp {X : Cx} {e : Expr} {t t' : TT} (h : PW X e t) (i : ∀ σ H Q, t' σ H Q → t σ H Q) : PW X e t' := ⟨fun wh pins s σ H Q I w => h.run wh pins s σ H Q I (i _ _ _ w)⟩
section
variable {X : Cx} {F : Fr} {a b c : Expr} {rest : List Expr} {ta tb : TD} {tA tB : TBD} {pos : Pos}
theorem d_one {op : BoolOp} (h : PE X a (lift F ta)) : PE X (.BoolOp op [a] pos) (lift F ta) := pe_one h
theorem d_and (ha : PE X a (lift F ta)) (hb : PE X (.BoolOp .And (b :: rest) pos) (lift F tb)) (hK : X.K = F.K := by rfl) : PE X (.BoolOp .And (a :: b :: rest) pos) (lift F (andT ta tb)) := by
  refine pe_imp (pe_andT ha hb) fun σ H Q ⟨G, ρ, k, r, h, q⟩ => ⟨G, ρ, _, r, h, fun d v H1 h1 e1 d1 => ?_⟩
  obtain ⟨c, hc, h1⟩ := truD_ok h1 d1
  refine ⟨c, hK ▸ hc, ?_⟩
  cases c with
  | true => exact iteT ⟨G, ρ, k, r.step e1, of_tt h1, fun d v H2 h2 e2 d2 => q d v H2 h2 (e1.trans e2) d2⟩
  | false => exact iteF (q d v H1 (of_ff h1) e1 d1)
theorem d_or (ha : PE X a (lift F ta)) (hb : PE X (.BoolOp .Or (b :: rest) pos) (lift F tb)) (hK : X.K = F.K := by rfl) : PE X (.BoolOp .Or (a :: b :: rest) pos) (lift F (orT ta tb)) := by
  refine pe_imp (pe_orT ha hb) fun σ H Q ⟨G, ρ, k, r, h, q⟩ => ⟨G, ρ, _, r, h, fun d v H1 h1 e1 d1 => ?_⟩
  obtain ⟨c, hc, h1⟩ := truD_ok h1 d1
  refine ⟨c, hK ▸ hc, ?_⟩
  cases c with
  | false => exact iteF ⟨G, ρ, k, r.step e1, of_ff h1, fun d v H2 h2 e2 d2 => q d v H2 h2 (e1.trans e2) d2⟩
  | true => exact iteT (q d v H1 (of_tt h1) e1 d1)
theorem d_not (ha : PE X a (lift F ta)) (hK : X.K = F.K := by rfl) : PE X (.UnaryOp .Not a pos) (lift F (notT ta)) := by
  refine pe_imp (pe_notT ha) fun σ H Q ⟨G, ρ, k, r, h, q⟩ => ⟨G, ρ, _, r, h, fun d v H1 h1 e1 d1 => ?_⟩
  obtain ⟨c, hc, h1⟩ := truD_ok h1 d1
  exact ⟨c, hK ▸ hc, q _ _ _ h1 e1 rfl⟩
theorem d_if (hc : PT X c (liftT F tA)) (ha : PE X a (lift F ta)) (hb : PE X b (lift F tb)) : PE X (.IfExp c a b pos) (lift F (ifT tA ta tb)) := by
  refine pe_imp (pe_ifExp hc ha hb) fun σ H Q ⟨G, ρ, k, r, h, q⟩ => ⟨G, ρ, _, r, h, fun d H1 h1 e1 => ?_⟩
  cases d with
  | true => exact iteT ⟨G, ρ, k, r.step e1, of_tt h1, fun d v H2 h2 e2 d2 => q d v H2 h2 (e1.trans e2) d2⟩
  | false => exact iteF ⟨G, ρ, k, r.step e1, of_ff h1, fun d v H2 h2 e2 d2 => q d v H2 h2 (e1.trans e2) d2⟩
theorem t_tru (ha : PE X a (lift F ta)) (he : ∀ whole, isTrue a X.env whole = (do let v ← whole; standAt a.pos; holding [v] (truthy v)) := by intro _; rfl) (hK : X.K = F.K := by rfl) : PT X a (liftT F (truT ta)) := by
  refine pt_imp (pt_truth ha he) fun σ H Q ⟨G, ρ, k, r, h, q⟩ => ⟨G, ρ, _, r, h, fun d v H1 h1 e1 d1 => ?_⟩
  obtain ⟨c, hc, h1⟩ := truD_ok h1 d1
  exact ⟨c, hK ▸ hc, q c H1 h1 e1⟩
theorem w_and1 (ha : PT X a (liftT F tA)) : PW X (.BoolOp .And [a] pos) (liftT F tA) := pw_and1 ha
theorem w_or1 (ha : PT X a (liftT F tA)) : PW X (.BoolOp .Or [a] pos) (liftT F tA) := pw_or1 ha
theorem w_and (ha : PT X a (liftT F tA)) (hb : PW X (.BoolOp .And (b :: rest) pos) (liftT F tB)) : PW X (.BoolOp .And (a :: b :: rest) pos) (liftT F (andB tA tB)) := by
  refine pw_imp (pw_and ha hb) fun σ H Q ⟨G, ρ, k, r, h, q⟩ => ⟨G, ρ, _, r, h, fun d H1 h1 e1 => ?_⟩
  cases d with
  | true => exact iteT ⟨G, ρ, k, r.step e1, of_tt h1, fun d H2 h2 e2 => q d H2 h2 (e1.trans e2)⟩
  | false => exact iteF (q _ H1 (of_ff h1) e1)
theorem w_or (ha : PT X a (liftT F tA)) (hb : PW X (.BoolOp .Or (b :: rest) pos) (liftT F tB)) : PW X (.BoolOp .Or (a :: b :: rest) pos) (liftT F (orB tA tB)) := by
  refine pw_imp (pw_or ha hb) fun σ H Q ⟨G, ρ, k, r, h, q⟩ => ⟨G, ρ, _, r, h, fun d H1 h1 e1 => ?_⟩
  cases d with
  | false => exact iteF ⟨G, ρ, k, r.step e1, of_ff h1, fun d H2 h2 e2 => q d H2 h2 (e1.trans e2)⟩
  | true => exact iteT (q _ H1 (of_tt h1) e1)
theorem t_not (ha : PT X a (liftT F tA)) : PT X (.UnaryOp .Not a pos) (liftT F (notB tA)) :=
  pt_imp (pt_not ha) fun σ H Q ⟨G, ρ, k, r, h, q⟩ => ⟨G, ρ, _, r, h, fun d H1 h1 e1 => q _ H1 h1 e1⟩
end
end DL

set_option Elab.async false
set_option linter.all false
set_option maxRecDepth 100000
set_option maxHeartbeats 1000000
namespace DL
open PySem L2

/-! ### subscripts -/
section
variable {K : PySem.W.Frag} {G : Gh} {H : Hp}
theorem DtL.get : ∀ {ds : List D} {vs : List V} {i : Nat} {d : D}, DtL K G H ds vs → ds[i]? = some d → ∃ v, vs[i]? = some v ∧ Dt K G H d v
  | [], _, i, d, _, e => by simp at e
  | a :: ds, vs, 0, d, h, e => by
    obtain ⟨x, r, rfl, h1, h2⟩ := h
    simp at e; subst e
    exact ⟨x, rfl, h1⟩
  | a :: ds, vs, i + 1, d, h, e => by
    obtain ⟨x, r, rfl, h1, h2⟩ := h
    obtain ⟨v, e1, e2⟩ := DtL.get (i := i) h2 (by simpa using e)
    exact ⟨v, by simpa using e1, e2⟩
theorem DtL.get' {ds : List D} {vs : List V} {i : Nat} {v : V} (h : DtL K G H ds vs) (e : vs[i]? = some v) : ∃ d, ds[i]? = some d ∧ Dt K G H d v := by
  have hi : i < ds.length := by rw [h.len]; exact (List.getElem?_eq_some_iff.mp e).1
  obtain ⟨v', e1, e2⟩ := h.get (List.getElem?_eq_getElem hi)
  rw [e] at e1
  obtain rfl := Option.some.inj e1
  exact ⟨_, List.getElem?_eq_getElem hi, e2⟩
theorem DtL.atI {ds : List D} {vs : List V} {i : Int} {d : D} (h : DtL K G H ds vs) (e : L2.atI ds i = some d) : ∃ v, L2.atI vs i = some v ∧ Dt K G H d v := by
  unfold L2.atI at e ⊢
  rw [← h.len]
  cases q : ixN ds.length i with
  | none => rw [q] at e; cases e
  | some j =>
    rw [q] at e
    exact h.get e
theorem DtL.drop : ∀ {ds : List D} {vs : List V} (n : Nat), DtL K G H ds vs → DtL K G H (ds.drop n) (vs.drop n)
  | ds, vs, 0, h => h
  | [], vs, n + 1, h => by
    obtain rfl : vs = [] := h
    exact rfl
  | d :: ds, vs, n + 1, h => by
    obtain ⟨x, r, rfl, h1, h2⟩ := h
    exact DtL.drop n h2
theorem DtL.take : ∀ {ds : List D} {vs : List V} (n : Nat), DtL K G H ds vs → DtL K G H (ds.take n) (vs.take n)
  | ds, vs, 0, h => rfl
  | [], vs, n + 1, h => by
    obtain rfl : vs = [] := h
    exact rfl
  | d :: ds, vs, n + 1, h => by
    obtain ⟨x, r, rfl, h1, h2⟩ := h
    exact ⟨x, _, rfl, h1, DtL.take n h2⟩
theorem DtL.rev {ds : List D} {vs : List V} (h : DtL K G H ds vs) : DtL K G H ds.reverse vs.reverse := by
  induction ds generalizing vs with
  | nil =>
    obtain rfl : vs = [] := h
    exact rfl
  | cons d ds ih =>
    obtain ⟨x, r, rfl, h1, h2⟩ := h
    rw [List.reverse_cons, List.reverse_cons]
    exact (ih h2).app ⟨x, [], rfl, h1, rfl⟩
end
def optK {α : Type} (o : Option α) (k : α → Prop) : Prop := ∃ a, o = some a ∧ k a
def ixD : OD
  | .lst ds, .int i, k => optK (L2.atI ds i) k
  | .tup ds, .int i, k => optK (L2.atI ds i) k
  | .str z, .int i, k => z.length ≤ sizeLine ∧ optK (L2.atI z.cps.toList i) fun c => k (.str ⟨#[c]⟩)
  | _, _, _ => False
section
variable {X : Cx} {F : Fr} {a b : Expr} {ta tb : TD} {pos : Pos}
theorem ok_ix (hK : X.K = F.K) : OkOp F (rIx X.K) ixD := by
  intro G H x y v u k Q ⟨ob, oi, tr, bg⟩ h hx hy q
  rw [hK]
  cases x <;> try exact (show False from h).elim
  · cases y <;> try exact (show False from h).elim
    obtain ⟨e, h⟩ := h
    obtain rfl := hx
    obtain rfl := hy
    obtain ⟨c, hc, h⟩ := h
    exact .inr (.inr ⟨_, _, c, rfl, rfl, e, hc, q _ _ _ h (.refl bg) rfl⟩)
  · cases y <;> try exact (show False from h).elim
    obtain ⟨p, xs, rfl, n, hp, hl⟩ := hx
    obtain rfl := hy
    obtain ⟨d, hd, h⟩ := h
    obtain ⟨w, e1, e2⟩ := hl.atI hd
    exact .inl ⟨p, xs, _, w, rfl, rfl, SqL.of hp, e1, q _ _ _ h (.refl bg) e2⟩
  · cases y <;> try exact (show False from h).elim
    obtain ⟨p, xs, rfl, hp, hl⟩ := hx
    obtain rfl := hy
    obtain ⟨d, hd, h⟩ := h
    obtain ⟨w, e1, e2⟩ := hl.atI hd
    exact .inr (.inl ⟨p, xs, _, w, rfl, rfl, hp, e1, q _ _ _ h (.refl bg) e2⟩)
theorem d_ix (ha : PE X a (lift F ta)) (hb : PE X b (lift F tb)) (hs : PlainIx b := by intro _ _; rfl) (hK : X.K = F.K := by rfl) : PE X (.Subscript a b pos) (lift F (binT ixD ta tb)) :=
  pe_imp (pe_ix ix_seq ha hb hs) (opT (ok_ix hK))
end
/-! ### slices -/
abbrev TO2 := List Sl → (Option Int → Prop) → Prop
def liftO (F : Fr) (T : TO2) : TO := fun σ H Q => ∃ G ρ k, Rel F G H σ ρ ∧ T ρ k ∧ ∀ o H', k o → Ext G H H' → Q o H'
def noneO : TO2 := fun _ k => k none
def someO (t : TD) : TO2 := fun ρ k => t ρ fun d => match d with
  | .int i => k (some i)
  | _ => False
def cutL {α : Type} (xs : List α) (lo hi : Option Int) : List α := (xs.drop (HT.sIx xs.length 0 lo)).take (HT.sIx xs.length xs.length hi - HT.sIx xs.length 0 lo)
def slT (o : D → Option Int → Option Int → (D → Prop) → Prop) (t : TD) (l u : TO2) : TD := fun ρ k => t ρ fun x => l ρ fun lo => u ρ fun hi => o x lo hi k
def slD : D → Option Int → Option Int → (D → Prop) → Prop
  | .lst ds, lo, hi, k => k (.lst (cutL ds lo hi))
  | .tup ds, lo, hi, k => k (.tup (cutL ds lo hi))
  | .str z, lo, hi, k => z.length ≤ sizeLine ∧ k (.str (cutS z lo hi))
  | _, _, _, _ => False
theorem cutL_all {α : Type} {xs : List α} {lo hi : Option Int} (h : HT.sIx xs.length 0 lo = 0 ∧ HT.sIx xs.length xs.length hi = xs.length) : cutL xs lo hi = xs := by
  unfold cutL
  rw [h.1, h.2]
  simp
section
variable {X : Cx} {F : Fr} {e : Expr} {te : TD} {lo hi : Option Expr} {tl th : TO2} {p2 pos : Pos}
theorem o_none : PO X none (liftO F noneO) := ⟨fun pins s σ H Q I ⟨G, ρ, k, r, h, q⟩ => po_none.run pins s σ H Q I (q none H h (.refl r.bag))⟩
theorem o_some {x : Expr} {tx : TD} (h : PE X x (lift F tx)) : PO X (some x) (liftO F (someO tx)) := by
  refine ⟨fun pins s σ H Q I ⟨G, ρ, k, r, w, q⟩ => (po_some h).run pins s σ H Q I ⟨G, ρ, _, r, w, fun d v H1 h1 e1 d1 => ?_⟩⟩
  cases d with
  | int i => exact ⟨i, d1, q _ H1 h1 e1⟩
  | _ => exact (show False from h1).elim
theorem DtL.cut {K : PySem.W.Frag} {G : Gh} {H : Hp} {ds : List D} {vs : List V} (h : DtL K G H ds vs) : DtL K G H (cutL ds lo' hi') (cutV vs lo' hi') := by
  unfold cutL cutV
  rw [h.len]
  exact (h.drop _).take _
theorem d_slice (he : PE X e (lift F te)) (hl : PO X lo (liftO F tl)) (hu : PO X hi (liftO F th)) (hK : X.K = F.K := by rfl) : PE X (.Subscript e (.Slice lo hi none p2) pos) (lift F (slT slD te tl th)) := by
  refine pe_imp (pe_slice (sl_list.or (sl_tupA.or sl_str)) he hl hu) fun σ H Q ⟨G, ρ, k, r, h, q⟩ => ⟨G, ρ, _, r, h, fun d v H1 h1 e1 d1 => ?_⟩
  refine ⟨G, ρ, _, r.step e1, h1, fun lo' H2 h2 e2 => ?_⟩
  refine ⟨G, ρ, _, (r.step e1).step e2, h2, fun hi' H3 h3 e3 => ?_⟩
  have r2 := r.step e1
  have d3 := (r2.evo (e2.trans e3)).dt d v d1
  have r3 := r2.step (e2.trans e3)
  have e13 := e1.trans (e2.trans e3)
  cases d <;> try exact (show False from h3).elim
  · obtain rfl := d3
    exact .inr (.inr ⟨_, rfl, h3.1, q _ _ _ h3.2 e13 rfl⟩)
  · obtain ⟨a, xs, rfl, n, ha, hl⟩ := d3
    refine .inl ⟨a, xs, rfl, SqL.of ha, fun p hp => ?_⟩
    have e4 : Ext G H3 (upd H3 p (.lst (cutV xs lo' hi'))) := Ext.new r3.bag hp
    exact q _ _ _ h3 (e13.trans e4) ⟨p, _, rfl, r3.free hp, upd_same, (r3.evo e4).dts _ _ hl.cut⟩
  · obtain ⟨a, xs, rfl, ha, hl⟩ := d3
    refine .inr (.inl ⟨a, xs, rfl, hK ▸ ha, fun w => ?_, fun _ p hp => ?_⟩)
    · rw [← hl.len] at w
      refine q _ _ _ h3 e13 ⟨a, xs, rfl, ha, ?_⟩
      rw [cutL_all w]; exact hl
    · have e4 : Ext G H3 (upd H3 p (.tup (cutV xs lo' hi'))) := Ext.new r3.bag hp
      exact q _ _ _ h3 (e13.trans e4) ⟨p, _, rfl, .inl (.inl upd_same), (r3.evo e4).dts _ _ hl.cut⟩
def slF (t : TD) (l u : TO2) : TLD := fun ρ k => t ρ fun x => l ρ fun lo => u ρ fun hi => match x with
  | .lst ds => k (cutL ds lo hi)
  | _ => False
/-- a slice of a list, as a new list -/
theorem f_slice (he : PE X e (lift F te)) (hl : PO X lo (liftO F tl)) (hu : PO X hi (liftO F th)) (hK : X.K = F.K := by rfl) : PE X (.Subscript e (.Slice lo hi none p2) pos) (liftF F (slF te tl th)) := by
  refine pe_imp (pe_slice sl_list he hl hu) fun σ H Q ⟨G, ρ, k, r, h, q⟩ => ⟨G, ρ, _, r, h, fun d v H1 h1 e1 d1 => ?_⟩
  refine ⟨G, ρ, _, r.step e1, h1, fun lo' H2 h2 e2 => ?_⟩
  refine ⟨G, ρ, _, (r.step e1).step e2, h2, fun hi' H3 h3 e3 => ?_⟩
  have r2 := r.step e1
  have d3 := (r2.evo (e2.trans e3)).dt d v d1
  have r3 := r2.step (e2.trans e3)
  have e13 := e1.trans (e2.trans e3)
  cases d <;> try exact (show False from h3).elim
  obtain ⟨a, xs, rfl, n, ha, hl⟩ := d3
  refine ⟨a, xs, rfl, SqL.of ha, fun p hp => ?_⟩
  have e4 : Ext G H3 (upd H3 p (.lst (cutV xs lo' hi'))) := Ext.new r3.bag hp
  exact q _ p _ _ h3 (e13.trans e4) (e13.free r.bag hp) upd_same ((r3.evoAdd e4 hp).dts _ _ hl.cut)
def revF (t : TD) : TLD := fun ρ k => t ρ fun x => match x with
  | .lst ds => k ds.reverse
  | _ => False
/-- xs[::-1] -/
theorem f_rev {k1 : Nat} {p1 p3 p4 : Pos} (he : PE X e (lift F te)) (hK : X.K = F.K := by rfl) : PE X (.Subscript e (.Slice none none (some (.UnaryOp .USub (.Constant (.int 1) k1 p1) p3)) p4) pos) (liftF F (revF te)) := by
  refine pe_imp (pe_revL he) fun σ H Q ⟨G, ρ, k, r, h, q⟩ => ⟨G, ρ, _, r, h, fun d v H1 h1 e1 d1 => ?_⟩
  cases d <;> try exact (show False from h1).elim
  obtain ⟨a, xs, rfl, n, ha, hl⟩ := d1
  refine ⟨a, xs, rfl, SqL.of ha, fun p hp => ?_⟩
  have r3 := r.step e1
  have e4 : Ext G H1 (upd H1 p (.lst xs.reverse)) := Ext.new r3.bag hp
  exact q _ p _ _ h1 (e1.trans e4) (e1.free r.bag hp) upd_same ((r3.evoAdd e4 hp).dts _ _ hl.rev)
end

/-! ### builtins by data -/
def OkCall (F : Fr) (r : List V → Hp → VK → Prop) (o : RD) : Prop := ∀ (G : Gh) (H : Hp) (ds : List D) (vs : List V) (k : D → Prop) (Q : VK), GOk G H → o ds k → DtL F.K G H ds vs →
  (∀ d w H', k d → Ext G H H' → Dt F.K G H' d w → Q w H') → r vs H Q
section
variable {X : Cx} {F : Fr} {x : Str} {p pos : Pos} {e : Expr} {es : List Expr} {ta : TLD} {id T : String} {r : List V → Hp → VK → Prop} {o : RD}
theorem callbT (hr : OkCall F r o) : ∀ σ H Q, lift F (callT o ta) σ H Q → tCB r (liftA F ta) σ H Q := by
  intro σ H Q ⟨G, ρ, k, rl, h, q⟩
  refine ⟨G, ρ, _, rl, h, fun ds vs H1 h1 e1 d1 => ?_⟩
  have r1 := rl.step e1
  exact hr G H1 ds vs k Q r1.ok h1 d1 fun d w H2 h2 e2 d2 => q d w H2 h2 (e1.trans e2) d2
theorem d_callB (hc : CallR X (.builtin id) r) (hr : OkCall F r o) (hg : Gl X x) (hm : X.mg x = none) (hv : bootBuiltins x = some (.builtin id)) (ha : PA X (e :: es) (liftA F ta)) (hn : x ≠ "__name__" := by decide) (hdb : (x == ("__debug__" : Str)) = false := by decide)
    (he : starEach (e :: es) X.env = (false, eval e X.env) :: starEach es X.env := by rfl) (hpl : (backTo pos (starEach es X.env)).any (·.1) = false := by rfl) : PE X (.Call (.Name x p) (e :: es) [] pos) (lift F (callT o ta)) :=
  pe_imp (pe_callB hc hg hm hv ha hn hdb he hpl) (callbT hr)
theorem d_callTy (hc : CallR X (.type T) r) (hr : OkCall F r o) (hg : Gl X x) (hm : X.mg x = none) (hv : bootBuiltins x = some (.type T)) (ha : PA X (e :: es) (liftA F ta)) (hn : x ≠ "__name__" := by decide) (hdb : (x == ("__debug__" : Str)) = false := by decide)
    (he : starEach (e :: es) X.env = (false, eval e X.env) :: starEach es X.env := by rfl) (hpl : (backTo pos (starEach es X.env)).any (·.1) = false := by rfl) : PE X (.Call (.Name x p) (e :: es) [] pos) (lift F (callT o ta)) :=
  pe_imp (pe_callTy hc hg hm hv ha hn hdb he hpl) (callbT hr)
end
theorem dl1 {K : PySem.W.Frag} {G : Gh} {H : Hp} {d : D} {vs : List V} (h : DtL K G H [d] vs) : ∃ v, vs = [v] ∧ Dt K G H d v := by
  obtain ⟨x, r, rfl, h1, h2⟩ := h
  obtain rfl : r = [] := h2
  exact ⟨x, rfl, h1⟩
theorem dl2 {K : PySem.W.Frag} {G : Gh} {H : Hp} {d d' : D} {vs : List V} (h : DtL K G H [d, d'] vs) : ∃ v v', vs = [v, v'] ∧ Dt K G H d v ∧ Dt K G H d' v' := by
  obtain ⟨x, r, rfl, h1, h2⟩ := h
  obtain ⟨v, rfl, h3⟩ := dl1 h2
  exact ⟨x, v, rfl, h1, h3⟩
def lenR : RD
  | [.str x], k => x.length ≤ sizeLine ∧ k (.int x.length)
  | [.lst ds], k => k (.int ds.length)
  | [.tup ds], k => k (.int ds.length)
  | _, _ => False
def intR : RD
  | [.int i], k => k (.int i)
  | [.bl b], k => k (.int (if b then 1 else 0))
  | _, _ => False
def absR : RD
  | [.int i], k => k (.int (if i < 0 then -i else i))
  | _, _ => False
def minR : RD
  | [.int i, .int j], k => k (.int (if j < i then j else i))
  | _, _ => False
def maxR : RD
  | [.int i, .int j], k => k (.int (if j > i then j else i))
  | _, _ => False
def tupR : RD
  | [.lst ds], k => k (.tup ds)
  | [.tup ds], k => k (.tup ds)
  | _, _ => False
def allR : RD := fun ds k => ∃ bs : List Bool, ds = [.lst (bs.map .bl)] ∧ k (.bl (bs.all _root_.id))
def anyR : RD := fun ds k => ∃ bs : List Bool, ds = [.lst (bs.map .bl)] ∧ k (.bl (bs.any _root_.id))
def sumR : RD := fun ds k => ∃ ns : List Int, ds = [.lst (ns.map .int)] ∧ k (.int ns.sum)
section
variable {X : Cx} {F : Fr}
theorem DtL.bls {K : PySem.W.Frag} {G : Gh} {H : Hp} : ∀ {bs : List Bool} {vs : List V}, DtL K G H (bs.map .bl) vs → vs = bs.map .bl
  | [], _, h => h
  | b :: bs, _, h => by
    obtain ⟨x, r, rfl, h1, h2⟩ := h
    obtain rfl := h1
    rw [DtL.bls h2]; rfl
theorem DtL.ints {K : PySem.W.Frag} {G : Gh} {H : Hp} : ∀ {bs : List Int} {vs : List V}, DtL K G H (bs.map .int) vs → vs = bs.map .int
  | [], _, h => h
  | b :: bs, _, h => by
    obtain ⟨x, r, rfl, h1, h2⟩ := h
    obtain rfl := h1
    rw [DtL.ints h2]; rfl
theorem DtL.strs {K : PySem.W.Frag} {G : Gh} {H : Hp} : ∀ {bs : List Str} {vs : List V}, DtL K G H (bs.map .str) vs → vs = bs.map .str
  | [], _, h => h
  | b :: bs, _, h => by
    obtain ⟨x, r, rfl, h1, h2⟩ := h
    obtain rfl := h1
    rw [DtL.strs h2]; rfl
theorem ok_len (hK : X.K = F.K) : OkCall F (fun xs H Q => ∃ x n, xs = [x] ∧ LenV X.K x H n ∧ Q (.int n) H) lenR := by
  intro G H ds vs k Q ⟨ob, oi, tr, bg⟩ h hd q
  unfold lenR at h
  split at h
  · obtain ⟨v, rfl, hv⟩ := dl1 hd
    obtain rfl := hv
    exact ⟨_, _, rfl, ⟨h.1, rfl⟩, q _ _ _ h.2 (.refl bg) rfl⟩
  · obtain ⟨v, rfl, a, xs, rfl, n, ha, hl⟩ := dl1 hd
    exact ⟨_, _, rfl, .inl ⟨xs, SqL.of ha, hl.len⟩, q _ _ _ h (.refl bg) rfl⟩
  · obtain ⟨v, rfl, a, xs, rfl, ha, hl⟩ := dl1 hd
    exact ⟨_, _, rfl, .inr ⟨xs, hK ▸ ha, hl.len⟩, q _ _ _ h (.refl bg) rfl⟩
  · exact h.elim
theorem ok_int : OkCall F (fun xs H Q => (∃ i, xs = [.int i] ∧ Q (.int i) H) ∨ ∃ k, xs = [.bl k] ∧ Q (.int (if k then 1 else 0)) H) intR := by
  intro G H ds vs k Q ⟨ob, oi, tr, bg⟩ h hd q
  unfold intR at h
  split at h
  · obtain ⟨v, rfl, hv⟩ := dl1 hd
    obtain rfl := hv
    exact .inl ⟨_, rfl, q _ _ _ h (.refl bg) rfl⟩
  · obtain ⟨v, rfl, hv⟩ := dl1 hd
    obtain rfl := hv
    exact .inr ⟨_, rfl, q _ _ _ h (.refl bg) rfl⟩
  · exact h.elim
theorem ok_abs : OkCall F (fun xs H Q => ∃ i, xs = [.int i] ∧ Q (.int (if i < 0 then -i else i)) H) absR := by
  intro G H ds vs k Q ⟨ob, oi, tr, bg⟩ h hd q
  unfold absR at h
  split at h
  · obtain ⟨v, rfl, hv⟩ := dl1 hd
    obtain rfl := hv
    exact ⟨_, rfl, q _ _ _ h (.refl bg) rfl⟩
  · exact h.elim
theorem ok_min : OkCall F (fun xs H Q => ∃ i j, xs = [.int i, .int j] ∧ Q (.int (if j < i then j else i)) H) minR := by
  intro G H ds vs k Q ⟨ob, oi, tr, bg⟩ h hd q
  unfold minR at h
  split at h
  · obtain ⟨v, u, rfl, hv, hu⟩ := dl2 hd
    obtain rfl := hv
    obtain rfl := hu
    exact ⟨_, _, rfl, q _ _ _ h (.refl bg) rfl⟩
  · exact h.elim
theorem ok_max : OkCall F (fun xs H Q => ∃ i j, xs = [.int i, .int j] ∧ Q (.int (if j > i then j else i)) H) maxR := by
  intro G H ds vs k Q ⟨ob, oi, tr, bg⟩ h hd q
  unfold maxR at h
  split at h
  · obtain ⟨v, u, rfl, hv, hu⟩ := dl2 hd
    obtain rfl := hv
    obtain rfl := hu
    exact ⟨_, _, rfl, q _ _ _ h (.refl bg) rfl⟩
  · exact h.elim
theorem ok_tup (hK : X.K = F.K) : OkCall F (fun xs H Q => ∃ p ys, xs = [.ref p] ∧ ((SqL X.K H p ys ∧ ∀ l, H l = none → Q (.ref l) (upd H l (.tup ys))) ∨ (SqT X.K H p ys ∧ Q (.ref p) H))) tupR := by
  intro G H ds vs k Q ⟨ob, oi, tr, bg⟩ h hd q
  unfold tupR at h
  split at h
  · obtain ⟨v, rfl, a, xs, rfl, n, ha, hl⟩ := dl1 hd
    refine ⟨_, _, rfl, .inl ⟨SqL.of ha, fun l hl' => ?_⟩⟩
    have e : Ext G H (upd H l (.tup xs)) := Ext.new bg hl'
    have ev : Evo G G H (upd H l (.tup xs)) := ⟨fun a o n h => e.lk (fun z => n (by rw [z]; exact ob)) h, tr, fun _ n _ => n, rfl, rfl⟩
    exact q _ _ _ h e ⟨l, xs, rfl, .inl (.inl upd_same), ev.dts _ _ hl⟩
  · obtain ⟨v, rfl, a, xs, rfl, ha, hl⟩ := dl1 hd
    exact ⟨_, _, rfl, .inr ⟨hK ▸ ha, q _ _ _ h (.refl bg) ⟨a, xs, rfl, ha, hl⟩⟩⟩
  · exact h.elim
theorem ok_all (hK : X.K = F.K) : OkCall F (rAll X.K) allR := by
  intro G H ds vs k Q ⟨ob, oi, tr, bg⟩ h hd q
  obtain ⟨bs, rfl, h⟩ := h
  obtain ⟨v, rfl, a, xs, rfl, n, ha, hl⟩ := dl1 hd
  exact ⟨a, bs, rfl, by rw [← hl.bls]; exact SqL.of ha, q _ _ _ h (.refl bg) rfl⟩
theorem ok_any (hK : X.K = F.K) : OkCall F (rAny X.K) anyR := by
  intro G H ds vs k Q ⟨ob, oi, tr, bg⟩ h hd q
  obtain ⟨bs, rfl, h⟩ := h
  obtain ⟨v, rfl, a, xs, rfl, n, ha, hl⟩ := dl1 hd
  exact ⟨a, bs, rfl, by rw [← hl.bls]; exact SqL.of ha, q _ _ _ h (.refl bg) rfl⟩
theorem ok_sum (hK : X.K = F.K) : OkCall F (rSum X.K) sumR := by
  intro G H ds vs k Q ⟨ob, oi, tr, bg⟩ h hd q
  obtain ⟨bs, rfl, h⟩ := h
  obtain ⟨v, rfl, a, xs, rfl, n, ha, hl⟩ := dl1 hd
  exact ⟨a, bs, rfl, by rw [← hl.ints]; exact SqL.of ha, q _ _ _ h (.refl bg) rfl⟩
end
section
variable {X : Cx} {F : Fr} {p pos : Pos} {e : Expr} {ta : TLD}
theorem d_len (hg : Gl X "len") (hm : X.mg "len" = none) (ha : PA X [e] (liftA F ta)) (he : starEach [e] X.env = (false, eval e X.env) :: starEach [] X.env := by rfl) (hK : X.K = F.K := by rfl) :
    PE X (.Call (.Name "len" p) [e] [] pos) (lift F (callT lenR ta)) := d_callB call_len (ok_len hK) hg hm PySem.boot_len ha (by decide) (by decide) he
theorem d_toint (hg : Gl X "int") (hm : X.mg "int" = none) (ha : PA X [e] (liftA F ta)) (he : starEach [e] X.env = (false, eval e X.env) :: starEach [] X.env := by rfl) :
    PE X (.Call (.Name "int" p) [e] [] pos) (lift F (callT intR ta)) := d_callTy call_int1 ok_int hg hm (by decide +kernel) ha (by decide) (by decide) he
theorem d_abs (hg : Gl X "abs") (hm : X.mg "abs" = none) (ha : PA X [e] (liftA F ta)) (he : starEach [e] X.env = (false, eval e X.env) :: starEach [] X.env := by rfl) :
    PE X (.Call (.Name "abs" p) [e] [] pos) (lift F (callT absR ta)) := d_callB call_abs ok_abs hg hm (by decide +kernel) ha (by decide) (by decide) he
theorem d_totup (hg : Gl X "tuple") (hm : X.mg "tuple" = none) (ha : PA X [e] (liftA F ta)) (he : starEach [e] X.env = (false, eval e X.env) :: starEach [] X.env := by rfl) (hK : X.K = F.K := by rfl) :
    PE X (.Call (.Name "tuple" p) [e] [] pos) (lift F (callT tupR ta)) := d_callTy call_tuple_of (ok_tup hK) hg hm (by decide +kernel) ha (by decide) (by decide) he
theorem d_all (hc : X.calm = true) (hg : Gl X "all") (hm : X.mg "all" = none) (ha : PA X [e] (liftA F ta)) (he : starEach [e] X.env = (false, eval e X.env) :: starEach [] X.env := by rfl) (hK : X.K = F.K := by rfl) :
    PE X (.Call (.Name "all" p) [e] [] pos) (lift F (callT allR ta)) := d_callB (cr_all hc) (ok_all hK) hg hm (by decide +kernel) ha (by decide) (by decide) he
theorem d_any (hc : X.calm = true) (hg : Gl X "any") (hm : X.mg "any" = none) (ha : PA X [e] (liftA F ta)) (he : starEach [e] X.env = (false, eval e X.env) :: starEach [] X.env := by rfl) (hK : X.K = F.K := by rfl) :
    PE X (.Call (.Name "any" p) [e] [] pos) (lift F (callT anyR ta)) := d_callB (cr_any hc) (ok_any hK) hg hm (by decide +kernel) ha (by decide) (by decide) he
theorem d_sum (hc : X.calm = true) (hg : Gl X "sum") (hm : X.mg "sum" = none) (ha : PA X [e] (liftA F ta)) (he : starEach [e] X.env = (false, eval e X.env) :: starEach [] X.env := by rfl) (hK : X.K = F.K := by rfl) :
    PE X (.Call (.Name "sum" p) [e] [] pos) (lift F (callT sumR ta)) := d_callB (cr_sum hc) (ok_sum hK) hg hm (by decide +kernel) ha (by decide) (by decide) he
theorem d_min {e2 : Expr} (hc : X.calm = true) (hg : Gl X "min") (hm : X.mg "min" = none) (ha : PA X [e, e2] (liftA F ta)) (he : starEach [e, e2] X.env = (false, eval e X.env) :: starEach [e2] X.env := by rfl) (hpl : (backTo pos (starEach [e2] X.env)).any (·.1) = false := by rfl) :
    PE X (.Call (.Name "min" p) [e, e2] [] pos) (lift F (callT minR ta)) := d_callB (call_min2 hc) ok_min hg hm (by decide +kernel) ha (by decide) (by decide) he hpl
theorem d_max {e2 : Expr} (hc : X.calm = true) (hg : Gl X "max") (hm : X.mg "max" = none) (ha : PA X [e, e2] (liftA F ta)) (he : starEach [e, e2] X.env = (false, eval e X.env) :: starEach [e2] X.env := by rfl) (hpl : (backTo pos (starEach [e2] X.env)).any (·.1) = false := by rfl) :
    PE X (.Call (.Name "max" p) [e, e2] [] pos) (lift F (callT maxR ta)) := d_callB (call_max2 hc) ok_max hg hm (by decide +kernel) ha (by decide) (by decide) he hpl
/-- list(x): a new list -/
def lstR (t : TLD) : TLD := fun ρ k => t ρ fun ds => match ds with
  | [.lst xs] => k xs
  | [.tup xs] => k xs
  | _ => False
theorem f_tolst (hg : Gl X "list") (hm : X.mg "list" = none) (ha : PA X [e] (liftA F ta)) (he : starEach [e] X.env = (false, eval e X.env) :: starEach [] X.env := by rfl) (hK : X.K = F.K := by rfl) :
    PE X (.Call (.Name "list" p) [e] [] pos) (liftF F (lstR ta)) := by
  refine pe_imp (pe_callTy call_list_of hg hm (by decide +kernel) ha (by decide) (by decide) he) fun σ H Q ⟨G, ρ, k, r, h, q⟩ => ⟨G, ρ, _, r, h, fun ds vs H1 h1 e1 d1 => ?_⟩
  have r1 := r.step e1
  have fin : ∀ {xs : List V} {es : List D} (l : Addr), H1 l = none → DtL F.K G H1 es xs → k es → Q (.ref l) (upd H1 l (.lst xs)) := fun {xs es} l hl hd hk =>
    have e4 : Ext G H1 (upd H1 l (.lst xs)) := Ext.new r1.bag hl
    q _ l _ _ hk (e1.trans e4) (e1.free r.bag hl) upd_same ((r1.evoAdd e4 hl).dts _ _ hd)
  split at h1
  · obtain ⟨v, rfl, a, xs, rfl, n, ha, hl⟩ := dl1 d1
    exact ⟨_, _, rfl, .inl (SqL.of ha), fun l hn => fin l hn hl h1⟩
  · obtain ⟨v, rfl, a, xs, rfl, ha, hl⟩ := dl1 d1
    exact ⟨_, _, rfl, .inr (hK ▸ ha), fun l hn => fin l hn hl h1⟩
  · exact h1.elim
end
end DL

set_option Elab.async false
set_option linter.all false
set_option maxRecDepth 100000
set_option maxHeartbeats 1000000
namespace DL
open PySem L2

/-! ### changes of what a def owns -/
section
variable {F : Fr} {G G' : Gh} {H H' : Hp} {σ : St} {ρ : List Sl} {L : List Addr}
theorem Rel.own_ne_bg (r : Rel F G H σ ρ) {p : Addr} (n : ¬ F.G.own p) : p ≠ G.bg := fun z => n (by rw [z, r.bg]; exact r.ob)
/-- with the addresses of all slots -/
abbrev RelL (F : Fr) (G : Gh) (H : Hp) (σ : St) (ρ : List Sl) (L : List Addr) : Prop := Rel F G H σ ρ ∧ Slots F G H ρ σ L ∧ L.Nodup
theorem Rel.adrs (r : Rel F G H σ ρ) : ∃ L, RelL F G H σ ρ L := let ⟨L, h, n⟩ := r.sl; ⟨L, r, h, n⟩
theorem RelL.step (r : RelL F G H σ ρ L) (e : Ext G H H') : RelL F G H' σ ρ L :=
  ⟨r.1.step e, Slots.map (fun s o M _ => SlR.go rfl rfl (r.1.evo e) s o M fun p _ => Ext.stands r.1.bg r.1.ob e p) r.2.1, r.2.2⟩
theorem RelL.grow (r : RelL F G H σ ρ L) (e : Ext G H H') {p : Addr} (hp : H p = none) (hm : Mut (H' p)) : RelL F (G.add p) H' σ ρ L :=
  ⟨r.1.grow e hp hm, Slots.map (fun s o M _ => SlR.go rfl rfl (r.1.evoAdd e hp) s o M fun p _ h1 h2 h3 => let ⟨z, w⟩ := Ext.stands r.1.bg r.1.ob e p h1 h2 h3; ⟨.inl z, w⟩) r.2.1, r.2.2⟩
theorem RelL.grows (r : RelL F G H σ ρ L) (e : Ext G H H') {R : List Addr} (hp : ∀ p ∈ R, H p = none) (hm : ∀ p ∈ R, Mut (H' p)) : RelL F (G.adds R) H' σ ρ L :=
  ⟨r.1.grows e hp hm, Slots.map (fun s o M _ => SlR.go rfl rfl (r.1.evoAdds e hp) s o M fun p _ h1 h2 h3 => let ⟨z, w⟩ := Ext.stands r.1.bg r.1.ob e p h1 h2 h3; ⟨.inl z, w⟩) r.2.1, r.2.2⟩
theorem RelL.give (r : RelL F G H σ ρ L) {i : Nat} {t : Tr} {v : V} {B : List Addr} (h : Ow F.K G H t v B) (hB : B.Nodup) (hn : ∀ p ∈ B, ¬ F.G.own p) (hf : ∀ p ∈ B, p ∉ L) : Rel F G H (σ.set i (some v)) (ρ.set i (.tr t)) := by
  obtain ⟨r, sl, n⟩ := r
  refine ⟨r.bg, r.bi, r.ob, r.oi, r.sub, r.new, r.tr, r.ext, r.pn, ?_⟩
  cases e : ρ[i]? with
  | none =>
    have hi : ρ.length ≤ i := by simpa using e
    rw [List.set_eq_of_length_le hi, List.set_eq_of_length_le (by rw [← sl.len]; exact hi)]
    exact ⟨L, sl, n⟩
  | some s =>
    obtain ⟨u, A, B', C, _, rfl, _, k⟩ := sl.upd e
    obtain ⟨n1, _, _⟩ := nodup_mid n
    exact ⟨_, k F G H (.tr t) (some v) B (fun _ _ _ _ z => z) ⟨hn, v, rfl, h⟩, nodup_in n1 hB fun p hp => ⟨fun z => hf p hp (List.mem_append_left _ z), fun z => hf p hp (List.mem_append_right _ (List.mem_append_right _ z))⟩⟩
theorem RelL.new (r : RelL F G H σ ρ L) {p : Addr} (h : H p = none) : p ∉ L := fun z => (r.2.1.own p z).2.1 h
/-- an owned object, in no slot, is changed -/
theorem RelL.mutate (r : RelL F G H σ ρ L) {p : Addr} {o : HO} (hp : G.own p) (hn : ¬ F.G.own p) (mo : Mut (some o)) (hno : p ∉ L) : RelL F G (upd H p o) σ ρ L := by
  have nb := r.1.own_ne_bg hn
  have ev : Evo G G H (upd H p o) := ⟨fun a u n h => .inl (by rw [upd_ne (fun z => n (by rw [z]; exact hp))]; exact h), r.1.tr, fun _ n _ => n, rfl, rfl⟩
  have sl : Slots F G (upd H p o) ρ σ L := Slots.map (fun s u M k => SlR.go rfl rfl ev s u M fun q hq h1 _ _ => ⟨h1, upd_ne fun z => hno (by rw [← z]; exact k q hq)⟩) r.2.1
  refine ⟨⟨r.1.bg, r.1.bi, r.1.ob, r.1.oi, r.1.sub, r.1.new, fun a h => ?_, ⟨fun a u n h => ?_, ?_⟩, fun q hq => ev.dt _ _ (r.1.pn q hq), L, sl, r.2.2⟩, sl, r.2.2⟩
  · by_cases e : a = p
    · subst e; rw [upd_same]; exact mo
    · rw [upd_ne e]; exact r.1.tr a h
  · have e : a ≠ p := fun z => by
      subst z
      rw [r.1.new a hp hn] at h; cases h
    rw [upd_ne e]; exact r.1.ext.keep a u n h
  · obtain ⟨x, y, z, ns, h1, h2, q⟩ := r.1.ext.bag
    exact ⟨x, y, z, ns, by rw [upd_ne (by rw [← r.1.bg]; exact Ne.symm nb)]; exact h1, by rw [upd_ne fun z => hn (by rw [← z]; exact r.1.oi)]; exact h2, q⟩
/-- what a slot owns is changed: p is one of its addresses -/
theorem Rel.chg (r : Rel F G H σ ρ) {i : Nat} {t : Tr} (hi : ρ[i]? = some (.tr t)) : ∃ v B, σ[i]? = some (some v) ∧ Ow F.K G H t v B ∧ B.Nodup ∧ (∀ p ∈ B, ¬ F.G.own p) ∧
    ∀ (p : Addr) (o : HO) (t' : Tr), p ∈ B → Mut (some o) → Ow F.K G (upd H p o) t' v B → Rel F G (upd H p o) σ (ρ.set i (.tr t')) := by
  obtain ⟨L, h, n⟩ := r.sl
  obtain ⟨u, A, B, C, e1, rfl, ⟨hn, v, rfl, hw⟩, k⟩ := h.upd hi
  obtain ⟨_, nB, nd⟩ := nodup_mid n
  refine ⟨v, B, e1, hw, nB, hn, fun p o t' hp mo hw' => ?_⟩
  have op := (Ow.own t v B hw p hp).1
  have ev : Evo G G H (upd H p o) := ⟨fun a u n h => .inl (by rw [upd_ne (fun z => n (by rw [z]; exact op))]; exact h), r.tr, fun _ n _ => n, rfl, rfl⟩
  have rd : RelL F G H (σ.set i (some v)) (ρ.set i .un) (A ++ ([] ++ C)) := by
    have sl := k F G H .un (some v) [] (fun _ _ _ _ z => z) rfl
    have nn : (A ++ ([] ++ C)).Nodup := (nodup_mid n).1
    exact ⟨⟨r.bg, r.bi, r.ob, r.oi, r.sub, r.new, r.tr, r.ext, r.pn, _, sl, nn⟩, sl, nn⟩
  have rm := rd.mutate (o := o) op (hn p hp) mo (fun z => by
    rcases List.mem_append.mp z with z | z
    · exact (nd p hp).1 z
    · exact (nd p hp).2 z)
  have sl := k F G (upd H p o) (.tr t') (some v) B (fun s u M kk => SlR.go rfl rfl ev s u M fun q hq h1 _ _ => ⟨h1, upd_ne fun z => by
    rcases kk q hq with w | w
    · exact (nd p hp).1 (z ▸ w)
    · exact (nd p hp).2 (z ▸ w)⟩) ⟨hn, v, rfl, hw'⟩
  have eσ : σ.set i (some v) = σ := by
    apply List.ext_getElem?
    intro j
    by_cases e : i = j
    · subst e; rw [List.getElem?_set_self', e1]; rfl
    · rw [List.getElem?_set_ne e]
  rw [eσ] at sl rm
  exact ⟨rm.1.bg, rm.1.bi, rm.1.ob, rm.1.oi, rm.1.sub, rm.1.new, rm.1.tr, rm.1.ext, rm.1.pn, _, sl, n⟩
/-- what a slot owns becomes data -/
theorem Rel.frzA (r : Rel F G H σ ρ) {i : Nat} {t : Tr} (hi : ρ[i]? = some (.tr t)) : ∃ B v, Rel F (G.rems B) H σ (ρ.set i (.dat t.toD)) ∧ Ow F.K G H t v B ∧ ∀ p ∈ B, ¬ F.G.own p := by
  obtain ⟨L, h, n⟩ := r.sl
  obtain ⟨u, A, B, C, e1, rfl, ⟨hn, v, rfl, hw⟩, k⟩ := h.upd hi
  obtain ⟨n1, nB, nd⟩ := nodup_mid n
  have ev : Evo G (G.rems B) H H := Gh.rems_evo r.tr
  have sl := k F (G.rems B) H (.dat t.toD) (some v) [] (fun s u M kk => SlR.go rfl rfl ev s u M fun q hq h1 _ _ => ⟨⟨h1, fun z => by
    rcases kk q hq with w | w
    · exact (nd q z).1 w
    · exact (nd q z).2 w⟩, rfl⟩) ⟨rfl, v, rfl, Ow.dt r.tr t v B (fun _ z => z) hw⟩
  have eσ : σ.set i (some v) = σ := by
    apply List.ext_getElem?
    intro j
    by_cases e : i = j
    · subst e; rw [List.getElem?_set_self', e1]; rfl
    · rw [List.getElem?_set_ne e]
  rw [eσ] at sl
  exact ⟨B, v, ⟨r.bg, r.bi, r.ob, r.oi, fun a h => ⟨r.sub a h, fun z => hn a z h⟩, fun a h n => r.new a h.1 n, fun a h => r.tr a h.1, r.ext, fun q hq => ev.dt _ _ (r.pn q hq), _, sl, n1⟩, hw, hn⟩
theorem Rel.frz (r : Rel F G H σ ρ) {i : Nat} {t : Tr} (hi : ρ[i]? = some (.tr t)) : ∃ B, Rel F (G.rems B) H σ (ρ.set i (.dat t.toD)) := let ⟨B, _, h, _⟩ := r.frzA hi; ⟨B, h⟩
end
end DL

set_option Elab.async false
set_option linter.all false
set_option maxRecDepth 100000
set_option maxHeartbeats 1000000
namespace DL
open PySem L2

/-! ### statements -/
structure DE where
  nx : List Sl → Prop
  rt : Tr → Prop
  bk : List Sl → Prop
  ct : List Sl → Prop
abbrev TSD := DE → List Sl → Prop
structure EndsOk (F : Fr) (k : DE) (E : Ends) : Prop where
  nx : ∀ ρ G σ H, k.nx ρ → Rel F G H σ ρ → E.nx σ H
  rt : ∀ t v R H, k.rt t → Ext F.G F.H H → (∀ p ∈ R, F.H p = none) → R.Nodup → Ow F.K (F.G.adds R) H t v R → E.rt v H
  bk : ∀ ρ G σ H, k.bk ρ → Rel F G H σ ρ → E.bk σ H
  ct : ∀ ρ G σ H, k.ct ρ → Rel F G H σ ρ → E.ct σ H
def liftS (F : Fr) (S : TSD) : TS := fun E σ H => ∃ G ρ k, Rel F G H σ ρ ∧ S k ρ ∧ EndsOk F k E

def setT (i : Nat) (t : TD) : TSD := fun k ρ => t ρ fun d => k.nx (ρ.set i (.dat d))
def seqT (s u : TSD) : TSD := fun k ρ => s { k with nx := u k } ρ
def nextT : TSD := fun k ρ => k.nx ρ
def retT (t : TD) : TSD := fun k ρ => t ρ fun d => k.rt (.d d)
def retN : TSD := fun k _ => k.rt (.d .non)
theorem Gh.adds_nil (G : Gh) : G.adds [] = G := by
  unfold Gh.adds
  cases G
  simp
theorem EndsOk.dat {F : Fr} {k : DE} {E : Ends} (o : EndsOk F k E) {d : D} {v : V} {H : Hp} (h : k.rt (.d d)) (x : Ext F.G F.H H) (hd : Dt F.K F.G H d v) : E.rt v H :=
  o.rt (.d d) v [] H h x (fun _ z => nomatch z) List.nodup_nil (by rw [Gh.adds_nil]; exact ⟨rfl, hd⟩)
def iffT (t : TBD) (s u : TSD) : TSD := fun k ρ => t ρ fun b => if b = true then s k ρ else u k ρ
def dropT (t : TD) : TSD := fun k ρ => t ρ fun _ => k.nx ρ
section
variable {X : Cx} {F : Fr} {st : Stmt} {rest : List Stmt} {s u : TSD} {e : Expr} {te : TD} {pos : Pos}
theorem s_nil : PSs X [] (liftS F nextT) := pss_imp pss_nil fun E σ H ⟨G, ρ, k, r, h, o⟩ => o.nx ρ G σ H h r
theorem s_cons (h1 : PS X st (liftS F s)) (h2 : PSs X rest (liftS F u)) : PSs X (st :: rest) (liftS F (seqT s u)) :=
  pss_imp (pss_cons h1 h2) fun E σ H ⟨G, ρ, k, r, h, o⟩ => ⟨G, ρ, _, r, h, ⟨fun ρ' G' σ' H' h' r' => ⟨G', ρ', k, r', h', o⟩, o.rt, o.bk, o.ct⟩⟩
theorem s_one (h1 : PS X st (liftS F s)) : PSs X [st] (liftS F s) := pss_one h1
theorem s_pass : PS X (.Pass pos) (liftS F nextT) := ps_imp ps_pass fun E σ H ⟨G, ρ, k, r, h, o⟩ => o.nx ρ G σ H h r
theorem s_set {i : Nat} {x : Str} {pos' : Pos} (hN : X.N.Nodup) (hi : X.N[i]? = some x) (hx : Loc X.env.scope x) (he : PE X e (lift F te)) (hs : swapsWith e (some (.Name x pos')) pos.line X.env = pure false := by rfl)
    (hf : X.fn x = true ∨ X.env.scope.names.lookup x = some .local := by first | exact .inl rfl | exact .inr rfl | assumption) : PS X (.Assign [.Name x pos'] e pos) (liftS F (setT i te)) :=
  ps_imp (ps_set hN hi hx he hs hf) fun E σ H ⟨G, ρ, k, r, h, o⟩ => ⟨G, ρ, _, r, h, fun d v H1 h1 e1 d1 => o.nx _ G _ H1 h1 ((r.step e1).put d1)⟩
theorem s_ret (he : PE X e (lift F te)) : PS X (.Return (some e) pos) (liftS F (retT te)) :=
  ps_imp (ps_ret he) fun E σ H ⟨G, ρ, k, r, h, o⟩ => ⟨G, ρ, _, r, h, fun d v H1 h1 e1 d1 => o.dat h1 (r.step e1).ext ((r.step e1).less.dt d v d1)⟩
theorem s_retN : PS X (.Return none pos) (liftS F retN) := ps_imp ps_retN fun E σ H ⟨G, ρ, k, r, h, o⟩ => o.dat (v := .non) h r.ext rfl
theorem s_if {c : Expr} {a b : List Stmt} {tc : TBD} (hc : PT X c (liftT F tc)) (ha : PSs X a (liftS F s)) (hb : PSs X b (liftS F u)) : PS X (.If c a b pos) (liftS F (iffT tc s u)) :=
  ps_imp (ps_if hc ha hb) fun E σ H ⟨G, ρ, k, r, h, o⟩ => ⟨G, ρ, _, r, h, fun d H1 h1 e1 => by
    cases d with
    | true => exact iteT ⟨G, ρ, k, r.step e1, of_tt h1, o⟩
    | false => exact iteF ⟨G, ρ, k, r.step e1, of_ff h1, o⟩⟩
theorem s_expr (he : PE X e (lift F te)) (hs : swapsWith e none pos.line X.env = pure false := by rfl) : PS X (.Expr e pos) (liftS F (dropT te)) :=
  ps_imp (ps_expr he hs) fun E σ H ⟨G, ρ, k, r, h, o⟩ => ⟨G, ρ, _, r, h, fun d v H1 h1 e1 d1 => o.nx _ G _ H1 h1 (r.step e1)⟩
def breakT : TSD := fun k ρ => k.bk ρ
def contT : TSD := fun k ρ => k.ct ρ
theorem s_break : PS X (.Break pos) (liftS F breakT) := ps_imp ps_break fun E σ H ⟨G, ρ, k, r, h, o⟩ => o.bk ρ G σ H h r
theorem s_cont : PS X (.Continue pos) (liftS F contT) := ps_imp ps_continue fun E σ H ⟨G, ρ, k, r, h, o⟩ => o.ct ρ G σ H h r
/-- a, b = e1, e2 -/
def parT (i j : Nat) (ta : TLD) : TSD := fun k ρ => ta ρ fun ds => match ds with
  | [d, d'] => k.nx ((ρ.set i (.dat d)).set j (.dat d'))
  | _ => False
theorem s_par {i j : Nat} {x y : Str} {a b : Expr} {ta : TLD} {px py pt : Pos} {kt k2 : Nat} {pt2 : Pos} (hc : X.calm = true) (hw : swappedStores [.Tuple [.Name x px, .Name y py] kt pt] (.Tuple [a, b] k2 pt2) X.env = pure (some [x, y])) (hN : X.N.Nodup)
    (hi : X.N[i]? = some x) (hj : X.N[j]? = some y) (hij : i ≠ j) (hx : X.env.scope.names.lookup x = some .local) (hy : X.env.scope.names.lookup y = some .local) (ha : PA X [a, b] (liftA F ta))
    (hs : swapsWithSole [.Tuple [.Name x px, .Name y py] kt pt] (.Tuple [a, b] k2 pt2) pos.line X.env = pure false := by rfl) : PS X (.Assign [.Tuple [.Name x px, .Name y py] kt pt] (.Tuple [a, b] k2 pt2) pos) (liftS F (parT i j ta)) := by
  refine ps_imp (ps_par hc hN hi hj hij hx hy ha hw hs) fun E σ H ⟨G, ρ, k, r, h, o⟩ => ⟨G, ρ, _, r, h, fun ds vs H1 h1 e1 d1 => ?_⟩
  split at h1
  · obtain ⟨v, w, rfl, d2, d3⟩ := dl2 d1
    exact ⟨v, w, rfl, o.nx _ G _ H1 h1 (((r.step e1).put d2).put d3)⟩
  · exact h1.elim
/-- code that is not come to -/
theorem s_never {sts : List Stmt} : PSs X sts (liftS F fun _ _ => False) := pss_imp pss_never fun E σ H ⟨G, ρ, k, r, h, o⟩ => h
end

/-! ### targets -/
inductive Tg where
  | nm (i : Nat)
  | tp (is : List Nat)
def gNames : List Nat → TGs
  | [] => gNil
  | i :: is => gCons (gName i) (gNames is)
def gOf (K : PySem.W.Frag) : Tg → TG
  | .nm i => gName i
  | .tp is => gTup K is.length (gNames is)
def putA : List Nat → List D → List Sl → List Sl
  | i :: is, d :: ds, ρ => putA is ds (ρ.set i (.dat d))
  | _, _, ρ => ρ
def tgD : Tg → D → List Sl → (List Sl → Prop) → Prop
  | .nm i, d, ρ, k => k (ρ.set i (.dat d))
  | .tp is, .tup ds, ρ, k => ds.length = is.length ∧ k (putA is ds ρ)
  | _, _, _, _ => False
def setA : List Nat → List V → St → St
  | i :: is, v :: vs, σ => setA is vs (σ.set i (some v))
  | _, _, σ => σ
section
variable {F : Fr} {G : Gh} {H : Hp}
theorem Rel.putA : ∀ {is : List Nat} {ds : List D} {vs : List V} {σ : St} {ρ : List Sl}, Rel F G H σ ρ → DtL F.K G H ds vs → Rel F G H (setA is vs σ) (DL.putA is ds ρ)
  | [], ds, vs, σ, ρ, r, h => by
    cases ds <;> cases vs <;> exact r
  | i :: is, [], vs, σ, ρ, r, h => by
    obtain rfl : vs = [] := h
    exact r
  | i :: is, d :: ds, vs, σ, ρ, r, h => by
    obtain ⟨x, w, rfl, h1, h2⟩ := h
    exact Rel.putA (is := is) (ds := ds) (vs := w) (σ := σ.set i (some x)) (ρ := ρ.set i (.dat d)) (r.put h1) h2
theorem gNames_ok : ∀ {is : List Nat} {vs : List V} {σ : St} {Q : St → Hp → Prop}, vs.length = is.length → Q (setA is vs σ) H → gNames is vs σ H Q
  | [], [], σ, Q, _, q => ⟨rfl, q⟩
  | [], v :: vs, σ, Q, e, q => by cases e
  | i :: is, [], σ, Q, e, q => by cases e
  | i :: is, v :: vs, σ, Q, e, q => ⟨v, vs, rfl, gNames_ok (is := is) (by simpa using e) q⟩
/-- the values that a target stores -/
def tgS : Tg → V → List V → St → St
  | .nm i, v, _, σ => σ.set i (some v)
  | .tp is, _, vs, σ => setA is vs σ
theorem gOf_ok {K : PySem.W.Frag} {σ : St} {ρ : List Sl} {t : Tg} {d : D} {v : V} {k : List Sl → Prop} {Q : St → Hp → Prop} (hK : K = F.K) (r : Rel F G H σ ρ) (hd : Dt F.K G H d v) (h : tgD t d ρ k)
    (q : ∀ ρ' vs, k ρ' → Rel F G H (tgS t v vs σ) ρ' → Q (tgS t v vs σ) H) : gOf K t v σ H Q := by
  cases t with
  | nm i => exact q _ [] h (r.put hd)
  | tp is =>
    cases d <;> try exact (show False from h).elim
    obtain ⟨hl, h⟩ := h
    obtain ⟨a, xs, rfl, ha, hx⟩ := hd
    refine ⟨a, xs, rfl, hK ▸ ha, by rw [← hx.len]; exact hl, gNames_ok (by rw [← hx.len]; exact hl) ?_⟩
    exact q _ xs h (r.putA hx)
end

/-! ### what is walked -/
def Walk (K : PySem.W.Frag) (pn : List (V × D)) (J : It) (ds : List D) : Prop := ∀ (i : Nat) (G : Gh) (H : Hp), GOk G H → (∀ q ∈ pn, Dt K G H q.2 q.1) →
  (i < ds.length → J.go i H ∧ ∀ x H', J.yld i H x H' → (∀ a o, H a = some o → H' a = some o) ∧ ∃ d, ds[i]? = some d ∧ Dt K G H' d x) ∧ (ds.length ≤ i → J.stop i H)
def liftI (F : Fr) (I : TLD) : TI := fun σ H R => ∃ G ρ k, Rel F G H σ ρ ∧ I ρ k ∧ ∀ ds J H1 pn, k ds → Ext G H H1 → Walk F.K pn J ds → (∀ q ∈ pn, Dt F.K G H1 q.2 q.1) → R J H1
theorem pi_imp {X : Cx} {tg it : Expr} {t t' : TI} (h : PI X tg it t) (i : ∀ σ H R, t' σ H R → t σ H R) : PI X tg it t' := ⟨fun pins s σ H R I w => h.run pins s σ H R I (i _ _ _ w)⟩
def loopT (t : Tg) (S : TSD) (k : DE) : List D → List Sl → Prop
  | [], ρ => k.nx ρ
  | d :: ds, ρ => tgD t d ρ fun ρ1 => S { nx := loopT t S k ds, rt := k.rt, bk := k.nx, ct := loopT t S k ds } ρ1
def forT (t : Tg) (I : TLD) (S : TSD) : TSD := fun k ρ => I ρ fun ds => loopT t S k ds ρ
section
variable {X : Cx} {F : Fr} {tg iter : Expr} {body : List Stmt} {t : Tg} {I : TLD} {S : TSD} {pos : Pos}
theorem s_for (hp : PassesOwn (model X.prog X.w) X.A X.env X.xe) (hc : X.calm = true) (hi : PI X tg iter (liftI F I)) (hg : PG X tg (gOf X.K t)) (hb : ∀ pn, PSs X body (liftS (F.pin pn) S)) (hK : X.K = F.K := by rfl)
    (hs : ∀ x, foldedSetIterable iter X.env x = pure x := by intro _; rfl) : PS X (.For tg iter body [] pos) (liftS F (forT t I S)) := by
  have hb' : PSs X body (fun E σ H => ∃ pn, liftS (F.pin pn) S E σ H) := ⟨fun pins s σ H E I ⟨pn, w⟩ => (hb pn).run pins s σ H E I w⟩
  refine ps_imp (ps_for hp hc hi hg hb' hs) fun E σ H ⟨G, ρ, k, r, h, o⟩ => ⟨G, ρ, _, r, h, fun ds J H1 pn h1 e1 wk hpn => ?_⟩
  refine ⟨fun i m σ' H' => m = ds.length - i ∧ i ≤ ds.length ∧ ∃ G' ρ', Rel (F.pin pn) G' H' σ' ρ' ∧ loopT t S k (ds.drop i) ρ', ⟨_, rfl, Nat.zero_le _, G, ρ, (r.step e1).pinned hpn, h1⟩, ?_⟩
  rintro i m σ' H' ⟨rfl, hi, G', ρ', r', h'⟩
  have w := wk i G' H' r'.ok fun q hq => r'.pn q (List.mem_append_left _ hq)
  by_cases hlt : i < ds.length
  · obtain ⟨go, yl⟩ := w.1 hlt
    refine .inr ⟨go, fun σ2 H2 => i + 1 ≤ ds.length ∧ ∃ G' ρ', Rel (F.pin pn) G' H2 σ2 ρ' ∧ loopT t S k (ds.drop (i + 1)) ρ', fun σ2 H2 ⟨hl, q⟩ => ⟨_, by omega, rfl, hl, q⟩, fun x H2 y => ?_⟩
    obtain ⟨kp, d, hd, hx⟩ := yl x H2 y
    rw [List.drop_eq_getElem_cons hlt] at h'
    have ed : ds[i] = d := by rw [List.getElem?_eq_getElem hlt] at hd; exact Option.some.inj hd
    rw [ed] at h'
    have r2 := r'.step (Ext.all r'.bag kp)
    refine gOf_ok (F := F.pin pn) hK r2 hx h' fun ρ1 vs h1 r1 => ?_
    refine ⟨pn, G', ρ1, _, r1, h1, fun ρ2 G2 σ2 H2 h2 r2 => ⟨hlt, G2, ρ2, r2, h2⟩, fun t v R H3 q1 q2 q3 q4 q5 => o.rt t v R H3 q1 q2 q3 q4 q5, fun ρ2 G2 σ2 H2 h2 r2 => o.nx ρ2 G2 σ2 H2 h2 r2.unpin, fun ρ2 G2 σ2 H2 h2 r2 => ⟨hlt, G2, ρ2, r2, h2⟩⟩
  · have e : i = ds.length := by omega
    subst e
    rw [List.drop_length] at h'
    exact .inl ⟨w.2 (Nat.le_refl _), o.nx _ _ _ _ h' r'.unpin⟩
end
end DL

set_option Elab.async false
set_option linter.all false
set_option maxRecDepth 100000
set_option maxHeartbeats 1000000
namespace DL
open PySem PySem.Spec L2

/-! ### walks over lists, tuples, ranges, texts -/
section
variable {K : PySem.W.Frag}
theorem walk_list {a : Addr} {ds : List D} : Walk K [(.ref a, .lst ds)] (Itl K a) ds := by
  intro i G H ok hp
  obtain ⟨b, xs, e, n, ha, hl⟩ := hp (.ref a, .lst ds) (List.mem_singleton.mpr rfl)
  cases e
  refine ⟨fun hi => ⟨⟨xs, xs[i]'(by rw [← hl.len]; exact hi), SqL.of ha, List.getElem?_eq_getElem _⟩, fun x H' y => ?_⟩, fun hi => ⟨xs, SqL.of ha, by rw [← hl.len]; exact hi⟩⟩
  obtain ⟨e, y⟩ := y
  subst e
  exact ⟨fun _ _ h => h, hl.get' (y xs (SqL.of ha))⟩
theorem walk_tup {a : Addr} {ds : List D} : Walk K [(.ref a, .tup ds)] (Itt K a) ds := by
  intro i G H ok hp
  obtain ⟨b, xs, e, ha, hl⟩ := hp (.ref a, .tup ds) (List.mem_singleton.mpr rfl)
  cases e
  refine ⟨fun hi => ⟨⟨xs, xs[i]'(by rw [← hl.len]; exact hi), ha, List.getElem?_eq_getElem _⟩, fun x H' y => ?_⟩, fun hi => ⟨xs, ha, by rw [← hl.len]; exact hi⟩⟩
  obtain ⟨e, y⟩ := y
  subst e
  exact ⟨fun _ _ h => h, hl.get' (y xs ha)⟩
theorem walk_rng {lo : Int} {n : Nat} : Walk K [] (Itr lo n) ((List.range n).map fun (i : Nat) => D.int (lo + (i : Int))) := by
  intro i G H ok hp
  rw [List.length_map, List.length_range]
  refine ⟨fun hi => ⟨hi, fun x H' ⟨e, y⟩ => ?_⟩, fun hi => hi⟩
  subst e y
  exact ⟨fun _ _ h => h, .int (lo + (i : Int)), by rw [List.getElem?_map, List.getElem?_range hi]; rfl, rfl⟩
theorem walk_str {x : Str} : Walk K [] (Its x) (x.cps.toList.map fun c => .str ⟨#[c]⟩) := by
  intro i G H ok hp
  rw [List.length_map, Array.length_toList]
  refine ⟨fun hi => ⟨hi, fun v H' ⟨e, c, hc, y⟩ => ?_⟩, fun hi => hi⟩
  subst e y
  exact ⟨fun _ _ h => h, .str ⟨#[c]⟩, by rw [List.getElem?_map, Array.getElem?_toList, hc]; rfl, rfl⟩
end
def seqI (t : TD) : TLD := fun ρ k => t ρ fun d => match d with
  | .lst ds => k ds
  | .tup ds => k ds
  | .str x => k (x.cps.toList.map fun c => .str ⟨#[c]⟩)
  | _ => False
section
variable {X : Cx} {F : Fr} {tg : Expr} {l : Expr} {tl : TD}
/-- a list, a tuple, a text, whichever it is -/
def iAny (K : PySem.W.Frag) (tl : TE) : TI := fun σ H R => tl σ H fun x H1 => (∃ a, x = .ref a ∧ (∃ xs, SqL K H1 a xs) ∧ R (Itl K a) H1) ∨ (∃ a, x = .ref a ∧ (∃ xs, SqT K H1 a xs) ∧ R (Itt K a) H1) ∨ ∃ z, x = .str z ∧ R (Its z) H1
theorem pi_any {tl : TE} (hl : PE X l tl) : PI X tg l (iAny X.K tl) := by
  constructor
  intro pins s σ H R I h
  -- each kind by its own rule: the value is told by the expression's run
  have one : ∀ (v : Value) (s1 : Shared) (x : V) (H1 : Hp), Inv X pins σ H1 s1 → RelV x v → ((∃ a, x = .ref a ∧ (∃ xs, SqL X.K H1 a xs) ∧ R (Itl X.K a) H1) ∨ (∃ a, x = .ref a ∧ (∃ xs, SqT X.K H1 a xs) ∧ R (Itt X.K a) H1) ∨ ∃ z, x = .str z ∧ R (Its z) H1) →
      wpAny (model X.prog X.w) X.A (pyIter v) (PIE X pins σ tg R) X.xe s1 := by
    intro v s1 x H1 I1 rv q
    have fresh : ∀ b, b ∈ [s1.heap.objs.size] → FpOk X pins H1 b := fun b hb => by
      obtain rfl : b = s1.heap.objs.size := List.mem_singleton.mp hb
      exact I1.fpOk (Nat.le_refl _) (I1.hok.fresh (Nat.le_refl _))
    rcases q with ⟨a, rfl, ⟨xs, hq⟩, q⟩ | ⟨a, rfl, ⟨xs, hq⟩, q⟩ | ⟨z, rfl, q⟩
    · cases rv
      obtain ⟨its, _, pl, _⟩ := I1.list hq
      exact wpAny_pyIter_list pl.isList ⟨_, [s1.heap.objs.size], _, _, H1, rfl, I1.kept (t' := s1.toks) fun b o e => Heap.get?_push_of_some _ e, turn_list a _, ⟨_, Heap.get?_push_size _ rfl, rfl, rfl⟩, fresh, q⟩
    · cases rv
      obtain ⟨its, _, pl, _⟩ := I1.tuple hq
      exact wpAny_pyIter_tuple (show s1.heap.IsTuple a its.toArray from pl) ⟨_, [s1.heap.objs.size], _, _, H1, rfl, I1.kept (t' := s1.toks) fun b o e => Heap.get?_push_of_some _ e, turn_tuple a _, ⟨_, Heap.get?_push_size _ rfl, rfl, rfl⟩, fresh, q⟩
    · obtain ⟨t, rfl⟩ := rv
      cases hz : z.cps.all (· < 128) with
      | false => exact wpAny_pyIter_wide hz (pi_one (tk := s1.toks) I1 _ (turn_str _ z t "str_iterator" (Or.inr rfl)) ⟨_, Heap.get?_push_size _ rfl, rfl, rfl⟩ q)
      | true => exact wpAny_pyIter_ascii hz (pi_one (tk := s1.toks) I1 _ (turn_str _ z t "str_ascii_iterator" (Or.inl rfl)) ⟨_, Heap.get?_push_size _ rfl, rfl, rfl⟩ q)
  exact thn (hl.run pins s σ H _ I h) fun v s1 ⟨x, H1, I1, r1, q1⟩ => one v s1 x H1 I1 r1 q1
end

section
variable {X : Cx} {F : Fr} {tg : Expr} {l : Expr} {tl : TD}
theorem i_seq (hl : PE X l (lift F tl)) (hK : X.K = F.K := by rfl) : PI X tg l (liftI F (seqI tl)) := by
  refine pi_imp (pi_any hl) fun σ H R ⟨G, ρ, k, r, h, q⟩ => ⟨G, ρ, _, r, h, fun d v H1 h1 e1 d1 => ?_⟩
  rw [hK]
  cases d <;> try exact (show False from h1).elim
  · obtain rfl := d1
    exact .inr (.inr ⟨_, rfl, q _ _ H1 [] h1 e1 walk_str fun _ z => nomatch z⟩)
  · obtain ⟨a, xs, rfl, n, ha, hl⟩ := id d1
    exact .inl ⟨a, rfl, ⟨xs, SqL.of ha⟩, q _ _ H1 _ h1 e1 walk_list fun z hz => by obtain rfl := List.mem_singleton.mp hz; exact d1⟩
  · obtain ⟨a, xs, rfl, ha, hl⟩ := id d1
    exact .inr (.inl ⟨a, rfl, ⟨xs, ha⟩, q _ _ H1 _ h1 e1 walk_tup fun z hz => by obtain rfl := List.mem_singleton.mp hz; exact d1⟩)
def rng1I (t : TLD) : TLD := fun ρ k => t ρ fun ds => match ds with
  | [.int j] => (-(2 ^ 62) ≤ j ∧ j < 2 ^ 62) ∧ k ((List.range j.toNat).map fun (i : Nat) => D.int (i : Int))
  | _ => False
def rng2I (t : TLD) : TLD := fun ρ k => t ρ fun ds => match ds with
  | [.int i, .int j] => (-(2 ^ 62) ≤ i ∧ i < 2 ^ 62 ∧ -(2 ^ 62) ≤ j ∧ j < 2 ^ 62) ∧ k ((List.range (j - i).toNat).map fun (n : Nat) => D.int (i + (n : Int)))
  | _ => False
theorem i_rng1 {a : Expr} {ta : TLD} {p pos : Pos} (hg : Gl X "range") (hm : X.mg "range" = none) (ha : PA X [a] (liftA F ta)) (hs : starEach [a] X.env = [(false, eval a X.env)] := by rfl) (hK : X.K = F.K := by rfl) : PI X tg (.Call (.Name "range" p) [a] [] pos) (liftI F (rng1I ta)) := by
  refine pi_imp (pi_range1 hg hm ha hs) fun σ H R ⟨G, ρ, k, r, h, q⟩ => ⟨G, ρ, _, r, h, fun ds vs H1 h1 e1 d1 => ?_⟩
  split at h1
  · obtain ⟨v, rfl, hv⟩ := dl1 d1
    obtain rfl := hv
    refine ⟨_, rfl, h1.1.1, h1.1.2, q _ _ H1 [] h1.2 e1 ?_ fun _ z => nomatch z⟩
    have w := walk_rng (K := F.K) (lo := 0) (n := Int.toNat ‹Int›)
    have e : (fun (i : Nat) => D.int (0 + (i : Int))) = fun (i : Nat) => D.int (i : Int) := by funext i; rw [Int.zero_add]
    rw [e] at w
    exact w
  · exact h1.elim
theorem i_rng2 {a b : Expr} {ta : TLD} {p pos : Pos} (hg : Gl X "range") (hm : X.mg "range" = none) (ha : PA X [a, b] (liftA F ta)) (hs : starEach [a, b] X.env = [(false, eval a X.env), (false, eval b X.env)] := by rfl) (hs2 : starEach [b] X.env = [(false, eval b X.env)] := by rfl) :
    PI X tg (.Call (.Name "range" p) [a, b] [] pos) (liftI F (rng2I ta)) := by
  refine pi_imp (pi_range2 hg hm ha hs hs2) fun σ H R ⟨G, ρ, k, r, h, q⟩ => ⟨G, ρ, _, r, h, fun ds vs H1 h1 e1 d1 => ?_⟩
  split at h1
  · rename_i i j
    obtain ⟨v, w, rfl, hv, hw⟩ := dl2 d1
    obtain rfl := hv
    obtain rfl := hw
    exact ⟨_, _, rfl, h1.1, q _ _ H1 [] h1.2 e1 walk_rng fun _ z => nomatch z⟩
  · exact h1.elim
end
end DL

set_option Elab.async false
set_option linter.all false
set_option maxRecDepth 100000
set_option maxHeartbeats 1000000
namespace DL
open PySem L2

/-! ### comprehensions -/
def wipeS (ρ : List Sl) : List Nat → List Sl
  | [] => ρ
  | v :: vs => (wipeS ρ vs).set v .un
theorem wipe_get (σ : St) (j : Nat) : ∀ vs : List Nat, (wipe σ vs)[j]? = if j ∈ vs then (σ[j]?).map (fun _ => none) else σ[j]?
  | [] => by simp [wipe]
  | v :: vs => by
    unfold wipe
    by_cases e : v = j
    · subst e
      rw [List.getElem?_set_self', wipe_get σ v vs, if_pos List.mem_cons_self]
      split <;> cases σ[v]? <;> rfl
    · rw [List.getElem?_set_ne e, wipe_get σ j vs]
      simp only [List.mem_cons, Ne.symm e, false_or]
theorem wipe_wipe (σ : St) (vs : List Nat) : wipe (wipe σ vs) vs = wipe σ vs := by
  apply List.ext_getElem?
  intro j
  rw [wipe_get, wipe_get]
  split
  · cases σ[j]? <;> rfl
  · rfl
theorem wipe_set (σ : St) {vs : List Nat} {i : Nat} (o : Option V) (h : i ∈ vs) : wipe (σ.set i o) vs = wipe σ vs := by
  apply List.ext_getElem?
  intro j
  rw [wipe_get, wipe_get]
  by_cases e : i = j
  · subst e
    rw [if_pos h, if_pos h, List.getElem?_set_self']
    cases σ[i]? <;> rfl
  · rw [List.getElem?_set_ne e]
theorem wipe_setA {vs : List Nat} : ∀ (is : List Nat) (us : List V) (σ : St), (∀ i ∈ is, i ∈ vs) → wipe (setA is us σ) vs = wipe σ vs
  | [], us, σ, h => by cases us <;> rfl
  | i :: is, [], σ, h => rfl
  | i :: is, u :: us, σ, h => by
    show wipe (setA is us (σ.set i (some u))) vs = _
    rw [wipe_setA is us _ fun j hj => h j (List.mem_cons_of_mem _ hj), wipe_set _ _ (h i List.mem_cons_self)]
def Tg.ix : Tg → List Nat
  | .nm i => [i]
  | .tp is => is
theorem wipe_tgS {vs : List Nat} (t : Tg) (v : V) (us : List V) (σ : St) (h : ∀ i ∈ t.ix, i ∈ vs) : wipe (tgS t v us σ) vs = wipe σ vs := by
  cases t with
  | nm i => exact wipe_set _ _ (h i (List.mem_singleton.mpr rfl))
  | tp is => exact wipe_setA is us σ h
theorem Rel.wipe {F : Fr} {G : Gh} {H : Hp} {σ : St} {ρ : List Sl} (r : Rel F G H σ ρ) : ∀ vs, Rel F G H (L2.wipe σ vs) (wipeS ρ vs)
  | [] => r
  | v :: vs => (Rel.wipe r vs).drop v none

def compT (t : Tg) (tt : TBD) (te : TD) (ρ : List Sl) : List D → List D → (List D → Prop) → Prop
  | [], acc, k => k acc
  | d :: ds, acc, k => tgD t d ρ fun ρ1 => tt ρ1 fun b => if b = true then te ρ1 fun e => compT t tt te ρ ds (acc ++ [e]) k else compT t tt te ρ ds acc k
def lcF (t : Tg) (I : TLD) (tt : TBD) (te : TD) (vs : List Nat) : TLD := fun ρ k => I ρ fun ds => ds.length ≤ sizeLine ∧ compT t tt te (wipeS ρ vs) ds [] k
def yesT : TBD := fun _ k => k true
def liftTs (F : Fr) (T : TBD) : TT := liftT F T
section
variable {X : Cx} {F : Fr} {t : Tg} {I : TLD} {tt : TBD} {te : TD}
theorem ts_nil : PTs X [] (liftT F yesT) := ⟨fun pins s σ H Q I ⟨G, ρ, k, r, h, q⟩ => pts_nil.run pins s σ H Q I (q true H h (.refl r.bag))⟩
theorem ts_one {c : Expr} {tc : TBD} (h : PT X c (liftT F tc)) : PTs X [c] (liftT F tc) := pts_one h
theorem lcT {K : PySem.W.Frag} (vs : List Nat) (ht : ∀ i ∈ t.ix, i ∈ vs) (hK : K = F.K) (tb : TT) (tv : TE) (h1 : ∀ pn σ H Q, liftT (F.pin pn) tt σ H Q → tb σ H Q) (h2 : ∀ pn σ H Q, lift (F.pin pn) te σ H Q → tv σ H Q) :
    ∀ σ H Q, liftF F (lcF t I tt te vs) σ H Q → tLc (liftI F I) (gOf K t) tb tv vs σ H Q := by
  intro σ H Q ⟨G, ρ, k, r, h, q⟩
  refine ⟨G, ρ, _, r, h, fun ds J H1 pn ⟨hz, hk⟩ e1 wk hpn L hL => ?_⟩
  have r1 := r.step e1
  have e2 : Ext G H1 (upd H1 L (.lst [])) := Ext.new r1.bag hL
  obtain ⟨L0, s0⟩ := ((r1.pinned hpn).wipe vs).adrs
  have hno : L ∉ L0 := s0.new hL
  have r2 : RelL (F.pin pn) (G.add L) (upd H1 L (.lst [])) (L2.wipe σ vs) (wipeS ρ vs) L0 := s0.grow e2 hL (by rw [upd_same]; exact True.intro)
  have hnL : ¬ F.G.own L := fun z => r1.free hL (r1.sub L z)
  refine ⟨fun i m H' => m = ds.length - i ∧ i ≤ ds.length ∧ ∃ acc xs, H' L = some (.lst xs) ∧ DtL F.K (G.add L) H' acc xs ∧ acc.length ≤ i ∧ RelL (F.pin pn) (G.add L) H' (L2.wipe σ vs) (wipeS ρ vs) L0 ∧ Ext G H1 H' ∧
      compT t tt te (wipeS ρ vs) (ds.drop i) acc k, ⟨_, rfl, Nat.zero_le _, [], [], upd_same, rfl, Nat.le_refl _, r2, e2, hk⟩, ?_⟩
  rintro i m H' ⟨rfl, hi, acc, xs, hx, hd, hl, r', e', h'⟩
  have w := wk i (G.add L) H' r'.1.ok fun q hq => r'.1.pn q (List.mem_append_left _ hq)
  by_cases hlt : i < ds.length
  · obtain ⟨go, yl⟩ := w.1 hlt
    refine .inr ⟨go, fun H2 => i + 1 ≤ ds.length ∧ ∃ acc xs, H2 L = some (.lst xs) ∧ DtL F.K (G.add L) H2 acc xs ∧ acc.length ≤ i + 1 ∧ RelL (F.pin pn) (G.add L) H2 (L2.wipe σ vs) (wipeS ρ vs) L0 ∧ Ext G H1 H2 ∧
      compT t tt te (wipeS ρ vs) (ds.drop (i + 1)) acc k, fun H2 ⟨hl, q⟩ => ⟨_, by omega, rfl, hl, q⟩, fun x H2 y => ?_⟩
    obtain ⟨kp, d, hdi, hxd⟩ := yl x H2 y
    rw [List.drop_eq_getElem_cons hlt] at h'
    have ed : ds[i] = d := by rw [List.getElem?_eq_getElem hlt] at hdi; exact Option.some.inj hdi
    rw [ed] at h'
    have x2 : Ext (G.add L) H' H2 := Ext.all r'.1.bag kp
    have r3 := r'.step x2
    refine gOf_ok (F := F.pin pn) hK r3.1 hxd h' fun ρ1 us hk1 r4 => ⟨by rw [wipe_tgS t x us _ ht, wipe_wipe], ?_⟩
    refine h1 pn _ _ _ ⟨G.add L, ρ1, _, r4, hk1, fun b H3 hb x3 => ?_⟩
    have nbL : L ≠ G.bg := r1.own_ne_bg hnL
    have up : ∀ {H5 : Hp}, Ext (G.add L) H2 H5 → H5 L = some (.lst xs) ∧ DtL F.K (G.add L) H5 acc xs ∧ RelL (F.pin pn) (G.add L) H5 (L2.wipe σ vs) (wipeS ρ vs) L0 ∧ Ext G H1 H5 := fun {H5} z => by
      have z2 := x2.trans z
      exact ⟨z2.mine nbL hx (.inr rfl), (r'.1.evo z2).dts _ _ hd, r'.step z2, e'.trans (Ext.cg (G := G.add L) (G' := G) rfl rfl (fun _ h => .inl h) z2)⟩
    cases b with
    | true =>
      refine iteT (h2 pn _ _ _ ⟨G.add L, ρ1, _, r4.step x3, of_tt hb, fun d v H4 hd4 x4 dv => ?_⟩)
      obtain ⟨u1, u2, u3, u4⟩ := up (x3.trans x4)
      have lx : xs.length < sizeLine := by rw [← hd.len]; omega
      refine ⟨xs, u1, lx, hlt, acc ++ [d], xs ++ [v], upd_same, ?_, by simp; omega, u3.mutate (o := .lst (xs ++ [v])) (.inr rfl) hnL True.intro hno, ⟨fun a o n z => ?_, ?_⟩, hd4⟩
      · have ev : Evo (G.add L) (G.add L) H4 (upd H4 L (.lst (xs ++ [v]))) := ⟨fun a o n z => .inl (by rw [upd_ne fun w => n (.inr w)]; exact z), u3.1.tr, fun _ n _ => n, rfl, rfl⟩
        exact (ev.dts _ _ u2).app ⟨v, [], rfl, ev.dt _ _ dv, rfl⟩
      · rw [upd_ne (fun w => by rw [w, hL] at z; cases z)]
        exact u4.keep a o n z
      · exact (u3.mutate (o := .lst (xs ++ [v])) (.inr rfl) hnL True.intro hno).1.bag
    | false =>
      obtain ⟨u1, u2, u3, u4⟩ := up x3
      exact iteF ⟨hlt, acc, xs, u1, u2, by omega, u3, u4, of_ff hb⟩
  · have e : i = ds.length := by omega
    subst e
    rw [List.drop_length] at h'
    exact .inl ⟨w.2 (Nat.le_refl _), q acc L xs H' h' (e1.trans e') (e1.free r.bag hL) hx hd⟩
end
section
variable {X : Cx} {F : Fr} {elt tg iter : Expr} {ifs : List Expr} {scope : Scope} {own : List (Str × Nat)} {pos : Pos} {t : Tg} {I : TLD} {tt : TBD} {te : TD}
/-- [elt for tg in iter if ..], a new list -/
theorem f_lc (t : Tg) (hc : X.calm = true) (hN : X.N.Nodup) (hi : PI X tg iter (liftI F I)) (ok : BlkOk X.N X.env.scope scope own)
    (hg : ∀ (s : Shared) (H : Hp) (C : Addr) (cl : List (Str × Addr)) (fp : List Addr), PG (X.blk s H scope (compEnvC scope cl C X.env) fp) tg (gOf X.K t))
    (hs : ∀ (s : Shared) (H : Hp) (C : Addr) (cl : List (Str × Addr)) (fp : List Addr) (pn : List (V × D)), PTs (X.blk s H scope (compEnvC scope cl C X.env) fp) ifs (liftT (F.pin pn) tt))
    (he : ∀ (s : Shared) (H : Hp) (C : Addr) (cl : List (Str × Addr)) (fp : List Addr) (pn : List (V × D)), PE (X.blk s H scope (compEnvC scope cl C X.env) fp) elt (lift (F.pin pn) te))
    (hx : ∀ i ∈ t.ix, i ∈ own.map (·.2) := by decide) (hf : ∀ x, foldedSetIterable iter X.env x = pure x := by intro _; rfl) (hK : X.K = F.K := by rfl) :
    PE X (.ListComp elt [⟨tg, iter, ifs, 0⟩] scope pos) (liftF F (lcF t I tt te (own.map (·.2)))) :=
  pe_imp (pe_lc (tt := fun σ H Q => ∃ pn, liftT (F.pin pn) tt σ H Q) (te := fun σ H Q => ∃ pn, lift (F.pin pn) te σ H Q) hc hN hi ok hg
    (fun s H C cl fp => ⟨fun pins s1 σ H1 Q I ⟨pn, w⟩ => (hs s H C cl fp pn).run pins s1 σ H1 Q I w⟩) (fun s H C cl fp => ⟨fun pins s1 σ H1 Q I ⟨pn, w⟩ => (he s H C cl fp pn).run pins s1 σ H1 Q I w⟩) hf)
    (lcT _ hx hK _ _ (fun pn _ _ _ w => ⟨pn, w⟩) fun pn _ _ _ w => ⟨pn, w⟩)
/-- y = [..], y a local -/
theorem s_setLc {i : Nat} {y : Str} {py spos : Pos} (t : Tg) (hc : X.calm = true) (hN : X.N.Nodup) (hy : X.N[i]? = some y) (hyl : X.env.scope.names.lookup y = some .local)
    (hsw : swapsWith (.ListComp elt [⟨tg, iter, ifs, 0⟩] scope pos) (some (.Name y py)) spos.line X.env = pure true) (hi : PI X tg iter (liftI F I)) (ok : BlkOk X.N X.env.scope scope own)
    (hg : ∀ (s : Shared) (H : Hp) (C : Addr) (cl : List (Str × Addr)) (fp : List Addr), PG (X.blk s H scope (compEnvC scope cl C X.env) fp) tg (gOf X.K t))
    (hs : ∀ (s : Shared) (H : Hp) (C : Addr) (cl : List (Str × Addr)) (fp : List Addr) (pn : List (V × D)), PTs (X.blk s H scope (compEnvC scope cl C X.env) fp) ifs (liftT (F.pin pn) tt))
    (he : ∀ (s : Shared) (H : Hp) (C : Addr) (cl : List (Str × Addr)) (fp : List Addr) (pn : List (V × D)), PE (X.blk s H scope (compEnvC scope cl C X.env) fp) elt (lift (F.pin pn) te))
    (hx : ∀ i ∈ t.ix, i ∈ own.map (·.2) := by decide) (hf : ∀ x, foldedSetIterable iter X.env x = pure x := by intro _; rfl) (hK : X.K = F.K := by rfl) :
    PS X (.Assign [.Name y py] (.ListComp elt [⟨tg, iter, ifs, 0⟩] scope pos) spos) (liftS F (setT i (ofF (lcF t I tt te (own.map (·.2)))))) := by
  refine ps_imp (ps_setLc (tt := fun σ H Q => ∃ pn, liftT (F.pin pn) tt σ H Q) (te := fun σ H Q => ∃ pn, lift (F.pin pn) te σ H Q) hc hN hy hyl hsw hi ok hg
    (fun s H C cl fp => ⟨fun pins s1 σ H1 Q I ⟨pn, w⟩ => (hs s H C cl fp pn).run pins s1 σ H1 Q I w⟩) (fun s H C cl fp => ⟨fun pins s1 σ H1 Q I ⟨pn, w⟩ => (he s H C cl fp pn).run pins s1 σ H1 Q I w⟩) hf) ?_
  intro E σ H ⟨G, ρ, k, r, h, o⟩
  refine lcT (F := F) _ hx hK _ _ (fun pn _ _ _ w => ⟨pn, w⟩) (fun pn _ _ _ w => ⟨pn, w⟩) σ H _ ⟨G, ρ, _, r, h, fun ds p vs H1 h1 e1 hp hl d1 => ?_⟩
  have ev : Evo (G.add p) G H1 H1 := ⟨fun _ _ _ h => .inl h, fun a z => z.elim (Ext.tr' r.obg r.tr e1 a) fun z => by rw [z, hl]; exact True.intro, fun a n _ z => n (.inl z), rfl, rfl⟩
  exact o.nx _ G _ H1 h1 ((r.step e1).put (v := .ref p) ⟨p, vs, rfl, r.free hp, hl, ev.dts ds vs d1⟩)
end
end DL

set_option Elab.async false
set_option linter.all false
set_option maxRecDepth 100000
set_option maxHeartbeats 1000000
namespace DL
open PySem L2

/-! ### what is owned, its parts -/
section
variable {K : PySem.W.Frag} {G G' : Gh} {H H' : Hp}
theorem OwL.app : ∀ {ts us : List Tr} {xs ys : List V} {M N : List Addr}, OwL K G H ts xs M → OwL K G H us ys N → OwL K G H (ts ++ us) (xs ++ ys) (M ++ N)
  | [], us, _, _, _, _, h, h' => by
    obtain ⟨rfl, rfl⟩ := h
    exact h'
  | t :: ts, us, _, ys, _, N, h, h' => by
    obtain ⟨x, r, A, B, rfl, h1, h2, rfl⟩ := h
    exact ⟨x, r ++ ys, A, B ++ N, rfl, h1, OwL.app h2 h', by rw [List.append_assoc]⟩
theorem OwL.len : ∀ {ts : List Tr} {xs : List V} {M : List Addr}, OwL K G H ts xs M → ts.length = xs.length
  | [], _, _, h => by rw [h.1]; rfl
  | t :: ts, _, _, h => by
    obtain ⟨x, r, A, B, rfl, h1, h2, rfl⟩ := h
    simp [OwL.len h2]
theorem OwL.split : ∀ (n : Nat) {ts : List Tr} {xs : List V} {L : List Addr}, OwL K G H ts xs L → ∃ M N, L = M ++ N ∧ OwL K G H (ts.take n) (xs.take n) M ∧ OwL K G H (ts.drop n) (xs.drop n) N
  | 0, ts, xs, L, h => ⟨[], L, rfl, ⟨rfl, rfl⟩, h⟩
  | n + 1, [], xs, L, h => by
    obtain ⟨rfl, rfl⟩ := h
    exact ⟨[], [], rfl, ⟨rfl, rfl⟩, ⟨rfl, rfl⟩⟩
  | n + 1, t :: ts, xs, L, h => by
    obtain ⟨x, r, A, B, rfl, h1, h2, rfl⟩ := h
    obtain ⟨M, N, rfl, h3, h4⟩ := OwL.split n h2
    exact ⟨A ++ M, N, by rw [List.append_assoc], ⟨x, r.take n, A, M, rfl, h1, h3, rfl⟩, h4⟩
theorem OwL.one {d : D} {v : V} (h : Dt K G H d v) : OwL K G H [.d d] [v] [] := ⟨v, [], [], [], rfl, ⟨rfl, h⟩, ⟨rfl, rfl⟩, rfl⟩
/-- an item that is data is another one -/
theorem OwL.set : ∀ {n : Nat} {ts : List Tr} {xs : List V} {L : List Addr} {d d' : D} {v : V}, OwL K G H ts xs L → ts[n]? = some (.d d) → Dt K G H d' v → OwL K G H (ts.set n (.d d')) (xs.set n v) L
  | 0, t :: ts, _, _, d, d', v, h, e, hv => by
    obtain ⟨x, r, A, B, rfl, h1, h2, rfl⟩ := h
    obtain rfl : t = .d d := by simpa using e
    obtain ⟨rfl, _⟩ := h1
    exact ⟨v, r, [], B, rfl, ⟨rfl, hv⟩, h2, rfl⟩
  | n + 1, t :: ts, _, _, d, d', v, h, e, hv => by
    obtain ⟨x, r, A, B, rfl, h1, h2, rfl⟩ := h
    exact ⟨x, r.set n v, A, B, rfl, h1, OwL.set (n := n) h2 (by simpa using e) hv, rfl⟩
  | n, [], _, _, d, d', v, h, e, hv => by simp at e
theorem OwL.get : ∀ {n : Nat} {ts : List Tr} {xs : List V} {L : List Addr} {t : Tr}, OwL K G H ts xs L → ts[n]? = some t → ∃ v M, xs[n]? = some v ∧ Ow K G H t v M ∧ ∀ p ∈ M, p ∈ L
  | 0, t :: ts, _, _, u, h, e => by
    obtain ⟨x, r, A, B, rfl, h1, h2, rfl⟩ := h
    obtain rfl : t = u := by simpa using e
    exact ⟨x, A, rfl, h1, fun p hp => List.mem_append_left _ hp⟩
  | n + 1, t :: ts, _, _, u, h, e => by
    obtain ⟨x, r, A, B, rfl, h1, h2, rfl⟩ := h
    obtain ⟨v, M, e1, e2, e3⟩ := OwL.get (n := n) h2 (by simpa using e)
    exact ⟨v, M, by simpa using e1, e2, fun p hp => List.mem_append_right _ (e3 p hp)⟩
  | n, [], _, _, u, h, e => by simp at e
end
mutual
theorem Ow.mut {K : PySem.W.Frag} {G : Gh} {H : Hp} : ∀ (t : Tr) (v : V) (L : List Addr), Ow K G H t v L → ∀ p ∈ L, Mut (H p)
  | .d x, v, L, h, p, hp => by rw [h.1] at hp; cases hp
  | .l ts, v, L, h, p, hp => by
    obtain ⟨q, xs, M, rfl, o, e, h, rfl⟩ := h
    rcases List.mem_cons.mp hp with rfl | hp
    · rw [e]; exact True.intro
    · exact OwL.mut ts xs M h p hp
  | .m b es, v, L, h, p, hp => by
    obtain ⟨q, M, rfl, o, h, rfl⟩ := h
    rcases List.mem_cons.mp hp with rfl | hp
    · rcases h with ⟨_, e, _⟩ | ⟨_, e, _⟩ <;> · rw [e]; exact True.intro
    · rcases h with ⟨kvs, _, h⟩ | ⟨kvs, _, h⟩
      · exact OwP.mut b es kvs M h p hp
      · exact OwQ.mut b es kvs M h p hp
theorem OwL.mut {K : PySem.W.Frag} {G : Gh} {H : Hp} : ∀ (ts : List Tr) (xs : List V) (L : List Addr), OwL K G H ts xs L → ∀ p ∈ L, Mut (H p)
  | [], xs, L, h, p, hp => by rw [h.2] at hp; cases hp
  | t :: ts, xs, L, h, p, hp => by
    obtain ⟨x, r, M, N, rfl, h1, h2, rfl⟩ := h
    rcases List.mem_append.mp hp with hp | hp
    · exact Ow.mut t x M h1 p hp
    · exact OwL.mut ts r N h2 p hp
theorem OwP.mut {K : PySem.W.Frag} {G : Gh} {H : Hp} (b : Bool) : ∀ (es : List (D × Tr)) (kvs : List (Key × V)) (L : List Addr), OwP K G H b es kvs L → ∀ p ∈ L, Mut (H p)
  | [], xs, L, h, p, hp => by rw [h.2.2] at hp; cases hp
  | (k, t) :: es, kvs, L, h, p, hp => by
    obtain ⟨j, v, r, M, N, rfl, _, h1, h2, rfl⟩ := h
    rcases List.mem_append.mp hp with hp | hp
    · exact Ow.mut t v M h1 p hp
    · exact OwP.mut b es r N h2 p hp
theorem OwQ.mut {K : PySem.W.Frag} {G : Gh} {H : Hp} (b : Bool) : ∀ (es : List (D × Tr)) (kvs : List (List Key × V)) (L : List Addr), OwQ K G H b es kvs L → ∀ p ∈ L, Mut (H p)
  | [], xs, L, h, p, hp => by rw [h.2.2] at hp; cases hp
  | (k, t) :: es, kvs, L, h, p, hp => by
    obtain ⟨j, v, r, M, N, rfl, _, h1, h2, rfl⟩ := h
    rcases List.mem_append.mp hp with hp | hp
    · exact Ow.mut t v M h1 p hp
    · exact OwQ.mut b es r N h2 p hp
end
/-! ### new things -/
abbrev TRD := List Sl → (Tr → Prop) → Prop
abbrev TRL := List Sl → (List Tr → Prop) → Prop
/-- what is new and nothing else knows -/
def liftR (F : Fr) (T : TRD) : TE := fun σ H Q => ∃ G ρ k, Rel F G H σ ρ ∧ T ρ k ∧ ∀ t v R H', k t → Ext G H H' → (∀ p ∈ R, H p = none) → R.Nodup → Ow F.K (G.adds R) H' t v R → Q v H'
def liftRA (F : Fr) (T : TRL) : TA := fun σ H Q => ∃ G ρ k, Rel F G H σ ρ ∧ T ρ k ∧ ∀ ts vs R H', k ts → Ext G H H' → (∀ p ∈ R, H p = none) → R.Nodup → OwL F.K (G.adds R) H' ts vs R → Q vs H'
def treeT (t : TLD) : TRD := fun ρ k => t ρ fun ds => k (.l (ds.map .d))
def datR (t : TD) : TRD := fun ρ k => t ρ fun d => k (.d d)
def nilR : TRL := fun _ k => k []
def consR (t : TRD) (u : TRL) : TRL := fun ρ k => t ρ fun x => u ρ fun xs => k (x :: xs)
def lstR' (t : TRL) : TRD := fun ρ k => t ρ fun ts => ts.length ≤ sizeLine ∧ k (.l ts)
section
variable {X : Cx} {F : Fr} {e : Expr} {es : List Expr} {te : TD} {ta : TLD} {tr : TRD} {tl : TRL} {pos : Pos}
theorem r_tree (h : PE X e (liftF F ta)) : PE X e (liftR F (treeT ta)) := by
  refine pe_imp h fun σ H Q ⟨G, ρ, k, r, h, q⟩ => ⟨G, ρ, _, r, h, fun ds p vs H1 h1 e1 hp hv hd => ?_⟩
  refine q _ (.ref p) [p] H1 h1 e1 (fun a ha => by rw [List.mem_singleton.mp ha]; exact hp) (by simp) ?_
  rw [Gh.adds_one]
  exact ⟨p, vs, [], rfl, .inr rfl, hv, Ow.ofL hd, rfl⟩
theorem r_dat (h : PE X e (lift F te)) : PE X e (liftR F (datR te)) := by
  refine pe_imp h fun σ H Q ⟨G, ρ, k, r, h, q⟩ => ⟨G, ρ, _, r, h, fun d v H1 h1 e1 hd => ?_⟩
  refine q _ v [] H1 h1 e1 (fun a ha => nomatch ha) List.nodup_nil ?_
  rw [Gh.adds_nil]
  exact ⟨rfl, hd⟩
theorem ra_nil : PA X [] (liftRA F nilR) := pa_imp pa_nil fun σ H Q ⟨G, ρ, k, r, h, q⟩ => q [] [] [] H h (.refl r.bag) (fun _ z => nomatch z) List.nodup_nil ⟨rfl, rfl⟩
theorem Gh.adds_adds (G : Gh) (R S : List Addr) : (G.adds R).adds S = G.adds (R ++ S) := by
  unfold Gh.adds
  congr 1
  funext a
  simp [or_assoc]
theorem ra_cons (ha : PE X e (liftR F tr)) (hr : PA X es (liftRA F tl)) (hs : starEach (e :: es) X.env = (false, eval e X.env) :: starEach es X.env := by rfl) : PA X (e :: es) (liftRA F (consR tr tl)) := by
  refine pa_imp (pa_cons ha hr hs) fun σ H Q ⟨G, ρ, k, r, h, q⟩ => ⟨G, ρ, _, r, h, fun t v R H1 h1 e1 hR nR o1 => ?_⟩
  have own1 := Ow.own t v R o1
  have mutR : ∀ p ∈ R, Mut (H1 p) := fun p hp => Ow.mut t v R o1 p hp
  have r1 := r.grows e1 hR mutR
  refine ⟨G.adds R, ρ, _, r1, h1, fun ts vs S H2 h2 e2 hS nS o2 => ?_⟩
  have dj : ∀ p ∈ R, p ∉ S := fun p hp z => (own1 p hp).2 (hS p z)
  have e12 : Ext G H H2 := e1.trans (Ext.cg (G := G.adds R) (G' := G) rfl rfl (fun _ h => .inl h) e2)
  refine q (t :: ts) (v :: vs) (R ++ S) H2 h2 e12 (fun p hp => ?_) (List.nodup_append.mpr ⟨nR, nS, fun a ha b hb z => dj a ha (z ▸ hb)⟩) ?_
  · rcases List.mem_append.mp hp with z | z
    · exact hR p z
    · exact e1.free r.bag (hS p z)
  · rw [Gh.adds_adds] at o2
    have ev := r1.evoAdds e2 hS
    rw [Gh.adds_adds] at ev
    refine ⟨v, vs, R, S, rfl, Ow.evo ev t v R (fun p hp => ⟨.inr (List.mem_append_left _ hp), ?_⟩) o1, o2, rfl⟩
    have np : p ≠ G.bg := fun z => by
      have := r.bag.ne
      rw [← z] at this
      exact this (hR p hp)
    cases w : H1 p with
    | none => exact absurd w (own1 p hp).2
    | some o => exact e2.mine np w (.inr hp)
/-- a list of new things and data -/
theorem r_lst (h : PA X es (liftRA F tl)) : PE X (.List es pos) (liftR F (lstR' tl)) := by
  refine pe_imp (pe_lst h) fun σ H Q ⟨G, ρ, k, r, h, q⟩ => ⟨G, ρ, _, r, h, fun ts vs R H1 ⟨hz, h1⟩ e1 hR nR o1 => ⟨by rw [← o1.len]; exact hz, fun p hp => ?_⟩⟩
  have r1 := r.grows e1 hR fun p hp => OwL.mut ts vs R o1 p hp
  have e2 : Ext (G.adds R) H1 (upd H1 p (.lst vs)) := Ext.new r1.bag hp
  have ev := r1.evoAdds e2 (R := [p]) fun a ha => by rw [List.mem_singleton.mp ha]; exact hp
  have pR : p ∉ R := fun z => (OwL.own ts vs R o1 p z).2 hp
  refine q (.l ts) (.ref p) (p :: R) _ h1 (e1.trans (Ext.cg (G := G.adds R) (G' := G) rfl rfl (fun _ h => .inl h) e2)) (fun a ha => ?_) (List.nodup_cons.mpr ⟨pR, nR⟩) ⟨p, vs, R, rfl, .inr List.mem_cons_self, upd_same, ?_, rfl⟩
  · rcases List.mem_cons.mp ha with rfl | ha
    · exact e1.free r.bag hp
    · exact hR a ha
  · rw [Gh.adds_adds] at ev
    have e3 : G.adds (R ++ [p]) = G.adds (p :: R) := by
      unfold Gh.adds
      congr 1
      funext a
      simp [or_comm]
    rw [e3] at ev
    exact Ow.evoL ev ts vs R (fun a ha => ⟨.inr (List.mem_cons_of_mem _ ha), upd_ne fun z => pR (z ▸ ha)⟩) o1
end

/-! ### statements on what is owned -/
def frzT (i : Nat) (S : TSD) : TSD := fun k ρ => match ρ[i]? with
  | some (.tr t) => S k (ρ.set i (.dat t.toD))
  | _ => False
/-- what a def makes anew -/
def newT (i : Nat) (t : TLD) : TSD := fun k ρ => t ρ fun ds => k.nx (ρ.set i (.ml ds))
def newR (i : Nat) (t : TRD) : TSD := fun k ρ => t ρ fun x => k.nx (ρ.set i (.tr x))
abbrev MD := List Tr → List D → (List Tr → Prop) → Prop
/-- x.m(..), x a name that owns its list -/
def mT (i : Nat) (o : MD) (ta : TLD) : TSD := fun k ρ => match ρ[i]? with
  | some (.tr (.l ts)) => ta ρ fun args => o ts args fun us => k.nx (ρ.set i (.tr (.l us)))
  | _ => False
def appD : MD
  | ts, [d], k => ts.length < sizeLine ∧ k (ts ++ [.d d])
  | _, _, _ => False
def extD : MD
  | ts, [.lst es], k => ts.length + es.length ≤ sizeLine ∧ k (ts ++ es.map .d)
  | _, _, _ => False
def insD : MD
  | ts, [.int j, d], k => ts.length < sizeLine ∧ 0 ≤ j ∧ j < 2 ^ 63 ∧ k (ts.take j.toNat ++ [.d d] ++ ts.drop j.toNat)
  | _, _, _ => False
def putT (i : Nat) (t u : TD) : TSD := fun k ρ => match ρ[i]? with
  | some (.tr (.l ts)) => u ρ fun d => t ρ fun x => match x with
    | .int j => optK (ixN ts.length j) fun n => (∃ c, ts[n]? = some (.d c)) ∧ k.nx (ρ.set i (.tr (.l (ts.set n (.d d)))))
    | _ => False
  | _ => False
theorem tl_of {i : Nat} {ρ : List Sl} {f : List Tr → Prop} (h : match ρ[i]? with
  | some (.tr (.l ts)) => f ts
  | _ => False) : ∃ ts, ρ[i]? = some (.tr (.l ts)) ∧ f ts := by
  split at h
  · exact ⟨_, by assumption, h⟩
  · exact h.elim
section
variable {X : Cx} {F : Fr} {st : List Stmt} {S : TSD} {e : Expr} {te : TD} {pos apos cpos : Pos}
theorem ss_frz (i : Nat) (h : PSs X st (liftS F S)) : PSs X st (liftS F (frzT i S)) := by
  refine pss_imp h fun E σ H ⟨G, ρ, k, r, w, o⟩ => ?_
  unfold frzT at w
  split at w
  · rename_i t hi
    obtain ⟨B, r'⟩ := r.frz hi
    exact ⟨_, _, k, r', w, o⟩
  · exact w.elim
theorem s_newR {i : Nat} {x : Str} {pos' : Pos} {ta : TRD} (hN : X.N.Nodup) (hi : X.N[i]? = some x) (hx : Loc X.env.scope x) (he : PE X e (liftR F ta)) (hs : swapsWith e (some (.Name x pos')) pos.line X.env = pure false := by rfl)
    (hf : X.fn x = true ∨ X.env.scope.names.lookup x = some .local := by first | exact .inl rfl | exact .inr rfl | assumption) : PS X (.Assign [.Name x pos'] e pos) (liftS F (newR i ta)) := by
  refine ps_imp (ps_set hN hi hx he hs hf) fun E σ H ⟨G, ρ, k, r, h, o⟩ => ⟨G, ρ, _, r, h, fun t v R H1 h1 e1 hR nR o1 => ?_⟩
  obtain ⟨L, rl⟩ := r.adrs
  exact o.nx _ _ _ H1 h1 ((rl.grows e1 hR fun p hp => Ow.mut t v R o1 p hp).give (i := i) o1 nR (fun p hp z => r.free (hR p hp) (r.sub p z)) fun p hp => rl.new (hR p hp))
theorem s_new {i : Nat} {x : Str} {pos' : Pos} {ta : TLD} (hN : X.N.Nodup) (hi : X.N[i]? = some x) (hx : Loc X.env.scope x) (he : PE X e (liftF F ta)) (hs : swapsWith e (some (.Name x pos')) pos.line X.env = pure false := by rfl)
    (hf : X.fn x = true ∨ X.env.scope.names.lookup x = some .local := by first | exact .inl rfl | exact .inr rfl | assumption) : PS X (.Assign [.Name x pos'] e pos) (liftS F (newT i ta)) :=
  ps_imp (s_newR hN hi hx (r_tree he) hs hf) fun E σ H ⟨G, ρ, k, r, h, o⟩ => ⟨G, ρ, k, r, h, o⟩
theorem s_meth {i : Nat} {r : V → List V → Hp → VK → Prop} {o : MD} {ta : TLD} (hr : ∀ (G : Gh) (H : Hp) (p : Addr) (xs : List V) (ts : List Tr) (M : List Addr) (args : List D) (vs : List V) (k : List Tr → Prop) (Q : VK), H p = some (.lst xs) → OwL F.K G H ts xs M → DtL F.K G H args vs → o ts args k →
      (∀ us ys w, k us → OwL F.K G H us ys M → Q w (upd H p (.lst ys))) → r (.ref p) vs H Q)
    (hpe : PE X e (tBM X.K "list" r (tVar i) (liftA F ta))) (hs : swapsWith e none pos.line X.env = pure false := by rfl) : PS X (.Expr e pos) (liftS F (mT i o ta)) := by
  refine ps_imp (ps_expr hpe hs) fun E σ H ⟨G, ρ, k, r, h, o⟩ => ?_
  obtain ⟨ts, hi, h⟩ := tl_of h
  obtain ⟨v, B, e1, ⟨p, xs, M, rfl, o2, h4, h5, rfl⟩, _, _, _⟩ := r.chg hi
  refine ⟨_, e1, .inl ⟨rfl, _, SqL.of h4⟩, G, ρ, _, r, h, fun args vs H1 h1 x1 d1 => ?_⟩
  have r1 := r.step x1
  obtain ⟨v, B, e1', ⟨p', xs, M, rfl, o2, h4, h5, rfl⟩, nB, _, ch⟩ := r1.chg hi
  rw [e1] at e1'
  cases e1'
  refine hr G H1 p xs ts M args vs _ _ h4 h5 d1 h1 fun us ys w hk hd => ?_
  have np : p ∉ M := (List.nodup_cons.mp nB).1
  have ev : Evo G G H1 (upd H1 p (.lst ys)) := ⟨fun a u n h => .inl (by rw [upd_ne (fun z => n (by rw [z]; exact o2))]; exact h), r1.tr, fun _ n _ => n, rfl, rfl⟩
  exact o.nx _ G σ _ hk (ch p _ (.l us) List.mem_cons_self True.intro ⟨p, ys, M, rfl, o2, upd_same, Ow.evoL ev us ys M (fun q hq => ⟨(OwL.own us ys M hd q hq).1, upd_ne fun z => np (z ▸ hq)⟩) hd, rfl⟩)
theorem s_app (i : Nat) {x : Str} {px : Pos} {ta : TLD} (ha : PA X [e] (liftA F ta))
    (hpe : PE X (.Call (.Attribute (.Name x px) "append" apos) [e] [] cpos) (tBM X.K "list" rAppend (tVar i) (liftA F ta))) (hs : swapsWith (.Call (.Attribute (.Name x px) "append" apos) [e] [] cpos) none pos.line X.env = pure false := by rfl) :
    PS X (.Expr (.Call (.Attribute (.Name x px) "append" apos) [e] [] cpos) pos) (liftS F (mT i appD ta)) := by
  refine s_meth (fun G H p xs ts M args vs k Q hp hd ha h q => ?_) hpe hs
  unfold appD at h
  split at h
  · obtain ⟨v, rfl, hv⟩ := dl1 ha
    exact ⟨p, xs, v, rfl, rfl, hp, by rw [← hd.len]; exact h.1, q _ _ _ h.2 (by have := hd.app (OwL.one hv); rwa [List.append_nil] at this)⟩
  · exact h.elim
theorem s_ext (i : Nat) {x : Str} {px : Pos} {ta : TLD} (ha : PA X [e] (liftA F ta))
    (hpe : PE X (.Call (.Attribute (.Name x px) "extend" apos) [e] [] cpos) (tBM X.K "list" rExtend (tVar i) (liftA F ta))) (hs : swapsWith (.Call (.Attribute (.Name x px) "extend" apos) [e] [] cpos) none pos.line X.env = pure false := by rfl) :
    PS X (.Expr (.Call (.Attribute (.Name x px) "extend" apos) [e] [] cpos) pos) (liftS F (mT i extD ta)) := by
  refine s_meth (fun G H p xs ts M args vs k Q hp hd ha h q => ?_) hpe hs
  unfold extD at h
  split at h
  · obtain ⟨v, rfl, a, zs, rfl, n, hz, hv⟩ := dl1 ha
    exact ⟨p, a, xs, zs, rfl, rfl, hp, hz, by rw [← hd.len, ← hv.len]; exact h.1, q _ _ _ h.2 (by have := hd.app (Ow.ofL hv); rwa [List.append_nil] at this)⟩
  · exact h.elim
theorem s_ins (i : Nat) {x : Str} {px : Pos} {e2 : Expr} {ta : TLD} (ha : PA X [e, e2] (liftA F ta))
    (hpe : PE X (.Call (.Attribute (.Name x px) "insert" apos) [e, e2] [] cpos) (tBM X.K "list" (fun x vs H Q => ∃ (l : Addr) (xs : List V) (i : Int) (y : V), x = .ref l ∧ vs = [.int i, y] ∧ H l = some (.lst xs) ∧ xs.length < sizeLine ∧ 0 ≤ i ∧ i < 2 ^ 63 ∧
      Q .non (upd H l (.lst (xs.take i.toNat ++ [y] ++ xs.drop i.toNat)))) (tVar i) (liftA F ta))) (hs : swapsWith (.Call (.Attribute (.Name x px) "insert" apos) [e, e2] [] cpos) none pos.line X.env = pure false := by rfl) :
    PS X (.Expr (.Call (.Attribute (.Name x px) "insert" apos) [e, e2] [] cpos) pos) (liftS F (mT i insD ta)) := by
  refine s_meth (fun G H p xs ts M args vs k Q hp hd ha h q => ?_) hpe hs
  unfold insD at h
  split at h
  · rename_i j d
    obtain ⟨v, w, rfl, hv, hw⟩ := dl2 ha
    obtain rfl := hv
    obtain ⟨A, B, rfl, h1, h2⟩ := hd.split j.toNat
    exact ⟨p, xs, _, w, rfl, rfl, hp, by rw [← hd.len]; exact h.1, h.2.1, h.2.2.1, q _ _ _ h.2.2.2 (by have := (h1.app (OwL.one hw)).app h2; rwa [List.append_nil] at this)⟩
  · exact h.elim
/-- x[t] = e, x a name that owns its list -/
theorem s_put (i : Nat) {x : Str} {px tpos : Pos} {t : Expr} {tt : TD} (he : PE X e (lift F te)) (ht : PE X t (lift F tt)) (hN : X.N[i]? = some x := by rfl) (hv : Vis X.env.scope x := by first | exact Or.inl rfl | exact Or.inr (Or.inl rfl) | exact Or.inr (Or.inr rfl)) (hd : (x == ("__debug__" : Str)) = false := by decide)
    (hcd : (x == ("__classdict__" : Str)) = false := by decide)
    (hsub : ∀ v, assign (.Subscript (.Name x px) t tpos) X.env v = (do
      let ov ← holding [v] (eval (.Name x px) X.env)
      let iv ← holding [v, ov] (eval t X.env)
      standAt tpos
      holding [v, ov, iv] (setItem ov iv v)
      release [v, ov, iv] []) := by intro _; rfl)
    (hs : swapsWithSole [.Subscript (.Name x px) t tpos] e pos.line X.env = pure false := by rfl) (hw : swappedStores [.Subscript (.Name x px) t tpos] e X.env = pure none := by rfl) (h1 : (assignEach [.Subscript (.Name x px) t tpos] X.env).map (·.2) = [assign (.Subscript (.Name x px) t tpos) X.env] := by rfl) :
    PS X (.Assign [.Subscript (.Name x px) t tpos] e pos) (liftS F (putT i tt te)) := by
  refine ps_imp (ps_asg he (pg_sub (pe_var hN hv hd hcd) ht set_list hsub) hs hw h1) fun E σ H ⟨G, ρ, k, r, h, o⟩ => ?_
  obtain ⟨ts, hi, h⟩ := tl_of h
  refine ⟨G, ρ, _, r, h, fun d v H1 h1 x1 d1 => ?_⟩
  have r1 := r.step x1
  obtain ⟨u, B, e1, ⟨p, xs, M, rfl, _, _, _, rfl⟩, _, _, _⟩ := r1.chg hi
  refine ⟨_, e1, G, ρ, _, r1, h1, fun j u H2 h2' x2 d2 => ?_⟩
  have r2 := r1.step x2
  obtain ⟨v', B', e1', ⟨p', xs, M, rfl, o2, h4, h5, rfl⟩, nB, _, ch⟩ := r2.chg hi
  rw [e1] at e1'
  cases e1'
  cases j <;> try exact (show False from h2').elim
  obtain ⟨n, hn, ⟨c, hc⟩, hk⟩ := h2'
  obtain rfl := d2
  rw [h5.len] at hn
  refine ⟨p, xs, _, n, rfl, rfl, h4, hn, ?_⟩
  have np : p ∉ M := (List.nodup_cons.mp nB).1
  have ev : Evo G G H2 (upd H2 p (.lst (xs.set n v))) := ⟨fun a u n h => .inl (by rw [upd_ne (fun z => n (by rw [z]; exact o2))]; exact h), r2.tr, fun _ n _ => n, rfl, rfl⟩
  have d3 := (r1.evo x2).dt _ _ d1
  have h6 := h5.set hc d3
  exact o.nx _ G σ _ hk (ch p _ _ List.mem_cons_self True.intro ⟨p, _, M, rfl, o2, upd_same, Ow.evoL ev _ _ M (fun q hq => ⟨(OwL.own _ _ M h6 q hq).1, upd_ne fun z => np (z ▸ hq)⟩) h6, rfl⟩)
end
/-! ### reading what is owned, for a flat result -/
mutual
def D.flat : D → Bool
  | .non => true
  | .bl _ => true
  | .int _ => true
  | .str _ => true
  | .tup ds => D.flats ds
  | _ => false
def D.flats : List D → Bool
  | [] => true
  | d :: ds => d.flat && D.flats ds
end
section
variable {K : PySem.W.Frag} {G G' : Gh} {H H' : Hp}
mutual
theorem Dt.flat (hs : ∀ a xs, SqT K H a xs → SqT K H' a xs) : ∀ (d : D) (v : V), d.flat = true → Dt K G H d v → Dt K G' H' d v
  | .non, v, _, h => h
  | .bl b, v, _, h => h
  | .int i, v, _, h => h
  | .str x, v, _, h => h
  | .tup ds, v, f, h => by
    obtain ⟨a, xs, h1, h3, h4⟩ := h
    exact ⟨a, xs, h1, hs _ _ h3, Dt.flats hs ds xs (by simpa only [D.flat] using f) h4⟩
  | .lst ds, v, f, h => by simp [D.flat] at f
  | .dic t ds, v, f, h => by simp [D.flat] at f
  | .ins C ds, v, f, h => by simp [D.flat] at f
  | .bag, v, f, h => by simp [D.flat] at f
  | .lock _ _, v, f, h => by simp [D.flat] at f
theorem Dt.flats (hs : ∀ a xs, SqT K H a xs → SqT K H' a xs) : ∀ (ds : List D) (vs : List V), D.flats ds = true → DtL K G H ds vs → DtL K G' H' ds vs
  | [], _, _, h => h
  | d :: ds, vs, f, h => by
    obtain ⟨x, r, h1, h2, h3⟩ := h
    simp only [D.flats, Bool.and_eq_true] at f
    exact ⟨x, r, h1, Dt.flat hs d x f.1 h2, Dt.flats hs ds r f.2 h3⟩
end
end
/-! what was locked on the way is unlocked -/
def thaw1 (p : Addr) (H : Hp) : Hp := match H p with
  | some (.frz _ u) => upd H p u
  | _ => H
def thaw : List Addr → Hp → Hp
  | [], H => H
  | p :: R, H => thaw R (thaw1 p H)
theorem thaw1_cases (p : Addr) (H : Hp) : thaw1 p H = H ∨ ∃ o u, H p = some (.frz o u) ∧ thaw1 p H = upd H p u := by
  unfold thaw1
  split
  · rename_i o u e
    exact .inr ⟨o, u, e, rfl⟩
  · exact .inl rfl
theorem thaw1_out {p a : Addr} {H : Hp} (h : a ≠ p) : thaw1 p H a = H a := by
  rcases thaw1_cases p H with e | ⟨o, u, _, e⟩
  · rw [e]
  · rw [e]; exact upd_ne h
theorem thaw_out : ∀ {R : List Addr} {a : Addr} {H : Hp}, a ∉ R → thaw R H a = H a
  | [], _, _, _ => rfl
  | p :: R, a, H, h => by
    rw [List.mem_cons, not_or] at h
    show thaw R (thaw1 p H) a = H a
    rw [thaw_out h.2, thaw1_out h.1]
def Frz : HO → Prop
  | .frz _ _ => True
  | _ => False
theorem thaw1_same {p : Addr} {H : Hp} {o : HO} (n : ¬ Frz o) (h : H p = some o ∨ ∃ od, H p = some (.frz od o)) : thaw1 p H p = some o := by
  unfold thaw1
  rcases h with h | ⟨od, h⟩
  · rw [h]
    cases o <;> first | exact h | exact absurd True.intro n
  · rw [h]
    exact upd_same
theorem thaw_in : ∀ {R : List Addr} {a : Addr} {H : Hp} {o : HO}, ¬ Frz o → (H a = some o ∨ ((∃ od, H a = some (.frz od o)) ∧ a ∈ R)) → thaw R H a = some o
  | [], _, _, _, _, h => h.elim _root_.id fun z => nomatch z.2
  | p :: R, a, H, o, n, h => by
    show thaw R (thaw1 p H) a = some o
    by_cases e : a = p
    · subst e
      exact thaw_in n (.inl (thaw1_same n (h.imp _root_.id fun z => z.1)))
    · refine thaw_in n ?_
      rw [thaw1_out e]
      exact h.imp _root_.id fun z => ⟨z.1, (List.mem_cons.mp z.2).resolve_left e⟩
section
variable {X : Cx} {pins : List (Addr × Obj)} {σ : L2.St} {H : Hp} {s : Shared} {e : Expr}
theorem Inv.thaw : ∀ {R : List Addr} {H : Hp}, Inv X pins σ H s → (∀ p ∈ R, ∀ o' u', X.H_0 p ≠ some (.frz o' u')) → Inv X pins σ (DL.thaw R H) s
  | [], _, I, _ => I
  | p :: R, H, I, n => by
    show Inv X pins σ (DL.thaw R (thaw1 p H)) s
    refine Inv.thaw ?_ fun q hq => n q (List.mem_cons_of_mem _ hq)
    unfold thaw1
    split
    · rename_i o u h
      exact I.unlock h (n p List.mem_cons_self)
    · exact I
theorem pe_thaw {t : TE} (h : PE X e t) : PE X e (fun σ H Q => ∃ R, (∀ p ∈ R, ∃ u, H p = some u ∧ Mut (some u)) ∧ t σ H fun v H' => Q v (DL.thaw R H')) := by
  refine ⟨fun pins s σ H Q I ⟨R, hR, w⟩ => ?_⟩
  refine thn (h.run pins s σ H _ I w) fun v s1 ⟨x, H1, I1, r, q⟩ => ?_
  exact ⟨x, _, Inv.thaw I1 (fun p hp => let ⟨u, h1, h2⟩ := hR p hp; I.nofrz h1 h2), r, q⟩
theorem pt_thaw {t : TT} (h : PT X e t) : PT X e (fun σ H Q => ∃ R, (∀ p ∈ R, ∃ u, H p = some u ∧ Mut (some u)) ∧ t σ H fun v H' => Q v (DL.thaw R H')) := by
  refine ⟨fun pins s σ H Q I ⟨R, hR, w⟩ => ?_⟩
  refine thn (h.run pins s σ H _ I w) fun b s1 ⟨H1, I1, q⟩ => ?_
  exact ⟨_, Inv.thaw I1 (fun p hp => let ⟨u, h1, h2⟩ := hR p hp; I.nofrz h1 h2), q⟩
end
def thruT (i : Nat) (t : TD) : TD := fun ρ k => match ρ[i]? with
  | some (.tr x) => t (ρ.set i (.dat x.toD)) fun d => d.flat = true ∧ k d
  | _ => False
def thruB (i : Nat) (t : TBD) : TBD := fun ρ k => match ρ[i]? with
  | some (.tr x) => t (ρ.set i (.dat x.toD)) k
  | _ => False
section
variable {X : Cx} {F : Fr} {e : Expr} {te : TD} {tb : TBD} {G : Gh} {H H' : Hp} {R : List Addr}
theorem Ext.rem (x : Ext (G.rems R) H H') (hR : ∀ p ∈ R, ∃ u, H p = some u ∧ Mut (some u)) (nb : G.bg ∉ R) (ni : G.bi ∉ R) : Ext G H (DL.thaw R H') := by
  refine ⟨fun a o n h => ?_, ?_⟩
  · by_cases m : a ∈ R
    · obtain ⟨u, h1, h2⟩ := hR a m
      rw [h] at h1
      cases h1
      have nf : ¬ Frz o := fun z => by cases o <;> first | exact z | exact h2
      exact .inl (thaw_in nf ((x.lk n h).imp _root_.id fun z => ⟨z.2, m⟩))
    · rw [thaw_out m]
      exact (x.keep a o n h).imp _root_.id fun z => ⟨fun w => z.1 ⟨w, m⟩, z.2⟩
  · obtain ⟨p, q, r, ns, h1, h2, h3⟩ := x.bag
    exact ⟨p, q, r, ns, by rw [thaw_out nb]; exact h1, by rw [thaw_out ni]; exact h2, h3⟩
theorem thaw_sqt {K : PySem.W.Frag} (x : Ext (G.rems R) H H') (hR : ∀ p ∈ R, ∃ u, H p = some u ∧ Mut (some u)) (nb : G.bg ∉ R) : ∀ a xs, SqT K H' a xs → SqT K (DL.thaw R H') a xs := by
  intro a xs h
  rcases h with h | h
  · refine .inl ?_
    by_cases m : a ∈ R
    · obtain ⟨u, h1, h2⟩ := hR a m
      have q := x.lk (fun z => nb (by rw [← show a = G.bg from z]; exact m)) h1
      exfalso
      rcases h with h | ⟨o, h⟩
      · rcases q with q | ⟨d, od, q⟩
        · rw [h] at q; cases q; exact h2
        · rw [h] at q; cases q
      · rcases q with q | ⟨d, od, q⟩
        · rw [h] at q; cases q; exact h2
        · rw [h] at q; cases q; exact d
    · rcases h with h | ⟨o, h⟩
      · exact .inl (by rw [thaw_out m]; exact h)
      · exact .inr ⟨o, by rw [thaw_out m]; exact h⟩
  · exact .inr h
theorem Rel.frzR {σ : L2.St} {ρ : List Sl} (r : Rel F G H σ ρ) {i : Nat} {t : Tr} (hi : ρ[i]? = some (.tr t)) : ∃ B, Rel F (G.rems B) H σ (ρ.set i (.dat t.toD)) ∧ (∀ p ∈ B, ∃ u, H p = some u ∧ Mut (some u)) ∧ G.bg ∉ B ∧ G.bi ∉ B := by
  obtain ⟨B, v, r', hw, hn⟩ := r.frzA hi
  refine ⟨B, r', fun p hp => ?_, fun z => hn _ z (by rw [r.bg]; exact r.ob), fun z => hn _ z (by rw [r.bi]; exact r.oi)⟩
  have m := Ow.mut t v B hw p hp
  cases q : H p with
  | none => rw [q] at m; exact m.elim
  | some u => exact ⟨u, rfl, by rw [q] at m; exact m⟩
theorem d_thru (i : Nat) (h : PE X e (lift F te)) : PE X e (lift F (thruT i te)) := by
  refine pe_imp (pe_thaw h) fun σ H Q ⟨G, ρ, k, r, w, q⟩ => ?_
  unfold thruT at w
  split at w
  · rename_i t hi
    obtain ⟨B, r', hB, nb, ni⟩ := r.frzR hi
    exact ⟨B, hB, _, _, _, r', w, fun d v H' ⟨f, h⟩ x hd => q d v _ h (x.rem hB nb ni) (Dt.flat (thaw_sqt x hB nb) d v f hd)⟩
  · exact w.elim
theorem t_thru (i : Nat) (h : PT X e (liftT F tb)) : PT X e (liftT F (thruB i tb)) := by
  refine pt_imp (pt_thaw h) fun σ H Q ⟨G, ρ, k, r, w, q⟩ => ?_
  unfold thruB at w
  split at w
  · rename_i t hi
    obtain ⟨B, r', hB, nb, ni⟩ := r.frzR hi
    exact ⟨B, hB, _, _, _, r', w, fun b H' h x => q b _ h (x.rem hB nb ni)⟩
  · exact w.elim
end

/-! ### a def of data by its body -/
theorem slots_un {F : Fr} {G : Gh} {H : Hp} : ∀ n : Nat, Slots F G H (List.replicate n .un) (List.replicate n none) []
  | 0 => ⟨rfl, rfl⟩
  | n + 1 => ⟨none, _, [], [], rfl, rfl, slots_un n, rfl⟩
theorem slots_start {F : Fr} {G : Gh} {H : Hp} (n : Nat) : ∀ {ds : List D} {vs : List V}, DtL F.K G H ds vs → Slots F G H (ds.map .dat ++ List.replicate n .un) (vs.map some ++ List.replicate n none) []
  | [], vs, h => by
    obtain rfl : vs = [] := h
    exact slots_un n
  | d :: ds, vs, h => by
    obtain ⟨x, r, rfl, h1, h2⟩ := h
    exact ⟨some x, _, [], [], rfl, ⟨rfl, x, rfl, h1⟩, slots_start n h2, rfl⟩
/-- the entry's slots -/
def enterS (n : Nat) (ds : List D) : List Sl := ds.map .dat ++ List.replicate (n - ds.length) .un
def endD (k : D → Prop) : DE := ⟨fun _ => k .non, fun t => k t.toD, fun _ => False, fun _ => False⟩
/-- what is new, as data -/
theorem ow_toD {K : PySem.W.Frag} {G : Gh} {H H' : Hp} {t : Tr} {v : V} {R : List Addr} (ok : GOk G H) (x : Ext G H H') (hR : ∀ p ∈ R, H p = none) (ho : Ow K (G.adds R) H' t v R) : Dt K G H' t.toD v := by
  have tr : ∀ a, (G.adds R).own a → Mut (H' a) := fun a z => z.elim (Ext.tr' ok.ob ok.tr x a) fun z => Ow.mut t v R ho a z
  have h := Ow.dt tr t v R (fun _ z => z) ho
  refine Evo.dt (G := (G.adds R).rems R) ⟨fun _ _ _ h => .inl h, fun a z => tr a z.1, fun a n _ z => n ⟨.inl z, fun w => ?_⟩, rfl, rfl⟩ _ _ h
  have m := ok.tr a z
  rw [hR a w] at m
  exact m
open PySem.Spec PyProof.Rows in
theorem Fun.okD {P : Program} {w : World} {K : PySem.W.Frag} {mg : Str → Option Value} {base : Heap} {x qual : Str} {st : Stmt} {f : Addr} {fd : FuncData} {N ps : List Str} {k : Nat} {R : RD} (Fn : Fun K x qual st f fd) (S : FnScope N ps (defScope st))
    (len : ∀ ds k, R ds k → ds.length = ps.length)
    (hb : ∃ T : TSD, (∀ (cdv : Value) (A : Around) (outer : List Env) (s : Shared) (H : Hp) (E : XK) (G : Gh) (H' : Hp) (pn : List (V × D)), Room k (A.deeper (envOfC qual (defScope st) s.heap.objs.size f cdv)) → A.guards = some [] →
      PSs (cxOf CX0 P w K mg base N qual (defScope st) f cdv A outer s H E).nox (defBody st) (liftS ⟨K, G, H', pn⟩ T)) ∧ ∀ ds κ, R ds κ → T (endD κ) (enterS N.length ds)) : FnG P w K mg base CX0 (k + 1) f fd ps (spD K R) := by
  obtain ⟨oc, od, kV, doc, pm, an, cdv, ct, osl, rfl, lk, hcd⟩ := Fn.ex
  obtain ⟨T, hb, hq⟩ := hb
  refine fnG_of lk hcd S (fun vs H Q E h => ?_) fun A outer s H vs Q E hr hg h => ?_
  · obtain ⟨G, ds, κ, _, hd, hR, _⟩ := h
    rw [← hd.len]; exact len ds κ hR
  · obtain ⟨G, ds, κ, ok, hd, hR, q⟩ := h
    refine ⟨_, (hb cdv A outer s H E G H [] hr hg).nox, G, _, endD κ, ⟨rfl, rfl, ok.ob, ok.oi, fun _ h => h, fun a h n => absurd h n, ok.tr, .refl ok.bag, (fun _ z => nomatch z), [], ?_, List.nodup_nil⟩, hq ds κ hR,
      ⟨fun ρ G' σ' H' h r => q .non .non H' h r.ext rfl, fun t v R H' h x hR nR ho => q t.toD v H' h x (ow_toD ok x hR ho), fun _ _ _ _ h _ => h.elim, fun _ _ _ _ h _ => h.elim⟩⟩
    unfold enterS L2.start
    rw [hd.len]
    exact slots_start _ hd
end DL

set_option Elab.async false
set_option linter.all false
set_option maxRecDepth 100000
set_option maxHeartbeats 4000000
namespace DL
open PySem PySem.Spec PyProof.Rows L2

/-! ### enumerate(v), v a tuple -/
theorem meets_enum1 {v : Value} {o : Obj} {H : Heap → Prop} (B : Begins v o H) :
    Meets (Builtin.«enumerate.__new__» ⟨[.type "enumerate", v], []⟩) (fun _ R s => H s.heap ∧
      R (.ok (.ret (.ref (s.heap.push o).objs.size))) { s with heap := (s.heap.push o).push { cls := .type "enumerate", data := .fields #[.none, .bool false, .ref s.heap.objs.size, rawInt 0, .none, .none] } }) :=
  .of_wp fun prog w A R s h => by
    obtain ⟨hp, g, d, tk, os⟩ := s; obtain ⟨h1, h⟩ := h
    have hsub := sub_enumerate
    have q1 : ∀ {A' : Around} {E : Value → Shared → Prop} {Q : Value → Shared → Prop}, Q (.ref hp.objs.size) ⟨hp.push o, g, d, tk, os⟩ → wpAny (model prog w) A' (pyIter v) Q E ⟨hp, g, d, tk, os⟩ :=
      fun q => B.iter prog w _ _ ⟨hp, g, d, tk, os⟩ _ h1 q
    wp_walk using q1
    refine wpAny_stack_any fun st => wpAny_pure ?_
    split
    · rename_i c _ _ _ _ _
      cases (c == Value.type "enumerate")
      · wp_walk using q1
        exact ⟨_, rfl, h⟩
      · wp_walk using q1
        exact ⟨_, rfl, h⟩
    · wp_walk using q1
      exact ⟨_, rfl, h⟩
theorem enum_tup {prog : Program} {w : World} {A : Around} {E : Value → Shared → Prop} {s : Shared} {v : Value} {o : Obj} {H : Heap → Prop} {Q : Value → Shared → Prop} (B : Begins v o H) (h1 : H s.heap)
    (h : ∀ h', IsEnum h' (s.heap.objs.size + 1) s.heap.objs.size 0 .none → h'.get? s.heap.objs.size = some o → h'.objs.size = s.heap.objs.size + 2 →
      (∀ b o, s.heap.get? b = some o → h'.get? b = some o) → Q (.ref (s.heap.objs.size + 1)) { s with heap := h' }) :
    wpAny (model prog w) A (call (.type "enumerate") [v]) Q E s := by
  refine callType_new F.called_enumerate (by decide) (F.typeCall_enumerate_1 _) (F.newCall_enumerate_1 _) (fun obj => F.args_object_init_2 obj _) F.entry_enumerate_new
    (meets_enum1 B) ⟨h1, ?_⟩
  have hz : (s.heap.push o).objs.size = s.heap.objs.size + 1 := Heap.size_push ..
  show _ ∧ _
  rw [hz]
  have he : IsEnum ((s.heap.push o).push { cls := .type "enumerate", data := .fields #[.none, .bool false, .ref s.heap.objs.size, rawInt 0, .none, .none] }) (s.heap.objs.size + 1) s.heap.objs.size 0 .none := by
    have := Heap.get?_push_size (s.heap.push o) (o := { cls := .type "enumerate", data := .fields #[.none, .bool false, .ref s.heap.objs.size, rawInt 0, .none, .none] }) rfl
    rw [hz] at this; exact this
  refine ⟨⟨_, he, rfl⟩, h _ he (Heap.get?_push_of_some _ (Heap.get?_push_size _ B.free)) (by rw [Heap.size_push, hz]) fun b o x => Heap.get?_push_of_some _ (Heap.get?_push_of_some _ x)⟩

/-- the tuple at a as it stands at each turn, each item in a new pair -/
def IteT (K : PySem.W.Frag) (a : Addr) : It :=
  ⟨fun i H => ∃ (xs : List V) (x : V), SqT K H a xs ∧ xs[i]? = some x, fun i H v H' => ∃ T x, v = .ref T ∧ H T = none ∧ H' = upd H T (.tup [.int (i : Nat), x]) ∧ ∀ xs, SqT K H a xs → xs[i]? = some x, fun i H => ∃ xs : List V, SqT K H a xs ∧ xs.length ≤ i⟩
theorem turn_enumT {P : Program} {w : World} {K : PySem.W.Frag} {elts : List Expr} {kk : Nat} {tpos : Pos} (a e it : Addr) (hai : a ≠ it) (hae : a ≠ e) :
    Turn P w K (.Tuple elts kk tpos) (IteT K a) [e, it] e (fun i h => (∃ old, IsEnum h e it ((i : Nat) : Int) old) ∧ h.IsTupleIter it a i ∧ e ≠ it) where
  mem := by simp
  obj := fun i h st b hb => by
    obtain ⟨⟨old, he⟩, ⟨o, ho, hc, hd⟩, _⟩ := st
    have e' : b = e ∨ b = it := by simpa using hb
    rcases e' with z | z
    · rw [z]; exact ⟨_, he, fun v q => nomatch q⟩
    · rw [z]; exact ⟨o, ho, fun v q => by rw [hd] at q; cases q⟩
  keep := fun i h h' st k => let ⟨⟨old, he⟩, hi, hne⟩ := st; ⟨⟨old, k e (by simp) _ he⟩, hi.at fun o q => k it (by simp) o q, hne⟩
  item := by
    intro X hP hw hK hc i pins s σ H E I hf st hg
    subst hP hw hK
    obtain ⟨⟨old, he⟩, hit, hne⟩ := st
    obtain ⟨xs, x, hq, hx⟩ := hg
    obtain ⟨its, rv, p, hz⟩ := I.tuple hq
    obtain ⟨u, hu, ru⟩ := rv.get hx
    have hel : e < s.heap.objs.size := Heap.lt_size he
    have hil : it < s.heap.objs.size := by obtain ⟨_, q, _⟩ := hit; exact Heap.lt_size q
    have hl : i < its.toArray.size := by
      have := (List.getElem?_eq_some_iff.mp hu).1
      simpa using this
    have pt : s.heap.IsTuple a its.toArray := p
    refine wpAny_pyNext_enum_itemC (c := (i : Int)) (Draws.tuple (A := X.A.in1) (I.ok.hd hc) it a hai its.toArray) he ⟨hit, pt⟩ hl hne (by simp only [List.mem_cons, List.not_mem_nil, or_false, not_or]; exact ⟨hne, Ne.symm hae⟩) fun y h' tk hPx ho hs' hT hsz hk => ?_
    obtain rfl : u = y := by
      have e1 : its.toArray[i]? = some u := by simpa using hu
      rw [e1] at hPx
      exact Option.some.inj hPx
    refine ⟨_, rfl, wpAny_letOwnedTupleGo_enum (s := { s with heap := h', toks := tk + 1 }) ho fun h'' he' sb => ?_⟩
    have hT2 : h''.get? s.heap.objs.size = some { cls := .type "tuple", data := .seq #[.int i tk, u] } := (sb.2 _ (Nat.ne_of_gt hel)).trans hT
    have new : ObjOk X.prog X.w (upd H s.heap.objs.size (.tup [.int (i : Nat), x])) h'' s.heap.objs.size (.tup [.int (i : Nat), x]) :=
      ⟨by show 2 ≤ sizeLine; decide, [.int i tk, u], .cons ⟨_, rfl⟩ (.cons ru .nil), ⟨_, hT2, rfl, _, rfl⟩⟩
    have I1 : Inv X pins σ (upd H s.heap.objs.size (.tup [.int (i : Nat), x])) { s with heap := h'', toks := tk + 1 } :=
      I.turnedNew (ch := [e, it]) (fun b ob hb q => (sb.2 b (fun z => hb (by simp [z]))).trans (hk b ob (fun z => hb (by simp [z])) (fun z => hb (by simp [z])) q)) hf (Nat.le_refl _) new
    refine ⟨.ref s.heap.objs.size, _, I1, rfl, ⟨_, x, rfl, I.hok.fresh (Nat.le_refl _), rfl, fun ys hy => by rw [I.tuple_inj hy hq]; exact hx⟩, ⟨⟨u, ?_⟩, hs'.1.at fun o q => (sb.2 it (Ne.symm hne)).trans q, hne⟩, fun b hb => ?_⟩
    · have e1 : ((i + 1 : Nat) : Int) = (i : Int) + 1 := by omega
      rw [e1]; exact he'
    · have hb' : b < s.heap.objs.size := by
        have e' : b = e ∨ b = it := by simpa using hb
        rcases e' with z | z
        · rw [z]; exact hel
        · rw [z]; exact hil
      rw [upd_ne (Nat.ne_of_lt hb')]
      exact (hf b hb).1
  done := by
    intro X hP hw hK hc i pins s σ H E I hf st hg
    subst hP hw hK
    obtain ⟨⟨old, he⟩, hit, hne⟩ := st
    obtain ⟨xs, hq, hx⟩ := hg
    obtain ⟨its, rv, p, hz⟩ := I.tuple hq
    obtain ⟨f0, f1, f2, f3, f4, f5⟩ := hf it (by simp)
    have hl := rv.length
    have pt : s.heap.IsTuple a its.toArray := p
    have D : Draws X.prog X.w X.A.in1 it [it, a] i (fun i v => its.toArray[i]? = some v) (fun j h => (h.IsTupleIter it a j ∧ h.IsTuple a its.toArray) ∧ j = i) :=
      { live := fun _ _ st => let ⟨o, ho, _⟩ := st.1.1; ⟨o, ho⟩
        frame := fun _ _ _ st hk => ⟨⟨st.1.1.at fun o e => hk it (by simp) o e, st.1.2.at fun o e => hk a (by simp) o e⟩, st.2⟩
        item := fun j s Q E hi st hQ => absurd st.2 (Nat.ne_of_lt hi)
        done := fun s Q E st hE => wpAny_nextOf_tuple_end (I.ok.hd hc) st.1.1 st.1.2 (by simp; omega) hE }
    exact wpAny_pyNext_enum_endD D he ⟨⟨hit, pt⟩, rfl⟩ fun h' eb => ⟨rfl, I.turned (t' := s.toks) (fun b o hb q => eb b o hb q) f0 f1 f3 f4 f5⟩
  self := fun A i s Q E st h => let ⟨⟨_, he⟩, _⟩ := st; wpAny_pyIter_enum he h

def iEnumA (K : PySem.W.Frag) (ta : TA) : TI := fun σ H R => ta σ H fun vs H1 => ∃ a xs, vs = [.ref a] ∧ ((SqL K H1 a xs ∧ R (Ite K a) H1) ∨ (SqT K H1 a xs ∧ R (IteT K a) H1))
theorem pi_enumA {X : Cx} {e : Expr} {ta : TA} {p pos tpos : Pos} {elts : List Expr} {kk : Nat} (hg : Gl X "enumerate") (hm : X.mg "enumerate" = none) (ha : PA X [e] ta) (hs : starEach [e] X.env = [(false, eval e X.env)] := by rfl) :
    PI X (.Tuple elts kk tpos) (.Call (.Name "enumerate" p) [e] [] pos) (iEnumA X.K ta) := by
  refine ⟨fun pins s σ H R I h => ?_⟩
  refine Call_ (ld_blt I hg hm boot_enumerate (PyProof.Rows.callWith_type1 (thn (ha.run pos pins s σ H _ I h) fun us s1 ⟨vs, H1, I1, r1, q1⟩ => ?_) hs rfl))
  obtain ⟨a, xs, ex, q1⟩ := q1
  subst ex
  have fresh2 : ∀ b, b ∈ [s1.heap.objs.size + 1, s1.heap.objs.size] → FpOk X pins H1 b := fun b hb => by
    have e' : b = s1.heap.objs.size + 1 ∨ b = s1.heap.objs.size := by simpa using hb
    have hle : s1.heap.objs.size ≤ b := by
      rcases e' with z | z
      · rw [z]; exact Nat.le_add_right _ _
      · rw [z]; exact Nat.le_refl _
    exact I1.fpOk hle (I1.hok.fresh hle)
  cases r1 with
  | cons r rr =>
    cases rr
    cases r
    rcases q1 with ⟨hq, q⟩ | ⟨hq, q⟩
    · obtain ⟨its, rv, p', hz⟩ := I1.list hq
      refine call_enumerate_list p'.isList fun h' he hit hsz hk => wpAny_pyIter_enum he ?_
      have I2 : Inv X pins σ H1 { s1 with heap := h' } := I1.kept (t' := s1.toks) hk
      exact ⟨s1.heap.objs.size + 1, [s1.heap.objs.size + 1, s1.heap.objs.size], _, _, H1, rfl, I2, turn_enum a (s1.heap.objs.size + 1) s1.heap.objs.size, ⟨⟨.none, he⟩, hit, Nat.succ_ne_self _⟩, fresh2, q⟩
    · obtain ⟨its, rv, p', hz⟩ := I1.tuple hq
      obtain ⟨o1, ho1, _⟩ := id p'
      have hal : a < s1.heap.objs.size := Heap.lt_size ho1
      refine enum_tup (begins_tuple a its.toArray) (show s1.heap.IsTuple a its.toArray from p') fun h' he hit hsz hk => wpAny_pyIter_enum he ?_
      have I2 : Inv X pins σ H1 { s1 with heap := h' } := I1.kept (t' := s1.toks) hk
      exact ⟨s1.heap.objs.size + 1, [s1.heap.objs.size + 1, s1.heap.objs.size], _, _, H1, rfl, I2, turn_enumT a (s1.heap.objs.size + 1) s1.heap.objs.size (Nat.ne_of_lt hal) (Nat.ne_of_lt (Nat.lt_succ_of_lt hal)), ⟨⟨.none, he⟩, ⟨_, hit, rfl, rfl⟩, Nat.succ_ne_self _⟩, fresh2, q⟩

/-! ### walks over pairs -/
section
variable {K : PySem.W.Frag}
theorem dt_pair {G : Gh} {H : Hp} {T : Addr} {d d' : D} {x y : V} (ok : GOk G H) (hT : H T = none) (h1 : Dt K G H d x) (h2 : Dt K G H d' y) : Dt K G (upd H T (.tup [x, y])) (.tup [d, d']) (.ref T) := by
  have e : Ext G H (upd H T (.tup [x, y])) := Ext.new ok.bag hT
  have ev : Evo G G H (upd H T (.tup [x, y])) := ⟨fun a o n h => e.lk (fun z => n (by rw [z]; exact ok.ob)) h, ok.tr, fun _ n _ => n, rfl, rfl⟩
  exact ⟨T, [x, y], rfl, .inl (.inl upd_same), x, [y], rfl, ev.dt _ _ h1, y, [], rfl, ev.dt _ _ h2, rfl⟩
def numb (ds : List D) : List D := ds.mapIdx fun i d => .tup [.int (i : Int), d]
theorem numb_len (ds : List D) : (numb ds).length = ds.length := List.length_mapIdx
theorem numb_get {ds : List D} {i : Nat} {d : D} (h : ds[i]? = some d) : (numb ds)[i]? = some (.tup [.int (i : Int), d]) := by
  unfold numb; rw [List.getElem?_mapIdx, h]; rfl
theorem walk_enum {a : Addr} {ds : List D} : Walk K [(.ref a, .lst ds)] (Ite K a) (numb ds) := by
  intro i G H ok hp
  obtain ⟨b, xs, e, n, ha, hl⟩ := hp (.ref a, .lst ds) (List.mem_singleton.mpr rfl)
  cases e
  rw [numb_len]
  refine ⟨fun hi => ⟨⟨xs, xs[i]'(by rw [← hl.len]; exact hi), SqL.of ha, List.getElem?_eq_getElem _⟩, fun v H' y => ?_⟩, fun hi => ⟨xs, SqL.of ha, by rw [← hl.len]; exact hi⟩⟩
  obtain ⟨T, x, rfl, hT, rfl, y⟩ := y
  obtain ⟨d, hd, hx⟩ := hl.get' (y xs (SqL.of ha))
  exact ⟨fun a o h => by rw [upd_ne (ne_of_none h hT)]; exact h, _, numb_get hd, dt_pair (d := .int (i : Int)) ok hT rfl hx⟩
theorem walk_enumT {a : Addr} {ds : List D} : Walk K [(.ref a, .tup ds)] (IteT K a) (numb ds) := by
  intro i G H ok hp
  obtain ⟨b, xs, e, ha, hl⟩ := hp (.ref a, .tup ds) (List.mem_singleton.mpr rfl)
  cases e
  rw [numb_len]
  refine ⟨fun hi => ⟨⟨xs, xs[i]'(by rw [← hl.len]; exact hi), ha, List.getElem?_eq_getElem _⟩, fun v H' y => ?_⟩, fun hi => ⟨xs, ha, by rw [← hl.len]; exact hi⟩⟩
  obtain ⟨T, x, rfl, hT, rfl, y⟩ := y
  obtain ⟨d, hd, hx⟩ := hl.get' (y xs ha)
  exact ⟨fun a o h => by rw [upd_ne (ne_of_none h hT)]; exact h, _, numb_get hd, dt_pair (d := .int (i : Int)) ok hT rfl hx⟩
def pairD (ds es : List D) : List D := (ds.zip es).map fun q => .tup [q.1, q.2]
theorem pairD_len (ds es : List D) : (pairD ds es).length = min ds.length es.length := by unfold pairD; rw [List.length_map, List.length_zip]
theorem pairD_get {ds es : List D} {i : Nat} {d e : D} (h : ds[i]? = some d) (h' : es[i]? = some e) : (pairD ds es)[i]? = some (.tup [d, e]) := by
  unfold pairD; rw [List.getElem?_map, show (ds.zip es)[i]? = some (d, e) from List.getElem?_zip_eq_some.mpr ⟨h, h'⟩]; rfl
theorem walk_zip {a b : Addr} {ds es : List D} : Walk K [(.ref a, .lst ds), (.ref b, .lst es)] (Itz K a b) (pairD ds es) := by
  intro i G H ok hp
  obtain ⟨a', xs, e, n, ha, hl⟩ := hp (.ref a, .lst ds) (by simp)
  cases e
  obtain ⟨b', ys, e, n', hb, hm⟩ := hp (.ref b, .lst es) (by simp)
  cases e
  rw [pairD_len]
  have l1 := hl.len
  have l2 := hm.len
  refine ⟨fun hi => ⟨⟨xs, ys, xs[i]'(by omega), ys[i]'(by omega), SqL.of ha, SqL.of hb, List.getElem?_eq_getElem _, List.getElem?_eq_getElem _⟩, fun v H' y => ?_⟩, fun hi => ⟨xs, ys, SqL.of ha, SqL.of hb, by omega⟩⟩
  obtain ⟨T, x, y, rfl, hT, rfl, y1, y2⟩ := y
  obtain ⟨d, hd, hx⟩ := hl.get' (y1 xs (SqL.of ha))
  obtain ⟨d', hd', hy⟩ := hm.get' (y2 ys (SqL.of hb))
  exact ⟨fun a o h => by rw [upd_ne (ne_of_none h hT)]; exact h, _, pairD_get hd hd', dt_pair ok hT hx hy⟩
theorem walk_zipT {a b : Addr} {ds es : List D} : Walk K [(.ref a, .tup ds), (.ref b, .tup es)] (RZ.ItzT K a b) (pairD ds es) := by
  intro i G H ok hp
  obtain ⟨a', xs, e, ha, hl⟩ := hp (.ref a, .tup ds) (by simp)
  cases e
  obtain ⟨b', ys, e, hb, hm⟩ := hp (.ref b, .tup es) (by simp)
  cases e
  rw [pairD_len]
  have l1 := hl.len
  have l2 := hm.len
  refine ⟨fun hi => ⟨⟨xs, ys, xs[i]'(by omega), ys[i]'(by omega), ha, hb, List.getElem?_eq_getElem _, List.getElem?_eq_getElem _⟩, fun v H' y => ?_⟩, fun hi => ⟨xs, ys, ha, hb, by omega⟩⟩
  obtain ⟨T, x, y, rfl, hT, rfl, y1, y2⟩ := y
  obtain ⟨d, hd, hx⟩ := hl.get' (y1 xs ha)
  obtain ⟨d', hd', hy⟩ := hm.get' (y2 ys hb)
  exact ⟨fun a o h => by rw [upd_ne (ne_of_none h hT)]; exact h, _, pairD_get hd hd', dt_pair ok hT hx hy⟩
end
def enumI (t : TLD) : TLD := fun ρ k => t ρ fun ds => match ds with
  | [.lst xs] => k (numb xs)
  | [.tup xs] => k (numb xs)
  | _ => False
def zipI (t : TLD) : TLD := fun ρ k => t ρ fun ds => match ds with
  | [.lst xs, .lst ys] => k (pairD xs ys)
  | [.tup xs, .tup ys] => k (pairD xs ys)
  | _ => False
section
variable {X : Cx} {F : Fr} {a b : Expr} {ta : TLD} {p pos tpos : Pos} {elts : List Expr} {kk : Nat}
theorem i_enum (hg : Gl X "enumerate") (hm : X.mg "enumerate" = none) (ha : PA X [a] (liftA F ta)) (hs : starEach [a] X.env = [(false, eval a X.env)] := by rfl) (hK : X.K = F.K := by rfl) : PI X (.Tuple elts kk tpos) (.Call (.Name "enumerate" p) [a] [] pos) (liftI F (enumI ta)) := by
  refine pi_imp (pi_enumA hg hm ha hs) fun σ H R ⟨G, ρ, k, r, h, q⟩ => ⟨G, ρ, _, r, h, fun ds vs H1 h1 e1 d1 => ?_⟩
  rw [hK]
  split at h1
  · obtain ⟨v, rfl, hv⟩ := dl1 d1
    obtain ⟨a, xs, rfl, n, ha, hl⟩ := id hv
    exact ⟨a, xs, rfl, .inl ⟨SqL.of ha, q _ _ H1 _ h1 e1 walk_enum fun z hz => by obtain rfl := List.mem_singleton.mp hz; exact hv⟩⟩
  · obtain ⟨v, rfl, hv⟩ := dl1 d1
    obtain ⟨a, xs, rfl, ha, hl⟩ := id hv
    exact ⟨a, xs, rfl, .inr ⟨ha, q _ _ H1 _ h1 e1 walk_enumT fun z hz => by obtain rfl := List.mem_singleton.mp hz; exact hv⟩⟩
  · exact h1.elim
theorem i_zip (hg : Gl X "zip") (hm : X.mg "zip" = none) (ha : PA X [a, b] (liftA F ta)) (hs : starEach [a, b] X.env = (false, eval a X.env) :: starEach [b] X.env := by rfl) (hpl : (backTo pos (starEach [b] X.env)).any (·.1) = false := by rfl) (hK : X.K = F.K := by rfl) :
    PI X (.Tuple elts kk tpos) (.Call (.Name "zip" p) [a, b] [] pos) (liftI F (zipI ta)) := by
  refine pi_imp (RZ.pi_zipA hg hm ha hs hpl) fun σ H R ⟨G, ρ, k, r, h, q⟩ => ⟨G, ρ, _, r, h, fun ds vs H1 h1 e1 d1 => ?_⟩
  rw [hK]
  split at h1
  · obtain ⟨v, u, rfl, hv, hu⟩ := dl2 d1
    obtain ⟨a, xs, rfl, n, ha, hl⟩ := id hv
    obtain ⟨b, ys, rfl, n', hb, hl'⟩ := id hu
    exact ⟨a, b, xs, ys, rfl, .inl ⟨SqL.of ha, SqL.of hb, q _ _ H1 _ h1 e1 walk_zip fun z hz => by
      rcases List.mem_cons.mp hz with rfl | hz
      · exact hv
      · obtain rfl := List.mem_singleton.mp hz; exact hu⟩⟩
  · obtain ⟨v, u, rfl, hv, hu⟩ := dl2 d1
    obtain ⟨a, xs, rfl, ha, hl⟩ := id hv
    obtain ⟨b, ys, rfl, hb, hl'⟩ := id hu
    exact ⟨a, b, xs, ys, rfl, .inr ⟨ha, hb, q _ _ H1 _ h1 e1 walk_zipT fun z hz => by
      rcases List.mem_cons.mp hz with rfl | hz
      · exact hv
      · obtain rfl := List.mem_singleton.mp hz; exact hu⟩⟩
  · exact h1.elim

/-! ### *e in argument lists and displays -/
def starA (t : TD) (u : TLD) : TLD := fun ρ k => t ρ fun d => match d with
  | .lst xs => u ρ fun ds => k (xs ++ ds)
  | .tup xs => u ρ fun ds => k (xs ++ ds)
  | _ => False
theorem a_star {e : Expr} {es : List Expr} {te : TD} (he : PE X e (lift F te)) (hr : PA X es (liftA F ta)) (hs : starEach (.Starred e p :: es) X.env = (true, eval e X.env) :: starEach es X.env := by rfl) (hK : X.K = F.K := by rfl) : PA X (.Starred e p :: es) (liftA F (starA te ta)) := by
  refine pa_imp (StX.pa_star he hr hs) fun σ H Q ⟨G, ρ, k, r, h, q⟩ => ⟨G, ρ, _, r, h, fun d v H1 h1 e1 d1 => ?_⟩
  rw [hK]
  cases d <;> try exact (show False from h1).elim
  · obtain ⟨a, xs, rfl, n, ha, hl⟩ := d1
    refine ⟨a, xs, rfl, .inr (SqL.of ha), G, ρ, _, r.step e1, h1, fun ds vs H2 h2 e2 d2 => q _ _ H2 h2 (e1.trans e2) ((((r.step e1).evo e2).dts _ _ hl).app d2)⟩
  · obtain ⟨a, xs, rfl, ha, hl⟩ := d1
    refine ⟨a, xs, rfl, .inl ha, G, ρ, _, r.step e1, h1, fun ds vs H2 h2 e2 d2 => q _ _ H2 h2 (e1.trans e2) ((((r.step e1).evo e2).dts _ _ hl).app d2)⟩
end
end DL

set_option Elab.async false
set_option linter.all false
set_option maxRecDepth 100000
set_option maxHeartbeats 4000000
namespace DL
open PySem PySem.Spec PyProof.Rows L2

/-! ### methods of data -/
abbrev MDD := D → List D → (D → Prop) → Prop
def methT (o : MDD) (t : TD) (ta : TLD) : TD := fun ρ k => t ρ fun x => ta ρ fun ds => o x ds k
def OkM (F : Fr) (r : V → List V → Hp → VK → Prop) (o : MDD) : Prop := ∀ (G : Gh) (H : Hp) (x : D) (v : V) (ds : List D) (vs : List V) (k : D → Prop) (Q : VK), GOk G H → o x ds k → Dt F.K G H x v → DtL F.K G H ds vs →
  (∀ d w H', k d → Ext G H H' → Dt F.K G H' d w → Q w H') → r v vs H Q
def isStr : D → Prop
  | .str _ => True
  | _ => False
def isLst : D → Prop
  | .lst _ => True
  | _ => False
def onT (P : D → Prop) (t : TD) : TD := fun ρ k => t ρ fun d => P d ∧ k d
section
variable {X : Cx} {F : Fr} {o e : Expr} {to te : TD} {ta : TLD} {apos pos : Pos}
theorem d_m1 {r : V → List V → Hp → VK → Prop} {m : MDD} (hr : OkM F r m) (hpe : PE X e (tM1 r (lift F to) (lift F te))) : PE X e (lift F (methT m (onT isStr to) (consA te nilA))) := by
  refine pe_imp hpe fun σ H Q ⟨G, ρ, k, r, h, q⟩ => ⟨G, ρ, _, r, h, fun x v H1 ⟨hs, h1⟩ e1 d1 => ?_⟩
  cases x <;> try exact (show False from hs).elim
  refine ⟨⟨_, d1⟩, G, ρ, _, r.step e1, h1, fun y u H2 h2 e2 d2 => ?_⟩
  have r2 := (r.step e1).step e2
  exact hr G H2 _ v [y] [u] k Q r2.ok h2 (((r.step e1).evo e2).dt _ _ d1) ⟨u, [], rfl, d2, rfl⟩ fun d w H3 h3 e3 d3 => q d w H3 h3 ((e1.trans e2).trans e3) d3
/-- x.m(..), x a list -/
theorem d_bmL {r : V → List V → Hp → VK → Prop} {m : MDD} (hr : OkM F r m) (hpe : PE X e (tBM X.K "list" r (lift F to) (liftA F ta))) : PE X e (lift F (methT m (onT isLst to) ta)) := by
  refine pe_imp hpe fun σ H Q ⟨G, ρ, k, r, h, q⟩ => ⟨G, ρ, _, r, h, fun x v H1 ⟨hs, h1⟩ e1 d1 => ?_⟩
  cases x <;> try exact (show False from hs).elim
  obtain ⟨a, xs, rfl, n, ha, hl⟩ := id d1
  refine ⟨.inl ⟨rfl, xs, SqL.of ha⟩, G, ρ, _, r.step e1, h1, fun ds vs H2 h2 e2 d2 => ?_⟩
  have r2 := (r.step e1).step e2
  exact hr G H2 _ _ ds vs k Q r2.ok h2 (((r.step e1).evo e2).dt _ _ d1) d2 fun d w H3 h3 e3 d3 => q d w H3 h3 ((e1.trans e2).trans e3) d3
end
def splitM : MDD
  | .str a, [.str b], k => ((b.length == 0) = false ∧ a.length + 2 ≤ sizeLine) ∧ k (.lst ((Txt.split a b).map .str))
  | _, _, _ => False
def joinM : MDD
  | .str a, [x], k => ∃ ys : List Str, (x = .lst (ys.map .str) ∨ x = .tup (ys.map .str)) ∧ (ys.map (·.length)).sum + ys.length * a.length ≤ 16777216 ∧ k (.str (Txt.join a ys))
  | _, _, _ => False
def indexM : MDD
  | .lst xs, [y], k => ∃ (j : Nat) (z : PyData), SeqAt.shaped (.list (D.pys xs)) = true ∧ SeqAt.shaped y.py = true ∧ (D.pys xs)[j]? = some z ∧ PyData.eqv z y.py = true ∧ (∀ (m : Nat) (z' : PyData), m < j → (D.pys xs)[m]? = some z' → PyData.eqv z' y.py = false) ∧ k (.int (j : Nat))
  | _, _, _ => False
theorem dtl_strs {K : PySem.W.Frag} {G : Gh} {H : Hp} : ∀ ys : List Str, DtL K G H (ys.map .str) (ys.map .str)
  | [] => rfl
  | y :: ys => ⟨.str y, _, rfl, rfl, dtl_strs ys⟩
section
variable {X : Cx} {F : Fr} {o e : Expr} {to te : TD} {ta : TLD} {apos pos : Pos}
theorem d_split (ho : PE X o (lift F to)) (he : PE X e (lift F te)) (hs : starEach [e] X.env = [(false, eval e X.env)] := by rfl) (hbase : attributeBase o "split" X.env (eval o X.env) = eval o X.env := by rfl) (hline : (apos.endLine == pos.line) = true := by rfl) :
    PE X (.Call (.Attribute o "split" apos) [e] [] pos) (lift F (methT splitM (onT isStr to) (consA te nilA))) := by
  refine d_m1 (fun G H x v ds vs k Q ok h hx hl q => ?_) (pe_split ho he hs hbase hline)
  unfold splitM at h
  split at h
  · obtain ⟨u, rfl, hu⟩ := dl1 hl
    obtain rfl := hx
    obtain rfl := hu
    refine ⟨_, _, rfl, rfl, h.1.1, h.1.2, fun p hp => ?_⟩
    exact q _ _ _ h.2 (Ext.new ok.bag hp) ⟨p, _, rfl, fun z => by have m := ok.tr p z; rw [hp] at m; exact m, upd_same, dtl_strs _⟩
  · exact h.elim
theorem d_join (ho : PE X o (lift F to)) (he : PE X e (lift F te)) (hK : X.K = F.K := by rfl) (hs : starEach [e] X.env = [(false, eval e X.env)] := by rfl) (hbase : attributeBase o "join" X.env (eval o X.env) = eval o X.env := by rfl) (hline : (apos.endLine == pos.line) = true := by rfl) :
    PE X (.Call (.Attribute o "join" apos) [e] [] pos) (lift F (methT joinM (onT isStr to) (consA te nilA))) := by
  refine d_m1 (fun G H x v ds vs k Q ok h hx hl q => ?_) (pe_join ho he hs hbase hline)
  unfold joinM at h
  split at h
  · obtain ⟨u, rfl, hu⟩ := dl1 hl
    obtain rfl := hx
    obtain ⟨ys, hy, hz, h⟩ := h
    rcases hy with rfl | rfl
    · obtain ⟨a, xs, rfl, n, ha, hd⟩ := hu
      exact ⟨_, a, ys, rfl, rfl, .inl (by rw [← hd.strs]; exact SqL.of ha), hz, q _ _ _ h (.refl ok.bag) rfl⟩
    · obtain ⟨a, xs, rfl, ha, hd⟩ := hu
      exact ⟨_, a, ys, rfl, rfl, .inr (by rw [← hd.strs, hK]; exact ha), hz, q _ _ _ h (.refl ok.bag) rfl⟩
  · exact h.elim
theorem d_index {n : Nat} (hr : Room n X.A) (ho : PE X o (lift F to)) (he : PE X e (lift F te)) (hK : X.K = F.K := by rfl) (hbase : attributeBase o "index" X.env (eval o X.env) = eval o X.env := by rfl)
    (hfew : ((backTo pos (starEach (e :: []) X.env)).all (fun x => !x.1) && (backToKw pos (keywordEach [] X.env)).all (fun x => x.1.isSome)
      && decide ((e :: ([] : List Expr)).length + ([] : List Keyword).length + (if ([] : List Keyword).isEmpty then 0 else 1) < 30)) = true := by rfl)
    (hline : (apos.endLine == pos.line) = true := by rfl) (hs : starEach (e :: []) X.env = (false, eval e X.env) :: starEach [] X.env := by rfl) (hplain : (backTo pos (starEach [] X.env)).any (·.1) = false := by rfl) :
    PE X (.Call (.Attribute o "index" apos) [e] [] pos) (lift F (methT indexM (onT isLst to) (consA te nilA))) := by
  refine d_bmL (fun G H x v ds vs k Q ok h hx hl q => ?_) (pe_bm PySem.F.plainAttrs_list PySem.F.slot_list_index PySem.F.type_list_index (mt_indexD (by have := u150 hr; omega)) ho (a_cons he a_nil hs) hbase hfew hline hs hplain)
  unfold indexM at h
  split at h
  · obtain ⟨u, rfl, hu⟩ := dl1 hl
    obtain ⟨j, z, s1, s2, g1, g2, g3, h⟩ := h
    have c1 := SeqAt.canLay_of_shaped s1
    have dp := Dt.dp (.lst _) v (by simpa only [D.py, PyData.canLay0] using c1) hx
    have hx' := hx
    obtain ⟨a, ys, rfl, n, ha, hd⟩ := hx'
    exact ⟨a, u, _, D.pys _, j, z, rfl, rfl, hK ▸ dp, hK ▸ Dt.dp _ u (SeqAt.canLay_of_shaped s2) hu, s1, s2, g1, g2, g3, q _ _ _ h (.refl ok.bag) rfl⟩
  · exact h.elim
end

/-! ### dicts -/
def keyD : D → Option Key
  | .int i => some (.inl i)
  | .str x => some (.inr x)
  | _ => none
def valD : List (D × D) → Key → Option D
  | [], _ => none
  | (k, d) :: es, j => if keyD k = some j then some d else valD es j
theorem keyD_kD (j : Key) : keyD (kD j) = some j := by cases j <;> rfl
theorem DtP.val {K : PySem.W.Frag} {G : Gh} {H : Hp} {j : Key} {t : Bool} : ∀ {es : List (D × D)} {kvs : List (Key × V)}, DtP K G H t es kvs → (valD es j = none ∧ valV kvs j = none) ∨ ∃ d v, valD es j = some d ∧ valV kvs j = some v ∧ Dt K G H d v
  | [], _, h => by
    obtain ⟨rfl, _⟩ := h
    exact .inl ⟨rfl, rfl⟩
  | (k, d) :: es, _, h => by
    obtain ⟨i, v, r, rfl, rfl, h1, h2⟩ := h
    by_cases e : i = j
    · subst e
      exact .inr ⟨d, v, by simp [valD, keyD_kD], valV_pos rfl, h1⟩
    · have n : ¬ keyD (kD i) = some j := by rw [keyD_kD]; exact fun z => e (Option.some.inj z)
      rw [valV_neg (p := (i, v)) e]
      simp only [valD, if_neg n]
      exact DtP.val h2
theorem DtP.kind {K : PySem.W.Frag} {G : Gh} {H : Hp} {t : Bool} : ∀ {es : List (D × D)} {kvs : List (Key × V)}, DtP K G H t es kvs → t = false
  | [], _, h => h.2
  | (k, d) :: es, _, h => by
    obtain ⟨i, v, r, rfl, rfl, h1, h2⟩ := h
    exact DtP.kind h2
theorem DtQ.kind {K : PySem.W.Frag} {G : Gh} {H : Hp} {t : Bool} : ∀ {es : List (D × D)} {kvs : List (List Key × V)}, DtQ K G H t es kvs → t = true
  | [], _, h => h.2
  | (k, d) :: es, _, h => by
    obtain ⟨i, v, r, rfl, rfl, h1, h2⟩ := h
    exact DtQ.kind h2
theorem dic_K {K : PySem.W.Frag} {G : Gh} {H : Hp} {es : List (D × D)} {v : V} (h : Dt K G H (.dic false es) v) : ∃ a kvs, v = .ref a ∧ ¬ G.own a ∧ Rd H a (.dK kvs) ∧ DtP K G H false es kvs := by
  obtain ⟨a, rfl, n, h⟩ := h
  rcases h with ⟨kvs, h1, h2⟩ | ⟨kvs, h1, h2⟩
  · exact ⟨a, kvs, rfl, n, h1, h2⟩
  · cases h2.kind
theorem keyD_kV {K : PySem.W.Frag} {G : Gh} {H : Hp} {y : D} {v : V} {j : Key} (h : keyD y = some j) (hy : Dt K G H y v) : v = kV j := by
  cases y <;> simp only [keyD, Option.some.injEq, reduceCtorEq] at h
  · subst h; exact hy
  · subst h; exact hy
def getT (t tk td : TD) : TD := fun ρ k => t ρ fun x => (∃ es, x = .dic false es) ∧ tk ρ fun y => td ρ fun z => match x with
  | .dic _ es => optK (keyD y) fun j => k ((valD es j).getD z)
  | _ => False
section
variable {X : Cx} {F : Fr} {o e f : Expr} {to te tf : TD} {ta : TLD} {apos pos : Pos}
theorem d_dict0 : PE X (.Dict [] [] pos) (lift F (cT (.dic false []))) := by
  refine pe_imp pe_dnewK fun σ H Q ⟨G, ρ, k, r, h, q⟩ => fun p hp => ?_
  have e1 : Ext G H (upd H p (.dK [])) := Ext.new r.bag hp
  exact q _ _ _ h e1 ⟨p, rfl, r.free hp, .inl ⟨[], .inl upd_same, rfl, rfl⟩⟩
theorem d_get {n : Nat} (hr : Room n X.A) (ho : PE X o (lift F to)) (he : PE X e (lift F te)) (hf : PE X f (lift F tf))
    (h1 : attributeBase o "get" X.env (eval o X.env) = eval o X.env := by rfl)
    (h2 : ((backTo pos (starEach [e, f] X.env)).all (fun x => !x.1) && (backToKw pos (keywordEach [] X.env)).all (fun x => x.1.isSome)
    && decide (([e, f] : List Expr).length + ([] : List Keyword).length + (if ([] : List Keyword).isEmpty then 0 else 1) < 30)) = true := by rfl)
    (h3 : (apos.endLine == pos.line) = true := by rfl)
    (h4 : backTo pos (starEach [e, f] X.env) = [(false, eval e X.env), (false, eval f X.env)] := by rfl) :
    PE X (.Call (.Attribute o "get" apos) [e, f] [] pos) (lift F (getT to te tf)) := by
  refine pe_imp (pe_dget2 (by have := u150 hr; omega) ho he hf ⟨h1, h2, h3, h4⟩) fun σ H Q ⟨G, ρ, k, r, h, q⟩ => ⟨G, ρ, _, r, h, fun x v H1 ⟨⟨es, hx⟩, h1⟩ e1 d1 => ?_⟩
  subst hx
  obtain ⟨a, kvs, rfl, n, ha, hp⟩ := dic_K d1
  refine ⟨a, rfl, .inl ⟨kvs, ha⟩, G, ρ, _, r.step e1, h1, fun y u H2 h2 e2 d2 => ?_⟩
  refine ⟨G, ρ, _, (r.step e1).step e2, h2, fun z w H3 h3 e3 d3 => ?_⟩
  have r2 := (r.step e1).step e2
  obtain ⟨j, hj, h3⟩ := h3
  have d1' := (r2.evo e3).dt _ _ (((r.step e1).evo e2).dt _ _ d1)
  obtain ⟨a', kvs', e', n', ha', hp'⟩ := dic_K d1'
  cases e'
  obtain rfl := keyD_kV hj d2
  refine ⟨_, .inl ⟨kvs', j, ha', rfl, rfl⟩, ?_⟩
  have e13 := (e1.trans e2).trans e3
  rcases hp'.val (j := j) with ⟨g1, g2⟩ | ⟨d, v, g1, g2, g3⟩
  · rw [g2]; rw [g1] at h3
    exact q _ _ H3 h3 e13 d3
  · rw [g2]; rw [g1] at h3
    exact q _ _ H3 h3 e13 g3
end

/-! ### repr -/
def reprR : RD
  | [d], k => (d.py.canLay0 = true ∧ d.py.showable = true ∧ d.py.depth ≤ 140 ∧ d.py.shown.length ≤ sizeLine) ∧ k (.str d.py.shown)
  | _, _ => False
def rRepr (K : PySem.W.Frag) : List V → Hp → VK → Prop := fun xs H Q => ∃ x d, xs = [x] ∧ Dp K H x d ∧ d.canLay0 = true ∧ d.showable = true ∧ d.depth ≤ 140 ∧ d.shown.length ≤ sizeLine ∧ Q (.str d.shown) H
theorem cr_repr {X : Cx} {n : Nat} (hr : Room n X.A) (hg : X.A.guards = some []) : CallR X (.builtin "repr") (rRepr X.K) := by
  intro pins s σ H xs us Q I r h
  obtain ⟨x, d, rfl, hd, c, hs, hdp, hz, q⟩ := h
  obtain ⟨u, rfl, rx⟩ := vals1 r
  obtain ⟨as, rd⟩ := Dp.reads I d x u hd rx
  have hu := u150 hr
  have fin : ∀ k, EP X pins σ Q (.str d.shown k) { s with toks := s.toks + 1 } := fun k => ⟨.str d.shown, H, I.tok _, ⟨_, rfl⟩, q⟩
  cases hd with
  | non =>
    obtain rfl : u = .none := rx
    simp only [PyData.shown] at fin
    exact P.repr_of_none (fin _)
  | bl b =>
    obtain rfl : u = .bool b := rx
    simp only [PyData.shown] at fin
    exact P.repr_of_bool (fin _)
  | int i =>
    obtain ⟨t, rfl⟩ := rx
    simp only [PyData.shown] at fin
    exact P.repr_of_int (by simpa [PyData.showable] using hs) (fin _)
  | str z =>
    obtain ⟨t, rfl⟩ := rx
    simp only [PyData.shown] at fin hz
    exact P.repr_of_str (fin _) hz
  | _ =>
    cases rx
    refine repr_of_reads' rd hs (PyData.noDict_hsm (PyData.hasDict_of_canLay _ c)) hg (by omega) (fun _ _ e => e) (fun h' u tk hk => ?_) hz
    exact ⟨.str _, H, I.kept hk, ⟨_, rfl⟩, q⟩
theorem ok_repr {F : Fr} : OkCall F (rRepr F.K) reprR := by
  intro G H ds vs k Q ⟨ob, oi, tr, bg⟩ h hd q
  unfold reprR at h
  split at h
  · obtain ⟨v, rfl, hv⟩ := dl1 hd
    exact ⟨v, _, rfl, Dt.dp _ v h.1.1 hv, h.1.1, h.1.2.1, h.1.2.2.1, h.1.2.2.2, q _ _ _ h.2 (.refl bg) rfl⟩
  · exact h.elim
section
variable {X : Cx} {F : Fr} {p pos : Pos} {e : Expr} {ta : TLD}
theorem d_repr {n : Nat} (hr : Room n X.A) (hgd : X.A.guards = some []) (hg : Gl X "repr") (hm : X.mg "repr" = none) (ha : PA X [e] (liftA F ta)) (he : starEach [e] X.env = (false, eval e X.env) :: starEach [] X.env := by rfl) (hK : X.K = F.K := by rfl) :
    PE X (.Call (.Name "repr" p) [e] [] pos) (lift F (callT reprR ta)) := d_callB (cr_repr hr hgd) (hK ▸ ok_repr) hg hm (by decide +kernel) ha (by decide) (by decide) he
end
end DL

set_option Elab.async false
set_option linter.all false
set_option maxRecDepth 100000
set_option maxHeartbeats 4000000
namespace DL
open PySem PySem.Spec PyProof.Rows L2

/-! ### the bag: its numbers are any that are not below 0 -/
theorem BagOk.apart {H : Hp} {bg bi : Addr} (h : BagOk H bg bi) : bi ≠ bg := by
  obtain ⟨x, y, z, ns, h1, h2, _⟩ := h
  intro e
  rw [e, h1] at h2
  cases ns with
  | nil => cases h2
  | cons a ns =>
    cases ns with
    | nil => cases h2
    | cons b ns =>
      cases ns with
      | nil => cases h2
      | cons c ns =>
        cases ns with
        | nil => cases h2
        | cons d ns => cases h2
theorem BagOk.put {H : Hp} {bg bi : Addr} (h : BagOk H bg bi) {x y z : Int} (hx : 0 ≤ x) (hy : 0 ≤ y) (hz : 0 ≤ z) : BagOk (upd H bg (.lst [.int x, .int y, .int z, .ref bi])) bg bi := by
  have n := h.apart
  obtain ⟨x', y', z', ns, h1, h2, q1, q2, q3, q⟩ := h
  exact ⟨x, y, z, ns, upd_same, by rw [upd_ne n]; exact h2, hx, hy, hz, q⟩
theorem Ext.bagput {G : Gh} {H : Hp} (h : BagOk H G.bg G.bi) {x y z : Int} (hx : 0 ≤ x) (hy : 0 ≤ y) (hz : 0 ≤ z) : Ext G H (upd H G.bg (.lst [.int x, .int y, .int z, .ref G.bi])) :=
  ⟨fun a o n e => .inl (by rw [upd_ne n]; exact e), h.put hx hy hz⟩
def bagT (c : Int) (t : TD) : TD := fun ρ k => t ρ fun d => d = .bag ∧ (c = 0 ∨ c = 1 ∨ c = 2) ∧ ∀ x : Int, 0 ≤ x → k (.int x)
def cutBT (t : TD) (l : TO2) : TD := fun ρ k => t ρ fun d => d = .bag ∧ l ρ fun _ => ∀ ns : List Int, (∀ n ∈ ns, 0 ≤ n) → ns.length ≤ 63 → k (.lst (ns.map .int))
def putBT (c : Int) (t u : TD) : TSD := fun k ρ => u ρ fun d => t ρ fun b => b = .bag ∧ (c = 0 ∨ c = 1 ∨ c = 2) ∧ ∃ x : Int, 0 ≤ x ∧ d = .int x ∧ k.nx ρ
def augBT (c : Int) (t u : TD) : TSD := fun k ρ => t ρ fun b => b = .bag ∧ (c = 0 ∨ c = 1 ∨ c = 2) ∧ u ρ fun d => ∃ x : Int, 0 ≤ x ∧ d = .int x ∧ k.nx ρ
theorem bag_at {G : Gh} {H : Hp} {c : Int} (h : BagOk H G.bg G.bi) (hc : c = 0 ∨ c = 1 ∨ c = 2) : ∃ (xs : List V) (x : Int), H G.bg = some (.lst xs) ∧ L2.atI xs c = some (.int x) ∧ xs[c.toNat]? = some (.int x) ∧ 0 ≤ x := by
  obtain ⟨x, y, z, ns, h1, h2, p1, p2, p3, _⟩ := h
  rcases hc with rfl | rfl | rfl
  · exact ⟨_, x, h1, rfl, rfl, p1⟩
  · exact ⟨_, y, h1, rfl, rfl, p2⟩
  · exact ⟨_, z, h1, rfl, rfl, p3⟩
theorem bag_put {G : Gh} {H : Hp} {c w : Int} (h : BagOk H G.bg G.bi) (hc : c = 0 ∨ c = 1 ∨ c = 2) (hw : 0 ≤ w) : ∃ (xs : List V) (j : Nat), H G.bg = some (.lst xs) ∧ ixN xs.length c = some j ∧ Ext G H (upd H G.bg (.lst (xs.set j (.int w)))) := by
  have h' := h
  obtain ⟨x, y, z, ns, h1, h2, p1, p2, p3, _⟩ := h'
  rcases hc with rfl | rfl | rfl
  · exact ⟨_, 0, h1, rfl, Ext.bagput h hw p2 p3⟩
  · exact ⟨_, 1, h1, rfl, Ext.bagput h p1 hw p3⟩
  · exact ⟨_, 2, h1, rfl, Ext.bagput h p1 p2 hw⟩
section
variable {X : Cx} {F : Fr} {b e lo : Expr} {tb te : TD} {tl : TO2} {c : Int} {j j3 : Nat} {pos p2 p3 cpos tpos : Pos}
theorem d_bag (he : PE X b (lift F tb)) (hs : PlainIx (.Constant (.int c) j cpos) := by intro _ _; rfl) (hK : X.K = F.K := by rfl) : PE X (.Subscript b (.Constant (.int c) j cpos) pos) (lift F (bagT c tb)) := by
  refine pe_imp (pe_ix ix_list he pe_int hs) fun σ H Q ⟨G, ρ, k, r, h, q⟩ => ⟨G, ρ, _, r, h, fun d v H1 ⟨hd, hc, h1⟩ e1 d1 => ?_⟩
  subst hd
  obtain rfl := d1
  obtain ⟨xs, x, g1, g2, g3, g4⟩ := bag_at (r.step e1).bag hc
  exact ⟨_, xs, c, _, rfl, rfl, SqL.of g1, g2, q _ _ H1 (h1 x g4) e1 rfl⟩
theorem cut_ints {ns : List Int} {lo hi : Option Int} : ∃ ms : List Int, cutV (ns.map V.int) lo hi = ms.map V.int ∧ (∀ m ∈ ms, m ∈ ns) ∧ ms.length ≤ ns.length := by
  refine ⟨(ns.drop (HT.sIx ns.length 0 lo)).take (HT.sIx ns.length ns.length hi - HT.sIx ns.length 0 lo), ?_, fun m hm => List.mem_of_mem_drop (List.mem_of_mem_take hm), ?_⟩
  · unfold cutV
    rw [List.map_take, List.map_drop, List.length_map]
  · rw [List.length_take, List.length_drop]; omega
theorem d_bagcut (he : PE X b (lift F tb)) (hl : PO X (some lo) (liftO F tl)) (hs : PlainIx (.Constant (.int 3) j3 cpos) := by intro _ _; rfl) (hK : X.K = F.K := by rfl) :
    PE X (.Subscript (.Subscript b (.Constant (.int 3) j3 cpos) p3) (.Slice (some lo) none none p2) pos) (lift F (cutBT tb tl)) := by
  refine pe_imp (pe_slice sl_list (pe_ix ix_list he pe_int hs) hl po_none) fun σ H Q ⟨G, ρ, k, r, h, q⟩ => ⟨G, ρ, _, r, h, fun d v H1 ⟨hd, h1⟩ e1 d1 => ?_⟩
  subst hd
  obtain rfl := d1
  have r1 := r.step e1
  obtain ⟨x, y, z, ns, g1, g2, _⟩ := r1.bag
  refine ⟨_, _, 3, .ref G.bi, rfl, rfl, SqL.of g1, rfl, G, ρ, _, r1, h1, fun o H2 h2 e2 => ?_⟩
  have r2 := r1.step e2
  obtain ⟨x, y, z, ns, g1, g2, p1, p2, p3, p4, p5⟩ := r2.bag
  refine ⟨G.bi, _, rfl, SqL.of g2, fun p hp => ?_⟩
  have e3 : ∀ {o : HO}, Ext G H2 (upd H2 p o) := Ext.new r2.bag hp
  obtain ⟨ms, hm, hin, hle⟩ := cut_ints (ns := ns) (lo := o) (hi := none)
  rw [hm]
  refine q _ _ _ (h2 ms (fun n hn => p4 n (hin n hn)) (by omega)) ((e1.trans e2).trans e3) ⟨p, _, rfl, r2.free hp, upd_same, ?_⟩
  have : ∀ (ms : List Int) (H : Hp), DtL F.K G H (ms.map .int) (ms.map .int) := fun ms H => by
    induction ms with
    | nil => rfl
    | cons a ms ih => exact ⟨.int a, _, rfl, rfl, ih⟩
  exact this _ _
theorem s_bagput {x : Str} {px : Pos} {i : Nat} (he : PE X e (lift F te)) (hN : X.N[i]? = some x := by rfl) (hv : Vis X.env.scope x := by first | exact Or.inl rfl | exact Or.inr (Or.inl rfl) | exact Or.inr (Or.inr rfl)) (hd : (x == ("__debug__" : Str)) = false := by decide)
    (hcd : (x == ("__classdict__" : Str)) = false := by decide)
    (hsub : ∀ v, assign (.Subscript (.Name x px) (.Constant (.int c) j cpos) tpos) X.env v = (do
      let ov ← holding [v] (eval (.Name x px) X.env)
      let iv ← holding [v, ov] (eval (.Constant (.int c) j cpos) X.env)
      standAt tpos
      holding [v, ov, iv] (setItem ov iv v)
      release [v, ov, iv] []) := by intro _; rfl)
    (hs : swapsWithSole [.Subscript (.Name x px) (.Constant (.int c) j cpos) tpos] e pos.line X.env = pure false := by rfl) (hw : swappedStores [.Subscript (.Name x px) (.Constant (.int c) j cpos) tpos] e X.env = pure none := by rfl)
    (h1 : (assignEach [.Subscript (.Name x px) (.Constant (.int c) j cpos) tpos] X.env).map (·.2) = [assign (.Subscript (.Name x px) (.Constant (.int c) j cpos) tpos) X.env] := by rfl) :
    PS X (.Assign [.Subscript (.Name x px) (.Constant (.int c) j cpos) tpos] e pos) (liftS F (putBT c (nameT i) te)) := by
  refine ps_imp (ps_asg he (pg_sub (d_name (F := F) i hN hv hd hcd) pe_int set_list hsub) hs hw h1) fun E σ H ⟨G, ρ, k, r, h, o⟩ => ?_
  refine ⟨G, ρ, _, r, h, fun d v H1 h1 x1 d1 => ?_⟩
  have r1 := r.step x1
  refine ⟨G, ρ, _, r1, h1, fun b u H2 ⟨hb, hc, w, hw, hdw, hk⟩ x2 d2 => ?_⟩
  subst hb hdw
  obtain rfl := d2
  obtain rfl := d1
  have r2 := r1.step x2
  obtain ⟨xs, n, g1, g2, g3⟩ := bag_put r2.bag hc hw
  exact ⟨_, xs, c, n, rfl, rfl, g1, g2, o.nx _ G σ _ hk (r2.step g3)⟩
def rGetL0 : V → V → Hp → VK → Prop := fun o i H Q => ∃ p xs k v, o = .ref p ∧ i = .int k ∧ 0 ≤ k ∧ k < 2 ^ 63 ∧ H p = some (.lst xs) ∧ xs[k.toNat]? = some v ∧ Q v H
theorem get_list0 : PGet X rGetL0 := by
  intro pins s σ H o i ov iv Q I ro ri h
  obtain ⟨p, xs, k, v, rfl, rfl, h0, h1, hp, hx, q⟩ := h
  cases ro
  obtain ⟨t, rfl⟩ := ri
  obtain ⟨its, r, pl, hz⟩ := I.list (SqL.of hp)
  obtain ⟨w, ew, rw'⟩ := r.get hx
  exact wpAny_getItem_list pl.isList h0 h1 (by simpa using ew) ⟨v, H, I, rw', q⟩
theorem s_bagaug {x : Str} {px : Pos} {i : Nat} (he : PE X e (lift F (cT (.int 1)))) (hN : X.N[i]? = some x := by rfl) (hv : Vis X.env.scope x := by first | exact Or.inl rfl | exact Or.inr (Or.inl rfl) | exact Or.inr (Or.inr rfl)) (hd : (x == ("__debug__" : Str)) = false := by decide)
    (hcd : (x == ("__classdict__" : Str)) = false := by decide)
    (ha : ∀ ov iv new, augStore (.Constant (.int c) j cpos) ov iv new = (do holding [new, ov, iv] (setItem ov iv new); release [new, ov, iv] []; pure .next) := by intros; rfl) :
    PS X (.AugAssign (.Subscript (.Name x px) (.Constant (.int c) j cpos) tpos) .Add e pos) (liftS F (augBT c (nameT i) (cT (.int 1)))) := by
  refine ps_imp (ps_augS (d_name (F := F) i hN hv hd hcd) pe_int get_list0 he ip_add set_list ha) fun E σ H ⟨G, ρ, k, r, h, o⟩ => ?_
  refine ⟨G, ρ, _, r, h, fun b u H1 ⟨hb, hc, hk⟩ x1 d1 => ?_⟩
  subst hb
  obtain rfl := d1
  obtain ⟨w, hw, hdw, hk⟩ := hk
  cases hdw
  have r1 := r.step x1
  obtain ⟨xs, x, g1, g2, g3, g4⟩ := bag_at r1.bag hc
  refine ⟨_, xs, c, _, rfl, rfl, by omega, by omega, g1, g3, G, ρ, fun d => d = .int 1, r1, rfl, fun d v H2 hd1 x2 d2 => ?_⟩
  subst hd1
  obtain rfl := d2
  have r2 := r1.step x2
  obtain ⟨ys, n, f1, f2, f3⟩ := bag_put r2.bag hc (w := x + 1) (by omega)
  exact ⟨x, 1, rfl, rfl, _, ys, c, n, rfl, rfl, f1, f2, o.nx _ G σ _ hk (r2.step f3)⟩
end
end DL

set_option Elab.async false
set_option linter.all false
set_option maxRecDepth 100000
set_option maxHeartbeats 4000000
namespace DL
open PySem PySem.Spec PyProof.Rows L2

def negT (t : TD) : TD := fun ρ k => t ρ fun d => match d with
  | .int i => k (.int (-i))
  | _ => False
section
variable {X : Cx} {F : Fr} {a : Expr} {ta : TD} {pos : Pos}
theorem d_neg (ha : PE X a (lift F ta)) : PE X (.UnaryOp .USub a pos) (lift F (negT ta)) := by
  refine pe_imp (pe_un un_neg ha) fun σ H Q ⟨G, ρ, k, r, h, q⟩ => ⟨G, ρ, _, r, h, fun d v H1 h1 e1 d1 => ?_⟩
  cases d <;> try exact (show False from h1).elim
  obtain rfl := d1
  exact ⟨_, rfl, q _ _ H1 h1 e1 rfl⟩
end
/-- a, b = e, stored from the left -/
def tgtT (t : Tg) (u : TD) : TSD := fun k ρ => u ρ fun d => tgD t d ρ k.nx
section
variable {X : Cx} {F : Fr} {tg e : Expr} {te : TD} {pos : Pos}
theorem s_tgt (t : Tg) (he : PE X e (lift F te)) (hg : PG X tg (gOf X.K t)) (hs : swapsWithSole [tg] e pos.line X.env = pure false := by rfl) (hw : swappedStores [tg] e X.env = pure none := by rfl)
    (h1 : (assignEach [tg] X.env).map (·.2) = [assign tg X.env] := by rfl) (hK : X.K = F.K := by rfl) : PS X (.Assign [tg] e pos) (liftS F (tgtT t te)) :=
  ps_imp (ps_asg he hg hs hw h1) fun E σ H ⟨G, ρ, k, r, h, o⟩ => ⟨G, ρ, _, r, h, fun d v H1 h1 e1 d1 => gOf_ok (F := F) hK (r.step e1) d1 h1 fun ρ' vs hk r' => o.nx ρ' G _ H1 hk r'⟩
end
/-- all that is asked of a def to call it, where nothing of the frame is told -/
structure CalP (P : Program) (w : World) (K : PySem.W.Frag) (mg : Str → Option Value) (base : Heap) (n : Nat) (x : Str) (R : RD) : Prop where
  ex : ∃ (f : Addr) (fd : FuncData) (ps : List Str) (k : Nat), k ≤ n ∧ FnG P w K mg base CX0 k f fd ps (spD K R) ∧ mg x = some (.ref f) ∧ PySem.W.keepIn K (.ref f) = true ∧ Binds K fd ps []
section
variable {P : Program} {w : World} {K : PySem.W.Frag} {mg : Str → Option Value} {base : Heap} {n m : Nat} {x : Str} {R R' : RD}
theorem FnG.never {f : Addr} {fd : FuncData} {ps : List Str} (h : ∀ ds k, ¬ R ds k) : FnG P w K mg base CX0 n f fd ps (spD K R) :=
  ⟨fun vs H Q E q => by obtain ⟨_, ds, k, _, _, z, _⟩ := q; exact absurd z (h ds k), fun A outer s H args us vs Q E _ _ _ _ _ q => by obtain ⟨_, ds, k, _, _, z, _⟩ := q; exact absurd z (h ds k)⟩
theorem CalP.mono (c : CalP P w K mg base n x R) (h : n ≤ m) : CalP P w K mg base m x R := by
  obtain ⟨f, fd, ps, k, hk, r⟩ := c.ex
  exact ⟨f, fd, ps, k, Nat.le_trans hk h, r⟩
theorem CalP.imp (c : CalP P w K mg base n x R) (h : ∀ ds k, R' ds k → R ds k) : CalP P w K mg base n x R' := by
  obtain ⟨f, fd, ps, k, hk, fn, r⟩ := c.ex
  refine ⟨f, fd, ps, k, hk, fn.imp fun vs H Q E q => ?_, r⟩
  obtain ⟨G, ds, κ, a, b, c, d⟩ := q
  exact ⟨G, ds, κ, a, b, h _ _ c, d⟩
theorem CalP.of {f : Addr} {fd : FuncData} {ps : List Str} {q : Str} {st : Stmt} (fn : FnG P w K mg base CX0 n f fd ps (spD K R)) (hm : mg x = some (.ref f)) (F : Fun K x q st f fd) (hb : Binds K fd ps []) : CalP P w K mg base n x R := ⟨f, fd, ps, n, Nat.le_refl _, fn, hm, F.kp, hb⟩
end
end DL

set_option Elab.async false
set_option linter.all false
set_option maxRecDepth 100000
set_option maxHeartbeats 4000000
namespace DL
open PySem PySem.Spec PyProof.Rows L2

/-! ### the operations, told one by one -/
section
variable {i j : Int} {a b : Bool} {x y : Str} {d e : D} {ds es : List D} {k : D → Prop} {kb : Bool → Prop} {lo hi : Option Int}
theorem addD_ii : addD (.int i) (.int j) k = k (.int (i + j)) := rfl
theorem addD_ib : addD (.int i) (.bl b) k = k (.int (i + PyProof.Rows.b2i b)) := rfl
theorem addD_ss : addD (.str x) (.str y) k = (x.length + y.length ≤ sizeLine ∧ k (.str (x ++ y))) := rfl
theorem addD_ll : addD (.lst ds) (.lst es) k = (ds.length + es.length ≤ sizeLine ∧ k (.lst (ds ++ es))) := rfl
theorem addD_tt : addD (.tup ds) (.tup es) k = (ds.length + es.length ≤ sizeLine ∧ k (.tup (ds ++ es))) := rfl
theorem subD_ii : subD (.int i) (.int j) k = k (.int (i - j)) := rfl
theorem mulD_ii : mulD (.int i) (.int j) k = (CMul i j ∧ k (.int (i * j))) := rfl
theorem mulD_li : mulD (.lst ds) (.int j) k = ((-(2 ^ 63) ≤ j ∧ j < 2 ^ 63) ∧ ds.length * j.toNat ≤ sizeLine ∧ k (.lst (List.replicate j.toNat ds).flatten)) := rfl
theorem fdivD_ii : fdivD (.int i) (.int j) k = (CDiv i j ∧ k (.int (i / j))) := rfl
theorem modD_ii : modD (.int i) (.int j) k = (0 < j ∧ k (.int (i % j))) := rfl
theorem cmpI_ii {f : Int → Int → Bool} : cmpI f (.int i) (.int j) k = k (.bl (f i j)) := rfl
theorem eqB_ss : eqB (.str x) (.str y) kb = kb (decide (x = y)) := rfl
theorem eqB_ii : eqB (.int i) (.int j) kb = kb (decide (i = j)) := rfl
theorem eqB_bb : eqB (.bl a) (.bl b) kb = kb (decide (a = b)) := rfl
theorem eqB_tt : eqB (.tup ds) (.tup es) kb = (eqOk (.tup ds) (.tup es) ∧ kb (PyData.eqv (D.tup ds).py (D.tup es).py)) := rfl
theorem eqB_ll : eqB (.lst ds) (.lst es) kb = (eqOk (.lst ds) (.lst es) ∧ kb (PyData.eqv (D.lst ds).py (D.lst es).py)) := rfl
theorem inB_l : inB d (.lst es) kb = (inOk d es ∧ kb (es.any fun z => PyData.eqv z.py d.py)) := rfl
theorem inB_t : inB d (.tup es) kb = (inOk d es ∧ kb (es.any fun z => PyData.eqv z.py d.py)) := rfl
theorem ixD_l : ixD (.lst ds) (.int i) k = optK (L2.atI ds i) k := rfl
theorem ixD_t : ixD (.tup ds) (.int i) k = optK (L2.atI ds i) k := rfl
theorem ixD_s : ixD (.str x) (.int i) k = (x.length ≤ sizeLine ∧ optK (L2.atI x.cps.toList i) fun c => k (.str ⟨#[c]⟩)) := rfl
theorem slD_l : slD (.lst ds) lo hi k = k (.lst (cutL ds lo hi)) := rfl
theorem slD_t : slD (.tup ds) lo hi k = k (.tup (cutL ds lo hi)) := rfl
theorem truD_b : truD (.bl b) kb = kb b := rfl
theorem truD_i : truD (.int i) kb = kb (i != 0) := rfl
theorem truD_n : truD .non kb = kb false := rfl
theorem truD_s : truD (.str x) kb = (x.length ≤ sizeLine ∧ kb ((x.length : Int) != 0)) := rfl
theorem truD_l : truD (.lst ds) kb = kb (!ds.isEmpty) := rfl
theorem truD_t : truD (.tup ds) kb = kb (!ds.isEmpty) := rfl
theorem intR_i : intR [.int i] k = k (.int i) := rfl
theorem intR_b : intR [.bl b] k = k (.int (if b then 1 else 0)) := rfl
theorem lenR_s : lenR [.str x] k = (x.length ≤ sizeLine ∧ k (.int x.length)) := rfl
theorem lenR_l : lenR [.lst ds] k = k (.int ds.length) := rfl
theorem lenR_t : lenR [.tup ds] k = k (.int ds.length) := rfl
theorem absR_i : absR [.int i] k = k (.int (if i < 0 then -i else i)) := rfl
theorem minR_ii : minR [.int i, .int j] k = k (.int (if j < i then j else i)) := rfl
theorem maxR_ii : maxR [.int i, .int j] k = k (.int (if j > i then j else i)) := rfl
theorem tupR_l : tupR [.lst ds] k = k (.tup ds) := rfl
theorem tupR_t : tupR [.tup ds] k = k (.tup ds) := rfl
theorem appD_1 {ts : List Tr} {kl : List Tr → Prop} : appD ts [d] kl = (ts.length < sizeLine ∧ kl (ts ++ [.d d])) := rfl
theorem insD_1 {ts : List Tr} {kl : List Tr → Prop} : insD ts [.int j, d] kl = (ts.length < sizeLine ∧ 0 ≤ j ∧ j < 2 ^ 63 ∧ kl (ts.take j.toNat ++ [.d d] ++ ts.drop j.toNat)) := rfl
theorem extD_1 {ts : List Tr} {kl : List Tr → Prop} : extD ts [.lst es] kl = (ts.length + es.length ≤ sizeLine ∧ kl (ts ++ es.map .d)) := rfl
theorem map_snoc {ds : List D} {d : D} : ds.map Tr.d ++ [.d d] = (ds ++ [d]).map .d := by rw [List.map_append]; rfl
theorem map_ins {ds : List D} {d : D} {n : Nat} : (ds.map Tr.d).take n ++ [.d d] ++ (ds.map Tr.d).drop n = (ds.take n ++ [d] ++ ds.drop n).map .d := by rw [List.map_append, List.map_append, List.map_take, List.map_drop]; rfl
theorem splitM_1 : splitM (.str x) [.str y] k = (((y.length == 0) = false ∧ x.length + 2 ≤ sizeLine) ∧ k (.lst ((Txt.split x y).map .str))) := rfl
theorem optK_some {α : Type} {c : α} {k : α → Prop} : optK (some c) k = k c := propext ⟨fun ⟨_, e, h⟩ => by cases e; exact h, fun h => ⟨_, rfl, h⟩⟩
theorem optK_of {α : Type} {o : Option α} {c : α} {k : α → Prop} (h : o = some c) (hk : k c) : optK o k := ⟨c, h, hk⟩
theorem atI_0 {α : Type} {a : α} {l : List α} : L2.atI (a :: l) 0 = some a := L2.atI_nat (j := 0) rfl
theorem atI_1 {α : Type} {a b : α} {l : List α} : L2.atI (a :: b :: l) 1 = some b := L2.atI_nat (j := 1) rfl
theorem atI_2 {α : Type} {a b c : α} {l : List α} : L2.atI (a :: b :: c :: l) 2 = some c := L2.atI_nat (j := 2) rfl
theorem atI_3 {α : Type} {a b c d : α} {l : List α} : L2.atI (a :: b :: c :: d :: l) 3 = some d := L2.atI_nat (j := 3) rfl
theorem atI_4 {α : Type} {a b c d e : α} {l : List α} : L2.atI (a :: b :: c :: d :: e :: l) 4 = some e := L2.atI_nat (j := 4) rfl
theorem atI_lt {α : Type} {l : List α} {i : Int} (h0 : 0 ≤ i) (h : i < l.length) : ∃ c, L2.atI l i = some c ∧ l[i.toNat]? = some c := by
  have hl : i.toNat < l.length := by omega
  refine ⟨l[i.toNat], ?_, List.getElem?_eq_getElem hl⟩
  have e := L2.atI_nat (List.getElem?_eq_getElem hl)
  rwa [Int.toNat_of_nonneg h0] at e
theorem cutL_from {α : Type} {l : List α} {n : Nat} : cutL l (some (n : Int)) none = l.drop n := by
  unfold cutL
  rw [HT.sIx_nat, HT.sIx_none]
  by_cases h : n ≤ l.length
  · rw [Nat.min_eq_left h, List.take_of_length_le (by rw [List.length_drop]; exact Nat.le_refl _)]
  · rw [Nat.min_eq_right (by omega), List.drop_length, List.drop_of_length_le (by omega)]; simp
theorem cutL_to {α : Type} {l : List α} {n : Nat} : cutL l none (some (n : Int)) = l.take n := by
  unfold cutL
  rw [HT.sIx_nat, HT.sIx_none, List.drop_zero, Nat.sub_zero]
  by_cases h : n ≤ l.length
  · rw [Nat.min_eq_left h]
  · rw [Nat.min_eq_right (by omega), List.take_length, List.take_of_length_le (by omega)]
theorem cutL_1 {α : Type} {l : List α} : cutL l (some 1) none = l.drop 1 := cutL_from (n := 1)
theorem cutL_2 {α : Type} {l : List α} : cutL l (some 2) none = l.drop 2 := cutL_from (n := 2)
theorem cutL_t1 {α : Type} {l : List α} : cutL l none (some 1) = l.take 1 := cutL_to (n := 1)
theorem cutL_t2 {α : Type} {l : List α} : cutL l none (some 2) = l.take 2 := cutL_to (n := 2)
theorem cutL_r {α : Type} {l : List α} {n m : Nat} : cutL l (some (n : Int)) (some (m : Int)) = (l.drop n).take (m - n) := by
  unfold cutL
  rw [HT.sIx_nat, HT.sIx_nat]
  by_cases h : n ≤ l.length
  · rw [Nat.min_eq_left h]
    by_cases h2 : m ≤ l.length
    · rw [Nat.min_eq_left h2]
    · rw [Nat.min_eq_right (by omega : l.length ≤ m), List.take_of_length_le (i := l.length - n) (by simp), List.take_of_length_le (by simp; omega)]
  · rw [Nat.min_eq_right (by omega : l.length ≤ n), List.drop_length, List.drop_of_length_le (by omega : l.length ≤ n)]; simp
end
inductive All2 (R : D → D → Prop) : List D → List D → Prop
  | nil : All2 R [] []
  | cons {a b : D} {as bs : List D} : R a b → All2 R as bs → All2 R (a :: as) (b :: bs)
theorem All2.len {R : D → D → Prop} {as bs : List D} (h : All2 R as bs) : bs.length = as.length := by
  induction h with
  | nil => rfl
  | cons _ _ ih => simp [ih]
theorem All2.out {R : D → D → Prop} {as bs : List D} (h : All2 R as bs) : ∀ b ∈ bs, ∃ a ∈ as, R a b := by
  induction h with
  | nil => intro b hb; cases hb
  | cons hr _ ih =>
    intro b hb
    rcases List.mem_cons.mp hb with rfl | hb
    · exact ⟨_, List.mem_cons_self, hr⟩
    · obtain ⟨a, ha, r⟩ := ih b hb
      exact ⟨a, List.mem_cons_of_mem _ ha, r⟩
theorem All2.map {f : D → D} {as bs : List D} (h : All2 (fun a b => b = f a) as bs) : bs = as.map f := by
  induction h with
  | nil => rfl
  | cons hr _ ih => rw [hr, ih]; rfl
/-! ### comprehensions, loops -/
theorem compT_ind {t : Tg} {te : TD} {ρ : List Sl} {R : D → D → Prop} {k : List D → Prop} : ∀ {ds acc : List D}, (∀ d ∈ ds, ∀ κ : D → Prop, (∀ e, R d e → κ e) → tgD t d ρ fun ρ1 => te ρ1 κ) → (∀ es, All2 R ds es → k (acc ++ es)) → compT t yesT te ρ ds acc k
  | [], acc, _, hk => by
    have h := hk [] .nil
    rw [List.append_nil] at h
    exact h
  | d :: ds, acc, hd, hk => by
    have mono : ∀ {P Q : List Sl → Prop}, (∀ ρ, P ρ → Q ρ) → tgD t d ρ P → tgD t d ρ Q := fun {P Q} f h => by
      cases t with
      | nm i => exact f _ h
      | tp is => cases d <;> first | exact h.elim | exact ⟨h.1, f _ h.2⟩
    show tgD t d ρ fun ρ1 => te ρ1 fun e => compT t yesT te ρ ds (acc ++ [e]) k
    refine hd d List.mem_cons_self _ fun e he => ?_
    refine compT_ind (fun d' h' => hd d' (List.mem_cons_of_mem _ h')) fun es h => ?_
    rw [List.append_assoc]
    exact hk (e :: es) (.cons he h)
theorem loopT_ind {t : Tg} {S : TSD} {k : DE} (I : List D → List Sl → Prop) (hn : ∀ ρ, I [] ρ → k.nx ρ)
    (hs : ∀ d ds ρ (N : List Sl → Prop), (∀ ρ', I ds ρ' → N ρ') → I (d :: ds) ρ → tgD t d ρ fun ρ1 => S { nx := N, rt := k.rt, bk := k.nx, ct := N } ρ1) : ∀ {ds : List D} {ρ : List Sl}, I ds ρ → loopT t S k ds ρ
  | [], ρ, h => hn ρ h
  | d :: ds, ρ, h => hs d ds ρ _ (fun ρ' h' => loopT_ind I hn hs h') h
end DL

set_option Elab.async false
set_option linter.all false
set_option maxRecDepth 100000
set_option maxHeartbeats 4000000
namespace DL
open PySem PySem.Spec L2

/-! ### the bag is made -/
def bagQ (K : PySem.W.Frag) (c : Int) (H : Hp) (Q : VK) : Prop := ∀ (p L : Addr) (H' : Hp) (ms : List Int), (∀ b o, H b = some o → H' b = some o) → H p = none → H L = none → H' p = some (.lst [.int 0, .int c, .int 0, .ref L]) → H' L = some (.lst (ms.map V.int)) →
  (∀ m ∈ ms, 0 ≤ m) → ms.length ≤ 63 → Q (.ref p) H'
def spBag (K : PySem.W.Frag) (c : Int) : Sp := fun vs H Q _ => ∃ (a : Addr) (ns : List Int), vs = [.ref a] ∧ SqL K H a (ns.map V.int) ∧ ns.length ≤ 63 ∧ bagQ K c H Q
def rAbsI : List V → Hp → VK → Prop := fun xs H Q => ∃ i, xs = [.int i] ∧ Q (.int (if i < 0 then -i else i)) H
theorem SqL.kp {K : PySem.W.Frag} {H H' : Hp} {a : Addr} {xs : List V} (k : ∀ o, H a = some o → H' a = some o) (h : SqL K H a xs) : SqL K H' a xs := by
  rcases h with h | h
  · exact .inl (Rd.kp k h)
  · exact .inr h
theorem bag_te {K : PySem.W.Frag} {c : Int} {σ : L2.St} {H : Hp} {Q : VK} {a : Addr} {ns : List Int} (h0 : σ[0]? = some (some (.ref a))) (h2 : σ.length = 2) (hs : SqL K H a (ns.map V.int)) (hl : ns.length ≤ 63) (hq : bagQ K c H Q) :
    tLst (tCons (tC (.int 0)) (tCons (tC (.int c)) (tCons (tC (.int 0)) (tCons (tLc (iList K (tSl (rSlL K) (tVar 0) tNoPart (tPart (tC (.int 63))))) (gName 1) tYes (tCB rAbsI (tCons (tVar 1) tNil)) [1]) tNil)))) σ H Q := by
  have hsl : sizeLine = 16777216 := sizeLine_eq
  obtain ⟨ms, hm, hin, hle⟩ := cut_ints (ns := ns) (lo := none) (hi := some 63)
  refine ⟨_, h0, 63, rfl, a, _, rfl, hs, fun q hq1 => ⟨q, rfl, ⟨_, SqL.of upd_same⟩, ?_⟩⟩
  rw [hm]
  intro D hD
  have qD : D ≠ q := fun e => by rw [e, upd_same] at hD; cases hD
  have HD : H D = none := by rw [upd_ne qD] at hD; exact hD
  let ab : Int → Int := fun i => if i < 0 then -i else i
  refine ⟨fun i m H' => m = ms.length - i ∧ i ≤ ms.length ∧ (∀ b o, b ≠ D → H b = some o → H' b = some o) ∧ H' q = some (.lst (ms.map V.int)) ∧ H' D = some (.lst ((ms.take i).map fun i => V.int (ab i))), ⟨_, rfl, Nat.zero_le _, fun b o n e => ?_, ?_, upd_same⟩, ?_⟩
  · rw [upd_ne n, upd_ne (ne_of_none e hq1)]; exact e
  · rw [upd_ne (Ne.symm qD), upd_same]
  · rintro i m H' ⟨rfl, hi, kp, hq', hD'⟩
    by_cases hlt : i < ms.length
    · refine .inr ⟨⟨_, .int ms[i], SqL.of hq', by rw [List.getElem?_map, List.getElem?_eq_getElem hlt]; rfl⟩, fun H' => i + 1 ≤ ms.length ∧ (∀ b o, b ≠ D → H b = some o → H' b = some o) ∧ H' q = some (.lst (ms.map V.int)) ∧ H' D = some (.lst ((ms.take (i + 1)).map fun i => V.int (ab i))), fun H' ⟨h1, h2⟩ => ⟨_, by omega, rfl, h1, h2⟩, fun x H2 ⟨e, y⟩ => ?_⟩
      subst e
      have hx := y _ (SqL.of hq')
      rw [List.getElem?_map, List.getElem?_eq_getElem hlt] at hx
      obtain rfl : V.int ms[i] = x := Option.some.inj hx
      refine ⟨by simp [wipe], ?_⟩
      change tCB rAbsI (tCons (tVar 1) tNil) _ _ _
      refine ⟨_, by simp [wipe, h2], ms[i], rfl, _, hD', by rw [List.length_map, List.length_take]; omega, by omega, fun b o n e => ?_, ?_, ?_⟩
      · rw [upd_ne n]; exact kp b o n e
      · rw [upd_ne (Ne.symm qD)]; exact hq'
      · rw [upd_same, List.take_succ_eq_append_getElem hlt, List.map_append]; rfl
    · have e : i = ms.length := by omega
      subst e
      rw [List.take_length] at hD'
      refine .inl ⟨⟨_, SqL.of hq', by rw [List.length_map]; exact Nat.le_refl _⟩, by show 4 ≤ sizeLine; omega, fun p hp => ?_⟩
      have np : p ≠ D := fun e => by rw [e, hD'] at hp; cases hp
      have Hp0 : H p = none := by
        cases z : H p with
        | none => rfl
        | some o => rw [kp p o np z] at hp; cases hp
      refine hq p D _ (ms.map ab) (fun b o e => ?_) Hp0 HD upd_same ?_ (fun m hm' => ?_) (by rw [List.length_map]; omega)
      · have nb : b ≠ D := ne_of_none e HD
        rw [upd_ne (ne_of_none (kp b o nb e) hp)]; exact kp b o nb e
      · rw [upd_ne (Ne.symm np), hD', List.map_map]; rfl
      · obtain ⟨z, _, rfl⟩ := List.mem_map.mp hm'
        show 0 ≤ (if z < 0 then -z else z)
        split <;> omega
theorem Fun.okBag {P : Program} {w : World} {K : PySem.W.Frag} {mg : Str → Option Value} {base : Heap} {x y z qual : Str} {st : Stmt} {f : Addr} {fd : FuncData} {k : Nat} {c : Int} (Fn : Fun K x qual st f fd) (S : FnScope [y, z] [y] (defScope st))
    (hb : ∃ T : TS, (∀ (cdv : Value) (A : Around) (outer : List Env) (s : Shared) (H : Hp) (E : XK), PSs (cxOf CX0 P w K mg base [y, z] qual (defScope st) f cdv A outer s H E).nox (defBody st) T) ∧
      ∀ D σ H, (tRet (tLst (tCons (tC (.int 0)) (tCons (tC (.int c)) (tCons (tC (.int 0)) (tCons (tLc (iList K (tSl (rSlL K) (tVar 0) tNoPart (tPart (tC (.int 63))))) (gName 1) tYes (tCB rAbsI (tCons (tVar 1) tNil)) [1]) tNil)))))) D σ H → T D σ H) : FnG P w K mg base CX0 (k + 1) f fd [y] (spBag K c) := by
  obtain ⟨oc, od, kV, doc, pm, an, cdv, ct, osl, rfl, lk, hcd⟩ := Fn.ex
  obtain ⟨T, hb, hT⟩ := hb
  refine fnG_of lk hcd S (fun vs H Q E h => ?_) fun A outer s H vs Q E hr hg h => ?_
  · obtain ⟨a, ns, rfl, _⟩ := h; rfl
  · obtain ⟨a, ns, rfl, hs, hl, hq⟩ := h
    exact ⟨_, (hb cdv A outer s H E).nox, hT _ _ _ (bag_te rfl rfl hs hl hq)⟩
/-- what is needed of the def that makes the bag -/
structure BagP (P : Program) (w : World) (K : PySem.W.Frag) (mg : Str → Option Value) (base : Heap) (n : Nat) (x : Str) : Prop where
  ex : ∃ (f : Addr) (fd : FuncData) (ps : List Str) (k : Nat) (c : Int), 0 ≤ c ∧ k ≤ n ∧ FnG P w K mg base CX0 k f fd ps (spBag K c) ∧ mg x = some (.ref f) ∧ PySem.W.keepIn K (.ref f) = true ∧ Binds K fd ps []
def bagS (K : PySem.W.Frag) : TS := fun E σ H => ∃ (a : Addr) (ns : List Int), σ[0]? = some (some (.ref a)) ∧ SqL K H a (ns.map V.int) ∧ ns.length ≤ 63 ∧ ∀ c : Int, 0 ≤ c → bagQ K c H fun v H' => E.nx (σ.set 1 (some v)) H'
theorem s_bag0 {X : Cx} {n : Nat} {f x y : Str} {px py pf ep pos : Pos} (b : BagP X.prog X.w X.K X.mg X.base n f) (hr : Room n X.A) (hgd : X.A.guards = some []) (hN : X.N.Nodup) (hi : X.N[1]? = some x) (hx : Loc X.env.scope x) (hy : X.N[0]? = some y) (hg : Gl X f)
    (hv : Vis X.env.scope y := by first | exact Or.inl rfl | exact Or.inr (Or.inl rfl) | exact Or.inr (Or.inr rfl)) (hd : (y == ("__debug__" : Str)) = false := by decide) (hcd : (y == ("__classdict__" : Str)) = false := by decide)
    (hdb : (f == ("__debug__" : Str)) = false := by decide) (he : starEach [.Name y py] X.env = (false, eval (.Name y py) X.env) :: starEach [] X.env := by rfl) (hpl : (backTo ep (starEach [] X.env)).any (·.1) = false := by rfl)
    (hs : swapsWith (.Call (.Name f pf) [.Name y py] [] ep) (some (.Name x px)) pos.line X.env = pure false := by rfl) (hf : X.fn x = true ∨ X.env.scope.names.lookup x = some .local := by first | exact .inl rfl | exact .inr rfl | assumption) :
    PS X (.Assign [.Name x px] (.Call (.Name f pf) [.Name y py] [] ep) pos) (bagS X.K) := by
  obtain ⟨fa, fd, ps, k, c, hc, hk, fn, hm, hkp, hb⟩ := b.ex
  have hp := ps_set hN hi hx (peG_call (E := E0) fn (hr.mono hk) hgd hg hm hkp hb .nil pass0 (pa_cons (pe_var hy hv hd hcd) pa_nil he) hdb he hpl) hs hf
  exact ps_imp hp fun D σ H ⟨a, ns, h0, hs, hl, hq⟩ => ⟨_, h0, a, ns, rfl, hs, hl, hq c hc⟩
/-! ### the law's def: a bag, then data -/
def spLaw (K : PySem.W.Frag) : Sp := fun vs H Q _ => ∃ (a : Addr) (ns : List Int), vs = [.ref a] ∧ SqL K H a (ns.map V.int) ∧ ns.length ≤ 63 ∧ ∀ H', Q (.bl true) H'
def endLaw : DE := ⟨fun _ => False, fun t => t = .d (.bl true), fun _ => False, fun _ => False⟩
theorem Fun.okLaw {P : Program} {w : World} {K : PySem.W.Frag} {mg : Str → Option Value} {base : Heap} {x y qual : Str} {st st1 : Stmt} {rest : List Stmt} {f : Addr} {fd : FuncData} {N : List Str} {k n : Nat} (Fn : Fun K x qual st f fd) (S : FnScope N [y] (defScope st)) (hn : N.length = n + 2) (hbody : defBody st = st1 :: rest)
    (hb : ∃ T : TSD, (∀ (cdv : Value) (A : Around) (outer : List Env) (s : Shared) (H : Hp) (E : XK), Room k (A.deeper (PyProof.Rows.envOfC qual (defScope st) s.heap.objs.size f cdv)) → A.guards = some [] →
      PS (cxOf CX0 P w K mg base N qual (defScope st) f cdv A outer s H E).nox st1 (bagS K) ∧ ∀ (G : Gh) (H' : Hp) (pn : List (V × D)), PSs (cxOf CX0 P w K mg base N qual (defScope st) f cdv A outer s H E).nox rest (liftS ⟨K, G, H', pn⟩ T)) ∧
      T endLaw (.un :: .dat .bag :: List.replicate n .un)) : FnG P w K mg base CX0 (k + 1) f fd [y] (spLaw K) := by
  obtain ⟨oc, od, kV, doc, pm, an, cdv, ct, osl, rfl, lk, hcd⟩ := Fn.ex
  obtain ⟨T, hb, hT⟩ := hb
  refine fnG_of lk hcd S (fun vs H Q E h => ?_) fun A outer s H vs Q E hr hg h => ?_
  · obtain ⟨a, ns, rfl, _⟩ := h; rfl
  · obtain ⟨a, ns, rfl, hs, hl, hq⟩ := h
    obtain ⟨h1, h2⟩ := hb cdv A outer s H E hr hg
    have h2' : PSs (cxOf CX0 P w K mg base N qual (defScope st) f cdv A outer s H E).nox rest (fun E σ H => ∃ F : Fr, F.K = K ∧ liftS F T E σ H) := ⟨fun pins s σ H E I ⟨⟨_, G, H', pn⟩, e, w⟩ => by
      cases e
      exact (h2 G H' pn).run pins s σ H E I w⟩
    refine ⟨_, hbody ▸ (pss_cons h1 h2').nox, ?_⟩
    have e0 : L2.start N [V.ref a] = some (.ref a) :: none :: List.replicate n none := by
      unfold L2.start
      rw [hn]
      rfl
    rw [e0]
    refine ⟨a, ns, rfl, hs, hl, fun c hc p L H' ms kp hp hL hp' hL' h0 h63 => ?_⟩
    have np : p ≠ L := fun e => by
      subst e
      rw [hp'] at hL'
      cases ms with
      | nil => cases hL'
      | cons a ms =>
        cases ms with
        | nil => cases hL'
        | cons b ms =>
          cases ms with
          | nil => cases hL'
          | cons c ms =>
            cases ms with
            | nil => cases hL'
            | cons d ms => cases hL'
    let G : Gh := ⟨p, L, fun b => b = p ∨ b = L⟩
    have bag : BagOk H' p L := ⟨0, c, 0, ms, hp', hL', by omega, hc, by omega, h0, h63⟩
    have tr : ∀ a, G.own a → Mut (H' a) := fun a z => by
      rcases z with rfl | rfl
      · rw [hp']; exact True.intro
      · rw [hL']; exact True.intro
    refine ⟨⟨K, G, H', []⟩, rfl, G, .un :: .dat .bag :: List.replicate n .un, endLaw, ⟨rfl, rfl, .inl rfl, .inr rfl, fun _ z => z, fun a z n => absurd z n, tr, .refl bag, (fun _ z => nomatch z), [], ?_, List.nodup_nil⟩, hT,
      ⟨fun _ _ _ _ z _ => z.elim, fun t v R H2 hd x hR nR hv => ?_, fun _ _ _ _ z _ => z.elim, fun _ _ _ _ z _ => z.elim⟩⟩
    · exact ⟨_, _, [], [], rfl, rfl, ⟨some (.ref p), _, [], [], rfl, ⟨rfl, .ref p, rfl, rfl⟩, slots_un n, rfl⟩, rfl⟩
    · have hd' : t = .d (.bl true) := hd
      subst hd'
      obtain rfl : v = .bl true := hv.2
      exact hq H2
end DL

set_option Elab.async false
set_option linter.all false
set_option maxRecDepth 100000
set_option maxHeartbeats 4000000
namespace DL
open PySem PySem.Spec PyProof.Rows L2

/-- the heap behind the top as an abstract one: the script alone is tracked, where it is no object of the module -/
def scriptH (K : PySem.W.Frag) (a : Addr) (ob : Obj) (ns : List Int) : Hp := fun b => if b = a ∧ K.lookup a = none then some (.frz ob (.lst (ns.map V.int))) else none
theorem scriptH_at {K : PySem.W.Frag} {a b : Addr} {ob : Obj} {ns : List Int} {u : HO} (h : scriptH K a ob ns b = some u) : b = a ∧ K.lookup a = none ∧ u = .frz ob (.lst (ns.map V.int)) := by
  unfold scriptH at h
  split at h
  · rename_i z
    exact ⟨z.1, z.2, (Option.some.inj h).symm⟩
  · cases h
/-- the head's call, for a def that runs where no repr runs -/
theorem callG {P : Program} {w : World} {K : PySem.W.Frag} {mg mb : Str → Option Value} {k : Nat} {fa a : Addr} {fd : FuncData} {x : Str} {t : Shared} {vs : List Value} {ns : List Int}
    (hK : K.In t.heap) (hG : t.heap.Ns mainGlobals mg) (hB : t.heap.Ns builtinsNs mb) (hBB : ∀ x : Str, x ≠ "__name__" → mb x = bootBuiltins x) (hL : t.heap.NoLimit) (hg : t.gens = #[])
    (ha : t.heap.get? a = some { cls := .type "list", data := .seq vs.toArray }) (hi : IntsAre vs ns) (h63 : ns.length ≤ 63) (hr : Room k callerA)
    (F : ∀ base : Heap, K.In base → base.Ns mainGlobals mg → FnG P w K mg base CX0 k fa fd [x] (spLaw K)) (hbind : ∀ (s : Shared) (u : Value), BindsTo s fd ⟨[u], []⟩ [(x, u)]) :
    codeAny (model P w) callerA (.call (.ref fa) ⟨[.ref a], []⟩) (fun r s' => r = .ok (.ret (.bool true)) ∧ OldK t.heap s'.heap ∧ s'.os = t.os ∧ AllBare s'.gens) t := by
  have rel := vals_ints hi
  have hlen := hi.length
  have hline : ns.length ≤ sizeLine := Nat.le_trans h63 (by decide)
  let ob : Obj := { cls := .type "list", data := .seq vs.toArray }
  let S := scriptH K a ob ns
  have free : ∀ {b : Addr}, b ≠ a → S b = none := fun {b} n => if_neg fun z => n z.1
  have ok : HOk P w S t.heap := fun b u z => by
    obtain ⟨rfl, _, rfl⟩ := scriptH_at z
    exact ⟨ha, by rw [List.length_map]; exact hline, vs, _, rel, ha⟩
  have down : ∀ {b : Addr} {o : Obj}, t.heap.get? b = some o → S b = none → (hidT t.heap S).get? b = some o := fun e n => hidT_get e n
  have dict : ∀ {b : Addr} {o : Obj} {es : Array DictEntry} {ep : Nat}, t.heap.get? b = some o → o.data = .dict es ep → S b = none := fun {b o es ep} e d => by
    by_cases z : b = a
    · subst z
      rw [ha] at e
      cases e
      exact absurd d fun q => (nomatch (show Data.seq vs.toArray _ = Data.dict es ep from q))
    · exact free z
  have spaces : ∀ {b : Addr} {m : Str → Option Value}, t.heap.Ns b m → (hidT t.heap S).Ns b m := fun {b m} ⟨o, es, ep, e, d, r⟩ => ⟨o, es, ep, down e (dict e d), d, r⟩
  have inK : K.In (hidT t.heap S) := fun b o e => down (hK b o e) (by
    cases q : S b with
    | none => rfl
    | some u =>
      obtain ⟨rfl, z, _⟩ := scriptH_at q
      rw [z] at e; cases e)
  have md : Mod K mg (hidT t.heap S) := ⟨inK, spaces hG, ⟨mb, spaces hB, hBB⟩, let ⟨mc, q1, q2⟩ := hL; ⟨mc, spaces q1, q2⟩⟩
  have none_in : ∀ b : Addr, b ∉ ([] : List Addr) := fun b z => nomatch z
  have env : Env0 P w K mg (hidT t.heap S) callerA [] t S := ⟨rfl, md, fun b o e => of_hidT e, Nat.le_of_eq (hidT_size _ _), trivial, fun b z => absurd z (none_in b), ok, .of_eq hg⟩
  have hS : SqL K S a (ns.map V.int) := by
    cases q : K.lookup a with
    | none => exact .inl (.inr ⟨ob, if_pos ⟨rfl, q⟩⟩)
    | some o =>
      have e := hK a o q
      rw [ha] at e
      cases e
      exact .inr ⟨_, vs.toArray, _, q, rfl, rfl, rfl, by rw [List.size_toArray, hlen]; exact hline, by simpa using rel⟩
  refine codeAny_mono ((F _ inK (spaces hG)).run callerA [] t S ⟨[.ref a], []⟩ [.ref a] [.ref a] (fun v _ => v = .bl true) (fun _ _ _ => False) hr rfl env (hbind t (.ref a)) (.cons rfl .nil) ⟨a, ns, rfl, hS, h63, fun _ => rfl⟩) fun r s' z => ?_
  cases r with
  | error e => exact False.elim z
  | ok fl =>
    cases fl with
    | ret u =>
      obtain ⟨v, H', os, bare, un, ok', rv, q⟩ := z
      obtain rfl : v = .bl true := q
      obtain rfl : u = Value.bool true := rv
      refine ⟨rfl, OldK.of_keep fun b o e => ?_, os, bare⟩
      cases q : S b with
      | none => exact un.keep b o e q (none_in b) (by simp)
      | some u =>
        obtain ⟨rfl, _, rfl⟩ := scriptH_at q
        obtain ⟨e2, _⟩ := ok' b _ (un.frzs b ob _ q)
        rw [ha] at e
        cases e
        exact e2
    | _ => exact False.elim z
/-- the goal that the head leaves -/
theorem walkG {l : PySem.W.OpenLaw} {k : Nat} {q : Program} {loose : List Str} {XP : (Str → Option Value) → Heap → Prop} {YP : World → Heap → Prop} {d : DefRec} {K : Params → PySem.W.Frag} {x : Str} (hn : l.most = some 63) (hdf : d.params.defaults = []) (hr : Room k callerA)
    (hY : ∀ (w : World) (h : Heap), YP w h → (K w.params).In h)
    (F : ∀ (w : World) (mg : Str → Option Value) (fa : Addr) (h : Heap), (K w.params).In h → h.Ns mainGlobals mg → mg d.name = some (.ref fa) →
      ∃ fd : FuncData, (∀ (s : Shared) (u : Value), BindsTo s fd ⟨[u], []⟩ [(x, u)]) ∧ ∀ base : Heap, (K w.params).In base → base.Ns mainGlobals mg → FnG l.prog w (K w.params) mg base CX0 k fa fd [x] (spLaw (K w.params))) :
    PySem.W.WalkO q loose XP YP l.row.toRowW d [] (fun f vs => PySem.call f vs) := by
  refine Att.attach_call hn hdf fun w s₀ t mg mb fa o pm cd doc a vs ns G Y ho hd hcd hmg hobj hints hlen hg => ?_
  have inK := hY w _ Y
  obtain ⟨fd, hb, hF⟩ := F w mg fa _ inK G.T.g hmg
  exact callG inK G.T.g G.T.b G.T.builtins G.T.nolimit hg hobj hints hlen hr hF hb
end DL

set_option Elab.async false
set_option linter.all false
set_option maxRecDepth 100000
set_option maxHeartbeats 4000000
namespace DL
open PySem PySem.Spec PyProof.Rows L2

/-! ### isinstance -/
def tyN : D → Option String
  | .non => some "NoneType" | .bl _ => some "bool" | .int _ => some "int" | .str _ => some "str"
  | .lst _ => some "list" | .tup _ => some "tuple" | .dic false _ => some "dict" | _ => none
def tyTs : List String := ["bool", "int", "str", "list", "tuple", "dict"]
def isT (a T : String) : Bool := a == T || (a == "bool" && T == "int")
def isB (d : D) (T : String) : Option Bool := match tyN d with
  | some a => if T ∈ tyTs then some (isT a T) else none
  | none => none
theorem kitB_tab : ∀ a ∈ ("NoneType" :: tyTs), ∀ T ∈ tyTs, kitB a T = some (isT a T) := by decide +kernel
theorem tyN_mem {d : D} {a : String} (h : tyN d = some a) : a ∈ ("NoneType" :: tyTs) := by
  cases d with
  | dic t es => cases t <;> cases h; decide
  | ins C fs => cases h
  | bag => cases h
  | lock o u => cases h
  | _ => cases h; decide
section
variable {K : PySem.W.Frag} {G : Gh} {H : Hp}
theorem tyX_of {d : D} {v : V} {a : String} (h : tyN d = some a) (hd : Dt K G H d v) : TyX K H v (.type a) := by
  cases d with
  | non => cases h; obtain rfl := hd; exact .base .non
  | bl b => cases h; obtain rfl := hd; exact .base (.bl b)
  | int i => cases h; obtain rfl := hd; exact .base (.int i)
  | str x => cases h; obtain rfl := hd; exact .base (.str x)
  | lst ds => cases h; obtain ⟨p, xs, rfl, n, ha, _⟩ := hd; exact .base (.lst ha)
  | tup ds =>
    cases h
    obtain ⟨p, xs, rfl, ha, _⟩ := hd
    rcases ha with (ha | ⟨o, ha⟩) | ⟨o, its, n, h1, h2, _⟩
    · exact .base (.tup ha)
    · exact .fTuple ha
    · exact .kTuple h1 h2
  | dic t es =>
    cases t
    · cases h
      obtain ⟨p, kvs, rfl, n, ha, _⟩ := dic_K hd
      rcases ha with ha | ⟨o, ha⟩
      · exact .base (.dK ha)
      · exact .fDict ha
    · cases h
  | ins C fs => cases h
  | bag => cases h
  | lock o u => cases h
theorem isB_kit {d : D} {T : String} {b : Bool} {v : V} (h : isB d T = some b) (hd : Dt K G H d v) : ∃ a, tyN d = some a ∧ TyX K H v (.type a) ∧ PySem.W.kitOne K (.type a) (.type T) = some b := by
  unfold isB at h
  split at h
  · rename_i a ha
    split at h
    · rename_i hT
      cases h
      exact ⟨a, ha, tyX_of ha hd, kit_ty (kitB_tab a (tyN_mem ha) T hT)⟩
    · cases h
  · cases h
end
def isiT (T : String) (t : TD) : TD := fun ρ k => t ρ fun d => optK (isB d T) fun b => k (.bl b)
def isi2T (T U : String) (t : TD) : TD := fun ρ k => t ρ fun d => optK (isB d T) fun b => optK (isB d U) fun c => k (.bl (b || c))
section
variable {X : Cx} {F : Fr} {e : Expr} {te : TD} {p q p2 p3 pos : Pos}
theorem d_isi {T' : Str} (T : String) (hg : Gl X "isinstance") (hm : X.mg "isinstance" = none) (hg2 : Gl X T') (hm2 : X.mg T' = none) (hv : bootBuiltins T' = some (.type T)) (he : PE X e (lift F te))
    (hn : T' ≠ "__name__" := by decide) (hdb : (T' == ("__debug__" : Str)) = false := by decide)
    (hs : starEach [e, .Name T' q] X.env = (false, eval e X.env) :: starEach [.Name T' q] X.env := by rfl) (hs2 : starEach [.Name T' q] X.env = (false, eval (.Name T' q) X.env) :: starEach [] X.env := by rfl)
    (hpl : (backTo pos (starEach [.Name T' q] X.env)).any (·.1) = false := by rfl) (hK : X.K = F.K := by rfl) :
    PE X (.Call (.Name "isinstance" p) [e, .Name T' q] [] pos) (lift F (isiT T te)) := by
  refine pe_imp (pe_callB call_isi hg hm (by decide +kernel) (pa_cons he (pa_cons (pe_bltn (v := .ty T) hg2 hm2 hv rfl hn hdb) pa_nil hs2) hs) (by decide) (by decide) hs hpl) fun σ H Q ⟨G, ρ, k, r, h, w⟩ => ?_
  refine ⟨G, ρ, _, r, h, fun d v H1 h1 e1 d1 => ?_⟩
  obtain ⟨b, hb, hk⟩ := h1
  obtain ⟨a, ha, h2, h3⟩ := isB_kit hb d1
  exact ⟨v, .ty T, .type a, .type T, b, rfl, .ty T, hK ▸ h2, hK ▸ h3, w _ _ H1 hk e1 rfl⟩
theorem d_isi2 {T' U' : Str} {k1 : Nat} (T U : String) (hg : Gl X "isinstance") (hm : X.mg "isinstance" = none) (hg2 : Gl X T') (hm2 : X.mg T' = none) (hv : bootBuiltins T' = some (.type T))
    (hg3 : Gl X U') (hm3 : X.mg U' = none) (hv3 : bootBuiltins U' = some (.type U)) (he : PE X e (lift F te))
    (hn : T' ≠ "__name__" := by decide) (hdb : (T' == ("__debug__" : Str)) = false := by decide) (hn3 : U' ≠ "__name__" := by decide) (hdb3 : (U' == ("__debug__" : Str)) = false := by decide)
    (hs : starEach [e, .Tuple [.Name T' q, .Name U' p2] k1 p3] X.env = (false, eval e X.env) :: starEach [.Tuple [.Name T' q, .Name U' p2] k1 p3] X.env := by rfl)
    (hs2 : starEach [.Tuple [.Name T' q, .Name U' p2] k1 p3] X.env = (false, eval (.Tuple [.Name T' q, .Name U' p2] k1 p3) X.env) :: starEach [] X.env := by rfl)
    (hs3 : starEach [.Name T' q, .Name U' p2] X.env = (false, eval (.Name T' q) X.env) :: starEach [.Name U' p2] X.env := by rfl) (hs4 : starEach [.Name U' p2] X.env = (false, eval (.Name U' p2) X.env) :: starEach [] X.env := by rfl)
    (hpl : (backTo pos (starEach [.Tuple [.Name T' q, .Name U' p2] k1 p3] X.env)).any (·.1) = false := by rfl) (hK : X.K = F.K := by rfl) :
    PE X (.Call (.Name "isinstance" p) [e, .Tuple [.Name T' q, .Name U' p2] k1 p3] [] pos) (lift F (isi2T T U te)) := by
  refine pe_imp (pe_callB call_isiT hg hm (by decide +kernel) (pa_cons he (pa_cons (pe_tup (pa_cons (pe_bltn (v := .ty T) hg2 hm2 hv rfl hn hdb) (pa_cons (pe_bltn (v := .ty U) hg3 hm3 hv3 rfl hn3 hdb3) pa_nil hs4) hs3)) pa_nil hs2) hs) (by decide) (by decide) hs hpl) fun σ H Q ⟨G, ρ, k, r, h, w⟩ => ?_
  refine ⟨G, ρ, _, r, h, fun d v H1 h1 e1 d1 => ⟨by rw [sizeLine_eq]; exact (by omega : 2 ≤ 16777216), fun x hx => ?_⟩⟩
  obtain ⟨b, hb, c, hc, hk⟩ := h1
  have e2 : Ext G H1 (upd H1 x (.tup [.ty T, .ty U])) := Ext.new (r.step e1).bag hx
  have d2 := ((r.step e1).evo e2).dt d v d1
  obtain ⟨a, ha, h2, h3⟩ := isB_kit hb d2
  obtain ⟨a', ha', h2', h3'⟩ := isB_kit hc d2
  obtain rfl : a = a' := Option.some.inj (ha.symm.trans ha')
  refine ⟨v, x, _, .type a, [.type T, .type U], b || c, rfl, upd_same, .cons (.ty T) (.cons (.ty U) .nil), hK ▸ h2, ?_, w _ _ _ hk (e1.trans e2) rfl⟩
  refine kitAny_cons (hK ▸ h3) (fun hb' => ?_) fun hb' => by rw [hb']; rfl
  rw [hb', Bool.false_or]
  exact kitAny_cons (hK ▸ h3') (fun hc' => by rw [hc']; exact kitAny_nil) fun hc' => hc'
end

/-! ### chained comparisons, other operators -/
def chainT (o o' : OD) (ta tb tc : TD) : TD := fun ρ k => ta ρ fun x => tb ρ fun y => o x y fun z => match z with
  | .bl b => if b = true then tc ρ fun w => o' y w k else k (.bl false)
  | _ => False
section
variable {X : Cx} {F : Fr} {a b c : Expr} {ta tb tc : TD} {o o' : OD} {r r' : R2} {op op' : CmpOp} {pos : Pos}
theorem chainL (hr : OkOp F r o) (hr' : OkOp F r' o') : ∀ σ H Q, lift F (chainT o o' ta tb tc) σ H Q → tChain r r' (lift F ta) (lift F tb) (lift F tc) σ H Q := by
  intro σ H Q ⟨G, ρ, k, rl, h, q⟩
  refine ⟨G, ρ, _, rl, h, fun x v H1 h1 e1 d1 => ?_⟩
  refine ⟨G, ρ, _, rl.step e1, h1, fun y u H2 h2 e2 d2 => ?_⟩
  have r2 := (rl.step e1).step e2
  refine hr G H2 x y v u _ _ r2.ok h2 (((rl.step e1).evo e2).dt _ _ d1) d2 fun z w H3 h3 e3 d3 => ?_
  cases z <;> try exact h3.elim
  rename_i t
  obtain rfl := d3
  refine ⟨t, rfl, ?_⟩
  cases t
  · exact q _ _ H3 h3 (e1.trans (e2.trans e3)) rfl
  · refine ⟨G, ρ, _, r2.step e3, h3, fun z' w' H4 h4 e4 d4 => ?_⟩
    have r4 := (r2.step e3).step e4
    exact hr' G H4 y z' u w' k _ r4.ok h4 (((r2.step e3).evo e4).dt _ _ ((r2.evo e3).dt _ _ d2)) d4 fun d x' H5 h5 e5 d5 => q d x' H5 h5 (e1.trans (e2.trans (e3.trans (e4.trans e5)))) d5
theorem d_chain (ho : OpR X (compareOp op) r) (hr : OkOp F r o) (ho' : OpR X (compareOp op') r') (hr' : OkOp F r' o') (ha : PE X a (lift F ta)) (hb : PE X b (lift F tb)) (hc : PE X c (lift F tc))
    (hm : lastMarks [op, op'] [b, c] = false := by with_unfolding_all rfl) : PE X (.Compare a [op, op'] [b, c] pos) (lift F (chainT o o' ta tb tc)) :=
  pe_imp (pe_chain ho ho' ha hb hc hm) (chainL hr hr')
theorem t_chain (ho : OpR X (compareOp op) r) (hr : OkOp F r o) (ho' : OpR X (compareOp op') r') (hr' : OkOp F r' o') (ha : PE X a (lift F ta)) (hb : PE X b (lift F tb)) (hc : PE X c (lift F tc))
    (hm : lastMarks [op, op'] [b, c] = false := by with_unfolding_all rfl) : PT X (.Compare a [op, op'] [b, c] pos) (liftT F (blT (chainT o o' ta tb tc))) := by
  refine pt_imp (pt_chain ho ho' ha hb hc hm) fun σ H Q ⟨G, ρ, k, rl, h, q⟩ => ?_
  refine chainL hr hr' σ H _ ⟨G, ρ, _, rl, h, fun d v H1 h1 e1 d1 => ?_⟩
  cases d <;> try exact h1.elim
  obtain rfl := d1
  exact ⟨_, rfl, q _ H1 h1 e1⟩
end
def powD : OD := fun x y k => match x, y with
  | .int i, .int j => CPow i j ∧ k (.int (i ^ j.toNat))
  | _, _ => False
/-- one sign in a text -/
def inSg : OD := fun x y k => match x, y with
  | .str x, .str z => (∃ c, x = ⟨#[c]⟩) ∧ ∀ c, x = ⟨#[c]⟩ → k (.bl (decide (c ∈ z.cps.toList)))
  | _, _ => False
def notInSg : OD := fun x y k => match x, y with
  | .str x, .str z => (∃ c, x = ⟨#[c]⟩) ∧ ∀ c, x = ⟨#[c]⟩ → k (.bl (!decide (c ∈ z.cps.toList)))
  | _, _ => False
section
variable {X : Cx} {F : Fr} {a b : Expr} {ta tb : TD} {pos : Pos}
theorem d_pow (ha : PE X a (lift F ta)) (hb : PE X b (lift F tb)) : PE X (.BinOp a .Pow b pos) (lift F (binT powD ta tb)) :=
  d_bin op_pow (ok_opI (C := CPow) (g := fun i j => i ^ j.toNat) fun x y k h => by
    unfold powD at h
    split at h
    · exact ⟨_, _, rfl, rfl, h.1, h.2⟩
    · exact h.elim) ha hb
theorem ok_inSg : OkOp F (fun x y H Q => ∃ (c : Nat) (z : Str), x = .str ⟨#[c]⟩ ∧ y = .str z ∧ Q (.bl (decide (c ∈ z.cps.toList))) H) inSg := by
  intro G H x y v u k Q ok h d1 d2 q
  unfold inSg at h
  split at h
  · obtain ⟨⟨c, rfl⟩, h⟩ := h
    obtain rfl := d1
    obtain rfl := d2
    exact ⟨c, _, rfl, rfl, q _ _ H (h c rfl) (.refl ok.bag) rfl⟩
  · exact h.elim
theorem ok_notInSg : OkOp F (fun x y H Q => ∃ (c : Nat) (z : Str), x = .str ⟨#[c]⟩ ∧ y = .str z ∧ Q (.bl (!decide (c ∈ z.cps.toList))) H) notInSg := by
  intro G H x y v u k Q ok h d1 d2 q
  unfold notInSg at h
  split at h
  · obtain ⟨⟨c, rfl⟩, h⟩ := h
    obtain rfl := d1
    obtain rfl := d2
    exact ⟨c, _, rfl, rfl, q _ _ H (h c rfl) (.refl ok.bag) rfl⟩
  · exact h.elim
end
def upperM : MDD := fun x ds k => match x, ds with
  | .str a, [] => a.length ≤ 5592405 ∧ k (.str (Txt.upper a))
  | _, _ => False
end DL

set_option Elab.async false
set_option linter.all false
set_option maxRecDepth 100000
set_option maxHeartbeats 4000000
namespace DL
open PySem PySem.Spec PyProof.Rows L2
section
variable {X : Cx} {F : Fr} {o : Expr} {to : TD} {apos pos : Pos}
theorem d_upper (ho : PE X o (lift F to)) (hbase : attributeBase o "upper" X.env (eval o X.env) = eval o X.env := by rfl) (hline : (apos.endLine == pos.line) = true := by rfl) :
    PE X (.Call (.Attribute o "upper" apos) [] [] pos) (lift F (methT upperM (onT isStr to) nilA)) := by
  refine pe_imp (pe_upper ho hbase hline) fun σ H Q ⟨G, ρ, k, r, h, q⟩ => ⟨G, ρ, _, r, h, fun x v H1 ⟨hs, h1⟩ e1 d1 => ?_⟩
  cases x <;> try exact (show False from hs).elim
  obtain rfl := d1
  exact ⟨⟨_, rfl⟩, _, rfl, rfl, h1.1, q _ _ H1 h1.2 e1 rfl⟩
end

/-! ### a tuple so many times -/
def rTM (K : PySem.W.Frag) : R2 := fun x y H Q => ∃ l k xs, x = .ref l ∧ y = .int k ∧ SqT K H l xs ∧ xs ≠ [] ∧ 2 ≤ k ∧ (xs.length : Int) * k ≤ 1000000 ∧ ∀ p, H p = none → Q (.ref p) (upd H p (.tup (List.replicate k.toNat xs).flatten))
section
variable {X : Cx}
theorem op_tm : OpR X (binaryOp .Mult) (rTM X.K) := by
  intro pins s σ H x y v u Q I rx ry h
  obtain ⟨l, k, xs, rfl, rfl, hT, hne, h1, hz, q⟩ := h
  cases rx
  obtain ⟨t, rfl⟩ := ry
  obtain ⟨its, r, ⟨⟨cls, dd, data, sl⟩, ho, hc, n, hd⟩, hs⟩ := I.tuple hT
  simp only at hc hd
  subst hc hd
  have hle : its.length = xs.length := r.length.symm
  have hpos : 1 ≤ xs.length := by
    cases xs with
    | nil => exact absurd rfl hne
    | cons a b => simp
  have hi : its.toArray.isEmpty = false := by
    cases its with
    | nil => simp at hle; omega
    | cons a b => rfl
  have hm : ((its.toArray.size : Nat) : Int) * k ≤ 1000000 := by rw [List.size_toArray, hle]; exact hz
  have hk : k ≤ 1000000 := by
    have : (1 : Int) * k ≤ (xs.length : Int) * k := Int.mul_le_mul_of_nonneg_right (by omega) (by omega)
    omega
  have fl : k.toNat * xs.length ≤ 1000000 := by
    have e : ((k.toNat * xs.length : Nat) : Int) = (xs.length : Int) * k := by
      rw [Int.natCast_mul, Int.toNat_of_nonneg (by omega), Int.mul_comm]
    omega
  have c0 : (decide (k < -(2 ^ 63)) || decide (k ≥ 2 ^ 63)) = false := by
    rw [decide_eq_false (by omega), decide_eq_false (by omega)] <;> rfl
  have c1 : (its.toArray.isEmpty || k == 1) = false := by
    rw [hi, Bool.false_or]
    exact beq_eq_false_iff_ne.mpr (by omega)
  have c2 : (decide (k ≤ 0) || its.toArray.isEmpty) = false := by
    rw [hi, Bool.or_false]
    exact decide_eq_false (by omega)
  have c4 : Builtin.Tuple.tupleTooMany (((its.toArray.size : Nat) : Int) * k) = false := by
    unfold Builtin.Tuple.tupleTooMany
    rw [sizeLine_eq]
    exact decide_eq_false (by omega)
  refine wpAny_binaryOp_repeat_ref (T := "tuple") (U := "int") (by decide) ⟨_, ho, rfl⟩ (fun s' => typeIs_int s' k t) noFill_tuple_mul F.fills_int_mul F.slot_int_rmul repeat_tuple F.slot_int_index.lookup
    (call_meets F.slot_int_rmul (typeIs_int s k t) F.entry_int_rmul (F.args_int_rmul_2 _ _) (int_rmul_tuple k t l its.toArray n dd sl)
      ⟨ho, rfl, ⟨_, ho, rfl⟩, call_meets F.slot_tuple_mul ⟨_, ho, rfl⟩ F.entry_tuple_mul (F.args_tuple_mul_2 _ _) (tuple_mulW l its.toArray n dd sl k t c0 c1 c2 (by omega) c4 (by rw [size_rep, List.size_toArray, PyProof.Rows.lm_len_rep_flat, hle, sizeLine_eq]; omega)) ⟨ho, ?_⟩⟩)
  rw [size_rep]
  exact ⟨.ref s.heap.objs.size, _, I.laid (t' := s.toks) (o := .tup (List.replicate k.toNat xs).flatten) (fun b ob q => Heap.get?_push_of_some _ q) (Nat.le_refl _) ⟨by rw [PyProof.Rows.lm_len_rep_flat, sizeLine_eq]; omega, _, r.rep k.toNat, IsTup.new _ _⟩, rfl, q _ (I.hok.fresh (Nat.le_refl _))⟩
end
def tmD : OD := fun x y k => match x, y with
  | .tup ds, .int j => ds ≠ [] ∧ 2 ≤ j ∧ (ds.length : Int) * j ≤ 1000000 ∧ k (.tup (List.replicate j.toNat ds).flatten)
  | _, _ => False
section
variable {X : Cx} {F : Fr} {a b : Expr} {ta tb : TD} {pos : Pos}
theorem d_tm (ha : PE X a (lift F ta)) (hb : PE X b (lift F tb)) (hK : X.K = F.K := by rfl) : PE X (.BinOp a .Mult b pos) (lift F (binT tmD ta tb)) := by
  refine d_bin (r := rTM X.K) op_tm ?_ ha hb
  intro G H x y v u k Q ⟨ob, oi, tr, bg⟩ h hx hy q
  unfold tmD at h
  split at h
  · obtain ⟨p, xs, rfl, hp, hl⟩ := hx
    obtain rfl := hy
    obtain ⟨h1, h2, h3, h⟩ := h
    refine ⟨p, _, xs, rfl, rfl, hK ▸ hp, fun z => h1 (by have := hl.len; rw [z] at this; exact List.eq_nil_of_length_eq_zero this), h2, by rw [← hl.len]; exact h3, fun w hw => ?_⟩
    have ev : ∀ {o : HO}, Evo G G H (upd H w o) := fun {o} => ⟨fun a o n h => (Ext.new bg hw).lk (fun z => n (by rw [z]; exact ob)) h, tr, fun _ n _ => n, rfl, rfl⟩
    exact q _ _ _ h (Ext.new bg hw) ⟨w, _, rfl, .inl (.inl upd_same), ev.dts _ _ (hl.rep _)⟩
  · exact h.elim
end

/-! ### dicts with text keys, written out -/
structure PK (X : Cx) (F : Fr) (pos : Pos) (keys : List (Option Expr)) (values : List Expr) (ks : List Str) (ta : TLD) : Prop where
  ex : ∃ trs, PPs X pos keys values trs ∧ keys.all (·.isSome) = true ∧ keys.length = values.length ∧ keys.length = ks.length ∧ ∀ σ H Q, (∃ G ρ k, Rel F G H σ ρ ∧ ta ρ k ∧ ∀ ds vs H', k ds → Ext G H H' → DtL F.K G H' ds vs → vs.length = ks.length → Q ((ks.map V.str).zip vs) H') → tPairs trs σ H Q
def dispT (ks : List Str) (ta : TLD) : TD := fun ρ k => ta ρ fun ds => k (.dic false ((ks.map D.str).zip ds))
section
variable {X : Cx} {F : Fr} {pos p : Pos} {keys : List (Option Expr)} {values : List Expr} {ks : List Str} {ta : TLD} {tv : TD} {v : Expr} {x : Str} {j : Nat}
theorem pk_nil : PK X F pos [] [] [] nilA := ⟨[], pps_nil, rfl, rfl, rfl, fun σ H Q ⟨G, ρ, k, r, h, q⟩ => q [] [] H h (.refl r.bag) rfl rfl⟩
theorem pk_cons (hv : PE X v (lift F tv)) (hr : PK X F pos keys values ks ta) : PK X F pos (some (.Constant (.str x) j p) :: keys) (v :: values) (x :: ks) (consA tv ta) := by
  obtain ⟨trs, h1, h2, h3, h4, h5⟩ := hr
  refine ⟨_, pps_cons pe_str hv h1, by simpa using h2, by simp [h3], by simp [h4], fun σ H Q ⟨G, ρ, k, r, h, q⟩ => ?_⟩
  refine ⟨G, ρ, _, r, h, fun d w H1 k1 e1 d1 => h5 _ _ _ ⟨G, ρ, _, r.step e1, k1, fun ds vs H2 k2 e2 d2 l => ?_⟩⟩
  exact q (d :: ds) (w :: vs) H2 k2 (e1.trans e2) ⟨w, vs, rfl, ((r.step e1).evo e2).dt _ _ d1, d2⟩ (by simp [l])
theorem merge_keys {kvs : List (Key × V)} (h : (kvs.map (·.1)).Nodup) : mergeK [] kvs = kvs := by
  have gen : ∀ (b a : List (Key × V)), ((a ++ b).map (·.1)).Nodup → b.foldl (fun acc kv => putK acc kv.1 kv.2) a = a ++ b := by
    intro b
    induction b with
    | nil => intro a _; simp
    | cons c b ih =>
      intro a h
      have hn : putK a c.1 c.2 = a ++ [c] := by
        unfold putK
        rw [if_neg]
        intro z
        obtain ⟨w, hw, e⟩ := List.any_eq_true.mp z
        have e := of_decide_eq_true e
        rw [List.map_append, List.map_cons] at h
        have := List.nodup_append.mp h
        exact this.2.2 _ (List.mem_map.mpr ⟨w, hw, rfl⟩) _ (List.mem_cons_self) e
      rw [List.foldl_cons, hn, ih (a ++ [c]) (by simpa using h)]
      simp
  exact gen kvs [] (by simpa using h)
theorem DtP.zip {K : PySem.W.Frag} {G : Gh} {H : Hp} : ∀ {ks : List Str} {ds : List D} {vs : List V}, DtL K G H ds vs → DtP K G H false ((ks.map D.str).zip ds) ((ks.map fun x => (Sum.inr x : Key)).zip vs)
  | [], ds, vs, h => by simp only [List.map_nil, List.zip_nil_left]; exact ⟨rfl, rfl⟩
  | x :: ks, [], vs, h => by obtain rfl := h; simp only [List.zip_nil_right]; exact ⟨rfl, rfl⟩
  | x :: ks, d :: ds, vs, h => by
    obtain ⟨v, r, rfl, h1, h2⟩ := h
    simp only [List.map_cons, List.zip_cons_cons]
    exact ⟨.inr x, v, _, rfl, rfl, h1, DtP.zip h2⟩
theorem d_disp (h : PK X F pos keys values ks ta) (hn : ks.Nodup) (h0 : ks ≠ []) (h15 : ks.length ≤ 15) : PE X (.Dict keys values pos) (lift F (dispT ks ta)) := by
  obtain ⟨trs, h1, h2, h3, h4, h5⟩ := h
  refine pe_imp (pe_disp h1 h2 h3 (fun z => h0 (by rw [z] at h4; exact List.eq_nil_of_length_eq_zero h4.symm)) (by rw [h4]; exact h15)) fun σ H Q ⟨G, ρ, k, r, w, q⟩ => fun p hp => ?_
  have e1 : Ext G H (upd H p (.dK [])) := Ext.new r.bag hp
  have r1 : Rel F (G.add p) (upd H p (.dK [])) σ ρ := r.grow e1 hp (by rw [upd_same]; exact True.intro)
  refine h5 _ _ _ ⟨_, ρ, _, r1, w, fun ds vs H2 k2 e2 d2 l => ?_⟩
  have np : p ≠ G.bg := fun z => r.free hp (by rw [z]; exact r.obg)
  have hp2 : H2 p = some (.dK []) := e2.mine np upd_same (.inr rfl)
  have lk : ((ks.map fun x => (Sum.inr x : Key)).zip vs).length = ks.length := by rw [List.length_zip, List.length_map, l, Nat.min_self]
  refine ⟨hp2, (ks.map fun x => (Sum.inr x : Key)).zip vs, ?_, by rw [lk]; exact h15, ?_⟩
  · rw [List.zip_map_left, List.zip_map_left, List.map_map]
    rfl
  · have r2 := r1.step e2
    have hm : mergeK [] ((ks.map fun x => (Sum.inr x : Key)).zip vs) = (ks.map fun x => (Sum.inr x : Key)).zip vs := merge_keys (by
      rw [List.map_fst_zip (by rw [List.length_map, l]; exact Nat.le_refl _)]
      exact hn.map _ fun a b n e => n (Sum.inr.inj e))
    rw [hm]
    have ev : Evo (G.add p) G H2 (upd H2 p (.dK ((ks.map fun x => (Sum.inr x : Key)).zip vs))) :=
      ⟨fun a o n h => .inl (by rw [upd_ne (fun z => n (.inr z))]; exact h), r2.tr, fun a n _ => fun z => n (.inl z), rfl, rfl⟩
    have ex : Ext G H (upd H2 p (.dK ((ks.map fun x => (Sum.inr x : Key)).zip vs))) := by
      refine ⟨fun a o n h => ?_, ?_⟩
      · have na : a ≠ p := fun z => by rw [z, hp] at h; cases h
        rw [upd_ne na]
        exact ((e1.trans (Ext.cg (G := G.add p) (G' := G) rfl rfl (fun _ h => .inl h) e2)).keep a o n h)
      · obtain ⟨x, y, z, ns, b1, b2, b3⟩ := (show BagOk H2 G.bg G.bi from e2.bag)
        have nb : p ≠ G.bi := fun z => by rw [z] at hp2; rw [b2] at hp2; cases hp2
        exact ⟨x, y, z, ns, by rw [upd_ne np.symm]; exact b1, by rw [upd_ne nb.symm]; exact b2, b3⟩
    exact q _ _ _ k2 ex ⟨p, rfl, r.free hp, .inl ⟨_, .inl upd_same, ev.dtp _ _ _ (DtP.zip d2)⟩⟩
end
end DL

set_option Elab.async false
set_option linter.all false
set_option maxRecDepth 100000
set_option maxHeartbeats 4000000
namespace DL
open PySem PySem.Spec PyProof.Rows L2
/-! ### an owned list read and changed in place -/
def ixO (i : Nat) (tb : TD) : TD := fun ρ k => match ρ[i]? with
  | some (.tr (.l ts)) => tb ρ fun d => match d with
    | .int j => ∃ d, L2.atI ts j = some (.d d) ∧ k d
    | _ => False
  | _ => False
def popD : MD := fun ts args k => match args with
  | [.int j] => 0 ≤ j ∧ j < ts.length ∧ ts.length ≤ sizeLine ∧ (∃ d, ts[j.toNat]? = some (.d d)) ∧ k (ts.take j.toNat ++ ts.drop (j.toNat + 1))
  | _ => False
/-- a, b = [..] of its own, e -/
def parO (i j : Nat) (ta : TRD) (tb : TD) : TSD := fun k ρ => ta ρ fun t => tb ρ fun d => k.nx ((ρ.set i (.tr t)).set j (.dat d))
section
variable {X : Cx} {F : Fr} {e b : Expr} {tb : TD} {ta : TLD} {pos cpos apos px py pt pt2 : Pos} {x y : Str}
theorem d_ixO (i : Nat) (hb : PE X b (lift F tb)) (hN : X.N[i]? = some x := by rfl) (hv : Vis X.env.scope x := by first | exact Or.inl rfl | exact Or.inr (Or.inl rfl) | exact Or.inr (Or.inr rfl)) (hdb : (x == ("__debug__" : Str)) = false := by decide)
    (hcd : (x == ("__classdict__" : Str)) = false := by decide)
    (hs : PlainIx b := by intro _ _; rfl) (hK : X.K = F.K := by rfl) :
    PE X (.Subscript (.Name x px) b pos) (lift F (ixO i tb)) := by
  refine pe_imp (pe_ix ix_seq (pe_var hN hv hdb hcd) hb hs) fun σ H Q ⟨G, ρ, k, r, h, q⟩ => ?_
  obtain ⟨ts, hi, h⟩ := tl_of h
  obtain ⟨v, B, e1, ⟨p, xs, M, rfl, o2, h4, h5, rfl⟩, _, _, _⟩ := r.chg hi
  refine ⟨_, e1, G, ρ, _, r, h, fun d u H1 h1 x1 d1 => ?_⟩
  cases d <;> try exact h1.elim
  rename_i j
  obtain rfl := d1
  obtain ⟨d, hd, hk⟩ := h1
  obtain ⟨v, B, e1', ⟨p', xs', M, rfl, o2, h4, h5, rfl⟩, _, _, _⟩ := (r.step x1).chg hi
  rw [e1] at e1'
  cases e1'
  unfold L2.atI at hd
  cases q' : ixN ts.length j with
  | none => rw [q'] at hd; cases hd
  | some n =>
    rw [q'] at hd
    obtain ⟨w, M', w1, w2, _⟩ := h5.get hd
    refine .inl ⟨p, xs', _, w, rfl, rfl, SqL.of h4, ?_, q _ _ _ hk x1 w2.2⟩
    unfold L2.atI
    rw [← h5.len, q']
    exact w1
theorem s_pop (i : Nat) (ha : PA X [e] (liftA F ta))
    (hpe : PE X (.Call (.Attribute (.Name x px) "pop" apos) [e] [] cpos) (tBM X.K "list" rPopAt (tVar i) (liftA F ta))) (hs : swapsWith (.Call (.Attribute (.Name x px) "pop" apos) [e] [] cpos) none pos.line X.env = pure false := by rfl) :
    PS X (.Expr (.Call (.Attribute (.Name x px) "pop" apos) [e] [] cpos) pos) (liftS F (mT i popD ta)) := by
  refine s_meth (fun G H p xs ts M args vs k Q hp hd ha h q => ?_) hpe hs
  unfold popD at h
  split at h
  · rename_i j
    obtain ⟨v, rfl, hv⟩ := dl1 ha
    obtain rfl := hv
    obtain ⟨a1, a2, a3, ⟨d, a4⟩, hk⟩ := h
    have hl := hd.len
    have hj : j.toNat < xs.length := by omega
    refine ⟨p, xs, j, j.toNat, xs[j.toNat], rfl, rfl, hp, by omega, by rw [sizeLine_eq] at a3; omega, seqIndex_of a1 (by omega), List.getElem?_eq_getElem hj, ?_⟩
    rw [List.eraseIdx_eq_take_drop_succ]
    refine q _ _ _ hk ?_
    obtain ⟨A, B, rfl, g1, g2⟩ := hd.split j.toNat
    have g3 : ts.drop j.toNat = .d d :: ts.drop (j.toNat + 1) := by
      have hj' : j.toNat < ts.length := by omega
      rw [List.drop_eq_getElem_cons hj']
      congr 1
      rw [List.getElem?_eq_getElem hj'] at a4
      exact Option.some.inj a4
    have g4 : xs.drop j.toNat = xs[j.toNat] :: xs.drop (j.toNat + 1) := List.drop_eq_getElem_cons hj
    rw [g3, g4] at g2
    obtain ⟨x, r, C, N, e1, w1, w2, rfl⟩ := g2
    obtain ⟨rfl, rfl⟩ := List.cons.inj e1
    obtain ⟨rfl, _⟩ := w1
    exact g1.app w2
  · exact h.elim
theorem s_parO {i j : Nat} {a : Expr} {kt k2 : Nat} {tr : TRD} (hc : X.calm = true) (hw : swappedStores [.Tuple [.Name x px, .Name y py] kt pt] (.Tuple [a, b] k2 pt2) X.env = pure (some [x, y])) (hN : X.N.Nodup)
    (hi : X.N[i]? = some x) (hj : X.N[j]? = some y) (hij : i ≠ j) (hx : X.env.scope.names.lookup x = some .local) (hy : X.env.scope.names.lookup y = some .local) (ha : PE X a (liftR F tr)) (hb : PE X b (lift F tb))
    (hs1 : starEach [a, b] X.env = (false, eval a X.env) :: starEach [b] X.env := by rfl) (hs2 : starEach [b] X.env = (false, eval b X.env) :: starEach [] X.env := by rfl)
    (hs : swapsWithSole [.Tuple [.Name x px, .Name y py] kt pt] (.Tuple [a, b] k2 pt2) pos.line X.env = pure false := by rfl) : PS X (.Assign [.Tuple [.Name x px, .Name y py] kt pt] (.Tuple [a, b] k2 pt2) pos) (liftS F (parO i j tr tb)) := by
  refine ps_imp (ps_par hc hN hi hj hij hx hy (pa_cons ha (pa_cons hb pa_nil hs2) hs1) hw hs) fun E σ H ⟨G, ρ, k, r, h, o⟩ => ⟨G, ρ, _, r, h, fun t v R H1 h1 e1 hR nR o1 => ?_⟩
  have hm : ∀ p ∈ R, Mut (H1 p) := fun p hp => Ow.mut t v R o1 p hp
  have r1 : Rel F (G.adds R) H1 σ ρ := r.grows e1 hR hm
  refine ⟨_, ρ, _, r1, h1, fun d w H2 h2 e2 d2 => ⟨_, _, rfl, ?_⟩⟩
  obtain ⟨L, rl⟩ := r.adrs
  have rl2 := (rl.grows e1 hR hm).step e2
  have o2 : Ow F.K (G.adds R) H2 t v R := Ow.evo (r1.evo e2) t v R (fun p hp => ⟨.inr hp, by
    have np : p ≠ G.bg := fun z => by
      have := r.bag.ne
      rw [← z] at this
      exact this (hR p hp)
    cases q : H1 p with
    | none => exact absurd q (Ow.own t v R o1 p hp).2
    | some u => exact e2.mine np q (.inr hp)⟩) o1
  exact o.nx _ _ _ H2 h2 (Rel.put (rl2.give (i := i) o2 nR (fun p hp z => r.free (hR p hp) (r.sub p z)) fun p hp => rl.new (hR p hp)) d2)
end

section
variable {X : Cx} {F : Fr} {st : Stmt} {S : TSD}
theorem s_frz (i : Nat) (h : PS X st (liftS F S)) : PS X st (liftS F (frzT i S)) := by
  refine ps_imp h fun E σ H ⟨G, ρ, k, r, w, o⟩ => ?_
  unfold frzT at w
  split at w
  · rename_i t hi
    obtain ⟨B, r'⟩ := r.frz hi
    exact ⟨_, _, k, r', w, o⟩
  · exact w.elim
end

/-! ### a written dict of the module, asked by get -/
/-- at d stands a written dict: text keys, what they have -/
structure KTab (K : PySem.W.Frag) (w : World) (mg : Str → Option Value) (x : Str) (tab : List (Str × D)) : Prop where
  ex : ∃ (d : Addr) (es : Array DictEntry) (n : Nat), mg x = some (.ref d) ∧ KDict K w d es n ∧ ∀ z, ∃ r, PySem.W.nsIn K d z = some r ∧ ((r = none ∧ tab.find? (fun p => decide (p.1 = z)) = none) ∨ ∃ u d' v, r = some u ∧ (tab.find? (fun p => decide (p.1 = z))).map (·.2) = some d' ∧ RelV v u ∧ ∀ G H, Dt K G H d' v)
def tabT (tab : List (Str × D)) (te tf : TD) : TD := fun ρ k => te ρ fun y => tf ρ fun z => match y with
  | .str x => k (((tab.find? (fun p => decide (p.1 = x))).map (·.2)).getD z)
  | _ => False
def tKG (K : PySem.W.Frag) (d : Addr) (ty tx : TE) : TE := fun σ H Q => ty σ H fun y H1 => tx σ H1 fun z H2 => ∃ x r v, y = .str x ∧ PySem.W.nsIn K d x = some r ∧ (r = none → v = z) ∧ (∀ u, r = some u → RelV v u) ∧ Q v H2
section
variable {X : Cx} {F : Fr} {e f : Expr} {te tf : TD} {x : Str} {px apos pos : Pos} {tab : List (Str × D)} {n : Nat}
theorem pe_kg {d : Addr} {es : Array DictEntry} {m : Nat} {ty tx : TE} (D : KDict X.K X.w d es m) (hm : X.mg x = some (.ref d)) (hg : Gl X x) (he : PE X e ty) (hf : PE X f tx) (hdb : (x == ("__debug__" : Str)) = false)
    (h1 : attributeBase (.Name x px) "get" X.env (eval (.Name x px) X.env) = eval (.Name x px) X.env)
    (h2 : ((backTo pos (starEach [e, f] X.env)).all (fun x => !x.1) && (backToKw pos (keywordEach [] X.env)).all (fun x => x.1.isSome)
    && decide (([e, f] : List Expr).length + ([] : List Keyword).length + (if ([] : List Keyword).isEmpty then 0 else 1) < 30)) = true)
    (h3 : (apos.endLine == pos.line) = true)
    (h4 : backTo pos (starEach [e, f] X.env) = [(false, eval e X.env), (false, eval f X.env)]) :
    PE X (.Call (.Attribute (.Name x px) "get" apos) [e, f] [] pos) (tKG X.K d ty tx) := by
  refine ⟨fun pins s σ H Q I h => ?_⟩
  refine wpAny_Call_method h1 h2 h3 PySem.F.plainAttrs_dict PySem.F.slot_dict_get PySem.F.type_dict_get (ld_glob I hg hm ?_ hdb)
  refine ⟨kd_type D I, fun b e => ?_, ?_⟩
  · cases e
    exact ⟨_, I.kIn _ _ D.at_, rfl⟩
  rw [h4]
  refine Calls.callWith_builtin rfl (Calls.evalArgs_plain (Calls.spliced_cons (thn (he.run pins s σ H _ I h) fun iv s2 ⟨y, H2, I2, ry, q2⟩ =>
    Calls.spliced_cons (thn (hf.run pins s2 σ H2 _ I2 q2) fun fv s3 ⟨z, H3, I3, rz, q3⟩ => Calls.spliced_nil ?_))))
  obtain ⟨x, r, v, rfl, hn, hv1, hv2, q3⟩ := q3
  obtain ⟨t, rfl⟩ := ry
  have dm := PySem.W.mapOf_K (prog := X.prog) (w := X.w) I3.kIn D.at_ D.lit
  have hl := PySem.W.find_K D.at_ hn
  refine call_meetsIn PySem.F.slot_dict_get dm.typeIs PySem.F.entry_dict_get (PySem.F.args_dict_get_3 _ _ _) (meets_dict_get_default (PySem.strKind X.prog X.w) d (PySem.strKind_is X.prog X.w x t) D.low fv) ⟨_, dm, v, H3, I3.tok _, ?_, q3⟩
  show RelV v ((findBy Value.isStrOf es x).getD fv)
  rw [hl]
  cases r with
  | none => rw [hv1 rfl]; exact rz
  | some u => exact hv2 u rfl
theorem d_kget (kt : KTab X.K X.w X.mg x tab) (hg : Gl X x) (he : PE X e (lift F te)) (hf : PE X f (lift F tf)) (hdb : (x == ("__debug__" : Str)) = false := by decide)
    (h1 : attributeBase (.Name x px) "get" X.env (eval (.Name x px) X.env) = eval (.Name x px) X.env := by rfl)
    (h2 : ((backTo pos (starEach [e, f] X.env)).all (fun x => !x.1) && (backToKw pos (keywordEach [] X.env)).all (fun x => x.1.isSome)
    && decide (([e, f] : List Expr).length + ([] : List Keyword).length + (if ([] : List Keyword).isEmpty then 0 else 1) < 30)) = true := by rfl)
    (h3 : (apos.endLine == pos.line) = true := by rfl)
    (h4 : backTo pos (starEach [e, f] X.env) = [(false, eval e X.env), (false, eval f X.env)] := by rfl) (hK : X.K = F.K := by rfl) :
    PE X (.Call (.Attribute (.Name x px) "get" apos) [e, f] [] pos) (lift F (tabT tab te tf)) := by
  obtain ⟨d, es, m, hm, D, ht⟩ := kt
  refine pe_imp (pe_kg D hm hg he hf hdb h1 h2 h3 h4) fun σ H Q ⟨G, ρ, k, r, h, q⟩ => ⟨G, ρ, _, r, h, fun y v H1 k1 e1 d1 => ⟨G, ρ, _, r.step e1, k1, fun z w H2 k2 e2 d2 => ?_⟩⟩
  cases y <;> try exact k2.elim
  rename_i s
  obtain rfl := d1
  obtain ⟨o, hn, ho⟩ := ht s
  replace k2 : k (((tab.find? (fun p => decide (p.1 = s))).map (·.2)).getD z) := k2
  rcases ho with ⟨rfl, ht⟩ | ⟨u, d', v, rfl, ht, hv, hd⟩
  · rw [ht] at k2
    exact ⟨s, none, w, rfl, hn, fun _ => rfl, (fun u e => nomatch e), q _ _ H2 k2 (e1.trans e2) d2⟩
  · rw [ht] at k2
    exact ⟨s, some u, v, rfl, hn, (fun e => nomatch e), (fun u' e => Option.some.inj e ▸ hv), q _ _ H2 k2 (e1.trans e2) (hK ▸ hd G H2)⟩
def entI (e : DictEntry) : Option (Str × Int) := match e.key, e.val with
  | .str z _, .int i _ => some (z, i)
  | _, _ => none
theorem entI_some {e : DictEntry} {z : Str} {i : Int} (h : entI e = some (z, i)) : ∃ t u, e.key = .str z t ∧ e.val = .int i u := by
  unfold entI at h
  split at h
  · rename_i h1 h2
    cases h
    exact ⟨_, _, h1, h2⟩
  · cases h
theorem ent_find (z : Str) : ∀ {l : List DictEntry} {tab : List (Str × Int)}, l.map entI = tab.map some →
    l.any (·.refKey) = false ∧ ((l.find? (·.key.isStr z) = none ∧ tab.find? (fun p => decide (p.1 = z)) = none) ∨ ∃ e i t, l.find? (·.key.isStr z) = some e ∧ e.val = .int i t ∧ tab.find? (fun p => decide (p.1 = z)) = some (z, i))
  | [], [], _ => ⟨rfl, .inl ⟨rfl, rfl⟩⟩
  | [], _ :: _, h => by cases h
  | _ :: _, [], h => by cases h
  | e :: l, (x, i) :: tab, h => by
    rw [List.map_cons, List.map_cons] at h
    obtain ⟨h1, h2⟩ := List.cons.inj h
    obtain ⟨t, u, k1, k2⟩ := entI_some h1
    obtain ⟨a1, a2⟩ := ent_find z h2
    refine ⟨?_, ?_⟩
    · rw [List.any_cons, a1, Bool.or_false]
      unfold DictEntry.refKey
      rw [k1]
    · by_cases hx : x = z
      · subst hx
        refine .inr ⟨e, i, u, ?_, k2, ?_⟩
        · rw [List.find?_cons, k1]
          show (match x == x with | true => some e | false => _) = _
          rw [beq_self_eq_true]
        · rw [List.find?_cons, decide_eq_true rfl]
      · have e1 : (e.key.isStr z) = false := by
          rw [k1]
          exact beq_eq_false_iff_ne.mpr hx
        rw [List.find?_cons, e1, List.find?_cons, decide_eq_false hx]
        exact a2
/-- the table from what stands there: ints by text keys -/
theorem KTab.ints {K : PySem.W.Frag} {w : World} {mg : Str → Option Value} {x : Str} {d : Addr} {es : Array DictEntry} {n : Nat} (hm : mg x = some (.ref d)) (D : KDict K w d es n) {tab : List (Str × Int)}
    (h : es.toList.map entI = tab.map some) : KTab K w mg x (tab.map fun p => (p.1, .int p.2)) := by
  refine ⟨d, es, n, hm, D, fun z => ?_⟩
  unfold PySem.W.nsIn
  rw [D.at_]
  dsimp only
  obtain ⟨a1, a2⟩ := ent_find z h
  have fm : (tab.map fun p => (p.1, DL.D.int p.2)).find? (fun p => decide (p.1 = z)) = (tab.find? (fun p => decide (p.1 = z))).map fun p => (p.1, DL.D.int p.2) := by
    rw [List.find?_map]; rfl
  rcases a2 with ⟨f1, f2⟩ | ⟨e, i, t, f1, f2, f3⟩
  · rw [f1, a1, fm, f2]
    exact ⟨none, rfl, .inl ⟨rfl, rfl⟩⟩
  · rw [f1, fm, f3]
    exact ⟨some e.val, rfl, .inr ⟨e.val, .int i, .int i, rfl, rfl, by rw [f2]; exact ⟨t, rfl⟩, fun _ _ => rfl⟩⟩
end
end DL

set_option Elab.async false
set_option linter.all false
set_option maxRecDepth 100000
set_option maxHeartbeats 4000000
namespace DL
open PySem PySem.Spec PyProof.Rows L2
/-! ### x == [], x == (): whatever is in x -/
def rE0 (K : PySem.W.Frag) : R2 := fun x y H Q => ∃ a b xs, x = .ref a ∧ y = .ref b ∧ ((SqL K H a xs ∧ SqL K H b []) ∨ (SqT K H a xs ∧ SqT K H b [])) ∧ Q (.bl xs.isEmpty) H
section
variable {X : Cx} {F : Fr} {n : Nat} {a b : Expr} {ta tb : TD} {pos : Pos}
theorem op_e0 (hr : Room n X.A) : OpR X (compareOp .Eq) (rE0 X.K) := by
  intro pins s σ H x y v u Q I rx ry h
  obtain ⟨a, b, xs, rfl, rfl, h, q⟩ := h
  cases rx
  cases ry
  have hu : X.A.units < cLine := by have := u150 hr; omega
  rcases h with ⟨h1, h2⟩ | ⟨h1, h2⟩
  · obtain ⟨its, r1, k1, _⟩ := I.list h1
    obtain ⟨its2, r2, k2, _⟩ := I.list h2
    replace k1 : s.heap.IsList a its.toArray := let ⟨o, n, ho, hc, _, hd⟩ := k1; ⟨o, ho, hc, n, hd⟩
    replace k2 : s.heap.IsList b its2.toArray := let ⟨o, n, ho, hc, _, hd⟩ := k2; ⟨o, ho, hc, n, hd⟩
    cases r2
    cases r1 with
    | nil => exact SeqAt.eq_listAt (e := fun _ => true) k1 k2 rfl hu (fun j h => absurd h (Nat.not_lt_zero _)) ⟨.bl true, H, I, rfl, q⟩
    | cons c r => exact SeqAt.eq_list_lengthsAt k1 k2 (by simp) hu ⟨.bl false, H, I, rfl, q⟩
  · obtain ⟨its, r1, k1, _⟩ := I.tuple h1
    obtain ⟨its2, r2, k2, _⟩ := I.tuple h2
    cases r2
    refine SeqAt.eq_tupleAt (e := fun _ => true) k1 k2 hu (fun j _ h => absurd h (Nat.not_lt_zero _)) ?_
    cases r1 with
    | nil => exact ⟨.bl true, H, I, rfl, q⟩
    | cons c r => exact ⟨.bl false, H, I, by simp; rfl, q⟩
end
def e0D : OD := fun x y k => match x, y with
  | .lst ds, .lst [] => k (.bl ds.isEmpty)
  | .tup ds, .tup [] => k (.bl ds.isEmpty)
  | _, _ => False
theorem DtL.emp {K : PySem.W.Frag} {G : Gh} {H : Hp} {ds : List D} {vs : List V} (h : DtL K G H ds vs) : ds.isEmpty = vs.isEmpty := by
  have := h.len
  cases ds <;> cases vs <;> simp at this ⊢
theorem ok_e0 {F : Fr} : OkOp F (rE0 F.K) e0D := by
  intro G H x y v u k Q ok h d1 d2 q
  unfold e0D at h
  split at h
  · obtain ⟨a, xs, rfl, n1, h1, l1⟩ := d1
    obtain ⟨b, ys, rfl, n2, h2, l2⟩ := d2
    obtain rfl : ys = [] := l2
    exact ⟨a, b, xs, rfl, rfl, .inl ⟨SqL.of h1, SqL.of h2⟩, by rw [← l1.emp]; exact q _ _ H h (.refl ok.bag) rfl⟩
  · obtain ⟨a, xs, rfl, h1, l1⟩ := d1
    obtain ⟨b, ys, rfl, h2, l2⟩ := d2
    obtain rfl : ys = [] := l2
    exact ⟨a, b, xs, rfl, rfl, .inr ⟨h1, h2⟩, by rw [← l1.emp]; exact q _ _ H h (.refl ok.bag) rfl⟩
  · exact h.elim
end DL

set_option Elab.async false
set_option linter.all false
set_option maxRecDepth 100000
set_option maxHeartbeats 4000000
namespace DL
open PySem PySem.Spec PyProof.Rows L2
/-! ### data with dicts, as the model's own data -/
mutual
def D.pw : D → PyData
  | .non => .none
  | .bl b => .bool b
  | .int i => .int i
  | .str x => .str x
  | .lst ds => .list (D.pwL ds)
  | .tup ds => .tuple (D.pwL ds)
  | .dic _ es => .dict (D.pwP es)
  | .ins _ _ => .dict []
  | .bag => .dict []
  | .lock _ _ => .dict []
def D.pwL : List D → List PyData
  | [] => []
  | d :: ds => D.pw d :: D.pwL ds
def D.pwP : List (D × D) → List (PyData × PyData)
  | [] => []
  | (k, d) :: es => (k.py, D.pw d) :: D.pwP es
end
mutual
def D.okW : D → Bool
  | .non | .bl _ | .int _ | .str _ => true
  | .lst ds => D.okL ds
  | .tup ds => D.okL ds
  | .dic t es => !t && D.okP es
  | .ins _ _ => false
  | .bag => false
  | .lock _ _ => false
def D.okL : List D → Bool
  | [] => true
  | d :: ds => D.okW d && D.okL ds
def D.okP : List (D × D) → Bool
  | [] => true
  | (_, d) :: es => D.okW d && D.okP es
end
section
variable {X : Cx} {pins : List (Addr × Obj)} {σ : L2.St} {H : Hp} {s : Shared} {G : Gh}
theorem keyIs_reads {h : Heap} {k : Key} {u : Value} (r : (mixKind X.prog X.w).is k u = true) : Reads h u (kD k).py [] := by
  rcases keyIs_shape r with ⟨i, t, rfl, rfl⟩ | ⟨x, t, rfl, rfl⟩
  · exact .int i t
  · exact .str x t
mutual
theorem Dt.reads (I : Inv X pins σ H s) (hS : H sysModules = none) : ∀ (d : D) (v : V) (u : Value), d.okW = true → Dt X.K G H d v → RelV v u → ∃ as, Reads s.heap u d.pw as ∧ sysModules ∉ as
  | .non, v, u, _, h, r => by obtain rfl := h; obtain rfl : u = .none := r; exact ⟨[], .none, by simp⟩
  | .bl b, v, u, _, h, r => by obtain rfl := h; obtain rfl : u = .bool b := r; exact ⟨[], .bool b, by simp⟩
  | .int i, v, u, _, h, r => by obtain rfl := h; obtain ⟨t, rfl⟩ := r; exact ⟨[], .int i t, by simp⟩
  | .str x, v, u, _, h, r => by obtain rfl := h; obtain ⟨t, rfl⟩ := r; exact ⟨[], .str x t, by simp⟩
  | .lst ds, v, u, c, h, r => by
    obtain ⟨a, xs, rfl, n, ha, hd⟩ := h
    cases r
    obtain ⟨its, rv, ⟨o, n', ho, hc, _, hda⟩, _⟩ := I.list (SqL.of ha)
    obtain ⟨as, r1, r2⟩ := Dt.readsL I hS ds xs its (by simpa only [D.okW] using c) hd rv
    refine ⟨a :: as, .list ho hc hda r1, fun z => ?_⟩
    rcases List.mem_cons.mp z with z | z
    · rw [← z, hS] at ha; cases ha
    · exact r2 z
  | .tup ds, v, u, c, h, r => by
    obtain ⟨a, xs, rfl, ha, hd⟩ := h
    cases r
    obtain ⟨its, rv, ⟨o, ho, hc, n', hda⟩, _⟩ := I.tuple ha
    obtain ⟨as, r1, r2⟩ := Dt.readsL I hS ds xs its (by simpa only [D.okW] using c) hd rv
    exact ⟨as, .tuple ho hc hda r1, r2⟩
  | .dic t es, v, u, c, h, r => by
    simp only [D.okW, Bool.and_eq_true, Bool.not_eq_true'] at c
    obtain ⟨rfl, c⟩ := c
    obtain ⟨a, kvs, rfl, n, ha, hp⟩ := dic_K h
    cases r
    obtain ⟨z, hd, vs, kv, o, ents, ep, ho, hx, hda, _, hpr, _⟩ := dk_rd I.hok ha
    obtain ⟨as, bs, r1, r2, r3, r4⟩ := Dt.readsP I hS es kvs vs ents.toList c hp kv hpr
    refine ⟨a :: as ++ bs, .dict ho hx.1 hda r1 r2, fun y => ?_⟩
    rcases List.mem_append.mp y with y | y
    · rcases List.mem_cons.mp y with y | y
      · rw [← y] at hd; simp at hd
      · exact r3 y
    · exact r4 y
  | .ins C fs, v, u, c, h, r => by simp [D.okW] at c
  | .bag, v, u, c, h, r => by simp [D.okW] at c
  | .lock _ _, v, u, c, h, r => by simp [D.okW] at c
theorem Dt.readsL (I : Inv X pins σ H s) (hS : H sysModules = none) : ∀ (ds : List D) (vs : List V) (us : List Value), D.okL ds = true → DtL X.K G H ds vs → Vals vs us → ∃ as, ReadsAll s.heap us (D.pwL ds) as ∧ sysModules ∉ as
  | [], vs, us, _, h, r => by obtain rfl := h; cases r; exact ⟨[], .nil, by simp⟩
  | d :: ds, vs, us, c, h, r => by
    obtain ⟨v, vs, rfl, h1, h2⟩ := h
    simp only [D.okL, Bool.and_eq_true] at c
    cases r with
    | cons r1 r2 =>
      obtain ⟨as, q1, q2⟩ := Dt.reads I hS d v _ c.1 h1 r1
      obtain ⟨bs, q3, q4⟩ := Dt.readsL I hS ds vs _ c.2 h2 r2
      exact ⟨as ++ bs, .cons q1 q3, fun z => by rcases List.mem_append.mp z with z | z; exact q2 z; exact q4 z⟩
theorem Dt.readsP (I : Inv X pins σ H s) (hS : H sysModules = none) : ∀ (es : List (D × D)) (kvs : List (Key × V)) (vs : List (Key × Value)) (ents : List DictEntry), D.okP es = true → DtP X.K G H false es kvs → KV kvs vs → Pairs (mixKind X.prog X.w) ents vs →
    ∃ as bs, ReadsAll s.heap (ents.map (·.key)) ((D.pwP es).map (·.1)) as ∧ ReadsAll s.heap (ents.map (·.val)) ((D.pwP es).map (·.2)) bs ∧ sysModules ∉ as ∧ sysModules ∉ bs
  | [], kvs, vs, ents, _, h, kv, hp => by
    obtain ⟨rfl, _⟩ := h
    cases kv
    cases hp
    exact ⟨[], [], .nil, .nil, by simp, by simp⟩
  | (k, d) :: es, kvs, vs, ents, c, h, kv, hp => by
    obtain ⟨j, v, r, rfl, rfl, h1, h2⟩ := h
    simp only [D.okP, Bool.and_eq_true] at c
    cases kv with
    | @cons p q l1 l2 kq kr =>
      obtain ⟨e1, rv⟩ := kq
      cases hp with
      | cons p1 p2 p3 =>
        obtain ⟨as, q1, q2⟩ := Dt.reads I hS d v _ c.1 h1 rv
        obtain ⟨bs, cs, q3, q4, q5, q6⟩ := Dt.readsP I hS es r l2 _ c.2 h2 kr p3
        refine ⟨[] ++ bs, as ++ cs, .cons (keyIs_reads (X := X) (by rw [show j = q.1 from e1]; exact p1)) q3, .cons (show Reads s.heap (DictEntry.val _) d.pw as by rw [p2]; exact q1) q4, by simpa using q5, fun z => by rcases List.mem_append.mp z with z | z; exact q2 z; exact q6 z⟩
end
end

/-! ### repr of any data -/
def reprW : RD
  | [d], k => (d.okW = true ∧ d.pw.showable = true ∧ d.pw.depth ≤ 140 ∧ d.pw.shown.length ≤ sizeLine) ∧ k (.str d.pw.shown)
  | _, _ => False
def rReprW (K : PySem.W.Frag) : List V → Hp → VK → Prop := fun xs H Q => ∃ (x : V) (d : D) (G : Gh), xs = [x] ∧ Dt K G H d x ∧ d.okW = true ∧ d.pw.showable = true ∧ d.pw.depth ≤ 140 ∧ d.pw.shown.length ≤ sizeLine ∧ Q (.str d.pw.shown) H
theorem cr_reprW {X : Cx} {n : Nat} (hr : Room n X.A) (hg : X.A.guards = some []) (hS : ∃ m, X.base.Ns sysModules m) : CallR X (.builtin "repr") (rReprW X.K) := by
  intro pins s σ H xs us Q I r h
  obtain ⟨x, d, G, rfl, hd, c, hs, hdp, hz, q⟩ := h
  obtain ⟨u, rfl, rx⟩ := vals1 r
  have hn : H sysModules = none := by
    obtain ⟨m, o, es, ep, e, _⟩ := hS
    exact (I.bs _ _ e).2
  obtain ⟨as, rd, na⟩ := Dt.reads I hn d x u c hd rx
  have hu := u150 hr
  have fin : ∀ k, EP X pins σ Q (.str d.pw.shown k) { s with toks := s.toks + 1 } := fun k => ⟨.str d.pw.shown, H, I.tok _, ⟨_, rfl⟩, q⟩
  have gen : ∀ a : Addr, u = .ref a → wpAny (model X.prog X.w) X.A (call (.builtin "repr") [u]) (EP X pins σ Q) X.xe s := by
    intro a e
    subst e
    refine repr_of_reads' rd hs (fun _ => na) hg (by omega) (fun _ _ e => e) (fun h' u tk hk => ?_) hz
    exact ⟨.str _, H, I.kept hk, ⟨_, rfl⟩, q⟩
  cases d with
  | non =>
    obtain rfl := hd
    obtain rfl : u = .none := rx
    simp only [D.pw, PyData.shown] at fin
    exact P.repr_of_none (fin _)
  | bl b =>
    obtain rfl := hd
    obtain rfl : u = .bool b := rx
    simp only [D.pw, PyData.shown] at fin
    exact P.repr_of_bool (fin _)
  | int i =>
    obtain rfl := hd
    obtain ⟨t, rfl⟩ := rx
    simp only [D.pw, PyData.shown] at fin
    exact P.repr_of_int (by simpa [D.pw, PyData.showable] using hs) (fin _)
  | str z =>
    obtain rfl := hd
    obtain ⟨t, rfl⟩ := rx
    simp only [D.pw, PyData.shown] at fin hz
    exact P.repr_of_str (fin _) hz
  | lst ds => obtain ⟨a, xs, rfl, _⟩ := hd; exact gen a rx
  | tup ds => obtain ⟨a, xs, rfl, _⟩ := hd; exact gen a rx
  | dic t es => obtain ⟨a, rfl, _⟩ := hd; exact gen a rx
  | ins C fs => simp [D.okW] at c
  | bag => simp [D.okW] at c
  | lock _ _ => simp [D.okW] at c
theorem ok_reprW {F : Fr} : OkCall F (rReprW F.K) reprW := by
  intro G H ds vs k Q ok h hd q
  unfold reprW at h
  split at h
  · obtain ⟨v, rfl, hv⟩ := dl1 hd
    exact ⟨v, _, G, rfl, hv, h.1.1, h.1.2.1, h.1.2.2.1, h.1.2.2.2, q _ _ _ h.2 (.refl ok.bag) rfl⟩
  · exact h.elim
section
variable {X : Cx} {F : Fr} {p pos : Pos} {e : Expr} {ta : TLD}
theorem d_reprW {n : Nat} (hr : Room n X.A) (hgd : X.A.guards = some []) (hS : ∃ m, X.base.Ns sysModules m) (hg : Gl X "repr") (hm : X.mg "repr" = none) (ha : PA X [e] (liftA F ta)) (he : starEach [e] X.env = (false, eval e X.env) :: starEach [] X.env := by rfl) (hK : X.K = F.K := by rfl) :
    PE X (.Call (.Name "repr" p) [e] [] pos) (lift F (callT reprW ta)) := d_callB (cr_reprW hr hgd hS) (hK ▸ ok_reprW) hg hm (by decide +kernel) ha (by decide) (by decide) he
end
end DL

set_option Elab.async false
set_option linter.all false
set_option maxRecDepth 100000
set_option maxHeartbeats 4000000
namespace DL
open PySem PySem.Spec PyProof.Rows L2

/-- the head's call, for a def that runs where no repr runs -/
theorem callG2 {P : Program} {w : World} {K : PySem.W.Frag} {mg mb : Str → Option Value} {k : Nat} {fa a : Addr} {fd : FuncData} {x : Str} {t : Shared} {vs : List Value} {ns : List Int}
    (hK : K.In t.heap) (hG : t.heap.Ns mainGlobals mg) (hB : t.heap.Ns builtinsNs mb) (hBB : ∀ x : Str, x ≠ "__name__" → mb x = bootBuiltins x) (hL : t.heap.NoLimit) (hM : ∃ m, t.heap.Ns sysModules m) (hg : t.gens = #[])
    (ha : t.heap.get? a = some { cls := .type "list", data := .seq vs.toArray }) (hi : IntsAre vs ns) (h63 : ns.length ≤ 63) (hr : Room k callerA)
    (F : ∀ base : Heap, K.In base → base.Ns mainGlobals mg → (∃ m, base.Ns sysModules m) → FnG P w K mg base CX0 k fa fd [x] (spLaw K)) (hbind : ∀ (s : Shared) (u : Value), BindsTo s fd ⟨[u], []⟩ [(x, u)]) :
    codeAny (model P w) callerA (.call (.ref fa) ⟨[.ref a], []⟩) (fun r s' => r = .ok (.ret (.bool true)) ∧ OldK t.heap s'.heap ∧ s'.os = t.os ∧ AllBare s'.gens) t := by
  have rel := vals_ints hi
  have hlen := hi.length
  have hline : ns.length ≤ sizeLine := Nat.le_trans h63 (by decide)
  let ob : Obj := { cls := .type "list", data := .seq vs.toArray }
  let S := scriptH K a ob ns
  have free : ∀ {b : Addr}, b ≠ a → S b = none := fun {b} n => if_neg fun z => n z.1
  have ok : HOk P w S t.heap := fun b u z => by
    obtain ⟨rfl, _, rfl⟩ := scriptH_at z
    exact ⟨ha, by rw [List.length_map]; exact hline, vs, _, rel, ha⟩
  have down : ∀ {b : Addr} {o : Obj}, t.heap.get? b = some o → S b = none → (hidT t.heap S).get? b = some o := fun e n => hidT_get e n
  have dict : ∀ {b : Addr} {o : Obj} {es : Array DictEntry} {ep : Nat}, t.heap.get? b = some o → o.data = .dict es ep → S b = none := fun {b o es ep} e d => by
    by_cases z : b = a
    · subst z
      rw [ha] at e
      cases e
      exact absurd d fun q => (nomatch (show Data.seq vs.toArray _ = Data.dict es ep from q))
    · exact free z
  have spaces : ∀ {b : Addr} {m : Str → Option Value}, t.heap.Ns b m → (hidT t.heap S).Ns b m := fun {b m} ⟨o, es, ep, e, d, r⟩ => ⟨o, es, ep, down e (dict e d), d, r⟩
  have inK : K.In (hidT t.heap S) := fun b o e => down (hK b o e) (by
    cases q : S b with
    | none => rfl
    | some u =>
      obtain ⟨rfl, z, _⟩ := scriptH_at q
      rw [z] at e; cases e)
  have md : Mod K mg (hidT t.heap S) := ⟨inK, spaces hG, ⟨mb, spaces hB, hBB⟩, let ⟨mc, q1, q2⟩ := hL; ⟨mc, spaces q1, q2⟩⟩
  have none_in : ∀ b : Addr, b ∉ ([] : List Addr) := fun b z => nomatch z
  have env : Env0 P w K mg (hidT t.heap S) callerA [] t S := ⟨rfl, md, fun b o e => of_hidT e, Nat.le_of_eq (hidT_size _ _), trivial, fun b z => absurd z (none_in b), ok, .of_eq hg⟩
  have hS : SqL K S a (ns.map V.int) := by
    cases q : K.lookup a with
    | none => exact .inl (.inr ⟨ob, if_pos ⟨rfl, q⟩⟩)
    | some o =>
      have e := hK a o q
      rw [ha] at e
      cases e
      exact .inr ⟨_, vs.toArray, _, q, rfl, rfl, rfl, by rw [List.size_toArray, hlen]; exact hline, by simpa using rel⟩
  refine codeAny_mono ((F _ inK (spaces hG) (let ⟨m, q⟩ := hM; ⟨m, spaces q⟩)).run callerA [] t S ⟨[.ref a], []⟩ [.ref a] [.ref a] (fun v _ => v = .bl true) (fun _ _ _ => False) hr rfl env (hbind t (.ref a)) (.cons rfl .nil) ⟨a, ns, rfl, hS, h63, fun _ => rfl⟩) fun r s' z => ?_
  cases r with
  | error e => exact False.elim z
  | ok fl =>
    cases fl with
    | ret u =>
      obtain ⟨v, H', os, bare, un, ok', rv, q⟩ := z
      obtain rfl : v = .bl true := q
      obtain rfl : u = Value.bool true := rv
      refine ⟨rfl, OldK.of_keep fun b o e => ?_, os, bare⟩
      cases q : S b with
      | none => exact un.keep b o e q (none_in b) (by simp)
      | some u =>
        obtain ⟨rfl, _, rfl⟩ := scriptH_at q
        obtain ⟨e2, _⟩ := ok' b _ (un.frzs b ob _ q)
        rw [ha] at e
        cases e
        exact e2
    | _ => exact False.elim z
/-- the goal that the head leaves -/
theorem walkG2 {l : PySem.W.OpenLaw} {k : Nat} {q : Program} {loose : List Str} {XP : (Str → Option Value) → Heap → Prop} {YP : World → Heap → Prop} {d : DefRec} {K : Params → PySem.W.Frag} {x : Str} (hn : l.most = some 63) (hdf : d.params.defaults = []) (hr : Room k callerA) (himp : importsNone q = true)
    (hY : ∀ (w : World) (h : Heap), YP w h → (K w.params).In h)
    (F : ∀ (w : World) (mg : Str → Option Value) (fa : Addr) (h : Heap), (K w.params).In h → h.Ns mainGlobals mg → mg d.name = some (.ref fa) →
      ∃ fd : FuncData, (∀ (s : Shared) (u : Value), BindsTo s fd ⟨[u], []⟩ [(x, u)]) ∧ ∀ base : Heap, (K w.params).In base → base.Ns mainGlobals mg → (∃ m, base.Ns sysModules m) → FnG l.prog w (K w.params) mg base CX0 k fa fd [x] (spLaw (K w.params))) :
    PySem.W.WalkO q loose XP YP l.row.toRowW d [] (fun f vs => PySem.call f vs) := by
  refine Att.attach_call hn hdf fun w s₀ t mg mb fa o pm cd doc a vs ns G Y ho hd hcd hmg hobj hints hlen hg => ?_
  have inK := hY w _ Y
  obtain ⟨fd, hb, hF⟩ := F w mg fa _ inK G.T.g hmg
  have hM : ∃ m, _ := let ⟨m, q, _⟩ := (G.T.seer himp).mods; ⟨m, q⟩
  exact callG2 inK G.T.g G.T.b G.T.builtins G.T.nolimit hM hg hobj hints hlen hr hF hb
end DL

set_option Elab.async false
set_option linter.all false
set_option maxRecDepth 100000
set_option maxHeartbeats 4000000
namespace DL
open PySem PySem.Spec PyProof.Rows L2
abbrev tupE (e : D × D) : D := .tup [e.1, e.2]
/-! ### dicts that are walked: locked for good -/
theorem dic_mut {u : HO} (h : Dic u) : Mut (some u) := by
  cases u <;> first | exact True.intro | exact False.elim h
theorem BagOk.offl {H : Hp} {bg bi a : Addr} {u o : HO} (h : BagOk H bg bi) (e : H a = some u) (d : Dic u) : BagOk (upd H a o) bg bi := by
  obtain ⟨x, y, z, ns, h1, h2, r⟩ := h
  have n1 : bg ≠ a := fun z => by rw [z, e] at h1; cases h1; exact d
  have n2 : bi ≠ a := fun z => by rw [z, e] at h2; cases h2; exact d
  exact ⟨x, y, z, ns, by rw [upd_ne n1]; exact h1, by rw [upd_ne n2]; exact h2, r⟩
theorem Ext.locks {G : Gh} {H : Hp} {a : Addr} {u : HO} {od : Obj} (b : BagOk H G.bg G.bi) (n : ¬ G.own a) (e : H a = some u) (d : Dic u) : Ext G H (upd H a (.frz od u)) := by
  refine ⟨fun c o nb h => ?_, b.offl e d⟩
  by_cases z : c = a
  · subst z
    rw [e] at h
    cases h
    exact .inr ⟨n, d, od, upd_same⟩
  · exact .inl (by rw [upd_ne z]; exact h)
def lkV (t : TE) : TE := fun σ H Q => t σ H fun v H1 => (∃ d u, v = .ref d ∧ H1 d = some u ∧ Dic u ∧ ∀ od, Q v (upd H1 d (.frz od u))) ∨ Q v H1
theorem pe_lkV {X : Cx} {e : Expr} {t : TE} (h : PE X e t) : PE X e (lkV t) := ⟨fun pins s σ H Q I w => thn (h.run pins s σ H _ I w) fun v s1 ⟨x, H1, I1, r, q⟩ => by
  rcases q with ⟨d, u, rfl, hd, mu, q⟩ | q
  · obtain ⟨od, I2⟩ := I1.lock hd (dic_mut mu)
    exact ⟨_, _, I2, r, q od⟩
  · exact ⟨_, _, I1, r, q⟩⟩
/-- the dict that v stands for, locked -/
def DtK (K : PySem.W.Frag) (G : Gh) (H : Hp) (es : List (D × D)) (v : V) (a : Addr) (o : Obj) (kvs : List (Key × V)) : Prop := v = .ref a ∧ ¬ G.own a ∧ H a = some (.frz o (.dK kvs)) ∧ DtP K G H false es kvs
def liftL (F : Fr) (T : TD) : TE := fun σ H Q => ∃ (G : Gh) (ρ : List Sl) (k : List (D × D) → Prop), Rel F G H σ ρ ∧ (T ρ fun d => ∃ es, d = .dic false es ∧ k es) ∧ ∀ es v H' a o kvs, k es → Ext G H H' → DtK F.K G H' es v a o kvs → Q v H'
theorem d_lk {X : Cx} {F : Fr} {e : Expr} {te : TD} (he : PE X e (lift F te)) : PE X e (liftL F te) := by
  refine pe_imp (pe_lkV he) fun σ H Q ⟨G, ρ, k, r, h, q⟩ => ⟨G, ρ, _, r, h, fun d v H1 ⟨es, ed, hk⟩ e1 d1 => ?_⟩
  subst ed
  obtain ⟨a, kvs, rfl, n, rd, hp⟩ := dic_K d1
  have r1 := r.step e1
  rcases rd with hd | ⟨o, hd⟩
  · refine .inl ⟨a, _, rfl, hd, True.intro, fun od => ?_⟩
    have e2 : Ext G H1 (upd H1 a (.frz od (.dK kvs))) := Ext.locks r1.bag n hd True.intro
    exact q es _ _ a od kvs hk (e1.trans e2) ⟨rfl, n, upd_same, (r1.evo e2).dtp _ _ _ hp⟩
  · exact .inr (q es _ _ a o kvs hk e1 ⟨rfl, n, hd, hp⟩)
section
variable {K : PySem.W.Frag} {G : Gh} {H : Hp}
theorem dt_kD : ∀ (j : Key), Dt K G H (kD j) (kV j)
  | .inl _ => rfl
  | .inr _ => rfl
theorem DtP.len : ∀ {es : List (D × D)} {kvs : List (Key × V)} {t : Bool}, DtP K G H t es kvs → es.length = kvs.length
  | [], _, _, h => by rw [h.1]; rfl
  | (k, d) :: es, _, _, h => by
    obtain ⟨j, v, r, rfl, _, _, h2⟩ := h
    simp [DtP.len h2]
theorem DtP.get : ∀ {es : List (D × D)} {kvs : List (Key × V)} {t : Bool} {i : Nat} {j : Key} {v : V}, DtP K G H t es kvs → kvs[i]? = some (j, v) → ∃ d, es[i]? = some (kD j, d) ∧ Dt K G H d v
  | [], _, _, i, _, _, h, e => by rw [h.1] at e; simp at e
  | (k, d) :: es, _, _, 0, _, _, h, e => by
    obtain ⟨j, v, r, rfl, rfl, h1, h2⟩ := h
    simp at e
    obtain ⟨rfl, rfl⟩ := e
    exact ⟨d, rfl, h1⟩
  | (k, d) :: es, _, _, i + 1, _, _, h, e => by
    obtain ⟨j, v, r, rfl, rfl, h1, h2⟩ := h
    obtain ⟨d', e1, e2⟩ := DtP.get (i := i) h2 (by simpa using e)
    exact ⟨d', by simpa using e1, e2⟩
abbrev lkPin (d : Addr) (o : Obj) (kvs : List (Key × V)) (es : List (D × D)) : List (V × D) := [(.ref d, .lock o (.dK kvs)), (.ref d, .dic false es)]
theorem lkPin_ok {d : Addr} {o : Obj} {kvs : List (Key × V)} {es : List (D × D)} (hp : ∀ q ∈ lkPin d o kvs es, Dt K G H q.2 q.1) : H d = some (.frz o (.dK kvs)) ∧ DtP K G H false es kvs := by
  obtain ⟨a, e, n, h⟩ := hp (.ref d, .lock o (.dK kvs)) (by simp)
  cases e
  obtain ⟨a, kvs', e, n', rd, h2⟩ := dic_K (hp (.ref d, .dic false es) (by simp))
  cases e
  refine ⟨h, ?_⟩
  rcases rd with z | ⟨o', z⟩ <;> rw [h] at z <;> cases z
  exact h2
theorem lkPin_of {d : Addr} {o : Obj} {kvs : List (Key × V)} {es : List (D × D)} {v : V} (h : DtK K G H es v d o kvs) : ∀ q ∈ lkPin d o kvs es, Dt K G H q.2 q.1 := by
  obtain ⟨rfl, n, h1, h2⟩ := h
  intro q hq
  rcases List.mem_cons.mp hq with rfl | hq
  · exact ⟨d, rfl, n, h1⟩
  · obtain rfl := List.mem_singleton.mp hq
    exact ⟨d, rfl, n, .inl ⟨kvs, .inr ⟨o, h1⟩, h2⟩⟩
end
section
variable {K : PySem.W.Frag}
theorem walk_keys {d : Addr} {o : Obj} {kvs : List (Key × V)} {es : List (D × D)} : Walk K (lkPin d o kvs es) (Itk d o kvs) (es.map Prod.fst) := by
  intro i G H ok hp
  obtain ⟨h1, h2⟩ := lkPin_ok hp
  rw [List.length_map, h2.len]
  refine ⟨fun hi => ⟨⟨h1, hi⟩, fun x H' y => ?_⟩, fun hi => ⟨h1, hi⟩⟩
  obtain ⟨rfl, k, v, e, rfl⟩ := y
  obtain ⟨d', e1, e2⟩ := h2.get e
  exact ⟨fun _ _ h => h, kD k, by rw [List.getElem?_map, e1]; rfl, dt_kD k⟩
theorem walk_vals {d : Addr} {o : Obj} {kvs : List (Key × V)} {es : List (D × D)} : Walk K (lkPin d o kvs es) (Itd d o kvs) (es.map Prod.snd) := by
  intro i G H ok hp
  obtain ⟨h1, h2⟩ := lkPin_ok hp
  rw [List.length_map, h2.len]
  refine ⟨fun hi => ⟨⟨h1, hi⟩, fun x H' y => ?_⟩, fun hi => ⟨h1, hi⟩⟩
  obtain ⟨rfl, k, e⟩ := y
  obtain ⟨d', e1, e2⟩ := h2.get e
  exact ⟨fun _ _ h => h, d', by rw [List.getElem?_map, e1]; rfl, e2⟩
theorem walk_items {d : Addr} {o : Obj} {kvs : List (Key × V)} {es : List (D × D)} : Walk K (lkPin d o kvs es) (Iti d o kvs) (es.map tupE) := by
  intro i G H ok hp
  obtain ⟨h1, h2⟩ := lkPin_ok hp
  rw [List.length_map, h2.len]
  refine ⟨fun hi => ⟨⟨h1, hi⟩, fun x H' y => ?_⟩, fun hi => ⟨h1, hi⟩⟩
  obtain ⟨T, k, v, e, rfl, hT, rfl⟩ := y
  obtain ⟨d', e1, e2⟩ := h2.get e
  exact ⟨fun a o h => by rw [upd_ne (ne_of_none h hT)]; exact h, _, by rw [List.getElem?_map, e1]; rfl, dt_pair ok hT (dt_kD k) e2⟩
end
def keysI (t : TD) : TLD := fun ρ k => t ρ fun d => ∃ es, d = .dic false es ∧ k (es.map Prod.fst)
def valsI (t : TD) : TLD := fun ρ k => t ρ fun d => ∃ es, d = .dic false es ∧ k (es.map Prod.snd)
def itemsI (t : TD) : TLD := fun ρ k => t ρ fun d => ∃ es, d = .dic false es ∧ k (es.map tupE)
section
variable {X : Cx} {F : Fr} {tg e : Expr} {te : TD} {apos cpos : Pos}
theorem i_keys (he : PE X e (lift F te)) : PI X tg e (liftI F (keysI te)) :=
  pi_imp (pi_keys (d_lk he)) fun σ H R ⟨G, ρ, k, r, h, q⟩ => ⟨G, ρ, fun es => k (es.map Prod.fst), r, h, fun es v H1 a o kvs hk e1 w => ⟨a, o, w.1, .inl ⟨kvs, w.2.2.1, q _ _ H1 _ hk e1 walk_keys (lkPin_of w)⟩⟩⟩
theorem i_vals (he : PE X e (lift F te)) (hbase : attributeBase e "values" X.env (eval e X.env) = eval e X.env := by rfl) (hline : (apos.endLine == cpos.line) = true := by rfl) : PI X tg (.Call (.Attribute e "values" apos) [] [] cpos) (liftI F (valsI te)) :=
  pi_imp (pi_values (d_lk he) hbase hline) fun σ H R ⟨G, ρ, k, r, h, q⟩ => ⟨G, ρ, fun es => k (es.map Prod.snd), r, h, fun es v H1 a o kvs hk e1 w => ⟨a, o, kvs, w.1, w.2.2.1, q _ _ H1 _ hk e1 walk_vals (lkPin_of w)⟩⟩
theorem i_items {elts : List Expr} {kk : Nat} {tpos : Pos} (he : PE X e (lift F te)) (hbase : attributeBase e "items" X.env (eval e X.env) = eval e X.env := by rfl) (hline : (apos.endLine == cpos.line) = true := by rfl) :
    PI X (.Tuple elts kk tpos) (.Call (.Attribute e "items" apos) [] [] cpos) (liftI F (itemsI te)) :=
  pi_imp (pi_items (d_lk he) hbase hline) fun σ H R ⟨G, ρ, k, r, h, q⟩ => ⟨G, ρ, fun es => k (es.map tupE), r, h, fun es v H1 a o kvs hk e1 w => ⟨a, o, kvs, w.1, w.2.2.1, q _ _ H1 _ hk e1 walk_items (lkPin_of w)⟩⟩
end

end DL

set_option Elab.async false
set_option linter.all false
set_option maxRecDepth 100000
set_option maxHeartbeats 4000000
namespace DL
open PySem PySem.Spec PyProof.Rows L2
/-! ### list(d), list(d.items()), dict(pairs) -/
section
variable {X : Cx} {e : Expr} {te : TE} {p apos cpos pos : Pos}
def rItemsR : V → Hp → VK → Prop := fun x H Q => ∃ (d : Addr) (kvs : List (Key × V)), x = .ref d ∧ Rd H d (.dK kvs) ∧
  ∀ (H' : Hp) (p : Addr) (ts : List Addr), (∀ b o, H b = some o → H' b = some o) → H p = none → (∀ t ∈ ts, H t = none) → p ∉ ts → H' p = some (.lst (ts.map V.ref)) → Paired (fun (t : Addr) (q : Key × V) => H' t = some (.tup [kV q.1, q.2])) ts kvs → Q (.ref p) H'
/-- list(e.items()), the dict locked or not -/
theorem pe_listItemsR (hc : X.calm = true) (he : PE X e te) (hg : Gl X "list") (hm : X.mg "list" = none) (hv : bootBuiltins "list" = some (.type "list")) (hbase : attributeBase e "items" X.env (eval e X.env) = eval e X.env) (hline : (apos.endLine == cpos.line) = true)
    (hs : starEach [.Call (.Attribute e "items" apos) [] [] cpos] X.env = (false, eval (.Call (.Attribute e "items" apos) [] [] cpos) X.env) :: starEach [] X.env) :
    PE X (.Call (.Name "list" p) [.Call (.Attribute e "items" apos) [] [] cpos] [] pos) (fun σ H Q => te σ H fun x H1 => rItemsR x H1 Q) := by
  refine ⟨fun pins s σ H Q I hq => ?_⟩
  refine wpAny_Call_Name_kw (ld_blt I hg hm hv ?_)
  refine PyProof.Rows.callWith_type1 ?_ hs rfl
  rw [hs]
  show wpAny _ _ (spliced ((false, eval (.Call (.Attribute e "items" apos) [] [] cpos) X.env) :: backTo pos (starEach [] X.env))) _ _ s
  refine Calls.spliced_cons ?_
  refine wpAny_Call_method (T := "dict") (id := "dict.items") hbase rfl hline F.plainAttrs_dict F.slot_dict_items F.type_dict_items (thn (he.run pins s σ H _ I hq) fun u s1 ⟨x, H1, I1, rx, d, kvs, ex, hd, q⟩ => ?_)
  subst ex
  obtain rfl : u = Value.ref d := rx
  obtain ⟨hz, hs0, vs, kv, hdo⟩ := dk_rd I1.hok hd
  obtain ⟨ep, hat⟩ := hdo.dictAt
  have lk : kvs.length = vs.length := Paired.length kv
  have I2 : Inv X pins σ H1 { s1 with heap := s1.heap.push { cls := .type "dict_items", data := .fields #[.ref d] } } := I1.kept (t' := s1.toks) fun b ob q => Heap.get?_push_of_some _ q
  refine ⟨hdo.typeIs, hdo.mapOf.noDict, ?_⟩
  show wpAny _ _ (callWith cpos (.builtin "dict.items") [.ref d] [] []) _ X.xe s1
  refine method_meetsIn F.slot_dict_items F.entry_dict_items rfl (PySem.evalArgs_none ⟨rfl, hdo.typeIs, F.args_dict_items_1 _, _, meets_dict_items (mixKind X.prog X.w) d hs0, ⟨vs, hdo⟩, ?_⟩)
  refine Calls.spliced_nil ?_
  refine PySem.W.kdx_call (knd := mixKind X.prog X.w) (kvs := vs) (ep := ep) (I1.ok.hd hc) ⟨_, Heap.get?_push_size _ rfl, rfl, rfl⟩ (hat.push _) (by omega) fun h' tk acc c as hk hS hl hG hacc => ?_
  obtain ⟨H', k1, k2, k3, k4, k5, k6, J⟩ := LiI.items_laid (tk := tk) I2 hz kv hk hS hl hG hacc
  exact ⟨.ref _, H', J, rfl, q H' _ as k1 k2 k3 k4 k5 k6⟩
end
theorem dts_pairs {K : PySem.W.Frag} {G : Gh} {H : Hp} : ∀ {es : List (D × D)} {kvs : List (Key × V)} {ts : List Addr}, DtP K G H false es kvs → Paired (fun (t : Addr) (q : Key × V) => H t = some (.tup [kV q.1, q.2])) ts kvs → DtL K G H (es.map tupE) (ts.map V.ref)
  | [], _, _, h, p => by
    obtain rfl := h.1
    cases p
    exact rfl
  | (k, d) :: es, _, _, h, p => by
    obtain ⟨j, v, r, rfl, rfl, h1, h2⟩ := h
    cases p with
    | cons q qs => exact ⟨_, _, rfl, ⟨_, _, rfl, .inl (.inl q), kV j, _, rfl, dt_kD j, v, [], rfl, h1, rfl⟩, dts_pairs h2 qs⟩
def itemsF (t : TD) : TLD := fun ρ k => t ρ fun d => ∃ es, d = .dic false es ∧ k (es.map tupE)
def listKR : RD
  | [.dic false es], k => k (.lst (es.map Prod.fst))
  | _, _ => False
def mergeD (es more : List (D × D)) : List (D × D) := more.foldl (fun acc e => putD acc e.1 e.2) es
where putD (es : List (D × D)) (k d : D) : List (D × D) := if (es.any fun e => decide (keyD e.1 = keyD k)) = true then es.map (fun e => if keyD e.1 = keyD k then (e.1, d) else e) else es ++ [(k, d)]
abbrev putD := mergeD.putD
def dictR : RD := fun ds k => ∃ es : List (D × D), ds = [.lst (es.map tupE)] ∧ (∀ e ∈ es, (keyD e.1).isSome) ∧ k (.dic false (mergeD [] es))
theorem keyD_inv {y : D} {j : Key} (h : keyD y = some j) : y = kD j := by
  cases y <;> simp only [keyD, Option.some.injEq, reduceCtorEq] at h
  · subst h; rfl
  · subst h; rfl
section
variable {K : PySem.W.Frag} {G : Gh} {H : Hp}
theorem DtP.any {j : Key} : ∀ {es : List (D × D)} {kvs : List (Key × V)} {t : Bool}, DtP K G H t es kvs → (es.any fun e => decide (keyD e.1 = keyD (kD j))) = (kvs.any fun kv => decide (kv.1 = j))
  | [], _, _, h => by rw [h.1]; rfl
  | (k, d) :: es, _, _, h => by
    obtain ⟨i, v, r, rfl, rfl, h1, h2⟩ := h
    rw [List.any_cons, List.any_cons, DtP.any h2, keyD_kD, keyD_kD]
    simp only [Option.some.injEq]
theorem DtP.app : ∀ {es : List (D × D)} {kvs : List (Key × V)} {fs : List (D × D)} {ls : List (Key × V)}, DtP K G H false es kvs → DtP K G H false fs ls → DtP K G H false (es ++ fs) (kvs ++ ls)
  | [], _, _, _, h, h' => by rw [h.1]; exact h'
  | (k, d) :: es, _, _, _, h, h' => by
    obtain ⟨i, v, r, rfl, rfl, h1, h2⟩ := h
    exact ⟨i, v, _, rfl, rfl, h1, DtP.app h2 h'⟩
theorem DtP.repl {j : Key} {d : D} {v : V} (hd : Dt K G H d v) : ∀ {es : List (D × D)} {kvs : List (Key × V)}, DtP K G H false es kvs → DtP K G H false (es.map fun e => if keyD e.1 = keyD (kD j) then (e.1, d) else e) (kvs.map fun kv => if kv.1 = j then (kv.1, v) else kv)
  | [], _, h => by rw [h.1]; exact ⟨rfl, rfl⟩
  | (k, d') :: es, _, h => by
    obtain ⟨i, w, r, rfl, rfl, h1, h2⟩ := h
    rw [List.map_cons, List.map_cons]
    by_cases e : i = j
    · subst e
      rw [if_pos rfl, if_pos rfl]
      exact ⟨i, v, _, rfl, rfl, hd, DtP.repl hd h2⟩
    · have e' : ¬ keyD (kD i) = keyD (kD j) := by rw [keyD_kD, keyD_kD]; exact fun z => e (Option.some.inj z)
      rw [if_neg e', if_neg e]
      exact ⟨i, w, _, rfl, rfl, h1, DtP.repl hd h2⟩
theorem DtP.put {j : Key} {d : D} {v : V} {es : List (D × D)} {kvs : List (Key × V)} (h : DtP K G H false es kvs) (hd : Dt K G H d v) : DtP K G H false (putD es (kD j) d) (putK kvs j v) := by
  unfold putD mergeD.putD putK
  rw [h.any (j := j)]
  split
  · exact h.repl hd
  · exact h.app ⟨j, v, [], rfl, rfl, hd, rfl, rfl⟩
theorem DtP.merge : ∀ {fs : List (D × D)} {ls : List (Key × V)} {es : List (D × D)} {kvs : List (Key × V)}, DtP K G H false es kvs → DtP K G H false fs ls → DtP K G H false (mergeD es fs) (mergeK kvs ls)
  | [], _, _, _, h, h' => by rw [h'.1]; exact h
  | (k, d) :: fs, _, es, kvs, h, h' => by
    obtain ⟨i, v, r, rfl, rfl, h1, h2⟩ := h'
    show DtP K G H false (mergeD (putD es (kD i) d) fs) (mergeK (putK kvs i v) r)
    exact DtP.merge (h.put h1) h2
theorem dtp_pairs : ∀ {es : List (D × D)} {xs : List V}, (∀ e ∈ es, (keyD e.1).isSome) → DtL K G H (es.map tupE) xs → ∃ (ps : List Addr) (kvs : List (Key × V)), xs = ps.map V.ref ∧ Paired (fun p kv => SqT K H p [kV kv.1, kv.2]) ps kvs ∧ DtP K G H false es kvs
  | [], _, _, h => by
    obtain rfl : _ = [] := h
    exact ⟨[], [], rfl, .nil, rfl, rfl⟩
  | (k, d) :: es, _, hk, h => by
    obtain ⟨x, r, rfl, ⟨a, ys, rfl, hs, h1⟩, h2⟩ := h
    obtain ⟨ps, kvs, rfl, hp, hd⟩ := dtp_pairs (fun e he => hk e (List.mem_cons_of_mem _ he)) h2
    obtain ⟨j, hj⟩ := Option.isSome_iff_exists.mp (hk (k, d) List.mem_cons_self)
    obtain ⟨y, y', rfl, d1, d2⟩ := dl2 h1
    obtain rfl := keyD_kV hj d1
    exact ⟨a :: ps, (j, y') :: kvs, rfl, .cons hs hp, j, y', kvs, rfl, keyD_inv hj, d2, hd⟩
end
section
variable {X : Cx} {F : Fr} {e : Expr} {te : TD} {ta : TLD} {p apos cpos pos : Pos}
theorem f_items (hc : X.calm = true) (hg : Gl X "list") (hm : X.mg "list" = none) (he : PE X e (lift F te)) (hbase : attributeBase e "items" X.env (eval e X.env) = eval e X.env := by rfl) (hline : (apos.endLine == cpos.line) = true := by rfl)
    (hs : starEach [.Call (.Attribute e "items" apos) [] [] cpos] X.env = (false, eval (.Call (.Attribute e "items" apos) [] [] cpos) X.env) :: starEach [] X.env := by rfl) :
    PE X (.Call (.Name "list" p) [.Call (.Attribute e "items" apos) [] [] cpos] [] pos) (liftF F (itemsF te)) := by
  refine pe_imp (pe_listItemsR hc he hg hm (by decide +kernel) hbase hline hs) fun σ H Q ⟨G, ρ, k, r, h, q⟩ => ⟨G, ρ, _, r, h, fun d v H1 ⟨es, ed, hk⟩ e1 d1 => ?_⟩
  subst ed
  obtain ⟨a, kvs, rfl, n, rd, hp⟩ := dic_K d1
  have r1 := r.step e1
  refine ⟨a, kvs, rfl, rd, fun H' p ts k1 k2 k3 k4 k5 k6 => ?_⟩
  have e2 : Ext G H1 H' := Ext.all r1.bag k1
  exact q _ p _ H' hk (e1.trans e2) (e1.free r.bag k2) k5 (dts_pairs ((r1.evoAdd e2 k2).dtp _ _ _ hp) k6)
theorem DtP.keys {K : PySem.W.Frag} {G G' : Gh} {H H' : Hp} : ∀ {es : List (D × D)} {kvs : List (Key × V)}, DtP K G H false es kvs → DtL K G' H' (es.map Prod.fst) (kvs.map fun kv => kV kv.1)
  | [], _, h => by rw [h.1]; exact rfl
  | (k, d) :: es, _, h => by
    obtain ⟨j, v, r, rfl, rfl, h1, h2⟩ := h
    exact ⟨kV j, _, rfl, dt_kD j, DtP.keys h2⟩
theorem ok_listK : OkCall F (fun xs H Q => ∃ (a : Addr) (kvs : List (Key × V)), xs = [.ref a] ∧ Rd H a (.dK kvs) ∧ ∀ p, H p = none → Q (.ref p) (upd H p (.lst (kvs.map fun kv => kV kv.1)))) listKR := by
  intro G H ds vs k Q ok h hd q
  unfold listKR at h
  split at h
  · obtain ⟨v, rfl, hv⟩ := dl1 hd
    obtain ⟨a, kvs, rfl, n, rd, hp⟩ := dic_K hv
    exact ⟨a, kvs, rfl, rd, fun p hp' => q _ _ _ h (Ext.new ok.bag hp') ⟨p, _, rfl, fun z => by have m := ok.tr p z; rw [hp'] at m; exact m, upd_same, hp.keys⟩⟩
  · exact h.elim
theorem d_listK (hc : X.calm = true) (hg : Gl X "list") (hm : X.mg "list" = none) (ha : PA X [e] (liftA F ta)) (he : starEach [e] X.env = (false, eval e X.env) :: starEach [] X.env := by rfl) :
    PE X (.Call (.Name "list" p) [e] [] pos) (lift F (callT listKR ta)) := d_callTy (call_listD hc) ok_listK hg hm (by decide +kernel) ha (by decide) (by decide) he
theorem ok_dict (hK : X.K = F.K) : OkCall F (fun xs H Q => ∃ (a : Addr) (ps : List Addr) (kvs : List (Key × V)), xs = [.ref a] ∧ SqL X.K H a (ps.map V.ref) ∧ Paired (fun p kv => SqT X.K H p [kV kv.1, kv.2]) ps kvs ∧
    ∀ p, H p = none → Q (.ref p) (upd H p (.dK (mergeK [] kvs)))) dictR := by
  intro G H ds vs k Q ok ⟨es, e, hk, h⟩ hd q
  subst e
  obtain ⟨v, rfl, hv⟩ := dl1 hd
  obtain ⟨a, xs, rfl, n, ha, hl⟩ := hv
  obtain ⟨ps, kvs, rfl, hp, hdp⟩ := dtp_pairs hk hl
  refine ⟨a, ps, kvs, rfl, SqL.of ha, hK ▸ hp, fun p hp' => ?_⟩
  have e2 : Ext G H (upd H p (.dK (mergeK [] kvs))) := Ext.new ok.bag hp'
  have ev : Evo G G H (upd H p (.dK (mergeK [] kvs))) := ⟨fun a o n h => e2.lk (fun z => n (by rw [z]; exact ok.ob)) h, ok.tr, fun _ n _ => n, rfl, rfl⟩
  exact q _ _ _ h e2 ⟨p, rfl, fun z => by have m := ok.tr p z; rw [hp'] at m; exact m, .inl ⟨_, .inl upd_same, ev.dtp _ _ _ (DtP.merge ⟨rfl, rfl⟩ hdp)⟩⟩
theorem d_dict (hc : X.calm = true) (hg : Gl X "dict") (hm : X.mg "dict" = none) (ha : PA X [e] (liftA F ta)) (he : starEach [e] X.env = (false, eval e X.env) :: starEach [] X.env := by rfl) (hK : X.K = F.K := by rfl) :
    PE X (.Call (.Name "dict" p) [e] [] pos) (lift F (callT dictR ta)) := d_callTy (call_dictP hc) (ok_dict hK) hg hm (by decide +kernel) ha (by decide) (by decide) he
end

/-! ### d[k], d.get(k, x) -/
def dixT (t tk : TD) : TD := fun ρ k => t ρ fun x => ∃ es, x = .dic false es ∧ tk ρ fun y => optK (keyD y) fun j => optK (valD es j) k
section
variable {X : Cx} {F : Fr} {o e f : Expr} {to te tf : TD} {apos pos : Pos}
theorem d_dix {n : Nat} (hr : Room n X.A) (ho : PE X o (lift F to)) (he : PE X e (lift F te)) (hs : NoSl e := by intro _ _; rfl) : PE X (.Subscript o e pos) (lift F (dixT to te)) := by
  refine pe_imp (pe_dget (by have := u150 hr; omega) ho he hs) fun σ H Q ⟨G, ρ, k, r, h, q⟩ => ⟨G, ρ, _, r, h, fun x v H1 ⟨es, hx, h1⟩ e1 d1 => ?_⟩
  subst hx
  refine ⟨G, ρ, _, r.step e1, h1, fun y u H2 ⟨j, hj, c, hc, h2⟩ e2 d2 => ?_⟩
  obtain ⟨a, kvs, rfl, n, ha, hp⟩ := dic_K (((r.step e1).evo e2).dt _ _ d1)
  obtain rfl := keyD_kV hj d2
  rcases hp.val (j := j) with ⟨g1, g2⟩ | ⟨d, w, g1, g2, g3⟩
  · rw [hc] at g1; cases g1
  · rw [hc] at g1
    cases g1
    exact ⟨a, w, rfl, .inl ⟨kvs, j, ha, rfl, g2.symm⟩, q _ _ H2 h2 (e1.trans e2) g3⟩
end
def keysD : List D → Option (List Key)
  | [] => some []
  | d :: ds => match keyD d, keysD ds with
    | some j, some js => some (j :: js)
    | _, _ => none
def keyT : D → Option (List Key)
  | .tup ds => keysD ds
  | _ => none
def valQ : List (D × D) → List Key → Option D
  | [], _ => none
  | (k, d) :: es, j => if keyT k = some j then some d else valQ es j
theorem keysD_kD : ∀ js : List Key, keysD (js.map kD) = some js
  | [] => rfl
  | j :: js => by simp only [List.map_cons, keysD, keyD_kD, keysD_kD js]
theorem keysD_inv : ∀ {ds : List D} {js : List Key}, keysD ds = some js → ds = js.map kD
  | [], _, h => by cases h; rfl
  | d :: ds, js, h => by
    unfold keysD at h
    split at h
    · rename_i h1 h2
      cases h
      rw [List.map_cons, ← keyD_inv h1, ← keysD_inv h2]
    · cases h
section
variable {K : PySem.W.Frag} {G : Gh} {H : Hp}
theorem dtl_kV : ∀ {js : List Key} {vs : List V}, DtL K G H (js.map kD) vs → vs = js.map kV
  | [], _, h => h
  | j :: js, _, h => by
    obtain ⟨x, r, rfl, h1, h2⟩ := h
    rw [keyD_kV (keyD_kD j) h1, dtl_kV h2]; rfl
theorem keyT_kV {y : D} {v : V} {js : List Key} (h : keyT y = some js) (hy : Dt K G H y v) : ∃ b, v = .ref b ∧ SqT K H b (js.map kV) := by
  cases y <;> try (cases h; done)
  rename_i ds
  obtain rfl := keysD_inv h
  obtain ⟨b, xs, rfl, hs, hl⟩ := hy
  exact ⟨b, rfl, dtl_kV hl ▸ hs⟩
theorem DtQ.val {j : List Key} {t : Bool} : ∀ {es : List (D × D)} {kvs : List (List Key × V)}, DtQ K G H t es kvs → (valQ es j = none ∧ valV kvs j = none) ∨ ∃ d v, valQ es j = some d ∧ valV kvs j = some v ∧ Dt K G H d v
  | [], _, h => by
    obtain ⟨rfl, _⟩ := h
    exact .inl ⟨rfl, rfl⟩
  | (k, d) :: es, _, h => by
    obtain ⟨i, v, r, rfl, rfl, h1, h2⟩ := h
    by_cases e : i = j
    · subst e
      exact .inr ⟨d, v, by simp [valQ, keyT, keysD_kD], valV_pos rfl, h1⟩
    · have n : ¬ keyT (.tup (i.map kD)) = some j := by simp only [keyT, keysD_kD]; exact fun z => e (Option.some.inj z)
      rw [valV_neg (p := (i, v)) e]
      simp only [valQ, if_neg n]
      exact DtQ.val h2
theorem dic_T {es : List (D × D)} {v : V} (h : Dt K G H (.dic true es) v) : ∃ a kvs, v = .ref a ∧ ¬ G.own a ∧ Rd H a (.dT kvs) ∧ DtQ K G H true es kvs := by
  obtain ⟨a, rfl, n, h⟩ := h
  rcases h with ⟨kvs, h1, h2⟩ | ⟨kvs, h1, h2⟩
  · cases h2.kind
  · exact ⟨a, kvs, rfl, n, h1, h2⟩
end
end DL

set_option Elab.async false
set_option linter.all false
set_option maxRecDepth 100000
set_option maxHeartbeats 4000000
namespace DL
open PySem PySem.Spec PyProof.Rows L2
section
variable {F : Fr} {G : Gh} {H : Hp} {σ : L2.St} {ρ : List Sl} {L : List Addr}
theorem RelL.pinned {l : List (V × D)} (r : RelL F G H σ ρ L) (h : ∀ q ∈ l, Dt F.K G H q.2 q.1) : RelL (F.pin l) G H σ ρ L :=
  ⟨r.1.pinned h, r.2.1.map fun s o M _ h => by cases s <;> exact h, r.2.2⟩
theorem RelL.unpin {l : List (V × D)} (r : RelL (F.pin l) G H σ ρ L) : RelL F G H σ ρ L :=
  ⟨r.1.unpin, r.2.1.map fun s o M _ h => by cases s <;> exact h, r.2.2⟩
end
/-! ### [elt for x in iter for y in iter1] -/
def compB (t : Tg) (tt : TBD) (te : TD) (ρ : List Sl) : List D → List D → (List D → Prop) → Prop
  | [], acc, k => k acc
  | d :: ds, acc, k => tgD t d ρ fun ρ1 => tt ρ1 fun b => if b = true then te ρ1 fun e => acc.length < sizeLine ∧ compB t tt te ρ ds (acc ++ [e]) k else compB t tt te ρ ds acc k
def comp2T (i : Nat) (tt : TBD) (t1 : Tg) (I1 : TLD) (tt1 : TBD) (te : TD) (vs1 : List Nat) (ρ : List Sl) : List D → List D → (List D → Prop) → Prop
  | [], acc, k => k acc
  | d :: ds, acc, k => tt (ρ.set i (.dat d)) fun b => if b = true then I1 (ρ.set i (.dat d)) fun ds1 => compB t1 tt1 te (wipeS (ρ.set i (.dat d)) vs1) ds1 acc fun acc' => comp2T i tt t1 I1 tt1 te vs1 ρ ds acc' k
    else comp2T i tt t1 I1 tt1 te vs1 ρ ds acc k
def lc2F (i : Nat) (I : TLD) (tt : TBD) (t1 : Tg) (I1 : TLD) (tt1 : TBD) (te : TD) (vs vs1 : List Nat) : TLD := fun ρ k => I ρ fun ds => comp2T i tt t1 I1 tt1 te vs1 (wipeS ρ vs) ds [] k
section
variable {X : Cx} {F : Fr} {i : Nat} {I I1 : TLD} {tt tt1 : TBD} {t1 : Tg} {te : TD}
theorem lc2T {K : PySem.W.Frag} (vs vs1 : List Nat) (ht : i ∈ vs) (ht1 : ∀ j ∈ t1.ix, j ∈ vs1) (hK : K = F.K) (tb : TT) (wi1 : TI) (tb1 : TT) (tv : TE) (h1 : ∀ pn σ H Q, liftT (F.pin pn) tt σ H Q → tb σ H Q) (hI : ∀ pn σ H R, liftI (F.pin pn) I1 σ H R → wi1 σ H R)
    (h3 : ∀ pn σ H Q, liftT (F.pin pn) tt1 σ H Q → tb1 σ H Q) (h4 : ∀ pn σ H Q, lift (F.pin pn) te σ H Q → tv σ H Q) :
    ∀ σ H Q, liftF F (lc2F i I tt t1 I1 tt1 te vs vs1) σ H Q → tLc2 (liftI F I) (gName i) tb wi1 (gOf K t1) tb1 tv vs vs1 σ H Q := by
  intro σ H Q ⟨G, ρ, k, r, h, q⟩
  refine ⟨G, ρ, _, r, h, fun ds J H1 pn hk e1 wk hpn L hL => ?_⟩
  have r1 := r.step e1
  have e2 : Ext G H1 (upd H1 L (.lst [])) := Ext.new r1.bag hL
  obtain ⟨L0, s0⟩ := ((r1.pinned hpn).wipe vs).adrs
  have hno : L ∉ L0 := s0.new hL
  have r2 : RelL (F.pin pn) (G.add L) (upd H1 L (.lst [])) (L2.wipe σ vs) (wipeS ρ vs) L0 := s0.grow e2 hL (by rw [upd_same]; exact True.intro)
  have hnL : ¬ F.G.own L := fun z => r1.free hL (r1.sub L z)
  have nbL : L ≠ G.bg := r1.own_ne_bg hnL
  refine ⟨fun i' m H' => m = ds.length - i' ∧ i' ≤ ds.length ∧ ∃ acc xs, H' L = some (.lst xs) ∧ DtL F.K (G.add L) H' acc xs ∧ RelL (F.pin pn) (G.add L) H' (L2.wipe σ vs) (wipeS ρ vs) L0 ∧ Ext G H1 H' ∧
      comp2T i tt t1 I1 tt1 te vs1 (wipeS ρ vs) (ds.drop i') acc k, ⟨_, rfl, Nat.zero_le _, [], [], upd_same, rfl, r2, e2, hk⟩, ?_⟩
  rintro i' m H' ⟨rfl, hi, acc, xs, hx, hd, r', e', h'⟩
  have w := wk i' (G.add L) H' r'.1.ok fun q hq => r'.1.pn q (List.mem_append_left _ hq)
  by_cases hlt : i' < ds.length
  · obtain ⟨go, yl⟩ := w.1 hlt
    refine .inr ⟨go, fun H2 => i' + 1 ≤ ds.length ∧ ∃ acc xs, H2 L = some (.lst xs) ∧ DtL F.K (G.add L) H2 acc xs ∧ RelL (F.pin pn) (G.add L) H2 (L2.wipe σ vs) (wipeS ρ vs) L0 ∧ Ext G H1 H2 ∧
      comp2T i tt t1 I1 tt1 te vs1 (wipeS ρ vs) (ds.drop (i' + 1)) acc k, fun H2 ⟨hl, q⟩ => ⟨_, by omega, rfl, hl, q⟩, fun x H2 y => ?_⟩
    obtain ⟨kp, d, hdi, hxd⟩ := yl x H2 y
    rw [List.drop_eq_getElem_cons hlt] at h'
    have ed : ds[i'] = d := by rw [List.getElem?_eq_getElem hlt] at hdi; exact Option.some.inj hdi
    rw [ed] at h'
    have x2 : Ext (G.add L) H' H2 := Ext.all r'.1.bag kp
    have r3 := r'.step x2
    refine ⟨by
      have z := wipe_tgS (.nm i) x [] (L2.wipe σ vs) (vs := vs) (fun j hj => by
        have : j = i := by simpa [Tg.ix] using hj
        exact this ▸ ht)
      rw [wipe_wipe] at z; exact z, ?_⟩
    have up : ∀ {H5 : Hp}, Ext (G.add L) H2 H5 → H5 L = some (.lst xs) ∧ DtL F.K (G.add L) H5 acc xs ∧ RelL (F.pin pn) (G.add L) H5 (L2.wipe σ vs) (wipeS ρ vs) L0 ∧ Ext G H1 H5 := fun {H5} z => by
      have z2 := x2.trans z
      exact ⟨z2.mine nbL hx (.inr rfl), (r'.1.evo z2).dts _ _ hd, r'.step z2, e'.trans (Ext.cg (G := G.add L) (G' := G) rfl rfl (fun _ h => .inl h) z2)⟩
    refine h1 pn _ _ _ ⟨G.add L, _, _, r3.1.put hxd, h', fun b H3 hb x3 => ?_⟩
    cases b with
    | false =>
      obtain ⟨u1, u2, u3, u4⟩ := up x3
      exact iteF ⟨hlt, acc, xs, u1, u2, u3, u4, of_ff hb⟩
    | true =>
      refine iteT (hI pn _ _ _ ⟨G.add L, _, _, (r3.1.put hxd).step x3, of_tt hb, fun ds1 J1 H4 pn1 hk1 x4 wk1 hpn1 => ?_⟩)
      obtain ⟨u1, u2, u3, u4⟩ := up (x3.trans x4)
      have ev4 := r3.1.evo (x3.trans x4)
      have s4 : RelL (F.pin (pn1 ++ ((x, d) :: pn))) (G.add L) H4 (L2.wipe σ vs) (wipeS ρ vs) L0 := u3.unpin.pinned fun q hq => by
        rcases List.mem_append.mp hq with z | z
        · exact hpn1 q z
        · rcases List.mem_cons.mp z with rfl | z
          · exact ev4.dt _ _ hxd
          · exact u3.1.pn q (List.mem_append_left _ z)
      refine ⟨fun j k' H5 => k' = ds1.length - j ∧ j ≤ ds1.length ∧ ∃ acc xs, H5 L = some (.lst xs) ∧ DtL F.K (G.add L) H5 acc xs ∧ RelL (F.pin (pn1 ++ ((x, d) :: pn))) (G.add L) H5 (L2.wipe σ vs) (wipeS ρ vs) L0 ∧ Ext G H1 H5 ∧
        compB t1 tt1 te (wipeS ((wipeS ρ vs).set i (.dat d)) vs1) (ds1.drop j) acc fun acc' => comp2T i tt t1 I1 tt1 te vs1 (wipeS ρ vs) (ds.drop (i' + 1)) acc' k, ⟨_, rfl, Nat.zero_le _, acc, xs, u1, u2, s4, u4, hk1⟩, ?_⟩
      rintro j k' H5 ⟨rfl, hj, acc5, xs5, hx5, hd5, r5, e5, h5⟩
      have w1 := wk1 j (G.add L) H5 r5.1.ok fun q hq => r5.1.pn q (List.mem_append_left _ (List.mem_append_left _ hq))
      have rin : Rel (F.pin (pn1 ++ ((x, d) :: pn))) (G.add L) H5 ((L2.wipe σ vs).set i (some x)) ((wipeS ρ vs).set i (.dat d)) := r5.1.put (r5.1.pn (x, d) (List.mem_append_left _ (List.mem_append_right _ List.mem_cons_self)))
      by_cases hlt1 : j < ds1.length
      · obtain ⟨go1, yl1⟩ := w1.1 hlt1
        refine .inr ⟨go1, fun H6 => j + 1 ≤ ds1.length ∧ ∃ acc xs, H6 L = some (.lst xs) ∧ DtL F.K (G.add L) H6 acc xs ∧ RelL (F.pin (pn1 ++ ((x, d) :: pn))) (G.add L) H6 (L2.wipe σ vs) (wipeS ρ vs) L0 ∧ Ext G H1 H6 ∧
          compB t1 tt1 te (wipeS ((wipeS ρ vs).set i (.dat d)) vs1) (ds1.drop (j + 1)) acc fun acc' => comp2T i tt t1 I1 tt1 te vs1 (wipeS ρ vs) (ds.drop (i' + 1)) acc' k, fun H6 ⟨hl, q⟩ => ⟨_, by omega, rfl, hl, q⟩, fun x1 H6 y1 => ?_⟩
        obtain ⟨kp1, d1, hdi1, hxd1⟩ := yl1 x1 H6 y1
        rw [List.drop_eq_getElem_cons hlt1] at h5
        have ed1 : ds1[j] = d1 := by rw [List.getElem?_eq_getElem hlt1] at hdi1; exact Option.some.inj hdi1
        rw [ed1] at h5
        have x6 : Ext (G.add L) H5 H6 := Ext.all r5.1.bag kp1
        refine gOf_ok (F := F.pin (pn1 ++ ((x, d) :: pn))) hK ((rin.wipe vs1).step x6) hxd1 h5 fun ρ2 us hk2 r7 => ⟨by rw [wipe_tgS t1 x1 us _ ht1, wipe_wipe], ?_⟩
        have up1 : ∀ {H8 : Hp}, Ext (G.add L) H6 H8 → H8 L = some (.lst xs5) ∧ DtL F.K (G.add L) H8 acc5 xs5 ∧ RelL (F.pin (pn1 ++ ((x, d) :: pn))) (G.add L) H8 (L2.wipe σ vs) (wipeS ρ vs) L0 ∧ Ext G H1 H8 := fun {H8} z => by
          have z2 := x6.trans z
          exact ⟨z2.mine nbL hx5 (.inr rfl), (r5.1.evo z2).dts _ _ hd5, r5.step z2, e5.trans (Ext.cg (G := G.add L) (G' := G) rfl rfl (fun _ h => .inl h) z2)⟩
        refine h3 _ _ _ _ ⟨G.add L, ρ2, _, r7, hk2, fun b H7 hb x7 => ?_⟩
        cases b with
        | true =>
          refine iteT (h4 _ _ _ _ ⟨G.add L, ρ2, _, r7.step x7, of_tt hb, fun e v H8 ⟨hz, hk8⟩ x8 dv => ?_⟩)
          obtain ⟨v1, v2, v3, v4⟩ := up1 (x7.trans x8)
          refine ⟨xs5, v1, by rw [← hd5.len]; exact hz, hlt1, acc5 ++ [e], xs5 ++ [v], upd_same, ?_, v3.mutate (o := .lst (xs5 ++ [v])) (.inr rfl) hnL True.intro hno, ⟨fun a o n z => ?_, ?_⟩, hk8⟩
          · have ev : Evo (G.add L) (G.add L) H8 (upd H8 L (.lst (xs5 ++ [v]))) := ⟨fun a o n z => .inl (by rw [upd_ne fun w => n (.inr w)]; exact z), v3.1.tr, fun _ n _ => n, rfl, rfl⟩
            exact (ev.dts _ _ v2).app ⟨v, [], rfl, ev.dt _ _ dv, rfl⟩
          · rw [upd_ne (fun w => by rw [w, hL] at z; cases z)]
            exact v4.keep a o n z
          · exact (v3.mutate (o := .lst (xs5 ++ [v])) (.inr rfl) hnL True.intro hno).1.bag
        | false =>
          obtain ⟨v1, v2, v3, v4⟩ := up1 x7
          exact iteF ⟨hlt1, acc5, xs5, v1, v2, v3, v4, of_ff hb⟩
      · have e : j = ds1.length := by omega
        subst e
        rw [List.drop_length] at h5
        refine .inl ⟨w1.2 (Nat.le_refl _), hlt, acc5, xs5, hx5, hd5, r5.unpin.pinned fun q hq => r5.1.pn q (List.mem_append_left _ (List.mem_append_right _ (List.mem_cons_of_mem _ hq))), e5, h5⟩
  · have e : i' = ds.length := by omega
    subst e
    rw [List.drop_length] at h'
    exact .inl ⟨w.2 (Nat.le_refl _), q acc L xs H' h' (e1.trans e') (e1.free r.bag hL) hx hd⟩
end
section
variable {X : Cx} {F : Fr} {elt tg iter tg1 iter1 : Expr} {ifs ifs1 : List Expr} {scope : Scope} {own : List (Str × Nat)} {pos : Pos} {I I1 : TLD} {tt tt1 : TBD} {te : TD}
theorem f_lc2 (i : Nat) (t1 : Tg) (vs1 : List Nat) (hc : X.calm = true) (hN : X.N.Nodup) (hi : PI X tg iter (liftI F I)) (ok : BlkOk X.N X.env.scope scope own)
    (hg : ∀ (s : Shared) (H : Hp) (C : Addr) (cl : List (Str × Addr)) (fp : List Addr), PG (X.blk s H scope (compEnvC scope cl C X.env) fp) tg (gName i))
    (hs : ∀ (s : Shared) (H : Hp) (C : Addr) (cl : List (Str × Addr)) (fp : List Addr) (pn : List (V × D)), PTs (X.blk s H scope (compEnvC scope cl C X.env) fp) ifs (liftT (F.pin pn) tt))
    (hi1 : ∀ (s : Shared) (H : Hp) (C : Addr) (cl : List (Str × Addr)) (fp : List Addr) (pn : List (V × D)), PI (X.blk s H scope (compEnvC scope cl C X.env) fp) tg1 iter1 (liftI (F.pin pn) I1))
    (hg1 : ∀ (s : Shared) (H : Hp) (C : Addr) (cl : List (Str × Addr)) (fp : List Addr), PG (X.blk s H scope (compEnvC scope cl C X.env) fp) tg1 (gOf X.K t1))
    (hs1 : ∀ (s : Shared) (H : Hp) (C : Addr) (cl : List (Str × Addr)) (fp : List Addr) (pn : List (V × D)), PTs (X.blk s H scope (compEnvC scope cl C X.env) fp) ifs1 (liftT (F.pin pn) tt1))
    (he : ∀ (s : Shared) (H : Hp) (C : Addr) (cl : List (Str × Addr)) (fp : List Addr) (pn : List (V × D)), PE (X.blk s H scope (compEnvC scope cl C X.env) fp) elt (lift (F.pin pn) te))
    (hx : i ∈ own.map (·.2) := by decide) (hx1 : ∀ j ∈ t1.ix, j ∈ vs1 := by decide) (hv : ∀ j ∈ vs1, j ∈ own.map (·.2) := by decide) (hf : ∀ x, foldedSetIterable iter X.env x = pure x := by intro _; rfl) (hf1 : ∀ env x, foldedSetIterable iter1 env x = pure x := by intro _ _; rfl) (hK : X.K = F.K := by rfl) :
    PE X (.ListComp elt [⟨tg, iter, ifs, 0⟩, ⟨tg1, iter1, ifs1, 0⟩] scope pos) (liftF F (lc2F i I tt t1 I1 tt1 te (own.map (·.2)) vs1)) :=
  pe_imp (pe_lc2 (tt := fun σ H Q => ∃ pn, liftT (F.pin pn) tt σ H Q) (wi1 := fun σ H R => ∃ pn, liftI (F.pin pn) I1 σ H R) (tt1 := fun σ H Q => ∃ pn, liftT (F.pin pn) tt1 σ H Q) (te := fun σ H Q => ∃ pn, lift (F.pin pn) te σ H Q) hc hN hi ok hv hg
    (fun s H C cl fp => ⟨fun pins s1 σ H1 Q I ⟨pn, w⟩ => (hs s H C cl fp pn).run pins s1 σ H1 Q I w⟩) (fun s H C cl fp => ⟨fun pins s1 σ H1 R I ⟨pn, w⟩ => (hi1 s H C cl fp pn).run pins s1 σ H1 R I w⟩) hg1
    (fun s H C cl fp => ⟨fun pins s1 σ H1 Q I ⟨pn, w⟩ => (hs1 s H C cl fp pn).run pins s1 σ H1 Q I w⟩) (fun s H C cl fp => ⟨fun pins s1 σ H1 Q I ⟨pn, w⟩ => (he s H C cl fp pn).run pins s1 σ H1 Q I w⟩) hf hf1)
    (lc2T _ _ hx hx1 hK _ _ _ _ (fun pn _ _ _ w => ⟨pn, w⟩) (fun pn _ _ _ w => ⟨pn, w⟩) (fun pn _ _ _ w => ⟨pn, w⟩) fun pn _ _ _ w => ⟨pn, w⟩)
end
end DL

set_option Elab.async false
set_option linter.all false
set_option maxRecDepth 100000
set_option maxHeartbeats 4000000
namespace DL
open PySem PySem.Spec PyProof.Rows L2
section
variable {X : Cx} {F : Fr} {elt tg iter tg1 iter1 : Expr} {ifs ifs1 : List Expr} {scope : Scope} {own : List (Str × Nat)} {pos : Pos} {I I1 : TLD} {tt tt1 : TBD} {te : TD}
/-- y = [..], y a local -/
theorem s_setLc2 {i0 : Nat} {y : Str} {py spos : Pos} (i : Nat) (t1 : Tg) (vs1 : List Nat) (hc : X.calm = true) (hN : X.N.Nodup) (hy : X.N[i0]? = some y) (hyl : X.env.scope.names.lookup y = some .local)
    (hsw : swapsWith (.ListComp elt [⟨tg, iter, ifs, 0⟩, ⟨tg1, iter1, ifs1, 0⟩] scope pos) (some (.Name y py)) spos.line X.env = pure true) (hi : PI X tg iter (liftI F I)) (ok : BlkOk X.N X.env.scope scope own)
    (hg : ∀ (s : Shared) (H : Hp) (C : Addr) (cl : List (Str × Addr)) (fp : List Addr), PG (X.blk s H scope (compEnvC scope cl C X.env) fp) tg (gName i))
    (hs : ∀ (s : Shared) (H : Hp) (C : Addr) (cl : List (Str × Addr)) (fp : List Addr) (pn : List (V × D)), PTs (X.blk s H scope (compEnvC scope cl C X.env) fp) ifs (liftT (F.pin pn) tt))
    (hi1 : ∀ (s : Shared) (H : Hp) (C : Addr) (cl : List (Str × Addr)) (fp : List Addr) (pn : List (V × D)), PI (X.blk s H scope (compEnvC scope cl C X.env) fp) tg1 iter1 (liftI (F.pin pn) I1))
    (hg1 : ∀ (s : Shared) (H : Hp) (C : Addr) (cl : List (Str × Addr)) (fp : List Addr), PG (X.blk s H scope (compEnvC scope cl C X.env) fp) tg1 (gOf X.K t1))
    (hs1 : ∀ (s : Shared) (H : Hp) (C : Addr) (cl : List (Str × Addr)) (fp : List Addr) (pn : List (V × D)), PTs (X.blk s H scope (compEnvC scope cl C X.env) fp) ifs1 (liftT (F.pin pn) tt1))
    (he : ∀ (s : Shared) (H : Hp) (C : Addr) (cl : List (Str × Addr)) (fp : List Addr) (pn : List (V × D)), PE (X.blk s H scope (compEnvC scope cl C X.env) fp) elt (lift (F.pin pn) te))
    (hx : i ∈ own.map (·.2) := by decide) (hx1 : ∀ j ∈ t1.ix, j ∈ vs1 := by decide) (hv : ∀ j ∈ vs1, j ∈ own.map (·.2) := by decide) (hf : ∀ x, foldedSetIterable iter X.env x = pure x := by intro _; rfl) (hf1 : ∀ env x, foldedSetIterable iter1 env x = pure x := by intro _ _; rfl) (hK : X.K = F.K := by rfl) :
    PS X (.Assign [.Name y py] (.ListComp elt [⟨tg, iter, ifs, 0⟩, ⟨tg1, iter1, ifs1, 0⟩] scope pos) spos) (liftS F (setT i0 (ofF (lc2F i I tt t1 I1 tt1 te (own.map (·.2)) vs1)))) := by
  refine ps_imp (ps_setLc2 (tt := fun σ H Q => ∃ pn, liftT (F.pin pn) tt σ H Q) (wi1 := fun σ H R => ∃ pn, liftI (F.pin pn) I1 σ H R) (tt1 := fun σ H Q => ∃ pn, liftT (F.pin pn) tt1 σ H Q) (te := fun σ H Q => ∃ pn, lift (F.pin pn) te σ H Q) hc hN hy hyl hsw hi ok hv hg
    (fun s H C cl fp => ⟨fun pins s1 σ H1 Q I ⟨pn, w⟩ => (hs s H C cl fp pn).run pins s1 σ H1 Q I w⟩) (fun s H C cl fp => ⟨fun pins s1 σ H1 R I ⟨pn, w⟩ => (hi1 s H C cl fp pn).run pins s1 σ H1 R I w⟩) hg1
    (fun s H C cl fp => ⟨fun pins s1 σ H1 Q I ⟨pn, w⟩ => (hs1 s H C cl fp pn).run pins s1 σ H1 Q I w⟩) (fun s H C cl fp => ⟨fun pins s1 σ H1 Q I ⟨pn, w⟩ => (he s H C cl fp pn).run pins s1 σ H1 Q I w⟩) hf hf1) ?_
  intro E σ H ⟨G, ρ, k, r, h, o⟩
  refine lc2T (F := F) _ _ hx hx1 hK _ _ _ _ (fun pn _ _ _ w => ⟨pn, w⟩) (fun pn _ _ _ w => ⟨pn, w⟩) (fun pn _ _ _ w => ⟨pn, w⟩) (fun pn _ _ _ w => ⟨pn, w⟩) σ H _ ⟨G, ρ, _, r, h, fun ds p vs H1 h1 e1 hp hl d1 => ?_⟩
  have ev : Evo (G.add p) G H1 H1 := ⟨fun _ _ _ h => .inl h, fun a z => z.elim (Ext.tr' r.obg r.tr e1 a) fun z => by rw [z, hl]; exact True.intro, fun a n _ z => n (.inl z), rfl, rfl⟩
  exact o.nx _ G _ H1 h1 ((r.step e1).put (v := .ref p) ⟨p, vs, rfl, r.free hp, hl, ev.dts ds vs d1⟩)
end

/-! ### {k: v for x in iter if ..} -/
def dcompT (t : Tg) (tt : TBD) (tk tv : TD) (ρ : List Sl) : List D → List (D × D) → (List (D × D) → Prop) → Prop
  | [], acc, k => k acc
  | d :: ds, acc, k => tgD t d ρ fun ρ1 => tt ρ1 fun b => if b = true then tk ρ1 fun y => tv ρ1 fun z => (keyD y).isSome ∧ acc.length < sizeLine ∧ dcompT t tt tk tv ρ ds (putD acc y z) k else dcompT t tt tk tv ρ ds acc k
def dcT (t : Tg) (I : TLD) (tt : TBD) (tk tv : TD) (vs : List Nat) : TD := fun ρ k => I ρ fun ds => dcompT t tt tk tv (wipeS ρ vs) ds [] fun es => k (.dic false es)
section
variable {X : Cx} {F : Fr} {t : Tg} {I : TLD} {tt : TBD} {tk tv : TD}
theorem dcL {K : PySem.W.Frag} (vs : List Nat) (ht : ∀ i ∈ t.ix, i ∈ vs) (hK : K = F.K) (tb : TT) (uk uv : TE) (h1 : ∀ pn σ H Q, liftT (F.pin pn) tt σ H Q → tb σ H Q) (h2 : ∀ pn σ H Q, lift (F.pin pn) tk σ H Q → uk σ H Q) (h3 : ∀ pn σ H Q, lift (F.pin pn) tv σ H Q → uv σ H Q) :
    ∀ σ H Q, lift F (dcT t I tt tk tv vs) σ H Q → tDc (liftI F I) (gOf K t) tb uk uv vs σ H Q := by
  intro σ H Q ⟨G, ρ, k, r, h, q⟩
  refine ⟨G, ρ, _, r, h, fun ds J H1 pn hk e1 wk hpn L hL => ?_⟩
  have r1 := r.step e1
  have e2 : Ext G H1 (upd H1 L (.dK [])) := Ext.new r1.bag hL
  obtain ⟨L0, s0⟩ := ((r1.pinned hpn).wipe vs).adrs
  have hno : L ∉ L0 := s0.new hL
  have r2 : RelL (F.pin pn) (G.add L) (upd H1 L (.dK [])) (L2.wipe σ vs) (wipeS ρ vs) L0 := s0.grow e2 hL (by rw [upd_same]; exact True.intro)
  have hnL : ¬ F.G.own L := fun z => r1.free hL (r1.sub L z)
  refine ⟨fun i m H' => m = ds.length - i ∧ i ≤ ds.length ∧ ∃ acc xs, H' L = some (.dK xs) ∧ DtP F.K (G.add L) H' false acc xs ∧ RelL (F.pin pn) (G.add L) H' (L2.wipe σ vs) (wipeS ρ vs) L0 ∧ Ext G H1 H' ∧
      dcompT t tt tk tv (wipeS ρ vs) (ds.drop i) acc fun es => k (.dic false es), ⟨_, rfl, Nat.zero_le _, [], [], upd_same, ⟨rfl, rfl⟩, r2, e2, hk⟩, ?_⟩
  rintro i m H' ⟨rfl, hi, acc, xs, hx, hd, r', e', h'⟩
  have w := wk i (G.add L) H' r'.1.ok fun q hq => r'.1.pn q (List.mem_append_left _ hq)
  by_cases hlt : i < ds.length
  · obtain ⟨go, yl⟩ := w.1 hlt
    refine .inr ⟨go, fun H2 => i + 1 ≤ ds.length ∧ ∃ acc xs, H2 L = some (.dK xs) ∧ DtP F.K (G.add L) H2 false acc xs ∧ RelL (F.pin pn) (G.add L) H2 (L2.wipe σ vs) (wipeS ρ vs) L0 ∧ Ext G H1 H2 ∧
      dcompT t tt tk tv (wipeS ρ vs) (ds.drop (i + 1)) acc fun es => k (.dic false es), fun H2 ⟨hl, q⟩ => ⟨_, by omega, rfl, hl, q⟩, fun x H2 y => ?_⟩
    obtain ⟨kp, d, hdi, hxd⟩ := yl x H2 y
    rw [List.drop_eq_getElem_cons hlt] at h'
    have ed : ds[i] = d := by rw [List.getElem?_eq_getElem hlt] at hdi; exact Option.some.inj hdi
    rw [ed] at h'
    have x2 : Ext (G.add L) H' H2 := Ext.all r'.1.bag kp
    have r3 := r'.step x2
    refine gOf_ok (F := F.pin pn) hK r3.1 hxd h' fun ρ1 us hk1 r4 => ⟨by rw [wipe_tgS t x us _ ht, wipe_wipe], ?_⟩
    have nbL : L ≠ G.bg := r1.own_ne_bg hnL
    have up : ∀ {H5 : Hp}, Ext (G.add L) H2 H5 → H5 L = some (.dK xs) ∧ DtP F.K (G.add L) H5 false acc xs ∧ RelL (F.pin pn) (G.add L) H5 (L2.wipe σ vs) (wipeS ρ vs) L0 ∧ Ext G H1 H5 := fun {H5} z => by
      have z2 := x2.trans z
      exact ⟨z2.mine nbL hx (.inr rfl), (r'.1.evo z2).dtp _ _ _ hd, r'.step z2, e'.trans (Ext.cg (G := G.add L) (G' := G) rfl rfl (fun _ h => .inl h) z2)⟩
    refine h1 pn _ _ _ ⟨G.add L, ρ1, _, r4, hk1, fun b H3 hb x3 => ?_⟩
    cases b with
    | true =>
      refine iteT (h2 pn _ _ _ ⟨G.add L, ρ1, _, r4.step x3, of_tt hb, fun y vy H4 hd4 x4 dy => ?_⟩)
      refine h3 pn _ _ _ ⟨G.add L, ρ1, _, (r4.step x3).step x4, hd4, fun z vz H5 ⟨hky, hz5, hd5⟩ x5 dz => ?_⟩
      obtain ⟨u1, u2, u3, u4⟩ := up ((x3.trans x4).trans x5)
      obtain ⟨j, hj⟩ := Option.isSome_iff_exists.mp hky
      obtain rfl := keyD_kV hj dy
      obtain rfl := keyD_inv hj
      refine ⟨xs, j, rfl, u1, by rw [← u2.len]; exact hz5, hlt, putD acc (kD j) z, putK xs j vz, upd_same, ?_, u3.mutate (o := .dK (putK xs j vz)) (.inr rfl) hnL True.intro hno, ⟨fun a o n z => ?_, ?_⟩, hd5⟩
      · have ev : Evo (G.add L) (G.add L) H5 (upd H5 L (.dK (putK xs j vz))) := ⟨fun a o n z => .inl (by rw [upd_ne fun w => n (.inr w)]; exact z), u3.1.tr, fun _ n _ => n, rfl, rfl⟩
        exact (ev.dtp _ _ _ u2).put (ev.dt _ _ dz)
      · rw [upd_ne (fun w => by rw [w, hL] at z; cases z)]
        exact u4.keep a o n z
      · exact (u3.mutate (o := .dK (putK xs j vz)) (.inr rfl) hnL True.intro hno).1.bag
    | false =>
      obtain ⟨u1, u2, u3, u4⟩ := up x3
      exact iteF ⟨hlt, acc, xs, u1, u2, u3, u4, of_ff hb⟩
  · have e : i = ds.length := by omega
    subst e
    rw [List.drop_length] at h'
    have ev : Evo (G.add L) G H' H' := ⟨fun _ _ _ h => .inl h, fun a z => by
      have := r'.1.tr a z
      exact this, fun a n _ z => n (.inl z), rfl, rfl⟩
    exact .inl ⟨w.2 (Nat.le_refl _), q _ _ H' h' (e1.trans e') ⟨L, rfl, fun z => r1.free hL z, .inl ⟨xs, .inl hx, ev.dtp _ _ _ hd⟩⟩⟩
end
/-- y = {..}, y a local -/
theorem ps_setDc {X : Cx} {i : Nat} {y : Str} {py : Pos} {kx vx tg iter : Expr} {ifs : List Expr} {scope : Scope} {own : List (Str × Nat)} {pos spos : Pos} {wi : TI} {g : TG} {tt : TT} {tk tv : TE} (hc : X.calm = true) (hN : X.N.Nodup) (hy : X.N[i]? = some y) (hyl : X.env.scope.names.lookup y = some .local)
    (hsw : swapsWith (.DictComp kx vx [⟨tg, iter, ifs, 0⟩] scope pos) (some (.Name y py)) spos.line X.env = pure true) (hi : PI X tg iter wi) (ok : BlkOk X.N X.env.scope scope own)
    (hg : ∀ (s : Shared) (H : Hp) (C : Addr) (cl : List (Str × Addr)) (fp : List Addr), PG (X.blk s H scope (compEnvC scope cl C X.env) fp) tg g) (ht : ∀ (s : Shared) (H : Hp) (C : Addr) (cl : List (Str × Addr)) (fp : List Addr), PTs (X.blk s H scope (compEnvC scope cl C X.env) fp) ifs tt)
    (hk : ∀ (s : Shared) (H : Hp) (C : Addr) (cl : List (Str × Addr)) (fp : List Addr), PE (X.blk s H scope (compEnvC scope cl C X.env) fp) kx tk)
    (he : ∀ (s : Shared) (H : Hp) (C : Addr) (cl : List (Str × Addr)) (fp : List Addr), PE (X.blk s H scope (compEnvC scope cl C X.env) fp) vx tv) (hs : ∀ x, foldedSetIterable iter X.env x = pure x := by intro _; rfl) :
    PS X (.Assign [.Name y py] (.DictComp kx vx [⟨tg, iter, ifs, 0⟩] scope pos) spos) (tAsg (tDc wi g tt tk tv (own.map (·.2))) (gName i)) := by
  refine ⟨fun pins s σ H D I h => ?_⟩
  rw [exec_Assign_Name_used _ _ _ _ hsw]
  refine wpAny_bind (wpAny_standAt (wpAny_bind ?_))
  show wpAny _ X.A (do let _ ← comprehension (.DictComp kx vx [⟨tg, iter, ifs, 0⟩] scope pos) scope X.env (firstIterPos [⟨tg, iter, ifs, 0⟩] pos) newDict false (eval iter X.env) (some (assign (.Name y py) X.env))) _ _ s
  have h : tDc wi g tt tk tv (own.map (·.2)) σ H (fun x H1 => gName i x σ H1 D.nx) := h
  refine wpAny_bind (thn (dc_core (Qf := fun _ s' => SP X pins D .next s') hc hN I hi ok hg ht hk he hs h fun L C s' m H' I' q hn f => ?_) fun _ s' hq => wpAny_pure (wpAny_pure hq))
  show wpAny _ _ (assign (.Name y py) X.env (.ref L)) _ _ _
  refine wpAny_assign_Name (store_ok2 (v := V.ref L) I' hN hy (.inl hyl) rfl (fun s2 I2 ⟨a, sb, ha⟩ => ?_) (.inr hyl))
  obtain ⟨f0, f1, f2, f3, f4, f5⟩ := f
  have haC : C ≠ a := by
    rcases ha with z | z
    · rw [z]; exact f1
    · exact fun e => f4 y a z e.symm
  refine ⟨m, hn.sameBut sb haC, fun h3 sb3 => ?_⟩
  exact ⟨_, H', I2.turned (t' := s2.toks) (fun b o hb e => (sb3.2 b hb).trans e) f0 f1 f3 f4 f5, q⟩
section
variable {X : Cx} {F : Fr} {kx vx tg iter : Expr} {ifs : List Expr} {scope : Scope} {own : List (Str × Nat)} {pos : Pos} {t : Tg} {I : TLD} {tt : TBD} {tk tv : TD}
theorem d_dc (t : Tg) (hc : X.calm = true) (hN : X.N.Nodup) (hi : PI X tg iter (liftI F I)) (ok : BlkOk X.N X.env.scope scope own)
    (hg : ∀ (s : Shared) (H : Hp) (C : Addr) (cl : List (Str × Addr)) (fp : List Addr), PG (X.blk s H scope (compEnvC scope cl C X.env) fp) tg (gOf X.K t))
    (hs : ∀ (s : Shared) (H : Hp) (C : Addr) (cl : List (Str × Addr)) (fp : List Addr) (pn : List (V × D)), PTs (X.blk s H scope (compEnvC scope cl C X.env) fp) ifs (liftT (F.pin pn) tt))
    (hk : ∀ (s : Shared) (H : Hp) (C : Addr) (cl : List (Str × Addr)) (fp : List Addr) (pn : List (V × D)), PE (X.blk s H scope (compEnvC scope cl C X.env) fp) kx (lift (F.pin pn) tk))
    (he : ∀ (s : Shared) (H : Hp) (C : Addr) (cl : List (Str × Addr)) (fp : List Addr) (pn : List (V × D)), PE (X.blk s H scope (compEnvC scope cl C X.env) fp) vx (lift (F.pin pn) tv))
    (hx : ∀ i ∈ t.ix, i ∈ own.map (·.2) := by decide) (hf : ∀ x, foldedSetIterable iter X.env x = pure x := by intro _; rfl) (hK : X.K = F.K := by rfl) :
    PE X (.DictComp kx vx [⟨tg, iter, ifs, 0⟩] scope pos) (lift F (dcT t I tt tk tv (own.map (·.2)))) :=
  pe_imp (pe_dc (tt := fun σ H Q => ∃ pn, liftT (F.pin pn) tt σ H Q) (tk := fun σ H Q => ∃ pn, lift (F.pin pn) tk σ H Q) (tv := fun σ H Q => ∃ pn, lift (F.pin pn) tv σ H Q) hc hN hi ok hg
    (fun s H C cl fp => ⟨fun pins s1 σ H1 Q I ⟨pn, w⟩ => (hs s H C cl fp pn).run pins s1 σ H1 Q I w⟩) (fun s H C cl fp => ⟨fun pins s1 σ H1 Q I ⟨pn, w⟩ => (hk s H C cl fp pn).run pins s1 σ H1 Q I w⟩) (fun s H C cl fp => ⟨fun pins s1 σ H1 Q I ⟨pn, w⟩ => (he s H C cl fp pn).run pins s1 σ H1 Q I w⟩) hf)
    (dcL _ hx hK _ _ _ (fun pn _ _ _ w => ⟨pn, w⟩) (fun pn _ _ _ w => ⟨pn, w⟩) fun pn _ _ _ w => ⟨pn, w⟩)
theorem s_setDc {i : Nat} {y : Str} {py spos : Pos} (t : Tg) (hc : X.calm = true) (hN : X.N.Nodup) (hy : X.N[i]? = some y) (hyl : X.env.scope.names.lookup y = some .local)
    (hsw : swapsWith (.DictComp kx vx [⟨tg, iter, ifs, 0⟩] scope pos) (some (.Name y py)) spos.line X.env = pure true) (hi : PI X tg iter (liftI F I)) (ok : BlkOk X.N X.env.scope scope own)
    (hg : ∀ (s : Shared) (H : Hp) (C : Addr) (cl : List (Str × Addr)) (fp : List Addr), PG (X.blk s H scope (compEnvC scope cl C X.env) fp) tg (gOf X.K t))
    (hs : ∀ (s : Shared) (H : Hp) (C : Addr) (cl : List (Str × Addr)) (fp : List Addr) (pn : List (V × D)), PTs (X.blk s H scope (compEnvC scope cl C X.env) fp) ifs (liftT (F.pin pn) tt))
    (hk : ∀ (s : Shared) (H : Hp) (C : Addr) (cl : List (Str × Addr)) (fp : List Addr) (pn : List (V × D)), PE (X.blk s H scope (compEnvC scope cl C X.env) fp) kx (lift (F.pin pn) tk))
    (he : ∀ (s : Shared) (H : Hp) (C : Addr) (cl : List (Str × Addr)) (fp : List Addr) (pn : List (V × D)), PE (X.blk s H scope (compEnvC scope cl C X.env) fp) vx (lift (F.pin pn) tv))
    (hx : ∀ i ∈ t.ix, i ∈ own.map (·.2) := by decide) (hf : ∀ x, foldedSetIterable iter X.env x = pure x := by intro _; rfl) (hK : X.K = F.K := by rfl) :
    PS X (.Assign [.Name y py] (.DictComp kx vx [⟨tg, iter, ifs, 0⟩] scope pos) spos) (liftS F (setT i (dcT t I tt tk tv (own.map (·.2))))) := by
  refine ps_imp (ps_setDc (tt := fun σ H Q => ∃ pn, liftT (F.pin pn) tt σ H Q) (tk := fun σ H Q => ∃ pn, lift (F.pin pn) tk σ H Q) (tv := fun σ H Q => ∃ pn, lift (F.pin pn) tv σ H Q) hc hN hy hyl hsw hi ok hg
    (fun s H C cl fp => ⟨fun pins s1 σ H1 Q I ⟨pn, w⟩ => (hs s H C cl fp pn).run pins s1 σ H1 Q I w⟩) (fun s H C cl fp => ⟨fun pins s1 σ H1 Q I ⟨pn, w⟩ => (hk s H C cl fp pn).run pins s1 σ H1 Q I w⟩) (fun s H C cl fp => ⟨fun pins s1 σ H1 Q I ⟨pn, w⟩ => (he s H C cl fp pn).run pins s1 σ H1 Q I w⟩) hf) ?_
  intro E σ H ⟨G, ρ, k, r, h, o⟩
  exact dcL (F := F) _ hx hK _ _ _ (fun pn _ _ _ w => ⟨pn, w⟩) (fun pn _ _ _ w => ⟨pn, w⟩) (fun pn _ _ _ w => ⟨pn, w⟩) σ H _ ⟨G, ρ, _, r, h, fun d v H1 h1 e1 d1 => o.nx _ G _ H1 h1 ((r.step e1).put d1)⟩
end
end DL

set_option Elab.async false
set_option linter.all false
set_option maxRecDepth 100000
set_option maxHeartbeats 4000000
namespace DL
open PySem PySem.Spec PyProof.Rows L2
/-! ### while -/
def whileT (c : TBD) (S : TSD) : TSD := fun k ρ => ∃ W : Nat → List Sl → Prop, (∃ m, W m ρ) ∧ ∀ m ρ, W m ρ → c ρ fun b => if b = true then ∃ N : List Sl → Prop, (∀ ρ', N ρ' → ∃ m', m' < m ∧ W m' ρ') ∧ S { k with nx := N, ct := N, bk := k.nx } ρ else k.nx ρ
section
variable {X : Cx} {F : Fr} {c : Expr} {body : List Stmt} {tc : TBD} {S : TSD} {pos : Pos}
theorem s_while (hp : PassesOwn (model X.prog X.w) X.A X.env X.xe) (hc : PT X c (liftT F tc)) (hb : PSs X body (liftS F S)) : PS X (.While c body [] pos) (liftS F (whileT tc S)) := by
  refine ps_imp (ps_while hp hc hb) fun E σ H ⟨G, ρ, k, r, ⟨W, ⟨m0, w0⟩, turn⟩, o⟩ => ?_
  refine ⟨fun m σ H => ∃ G ρ, Rel F G H σ ρ ∧ W m ρ, ⟨m0, G, ρ, r, w0⟩, ?_⟩
  rintro m σ1 H1 ⟨G1, ρ1, r1, w1⟩
  refine ⟨G1, ρ1, _, r1, turn m ρ1 w1, fun b H2 hb x2 => ?_⟩
  cases b with
  | false => exact iteF (o.nx _ _ _ _ (of_ff hb) (r1.step x2))
  | true =>
    obtain ⟨N, hN, hS⟩ := of_tt hb
    refine iteT ⟨fun σ' H' => ∃ G ρ, Rel F G H' σ' ρ ∧ N ρ, fun σ' H' ⟨G', ρ', r', n'⟩ => ?_, G1, ρ1, _, r1.step x2, hS, ⟨fun ρ' G' σ' H' h' r' => ⟨G', ρ', r', h'⟩, o.rt, fun ρ' G' σ' H' h' r' => o.nx ρ' G' σ' H' h' r', fun ρ' G' σ' H' h' r' => ⟨G', ρ', r', h'⟩⟩⟩
    obtain ⟨m', hm, w'⟩ := hN ρ' n'
    exact ⟨m', hm, G', ρ', r', w'⟩
end
/-! ### a text of the module -/
theorem d_glob {X : Cx} {F : Fr} {x s : Str} {pos : Pos} (h : ∃ t, X.mg x = some (.str s t)) (hg : Gl X x) (hd : (x == ("__debug__" : Str)) = false := by decide) : PE X (.Name x pos) (lift F (cT (.str s))) := by
  obtain ⟨t, h⟩ := h
  exact d_cst (pe_glob hg h (v := .str s) ⟨t, rfl⟩ hd) fun _ _ => rfl
/-! ### max of a list -/
def maxLR : RD := fun ds k => ∃ ns : List Int, ds = [.lst (ns.map .int)] ∧ 0 < ns.length ∧ ∀ m, m ∈ ns → (∀ y, y ∈ ns → y ≤ m) → k (.int m)
theorem dtl_ints {K : PySem.W.Frag} {G : Gh} {H : Hp} : ∀ {ns : List Int} {vs : List V}, DtL K G H (ns.map .int) vs → vs = ns.map V.int
  | [], _, h => h
  | n :: ns, _, h => by
    obtain ⟨x, r, rfl, h1, h2⟩ := h
    obtain rfl := h1
    rw [dtl_ints h2]; rfl
section
variable {X : Cx} {F : Fr} {p pos : Pos} {e : Expr} {ta : TLD}
theorem ok_maxL : OkCall F (rMax F.K) maxLR := by
  intro G H ds vs k Q ok ⟨ns, e, hn, h⟩ hd q
  subst e
  obtain ⟨v, rfl, a, xs, rfl, n, ha, hl⟩ := dl1 hd
  obtain rfl := dtl_ints hl
  exact ⟨a, ns, rfl, SqL.of ha, hn, fun m hm hx => q _ _ _ (h m hm hx) (.refl ok.bag) rfl⟩
theorem d_maxL (hc : X.calm = true) (hg : Gl X "max") (hm : X.mg "max" = none) (ha : PA X [e] (liftA F ta)) (he : starEach [e] X.env = (false, eval e X.env) :: starEach [] X.env := by rfl) (hK : X.K = F.K := by rfl) :
    PE X (.Call (.Name "max" p) [e] [] pos) (lift F (callT maxLR ta)) := d_callB (cr_max hc) (hK ▸ ok_maxL) hg hm (by decide +kernel) ha (by decide) (by decide) he
end
/-! ### {}, {k: v} -/
def emptyT : TD := fun _ k => k (.dic true []) ∨ k (.dic false [])
def disp1T (tk tv : TD) : TD := fun ρ k => tk ρ fun y => tv ρ fun z => (keyD y).isSome ∧ k (.dic false [(y, z)])
section
variable {X : Cx} {F : Fr} {pos : Pos} {e f : Expr} {tk tv : TD}
theorem pe_or {t u : TE} (h : PE X e t) (h' : PE X e u) : PE X e (fun σ H Q => t σ H Q ∨ u σ H Q) := ⟨fun pins s σ H Q I w => w.elim (h.run pins s σ H Q I) (h'.run pins s σ H Q I)⟩
theorem d_dictE : PE X (.Dict [] [] pos) (lift F emptyT) := by
  refine pe_imp (pe_or pe_dnewT pe_dnewK) fun σ H Q ⟨G, ρ, k, r, h, q⟩ => ?_
  rcases h with h | h
  · refine .inl fun p hp => ?_
    have e1 : Ext G H (upd H p (.dT [])) := Ext.new r.bag hp
    exact q _ _ _ h e1 ⟨p, rfl, r.free hp, .inr ⟨[], .inl upd_same, rfl, rfl⟩⟩
  · refine .inr fun p hp => ?_
    have e1 : Ext G H (upd H p (.dK [])) := Ext.new r.bag hp
    exact q _ _ _ h e1 ⟨p, rfl, r.free hp, .inl ⟨[], .inl upd_same, rfl, rfl⟩⟩
theorem d_disp1 (hk : PE X e (lift F tk)) (hv : PE X f (lift F tv)) : PE X (.Dict [some e] [f] pos) (lift F (disp1T tk tv)) := by
  refine pe_imp (pe_disp (pps_cons hk hv pps_nil) rfl rfl (by simp) (by simp)) fun σ H Q ⟨G, ρ, k, r, w, q⟩ => fun p hp => ?_
  have e1 : Ext G H (upd H p (.dK [])) := Ext.new r.bag hp
  have r1 : Rel F (G.add p) (upd H p (.dK [])) σ ρ := r.grow e1 hp (by rw [upd_same]; exact True.intro)
  refine ⟨_, ρ, _, r1, w, fun y vy H1 h1 x1 d1 => ⟨_, ρ, _, r1.step x1, h1, fun z vz H2 ⟨hky, h2⟩ x2 d2 => ?_⟩⟩
  have e2 : Ext (G.add p) (upd H p (.dK [])) H2 := x1.trans x2
  have np : p ≠ G.bg := fun z => r.free hp (by rw [z]; exact r.obg)
  have hp2 : H2 p = some (.dK []) := e2.mine np upd_same (.inr rfl)
  obtain ⟨j, hj⟩ := Option.isSome_iff_exists.mp hky
  obtain rfl := keyD_kV hj d1
  obtain rfl := keyD_inv hj
  refine ⟨hp2, [(j, vz)], rfl, by simp, ?_⟩
  have r2 := r1.step e2
  have ev : Evo (G.add p) G H2 (upd H2 p (.dK [(j, vz)])) :=
    ⟨fun a o n h => .inl (by rw [upd_ne (fun z => n (.inr z))]; exact h), r2.tr, fun a n _ => fun z => n (.inl z), rfl, rfl⟩
  have ex : Ext G H (upd H2 p (.dK [(j, vz)])) := by
    refine ⟨fun a o n h => ?_, ?_⟩
    · have na : a ≠ p := fun z => by rw [z, hp] at h; cases h
      rw [upd_ne na]
      exact ((e1.trans (Ext.cg (G := G.add p) (G' := G) rfl rfl (fun _ h => .inl h) e2)).keep a o n h)
    · exact (show BagOk H2 G.bg G.bi from e2.bag).offl hp2 True.intro
  exact q _ _ _ h2 ex ⟨p, rfl, r.free hp, .inl ⟨_, .inl upd_same, j, vz, [], rfl, rfl, ev.dt _ _ d2, rfl, rfl⟩⟩
end
/-! ### d.get(k, x), keys of either kind -/
section
variable {X : Cx} {pins : List (Addr × Obj)} {σ : L2.St} {H : Hp} {s : Shared} {a : Addr} {y d : V} {u r : Value} {o : Option V} {E : Value → Shared → Prop}
def DGetS (K : PySem.W.Frag) (H : Hp) (a : Addr) (y : V) (r : Option V) : Prop := DGet H a y r ∨ ∃ kvs k b, Rd H a (.dT kvs) ∧ y = .ref b ∧ SqT K H b (k.map kV) ∧ r = valV kvs k
theorem key_ofS {ks : List Key} {b : Addr} (I : Inv X pins σ H s) (h : SqT X.K H b (ks.map kV)) : (tupleKind (mixKind X.prog X.w)).is s.heap ks b := by
  obtain ⟨its, rv, p, hz⟩ := I.tuple h
  obtain ⟨o, ho, hc, n, hd⟩ := id p
  exact ⟨o, its.toArray, n, ho, hc, hd, by simpa using items_are rv⟩
theorem d_get2S {A : Around} {Q : Value → Shared → Prop} (hu : A.units + 1 < cLine) (I : Inv X pins σ H s) (g : DGetS X.K H a y o) (ry : RelV y u) (rd : RelV d r) (h : ∀ w' s', Inv X pins σ H s' → RelV (o.getD d) w' → Q w' s') :
    wpAny (model X.prog X.w) A (call (.builtin "dict.get") [.ref a, u, r]) Q E s := by
  rcases g with g | ⟨kvs, k, b, e, ey, eb, l⟩
  · exact d_get2 hu I g ry rd h
  · subst ey
    cases (show u = Value.ref b from ry)
    obtain ⟨z, hd, xs, rel, dd⟩ := dt_rd I.hok e
    refine call_meetsIn PySem.F.slot_dict_get dd.typeIs PySem.F.entry_dict_get (PySem.F.args_dict_get_3 _ _ _) (meetsH_dict_get_default (tupleKind (mixKind X.prog X.w)) a b hd r) ⟨tupleKind_room_in1 hu, k, xs, key_ofS I eb, dd, h _ _ (I.tok _) ?_⟩
    rw [l]
    exact (rel.val k).getD rd
end
def tDGet2S (K : PySem.W.Frag) (td ty tx : TE) : TE := fun σ H Q => td σ H fun x H1 => ∃ a, x = .ref a ∧ IsD H1 a ∧ ty σ H1 fun y H2 => tx σ H2 fun z H3 => ∃ o, DGetS K H3 a y o ∧ Q (o.getD z) H3
section
variable {X : Cx} {o e f : Expr} {apos cpos : Pos} {td ty tx : TE}
theorem pe_dget2S (hu : X.A.units + 1 < cLine) (ho : PE X o td) (he : PE X e ty) (hf : PE X f tx) (m : M2 X o "get" apos e f cpos) : PE X (.Call (.Attribute o "get" apos) [e, f] [] cpos) (tDGet2S X.K td ty tx) := by
  refine ⟨fun pins s σ H Q I h => ?_⟩
  refine wpAny_Call_method m.base m.few m.line PySem.F.plainAttrs_dict PySem.F.slot_dict_get PySem.F.type_dict_get (thn (ho.run pins s σ H _ I h) fun u s1 ⟨x, H1, I1, rx, a, ex, d, q1⟩ => ?_)
  subst ex
  obtain rfl : u = Value.ref a := rx
  obtain ⟨t1, t2, _⟩ := isD_at I1 d
  refine ⟨t1, t2, ?_⟩
  rw [m.trees]
  refine Calls.callWith_builtin rfl (Calls.evalArgs_plain (Calls.spliced_cons (thn (he.run pins s1 σ H1 _ I1 q1) fun iv s2 ⟨y, H2, I2, ry, q2⟩ =>
    Calls.spliced_cons (thn (hf.run pins s2 σ H2 _ I2 q2) fun fv s3 ⟨z, H3, I3, rz, ov, g, q3⟩ => Calls.spliced_nil ?_))))
  exact d_get2S hu I3 g ry rz fun w' s4 I4 rw' => ⟨_, H3, I4, rw', q3⟩
end
def lookD (b : Bool) (es : List (D × D)) (y : D) (k : Option D → Prop) : Prop := match b with
  | false => optK (keyD y) fun j => k (valD es j)
  | true => optK (keyT y) fun j => k (valQ es j)
def getT2 (t tk td : TD) : TD := fun ρ k => t ρ fun x => ∃ b es, x = .dic b es ∧ tk ρ fun y => td ρ fun z => lookD b es y fun o => k (o.getD z)
section
variable {X : Cx} {F : Fr} {o e f : Expr} {to te tf : TD} {apos pos : Pos}
theorem d_get2 {n : Nat} (hr : Room n X.A) (ho : PE X o (lift F to)) (he : PE X e (lift F te)) (hf : PE X f (lift F tf))
    (h1 : attributeBase o "get" X.env (eval o X.env) = eval o X.env := by rfl)
    (h2 : ((backTo pos (starEach [e, f] X.env)).all (fun x => !x.1) && (backToKw pos (keywordEach [] X.env)).all (fun x => x.1.isSome)
    && decide (([e, f] : List Expr).length + ([] : List Keyword).length + (if ([] : List Keyword).isEmpty then 0 else 1) < 30)) = true := by rfl)
    (h3 : (apos.endLine == pos.line) = true := by rfl)
    (h4 : backTo pos (starEach [e, f] X.env) = [(false, eval e X.env), (false, eval f X.env)] := by rfl) (hK : X.K = F.K := by rfl) :
    PE X (.Call (.Attribute o "get" apos) [e, f] [] pos) (lift F (getT2 to te tf)) := by
  refine pe_imp (pe_dget2S (by have := u150 hr; omega) ho he hf ⟨h1, h2, h3, h4⟩) fun σ H Q ⟨G, ρ, k, r, h, q⟩ => ⟨G, ρ, _, r, h, fun x v H1 ⟨b, es, hx, h1⟩ e1 d1 => ?_⟩
  subst hx
  have hd : ∃ a, v = .ref a ∧ IsD H1 a := by
    obtain ⟨a, rfl, n, z⟩ := id d1
    rcases z with ⟨kvs, z, _⟩ | ⟨kvs, z, _⟩
    · exact ⟨a, rfl, .inl ⟨_, z⟩⟩
    · exact ⟨a, rfl, .inr ⟨_, z⟩⟩
  obtain ⟨a, rfl, isd⟩ := hd
  refine ⟨a, rfl, isd, G, ρ, _, r.step e1, h1, fun y u H2 h2 e2 d2 => ?_⟩
  refine ⟨G, ρ, _, (r.step e1).step e2, h2, fun z w H3 h3 e3 d3 => ?_⟩
  have r2 := (r.step e1).step e2
  have e13 := (e1.trans e2).trans e3
  have d1' := (r2.evo e3).dt _ _ (((r.step e1).evo e2).dt _ _ d1)
  have d2' := (r2.evo e3).dt _ _ d2
  cases b with
  | false =>
    obtain ⟨j, hj, h3⟩ := (show optK (keyD y) _ from h3)
    obtain ⟨a', kvs', e', n', ha', hp'⟩ := dic_K d1'
    cases e'
    obtain rfl := keyD_kV hj d2
    refine ⟨_, .inl (.inl ⟨kvs', j, ha', rfl, rfl⟩), ?_⟩
    rcases hp'.val (j := j) with ⟨g1, g2⟩ | ⟨d, v, g1, g2, g3⟩
    · rw [g2]; rw [g1] at h3
      exact q _ _ H3 h3 e13 d3
    · rw [g2]; rw [g1] at h3
      exact q _ _ H3 h3 e13 g3
  | true =>
    obtain ⟨j, hj, h3⟩ := (show optK (keyT y) _ from h3)
    obtain ⟨a', kvs', e', n', ha', hp'⟩ := dic_T d1'
    cases e'
    obtain ⟨b, rfl, hb⟩ := keyT_kV hj d2'
    refine ⟨_, .inr ⟨kvs', j, b, ha', rfl, hK ▸ hb, rfl⟩, ?_⟩
    rcases hp'.val (j := j) with ⟨g1, g2⟩ | ⟨d, v, g1, g2, g3⟩
    · rw [g2]; rw [g1] at h3
      exact q _ _ H3 h3 e13 d3
    · rw [g2]; rw [g1] at h3
      exact q _ _ H3 h3 e13 g3
end
end DL

set_option Elab.async false
set_option linter.all false
set_option maxRecDepth 100000
set_option maxHeartbeats 4000000
namespace DL
open PySem PySem.Spec PyProof.Rows L2
/-! ### owned dicts -/
abbrev dE (e : D × D) : D × Tr := (e.1, .d e.2)
def putQ (es : List (D × D)) (k d : D) : List (D × D) := if (es.any fun e => decide (keyT e.1 = keyT k)) = true then es.map (fun e => if keyT e.1 = keyT k then (e.1, d) else e) else es ++ [(k, d)]
theorem keyT_kD (j : List Key) : keyT (.tup (j.map kD)) = some j := by simp only [keyT, keysD_kD]
section
variable {K : PySem.W.Frag} {G : Gh} {H : Hp}
theorem DtQ.any {j : List Key} : ∀ {es : List (D × D)} {kvs : List (List Key × V)} {t : Bool}, DtQ K G H t es kvs → (es.any fun e => decide (keyT e.1 = keyT (.tup (j.map kD)))) = (kvs.any fun kv => decide (kv.1 = j))
  | [], _, _, h => by rw [h.1]; rfl
  | (k, d) :: es, _, _, h => by
    obtain ⟨i, v, r, rfl, rfl, h1, h2⟩ := h
    rw [List.any_cons, List.any_cons, DtQ.any h2, keyT_kD, keyT_kD]
    simp only [Option.some.injEq]
theorem DtQ.app : ∀ {es : List (D × D)} {kvs : List (List Key × V)} {fs : List (D × D)} {ls : List (List Key × V)}, DtQ K G H true es kvs → DtQ K G H true fs ls → DtQ K G H true (es ++ fs) (kvs ++ ls)
  | [], _, _, _, h, h' => by rw [h.1]; exact h'
  | (k, d) :: es, _, _, _, h, h' => by
    obtain ⟨i, v, r, rfl, rfl, h1, h2⟩ := h
    exact ⟨i, v, _, rfl, rfl, h1, DtQ.app h2 h'⟩
theorem DtQ.repl {j : List Key} {d : D} {v : V} (hd : Dt K G H d v) : ∀ {es : List (D × D)} {kvs : List (List Key × V)}, DtQ K G H true es kvs → DtQ K G H true (es.map fun e => if keyT e.1 = keyT (.tup (j.map kD)) then (e.1, d) else e) (kvs.map fun kv => if kv.1 = j then (kv.1, v) else kv)
  | [], _, h => by rw [h.1]; exact ⟨rfl, rfl⟩
  | (k, d') :: es, _, h => by
    obtain ⟨i, w, r, rfl, rfl, h1, h2⟩ := h
    rw [List.map_cons, List.map_cons]
    by_cases e : i = j
    · subst e
      rw [if_pos rfl, if_pos rfl]
      exact ⟨i, v, _, rfl, rfl, hd, DtQ.repl hd h2⟩
    · have e' : ¬ keyT (.tup (i.map kD)) = keyT (.tup (j.map kD)) := by rw [keyT_kD, keyT_kD]; exact fun z => e (Option.some.inj z)
      rw [if_neg e', if_neg e]
      exact ⟨i, w, _, rfl, rfl, h1, DtQ.repl hd h2⟩
theorem DtQ.put {j : List Key} {d : D} {v : V} {es : List (D × D)} {kvs : List (List Key × V)} (h : DtQ K G H true es kvs) (hd : Dt K G H d v) : DtQ K G H true (putQ es (.tup (j.map kD)) d) (putK kvs j v) := by
  unfold putQ putK
  rw [h.any (j := j)]
  split
  · exact h.repl hd
  · exact h.app ⟨j, v, [], rfl, rfl, hd, rfl, rfl⟩
theorem DtQ.len : ∀ {es : List (D × D)} {kvs : List (List Key × V)} {t : Bool}, DtQ K G H t es kvs → es.length = kvs.length
  | [], _, _, h => by rw [h.1]; rfl
  | (k, d) :: es, _, _, h => by
    obtain ⟨j, v, r, rfl, _, _, h2⟩ := h
    simp [DtQ.len h2]
theorem OwP.of : ∀ {es : List (D × D)} {kvs : List (Key × V)}, DtP K G H false es kvs → OwP K G H false (es.map dE) kvs []
  | [], _, h => ⟨h.1, h.2, rfl⟩
  | (k, d) :: es, _, h => by
    obtain ⟨j, v, r, rfl, rfl, h1, h2⟩ := h
    exact ⟨j, v, r, [], [], rfl, rfl, ⟨rfl, h1⟩, OwP.of h2, rfl⟩
theorem OwP.to : ∀ {es : List (D × D)} {kvs : List (Key × V)} {M : List Addr}, OwP K G H false (es.map dE) kvs M → M = [] ∧ DtP K G H false es kvs
  | [], _, _, h => ⟨h.2.2, h.1, h.2.1⟩
  | (k, d) :: es, _, _, h => by
    obtain ⟨j, v, r, M, N, rfl, rfl, h1, h2, rfl⟩ := h
    obtain ⟨rfl, h3⟩ := OwP.to h2
    exact ⟨by rw [h1.1]; rfl, j, v, r, rfl, rfl, h1.2, h3⟩
theorem OwQ.of : ∀ {es : List (D × D)} {kvs : List (List Key × V)}, DtQ K G H true es kvs → OwQ K G H true (es.map dE) kvs []
  | [], _, h => ⟨h.1, h.2, rfl⟩
  | (k, d) :: es, _, h => by
    obtain ⟨j, v, r, rfl, rfl, h1, h2⟩ := h
    exact ⟨j, v, r, [], [], rfl, rfl, ⟨rfl, h1⟩, OwQ.of h2, rfl⟩
theorem OwQ.to : ∀ {es : List (D × D)} {kvs : List (List Key × V)} {M : List Addr}, OwQ K G H true (es.map dE) kvs M → M = [] ∧ DtQ K G H true es kvs
  | [], _, _, h => ⟨h.2.2, h.1, h.2.1⟩
  | (k, d) :: es, _, _, h => by
    obtain ⟨j, v, r, M, N, rfl, rfl, h1, h2, rfl⟩ := h
    obtain ⟨rfl, h3⟩ := OwQ.to h2
    exact ⟨by rw [h1.1]; rfl, j, v, r, rfl, rfl, h1.2, h3⟩
theorem OwP.kind {b : Bool} : ∀ {es : List (D × Tr)} {kvs : List (Key × V)} {M : List Addr}, OwP K G H b es kvs M → b = false
  | [], _, _, h => h.2.1
  | (k, d) :: es, _, _, h => by
    obtain ⟨j, v, r, M, N, rfl, rfl, h1, h2, rfl⟩ := h
    exact OwP.kind h2
theorem OwQ.kind {b : Bool} : ∀ {es : List (D × Tr)} {kvs : List (List Key × V)} {M : List Addr}, OwQ K G H b es kvs M → b = true
  | [], _, _, h => h.2.1
  | (k, d) :: es, _, _, h => by
    obtain ⟨j, v, r, M, N, rfl, rfl, h1, h2, rfl⟩ := h
    exact OwQ.kind h2
theorem ow_K {es : List (D × Tr)} {v : V} {L : List Addr} (h : Ow K G H (.m false es) v L) : ∃ p kvs M, v = .ref p ∧ G.own p ∧ H p = some (.dK kvs) ∧ OwP K G H false es kvs M ∧ L = p :: M := by
  obtain ⟨p, M, rfl, o, z, rfl⟩ := h
  rcases z with ⟨kvs, h1, h2⟩ | ⟨kvs, h1, h2⟩
  · exact ⟨p, kvs, M, rfl, o, h1, h2, rfl⟩
  · cases h2.kind
theorem ow_Q {es : List (D × Tr)} {v : V} {L : List Addr} (h : Ow K G H (.m true es) v L) : ∃ p kvs M, v = .ref p ∧ G.own p ∧ H p = some (.dT kvs) ∧ OwQ K G H true es kvs M ∧ L = p :: M := by
  obtain ⟨p, M, rfl, o, z, rfl⟩ := h
  rcases z with ⟨kvs, h1, h2⟩ | ⟨kvs, h1, h2⟩
  · cases h2.kind
  · exact ⟨p, kvs, M, rfl, o, h1, h2, rfl⟩
end
/-- x[k] = v, x an owned dict of data -/
def dputK (i : Nat) (tk tv : TD) : TSD := fun k ρ => ∃ es, ρ[i]? = some (.tr (.m false (es.map dE))) ∧ tv ρ fun d => tk ρ fun y => (keyD y).isSome ∧ es.length < sizeLine ∧ k.nx (ρ.set i (.tr (.m false ((putD es y d).map dE))))
section
variable {X : Cx} {F : Fr} {e f : Expr} {tk tv : TD} {pos px tpos : Pos} {x : Str}
theorem s_dputK {n : Nat} (i : Nat) (hr : Room n X.A) (hv : PE X e (lift F tv)) (hk : PE X f (lift F tk)) (hN : X.N[i]? = some x := by rfl) (hvi : Vis X.env.scope x := by first | exact Or.inl rfl | exact Or.inr (Or.inl rfl) | exact Or.inr (Or.inr rfl)) (hd : (x == ("__debug__" : Str)) = false := by decide)
    (hcd : (x == ("__classdict__" : Str)) = false := by decide) (hs : swapsWith e (some (.Subscript (.Name x px) f tpos)) pos.line X.env = pure false := by rfl) :
    PS X (.Assign [.Subscript (.Name x px) f tpos] e pos) (liftS F (dputK i tk tv)) := by
  refine ps_imp (ps_dput (by have := u150 hr; omega) (pe_var hN hvi hd hcd) hk hv hs) fun E σ H ⟨G, ρ, k, r, ⟨es, hi, h⟩, o⟩ => ?_
  refine ⟨G, ρ, _, r, h, fun d vd H1 h1 x1 d1 => ?_⟩
  have r1 := r.step x1
  obtain ⟨u, B, e1, _⟩ := r1.chg hi
  refine ⟨u, e1, G, ρ, _, r1, h1, fun y vy H2 ⟨hky, hz, hk⟩ x2 d2 => ?_⟩
  have r2 := r1.step x2
  obtain ⟨v', B', e1', ow, nB, _, ch⟩ := r2.chg hi
  rw [e1] at e1'
  cases e1'
  obtain ⟨p, kvs, M, rfl, op, hp, hq, rfl⟩ := ow_K ow
  obtain ⟨rfl, hdp⟩ := hq.to
  obtain ⟨j, hj⟩ := Option.isSome_iff_exists.mp hky
  obtain rfl := keyD_kV hj d2
  obtain rfl := keyD_inv hj
  refine ⟨p, _, rfl, DPut.k hp (by rw [← hdp.len]; exact hz), ?_⟩
  have ev : Evo G G H2 (upd H2 p (.dK (putK kvs j vd))) := ⟨fun a u n h => .inl (by rw [upd_ne (fun z => n (by rw [z]; exact op))]; exact h), r2.tr, fun _ n _ => n, rfl, rfl⟩
  exact o.nx _ G σ _ hk (ch p _ _ List.mem_cons_self True.intro ⟨p, [], rfl, op, .inl ⟨_, upd_same, OwP.of ((ev.dtp _ _ _ hdp).put (ev.dt _ _ ((r1.evo x2).dt _ _ d1)))⟩, rfl⟩)
end
/-- {} of its own -/
def emptyR : TRD := fun _ k => k (.m true []) ∨ k (.m false [])
section
variable {X : Cx} {F : Fr} {pos : Pos}
theorem r_dictE : PE X (.Dict [] [] pos) (liftR F emptyR) := by
  refine pe_imp (pe_or pe_dnewT pe_dnewK) fun σ H Q ⟨G, ρ, k, r, h, q⟩ => ?_
  rcases h with h | h
  · refine .inl fun p hp => ?_
    exact q _ (.ref p) [p] _ h (Ext.new r.bag hp) (fun a ha => by rw [List.mem_singleton.mp ha]; exact hp) (by simp) ⟨p, [], rfl, .inr List.mem_cons_self, .inr ⟨[], upd_same, rfl, rfl, rfl⟩, rfl⟩
  · refine .inr fun p hp => ?_
    exact q _ (.ref p) [p] _ h (Ext.new r.bag hp) (fun a ha => by rw [List.mem_singleton.mp ha]; exact hp) (by simp) ⟨p, [], rfl, .inr List.mem_cons_self, .inl ⟨[], upd_same, rfl, rfl, rfl⟩, rfl⟩
end
end DL

set_option Elab.async false
set_option linter.all false
set_option maxRecDepth 100000
set_option maxHeartbeats 4000000
namespace DL
open PySem PySem.Spec PyProof.Rows L2
/-! ### a dict display with tuple keys -/
def OwKV (K : PySem.W.Frag) (G : Gh) (H : Hp) : List (D × Tr) → List (V × V) → List Addr → Prop
  | [], ps, L => ps = [] ∧ L = []
  | (k, t) :: es, ps, L => ∃ (j : List Key) (b : Addr) (v : V) (r : List (V × V)) (M N : List Addr), ps = (.ref b, v) :: r ∧ k = .tup (j.map kD) ∧ H b = some (.tup (j.map kV)) ∧ Ow K G H t v M ∧ OwKV K G H es r N ∧ L = M ++ N
theorem OwKV.own {K : PySem.W.Frag} {G : Gh} {H : Hp} : ∀ {es : List (D × Tr)} {ps : List (V × V)} {L : List Addr}, OwKV K G H es ps L → ∀ p ∈ L, G.own p ∧ H p ≠ none ∧ Mut (H p)
  | [], _, _, h, p, hp => by rw [h.2] at hp; cases hp
  | (k, t) :: es, _, _, h, p, hp => by
    obtain ⟨j, b, v, r, M, N, rfl, _, _, h1, h2, rfl⟩ := h
    rcases List.mem_append.mp hp with hp | hp
    · exact ⟨(Ow.own t v M h1 p hp).1, (Ow.own t v M h1 p hp).2, Ow.mut t v M h1 p hp⟩
    · exact OwKV.own h2 p hp
abbrev TQD := List Sl → (List (D × Tr) → Prop) → Prop
def liftQ (F : Fr) (T : TQD) : L2.St → Hp → (List (V × V) → Hp → Prop) → Prop := fun σ H Q => ∃ G ρ k, Rel F G H σ ρ ∧ T ρ k ∧ ∀ es ps R H', k es → Ext G H H' → (∀ p ∈ R, H p = none) → R.Nodup → OwKV F.K (G.adds R) H' es ps R → Q ps H'
structure PQs (X : Cx) (pos : Pos) (keys : List (Option Expr)) (values : List Expr) (t : L2.St → Hp → (List (V × V) → Hp → Prop) → Prop) : Prop where
  run : ∀ (pins : List (Addr × Obj)) (s : Shared) (σ : L2.St) (H : Hp) (Q : List (V × V) → Hp → Prop), Inv X pins σ H s → t σ H Q →
    wpAny (model X.prog X.w) X.A (evalPairs (pairTrees keys values X.env pos)) (fun vs s' => ∃ ps H', Inv X pins σ H' s' ∧ VV ps vs ∧ Q ps H') X.xe s
def qNil : TQD := fun _ k => k []
def qCons (ta : TLD) (tv : TRD) (u : TQD) : TQD := fun ρ k => ta ρ fun ds => ds.length ≤ sizeLine ∧ (keysD ds).isSome ∧ tv ρ fun t => u ρ fun es => k ((.tup ds, t) :: es)
section
variable {X : Cx} {F : Fr} {pos tpos : Pos} {es : List Expr} {v : Expr} {ks : List (Option Expr)} {vs : List Expr} {ta : TLD} {tv : TRD} {u : TQD}
theorem q_nil : PQs X pos [] [] (liftQ F qNil) := ⟨fun pins s σ H Q I ⟨G, ρ, k, r, h, q⟩ => pairTrees_nil_walk ⟨[], H, I, .nil, q [] [] [] H h (.refl r.bag) (fun _ z => nomatch z) List.nodup_nil ⟨rfl, rfl⟩⟩⟩
theorem q_cons {kk : Nat} (hk : PA X es (liftA F ta)) (hv : PE X v (liftR F tv)) (hr : PQs X pos ks vs (liftQ F u)) : PQs X pos (some (.Tuple es kk tpos) :: ks) (v :: vs) (liftQ F (qCons ta tv u)) := by
  refine ⟨fun pins s σ H Q I ⟨G, ρ, k, r, h, q⟩ => ?_⟩
  refine pairTrees_cons_walk (thn ((pe_tup hk).run pins s σ H (fun x H1 => liftR F tv σ H1 fun y H2 => liftQ F u σ H2 fun ps H3 => Q ((x, y) :: ps) H3) I ?_) fun uk s1 ⟨x, H1, I1, rx, q1⟩ => thn (hv.run pins s1 σ H1 _ I1 q1) fun uv s2 ⟨y, H2, I2, ry, q2⟩ => thn (hr.run pins s2 σ H2 _ I2 q2) fun ws s3 ⟨ps, H3, I3, rel, q3⟩ => ⟨(x, y) :: ps, H3, I3, .cons ⟨rx, ry⟩ rel, q3⟩)
  refine ⟨G, ρ, _, r, h, fun ds xs H1 ⟨hz, hj, h1⟩ x1 d1 => ⟨by rw [← d1.len]; exact hz, fun b hb => ?_⟩⟩
  have ra := r.step x1
  have xb : Ext G H1 (upd H1 b (.tup xs)) := Ext.new ra.bag hb
  have rb := ra.step xb
  obtain ⟨j, hj⟩ := Option.isSome_iff_exists.mp hj
  obtain rfl := keysD_inv hj
  obtain rfl := dtl_kV d1
  refine ⟨G, ρ, _, rb, h1, fun t y R H2 h2 x2 hR nR o2 => ?_⟩
  have own2 := Ow.own t y R o2
  have rc := rb.grows x2 hR fun p hp => Ow.mut t y R o2 p hp
  refine ⟨G.adds R, ρ, _, rc, h2, fun es ps S H3 h3 x3 hS nS o3 => ?_⟩
  have dj : ∀ p ∈ R, p ∉ S := fun p hp z => (own2 p hp).2 (hS p z)
  have e12 := (x1.trans xb).trans x2
  have e13 : Ext G H H3 := e12.trans (Ext.cg (G := G.adds R) (G' := G) rfl rfl (fun _ h => .inl h) x3)
  have nb : b ≠ G.bg := fun z => by
    have := ra.bag.ne
    rw [← z] at this
    exact this hb
  refine q ((.tup (j.map kD), t) :: es) ((.ref b, y) :: ps) (R ++ S) H3 h3 e13 (fun p hp => ?_) (List.nodup_append.mpr ⟨nR, nS, fun a ha b hb z => dj a ha (z ▸ hb)⟩) ?_
  · rcases List.mem_append.mp hp with z | z
    · exact (x1.trans xb).free r.bag (hR p z)
    · exact e12.free r.bag (hS p z)
  · rw [Gh.adds_adds] at o3
    have ev := rb.evoAdds x2 hR
    have ev3 := rc.evoAdds x3 hS
    rw [Gh.adds_adds] at ev3
    have hb2 : H2 b = some (.tup (j.map kV)) := x2.plain nb upd_same fun z => z
    have hb3 : H3 b = some (.tup (j.map kV)) := x3.plain (G := G.adds R) nb hb2 fun z => z
    refine ⟨j, b, y, ps, R, S, rfl, rfl, hb3, Ow.evo ev3 t y R (fun p hp => ⟨.inr (List.mem_append_left _ hp), ?_⟩) o2, o3, rfl⟩
    have np : p ≠ G.bg := fun z => by
      have := rb.bag.ne
      rw [← z] at this
      exact this (hR p hp)
    cases w : H2 p with
    | none => exact absurd w (own2 p hp).2
    | some o => exact x3.mine (G := G.adds R) np w (.inr hp)
end
def mergeQ (kvs more : List (List Key × V)) : List (List Key × V) := more.foldl (fun acc kv => putK acc kv.1 kv.2) kvs
abbrev KVP (H : Hp) : List (List Key × V) → List (V × V) → Prop := Paired fun (kv : List Key × V) (q : V × V) => ∃ b, q.1 = .ref b ∧ H b = some (.tup (kv.1.map kV)) ∧ q.2 = kv.2
theorem carriesH_of {X : Cx} {pins : List (Addr × Obj)} {σ : L2.St} {H : Hp} {s : Shared} (I : Inv X pins σ H s) : ∀ {kvs : List (List Key × V)} {ps : List (V × V)} {vs : List (Value × Value)}, KVP H kvs ps → VV ps vs →
    ∃ xs : List (List Key × Addr × Value), CarriesH (tupleKind (mixKind X.prog X.w)) s.heap vs xs ∧ KT H kvs xs
  | _, _, _, .nil, .nil => ⟨[], True.intro, .nil⟩
  | _, _, _, .cons (a := kv) (b := q) h t, .cons (b := w) h' t' => by
    obtain ⟨xs, c, r⟩ := carriesH_of I t t'
    obtain ⟨b, e1, e2, e3⟩ := h
    obtain ⟨r1, r2⟩ := h'
    rw [e1] at r1
    have r1 : w.1 = Value.ref b := r1
    exact ⟨(kv.1, b, w.2) :: xs, ⟨r1, rfl, key_of I.hok e2, c⟩, .cons ⟨rfl, e2, e3 ▸ r2⟩ r⟩
theorem KT.merge {H : Hp} {kvs : List (List Key × V)} {xs : List (List Key × Addr × Value)} (h : KT H kvs xs) : ∀ {acc : List (List Key × V)} {ys : List (List Key × Addr × Value)}, KT H acc ys → KT H (mergeQ acc kvs) (storedAllH ys xs) := by
  induction h with
  | nil => exact fun h => h
  | @cons p q ps qs h t ih =>
    intro acc ys h'
    obtain ⟨h1, h2, h3⟩ := h
    have w : KT H (putK acc p.1 p.2) (storedH ys q.1 q.2.1 q.2.2) := by
      rw [← h1]
      exact h'.put p.1 h2 h3
    exact ih w
theorem length_mergeQ : ∀ (more kvs : List (List Key × V)), (mergeQ kvs more).length ≤ kvs.length + more.length
  | [], kvs => by show kvs.length ≤ kvs.length + 0; omega
  | p :: r, kvs => by
    have h1 := length_mergeQ r (putK kvs p.1 p.2)
    have h2 := length_putK kvs p.1 p.2
    show (mergeQ (putK kvs p.1 p.2) r).length ≤ _
    rw [List.length_cons]; omega
theorem pe_dispT {X : Cx} {pos : Pos} {keys : List (Option Expr)} {values : List Expr} {t : L2.St → Hp → (List (V × V) → Hp → Prop) → Prop} (hu : X.A.units < cLine) (h : PQs X pos keys values t) (hall : keys.all (·.isSome) = true) (hl : keys.length = values.length) (h0 : keys ≠ [])
    (h15 : keys.length ≤ 15) : PE X (.Dict keys values pos) (fun σ H Q => ∀ p, H p = none → t σ (upd H p (.dT [])) fun ps H2 => H2 p = some (.dT []) ∧ ∃ kvs, KVP H2 kvs ps ∧ kvs.length ≤ 15 ∧ Q (.ref p) (upd H2 p (.dT (mergeQ [] kvs)))) := by
  refine ⟨fun pins s σ H Q I q => ?_⟩
  have hn := I.hok.fresh (Nat.le_refl s.heap.objs.size)
  have I1 := I.laid (a := s.heap.objs.size) (o := .dT []) (h' := s.heap.push { cls := .type "dict", data := .dict #[] }) (t' := s.toks) (fun _ _ q => Heap.get?_push_of_some _ q) (Nat.le_refl _) (dt_empty s.heap I.big)
  have hpl := pairTrees_length keys values X.env pos hall hl
  rw [arm_eval_Dict, zip_pairTrees keys values X.env pos hall hl, dictDisplay_pairs (pairTrees keys values X.env pos) (fun he => by rw [he] at hpl; exact h0 (List.length_eq_zero_iff.mp hpl.symm)) (by omega)]
  refine wpAny_bind (wpAny_standAt (wpAny_bind (wpAny_subDictH (knd := tupleKind (mixKind X.prog X.w)) hu (by omega) (thn (h.run pins _ σ _ _ I1 (q _ hn)) fun ws s2 ⟨ps, H2, I2, rel, e, kvs, kp, lk, q2⟩ => ?_))))
  obtain ⟨xs, c, rk⟩ := carriesH_of I2 kp rel
  obtain ⟨z, hd, xs0, r0, dd⟩ := dt_of I2.hok e
  cases r0
  refine ⟨xs, c, dd, fun h' tk dd' hs => wpAny_pure ⟨.ref s.heap.objs.size, _, ?_, rfl, q2⟩⟩
  have hz : (mergeQ [] kvs).length ≤ sizeLine := by
    have h1 := length_mergeQ kvs []
    rw [List.length_nil] at h1
    rw [sizeLine_eq]; omega
  obtain ⟨qo, es, ep, hq, h2, h3, h4, _, h5⟩ := dd'
  refine d_write I2 (by rw [e]; exact True.intro) hs ⟨qo, hq⟩ ⟨hz, hd, _, (KT.merge rk .nil).keeps fun c ys ec => ?_, qo, es, ep, hq, h2, h3, h4, h5⟩
  rw [upd_ne (fun z => by rw [z, e] at ec; cases ec)]
  exact ec
theorem OwKV.kvp {K : PySem.W.Frag} {G : Gh} {H : Hp} : ∀ {es : List (D × Tr)} {ps : List (V × V)} {L : List Addr}, OwKV K G H es ps L → ∃ kvs, KVP H kvs ps ∧ OwQ K G H true es kvs L ∧ kvs.length = es.length
  | [], _, _, h => by
    obtain ⟨rfl, rfl⟩ := h
    exact ⟨[], .nil, ⟨rfl, rfl, rfl⟩, rfl⟩
  | (k, t) :: es, _, _, h => by
    obtain ⟨j, b, v, r, M, N, rfl, rfl, hb, h1, h2, rfl⟩ := h
    obtain ⟨kvs, k1, k2, k3⟩ := OwKV.kvp h2
    exact ⟨(j, v) :: kvs, .cons ⟨b, rfl, hb, rfl⟩ k1, ⟨j, v, kvs, M, N, rfl, rfl, h1, k2, rfl⟩, by simp [k3]⟩
theorem OwQ.keys {K : PySem.W.Frag} {G : Gh} {H : Hp} : ∀ {es : List (D × Tr)} {kvs : List (List Key × V)} {L : List Addr}, OwQ K G H true es kvs L → es.map (fun e => keyT e.1) = kvs.map (fun kv => some kv.1)
  | [], _, _, h => by rw [h.1]; rfl
  | (k, t) :: es, _, _, h => by
    obtain ⟨j, v, r, M, N, rfl, rfl, h1, h2, rfl⟩ := h
    rw [List.map_cons, List.map_cons, OwQ.keys h2, keyT_kD]
theorem putK_new {kvs : List (List Key × V)} {j : List Key} {v : V} (h : j ∉ kvs.map (·.1)) : putK kvs j v = kvs ++ [(j, v)] := by
  unfold putK
  rw [if_neg]
  intro z
  obtain ⟨kv, h1, h2⟩ := List.any_eq_true.mp z
  exact h (List.mem_map.mpr ⟨kv, h1, by simpa using h2⟩)
theorem mergeQ_new : ∀ {more kvs : List (List Key × V)}, ((kvs ++ more).map (·.1)).Nodup → mergeQ kvs more = kvs ++ more
  | [], kvs, _ => by simp [mergeQ]
  | p :: r, kvs, h => by
    have hp : p.1 ∉ kvs.map (·.1) := fun z => by
      rw [List.map_append, List.nodup_append] at h
      exact h.2.2 p.1 z p.1 (by simp) rfl
    show mergeQ (putK kvs p.1 p.2) r = _
    rw [putK_new hp, mergeQ_new (by simpa using h)]
    simp
def dispQ (u : TQD) : TRD := fun ρ k => u ρ fun es => (es.map fun e => keyT e.1).Nodup ∧ es.length ≤ 15 ∧ k (.m true es)
section
variable {X : Cx} {F : Fr} {pos : Pos} {keys : List (Option Expr)} {values : List Expr} {u : TQD}
theorem r_dispQ {n : Nat} (hr : Room n X.A) (h : PQs X pos keys values (liftQ F u)) (hall : keys.all (·.isSome) = true := by rfl) (hl : keys.length = values.length := by rfl) (h0 : keys ≠ [] := by simp)
    (h15 : keys.length ≤ 15 := by decide) : PE X (.Dict keys values pos) (liftR F (dispQ u)) := by
  refine pe_imp (pe_dispT (by have := u150 hr; omega) h hall hl h0 h15) fun σ H Q ⟨G, ρ, k, r, w, q⟩ => fun p hp => ?_
  have e1 : Ext G H (upd H p (.dT [])) := Ext.new r.bag hp
  have r1 : Rel F (G.add p) (upd H p (.dT [])) σ ρ := r.grow e1 hp (by rw [upd_same]; exact True.intro)
  refine ⟨_, ρ, _, r1, w, fun es ps R H2 ⟨hn, hlen, hk⟩ e2 hR nR ow => ?_⟩
  have np : p ≠ G.bg := fun z => r.free hp (by rw [z]; exact r.obg)
  have hp2 : H2 p = some (.dT []) := e2.mine np upd_same (.inr rfl)
  have pR : p ∉ R := fun z => by
    have := hR p z
    rw [upd_same] at this
    cases this
  obtain ⟨kvs, k1, k2, k3⟩ := ow.kvp
  refine ⟨hp2, kvs, k1, by omega, ?_⟩
  have nd : (kvs.map (·.1)).Nodup := by
    have z := k2.keys
    rw [z] at hn
    have : (kvs.map fun kv => some kv.1) = (kvs.map (·.1)).map some := by rw [List.map_map]; rfl
    rw [this] at hn
    exact List.Pairwise.of_map _ (fun a b h z => h (by rw [z])) hn
  rw [mergeQ_new (kvs := []) (by simpa using nd), List.nil_append]
  have r2 := r1.grows e2 hR fun a ha => (ow.own a ha).2.2
  have e3 : (G.add p).adds R = G.adds (p :: R) := by
    unfold Gh.add Gh.adds
    congr 1
    funext a
    simp [or_assoc]
  rw [e3] at r2 k2
  have ex : Ext G H (upd H2 p (.dT kvs)) := by
    refine ⟨fun a o n h => ?_, ?_⟩
    · have na : a ≠ p := fun z => by rw [z, hp] at h; cases h
      rw [upd_ne na]
      exact ((e1.trans (Ext.cg (G := G.add p) (G' := G) rfl rfl (fun _ h => .inl h) e2)).keep a o n h)
    · exact (show BagOk H2 G.bg G.bi from e2.bag).offl hp2 True.intro
  have ev : Evo (G.adds (p :: R)) (G.adds (p :: R)) H2 (upd H2 p (.dT kvs)) := ⟨fun a o n h => .inl (by rw [upd_ne (fun z => n (.inr (by rw [z]; exact List.mem_cons_self)))]; exact h), r2.tr, fun a n _ => n, rfl, rfl⟩
  refine q (.m true es) (.ref p) (p :: R) _ hk ex (fun a ha => ?_) (List.nodup_cons.mpr ⟨pR, nR⟩) ⟨p, R, rfl, .inr List.mem_cons_self, .inr ⟨kvs, upd_same, ?_⟩, rfl⟩
  · rcases List.mem_cons.mp ha with rfl | ha
    · exact hp
    · exact e1.free r.bag (hR a ha)
  · exact Ow.evoQ ev true es kvs R (fun a ha => ⟨.inr (List.mem_cons_of_mem _ ha), upd_ne fun z => pR (z ▸ ha)⟩) k2
end
end DL

set_option Elab.async false
set_option linter.all false
set_option maxRecDepth 100000
set_option maxHeartbeats 4000000
namespace DL
open PySem PySem.Spec PyProof.Rows L2
/-! ### x[(..)][(..)] = v -/
def valE : List (D × Tr) → List Key → Option Tr
  | [], _ => none
  | (k, t) :: es, j => if keyT k = some j then some t else valE es j
def setE : List (D × Tr) → List Key → Tr → List (D × Tr)
  | [], _, _ => []
  | (k, t) :: es, j, u => if keyT k = some j then (k, u) :: es else (k, t) :: setE es j u
theorem OwQ.at {K : PySem.W.Frag} {G : Gh} {H : Hp} {j : List Key} {t : Tr} : ∀ {es : List (D × Tr)} {kvs : List (List Key × V)} {M : List Addr}, OwQ K G H true es kvs M → valE es j = some t → ∃ v A B C, valV kvs j = some v ∧ M = A ++ (B ++ C) ∧ Ow K G H t v B ∧
    ∀ (G' : Gh) (H' : Hp) (t' : Tr), (∀ u w L, (∀ p ∈ L, p ∈ A ∨ p ∈ C) → Ow K G H u w L → Ow K G' H' u w L) → Ow K G' H' t' v B → OwQ K G' H' true (setE es j t') kvs M
  | [], _, _, h, e => by cases e
  | (k, u) :: es, _, _, h, e => by
    obtain ⟨i, v, r, M, N, rfl, rfl, h1, h2, rfl⟩ := h
    unfold valE at e
    by_cases z : i = j
    · subst z
      rw [if_pos (keyT_kD i)] at e
      cases e
      refine ⟨v, [], M, N, valV_pos rfl, rfl, h1, fun G' H' t' g h' => ?_⟩
      unfold setE
      rw [if_pos (keyT_kD i)]
      have rest : ∀ {es : List (D × Tr)} {kvs : List (List Key × V)} {N' : List Addr}, (∀ p ∈ N', p ∈ N) → OwQ K G H true es kvs N' → OwQ K G' H' true es kvs N' := by
        intro es
        induction es with
        | nil => intro kvs N' _ h; exact h
        | cons a es ih =>
          intro kvs N' s h
          obtain ⟨i, v, r, M, N1, rfl, e, h1, h2, rfl⟩ := h
          exact ⟨i, v, r, M, N1, rfl, e, g _ _ _ (fun p hp => .inr (s p (List.mem_append_left _ hp))) h1, ih (fun p hp => s p (List.mem_append_right _ hp)) h2, rfl⟩
      exact ⟨i, v, r, M, N, rfl, rfl, h', rest (fun _ h => h) h2, rfl⟩
    · have n : ¬ keyT (.tup (i.map kD)) = some j := by rw [keyT_kD]; exact fun q => z (Option.some.inj q)
      rw [if_neg n] at e
      obtain ⟨w, A, B, C, e1, rfl, e3, e4⟩ := OwQ.at h2 e
      refine ⟨w, M ++ A, B, C, by rw [valV_neg (p := (i, v)) z]; exact e1, by rw [List.append_assoc], e3, fun G' H' t' g h' => ?_⟩
      unfold setE
      rw [if_neg n]
      exact ⟨i, v, r, M, A ++ (B ++ C), rfl, rfl, g _ _ _ (fun p hp => .inl (List.mem_append_left _ hp)) h1, e4 G' H' t' (fun u w L s => g u w L fun p hp => (s p hp).imp (List.mem_append_right _) _root_.id) h', rfl⟩
def dput2 (i : Nat) (ta tb : TLD) (tv : TD) : TSD := fun k ρ => ∃ es, ρ[i]? = some (.tr (.m true es)) ∧ tv ρ fun d => ta ρ fun as => as.length ≤ sizeLine ∧ ∃ ja fs, keysD as = some ja ∧ valE es ja = some (.m true (fs.map dE)) ∧ fs.length < sizeLine ∧
  tb ρ fun bs => bs.length ≤ sizeLine ∧ (keysD bs).isSome ∧ k.nx (ρ.set i (.tr (.m true (setE es ja (.m true ((putQ fs (.tup bs) d).map dE))))))
section
variable {X : Cx} {F : Fr} {e : Expr} {as bs : List Expr} {ta tb : TLD} {tv : TD} {pos px ipos tpos pa pb : Pos} {x : Str} {ka kb : Nat}
theorem s_dput2 {n : Nat} (i : Nat) (hr : Room n X.A) (hv : PE X e (lift F tv)) (ha : PA X as (liftA F ta)) (hb : PA X bs (liftA F tb)) (hN : X.N[i]? = some x := by rfl) (hvi : Vis X.env.scope x := by first | exact Or.inl rfl | exact Or.inr (Or.inl rfl) | exact Or.inr (Or.inr rfl)) (hd : (x == ("__debug__" : Str)) = false := by decide)
    (hcd : (x == ("__classdict__" : Str)) = false := by decide) (hsl : NoSl (.Tuple as ka pa) := by intro _ _; rfl)
    (hs : swapsWith e (some (.Subscript (.Subscript (.Name x px) (.Tuple as ka pa) ipos) (.Tuple bs kb pb) tpos)) pos.line X.env = pure false := by rfl) :
    PS X (.Assign [.Subscript (.Subscript (.Name x px) (.Tuple as ka pa) ipos) (.Tuple bs kb pb) tpos] e pos) (liftS F (dput2 i ta tb tv)) := by
  have hu : X.A.units + 1 < cLine := by have := u150 hr; omega
  refine ps_imp (ps_dput hu (pe_dget hu (pe_var hN hvi hd hcd) (pe_tup ha) hsl) (pe_tup hb) hv hs) fun E σ H ⟨G, ρ, k, r, ⟨es, hi, h⟩, o⟩ => ?_
  refine ⟨G, ρ, _, r, h, fun d vd H1 h1 x1 d1 => ?_⟩
  have r1 := r.step x1
  obtain ⟨u, B, e1, _⟩ := r1.chg hi
  refine ⟨u, e1, G, ρ, _, r1, h1, fun xs vs H2 ⟨hz, ja, fs, hja, hva, hfs, h2⟩ x2 d2 => ⟨by rw [← d2.len]; exact hz, fun b hb => ?_⟩⟩
  obtain rfl := keysD_inv hja
  obtain rfl := dtl_kV d2
  have r2 := r1.step x2
  have xb : Ext G H2 (upd H2 b (.tup (ja.map kV))) := Ext.new r2.bag hb
  have rb := r2.step xb
  obtain ⟨v', B', e1', ow, nB, _, ch⟩ := rb.chg hi
  rw [e1] at e1'
  cases e1'
  obtain ⟨p, kvs, M, rfl, op, hp, hq, rfl⟩ := ow_Q ow
  obtain ⟨w, A, B2, C, w1, w2, w3, w4⟩ := hq.at hva
  refine ⟨p, w, rfl, w1 ▸ DGet.t hp upd_same, G, ρ, _, rb, h2, fun ys us H3 ⟨hz3, hj3, hk⟩ x3 d3 => ⟨by rw [← d3.len]; exact hz3, fun c hc => ?_⟩⟩
  obtain ⟨jb, hjb⟩ := Option.isSome_iff_exists.mp hj3
  obtain rfl := keysD_inv hjb
  obtain rfl := dtl_kV d3
  have r3 := rb.step x3
  have xc : Ext G H3 (upd H3 c (.tup (jb.map kV))) := Ext.new r3.bag hc
  have r4 := r3.step xc
  have x34 := x3.trans xc
  have npb : p ≠ G.bg := fun z => by
    obtain ⟨x, y, zz, ns, q1, _⟩ := rb.bag
    rw [← z, hp] at q1
    cases q1
  have hp4 : upd H3 c (.tup (jb.map kV)) p = some (.dT kvs) := x34.mine npb hp op
  obtain ⟨v', B', e1', ow, nB, _, ch⟩ := r4.chg hi
  rw [e1] at e1'
  cases e1'
  obtain ⟨p', kvs', M, e, op, hp', hq, rfl⟩ := ow_Q ow
  cases e
  rw [hp4] at hp'
  cases hp'
  obtain ⟨w', A, B2, C, w1', rfl, w3, w4⟩ := hq.at hva
  rw [w1] at w1'
  cases w1'
  obtain ⟨p2, kvs2, M2, rfl, op2, hp2, hq2, rfl⟩ := ow_Q w3
  obtain ⟨rfl, hdq⟩ := hq2.to
  refine ⟨p2, _, rfl, DPut.t hp2 upd_same (by rw [← hdq.len]; exact hfs), ?_⟩
  have hn := List.nodup_cons.mp nB
  have np : p ≠ p2 := fun z => hn.1 (by rw [z]; simp)
  obtain ⟨_, _, nd⟩ := nodup_mid hn.2
  have nd2 := nd p2 (by simp)
  have ev : Evo G G (upd H3 c (.tup (jb.map kV))) (upd (upd H3 c (.tup (jb.map kV))) p2 (.dT (putK kvs2 jb vd))) := ⟨fun a u n h => .inl (by rw [upd_ne (fun z => n (by rw [z]; exact op2))]; exact h), r4.tr, fun _ n _ => n, rfl, rfl⟩
  have dv := (r1.evo ((x2.trans xb).trans x34)).dt _ _ d1
  refine o.nx _ G σ _ hk (ch p2 _ _ (by simp) True.intro ⟨p, _, rfl, op, .inr ⟨kvs, by rw [upd_ne np]; exact hp4, w4 _ _ _ (fun u w L s hw => ?_) ?_⟩, rfl⟩)
  · exact Ow.evo ev u w L (fun q hq => ⟨(Ow.own u w L hw q hq).1, upd_ne fun z => (s q hq).elim (z ▸ nd2.1) (z ▸ nd2.2)⟩) hw
  · exact ⟨p2, [], rfl, op2, .inr ⟨_, upd_same, OwQ.of ((ev.dtq _ _ _ hdq).put (ev.dt _ _ dv))⟩, rfl⟩
end
end DL

set_option Elab.async false
set_option linter.all false
set_option maxRecDepth 100000
set_option maxHeartbeats 4000000
namespace DL
open PySem PySem.Spec PyProof.Rows L2
/-- x += e, ints -/
def augI (i : Nat) (te : TD) : TSD := fun k ρ => ∃ a, ρ[i]? = some (.dat (.int a)) ∧ te ρ fun d => ∃ b, d = .int b ∧ k.nx (ρ.set i (.dat (.int (a + b))))
/-- x[t], y = e -/
def parS (i : Nat) (tt : TD) (j : Nat) (te : TD) : TSD := fun k ρ => te ρ fun d => ∃ d1 d2, d = .tup [d1, d2] ∧ ∃ ts, ρ[i]? = some (.tr (.l ts)) ∧ tt ρ fun y => ∃ jj n c, y = .int jj ∧ ixN ts.length jj = some n ∧ ts[n]? = some (.d c) ∧ k.nx ((ρ.set i (.tr (.l (ts.set n (.d d1))))).set j (.dat d2))
section
variable {X : Cx} {F : Fr} {e t : Expr} {te tt : TD} {pos px py pt tpos : Pos} {x y : Str}
theorem s_augI {i : Nat} (hN : X.N.Nodup) (hi : X.N[i]? = some x) (hx : Loc X.env.scope x) (he : PE X e (lift F te)) (hf : X.fn x = true ∨ X.env.scope.names.lookup x = some .local := by first | exact .inl rfl | exact .inr rfl | assumption) : PS X (.AugAssign (.Name x px) .Add e pos) (liftS F (augI i te)) := by
  refine ps_imp (ps_aug hN hi hx he ip_add hf) fun E σ H ⟨G, ρ, k, r, ⟨a, hi, h⟩, o⟩ => ?_
  obtain ⟨u, L, e1, -, v, rfl, hv⟩ := r.at hi
  obtain rfl := hv
  refine ⟨_, e1, G, ρ, _, r, h, fun d w H1 ⟨b, hd, hk⟩ x1 d1 => ?_⟩
  subst hd
  obtain rfl := d1
  exact ⟨a, b, rfl, rfl, o.nx _ G _ H1 hk ((r.step x1).put (v := .int (a + b)) rfl)⟩
theorem s_parS (i : Nat) {j kt : Nat} (hc : X.calm = true) (he : PE X e (lift F te)) (ht : PE X t (lift F tt)) (hNd : X.N.Nodup) (hj : X.N[j]? = some y) (hy : Loc X.env.scope y) (hN : X.N[i]? = some x := by rfl) (hv : Vis X.env.scope x := by first | exact Or.inl rfl | exact Or.inr (Or.inl rfl) | exact Or.inr (Or.inr rfl)) (hd : (x == ("__debug__" : Str)) = false := by decide)
    (hcd : (x == ("__classdict__" : Str)) = false := by decide)
    (hsub : ∀ v, assign (.Subscript (.Name x px) t tpos) X.env v = (do
      let ov ← holding [v] (eval (.Name x px) X.env)
      let iv ← holding [v, ov] (eval t X.env)
      standAt tpos
      holding [v, ov, iv] (setItem ov iv v)
      release [v, ov, iv] []) := by intro _; rfl)
    (hs : swapsWithSole [.Tuple [.Subscript (.Name x px) t tpos, .Name y py] kt pt] e pos.line X.env = pure false := by rfl) (hw : swappedStores [.Tuple [.Subscript (.Name x px) t tpos, .Name y py] kt pt] e X.env = pure none := by rfl) (h1 : (assignEach [.Tuple [.Subscript (.Name x px) t tpos, .Name y py] kt pt] X.env).map (·.2) = [assign (.Tuple [.Subscript (.Name x px) t tpos, .Name y py] kt pt) X.env] := by rfl)
    (g1 : (assignEach [.Subscript (.Name x px) t tpos, .Name y py] X.env).map (·.2) = assign (.Subscript (.Name x px) t tpos) X.env :: (assignEach [.Name y py] X.env).map (·.2) := by rfl) (g2 : (assignEach [.Name y py] X.env).map (·.2) = assign (.Name y py) X.env :: (assignEach [] X.env).map (·.2) := by rfl)
    (g3 : (assignEach [.Subscript (.Name x px) t tpos, .Name y py] X.env).length = 2 := by rfl) (g4 : (assignEach [.Subscript (.Name x px) t tpos, .Name y py] X.env).findIdx? (·.1) = none := by rfl) (hf : X.fn y = true ∨ X.env.scope.names.lookup y = some .local := by first | exact .inl rfl | exact .inr rfl | assumption) (hK : X.K = F.K := by rfl) :
    PS X (.Assign [.Tuple [.Subscript (.Name x px) t tpos, .Name y py] kt pt] e pos) (liftS F (parS i tt j te)) := by
  refine ps_imp (ps_asg he (pg_tup hc (pgs_cons (pg_sub (pe_var hN hv hd hcd) ht set_list hsub) (pgs_cons (pg_name hNd hj hy hf) pgs_nil g2) g1) g3 g4) hs hw h1) fun E σ H ⟨G, ρ, k, r, h, o⟩ => ?_
  refine ⟨G, ρ, _, r, h, fun d v H1 ⟨d1, d2, ed, ts, hi, h1⟩ x1 dv => ?_⟩
  subst ed
  have r1 := r.step x1
  obtain ⟨a, xs, rfl, hs, hl⟩ := dv
  obtain ⟨v1, v2, rfl, dv1, dv2⟩ := dl2 hl
  obtain ⟨u, B, e1, ⟨p, xs, M, rfl, _, _, _, rfl⟩, _, _, _⟩ := r1.chg hi
  refine ⟨a, _, rfl, hK ▸ hs, rfl, v1, [v2], rfl, _, e1, G, ρ, _, r1, h1, fun yv u H2 ⟨jj, n, c, ey, hn, hc, hk⟩ x2 dy => ?_⟩
  subst ey
  obtain rfl := dy
  have r2 := r1.step x2
  obtain ⟨v', B', e1', ⟨p', xs, M, rfl, o2, h4, h5, rfl⟩, nB, _, ch⟩ := r2.chg hi
  rw [e1] at e1'
  cases e1'
  rw [h5.len] at hn
  refine ⟨p, xs, jj, n, rfl, rfl, h4, hn, v2, [], rfl, ⟨rfl, ?_⟩⟩
  have np : p ∉ M := (List.nodup_cons.mp nB).1
  have ev : Evo G G H2 (upd H2 p (.lst (xs.set n v1))) := ⟨fun a u n h => .inl (by rw [upd_ne (fun z => n (by rw [z]; exact o2))]; exact h), r2.tr, fun _ n _ => n, rfl, rfl⟩
  have q1 := (r1.evo x2).dt _ _ dv1
  have q2 := (r1.evo x2).dt _ _ dv2
  have h6 := h5.set hc q1
  have r3 := ch p (.lst (xs.set n v1)) (.l (ts.set n (.d d1))) List.mem_cons_self True.intro ⟨p, _, M, rfl, o2, upd_same, Ow.evoL ev _ _ M (fun q hq => ⟨(OwL.own _ _ M h6 q hq).1, upd_ne fun z => np (z ▸ hq)⟩) h6, rfl⟩
  exact o.nx _ G _ _ hk (r3.put (ev.dt _ _ q2))
end
end DL

set_option Elab.async false
set_option linter.all false
set_option maxRecDepth 100000
set_option maxHeartbeats 4000000
namespace DL
open PySem PySem.Spec PyProof.Rows L2
section
variable {X : Cx} {F : Fr} {elt tg iter : Expr} {ifs : List Expr} {scope : Scope} {own : List (Str × Nat)} {pos : Pos} {t : Tg} {I : TLD} {tt : TBD} {te : TD}
/-- y = [..], y a local that owns the list -/
theorem s_newLc {i : Nat} {y : Str} {py spos : Pos} (t : Tg) (hc : X.calm = true) (hN : X.N.Nodup) (hy : X.N[i]? = some y) (hyl : X.env.scope.names.lookup y = some .local)
    (hsw : swapsWith (.ListComp elt [⟨tg, iter, ifs, 0⟩] scope pos) (some (.Name y py)) spos.line X.env = pure true) (hi : PI X tg iter (liftI F I)) (ok : BlkOk X.N X.env.scope scope own)
    (hg : ∀ (s : Shared) (H : Hp) (C : Addr) (cl : List (Str × Addr)) (fp : List Addr), PG (X.blk s H scope (compEnvC scope cl C X.env) fp) tg (gOf X.K t))
    (hs : ∀ (s : Shared) (H : Hp) (C : Addr) (cl : List (Str × Addr)) (fp : List Addr) (pn : List (V × D)), PTs (X.blk s H scope (compEnvC scope cl C X.env) fp) ifs (liftT (F.pin pn) tt))
    (he : ∀ (s : Shared) (H : Hp) (C : Addr) (cl : List (Str × Addr)) (fp : List Addr) (pn : List (V × D)), PE (X.blk s H scope (compEnvC scope cl C X.env) fp) elt (lift (F.pin pn) te))
    (hx : ∀ i ∈ t.ix, i ∈ own.map (·.2) := by decide) (hf : ∀ x, foldedSetIterable iter X.env x = pure x := by intro _; rfl) (hK : X.K = F.K := by rfl) :
    PS X (.Assign [.Name y py] (.ListComp elt [⟨tg, iter, ifs, 0⟩] scope pos) spos) (liftS F (newT i (lcF t I tt te (own.map (·.2))))) := by
  refine ps_imp (ps_setLc (tt := fun σ H Q => ∃ pn, liftT (F.pin pn) tt σ H Q) (te := fun σ H Q => ∃ pn, lift (F.pin pn) te σ H Q) hc hN hy hyl hsw hi ok hg
    (fun s H C cl fp => ⟨fun pins s1 σ H1 Q I ⟨pn, w⟩ => (hs s H C cl fp pn).run pins s1 σ H1 Q I w⟩) (fun s H C cl fp => ⟨fun pins s1 σ H1 Q I ⟨pn, w⟩ => (he s H C cl fp pn).run pins s1 σ H1 Q I w⟩) hf) ?_
  intro E σ H ⟨G, ρ, k, r, h, o⟩
  refine lcT (F := F) _ hx hK _ _ (fun pn _ _ _ w => ⟨pn, w⟩) (fun pn _ _ _ w => ⟨pn, w⟩) σ H _ ⟨G, ρ, _, r, h, fun ds p vs H1 h1 e1 hp hl d1 => ?_⟩
  obtain ⟨L, rl⟩ := r.adrs
  have hm : ∀ a ∈ [p], Mut (H1 a) := fun a ha => by rw [List.mem_singleton.mp ha, hl]; exact True.intro
  have hR : ∀ a ∈ [p], H a = none := fun a ha => by rw [List.mem_singleton.mp ha]; exact hp
  have g := (rl.grows e1 hR hm).give (i := i) (t := .l (ds.map .d)) (v := .ref p) (B := [p]) ⟨p, vs, [], rfl, .inr List.mem_cons_self, hl, by rw [Gh.adds_one]; exact Ow.ofL d1, rfl⟩ (by simp) (fun a ha z => r.free (hR a ha) (r.sub a z)) fun a ha => rl.new (hR a ha)
  exact o.nx _ _ _ H1 h1 g
end
end DL

set_option Elab.async false
set_option linter.all false
set_option maxRecDepth 100000
set_option maxHeartbeats 4000000
/-! sorting texts, any number of them -/
namespace DMS
open PySem PyProof.Rows
def tl (x : Str) : List Nat := x.cps.toList
def tx : Value → List Nat
  | .str x _ => x.cps.toList
  | _ => []
def ltX (v u : Value) : Bool := decide (tx v < tx u)
theorem nlt_trans {a b c : List Nat} (h1 : ¬ b < a) (h2 : ¬ c < b) : ¬ c < a := fun h => by
  have := List.le_trans (List.not_lt.mp h1) (List.not_lt.mp h2)
  exact List.not_lt.mpr this h
theorem swo_tx : SrtO.Swo ltX :=
  ⟨fun x y h => decide_eq_false fun z => List.lt_asymm (of_decide_eq_true h) z, fun x y z h1 h2 => decide_eq_false (nlt_trans (of_decide_eq_false h1) (of_decide_eq_false h2))⟩
theorem tx_mem {vs : List Value} {ss : List Str} (h : StrsAre vs ss) : ∀ v ∈ vs, ∃ x t, v = Value.str x t := by
  induction h with
  | nil => intro v hv; cases hv
  | cons y t _ ih =>
    intro v hv
    cases hv with
    | head => exact ⟨y, t, rfl⟩
    | tail _ hv => exact ih v hv
theorem tx_of {vs : List Value} (h : ∀ v ∈ vs, ∃ x t, v = Value.str x t) : ∃ ss, StrsAre vs ss := by
  induction vs with
  | nil => exact ⟨[], .nil⟩
  | cons v vs ih =>
    obtain ⟨ss, q⟩ := ih fun u hu => h u (List.mem_cons_of_mem _ hu)
    obtain ⟨x, t, rfl⟩ := h v List.mem_cons_self
    exact ⟨x :: ss, .cons x t q⟩
theorem tx_map {vs : List Value} {ss : List Str} (h : StrsAre vs ss) : vs.map tx = ss.map tl := by
  induction h with
  | nil => rfl
  | cons y t _ ih => rw [List.map_cons, List.map_cons, ih]; rfl
theorem tl_inj {x y : Str} (h : tl x = tl y) : x = y := by
  obtain ⟨⟨a⟩⟩ := x
  obtain ⟨⟨b⟩⟩ := y
  have h : a = b := h
  rw [h]
theorem perm_tl {xs ys : List Str} (h : (xs.map tl).Perm (ys.map tl)) : xs.Perm ys := by
  have key : ∀ l : List Nat, tl ⟨l.toArray⟩ = l := fun l => rfl
  have back : ∀ zs : List Str, (zs.map tl).map (fun l => (⟨l.toArray⟩ : Str)) = zs := fun zs => by
    rw [List.map_map]
    induction zs with
    | nil => rfl
    | cons z zs ih => rw [List.map_cons, ih]; rfl
  have := h.map fun l => (⟨l.toArray⟩ : Str)
  rwa [back, back] at this
/-- no text is behind a greater one -/
abbrev Up (xs : List Str) : Prop := xs.Pairwise fun a b => ¬ tl b < tl a
section
variable {prog : Program} {w : World} {A : Around} {E : Value → Shared → Prop} {s : Shared}
theorem tx_sortable {a : Addr} {vs : List Value} {ss : List Str} (hI : StrsAre vs ss) (h2 : 2 ≤ vs.length) : SrtO.SortableO prog w A s a vs ltX := by
  intro h' _
  refine ⟨oneType', fun Q E hq => ?_, fun p q hm hm' => ?_⟩
  · match vs, hI, h2 with
    | v1 :: v2 :: r, hI, _ => rw [keyKind_strs hI]; exact wpAny_pure hq
    | [], _, h => exact absurd h (by decide)
    | [v], _, h => exact absurd h (by simp)
  · obtain ⟨x, t, e⟩ := tx_mem hI _ hm
    obtain ⟨y, u, e'⟩ := tx_mem hI _ hm'
    have c : decide (x.cps.toList < y.cps.toList) = SrtO.lt2 ltX p q := by
      show _ = ltX p.1 q.1
      rw [e, e']; rfl
    show wpAny (model prog w) A (keyLt' oneType' p.1 q.1) _ _ _
    rw [e, e', keyLt'_oneType]
    exact oneLt_str ⟨rfl, c⟩
theorem tx_out {vs out : List Value} {ss : List Str} (hI : StrsAre vs ss) (hs : SrtO.Srtd ltX out) (hb : SrtO.Stb ltX out vs) : ∃ ys, StrsAre out ys ∧ ys.Perm ss ∧ Up ys := by
  obtain ⟨ys, hy⟩ := tx_of (vs := out) fun v hv => tx_mem hI v (hb.perm.mem_iff.mp hv)
  refine ⟨ys, hy, perm_tl ?_, ?_⟩
  · have q := hb.perm.map tx
    rwa [tx_map hI, tx_map hy] at q
  · have q : (out.map tx).Pairwise fun a b => ¬ b < a := List.pairwise_map.mpr (hs.imp fun h => of_decide_eq_false h)
    rw [tx_map hy] at q
    exact List.pairwise_map.mp q
end
end DMS
namespace L2
open PySem PySem.Spec PyProof.Rows
def rSortX (K : PySem.W.Frag) : List V → Hp → VK → Prop := fun vs H Q => ∃ (a : Addr) (xs : List Str), vs = [V.ref a] ∧ SqL K H a (xs.map V.str) ∧
  ∀ (ys : List Str) (p : Addr), ys.Perm xs → DMS.Up ys → H p = none → Q (.ref p) (upd H p (.lst (ys.map V.str)))
theorem cr_sortX {X : Cx} : CallR X (.builtin "sorted") (rSortX X.K) := by
  intro pins s σ H vs us Q I r h
  obtain ⟨a, xs, rfl, hs, q⟩ := h
  obtain ⟨its, rv, hl, hz⟩ := I.list hs
  rw [Vals.ref1 r]
  have hi := rv.strs
  refine SrtO.sorted_ord DMS.swo_tx hl.isList (by rw [← rv.length]; exact hz) (fun h2 _ _ _ _ => DMS.tx_sortable hi h2) fun out h1 h2 => ?_
  obtain ⟨ys, k1, k2, k3⟩ := DMS.tx_out hi h1 h2
  obtain ⟨ep, he'⟩ := sortedAll_at s.heap its out.toArray
  have hlen : (ys.map V.str).length ≤ sizeLine := by
    rw [List.length_map] at hz ⊢
    rw [k2.length_eq]
    exact hz
  exact ⟨.ref _, upd H (s.heap.objs.size + 1) (.lst (ys.map V.str)), I.laid (t' := s.toks) (fun _ _ => sortedAll_old) (Nat.le_succ _) ⟨hlen, out, ep, vals_of_strs k1, he'⟩, rfl, q ys _ k2 k3 (I.hok.fresh (Nat.le_succ _))⟩
end L2

set_option Elab.async false
set_option linter.all false
set_option maxRecDepth 100000
set_option maxHeartbeats 4000000
/-! sets of texts: set(list), sorted(set) -/
namespace DMS
open PySem PySem.Spec PyProof.Rows L2 PySem.Froz
/-- a set of texts that can be walked: its payload D, its texts l, newest first -/
structure Stx (P : Program) (w : World) (h : Heap) (a : Addr) (D : SD) (l : List Str) : Prop where
  here : h.get? a = some (sObj "set" D)
  ok : TxOk P w D l
  ris : Ris D.2.2.place.toList
  led : w.params.followText "set-order" = true ∨ D.2.2.led = true
  nd : l.Nodup
theorem tail_place {ep : Nat} {es : Array (Int × Value)} {t : SetTable} {b : Bool} (r : Ris t.place.toList) : Ris (tailTx ep es t b).2.2.place.toList := by
  unfold tailTx
  split
  · exact relayAll_ris t es _
  · exact r
theorem tail_led {ep : Nat} {es : Array (Int × Value)} {t : SetTable} {b : Bool} : (tailTx ep es t b).2.2.led = t.led := by
  unfold tailTx
  split
  · exact relayAll_led t es _
  · rfl
theorem new_place {v : Int} {x : Value} {D : SD} (r : Ris D.2.2.place.toList) : Ris (addTx v x D).2.2.place.toList := by
  unfold addTx
  refine tail_place ?_
  have q := layNew_ris D.2.2 D.1 v x r
  split <;> exact q
theorem new_led {v : Int} {x : Value} {D : SD} : (addTx v x D).2.2.led = D.2.2.led := by
  unfold addTx
  rw [tail_led]
  have q := layNew_led D.2.2 D.1 v x
  split <;> exact q
/-- the texts behind one more -/
def more (l : List Str) (k : Str) : List Str := if k ∈ l then l else k :: l
section
variable {P : Program} {w : World} {A : Around} {E : Value → Shared → Prop} {s : Shared} {a : Addr} {D : SD} {l : List Str}
theorem stx_add {k : Str} {u : Tok} {Q : Bool → Shared → Prop} (R : Stx P w s.heap a D l) (hb : l.length + 1 < scanBound)
    (hQ : ∀ b h' D', Heap.SameBut a s.heap h' → Stx P w h' a D' (more l k) → Q b { s with heap := h' }) : wpAny (model P w) A (setAddHashed a (.str k u) (hashStr w k)) Q E s := by
  by_cases hk : k ∈ l
  · obtain ⟨es, ep, t⟩ := D
    have hsz : es.size = l.length := R.ok.sz
    have small : es.size < scanBound := by omega
    have hel : ElemsOf (strKind P w) es.toList := R.ok.el
    unfold setAddHashed setAddHashedIn
    refine wpAny_holding (wpAny_bind (wpAny_setState_of R.here (by rfl) R.ok.fit ?_))
    dsimp only
    rw [byScan_of rfl small hel]
    simp only [↓reduceIte]
    unfold setAddByScan
    refine wpAny_bind (wpAny_bind (wpAny_rule (wpAny_bind (wpAny_setScan_of (knd := strKind P w) (k := k) (is_str k u) R.here (by rfl) R.ok.fit hel ?_))))
    cases hf : List.findIdx? (fun e => (strKind P w).is k e.2) es.toList with
    | none =>
      obtain ⟨e, he, q⟩ := (R.ok.mem k).mp hk
      have z := List.findIdx?_eq_none_iff.mp hf e he
      rw [q] at z
      cases z
    | some j =>
      dsimp only
      have q := hQ false s.heap (es, ep, t) (Heap.SameBut.refl a s.heap) (by unfold more; rw [if_pos hk]; exact R)
      exact wpAny_pure (wpAny_pure q)
  · refine add_x R.here R.ok hk hb (hQ true _ (addTx (hashStr w k) (.str k u) D) (Heap.SameBut.update s.heap a _) ?_)
    unfold more
    rw [if_neg hk]
    exact ⟨get_upd _ R.here rfl, add_ok u R.ok, new_place R.ris, R.led.imp _root_.id fun z => by rw [new_led]; exact z, List.nodup_cons.mpr ⟨hk, R.nd⟩⟩
end
/-- the texts among the first i, newest first -/
def met (val : Nat → Str) (i : Nat) : List Str := ((List.range i).map val).foldl more []
theorem met_next (val : Nat → Str) (i : Nat) : met val (i + 1) = more (met val i) (val i) := by
  unfold met
  rw [List.range_succ, List.map_append, List.foldl_append]; rfl
theorem met_len (val : Nat → Str) : ∀ i, (met val i).length ≤ i
  | 0 => Nat.le_refl _
  | i + 1 => by
    have := met_len val i
    rw [met_next]
    unfold more
    split
    · omega
    · rw [List.length_cons]; omega
theorem met_mem (val : Nat → Str) (x : Str) : ∀ i, x ∈ met val i ↔ ∃ j, j < i ∧ val j = x
  | 0 => ⟨fun h => (by cases h), fun ⟨j, h, _⟩ => absurd h (Nat.not_lt_zero j)⟩
  | i + 1 => by
    have ih := met_mem val x i
    rw [met_next]
    unfold more
    constructor
    · intro h
      split at h
      · obtain ⟨j, a, b⟩ := ih.mp h
        exact ⟨j, by omega, b⟩
      · rcases List.mem_cons.mp h with rfl | h
        · exact ⟨i, by omega, rfl⟩
        · obtain ⟨j, a, b⟩ := ih.mp h
          exact ⟨j, by omega, b⟩
    · rintro ⟨j, a, b⟩
      by_cases e : j = i
      · subst e
        subst b
        split
        · assumption
        · exact List.mem_cons_self
      · have q := ih.mpr ⟨j, by omega, b⟩
        split
        · exact q
        · exact List.mem_cons_of_mem _ q
theorem Stx.kept {P : Program} {w : World} {h h' : Heap} {a : Addr} {D : SD} {l : List Str} (R : Stx P w h a D l) (k : h'.get? a = some (sObj "set" D)) : Stx P w h' a D l := ⟨k, R.ok, R.ris, R.led, R.nd⟩
section
variable {P : Program} {w : World} {A : Around} {R : Result → Shared → Prop} {I : Addr} {fp wr : List Addr} {G : Array GenState → Array GenState → Prop} {n : Nat} {Pv : Nat → Value → Prop} {St : Nat → Shared → Prop}
theorem set_loop (W : WalksS P w A.in1 I fp wr G n Pv St) (a : Addr) (hf : a ∉ fp) (val : Nat → Str) (hval : ∀ i v, Pv i v → ∃ t, v = .str (val i) t) (hb : n + 1 < scanBound) :
    ∀ (k i : Nat) (s : Shared) (D : SD), n - i = k → i ≤ n → St i s → Stx P w s.heap a D (met val i) →
      (∀ s' D', Moved (a :: wr) G s s' → Stx P w s'.heap a D' (met val n) → R (.ok (.ret .none)) s') → codeAny (model P w) A (.builtin "set.update.loop" ⟨[.ref a, .ref I], []⟩) R s := by
  have aw : a ∉ wr := fun h => hf (W.sub _ h)
  intro k
  induction k with
  | zero =>
    intro i s D hk hi hst hS hR
    obtain rfl : i = n := by omega
    refine codeAny_builtin F.entry_set_update_loop ?_
    rw [Around.under_plainId F.plain_set_update_loop _]
    show wpAny _ A.in1 (pyNext (.ref I) >>= _) _ _ s
    refine wpAny_bind (W.done s _ _ hst fun s' hm => ?_)
    exact wpAny_pure (hR s' D (hm.mono fun b hb => List.mem_cons_of_mem _ hb) (hS.kept (hm.heap a _ aw hS.here)))
  | succ k ih =>
    intro i s D hk hi hst hS hR
    have lt : i < n := by omega
    refine codeAny_builtin F.entry_set_update_loop ?_
    rw [Around.under_plainId F.plain_set_update_loop _]
    show wpAny _ A.in1 (pyNext (.ref I) >>= _) _ _ s
    refine wpAny_bind (W.item i s _ _ lt hst fun v s' hP hst' hm => ?_)
    obtain ⟨t, rfl⟩ := hval i v hP
    have hS' := hS.kept (hm.heap a _ aw hS.here)
    show wpAny _ A.in1 (holding [Value.str (val i) t] (setAdd a (.str (val i) t)) >>= _) _ _ s'
    refine wpAny_bind (wpAny_holding ?_)
    unfold setAdd
    refine wpAny_holding (wpAny_bind ((strKind P w).pyHash (k := val i) (is_str _ _) ?_))
    have := met_len val i
    refine stx_add (s := { s' with toks := s'.toks + 1 }) hS' (by omega) fun b h' D' sb R' => ?_
    rw [← met_next] at R'
    refine wpAny_pure ⟨plainId_quiet F.plain_set_update_loop _, ih (i + 1) _ D' (by omega) lt (W.frame _ s' _ _ hst' (Nat.le_succ _) fun b hb o e => ?_) R' fun s2 D2 hm2 R2 => ?_⟩
    · rw [sb.2 b fun z => hf (by rw [← z]; exact hb)]; exact e
    · refine hR s2 D2 (Moved.trans W.gtrans ((hm.mono fun b hb => List.mem_cons_of_mem _ hb).then_heap (Nat.le_succ _) fun b o hb e => ?_) hm2) R2
      rw [sb.2 b fun z => hb (by rw [z]; exact List.mem_cons_self)]; exact e
end
/-- the object of a set that is made -/
def set0 (w : World) : Obj := { cls := .type "set", dict := none, data := .set #[] 0 (.fresh 0 0 (!w.params.followText "set-order")) }
section
variable {P : Program} {w : World} {A : Around} {E : Value → Shared → Prop} {s : Shared}
theorem stx_new {h : Heap} {a : Addr} (e : h.get? a = some (set0 w)) : Stx P w h a (#[], 0, .fresh 0 0 (!w.params.followText "set-order")) [] :=
  ⟨e, TxOk.nil (by rfl), List.Pairwise.nil, by
    show _ ∨ (!w.params.followText "set-order") = true
    cases w.params.followText "set-order" <;> simp, List.nodup_nil⟩
theorem code_new (x : Value) {Q : Value → Shared → Prop} (h : Q (.ref s.heap.objs.size) { s with heap := s.heap.push (set0 w) }) : codeAny (model P w) A (.call (.builtin "set.__new__") ⟨[.type "set", x], []⟩) (wants Q E) s := by
  refine codeAny_of_tree ?_
  show wpAny _ A.in1 (do checkBuiltinCall "set.__new__" ⟨[.type "set", x], []⟩; again (.builtin "set.__new__" ⟨[.type "set", x], []⟩)) _ _ s
  refine wpAny_bind (wpAny_of_eq (F.newCall_set_1 x) (wpAny_pure ⟨plainId_quiet F.plain_set_new _, codeAny_builtin F.entry_set_new ?_⟩))
  rw [Around.under_plainId F.plain_set_new _]
  unfold Builtin.«set.__new__» Builtin.Frozenset.newClass
  have q := sub_set_self
  obtain ⟨hp, g, d, tk, os⟩ := s
  dsimp only
  wp_walk
  refine wpAny_askSetting (wpAny_pure ?_)
  dsimp only
  simp only [newObj]
  exact wpAny_bind (wpAny_alloc (wpAny_pure (wpAny_pure h)))
theorem str_at {vs : List Value} {ss : List Str} (h : StrsAre vs ss) : ∀ (i : Nat) (v : Value), vs[i]? = some v → ∃ t, v = .str (ss.getD i "") t := by
  induction h with
  | nil => intro i v q; simp at q
  | cons y t _ ih =>
    intro i v q
    cases i with
    | zero =>
      have q : Value.str y t = v := by simpa using q
      exact ⟨t, q.symm⟩
    | succ i =>
      obtain ⟨t', e⟩ := ih i v (by simpa using q)
      exact ⟨t', by rw [e]; rfl⟩
theorem call_set {b : Addr} {its : Array Value} {ss : List Str} {Q : Value → Shared → Prop} (hh : A.handled = none) (hl : s.heap.IsList b its) (hi : StrsAre its.toList ss) (hb : its.size + 1 < scanBound)
    (h : ∀ (h' : Heap) (tk : Nat) (D : SD), Stx P w h' s.heap.objs.size D (met (fun i => ss.getD i "") its.size) → (∀ c o, c < s.heap.objs.size → s.heap.get? c = some o → h'.get? c = some o) → Q (.ref s.heap.objs.size) { s with heap := h', toks := tk }) :
    wpAny (model P w) A (call (.type "set") [.ref b]) Q E s := by
  obtain ⟨c, tl', hmro⟩ := F.called_set.mro
  have hmade := F.called_set.made
  have hsub := F.called_set.sub
  refine wpAny_call (codeAny_of_tree ?_)
  show wpAny _ _ (callAny (.type "set") _) _ _ _
  refine wpAny_pure ⟨Code.quiet_builtin _ (by decide +kernel), codeAny_builtin F.entry_type_call ?_⟩
  rw [Around.under_plain (weight_type_call_type "set" [.ref b] []) rfl]
  have h1 := F.called_set.notType
  have h2 := F.called_set.canCreate
  have hct := F.typeCall_set_1 (.ref b)
  repeat (any_goals (first | assumption | wp_step))
  refine codeAny_mono (code_new (.ref b) (E := E) (Q := fun ob s1 => ob = .ref s.heap.objs.size ∧ s1 = { s with heap := s.heap.push (set0 w) }) ⟨rfl, rfl⟩) fun r s1 hr => ?_
  cases r with
  | error e => exact hr
  | ok fl =>
    cases fl with
    | ret ob =>
      obtain ⟨rfl, rfl⟩ := hr
      have hS : (s.heap.push (set0 w)).get? s.heap.objs.size = some (set0 w) := Heap.get?_push_size _ rfl
      have hT : Shared.TypeIs { s with heap := s.heap.push (set0 w) } (.ref s.heap.objs.size) "set" := ⟨_, hS, rfl⟩
      have hli := F.called_set.init.lookup
      have hbi := F.called_set.init.bind (.ref s.heap.objs.size)
      repeat (any_goals (first | assumption | wp_step))
      refine codeAny_mono (codeAny_call_builtin (R := wants (fun r s2 => r = .none ∧ ∃ h' tk D, s2 = { s with heap := h', toks := tk } ∧ Stx P w h' s.heap.objs.size D (met (fun i => ss.getD i "") its.size) ∧
          (∀ c o, c < s.heap.objs.size → s.heap.get? c = some o → h'.get? c = some o)) E) F.called_set.init.plain F.entry_set_init (check_set_init_1 hT ?_)) fun r2 s2 hr2 => ?_
      · obtain ⟨ol, hol, hcl, nl, hdl⟩ := hl
        obtain ⟨oc, od, oda, osl⟩ := ol
        simp only at hcl hdl
        subst hcl; subst hdl
        have bl : b < s.heap.objs.size := Heap.lt_size hol
        have hol1 : (s.heap.push (set0 w)).get? b = some { cls := .type "list", dict := od, data := .seq its nl, slots := osl } := Heap.get?_push_of_some _ hol
        have z1 := F.sub_list_set
        have z2 := F.sub_list_frozenset
        have z3 : (Value.type "list" == Value.type "dict") = false := by decide
        have hl1 : (s.heap.push (set0 w)).IsList b its := ⟨_, hol1, rfl, nl, rfl⟩
        unfold Builtin.«set.__init__» noKeywords Builtin.Frozenset.updateFrom
        generalize hPI : pyIter = PI
        wp_walk
        subst hPI
        refine wpAny_pyIter_list hl1 (wpAny_bind (wpAny_runValue ?_))
        have h3 : A.in1.in1.in1.handled = none := by simp [hh]
        have bI : b ≠ (s.heap.push (set0 w)).objs.size := by rw [Heap.size_push]; exact Nat.ne_of_lt (Nat.lt_succ_of_lt bl)
        have sf : s.heap.objs.size ∉ [(s.heap.push (set0 w)).objs.size, b] := by
          rw [Heap.size_push]
          intro z
          rcases List.mem_cons.mp z with z | z
          · exact absurd z (Nat.ne_of_lt (Nat.lt_succ_self _))
          · exact absurd (List.mem_singleton.mp z) (Nat.ne_of_gt bl)
        have hset : ((s.heap.push (set0 w)).push { cls := .type "list_iterator", data := .fields #[.ref b, .int 0 0] }).get? s.heap.objs.size = some (set0 w) := Heap.get?_push_of_some _ hS
        refine set_loop ((Walks.list h3 _ b bI its).toS) s.heap.objs.size sf (fun i => ss.getD i "") (fun i v hv => str_at hi i v (by rw [Array.getElem?_toList]; exact hv)) hb (its.size - 0) 0 _ (#[], 0, .fresh 0 0 (!w.params.followText "set-order"))
          (by omega) (Nat.zero_le _) ⟨⟨_, Heap.get?_push_size _ rfl, rfl, rfl⟩, hl1.push _⟩ (stx_new hset) fun s' D hm R => ?_
        obtain ⟨h', g', d', tk', os'⟩ := s'
        obtain rfl : g' = s.gens := hm.gens
        obtain rfl : d' = s.drawn := hm.drawn
        obtain rfl : os' = s.os := hm.os
        show wpAny _ _ _ _ _ _
        refine wpAny_pure ?_
        show wpAny _ _ (ret Value.none) _ _ _
        refine wpAny_pure ⟨rfl, h', tk', D, rfl, R, fun c o hc e => ?_⟩
        refine hm.heap c o (fun z => ?_) (Heap.get?_push_of_some _ (Heap.get?_push_of_some _ e))
        rcases List.mem_cons.mp z with z | z
        · rw [z] at hc; exact absurd hc (Nat.lt_irrefl _)
        · rw [List.mem_singleton.mp z, Heap.size_push] at hc
          exact absurd hc (Nat.not_lt_of_le (Nat.le_succ _))
      · cases r2 with
        | error e => exact hr2
        | ok fl2 =>
          cases fl2 with
          | ret r =>
            obtain ⟨rfl, h', tk, D, rfl, R, hk⟩ := hr2
            repeat (any_goals (first | assumption | wp_step))
            exact h _ _ D R hk
          | _ => exact hr2.elim
    | _ => exact hr.elim
end
end DMS

set_option Elab.async false
set_option linter.all false
set_option maxRecDepth 100000
set_option maxHeartbeats 4000000
/-! sorted(set of texts) -/
namespace DMS
open PySem PySem.Spec PyProof.Rows L2 PySem.Froz
theorem perm_of {α : Type} [DecidableEq α] : ∀ {l ss : List α}, l.Nodup → (∀ x ∈ l, x ∈ ss) → ss.length ≤ l.length → ss.Perm l
  | [], ss, _, _, h => by
    have : ss = [] := List.length_eq_zero_iff.mp (Nat.le_zero.mp h)
    rw [this]
  | x :: l, ss, nd, hm, h => by
    obtain ⟨h1, h2⟩ := List.nodup_cons.mp nd
    have hx := hm x List.mem_cons_self
    have := perm_of (l := l) (ss := ss.erase x) h2 (fun y hy => (List.mem_erase_of_ne (fun z : y = x => h1 (by rw [← z]; exact hy))).mpr (hm y (List.mem_cons_of_mem _ hy))) (by
      rw [List.length_erase_of_mem hx]; rw [List.length_cons] at h; omega)
    exact (List.perm_cons_erase hx).trans (this.cons x)
theorem str_len {vs : List Value} {ss : List Str} (h : StrsAre vs ss) : vs.length = ss.length := by
  induction h with
  | nil => rfl
  | cons _ _ _ ih => simp [ih]
theorem str_mem {vs : List Value} {ss : List Str} {y : Str} {t : Tok} (h : StrsAre vs ss) : Value.str y t ∈ vs → y ∈ ss := by
  induction h with
  | nil => intro h; cases h
  | cons x u _ ih =>
    intro h
    cases h with
    | head => exact List.mem_cons_self
    | tail _ h => exact List.mem_cons_of_mem _ (ih h)
section
variable {P : Program} {w : World} {A : Around} {E : Value → Shared → Prop} {s : Shared}
/-! sorted(set) -/
theorem sort_stx {a : Addr} {D : SD} {l : List Str} {Q : Value → Shared → Prop} (R : Stx P w s.heap a D l) (hh : A.handled = none) (hb : l.length < scanBound)
    (hQ : ∀ s' p (out : Array Value) (c : Nat) (ys : List Str), (∀ b o, s.heap.get? b = some o → s'.heap.get? b = some o) → s'.gens = s.gens → s'.os = s.os → s.heap.objs.size ≤ p → s'.heap.get? p = some (seqObj "list" out c) →
      StrsAre out.toList ys → ys.Perm l → Up ys → Q (.ref p) s') : wpAny (model P w) A (call (.builtin "sorted") [.ref a]) Q E s := by
  obtain ⟨es, ep, t⟩ := D
  have hsz : es.size = l.length := R.ok.sz
  have hsc : es.size < scanBound := by omega
  refine Calls.call_function_entry kind_sorted plain_sorted entry_sorted (args_sorted1 _) ?_
  unfold Builtin.«sorted»
  refine wpAny_bind (m := checkCount "sorted" 1 1 _) (wpAny_pure ?_)
  refine wpAny_bind (collect_set (A := A.in1) (es := es) (ep := ep) (t := t) hh ⟨_, R.here, rfl, rfl⟩ R.ok.fit hsc R.ris R.led fun s1 vs k1 hz g1 o1 pm => ?_)
  have hvs : ∀ v ∈ vs, ∃ x t, v = Value.str x t := fun v hv => by
    obtain ⟨e, he, rfl⟩ := List.mem_map.mp (pm.mem_iff.mp hv)
    obtain ⟨⟨k, hk, _⟩, _⟩ := R.ok.el e he
    have hk : Value.isStrOf k e.2 = true := hk
    cases q : e.2 with
    | str x t => exact ⟨x, t, rfl⟩
    | _ => rw [q] at hk; simp [Value.isStrOf] at hk
  obtain ⟨ss, hS⟩ := tx_of hvs
  have hlen : ss.length = l.length := by
    rw [← str_len hS, pm.length_eq, List.length_map, Array.length_toList]; exact hsz
  have hp : ss.Perm l := perm_of R.nd (fun x hx => by
    obtain ⟨e, he, q⟩ := (R.ok.mem x).mp hx
    have hv : e.2 ∈ vs := pm.mem_iff.mpr (List.mem_map.mpr ⟨e, he, rfl⟩)
    obtain ⟨y, t', hy⟩ := hvs _ hv
    rw [hy] at q hv
    have q : Value.isStrOf x (.str y t') = true := q
    have e2 : y = x := by simpa [Value.isStrOf] using q
    rw [← e2]
    exact str_mem hS hv) (Nat.le_of_eq hlen)
  have hvl : vs.length ≤ sizeLine := by
    rw [pm.length_eq, List.length_map, Array.length_toList]
    exact fits_of_scanBound hsc
  refine wpAny_bind (wpAny_newList ?_ hvl)
  have hoL : (s1.heap.push (seqObj "list" vs.toArray 0)).get? s1.heap.objs.size = some (seqObj "list" vs.toArray 0) := Heap.get?_push_size _ rfl
  refine wpAny_bind (wpAny_holding (wpAny_call_entry slot_list_sort ⟨_, hoL, rfl⟩ entry_list_sort (SrtO.list_sort_ord swo_tx hoL hvl (fun h2 => tx_sortable hS h2) fun out h1 h2 => ⟨_, rfl, ?_⟩) (args_list_sort _)))
  obtain ⟨ys, y1, y2, y3⟩ := tx_out hS h1 h2
  obtain ⟨c, hc⟩ := sortedHeap_at (vs := vs) (out := out.toArray) hoL
  refine wpAny_pure ⟨_, rfl, hQ _ s1.heap.objs.size out.toArray c ys (fun b u e => ?_) g1 o1 hz hc y1 (y2.trans hp) y3⟩
  have q := k1 b u e
  have hlt := Heap.lt_size q
  show (sortedHeap (s1.heap.push (seqObj "list" vs.toArray 0)) s1.heap.objs.size vs out.toArray).get? b = some u
  rw [sortedHeap_old (Nat.ne_of_lt hlt) (by rw [size_push']; exact Nat.lt_succ_of_lt hlt)]
  exact Heap.get?_push_of_some _ q
end
end DMS
namespace L2
open PySem PySem.Spec PyProof.Rows DMS PySem.Froz
/-- a set of texts -/
def SetX (P : Program) (w : World) (a : Addr) (l : List Str) : HO := .ext fun h => ∃ D, Stx P w h a D l
section
variable {X : Cx}
theorem setX_new {P : Program} {w : World} {H : Hp} {h : Heap} {a : Addr} {D : SD} {l : List Str} (R : Stx P w h a D l) : ObjOk P w H h a (SetX P w a l) := by
  have e := R.here
  exact ⟨⟨D, R⟩, ⟨_, e⟩, fun h1 h2 ⟨D', p⟩ k => ⟨D', p.kept (k _ p.here)⟩⟩
/-- set(xs), texts -/
def rSetX (K : PySem.W.Frag) (P : Program) (w : World) : List V → Hp → VK → Prop := fun vs H Q => ∃ (b : Addr) (xs : List Str), vs = [V.ref b] ∧ SqL K H b (xs.map V.str) ∧ xs.length + 1 < scanBound ∧
  ∀ (l : List Str) (p : Addr), (∀ x, x ∈ l ↔ x ∈ xs) → l.Nodup → l.length ≤ xs.length → H p = none → Q (.ref p) (upd H p (SetX P w p l))
theorem cr_setX (hc : X.calm = true) : CallR X (.type "set") (rSetX X.K X.prog X.w) := by
  intro pins s σ H vs us Q I r h
  obtain ⟨b, xs, rfl, hs, hb, q⟩ := h
  obtain ⟨its, rv, hl, hz⟩ := I.list hs
  rw [Vals.ref1 r]
  have hi := rv.strs
  have hn := str_len hi
  refine call_set (its := its.toArray) (ss := xs) (I.ok.hd hc) hl.isList hi (by rw [List.size_toArray, hn]; exact hb) fun h' tk D R k => ?_
  have en : its.toArray.size = xs.length := by rw [List.size_toArray, hn]
  rw [en] at R
  refine ⟨.ref s.heap.objs.size, upd H s.heap.objs.size (SetX X.prog X.w s.heap.objs.size _), I.laid (t' := tk) (fun c u e => k c u (Heap.lt_size e) e) (Nat.le_refl _) (setX_new R), rfl, q _ _ (fun x => ?_) R.nd (met_len _ _) (I.hok.fresh (Nat.le_refl _))⟩
  rw [met_mem]
  constructor
  · rintro ⟨j, hj, rfl⟩
    rw [List.getD_eq_getElem?_getD, List.getElem?_eq_getElem hj]
    exact List.getElem_mem hj
  · intro hx
    obtain ⟨j, hj, e⟩ := List.getElem_of_mem hx
    exact ⟨j, hj, by rw [List.getD_eq_getElem?_getD, List.getElem?_eq_getElem hj]; exact e⟩
/-- sorted(a set of texts) -/
def rSortSetX (P : Program) (w : World) : List V → Hp → VK → Prop := fun vs H Q => ∃ (a : Addr) (l : List Str), vs = [V.ref a] ∧ H a = some (SetX P w a l) ∧ l.length < scanBound ∧
  ∀ (ys : List Str) (p : Addr), ys.Perm l → Up ys → H p = none → Q (.ref p) (upd H p (.lst (ys.map V.str)))
theorem cr_sortSetX (hc : X.calm = true) : CallR X (.builtin "sorted") (rSortSetX X.prog X.w) := by
  intro pins s σ H vs us Q I r h
  obtain ⟨a, l, rfl, ha, hb, q⟩ := h
  obtain ⟨D, R⟩ := (I.hok a _ ha).1
  rw [Vals.ref1 r]
  refine sort_stx R (I.ok.hd hc) hb fun s' p out c ys k g o hp hg hi hy hu => ?_
  have hlen : (ys.map V.str).length ≤ sizeLine := by
    rw [List.length_map, hy.length_eq]
    exact fits_of_scanBound hb
  have hn : H p = none := I.hok.fresh hp
  have J : Inv X pins σ (upd H p (.lst (ys.map V.str))) { s with heap := s'.heap, gens := s'.gens, drawn := s'.drawn, toks := s'.toks } :=
    I.call (ch := []) (Un.laid k hp hn) (I.hok.laid k hp ⟨hlen, out.toList, c, vals_of_strs hi, hg⟩) (by rw [g]; exact I.bare) (fun _ z => nomatch z)
  have e : s' = { s with heap := s'.heap, gens := s'.gens, drawn := s'.drawn, toks := s'.toks } := by
    cases s'; cases s; cases o; rfl
  rw [e]
  exact ⟨.ref p, _, J, rfl, q ys p hy hu hn⟩
end
end L2

set_option Elab.async false
set_option linter.all false
set_option maxRecDepth 100000
set_option maxHeartbeats 4000000
/-! rules: sorted(texts), sorted(set(texts)), xs.count(x) -/
namespace DMS
open PySem
def leX (a b : Str) : Bool := decide (¬ tl b < tl a)
/-- sorted -/
def srt (xs : List Str) : List Str := xs.mergeSort leX
theorem leX_trans (a b c : Str) (h1 : leX a b = true) (h2 : leX b c = true) : leX a c = true := decide_eq_true (nlt_trans (of_decide_eq_true h1) (of_decide_eq_true h2))
theorem leX_total (a b : Str) : (leX a b || leX b a) = true := by
  by_cases h : tl b < tl a
  · have : leX b a = true := decide_eq_true (List.lt_asymm h)
    rw [this, Bool.or_true]
  · have : leX a b = true := decide_eq_true h
    rw [this, Bool.true_or]
theorem srt_perm (xs : List Str) : (srt xs).Perm xs := List.mergeSort_perm xs leX
theorem srt_up (xs : List Str) : Up (srt xs) := (List.pairwise_mergeSort leX_trans leX_total xs).imp fun h => of_decide_eq_true h
theorem le_anti {a b : Str} (h1 : ¬ tl b < tl a) (h2 : ¬ tl a < tl b) : a = b :=
  tl_inj (List.le_antisymm (List.not_lt.mp h1) (List.not_lt.mp h2))
theorem up_eq : ∀ {xs ys : List Str}, xs.Perm ys → Up xs → Up ys → xs = ys
  | [], ys, p, _, _ => (List.Perm.nil_eq p).symm ▸ rfl
  | x :: xs, [], p, _, _ => absurd p.length_eq (by simp)
  | x :: xs, y :: ys, p, hx, hy => by
    have hx' := List.pairwise_cons.mp hx
    have hy' := List.pairwise_cons.mp hy
    have e : x = y := by
      have h1 : ¬ tl y < tl x := by
        rcases List.mem_cons.mp (p.mem_iff.mpr (List.mem_cons_self (a := y) (l := ys))) with z | z
        · rw [z]; exact fun q => List.lt_irrefl _ q
        · exact hx'.1 y z
      have h2 : ¬ tl x < tl y := by
        rcases List.mem_cons.mp (p.mem_iff.mp (List.mem_cons_self (a := x) (l := xs))) with z | z
        · rw [z]; exact fun q => List.lt_irrefl _ q
        · exact hy'.1 x z
      exact le_anti h1 h2
    subst e
    rw [up_eq (List.Perm.cons_inv p) hx'.2 hy'.2]
theorem srt_eq {xs ys : List Str} (p : ys.Perm xs) (u : Up ys) : ys = srt xs := up_eq (p.trans (srt_perm xs).symm) u (srt_up xs)
theorem srt_of_perm {xs ys : List Str} (p : xs.Perm ys) : srt xs = srt ys := srt_eq ((srt_perm xs).trans p) (srt_up xs)
/-- each once -/
def dd (xs : List Str) : List Str := xs.foldl more []
theorem foldl_more_mem (x : Str) : ∀ (xs acc : List Str), x ∈ xs.foldl more acc ↔ x ∈ acc ∨ x ∈ xs
  | [], acc => by simp
  | y :: xs, acc => by
    rw [List.foldl_cons, foldl_more_mem x xs]
    have : x ∈ more acc y ↔ x ∈ acc ∨ x = y := by
      unfold more
      split
      · constructor
        · exact .inl
        · rintro (h | rfl) <;> assumption
      · rw [List.mem_cons]; exact Or.comm
    rw [this, List.mem_cons, or_assoc]
theorem foldl_more_nd : ∀ (xs acc : List Str), acc.Nodup → (xs.foldl more acc).Nodup
  | [], acc, h => h
  | y :: xs, acc, h => by
    rw [List.foldl_cons]
    refine foldl_more_nd xs _ ?_
    unfold more
    split
    · exact h
    · exact List.nodup_cons.mpr ⟨by assumption, h⟩
theorem dd_mem {x : Str} {xs : List Str} : x ∈ dd xs ↔ x ∈ xs := by unfold dd; rw [foldl_more_mem]; simp
theorem dd_nd (xs : List Str) : (dd xs).Nodup := foldl_more_nd xs [] List.nodup_nil
theorem nd_perm {l m : List Str} (h1 : l.Nodup) (h2 : m.Nodup) (h : ∀ x, x ∈ l ↔ x ∈ m) : l.Perm m := by
  have le1 : ∀ {l m : List Str}, l.Nodup → (∀ x ∈ l, x ∈ m) → l.length ≤ m.length := by
    intro l
    induction l with
    | nil => intro m _ _; exact Nat.zero_le _
    | cons x l ih =>
      intro m nd hm
      obtain ⟨a, b⟩ := List.nodup_cons.mp nd
      have hx := hm x List.mem_cons_self
      have := ih (m := m.erase x) b fun y hy => (List.mem_erase_of_ne (fun z : y = x => a (by rw [← z]; exact hy))).mpr (hm y (List.mem_cons_of_mem _ hy))
      rw [List.length_erase_of_mem hx] at this
      have := List.length_pos_of_mem hx
      rw [List.length_cons]; omega
  exact perm_of h2 (fun x hx => (h x).mpr hx) (le1 h1 fun x hx => (h x).mp hx)
theorem set_eq {l xs ys : List Str} (h : ∀ x, x ∈ l ↔ x ∈ xs) (nd : l.Nodup) (p : ys.Perm l) (u : Up ys) : ys = srt (dd xs) :=
  srt_eq (p.trans (nd_perm nd (dd_nd xs) fun x => (h x).trans dd_mem.symm)) u
end DMS

set_option Elab.async false
set_option linter.all false
set_option maxRecDepth 100000
set_option maxHeartbeats 4000000
namespace L2
open PySem PySem.Spec PyProof.Rows
def eqx (k : Str) : Value → Bool
  | .str x _ => x.cps.toList == k.cps.toList
  | _ => false
theorem eqx_gives {vs : List Value} {ss : List Str} {k : Str} {t : Tok} (h : StrsAre vs ss) : ∀ y ∈ vs, MeetsSeq.EqGives y (.str k t) (eqx k y) := by
  intro y hy
  obtain ⟨x, u, rfl⟩ := DMS.tx_mem h y hy
  exact PySem.SeqRoads2.EqGives.str x k u t
theorem eqx_count {vs : List Value} {ss : List Str} {k : Str} (h : StrsAre vs ss) : vs.countP (eqx k) = ss.count k := by
  induction h with
  | nil => rfl
  | cons y t _ ih =>
    rw [List.countP_cons, ih, List.count_cons]
    have e : eqx k (.str y t) = (y == k) := by
      show (y.cps.toList == k.cps.toList) = _
      by_cases q : y = k
      · subst q; simp
      · have : ¬ y.cps.toList = k.cps.toList := fun z => q (DMS.tl_inj z)
        rw [beq_eq_false_iff_ne.mpr this, beq_eq_false_iff_ne.mpr q]
    rw [e]
def rCntX (K : PySem.W.Frag) : V → List V → Hp → VK → Prop := fun x xs H Q => ∃ (p : Addr) (ss : List Str) (k : Str), x = .ref p ∧ xs = [.str k] ∧ SqL K H p (ss.map V.str) ∧ Q (.int (ss.count k : Nat)) H
theorem mt_cntX {X : Cx} : MtR X "list.count" (rCntX X.K) := by
  intro pins s σ H x xs v us Q I rx rxs h
  obtain ⟨p, ss, k, rfl, rfl, hs, q⟩ := h
  cases rx
  obtain ⟨u, rfl, ru⟩ := rxs.one
  obtain ⟨t, rfl⟩ := ru
  obtain ⟨its, rv, ⟨⟨cls, dx, data, sl⟩, n, ho, hc, hdn, hd⟩, hlen⟩ := I.list hs
  simp only at hc hd
  subst hc hd
  have hi := rv.strs
  refine call_meets PySem.F.slot_list_count ⟨_, ho, rfl⟩ PySem.F.entry_list_count (PySem.F.args_list_count_2 _ _)
    (SeqAt.list_countAt p its.toArray n dx sl (.str k t) (eqx k)) ⟨ho, fun y hy => (eqx_gives hi y (by simpa using hy)).at _ _, ?_⟩
  refine ⟨.int (ss.count k : Nat), H, I.tok _, ⟨s.toks, ?_⟩, q⟩
  show Value.int ((its.toArray.toList.countP (eqx k) : Nat) : Int) s.toks = _
  rw [show its.toArray.toList.countP (eqx k) = ss.count k from eqx_count hi]
end L2
namespace DL
open PySem PySem.Spec PyProof.Rows L2 DMS
theorem dtl_strs_of {K : PySem.W.Frag} {G : Gh} {H : Hp} : ∀ {ys : List Str} {vs : List V}, DtL K G H (ys.map .str) vs → vs = ys.map V.str
  | [], _, h => h
  | y :: ys, _, h => by
    obtain ⟨x, r, rfl, h1, h2⟩ := h
    obtain rfl := h1
    rw [dtl_strs_of h2]; rfl
/-- sorted(texts) -/
def sortF (t : TLD) : TLD := fun ρ k => t ρ fun ds => ∃ xs : List Str, ds = [.lst (xs.map .str)] ∧ k ((srt xs).map .str)
/-- sorted(set(texts)) -/
def sortSetF (t : TLD) : TLD := fun ρ k => t ρ fun ds => ∃ xs : List Str, ds = [.lst (xs.map .str)] ∧ xs.length < 4000 ∧ k ((srt (dd xs)).map .str)
def countM : MDD
  | .lst ds, [.str y], k => ∃ xs : List Str, ds = xs.map .str ∧ k (.int (xs.count y : Nat))
  | _, _, _ => False
section
variable {X : Cx} {F : Fr} {p p2 pos pos2 apos : Pos} {e o : Expr} {ta : TLD} {te to : TD}
theorem f_sort (hg : Gl X "sorted") (hm : X.mg "sorted" = none) (ha : PA X [e] (liftA F ta)) (he : starEach [e] X.env = (false, eval e X.env) :: starEach [] X.env := by rfl) :
    PE X (.Call (.Name "sorted" p) [e] [] pos) (liftF F (sortF ta)) := by
  refine pe_imp (pe_callB cr_sortX hg hm (by decide +kernel) ha (by decide) (by decide) he) fun σ H Q ⟨G, ρ, k, r, h, q⟩ => ⟨G, ρ, _, r, h, fun ds vs H1 ⟨xs, e0, h1⟩ e1 d1 => ?_⟩
  subst e0
  obtain ⟨v, rfl, a, us, rfl, n, ha, hl⟩ := dl1 d1
  obtain rfl := dtl_strs_of hl
  have r1 := r.step e1
  refine ⟨a, xs, rfl, SqL.of ha, fun ys l hp hu hn => ?_⟩
  obtain rfl := srt_eq hp hu
  have e4 : Ext G H1 (upd H1 l (.lst ((srt xs).map V.str))) := Ext.new r1.bag hn
  exact q _ l _ _ h1 (e1.trans e4) (e1.free r.bag hn) upd_same (dtl_strs _)
theorem f_sortSet (hc : X.calm = true) (hg : Gl X "sorted") (hm : X.mg "sorted" = none) (hg2 : Gl X "set") (hm2 : X.mg "set" = none) (ha : PA X [e] (liftA F ta)) (he : starEach [e] X.env = (false, eval e X.env) :: starEach [] X.env := by rfl)
    (he2 : starEach [.Call (.Name "set" p2) [e] [] pos2] X.env = (false, eval (.Call (.Name "set" p2) [e] [] pos2) X.env) :: starEach [] X.env := by rfl) :
    PE X (.Call (.Name "sorted" p) [.Call (.Name "set" p2) [e] [] pos2] [] pos) (liftF F (sortSetF ta)) := by
  refine pe_imp (pe_callB (cr_sortSetX hc) hg hm (by decide +kernel) (pa_cons (pe_callTy (cr_setX hc) hg2 hm2 (by decide +kernel) ha (by decide) (by decide) he) pa_nil he2) (by decide) (by decide) he2) fun σ H Q ⟨G, ρ, k, r, h, q⟩ => ?_
  refine ⟨G, ρ, _, r, h, fun ds vs H1 ⟨xs, e0, hz, h1⟩ e1 d1 => ?_⟩
  subst e0
  obtain ⟨v, rfl, a, us, rfl, n, ha, hl⟩ := dl1 d1
  obtain rfl := dtl_strs_of hl
  have r1 := r.step e1
  refine ⟨a, xs, rfl, SqL.of ha, by unfold scanBound; omega, fun l b hm' nd hl' hn => ?_⟩
  have e2 : Ext G H1 (upd H1 b (SetX X.prog X.w b l)) := Ext.new r1.bag hn
  have r2 := r1.step e2
  refine ⟨b, l, rfl, upd_same, by unfold scanBound; omega, fun ys c hp hu hc' => ?_⟩
  obtain rfl := set_eq hm' nd hp hu
  have e3 : Ext G (upd H1 b (SetX X.prog X.w b l)) (upd (upd H1 b (SetX X.prog X.w b l)) c (.lst ((srt (dd xs)).map V.str))) := Ext.new r2.bag hc'
  exact q _ c _ _ h1 ((e1.trans e2).trans e3) ((e1.trans e2).free r.bag hc') upd_same (dtl_strs _)
theorem d_count (ho : PE X o (lift F to)) (he : PE X e (lift F te)) (hK : X.K = F.K := by rfl) (hbase : attributeBase o "count" X.env (eval o X.env) = eval o X.env := by rfl)
    (hfew : ((backTo pos (starEach (e :: []) X.env)).all (fun x => !x.1) && (backToKw pos (keywordEach [] X.env)).all (fun x => x.1.isSome)
      && decide ((e :: ([] : List Expr)).length + ([] : List Keyword).length + (if ([] : List Keyword).isEmpty then 0 else 1) < 30)) = true := by rfl)
    (hline : (apos.endLine == pos.line) = true := by rfl) (hs : starEach (e :: []) X.env = (false, eval e X.env) :: starEach [] X.env := by rfl) (hplain : (backTo pos (starEach [] X.env)).any (·.1) = false := by rfl) :
    PE X (.Call (.Attribute o "count" apos) [e] [] pos) (lift F (methT countM (onT isLst to) (consA te nilA))) := by
  refine d_bmL (fun G H x v ds vs k Q ok h hx hl q => ?_) (pe_bm PySem.F.plainAttrs_list PySem.F.slot_list_count PySem.F.type_list_count mt_cntX ho (a_cons he a_nil hs) hbase hfew hline hs hplain)
  unfold countM at h
  split at h
  · obtain ⟨u, rfl, hu⟩ := dl1 hl
    obtain ⟨xs, rfl, h⟩ := h
    obtain rfl := hu
    obtain ⟨a, ys, rfl, n, ha, hd⟩ := hx
    obtain rfl := dtl_strs_of hd
    exact ⟨a, xs, _, rfl, rfl, SqL.of ha, q _ _ _ h (.refl ok.bag) rfl⟩
  · exact h.elim
end
end DL

set_option Elab.async false
set_option linter.all false
set_option maxRecDepth 100000
set_option maxHeartbeats 4000000
/-! sorted(d.values()), texts -/
namespace DMS
open PySem PySem.Spec PyProof.Rows L2 PySem.Froz
theorem sort_vals {w : World} {prog : Program} {A : Around} {E : Value → Shared → Prop} {s : Shared} {r d : Addr} {kvs : List (Key × Value)} {ep : Nat} {ss : List Str} {Q : Value → Shared → Prop} (hv : s.heap.IsValuesView r d) (hat : s.heap.DictAt (mixKind prog w) d kvs ep) (hS : StrsAre (kvs.map Prod.snd) ss) (hh : A.handled = none) (hn : kvs.length ≤ sizeLine) (hr : s.heap.objs.size = r + 1)
    (hQ : ∀ s' p (out : Array Value) (c : Nat) (ys : List Str), (∀ b o, s.heap.get? b = some o → s'.heap.get? b = some o) → s'.gens = s.gens → s'.os = s.os → s.heap.objs.size ≤ p → s'.heap.get? p = some (seqObj "list" out c) →
      StrsAre out.toList ys → ys.Perm ss → Up ys → Q (.ref p) s') : wpAny (model prog w) A (call (.builtin "sorted") [.ref r]) Q E s := by
  refine Calls.call_function_entry kind_sorted plain_sorted entry_sorted (args_sorted1 _) ?_
  unfold Builtin.«sorted»
  refine wpAny_bind (m := checkCount "sorted" 1 1 _) (wpAny_pure ?_)
  refine wpAny_bind (PySem.W.kdu_collect (A := A.in1) (PySem.W.kdl_values (knd := mixKind prog w) (r := r) (d := d) (kvs := kvs) (ep := ep)) hh ⟨hv, hat⟩ hn fun h' tk acc k1 hacc => ?_)
  have ev : acc.toList = kvs.map Prod.snd := by
    apply List.ext_getElem?
    intro j
    rw [List.getElem?_map]
    cases q : acc.toList[j]? with
    | none =>
      have : acc.toList.length ≤ j := by simpa using q
      rw [Array.length_toList, hacc.1] at this
      rw [List.getElem?_eq_none this]; rfl
    | some v =>
      obtain ⟨k, hk⟩ := hacc.2 j v (by rw [← Array.getElem?_toList]; exact q)
      rw [hk]; rfl
  generalize hvs : acc.toList = vs at ev ⊢
  subst ev
  have hvl : (kvs.map Prod.snd).length ≤ sizeLine := by rw [List.length_map]; exact hn
  refine wpAny_bind (wpAny_newList ?_ hvl)
  have hoL : (h'.push (seqObj "list" (kvs.map Prod.snd).toArray 0)).get? h'.objs.size = some (seqObj "list" (kvs.map Prod.snd).toArray 0) := Heap.get?_push_size _ rfl
  refine wpAny_bind (wpAny_holding (wpAny_call_entry slot_list_sort ⟨_, hoL, rfl⟩ entry_list_sort (SrtO.list_sort_ord swo_tx hoL hvl (fun h2 => tx_sortable hS h2) fun out h1 h2 => ⟨_, rfl, ?_⟩) (args_list_sort _)))
  obtain ⟨ys, y1, y2, y3⟩ := tx_out hS h1 h2
  obtain ⟨c, hc⟩ := sortedHeap_at (vs := kvs.map Prod.snd) (out := out.toArray) hoL
  have hz : s.heap.objs.size ≤ h'.objs.size := by
    obtain ⟨o, ho, _⟩ := hv
    have hlt : r < h'.objs.size := Heap.lt_size (k1 r o ho)
    rw [hr]
    exact hlt
  refine wpAny_pure ⟨_, rfl, hQ _ h'.objs.size out.toArray c ys (fun b u e => ?_) rfl rfl hz hc y1 y2 y3⟩
  have q := k1 b u e
  have hlt := Heap.lt_size q
  show (sortedHeap (h'.push (seqObj "list" (kvs.map Prod.snd).toArray 0)) h'.objs.size (kvs.map Prod.snd) out.toArray).get? b = some u
  rw [sortedHeap_old (Nat.ne_of_lt hlt) (by rw [size_push']; exact Nat.lt_succ_of_lt hlt)]
  exact Heap.get?_push_of_some _ q
end DMS
namespace DL
open PySem PySem.Spec PyProof.Rows L2 DMS
theorem kv_strs : ∀ {kvs : List (Key × V)} {vs : List (Key × Value)} {ss : List Str}, KV kvs vs → kvs.map Prod.snd = ss.map V.str → StrsAre (vs.map Prod.snd) ss := by
  intro kvs vs ss h
  induction h generalizing ss with
  | nil =>
    intro e
    cases ss with
    | nil => exact .nil
    | cons => cases e
  | cons r _ ih =>
    intro e
    cases ss with
    | nil => cases e
    | cons x ss =>
      obtain ⟨e1, e2⟩ := List.cons.inj e
      obtain ⟨r1, r2⟩ := r
      rw [e1] at r2
      obtain ⟨t, ht⟩ := r2
      rw [List.map_cons, ht]
      exact .cons x t (ih e2)
section
variable {X : Cx} {e : Expr} {te : TE} {p apos cpos pos : Pos}
def rSortV : V → Hp → VK → Prop := fun x H Q => ∃ (d : Addr) (kvs : List (Key × V)) (ss : List Str), x = .ref d ∧ Rd H d (.dK kvs) ∧ kvs.map Prod.snd = ss.map V.str ∧
  ∀ (ys : List Str) (p : Addr), ys.Perm ss → Up ys → H p = none → Q (.ref p) (upd H p (.lst (ys.map V.str)))
theorem pe_sortVals (hc : X.calm = true) (he : PE X e te) (hg : Gl X "sorted") (hm : X.mg "sorted" = none) (hv : bootBuiltins "sorted" = some (.builtin "sorted")) (hbase : attributeBase e "values" X.env (eval e X.env) = eval e X.env) (hline : (apos.endLine == cpos.line) = true)
    (hs : starEach [.Call (.Attribute e "values" apos) [] [] cpos] X.env = (false, eval (.Call (.Attribute e "values" apos) [] [] cpos) X.env) :: starEach [] X.env) :
    PE X (.Call (.Name "sorted" p) [.Call (.Attribute e "values" apos) [] [] cpos] [] pos) (fun σ H Q => te σ H fun x H1 => rSortV x H1 Q) := by
  refine ⟨fun pins s σ H Q I hq => ?_⟩
  refine wpAny_Call_Name_kw (ld_blt I hg hm hv ?_)
  refine PyProof.Rows.callWith_builtin1 ?_ hs rfl
  rw [hs]
  show wpAny _ _ (spliced ((false, eval (.Call (.Attribute e "values" apos) [] [] cpos) X.env) :: backTo pos (starEach [] X.env))) _ _ s
  refine Calls.spliced_cons ?_
  refine wpAny_Call_method (T := "dict") (id := "dict.values") hbase rfl hline F.plainAttrs_dict F.slot_dict_values F.type_dict_values (thn (he.run pins s σ H _ I hq) fun u s1 ⟨x, H1, I1, rx, d, kvs, ss, ex, hd, hss, q⟩ => ?_)
  subst ex
  obtain rfl : u = Value.ref d := rx
  obtain ⟨hz, hs0, vs, kv, hdo⟩ := dk_rd I1.hok hd
  obtain ⟨ep, hat⟩ := hdo.dictAt
  have lk : kvs.length = vs.length := Paired.length kv
  have I2 : Inv X pins σ H1 { s1 with heap := s1.heap.push { cls := .type "dict_values", data := .fields #[.ref d] } } := I1.kept (t' := s1.toks) fun b ob q => Heap.get?_push_of_some _ q
  refine ⟨hdo.typeIs, hdo.mapOf.noDict, ?_⟩
  show wpAny _ _ (callWith cpos (.builtin "dict.values") [.ref d] [] []) _ X.xe s1
  refine method_meetsIn F.slot_dict_values F.entry_dict_values rfl (PySem.evalArgs_none ⟨rfl, hdo.typeIs, F.args_dict_values_1 _, _, meets_dict_values (mixKind X.prog X.w) d hs0, ⟨vs, hdo⟩, ?_⟩)
  refine Calls.spliced_nil ?_
  refine sort_vals (s := { s1 with heap := s1.heap.push { cls := .type "dict_values", data := .fields #[.ref d] } }) ⟨_, Heap.get?_push_size _ rfl, rfl, rfl⟩ (hat.push _) (kv_strs kv hss) (I1.ok.hd hc) (by omega) (size_push' _ _) fun s' p out c ys k g o hp hg' hi hy hu => ?_
  have hlen : (ys.map V.str).length ≤ sizeLine := by
    rw [List.length_map, hy.length_eq]
    have := congrArg List.length hss
    rw [List.length_map, List.length_map] at this
    omega
  have hn : H1 p = none := I2.hok.fresh hp
  have J :=
    I2.call (H' := upd H1 p (.lst (ys.map V.str))) (h' := s'.heap) (g' := s'.gens) (d' := s'.drawn) (t' := s'.toks) (ch := []) (Un.laid k hp hn) (I2.hok.laid k hp ⟨hlen, out.toList, c, vals_of_strs hi, hg'⟩) (by rw [g]; exact I2.bare) (fun _ z => nomatch z)
  have e : s' = { s1 with heap := s'.heap, gens := s'.gens, drawn := s'.drawn, toks := s'.toks } := by
    cases s'; cases s1; cases o; rfl
  rw [e]
  exact ⟨.ref p, _, J, rfl, q ys p hy hu hn⟩
end
theorem dtp_strs {K : PySem.W.Frag} {G : Gh} {H : Hp} : ∀ {es : List (D × D)} {kvs : List (Key × V)} {xs : List Str}, DtP K G H false es kvs → es.map Prod.snd = xs.map .str → kvs.map Prod.snd = xs.map V.str
  | [], _, [], h, _ => by rw [h.1]; rfl
  | [], _, _ :: _, _, e => by cases e
  | _ :: _, _, [], _, e => by cases e
  | (k, d) :: es, _, x :: xs, h, e => by
    obtain ⟨j, v, r, rfl, rfl, h1, h2⟩ := h
    rw [List.map_cons, List.map_cons] at e
    obtain ⟨e1, e2⟩ := List.cons.inj e
    dsimp only at e1
    subst e1
    obtain rfl : v = V.str x := h1
    rw [List.map_cons, List.map_cons, dtp_strs h2 e2]
/-- sorted(d.values()), texts -/
def sortValsF (t : TD) : TLD := fun ρ k => t ρ fun d => ∃ (es : List (D × D)) (xs : List Str), d = .dic false es ∧ es.map Prod.snd = xs.map .str ∧ k ((srt xs).map .str)
section
variable {X : Cx} {F : Fr} {e : Expr} {te : TD} {p apos cpos pos : Pos}
theorem f_sortVals (hc : X.calm = true) (hg : Gl X "sorted") (hm : X.mg "sorted" = none) (he : PE X e (lift F te)) (hbase : attributeBase e "values" X.env (eval e X.env) = eval e X.env := by rfl) (hline : (apos.endLine == cpos.line) = true := by rfl)
    (hs : starEach [.Call (.Attribute e "values" apos) [] [] cpos] X.env = (false, eval (.Call (.Attribute e "values" apos) [] [] cpos) X.env) :: starEach [] X.env := by rfl) :
    PE X (.Call (.Name "sorted" p) [.Call (.Attribute e "values" apos) [] [] cpos] [] pos) (liftF F (sortValsF te)) := by
  refine pe_imp (pe_sortVals hc he hg hm (by decide +kernel) hbase hline hs) fun σ H Q ⟨G, ρ, k, r, h, q⟩ => ⟨G, ρ, _, r, h, fun d v H1 ⟨es, xs, ed, ex, hk⟩ e1 d1 => ?_⟩
  subst ed
  obtain ⟨a, kvs, rfl, n, rd, hp⟩ := dic_K d1
  have r1 := r.step e1
  refine ⟨a, kvs, xs, rfl, rd, dtp_strs hp ex, fun ys l hp' hu hn => ?_⟩
  obtain rfl := srt_eq hp' hu
  have e4 : Ext G H1 (upd H1 l (.lst ((srt xs).map V.str))) := Ext.new r1.bag hn
  exact q _ l _ _ hk (e1.trans e4) (e1.free r.bag hn) upd_same (dtl_strs _)
theorem dtl_rg {K : PySem.W.Frag} {G : Gh} {H : Hp} : ∀ l : List Nat, DtL K G H (l.map fun i => D.int (i : Nat)) (l.map fun i => V.int (0 + (i : Nat)))
  | [] => rfl
  | i :: l => ⟨V.int (0 + (i : Nat)), _, rfl, by rw [Int.zero_add]; rfl, dtl_rg l⟩
/-- list(range(n)) -/
def lstRgF (t : TD) : TLD := fun ρ k => t ρ fun d => ∃ n : Nat, d = .int n ∧ n ≤ 2 ^ 24 ∧ k ((List.range n).map fun i => .int (i : Nat))
theorem f_listRg {a : Expr} {p2 pos2 : Pos} {ta : TD} (hc : X.calm = true) (hg : Gl X "list") (hm : X.mg "list" = none) (hg2 : Gl X "range") (hm2 : X.mg "range" = none) (ha : PE X a (lift F ta)) (na : starEach [a] X.env = (false, eval a X.env) :: starEach [] X.env := by rfl)
    (na2 : starEach [.Call (.Name "range" p2) [a] [] pos2] X.env = (false, eval (.Call (.Name "range" p2) [a] [] pos2) X.env) :: starEach [] X.env := by rfl) :
    PE X (.Call (.Name "list" p) [.Call (.Name "range" p2) [a] [] pos2] [] pos) (liftF F (lstRgF ta)) := by
  refine pe_imp (pe_listRg hc hg hm (prg_1 hg2 hm2 ha na) na2) fun σ H Q ⟨G, ρ, k, r, h, q⟩ => ⟨G, ρ, _, r, h, fun d v H1 ⟨n, ed, hn, hk⟩ e1 d1 => ?_⟩
  subst ed
  obtain rfl : v = V.int n := d1
  have r1 := r.step e1
  refine ⟨n, rfl, ⟨by omega, by omega, by omega, by omega, by omega⟩, fun l hl => ?_⟩
  have e4 : Ext G H1 (upd H1 l (.lst (rgV 0 n))) := Ext.new r1.bag hl
  refine q _ l _ _ hk (e1.trans e4) (e1.free r.bag hl) upd_same ?_
  unfold rgV
  rw [Int.sub_zero, Int.toNat_natCast]
  exact dtl_rg _
end
end DL

set_option Elab.async false
set_option linter.all false
set_option maxRecDepth 100000
set_option maxHeartbeats 4000000
namespace K15
open PySem L2 DL
def top (i : Nat) : Stmt := PySem.Challenge.pw_farcatch_k15_whole_names_for_names.main.body.getD i (.Pass ⟨0, 0, 0, 0⟩)
def txt_LETTERS : Str := "abcdefghijklmnopqrstuvwxyz"
def tab_LENGTHS : List (Str × DL.D) := ([("name", 2), ("given", 2), ("work", 3), ("if", 5), ("with", 4), ("call", 3)] : List (Str × Int)).map fun p => (p.1, .int p.2)
section
variable {P : Program} {w : World} {K : PySem.W.Frag} {mg : Str → Option Value} {base : Heap}
abbrev s_is_integer : Stmt := top 1
theorem sc_is_integer : FnScope ["thing"] ["thing"] (defScope s_is_integer) := ⟨rfl, rfl, rfl, by decide +kernel, rfl, by decide +kernel, by decide +kernel⟩
def t_is_integer : TSD :=
  (retT (andT (isiT "int" (nameT 0)) (notT (isiT "bool" (nameT 0)))))
theorem fn_is_integer {n : Nat} {R : RD} {f : Addr} {fd : FuncData} (Fn : Fun K "is_integer" "is_integer" s_is_integer f fd) (z_bool : mg "bool" = none) (z_int : mg "int" = none) (z_isinstance : mg "isinstance" = none)
    (hl : ∀ ds k, R ds k → ds.length = 1) (hR : ∀ ds κ, R ds κ → t_is_integer (endD κ) (enterS 1 ds)) : FnG P w K mg base CX0 (n + 1) f fd ["thing"] (spD K R) :=
  Fun.okD Fn sc_is_integer hl ⟨_, fun cdv A outer s H E G H' pn hr hg =>
      (s_one (s_ret (d_and (d_isi (T' := "int") "int" rfl z_isinstance rfl z_int (by decide +kernel) (d_name 0)) (d_one (d_not (d_isi (T' := "bool") "bool" rfl z_isinstance rfl z_bool (by decide +kernel) (d_name 0))))))), hR⟩

abbrev s_is_count : Stmt := top 2
theorem sc_is_count : FnScope ["thing"] ["thing"] (defScope s_is_count) := ⟨rfl, rfl, rfl, by decide +kernel, rfl, by decide +kernel, by decide +kernel⟩
def t_is_count (Ris_integer : RD) : TSD :=
  (retT (andT (callT Ris_integer (consA (nameT 0) nilA)) (DL.binT (cmpI fun i j => decide (i ≥ j)) (nameT 0) (cT (.int 0)))))
theorem fn_is_count {n : Nat} {R : RD} {f : Addr} {fd : FuncData} {Ris_integer : RD} (Fn : Fun K "is_count" "is_count" s_is_count f fd) (cis_integer : CalP P w K mg base n "is_integer" Ris_integer)
    (hl : ∀ ds k, R ds k → ds.length = 1) (hR : ∀ ds κ, R ds κ → t_is_count Ris_integer (endD κ) (enterS 1 ds)) : FnG P w K mg base CX0 (n + 1) f fd ["thing"] (spD K R) :=
  Fun.okD Fn sc_is_count hl ⟨_, fun cdv A outer s H E G H' pn hr hg =>
      (s_one (s_ret (d_and (d_call ⟨cis_integer.ex⟩ hr hg rfl (a_cons (d_name 0) a_nil)) (d_one (d_cmp op_ge ok_cmpI (d_name 0) d_int (nomark _)))))), hR⟩

abbrev s_is_word : Stmt := top 3
theorem sc_is_word : FnScope ["thing", "sign"] ["thing"] (defScope s_is_word) := ⟨rfl, rfl, rfl, by decide +kernel, rfl, by decide +kernel, by decide +kernel⟩
theorem bk_is_word_0 : BlkOk ["thing", "sign"] (defScope s_is_word) { kind := .function, names := [(".0", .local), ("sign", .local)], isGenerator := false, isCoroutine := false, more := [] : Scope } [("sign", 1)] := blkOk_by (by decide +kernel)
def t_is_word : TSD :=
  (seqT (iffT (orB (notB (truT (isiT "str" (nameT 0)))) (notB (blT (chainT (cmpI fun i j => decide (i < j)) (cmpI fun i j => decide (i < j)) (cT (.int 0)) (callT lenR (consA (nameT 0) nilA)) (cT (.int 9)))))) (retT (cT (.bl false))) nextT)
    (retT (callT allR (consA (ofF (lcF (.nm 1) (seqI (nameT 0)) yesT (DL.binT inSg (nameT 1) (cT (.str "abcdefghijklmnopqrstuvwxyz"))) [1])) nilA))))
theorem fn_is_word {n : Nat} {R : RD} {f : Addr} {fd : FuncData} (Fn : Fun K "is_word" "is_word" s_is_word f fd) (z_all : mg "all" = none) (z_isinstance : mg "isinstance" = none) (z_len : mg "len" = none) (z_str : mg "str" = none)
    (hl : ∀ ds k, R ds k → ds.length = 1) (hR : ∀ ds κ, R ds κ → t_is_word (endD κ) (enterS 2 ds)) : FnG P w K mg base CX0 (n + 1) f fd ["thing"] (spD K R) :=
  Fun.okD Fn sc_is_word hl ⟨_, fun cdv A outer s H E G H' pn hr hg =>
      (s_cons (s_if (PW.pt (w_or (t_not (t_tru (d_isi (T' := "str") "str" rfl z_isinstance rfl z_str (by decide +kernel) (d_name 0)))) (w_or1 (t_not (t_chain op_lt ok_cmpI op_lt ok_cmpI d_int (d_len rfl z_len (a_cons (d_name 0) a_nil)) d_int))))) (s_one (s_ret d_bl)) s_nil)
      (s_one (s_ret (d_all rfl rfl z_all (a_cons (d_of (f_lc (.nm 1) rfl sc_is_word.nd (i_seq (d_name 0)) bk_is_word_0 (fun _ _ _ _ _ => (pg_name (i := 1) sc_is_word.nd rfl (Or.inl rfl))) (fun _ _ _ _ _ _ => ts_nil) (fun _ _ _ _ _ _ => (d_cmp op_in_sign ok_inSg (d_name 1) d_str (by rfl))))) a_nil))))), hR⟩

abbrev s_is_code : Stmt := top 6
theorem sc_is_code : FnScope ["thing", "one"] ["thing"] (defScope s_is_code) := ⟨rfl, rfl, rfl, by decide +kernel, rfl, by decide +kernel, by decide +kernel⟩
theorem bk_is_code_0 : BlkOk ["thing", "one"] (defScope s_is_code) { kind := .function, names := [(".0", .local), ("one", .local), ("is_code", .globalImplicit)], isGenerator := false, isCoroutine := false, more := [] : Scope } [("one", 1)] := blkOk_by (by decide +kernel)
theorem bk_is_code_1 : BlkOk ["thing", "one"] (defScope s_is_code) { kind := .function, names := [(".0", .local), ("one", .local), ("is_code", .globalImplicit)], isGenerator := false, isCoroutine := false, more := [] : Scope } [("one", 1)] := blkOk_by (by decide +kernel)
def t_is_code (Ris_word : RD) (Ris_count : RD) (Ris_code : RD) : TSD :=
  (seqT (iffT (orB (notB (truT (isiT "tuple" (nameT 0)))) (orB (blT (DL.binT eqD (callT lenR (consA (nameT 0) nilA)) (cT (.int 0)))) (notB (truT (isiT "str" (DL.binT ixD (nameT 0) (cT (.int 0)))))))) (retT (cT (.bl false))) nextT)
    (seqT (iffT (blT (DL.binT neD (callT lenR (consA (nameT 0) nilA)) (tabT tab_LENGTHS (DL.binT ixD (nameT 0) (cT (.int 0))) (cT (.int 0))))) (retT (cT (.bl false))) nextT)
    (seqT (iffT (blT (DL.binT eqD (DL.binT ixD (nameT 0) (cT (.int 0))) (cT (.str "name")))) (retT (callT Ris_word (consA (DL.binT ixD (nameT 0) (cT (.int 1))) nilA))) nextT)
    (seqT (iffT (blT (DL.binT eqD (DL.binT ixD (nameT 0) (cT (.int 0))) (cT (.str "given")))) (retT (callT Ris_count (consA (DL.binT ixD (nameT 0) (cT (.int 1))) nilA))) nextT)
    (seqT (iffT (blT (DL.binT eqD (DL.binT ixD (nameT 0) (cT (.int 0))) (cT (.str "if")))) (retT (callT allR (consA (ofF (lcF (.nm 1) (seqI (slT slD (nameT 0) (someO (cT (.int 1))) noneO)) yesT (callT Ris_code (consA (nameT 1) nilA)) [1])) nilA))) nextT)
    (seqT (iffT (blT (DL.binT eqD (DL.binT ixD (nameT 0) (cT (.int 0))) (cT (.str "with")))) (retT (andT (callT Ris_word (consA (DL.binT ixD (nameT 0) (cT (.int 1))) nilA)) (andT (callT Ris_code (consA (DL.binT ixD (nameT 0) (cT (.int 2))) nilA)) (callT Ris_code (consA (DL.binT ixD (nameT 0) (cT (.int 3))) nilA))))) nextT)
    (retT (andT (callT Ris_word (consA (DL.binT ixD (nameT 0) (cT (.int 1))) nilA)) (andT (isiT "tuple" (DL.binT ixD (nameT 0) (cT (.int 2)))) (callT allR (consA (ofF (lcF (.nm 1) (seqI (DL.binT ixD (nameT 0) (cT (.int 2)))) yesT (callT Ris_code (consA (nameT 1) nilA)) [1])) nilA)))))))))))
theorem fn_is_code {n : Nat} {R : RD} {f : Addr} {fd : FuncData} {Ris_word Ris_count Ris_code : RD} (Fn : Fun K "is_code" "is_code" s_is_code f fd) (z_all : mg "all" = none) (z_isinstance : mg "isinstance" = none) (z_len : mg "len" = none) (z_str : mg "str" = none) (z_tuple : mg "tuple" = none) (cis_word : CalP P w K mg base n "is_word" Ris_word) (cis_count : CalP P w K mg base n "is_count" Ris_count) (cis_code : CalP P w K mg base n "is_code" Ris_code) (k_LENGTHS : KTab K w mg "LENGTHS" tab_LENGTHS)
    (hl : ∀ ds k, R ds k → ds.length = 1) (hR : ∀ ds κ, R ds κ → t_is_code Ris_word Ris_count Ris_code (endD κ) (enterS 2 ds)) : FnG P w K mg base CX0 (n + 1) f fd ["thing"] (spD K R) :=
  Fun.okD Fn sc_is_code hl ⟨_, fun cdv A outer s H E G H' pn hr hg =>
      (s_cons (s_if (PW.pt (w_or (t_not (t_tru (d_isi (T' := "tuple") "tuple" rfl z_isinstance rfl z_tuple (by decide +kernel) (d_name 0)))) (w_or (t_cmp (op_eqA hr) ok_eq (d_len rfl z_len (a_cons (d_name 0) a_nil)) d_int (nomark _)) (w_or1 (t_not (t_tru (d_isi (T' := "str") "str" rfl z_isinstance rfl z_str (by decide +kernel) (d_ix (d_name 0) d_int)))))))) (s_one (s_ret d_bl)) s_nil)
      (s_cons (s_if (t_cmp (op_neA hr) ok_ne (d_len rfl z_len (a_cons (d_name 0) a_nil)) (d_kget k_LENGTHS rfl (d_ix (d_name 0) d_int) d_int) (nomark _)) (s_one (s_ret d_bl)) s_nil)
      (s_cons (s_if (t_cmp (op_eqA hr) ok_eq (d_ix (d_name 0) d_int) d_str (nomark _)) (s_one (s_ret (d_call ⟨cis_word.ex⟩ hr hg rfl (a_cons (d_ix (d_name 0) d_int) a_nil)))) s_nil)
      (s_cons (s_if (t_cmp (op_eqA hr) ok_eq (d_ix (d_name 0) d_int) d_str (nomark _)) (s_one (s_ret (d_call ⟨cis_count.ex⟩ hr hg rfl (a_cons (d_ix (d_name 0) d_int) a_nil)))) s_nil)
      (s_cons (s_if (t_cmp (op_eqA hr) ok_eq (d_ix (d_name 0) d_int) d_str (nomark _)) (s_one (s_ret (d_all rfl rfl z_all (a_cons (d_of (f_lc (.nm 1) rfl sc_is_code.nd (i_seq (d_slice (d_name 0) (o_some d_int) o_none)) bk_is_code_0 (fun _ _ _ _ _ => (pg_name (i := 1) sc_is_code.nd rfl (Or.inl rfl))) (fun _ _ _ _ _ _ => ts_nil) (fun _ _ _ _ _ _ => (d_call ⟨cis_code.ex⟩ hr hg rfl (a_cons (d_name 1) a_nil))))) a_nil)))) s_nil)
      (s_cons (s_if (t_cmp (op_eqA hr) ok_eq (d_ix (d_name 0) d_int) d_str (nomark _)) (s_one (s_ret (d_and (d_call ⟨cis_word.ex⟩ hr hg rfl (a_cons (d_ix (d_name 0) d_int) a_nil)) (d_and (d_call ⟨cis_code.ex⟩ hr hg rfl (a_cons (d_ix (d_name 0) d_int) a_nil)) (d_one (d_call ⟨cis_code.ex⟩ hr hg rfl (a_cons (d_ix (d_name 0) d_int) a_nil))))))) s_nil)
      (s_one (s_ret (d_and (d_call ⟨cis_word.ex⟩ hr hg rfl (a_cons (d_ix (d_name 0) d_int) a_nil)) (d_and (d_isi (T' := "tuple") "tuple" rfl z_isinstance rfl z_tuple (by decide +kernel) (d_ix (d_name 0) d_int)) (d_one (d_all rfl rfl z_all (a_cons (d_of (f_lc (.nm 1) rfl sc_is_code.nd (i_seq (d_ix (d_name 0) d_int)) bk_is_code_1 (fun _ _ _ _ _ => (pg_name (i := 1) sc_is_code.nd rfl (Or.inl rfl))) (fun _ _ _ _ _ _ => ts_nil) (fun _ _ _ _ _ _ => (d_call ⟨cis_code.ex⟩ hr hg rfl (a_cons (d_name 1) a_nil))))) a_nil))))))))))))), hR⟩

abbrev s_codes_within : Stmt := top 7
theorem sc_codes_within : FnScope ["code"] ["code"] (defScope s_codes_within) := ⟨rfl, rfl, rfl, by decide +kernel, rfl, by decide +kernel, by decide +kernel⟩
def t_codes_within : TSD :=
  (seqT (iffT (blT (DL.binT inD (DL.binT ixD (nameT 0) (cT (.int 0))) (tupT (consA (cT (.str "name")) (consA (cT (.str "given")) nilA))))) (retT (tupT nilA)) nextT)
    (seqT (iffT (blT (DL.binT eqD (DL.binT ixD (nameT 0) (cT (.int 0))) (cT (.str "if")))) (retT (slT slD (nameT 0) (someO (cT (.int 1))) noneO)) nextT)
    (retT (ifT (blT (DL.binT eqD (DL.binT ixD (nameT 0) (cT (.int 0))) (cT (.str "with")))) (slT slD (nameT 0) (someO (cT (.int 2))) noneO) (DL.binT ixD (nameT 0) (cT (.int 2)))))))
theorem fn_codes_within {n : Nat} {R : RD} {f : Addr} {fd : FuncData} (Fn : Fun K "codes_within" "codes_within" s_codes_within f fd)
    (hl : ∀ ds k, R ds k → ds.length = 1) (hR : ∀ ds κ, R ds κ → t_codes_within (endD κ) (enterS 1 ds)) : FnG P w K mg base CX0 (n + 1) f fd ["code"] (spD K R) :=
  Fun.okD Fn sc_codes_within hl ⟨_, fun cdv A outer s H E G H' pn hr hg =>
      (s_cons (s_if (t_cmp (op_inA hr) ok_in (d_ix (d_name 0) d_int) (d_tup (a_cons d_str (a_cons d_str a_nil))) (by rfl)) (s_one (s_ret (d_tup a_nil))) s_nil)
      (s_cons (s_if (t_cmp (op_eqA hr) ok_eq (d_ix (d_name 0) d_int) d_str (nomark _)) (s_one (s_ret (d_slice (d_name 0) (o_some d_int) o_none))) s_nil)
      (s_one (s_ret (d_if (t_cmp (op_eqA hr) ok_eq (d_ix (d_name 0) d_int) d_str (nomark _)) (d_slice (d_name 0) (o_some d_int) o_none) (d_ix (d_name 0) d_int)))))), hR⟩

abbrev s_with_codes : Stmt := top 8
theorem sc_with_codes : FnScope ["code", "codes"] ["code", "codes"] (defScope s_with_codes) := ⟨rfl, rfl, rfl, by decide +kernel, rfl, by decide +kernel, by decide +kernel⟩
def t_with_codes : TSD :=
  (seqT (iffT (blT (DL.binT inD (DL.binT ixD (nameT 0) (cT (.int 0))) (tupT (consA (cT (.str "name")) (consA (cT (.str "given")) nilA))))) (retT (nameT 0)) nextT)
    (seqT (iffT (blT (DL.binT eqD (DL.binT ixD (nameT 0) (cT (.int 0))) (cT (.str "if")))) (retT (tupT (consA (cT (.str "if")) (starA (nameT 1) nilA)))) nextT)
    (retT (ifT (blT (DL.binT eqD (DL.binT ixD (nameT 0) (cT (.int 0))) (cT (.str "with")))) (tupT (consA (cT (.str "with")) (consA (DL.binT ixD (nameT 0) (cT (.int 1))) (starA (nameT 1) nilA)))) (tupT (consA (DL.binT ixD (nameT 0) (cT (.int 0))) (consA (DL.binT ixD (nameT 0) (cT (.int 1))) (consA (callT tupR (consA (nameT 1) nilA)) nilA))))))))
theorem fn_with_codes {n : Nat} {R : RD} {f : Addr} {fd : FuncData} (Fn : Fun K "with_codes" "with_codes" s_with_codes f fd) (z_tuple : mg "tuple" = none)
    (hl : ∀ ds k, R ds k → ds.length = 2) (hR : ∀ ds κ, R ds κ → t_with_codes (endD κ) (enterS 2 ds)) : FnG P w K mg base CX0 (n + 1) f fd ["code", "codes"] (spD K R) :=
  Fun.okD Fn sc_with_codes hl ⟨_, fun cdv A outer s H E G H' pn hr hg =>
      (s_cons (s_if (t_cmp (op_inA hr) ok_in (d_ix (d_name 0) d_int) (d_tup (a_cons d_str (a_cons d_str a_nil))) (by rfl)) (s_one (s_ret (d_name 0))) s_nil)
      (s_cons (s_if (t_cmp (op_eqA hr) ok_eq (d_ix (d_name 0) d_int) d_str (nomark _)) (s_one (s_ret (d_tup (a_cons d_str (a_star (d_name 1) a_nil))))) s_nil)
      (s_one (s_ret (d_if (t_cmp (op_eqA hr) ok_eq (d_ix (d_name 0) d_int) d_str (nomark _)) (d_tup (a_cons d_str (a_cons (d_ix (d_name 0) d_int) (a_star (d_name 1) a_nil)))) (d_tup (a_cons (d_ix (d_name 0) d_int) (a_cons (d_ix (d_name 0) d_int) (a_cons (d_totup rfl z_tuple (a_cons (d_name 1) a_nil)) a_nil))))))))), hR⟩

abbrev s_free_in : Stmt := top 9
theorem sc_free_in : FnScope ["code", "found", "at", "one", "name"] ["code"] (defScope s_free_in) := ⟨rfl, rfl, rfl, by decide +kernel, rfl, by decide +kernel, by decide +kernel⟩
def t_free_in (Rcodes_within : RD) (Rfree_in : RD) : TSD :=
  (seqT (iffT (blT (DL.binT eqD (DL.binT ixD (nameT 0) (cT (.int 0))) (cT (.str "name")))) (retT (ofF (lstF (consA (DL.binT ixD (nameT 0) (cT (.int 1))) nilA)))) nextT)
    (seqT (newR 1 emptyR)
    (seqT (forT (.tp [2, 3]) (enumI (consA (callT Rcodes_within (consA (nameT 0) nilA)) nilA)) (forT (.nm 4) (seqI (callT Rfree_in (consA (nameT 3) nilA))) (iffT (orB (blT (DL.binT neD (DL.binT ixD (nameT 0) (cT (.int 0))) (cT (.str "with")))) (orB (blT (DL.binT eqD (nameT 2) (cT (.int 0)))) (blT (DL.binT neD (nameT 4) (DL.binT ixD (nameT 0) (cT (.int 1))))))) (dputK 1 (nameT 4) (cT (.bl true))) nextT)))
    (frzT 1 (retT (callT listKR (consA (nameT 1) nilA)))))))
theorem fn_free_in {n : Nat} {R : RD} {f : Addr} {fd : FuncData} {Rcodes_within Rfree_in : RD} (Fn : Fun K "free_in" "free_in" s_free_in f fd) (z_enumerate : mg "enumerate" = none) (z_list : mg "list" = none) (ccodes_within : CalP P w K mg base n "codes_within" Rcodes_within) (cfree_in : CalP P w K mg base n "free_in" Rfree_in)
    (hl : ∀ ds k, R ds k → ds.length = 1) (hR : ∀ ds κ, R ds κ → t_free_in Rcodes_within Rfree_in (endD κ) (enterS 5 ds)) : FnG P w K mg base CX0 (n + 1) f fd ["code"] (spD K R) :=
  Fun.okD Fn sc_free_in hl ⟨_, fun cdv A outer s H E G H' pn hr hg =>
      (s_cons (s_if (t_cmp (op_eqA hr) ok_eq (d_ix (d_name 0) d_int) d_str (nomark _)) (s_one (s_ret (d_of (f_lst (a_cons (d_ix (d_name 0) d_int) a_nil))))) s_nil)
      (s_cons (s_newR (i := 1) sc_free_in.nd rfl (Or.inl rfl) r_dictE)
      (s_cons (s_for (t := (.tp [2, 3])) PassesOwn.never rfl (i_enum rfl z_enumerate (a_cons (d_call ⟨ccodes_within.ex⟩ hr hg rfl (a_cons (d_name 0) a_nil)) a_nil)) (pg_tup rfl (pgs_cons (pg_name (i := 2) sc_free_in.nd rfl (Or.inl rfl)) (pgs_cons (pg_name (i := 3) sc_free_in.nd rfl (Or.inl rfl)) pgs_nil))) (fun _ => (s_one (s_for (t := (.nm 4)) PassesOwn.never rfl (i_seq (d_call ⟨cfree_in.ex⟩ hr hg rfl (a_cons (d_name 3) a_nil))) (pg_name (i := 4) sc_free_in.nd rfl (Or.inl rfl)) (fun _ => (s_one (s_if (PW.pt (w_or (t_cmp (op_neA hr) ok_ne (d_ix (d_name 0) d_int) d_str (nomark _)) (w_or (t_cmp (op_eqA hr) ok_eq (d_name 2) d_int (nomark _)) (w_or1 (t_cmp (op_neA hr) ok_ne (d_name 4) (d_ix (d_name 0) d_int) (nomark _)))))) (s_one (s_dputK 1 hr d_bl (d_name 4))) s_nil)))))))
      (ss_frz 1 (s_one (s_ret (d_listK rfl rfl z_list (a_cons (d_name 1) a_nil)))))))), hR⟩

abbrev s_free_names : Stmt := top 10
theorem sc_free_names : FnScope ["code"] ["code"] (defScope s_free_names) := ⟨rfl, rfl, rfl, by decide +kernel, rfl, by decide +kernel, by decide +kernel⟩
def t_free_names (Rfree_in : RD) : TSD :=
  (retT (ofF (sortF (consA (callT Rfree_in (consA (nameT 0) nilA)) nilA))))
theorem fn_free_names {n : Nat} {R : RD} {f : Addr} {fd : FuncData} {Rfree_in : RD} (Fn : Fun K "free_names" "free_names" s_free_names f fd) (z_sorted : mg "sorted" = none) (cfree_in : CalP P w K mg base n "free_in" Rfree_in)
    (hl : ∀ ds k, R ds k → ds.length = 1) (hR : ∀ ds κ, R ds κ → t_free_names Rfree_in (endD κ) (enterS 1 ds)) : FnG P w K mg base CX0 (n + 1) f fd ["code"] (spD K R) :=
  Fun.okD Fn sc_free_names hl ⟨_, fun cdv A outer s H E G H' pn hr hg =>
      (s_one (s_ret (d_of (f_sort rfl z_sorted (a_cons (d_call ⟨cfree_in.ex⟩ hr hg rfl (a_cons (d_name 0) a_nil)) a_nil))))), hR⟩

abbrev s_word_of : Stmt := top 13
theorem sc_word_of : FnScope ["at", "word"] ["at"] (defScope s_word_of) := ⟨rfl, rfl, rfl, by decide +kernel, rfl, by decide +kernel, by decide +kernel⟩
def t_word_of : TSD :=
  (seqT (setT 1 (DL.binT ixD (cT (.str txt_LETTERS)) (DL.binT modD (nameT 0) (cT (.int 26)))))
    (seqT (whileT (blT (DL.binT (cmpI fun i j => decide (i > j)) (nameT 0) (cT (.int 25)))) (seqT (setT 0 (DL.binT subD (DL.binT fdivD (nameT 0) (cT (.int 26))) (cT (.int 1))))
    (setT 1 (DL.binT addD (DL.binT ixD (cT (.str txt_LETTERS)) (DL.binT modD (nameT 0) (cT (.int 26)))) (nameT 1)))))
    (retT (nameT 1))))
theorem fn_word_of {n : Nat} {R : RD} {f : Addr} {fd : FuncData} (Fn : Fun K "word_of" "word_of" s_word_of f fd) (x_LETTERS : ∃ t, mg "LETTERS" = some (.str txt_LETTERS t))
    (hl : ∀ ds k, R ds k → ds.length = 1) (hR : ∀ ds κ, R ds κ → t_word_of (endD κ) (enterS 2 ds)) : FnG P w K mg base CX0 (n + 1) f fd ["at"] (spD K R) :=
  Fun.okD Fn sc_word_of hl ⟨_, fun cdv A outer s H E G H' pn hr hg =>
      (s_cons (s_set (i := 1) sc_word_of.nd rfl (Or.inl rfl) (d_ix (d_glob x_LETTERS rfl) (d_mod (d_name 0) d_int)))
      (s_cons (s_while PassesOwn.never (t_cmp op_gt ok_cmpI (d_name 0) d_int (nomark _)) (s_cons (s_set (i := 0) sc_word_of.nd rfl (Or.inl rfl) (d_sub (d_fdiv (d_name 0) d_int) d_int))
      (s_one (s_set (i := 1) sc_word_of.nd rfl (Or.inl rfl) (d_add (d_ix (d_glob x_LETTERS rfl) (d_mod (d_name 0) d_int)) (d_name 1))))))
      (s_one (s_ret (d_name 1))))), hR⟩

abbrev s_fresh_word : Stmt := top 14
theorem sc_fresh_word : FnScope ["words", "at"] ["words"] (defScope s_fresh_word) := ⟨rfl, rfl, rfl, by decide +kernel, rfl, by decide +kernel, by decide +kernel⟩
def t_fresh_word (Rword_of : RD) : TSD :=
  (seqT (setT 1 (cT (.int 0)))
    (seqT (whileT (blT (DL.binT inD (callT Rword_of (consA (nameT 1) nilA)) (nameT 0))) (augI 1 (cT (.int 1))))
    (retT (callT Rword_of (consA (nameT 1) nilA)))))
theorem fn_fresh_word {n : Nat} {R : RD} {f : Addr} {fd : FuncData} {Rword_of : RD} (Fn : Fun K "fresh_word" "fresh_word" s_fresh_word f fd) (cword_of : CalP P w K mg base n "word_of" Rword_of)
    (hl : ∀ ds k, R ds k → ds.length = 1) (hR : ∀ ds κ, R ds κ → t_fresh_word Rword_of (endD κ) (enterS 2 ds)) : FnG P w K mg base CX0 (n + 1) f fd ["words"] (spD K R) :=
  Fun.okD Fn sc_fresh_word hl ⟨_, fun cdv A outer s H E G H' pn hr hg =>
      (s_cons (s_set (i := 1) sc_fresh_word.nd rfl (Or.inl rfl) d_int)
      (s_cons (s_while PassesOwn.never (t_cmp (op_inA hr) ok_in (d_call ⟨cword_of.ex⟩ hr hg rfl (a_cons (d_name 1) a_nil)) (d_name 0) (by rfl)) (s_one (s_augI (i := 1) sc_fresh_word.nd rfl (Or.inl rfl) d_int)))
      (s_one (s_ret (d_call ⟨cword_of.ex⟩ hr hg rfl (a_cons (d_name 1) a_nil)))))), hR⟩

abbrev s_put_all : Stmt := top 15
theorem sc_put_all : FnScope ["code", "parts", "name", "body", "left", "caught", "other", "one", "key", "part"] ["code", "parts"] (defScope s_put_all) := ⟨rfl, rfl, rfl, by decide +kernel, rfl, by decide +kernel, by decide +kernel⟩
theorem bk_put_all_0 : BlkOk ["code", "parts", "name", "body", "left", "caught", "other", "one", "key", "part"] (defScope s_put_all) { kind := .function, names := [(".0", .local), ("one", .local), ("put_all", .globalImplicit), ("parts", .free)], isGenerator := false, isCoroutine := false, more := [] : Scope } [("one", 7)] := blkOk_by (by decide +kernel)
theorem bk_put_all_1 : BlkOk ["code", "parts", "name", "body", "left", "caught", "other", "one", "key", "part"] (defScope s_put_all) { kind := .function, names := [(".0", .local), ("key", .local), ("free_in", .globalImplicit), ("body", .free), ("name", .free), ("parts", .free)], isGenerator := false, isCoroutine := false, more := [] : Scope } [("key", 8)] := blkOk_by (by decide +kernel)
theorem bk_put_all_2 : BlkOk ["code", "parts", "name", "body", "left", "caught", "other", "one", "key", "part"] (defScope s_put_all) { kind := .function, names := [(".0", .local), ("part", .local), ("one", .local), ("free_in", .globalImplicit)], isGenerator := false, isCoroutine := false, more := [] : Scope } [("part", 9), ("one", 7)] := blkOk_by (by decide +kernel)
def t_put_all (Rcodes_within : RD) (Rput_all : RD) (Rwith_codes : RD) (Rfree_in : RD) (Rfresh_word : RD) : TSD :=
  (seqT (iffT (blT (DL.binT eqD (DL.binT ixD (nameT 0) (cT (.int 0))) (cT (.str "name")))) (retT (getT2 (nameT 1) (DL.binT ixD (nameT 0) (cT (.int 1))) (nameT 0))) nextT)
    (seqT (iffT (blT (DL.binT neD (DL.binT ixD (nameT 0) (cT (.int 0))) (cT (.str "with")))) (retT (callT Rwith_codes (consA (nameT 0) (consA (ofF (lcF (.nm 7) (seqI (callT Rcodes_within (consA (nameT 0) nilA))) yesT (callT Rput_all (consA (nameT 7) (consA (nameT 1) nilA))) [7])) nilA)))) nextT)
    (seqT (tgtT (.tp [2, 3]) (tupT (consA (DL.binT ixD (nameT 0) (cT (.int 1))) (consA (DL.binT ixD (nameT 0) (cT (.int 3))) nilA))))
    (seqT (setT 4 (dcT (.nm 8) (keysI (nameT 1)) (andB (blT (DL.binT neD (nameT 8) (nameT 2))) (blT (DL.binT inD (nameT 8) (callT Rfree_in (consA (nameT 3) nilA))))) (nameT 8) (dixT (nameT 1) (nameT 8)) [8]))
    (seqT (setT 5 (ofF (lc2F 9 (valsI (nameT 4)) yesT (.nm 7) (seqI (callT Rfree_in (consA (nameT 9) nilA))) yesT (nameT 7) [9, 7] [7])))
    (seqT (iffT (blT (DL.binT inD (nameT 2) (nameT 5))) (seqT (setT 6 (callT Rfresh_word (consA (ofF (lstF (starA (nameT 5) (starA (callT Rfree_in (consA (nameT 3) nilA)) nilA)))) nilA)))
    (tgtT (.tp [3, 2]) (tupT (consA (callT Rput_all (consA (nameT 3) (consA (disp1T (nameT 2) (tupT (consA (cT (.str "name")) (consA (nameT 6) nilA)))) nilA))) (consA (nameT 6) nilA))))) nextT)
    (retT (tupT (consA (cT (.str "with")) (consA (nameT 2) (consA (callT Rput_all (consA (DL.binT ixD (nameT 0) (cT (.int 2))) (consA (nameT 1) nilA))) (consA (callT Rput_all (consA (nameT 3) (consA (nameT 4) nilA))) nilA))))))))))))
theorem fn_put_all {n : Nat} {R : RD} {f : Addr} {fd : FuncData} {Rcodes_within Rput_all Rwith_codes Rfree_in Rfresh_word : RD} (Fn : Fun K "put_all" "put_all" s_put_all f fd) (ccodes_within : CalP P w K mg base n "codes_within" Rcodes_within) (cput_all : CalP P w K mg base n "put_all" Rput_all) (cwith_codes : CalP P w K mg base n "with_codes" Rwith_codes) (cfree_in : CalP P w K mg base n "free_in" Rfree_in) (cfresh_word : CalP P w K mg base n "fresh_word" Rfresh_word)
    (hl : ∀ ds k, R ds k → ds.length = 2) (hR : ∀ ds κ, R ds κ → t_put_all Rcodes_within Rput_all Rwith_codes Rfree_in Rfresh_word (endD κ) (enterS 10 ds)) : FnG P w K mg base CX0 (n + 1) f fd ["code", "parts"] (spD K R) :=
  Fun.okD Fn sc_put_all hl ⟨_, fun cdv A outer s H E G H' pn hr hg =>
      (s_cons (s_if (t_cmp (op_eqA hr) ok_eq (d_ix (d_name 0) d_int) d_str (nomark _)) (s_one (s_ret (d_get2 hr (d_name 1) (d_ix (d_name 0) d_int) (d_name 0)))) s_nil)
      (s_cons (s_if (t_cmp (op_neA hr) ok_ne (d_ix (d_name 0) d_int) d_str (nomark _)) (s_one (s_ret (d_call ⟨cwith_codes.ex⟩ hr hg rfl (a_cons (d_name 0) (a_cons (d_of (f_lc (.nm 7) rfl sc_put_all.nd (i_seq (d_call ⟨ccodes_within.ex⟩ hr hg rfl (a_cons (d_name 0) a_nil))) bk_put_all_0 (fun _ _ _ _ _ => (pg_name (i := 7) sc_put_all.nd rfl (Or.inl rfl))) (fun _ _ _ _ _ _ => ts_nil) (fun _ _ _ _ _ _ => (d_call ⟨cput_all.ex⟩ hr hg rfl (a_cons (d_name 7) (a_cons (d_name 1) a_nil)))))) a_nil))))) s_nil)
      (s_cons (s_tgt (.tp [2, 3]) (d_tup (a_cons (d_ix (d_name 0) d_int) (a_cons (d_ix (d_name 0) d_int) a_nil))) (pg_tup rfl (pgs_cons (pg_name (i := 2) sc_put_all.nd rfl (Or.inr rfl)) (pgs_cons (pg_name (i := 3) sc_put_all.nd rfl (Or.inr rfl)) pgs_nil))))
      (s_cons (s_setDc (i := 4) (.nm 8) rfl sc_put_all.nd rfl rfl (by rfl) (i_keys (d_name 1)) bk_put_all_1 (fun _ _ _ _ _ => (pg_name (i := 8) sc_put_all.nd rfl (Or.inl rfl))) (fun _ _ _ _ _ _ => (ts_one (PW.pt (w_and (t_cmp (op_neA hr) ok_ne (d_name 8) (d_name 2) (nomark _)) (w_and1 (t_cmp (op_inA hr) ok_in (d_name 8) (d_call ⟨cfree_in.ex⟩ hr hg rfl (a_cons (d_name 3) a_nil)) (by rfl))))))) (fun _ _ _ _ _ _ => (d_name 8)) (fun _ _ _ _ _ _ => (d_dix hr (d_name 1) (d_name 8))))
      (s_cons (s_setLc2 (i0 := 5) 9 (.nm 7) [7] rfl sc_put_all.nd rfl rfl (by rfl) (i_vals (d_name 4)) bk_put_all_2 (fun _ _ _ _ _ => (pg_name (i := 9) sc_put_all.nd rfl (Or.inl rfl))) (fun _ _ _ _ _ _ => ts_nil) (fun _ _ _ _ _ _ => (i_seq (d_call ⟨cfree_in.ex⟩ hr hg rfl (a_cons (d_name 9) a_nil)))) (fun _ _ _ _ _ => (pg_name (i := 7) sc_put_all.nd rfl (Or.inl rfl))) (fun _ _ _ _ _ _ => ts_nil) (fun _ _ _ _ _ _ => (d_name 7)))
      (s_cons (s_if (t_cmp (op_inA hr) ok_in (d_name 2) (d_name 5) (by rfl)) (s_cons (s_set (i := 6) sc_put_all.nd rfl (Or.inl rfl) (d_call ⟨cfresh_word.ex⟩ hr hg rfl (a_cons (d_of (f_lst (a_star (d_name 5) (a_star (d_call ⟨cfree_in.ex⟩ hr hg rfl (a_cons (d_name 3) a_nil)) a_nil)))) a_nil)))
      (s_one (s_tgt (.tp [3, 2]) (d_tup (a_cons (d_call ⟨cput_all.ex⟩ hr hg rfl (a_cons (d_name 3) (a_cons (d_disp1 (d_name 2) (d_tup (a_cons d_str (a_cons (d_name 6) a_nil)))) a_nil))) (a_cons (d_name 6) a_nil))) (pg_tup rfl (pgs_cons (pg_name (i := 3) sc_put_all.nd rfl (Or.inr rfl)) (pgs_cons (pg_name (i := 2) sc_put_all.nd rfl (Or.inr rfl)) pgs_nil)))))) s_nil)
      (s_one (s_ret (d_tup (a_cons d_str (a_cons (d_name 2) (a_cons (d_call ⟨cput_all.ex⟩ hr hg rfl (a_cons (d_ix (d_name 0) d_int) (a_cons (d_name 1) a_nil))) (a_cons (d_call ⟨cput_all.ex⟩ hr hg rfl (a_cons (d_name 3) (a_cons (d_name 4) a_nil))) a_nil))))))))))))), hR⟩

abbrev s_renamed : Stmt := top 16
theorem sc_renamed : FnScope ["code", "names", "name", "word"] ["code", "names"] (defScope s_renamed) := ⟨rfl, rfl, rfl, by decide +kernel, rfl, by decide +kernel, by decide +kernel⟩
theorem bk_renamed_0 : BlkOk ["code", "names", "name", "word"] (defScope s_renamed) { kind := .function, names := [(".0", .local), ("name", .local), ("word", .local)], isGenerator := false, isCoroutine := false, more := [] : Scope } [("name", 2), ("word", 3)] := blkOk_by (by decide +kernel)
def t_renamed (Rput_all : RD) : TSD :=
  (retT (callT Rput_all (consA (nameT 0) (consA (dcT (.tp [2, 3]) (itemsI (nameT 1)) yesT (nameT 2) (tupT (consA (cT (.str "name")) (consA (nameT 3) nilA))) [2, 3]) nilA))))
theorem fn_renamed {n : Nat} {R : RD} {f : Addr} {fd : FuncData} {Rput_all : RD} (Fn : Fun K "renamed" "renamed" s_renamed f fd) (cput_all : CalP P w K mg base n "put_all" Rput_all)
    (hl : ∀ ds k, R ds k → ds.length = 2) (hR : ∀ ds κ, R ds κ → t_renamed Rput_all (endD κ) (enterS 4 ds)) : FnG P w K mg base CX0 (n + 1) f fd ["code", "names"] (spD K R) :=
  Fun.okD Fn sc_renamed hl ⟨_, fun cdv A outer s H E G H' pn hr hg =>
      (s_one (s_ret (d_call ⟨cput_all.ex⟩ hr hg rfl (a_cons (d_name 0) (a_cons (d_dc (.tp [2, 3]) rfl sc_renamed.nd (i_items (d_name 1)) bk_renamed_0 (fun _ _ _ _ _ => (pg_tup rfl (pgs_cons (pg_name (i := 2) sc_renamed.nd rfl (Or.inl rfl)) (pgs_cons (pg_name (i := 3) sc_renamed.nd rfl (Or.inl rfl)) pgs_nil)))) (fun _ _ _ _ _ _ => ts_nil) (fun _ _ _ _ _ _ => (d_name 2)) (fun _ _ _ _ _ _ => (d_tup (a_cons d_str (a_cons (d_name 3) a_nil))))) a_nil))))), hR⟩

abbrev s_are_like : Stmt := top 17
theorem sc_are_like : FnScope ["one", "other", "bound", "mine", "its", "inside"] ["one", "other", "bound"] (defScope s_are_like) := ⟨rfl, rfl, rfl, by decide +kernel, rfl, by decide +kernel, by decide +kernel⟩
theorem bk_are_like_0 : BlkOk ["one", "other", "bound", "mine", "its", "inside"] (defScope s_are_like) { kind := .function, names := [(".0", .local), ("mine", .local), ("its", .local), ("are_like", .globalImplicit), ("bound", .free)], isGenerator := false, isCoroutine := false, more := [] : Scope } [("mine", 3), ("its", 4)] := blkOk_by (by decide +kernel)
def t_are_like (Rare_like : RD) (Rcodes_within : RD) : TSD :=
  (seqT (iffT (blT (DL.binT neD (DL.binT ixD (nameT 0) (cT (.int 0))) (DL.binT ixD (nameT 1) (cT (.int 0))))) (retT (cT (.bl false))) nextT)
    (seqT (iffT (blT (DL.binT eqD (DL.binT ixD (nameT 0) (cT (.int 0))) (cT (.str "name")))) (seqT (forT (.tp [3, 4]) (seqI (ofF (revF (nameT 2)))) (iffT (orB (blT (DL.binT eqD (nameT 3) (DL.binT ixD (nameT 0) (cT (.int 1))))) (blT (DL.binT eqD (nameT 4) (DL.binT ixD (nameT 1) (cT (.int 1)))))) (retT (andT (DL.binT eqD (nameT 3) (DL.binT ixD (nameT 0) (cT (.int 1)))) (DL.binT eqD (nameT 4) (DL.binT ixD (nameT 1) (cT (.int 1)))))) nextT))
    (retT (DL.binT eqD (DL.binT ixD (nameT 0) (cT (.int 1))) (DL.binT ixD (nameT 1) (cT (.int 1)))))) nextT)
    (seqT (iffT (blT (DL.binT eqD (DL.binT ixD (nameT 0) (cT (.int 0))) (cT (.str "with")))) (seqT (setT 5 (ofF (lstF (starA (nameT 2) (consA (tupT (consA (DL.binT ixD (nameT 0) (cT (.int 1))) (consA (DL.binT ixD (nameT 1) (cT (.int 1))) nilA))) nilA)))))
    (retT (andT (callT Rare_like (consA (DL.binT ixD (nameT 0) (cT (.int 2))) (consA (DL.binT ixD (nameT 1) (cT (.int 2))) (consA (nameT 2) nilA)))) (callT Rare_like (consA (DL.binT ixD (nameT 0) (cT (.int 3))) (consA (DL.binT ixD (nameT 1) (cT (.int 3))) (consA (nameT 5) nilA))))))) nextT)
    (seqT (iffT (blT (DL.binT eqD (DL.binT ixD (nameT 0) (cT (.int 0))) (cT (.str "given")))) (retT (DL.binT eqD (nameT 0) (nameT 1))) nextT)
    (seqT (iffT (orB (andB (blT (DL.binT neD (DL.binT ixD (nameT 0) (cT (.int 0))) (cT (.str "if")))) (blT (DL.binT neD (DL.binT ixD (nameT 0) (cT (.int 1))) (DL.binT ixD (nameT 1) (cT (.int 1)))))) (blT (DL.binT neD (callT lenR (consA (callT Rcodes_within (consA (nameT 0) nilA)) nilA)) (callT lenR (consA (callT Rcodes_within (consA (nameT 1) nilA)) nilA))))) (retT (cT (.bl false))) nextT)
    (retT (callT allR (consA (ofF (lcF (.tp [3, 4]) (zipI (consA (callT Rcodes_within (consA (nameT 0) nilA)) (consA (callT Rcodes_within (consA (nameT 1) nilA)) nilA))) yesT (callT Rare_like (consA (nameT 3) (consA (nameT 4) (consA (nameT 2) nilA)))) [3, 4])) nilA))))))))
theorem fn_are_like {n : Nat} {R : RD} {f : Addr} {fd : FuncData} {Rare_like Rcodes_within : RD} (Fn : Fun K "are_like" "are_like" s_are_like f fd) (z_all : mg "all" = none) (z_len : mg "len" = none) (z_zip : mg "zip" = none) (care_like : CalP P w K mg base n "are_like" Rare_like) (ccodes_within : CalP P w K mg base n "codes_within" Rcodes_within)
    (hl : ∀ ds k, R ds k → ds.length = 3) (hR : ∀ ds κ, R ds κ → t_are_like Rare_like Rcodes_within (endD κ) (enterS 6 ds)) : FnG P w K mg base CX0 (n + 1) f fd ["one", "other", "bound"] (spD K R) :=
  Fun.okD Fn sc_are_like hl ⟨_, fun cdv A outer s H E G H' pn hr hg =>
      (s_cons (s_if (t_cmp (op_neA hr) ok_ne (d_ix (d_name 0) d_int) (d_ix (d_name 1) d_int) (nomark _)) (s_one (s_ret d_bl)) s_nil)
      (s_cons (s_if (t_cmp (op_eqA hr) ok_eq (d_ix (d_name 0) d_int) d_str (nomark _)) (s_cons (s_for (t := (.tp [3, 4])) PassesOwn.never rfl (i_seq (d_of (f_rev (d_name 2)))) (pg_tup rfl (pgs_cons (pg_name (i := 3) sc_are_like.nd rfl (Or.inl rfl)) (pgs_cons (pg_name (i := 4) sc_are_like.nd rfl (Or.inl rfl)) pgs_nil))) (fun _ => (s_one (s_if (PW.pt (w_or (t_cmp (op_eqA hr) ok_eq (d_name 3) (d_ix (d_name 0) d_int) (nomark _)) (w_or1 (t_cmp (op_eqA hr) ok_eq (d_name 4) (d_ix (d_name 1) d_int) (nomark _))))) (s_one (s_ret (d_and (d_cmp (op_eqA hr) ok_eq (d_name 3) (d_ix (d_name 0) d_int) (nomark _)) (d_one (d_cmp (op_eqA hr) ok_eq (d_name 4) (d_ix (d_name 1) d_int) (nomark _)))))) s_nil))))
      (s_one (s_ret (d_cmp (op_eqA hr) ok_eq (d_ix (d_name 0) d_int) (d_ix (d_name 1) d_int) (nomark _))))) s_nil)
      (s_cons (s_if (t_cmp (op_eqA hr) ok_eq (d_ix (d_name 0) d_int) d_str (nomark _)) (s_cons (s_set (i := 5) sc_are_like.nd rfl (Or.inl rfl) (d_of (f_lst (a_star (d_name 2) (a_cons (d_tup (a_cons (d_ix (d_name 0) d_int) (a_cons (d_ix (d_name 1) d_int) a_nil))) a_nil)))))
      (s_one (s_ret (d_and (d_call ⟨care_like.ex⟩ hr hg rfl (a_cons (d_ix (d_name 0) d_int) (a_cons (d_ix (d_name 1) d_int) (a_cons (d_name 2) a_nil)))) (d_one (d_call ⟨care_like.ex⟩ hr hg rfl (a_cons (d_ix (d_name 0) d_int) (a_cons (d_ix (d_name 1) d_int) (a_cons (d_name 5) a_nil))))))))) s_nil)
      (s_cons (s_if (t_cmp (op_eqA hr) ok_eq (d_ix (d_name 0) d_int) d_str (nomark _)) (s_one (s_ret (d_cmp (op_eqA hr) ok_eq (d_name 0) (d_name 1) (nomark _)))) s_nil)
      (s_cons (s_if (PW.pt (w_or (PW.pt (w_and (t_cmp (op_neA hr) ok_ne (d_ix (d_name 0) d_int) d_str (nomark _)) (w_and1 (t_cmp (op_neA hr) ok_ne (d_ix (d_name 0) d_int) (d_ix (d_name 1) d_int) (nomark _))))) (w_or1 (t_cmp (op_neA hr) ok_ne (d_len rfl z_len (a_cons (d_call ⟨ccodes_within.ex⟩ hr hg rfl (a_cons (d_name 0) a_nil)) a_nil)) (d_len rfl z_len (a_cons (d_call ⟨ccodes_within.ex⟩ hr hg rfl (a_cons (d_name 1) a_nil)) a_nil)) (nomark _))))) (s_one (s_ret d_bl)) s_nil)
      (s_one (s_ret (d_all rfl rfl z_all (a_cons (d_of (f_lc (.tp [3, 4]) rfl sc_are_like.nd (i_zip rfl z_zip (a_cons (d_call ⟨ccodes_within.ex⟩ hr hg rfl (a_cons (d_name 0) a_nil)) (a_cons (d_call ⟨ccodes_within.ex⟩ hr hg rfl (a_cons (d_name 1) a_nil)) a_nil))) bk_are_like_0 (fun _ _ _ _ _ => (pg_tup rfl (pgs_cons (pg_name (i := 3) sc_are_like.nd rfl (Or.inl rfl)) (pgs_cons (pg_name (i := 4) sc_are_like.nd rfl (Or.inl rfl)) pgs_nil)))) (fun _ _ _ _ _ _ => ts_nil) (fun _ _ _ _ _ _ => (d_call ⟨care_like.ex⟩ hr hg rfl (a_cons (d_name 3) (a_cons (d_name 4) (a_cons (d_name 2) a_nil))))))) a_nil))))))))), hR⟩

abbrev s_same_but_bound : Stmt := top 18
theorem sc_same_but_bound : FnScope ["one", "other"] ["one", "other"] (defScope s_same_but_bound) := ⟨rfl, rfl, rfl, by decide +kernel, rfl, by decide +kernel, by decide +kernel⟩
def t_same_but_bound (Rare_like : RD) : TSD :=
  (retT (callT Rare_like (consA (nameT 0) (consA (nameT 1) (consA (ofF (lstF nilA)) nilA)))))
theorem fn_same_but_bound {n : Nat} {R : RD} {f : Addr} {fd : FuncData} {Rare_like : RD} (Fn : Fun K "same_but_bound" "same_but_bound" s_same_but_bound f fd) (care_like : CalP P w K mg base n "are_like" Rare_like)
    (hl : ∀ ds k, R ds k → ds.length = 2) (hR : ∀ ds κ, R ds κ → t_same_but_bound Rare_like (endD κ) (enterS 2 ds)) : FnG P w K mg base CX0 (n + 1) f fd ["one", "other"] (spD K R) :=
  Fun.okD Fn sc_same_but_bound hl ⟨_, fun cdv A outer s H E G H' pn hr hg =>
      (s_one (s_ret (d_call ⟨care_like.ex⟩ hr hg rfl (a_cons (d_name 0) (a_cons (d_name 1) (a_cons (d_of (f_lst a_nil)) a_nil)))))), hR⟩

abbrev s_L_bag : Stmt := top 20
theorem sc_L_bag : FnScope ["_law_script", "_law_cell"] ["_law_script"] (defScope s_L_bag) := ⟨rfl, rfl, rfl, by decide +kernel, rfl, by decide +kernel, by decide +kernel⟩
theorem bk_L_bag_0 : BlkOk ["_law_script", "_law_cell"] (defScope s_L_bag) { kind := .function, names := [(".0", .local), ("_law_cell", .local), ("abs", .globalImplicit)], isGenerator := false, isCoroutine := false, more := [] : Scope } [("_law_cell", 1)] := blkOk_by (by decide +kernel)
theorem fn_L_bag {n : Nat} {f : Addr} {fd : FuncData} (Fn : Fun K "_law_bag" "_law_bag" s_L_bag f fd) (z_abs : mg "abs" = none) : FnG P w K mg base CX0 (n + 1) f fd ["_law_script"] (spBag K 1234567891) :=
  Fun.okBag Fn sc_L_bag ⟨_, fun cdv A outer s H E =>
    (pss_one (ps_ret (pe_lst (pa_cons pe_int (pa_cons pe_int (pa_cons pe_int (pa_cons (pe_lc rfl sc_L_bag.nd (pi_list (pe_slice sl_list (pv 0) po_none (po_some pe_int))) bk_L_bag_0 (fun _ _ _ _ _ => (pg_name (i := 1) sc_L_bag.nd rfl (Or.inl rfl))) (fun _ _ _ _ _ => pts_nil) (fun _ _ _ _ _ => (pe_callB call_abs rfl z_abs (by decide +kernel) (pa_cons (pv 1) pa_nil)))) pa_nil))))))), fun _ _ _ h => h⟩

abbrev s_L_take : Stmt := top 21
theorem sc_L_take : FnScope ["_law_bag_here", "_law_many", "_law_cell", "_law_stirred", "_law_value", "_law_begin", "_law_second"] ["_law_bag_here", "_law_many"] (defScope s_L_take) := ⟨rfl, rfl, rfl, by decide +kernel, rfl, by decide +kernel, by decide +kernel⟩
def t_L_take : TSD :=
  (seqT (iffT (blT (DL.binT eqD (bagT 0 (nameT 0)) (cT (.int 0)))) (seqT (setT 2 (DL.binT ixD (DL.binT addD (cutBT (nameT 0) (someO (bagT 2 (nameT 0)))) (ofF (lstF (consA (cT (.int 0)) nilA)))) (cT (.int 0))))
    (seqT (augBT 2 (nameT 0) (cT (.int 1)))
    (seqT (iffT (blT (DL.binT (cmpI fun i j => decide (i ≥ j)) (nameT 2) (cT (.int 1000000000000000000)))) (putBT 0 (nameT 0) (nameT 2)) nextT)
    (seqT (setT 3 (DL.binT addD (DL.binT addD (DL.binT mulD (bagT 1 (nameT 0)) (cT (.int 48271))) (DL.binT modD (callT intR (consA (nameT 2) nilA)) (cT (.int 2147483647)))) (DL.binT mulD (cT (.int 7919)) (bagT 2 (nameT 0)))))
    (putBT 1 (nameT 0) (DL.binT modD (callT intR (consA (nameT 3) nilA)) (cT (.int 2147483647)))))))) nextT)
    (seqT (iffT (blT (DL.binT (cmpI fun i j => decide (i > j)) (bagT 0 (nameT 0)) (cT (.int 0)))) (seqT (setT 4 (DL.binT modD (callT intR (consA (bagT 0 (nameT 0)) nilA)) (nameT 1)))
    (seqT (putBT 0 (nameT 0) (DL.binT fdivD (bagT 0 (nameT 0)) (nameT 1)))
    (retT (nameT 4)))) nextT)
    (seqT (setT 5 (DL.binT modD (callT intR (consA (DL.binT mulD (DL.binT addD (bagT 1 (nameT 0)) (cT (.int 1))) (cT (.int 39373))) nilA)) (cT (.int 1000000007))))
    (seqT (setT 6 (DL.binT modD (callT intR (consA (DL.binT mulD (DL.binT modD (callT intR (consA (DL.binT mulD (nameT 5) (nameT 5)) nilA)) (cT (.int 998244353))) (cT (.int 30011))) nilA)) (cT (.int 998244353))))
    (retT (DL.binT modD (callT intR (consA (DL.binT fdivD (nameT 6) (cT (.int 7))) nilA)) (nameT 1)))))))
theorem fn_L_take {n : Nat} {R : RD} {f : Addr} {fd : FuncData} (Fn : Fun K "_law_take" "_law_take" s_L_take f fd) (z_int : mg "int" = none)
    (hl : ∀ ds k, R ds k → ds.length = 2) (hR : ∀ ds κ, R ds κ → t_L_take (endD κ) (enterS 7 ds)) : FnG P w K mg base CX0 (n + 1) f fd ["_law_bag_here", "_law_many"] (spD K R) :=
  Fun.okD Fn sc_L_take hl ⟨_, fun cdv A outer s H E G H' pn hr hg =>
      (s_cons (s_if (t_cmp (op_eqA hr) ok_eq (d_bag (d_name 0)) d_int (nomark _)) (s_cons (s_set (i := 2) sc_L_take.nd rfl (Or.inl rfl) (d_ix (d_add (d_bagcut (d_name 0) (o_some (d_bag (d_name 0)))) (d_of (f_lst (a_cons d_int a_nil)))) d_int))
      (s_cons (s_bagaug (i := 0) d_int)
      (s_cons (s_if (t_cmp op_ge ok_cmpI (d_name 2) d_int (nomark _)) (s_one (s_bagput (i := 0) (d_name 2))) s_nil)
      (s_cons (s_set (i := 3) sc_L_take.nd rfl (Or.inl rfl) (d_add (d_add (d_mul (d_bag (d_name 0)) d_int) (d_mod (d_toint rfl z_int (a_cons (d_name 2) a_nil)) d_int)) (d_mul d_int (d_bag (d_name 0)))))
      (s_one (s_bagput (i := 0) (d_mod (d_toint rfl z_int (a_cons (d_name 3) a_nil)) d_int))))))) s_nil)
      (s_cons (s_if (t_cmp op_gt ok_cmpI (d_bag (d_name 0)) d_int (nomark _)) (s_cons (s_set (i := 4) sc_L_take.nd rfl (Or.inl rfl) (d_mod (d_toint rfl z_int (a_cons (d_bag (d_name 0)) a_nil)) (d_name 1)))
      (s_cons (s_bagput (i := 0) (d_fdiv (d_bag (d_name 0)) (d_name 1)))
      (s_one (s_ret (d_name 4))))) s_nil)
      (s_cons (s_set (i := 5) sc_L_take.nd rfl (Or.inl rfl) (d_mod (d_toint rfl z_int (a_cons (d_mul (d_add (d_bag (d_name 0)) d_int) d_int) a_nil)) d_int))
      (s_cons (s_set (i := 6) sc_L_take.nd rfl (Or.inl rfl) (d_mod (d_toint rfl z_int (a_cons (d_mul (d_mod (d_toint rfl z_int (a_cons (d_mul (d_name 5) (d_name 5)) a_nil)) d_int) d_int) a_nil)) d_int))
      (s_one (s_ret (d_mod (d_toint rfl z_int (a_cons (d_fdiv (d_name 6) d_int) a_nil)) (d_name 1)))))))), hR⟩

abbrev s_L_some : Stmt := top 22
theorem sc_L_some : FnScope ["_law_bag_here", "_law_things"] ["_law_bag_here", "_law_things"] (defScope s_L_some) := ⟨rfl, rfl, rfl, by decide +kernel, rfl, by decide +kernel, by decide +kernel⟩
def t_L_some (R_law_take : RD) : TSD :=
  (retT (DL.binT ixD (nameT 1) (callT R_law_take (consA (nameT 0) (consA (callT lenR (consA (nameT 1) nilA)) nilA)))))
theorem fn_L_some {n : Nat} {R : RD} {f : Addr} {fd : FuncData} {R_law_take : RD} (Fn : Fun K "_law_some" "_law_some" s_L_some f fd) (z_len : mg "len" = none) (c_law_take : CalP P w K mg base n "_law_take" R_law_take)
    (hl : ∀ ds k, R ds k → ds.length = 2) (hR : ∀ ds κ, R ds κ → t_L_some R_law_take (endD κ) (enterS 2 ds)) : FnG P w K mg base CX0 (n + 1) f fd ["_law_bag_here", "_law_things"] (spD K R) :=
  Fun.okD Fn sc_L_some hl ⟨_, fun cdv A outer s H E G H' pn hr hg =>
      (s_one (s_ret (d_ix (d_name 1) (d_call ⟨c_law_take.ex⟩ hr hg rfl (a_cons (d_name 0) (a_cons (d_len rfl z_len (a_cons (d_name 1) a_nil)) a_nil)))))), hR⟩

abbrev s_L_mixed : Stmt := top 23
theorem sc_L_mixed : FnScope ["_law_bag_here", "_law_things", "_law_found", "_law_thing"] ["_law_bag_here", "_law_things"] (defScope s_L_mixed) := ⟨rfl, rfl, rfl, by decide +kernel, rfl, by decide +kernel, by decide +kernel⟩
def t_L_mixed (R_law_take : RD) : TSD :=
  (seqT (newT 2 (lstF nilA))
    (seqT (forT (.nm 3) (seqI (nameT 1)) (mT 2 insD (consA (thruT 2 (callT R_law_take (consA (nameT 0) (consA (DL.binT addD (callT lenR (consA (nameT 2) nilA)) (cT (.int 1))) nilA)))) (consA (nameT 3) nilA))))
    (frzT 2 (retT (nameT 2)))))
theorem fn_L_mixed {n : Nat} {R : RD} {f : Addr} {fd : FuncData} {R_law_take : RD} (Fn : Fun K "_law_mixed" "_law_mixed" s_L_mixed f fd) (z_len : mg "len" = none) (c_law_take : CalP P w K mg base n "_law_take" R_law_take)
    (hl : ∀ ds k, R ds k → ds.length = 2) (hR : ∀ ds κ, R ds κ → t_L_mixed R_law_take (endD κ) (enterS 4 ds)) : FnG P w K mg base CX0 (n + 1) f fd ["_law_bag_here", "_law_things"] (spD K R) :=
  Fun.okD Fn sc_L_mixed hl ⟨_, fun cdv A outer s H E G H' pn hr hg =>
      (s_cons (s_new (i := 2) sc_L_mixed.nd rfl (Or.inl rfl) (f_lst a_nil))
      (s_cons (s_for (t := (.nm 3)) PassesOwn.never rfl (i_seq (d_name 1)) (pg_name (i := 3) sc_L_mixed.nd rfl (Or.inl rfl)) (fun _ => (s_one (s_ins 2 (a_cons (d_thru 2 (d_call ⟨c_law_take.ex⟩ hr hg rfl (a_cons (d_name 0) (a_cons (d_add (d_len rfl z_len (a_cons (d_name 2) a_nil)) d_int) a_nil)))) (a_cons (d_name 3) a_nil)) (pe_bm PySem.F.plainAttrs_list PySem.F.slot_list_insert PySem.F.type_list_insert mt_insert (pv 2) (a_cons (d_thru 2 (d_call ⟨c_law_take.ex⟩ hr hg rfl (a_cons (d_name 0) (a_cons (d_add (d_len rfl z_len (a_cons (d_name 2) a_nil)) d_int) a_nil)))) (a_cons (d_name 3) a_nil)))))))
      (ss_frz 2 (s_one (s_ret (d_name 2)))))), hR⟩

abbrev s_L_words : Stmt := top 24
theorem sc_L_words : FnScope ["_law_bag_here", "_law_many", "_law_menu", "_law_at", "_law_found", "_law_word"] ["_law_bag_here", "_law_many"] (defScope s_L_words) := ⟨rfl, rfl, rfl, by decide +kernel, rfl, by decide +kernel, by decide +kernel⟩
def t_L_words (R_law_take : RD) (R_law_mixed : RD) : TSD :=
  (seqT (setT 2 (methT splitM (onT isStr (cT (.str "name given work if with call leaf test worth place there code up of one a aa b zzzzzzzz"))) (consA (cT (.str " ")) nilA)))
    (seqT (parT 3 4 (consA (callT R_law_take (consA (nameT 0) (consA (cT (.int 19)) nilA))) (consA (ofF (lstF nilA)) nilA)))
    (seqT (forT (.nm 5) (seqI (callT R_law_mixed (consA (nameT 0) (consA (slT slD (DL.binT addD (nameT 2) (nameT 2)) (someO (nameT 3)) (someO (DL.binT addD (DL.binT addD (nameT 3) (nameT 1)) (cT (.int 2))))) nilA)))) (setT 4 (DL.binT addD (nameT 4) (DL.binT mulD (ofF (lstF (consA (nameT 5) nilA))) (callT intR (consA (DL.binT notInD (nameT 5) (nameT 4)) nilA))))))
    (retT (slT slD (nameT 4) noneO (someO (nameT 1)))))))
theorem fn_L_words {n : Nat} {R : RD} {f : Addr} {fd : FuncData} {R_law_take R_law_mixed : RD} (Fn : Fun K "_law_words" "_law_words" s_L_words f fd) (z_int : mg "int" = none) (c_law_take : CalP P w K mg base n "_law_take" R_law_take) (c_law_mixed : CalP P w K mg base n "_law_mixed" R_law_mixed)
    (hl : ∀ ds k, R ds k → ds.length = 2) (hR : ∀ ds κ, R ds κ → t_L_words R_law_take R_law_mixed (endD κ) (enterS 6 ds)) : FnG P w K mg base CX0 (n + 1) f fd ["_law_bag_here", "_law_many"] (spD K R) :=
  Fun.okD Fn sc_L_words hl ⟨_, fun cdv A outer s H E G H' pn hr hg =>
      (s_cons (s_set (i := 2) sc_L_words.nd rfl (Or.inl rfl) (d_split d_str d_str))
      (s_cons (s_par (i := 3) (j := 4) rfl (by rfl) sc_L_words.nd rfl rfl (by decide) rfl rfl (a_cons (d_call ⟨c_law_take.ex⟩ hr hg rfl (a_cons (d_name 0) (a_cons d_int a_nil))) (a_cons (d_of (f_lst a_nil)) a_nil)))
      (s_cons (s_for (t := (.nm 5)) PassesOwn.never rfl (i_seq (d_call ⟨c_law_mixed.ex⟩ hr hg rfl (a_cons (d_name 0) (a_cons (d_slice (d_add (d_name 2) (d_name 2)) (o_some (d_name 3)) (o_some (d_add (d_add (d_name 3) (d_name 1)) d_int))) a_nil)))) (pg_name (i := 5) sc_L_words.nd rfl (Or.inl rfl)) (fun _ => (s_one (s_set (i := 4) sc_L_words.nd rfl (Or.inl rfl) (d_add (d_name 4) (d_mul (d_of (f_lst (a_cons (d_name 5) a_nil))) (d_toint rfl z_int (a_cons (d_cmp (op_notInA hr) ok_notIn (d_name 5) (d_name 4) (by rfl)) a_nil))))))))
      (s_one (s_ret (d_slice (d_name 4) o_none (o_some (d_name 1)))))))), hR⟩

abbrev s_L_inner : Stmt := top 25
theorem sc_L_inner : FnScope ["_law_code_here"] ["_law_code_here"] (defScope s_L_inner) := ⟨rfl, rfl, rfl, by decide +kernel, rfl, by decide +kernel, by decide +kernel⟩
def t_L_inner : TSD :=
  (seqT (iffT (blT (DL.binT inD (DL.binT ixD (nameT 0) (cT (.int 0))) (tupT (consA (cT (.str "name")) (consA (cT (.str "given")) nilA))))) (retT (tupT nilA)) nextT)
    (seqT (iffT (blT (DL.binT eqD (DL.binT ixD (nameT 0) (cT (.int 0))) (cT (.str "if")))) (retT (slT slD (nameT 0) (someO (cT (.int 1))) noneO)) nextT)
    (retT (ifT (blT (DL.binT eqD (DL.binT ixD (nameT 0) (cT (.int 0))) (cT (.str "with")))) (slT slD (nameT 0) (someO (cT (.int 2))) noneO) (DL.binT ixD (nameT 0) (cT (.int 2)))))))
theorem fn_L_inner {n : Nat} {R : RD} {f : Addr} {fd : FuncData} (Fn : Fun K "_law_inner" "_law_inner" s_L_inner f fd)
    (hl : ∀ ds k, R ds k → ds.length = 1) (hR : ∀ ds κ, R ds κ → t_L_inner (endD κ) (enterS 1 ds)) : FnG P w K mg base CX0 (n + 1) f fd ["_law_code_here"] (spD K R) :=
  Fun.okD Fn sc_L_inner hl ⟨_, fun cdv A outer s H E G H' pn hr hg =>
      (s_cons (s_if (t_cmp (op_inA hr) ok_in (d_ix (d_name 0) d_int) (d_tup (a_cons d_str (a_cons d_str a_nil))) (by rfl)) (s_one (s_ret (d_tup a_nil))) s_nil)
      (s_cons (s_if (t_cmp (op_eqA hr) ok_eq (d_ix (d_name 0) d_int) d_str (nomark _)) (s_one (s_ret (d_slice (d_name 0) (o_some d_int) o_none))) s_nil)
      (s_one (s_ret (d_if (t_cmp (op_eqA hr) ok_eq (d_ix (d_name 0) d_int) d_str (nomark _)) (d_slice (d_name 0) (o_some d_int) o_none) (d_ix (d_name 0) d_int)))))), hR⟩

abbrev s_L_parts_of : Stmt := top 26
theorem sc_L_parts_of : FnScope ["_law_code_here", "_law_found", "_law_one"] ["_law_code_here"] (defScope s_L_parts_of) := ⟨rfl, rfl, rfl, by decide +kernel, rfl, by decide +kernel, by decide +kernel⟩
def t_L_parts_of (R_law_inner : RD) (R_law_parts_of : RD) : TSD :=
  (seqT (setT 1 (ofF (lstF (consA (nameT 0) nilA))))
    (seqT (forT (.nm 2) (seqI (callT R_law_inner (consA (nameT 0) nilA))) (setT 1 (DL.binT addD (nameT 1) (callT R_law_parts_of (consA (nameT 2) nilA)))))
    (retT (nameT 1))))
theorem fn_L_parts_of {n : Nat} {R : RD} {f : Addr} {fd : FuncData} {R_law_inner R_law_parts_of : RD} (Fn : Fun K "_law_parts_of" "_law_parts_of" s_L_parts_of f fd) (c_law_inner : CalP P w K mg base n "_law_inner" R_law_inner) (c_law_parts_of : CalP P w K mg base n "_law_parts_of" R_law_parts_of)
    (hl : ∀ ds k, R ds k → ds.length = 1) (hR : ∀ ds κ, R ds κ → t_L_parts_of R_law_inner R_law_parts_of (endD κ) (enterS 3 ds)) : FnG P w K mg base CX0 (n + 1) f fd ["_law_code_here"] (spD K R) :=
  Fun.okD Fn sc_L_parts_of hl ⟨_, fun cdv A outer s H E G H' pn hr hg =>
      (s_cons (s_set (i := 1) sc_L_parts_of.nd rfl (Or.inl rfl) (d_of (f_lst (a_cons (d_name 0) a_nil))))
      (s_cons (s_for (t := (.nm 2)) PassesOwn.never rfl (i_seq (d_call ⟨c_law_inner.ex⟩ hr hg rfl (a_cons (d_name 0) a_nil))) (pg_name (i := 2) sc_L_parts_of.nd rfl (Or.inl rfl)) (fun _ => (s_one (s_set (i := 1) sc_L_parts_of.nd rfl (Or.inl rfl) (d_add (d_name 1) (d_call ⟨c_law_parts_of.ex⟩ hr hg rfl (a_cons (d_name 2) a_nil)))))))
      (s_one (s_ret (d_name 1))))), hR⟩

abbrev s_L_leaf : Stmt := top 27
theorem sc_L_leaf : FnScope ["_law_bag_here", "_law_names", "_law_handed_in"] ["_law_bag_here", "_law_names", "_law_handed_in"] (defScope s_L_leaf) := ⟨rfl, rfl, rfl, by decide +kernel, rfl, by decide +kernel, by decide +kernel⟩
def t_L_leaf (R_law_take : RD) (R_law_some : RD) : TSD :=
  (seqT (iffT (andB (blT (DL.binT (cmpI fun i j => decide (i > j)) (nameT 2) (cT (.int 0)))) (blT (DL.binT eqD (callT R_law_take (consA (nameT 0) (consA (cT (.int 4)) nilA))) (cT (.int 0))))) (retT (tupT (consA (cT (.str "given")) (consA (callT R_law_take (consA (nameT 0) (consA (nameT 2) nilA))) nilA)))) nextT)
    (retT (tupT (consA (cT (.str "name")) (consA (callT R_law_some (consA (nameT 0) (consA (nameT 1) nilA))) nilA)))))
theorem fn_L_leaf {n : Nat} {R : RD} {f : Addr} {fd : FuncData} {R_law_take R_law_some : RD} (Fn : Fun K "_law_leaf" "_law_leaf" s_L_leaf f fd) (c_law_take : CalP P w K mg base n "_law_take" R_law_take) (c_law_some : CalP P w K mg base n "_law_some" R_law_some)
    (hl : ∀ ds k, R ds k → ds.length = 3) (hR : ∀ ds κ, R ds κ → t_L_leaf R_law_take R_law_some (endD κ) (enterS 3 ds)) : FnG P w K mg base CX0 (n + 1) f fd ["_law_bag_here", "_law_names", "_law_handed_in"] (spD K R) :=
  Fun.okD Fn sc_L_leaf hl ⟨_, fun cdv A outer s H E G H' pn hr hg =>
      (s_cons (s_if (PW.pt (w_and (t_cmp op_gt ok_cmpI (d_name 2) d_int (nomark _)) (w_and1 (t_cmp (op_eqA hr) ok_eq (d_call ⟨c_law_take.ex⟩ hr hg rfl (a_cons (d_name 0) (a_cons d_int a_nil))) d_int (nomark _))))) (s_one (s_ret (d_tup (a_cons d_str (a_cons (d_call ⟨c_law_take.ex⟩ hr hg rfl (a_cons (d_name 0) (a_cons (d_name 2) a_nil))) a_nil))))) s_nil)
      (s_one (s_ret (d_tup (a_cons d_str (a_cons (d_call ⟨c_law_some.ex⟩ hr hg rfl (a_cons (d_name 0) (a_cons (d_name 1) a_nil))) a_nil)))))), hR⟩

abbrev s_L_term : Stmt := top 28
theorem sc_L_term : FnScope ["_law_bag_here", "_law_names", "_law_handed_in", "_law_deep", "_law_way", "_law_one", "_law_many", "_law_some_here", "_law_k"] ["_law_bag_here", "_law_names", "_law_handed_in", "_law_deep"] (defScope s_L_term) := ⟨rfl, rfl, rfl, by decide +kernel, rfl, by decide +kernel, by decide +kernel⟩
theorem bk_L_term_0 : BlkOk ["_law_bag_here", "_law_names", "_law_handed_in", "_law_deep", "_law_way", "_law_one", "_law_many", "_law_some_here", "_law_k"] (defScope s_L_term) { kind := .function, names := [(".0", .local), ("_law_k", .local), ("_law_term", .globalImplicit), ("_law_bag_here", .free), ("_law_deep", .free), ("_law_handed_in", .free), ("_law_names", .free)], isGenerator := false, isCoroutine := false, more := [] : Scope } [("_law_k", 8)] := blkOk_by (by decide +kernel)
def t_L_term (R_law_take : RD) (R_law_leaf : RD) (R_law_term : RD) : TSD :=
  (seqT (setT 4 (ifT (blT (DL.binT (cmpI fun i j => decide (i > j)) (nameT 3) (cT (.int 0)))) (callT R_law_take (consA (nameT 0) (consA (cT (.int 6)) nilA))) (cT (.int 0))))
    (seqT (iffT (blT (DL.binT (cmpI fun i j => decide (i < j)) (nameT 4) (cT (.int 3)))) (retT (callT R_law_leaf (consA (nameT 0) (consA (nameT 1) (consA (nameT 2) nilA))))) nextT)
    (seqT (iffT (blT (DL.binT eqD (nameT 4) (cT (.int 5)))) (seqT (setT 5 (callT R_law_leaf (consA (nameT 0) (consA (nameT 1) (consA (nameT 2) nilA)))))
    (retT (ifT (blT (DL.binT eqD (callT R_law_take (consA (nameT 0) (consA (cT (.int 2)) nilA))) (cT (.int 0)))) (tupT (consA (cT (.str "work")) (consA (cT (.str "one")) (consA (tupT nilA) nilA)))) (tupT (consA (cT (.str "work")) (consA (cT (.str "up")) (consA (tupT (consA (nameT 5) (consA (nameT 5) nilA))) nilA))))))) nextT)
    (seqT (setT 6 (ifT (blT (DL.binT eqD (nameT 4) (cT (.int 3)))) (cT (.int 1)) (DL.binT addD (cT (.int 2)) (callT intR (consA (DL.binT eqD (callT R_law_take (consA (nameT 0) (consA (cT (.int 6)) nilA))) (cT (.int 0))) nilA)))))
    (seqT (setT 7 (callT tupR (consA (ofF (lcF (.nm 8) (rng1I (consA (nameT 6) nilA)) yesT (callT R_law_term (consA (nameT 0) (consA (nameT 1) (consA (nameT 2) (consA (DL.binT subD (nameT 3) (cT (.int 1))) nilA))))) [8])) nilA)))
    (retT (tupT (consA (cT (.str "work")) (consA (DL.binT ixD (ofF (lstF (consA (cT (.str "up")) (consA (cT (.str "of")) nilA)))) (DL.binT subD (nameT 4) (cT (.int 3)))) (consA (nameT 7) nilA))))))))))
theorem fn_L_term {n : Nat} {R : RD} {f : Addr} {fd : FuncData} {R_law_take R_law_leaf R_law_term : RD} (Fn : Fun K "_law_term" "_law_term" s_L_term f fd) (z_int : mg "int" = none) (z_range : mg "range" = none) (z_tuple : mg "tuple" = none) (c_law_take : CalP P w K mg base n "_law_take" R_law_take) (c_law_leaf : CalP P w K mg base n "_law_leaf" R_law_leaf) (c_law_term : CalP P w K mg base n "_law_term" R_law_term)
    (hl : ∀ ds k, R ds k → ds.length = 4) (hR : ∀ ds κ, R ds κ → t_L_term R_law_take R_law_leaf R_law_term (endD κ) (enterS 9 ds)) : FnG P w K mg base CX0 (n + 1) f fd ["_law_bag_here", "_law_names", "_law_handed_in", "_law_deep"] (spD K R) :=
  Fun.okD Fn sc_L_term hl ⟨_, fun cdv A outer s H E G H' pn hr hg =>
      (s_cons (s_set (i := 4) sc_L_term.nd rfl (Or.inl rfl) (d_if (t_cmp op_gt ok_cmpI (d_name 3) d_int (nomark _)) (d_call ⟨c_law_take.ex⟩ hr hg rfl (a_cons (d_name 0) (a_cons d_int a_nil))) d_int))
      (s_cons (s_if (t_cmp op_lt ok_cmpI (d_name 4) d_int (nomark _)) (s_one (s_ret (d_call ⟨c_law_leaf.ex⟩ hr hg rfl (a_cons (d_name 0) (a_cons (d_name 1) (a_cons (d_name 2) a_nil)))))) s_nil)
      (s_cons (s_if (t_cmp (op_eqA hr) ok_eq (d_name 4) d_int (nomark _)) (s_cons (s_set (i := 5) sc_L_term.nd rfl (Or.inl rfl) (d_call ⟨c_law_leaf.ex⟩ hr hg rfl (a_cons (d_name 0) (a_cons (d_name 1) (a_cons (d_name 2) a_nil)))))
      (s_one (s_ret (d_if (t_cmp (op_eqA hr) ok_eq (d_call ⟨c_law_take.ex⟩ hr hg rfl (a_cons (d_name 0) (a_cons d_int a_nil))) d_int (nomark _)) (d_tup (a_cons d_str (a_cons d_str (a_cons (d_tup a_nil) a_nil)))) (d_tup (a_cons d_str (a_cons d_str (a_cons (d_tup (a_cons (d_name 5) (a_cons (d_name 5) a_nil))) a_nil)))))))) s_nil)
      (s_cons (s_set (i := 6) sc_L_term.nd rfl (Or.inl rfl) (d_if (t_cmp (op_eqA hr) ok_eq (d_name 4) d_int (nomark _)) d_int (d_add d_int (d_toint rfl z_int (a_cons (d_cmp (op_eqA hr) ok_eq (d_call ⟨c_law_take.ex⟩ hr hg rfl (a_cons (d_name 0) (a_cons d_int a_nil))) d_int (nomark _)) a_nil)))))
      (s_cons (s_set (i := 7) sc_L_term.nd rfl (Or.inl rfl) (d_totup rfl z_tuple (a_cons (d_of (f_lc (.nm 8) rfl sc_L_term.nd (i_rng1 rfl z_range (a_cons (d_name 6) a_nil)) bk_L_term_0 (fun _ _ _ _ _ => (pg_name (i := 8) sc_L_term.nd rfl (Or.inl rfl))) (fun _ _ _ _ _ _ => ts_nil) (fun _ _ _ _ _ _ => (d_call ⟨c_law_term.ex⟩ hr hg rfl (a_cons (d_name 0) (a_cons (d_name 1) (a_cons (d_name 2) (a_cons (d_sub (d_name 3) d_int) a_nil)))))))) a_nil)))
      (s_one (s_ret (d_tup (a_cons d_str (a_cons (d_ix (d_of (f_lst (a_cons d_str (a_cons d_str a_nil)))) (d_sub (d_name 4) d_int)) (a_cons (d_name 7) a_nil))))))))))), hR⟩

abbrev s_L_code : Stmt := top 29
theorem sc_L_code : FnScope ["_law_bag_here", "_law_names", "_law_handed_in", "_law_tests", "_law_way", "_law_name", "_law_left", "_law_sides", "_law_k"] ["_law_bag_here", "_law_names", "_law_handed_in", "_law_tests"] (defScope s_L_code) := ⟨rfl, rfl, rfl, by decide +kernel, rfl, by decide +kernel, by decide +kernel⟩
theorem bk_L_code_0 : BlkOk ["_law_bag_here", "_law_names", "_law_handed_in", "_law_tests", "_law_way", "_law_name", "_law_left", "_law_sides", "_law_k"] (defScope s_L_code) { kind := .function, names := [(".0", .local), ("_law_k", .local), ("_law_term", .globalImplicit), ("_law_bag_here", .free), ("_law_handed_in", .free), ("_law_names", .free)], isGenerator := false, isCoroutine := false, more := [] : Scope } [("_law_k", 8)] := blkOk_by (by decide +kernel)
def t_L_code (R_law_take : RD) (R_law_term : RD) (R_law_some : RD) (R_law_code : RD) : TSD :=
  (seqT (setT 4 (callT R_law_take (consA (nameT 0) (consA (cT (.int 8)) nilA))))
    (seqT (iffT (orB (blT (DL.binT eqD (nameT 3) (cT (.int 0)))) (blT (DL.binT eqD (nameT 4) (cT (.int 0))))) (retT (callT R_law_term (consA (nameT 0) (consA (nameT 1) (consA (nameT 2) (consA (DL.binT addD (cT (.int 1)) (callT intR (consA (DL.binT eqD (nameT 4) (cT (.int 7))) nilA))) nilA)))))) nextT)
    (seqT (iffT (blT (DL.binT eqD (nameT 4) (cT (.int 1)))) (seqT (parT 5 6 (consA (callT R_law_some (consA (nameT 0) (consA (nameT 1) nilA))) (consA (DL.binT fdivD (nameT 3) (cT (.int 2))) nilA)))
    (retT (tupT (consA (cT (.str "with")) (consA (nameT 5) (consA (callT R_law_code (consA (nameT 0) (consA (nameT 1) (consA (nameT 2) (consA (nameT 6) nilA))))) (consA (callT R_law_code (consA (nameT 0) (consA (nameT 1) (consA (nameT 2) (consA (nameT 6) nilA))))) nilA))))))) nextT)
    (seqT (iffT (blT (DL.binT eqD (nameT 4) (cT (.int 2)))) (retT (tupT (consA (cT (.str "work")) (consA (cT (.str "up")) (consA (tupT (consA (callT R_law_code (consA (nameT 0) (consA (nameT 1) (consA (nameT 2) (consA (DL.binT subD (nameT 3) (cT (.int 1))) nilA))))) nilA)) nilA))))) nextT)
    (seqT (newT 7 (lcF (.nm 8) (rng1I (consA (cT (.int 2)) nilA)) yesT (callT R_law_term (consA (nameT 0) (consA (nameT 1) (consA (nameT 2) (consA (cT (.int 1)) nilA))))) [8]))
    (seqT (setT 6 (DL.binT fdivD (DL.binT subD (nameT 3) (cT (.int 1))) (cT (.int 2))))
    (seqT (iffT (andB (blT (DL.binT eqD (nameT 4) (cT (.int 3)))) (blT (DL.binT (cmpI fun i j => decide (i > j)) (nameT 6) (cT (.int 0))))) (parS 7 (cT (.int 0)) 6 (tupT (consA (callT R_law_code (consA (nameT 0) (consA (nameT 1) (consA (nameT 2) (consA (cT (.int 1)) nilA))))) (consA (DL.binT fdivD (nameT 6) (cT (.int 2))) nilA)))) nextT)
    (frzT 7 (retT (tupT (consA (cT (.str "if")) (consA (DL.binT ixD (nameT 7) (cT (.int 0))) (consA (DL.binT ixD (nameT 7) (cT (.int 1))) (consA (callT R_law_code (consA (nameT 0) (consA (nameT 1) (consA (nameT 2) (consA (nameT 6) nilA))))) (consA (callT R_law_code (consA (nameT 0) (consA (nameT 1) (consA (nameT 2) (consA (nameT 6) nilA))))) nilA)))))))))))))))
theorem fn_L_code {n : Nat} {R : RD} {f : Addr} {fd : FuncData} {R_law_take R_law_term R_law_some R_law_code : RD} (Fn : Fun K "_law_code" "_law_code" s_L_code f fd) (z_int : mg "int" = none) (z_range : mg "range" = none) (c_law_take : CalP P w K mg base n "_law_take" R_law_take) (c_law_term : CalP P w K mg base n "_law_term" R_law_term) (c_law_some : CalP P w K mg base n "_law_some" R_law_some) (c_law_code : CalP P w K mg base n "_law_code" R_law_code)
    (hl : ∀ ds k, R ds k → ds.length = 4) (hR : ∀ ds κ, R ds κ → t_L_code R_law_take R_law_term R_law_some R_law_code (endD κ) (enterS 9 ds)) : FnG P w K mg base CX0 (n + 1) f fd ["_law_bag_here", "_law_names", "_law_handed_in", "_law_tests"] (spD K R) :=
  Fun.okD Fn sc_L_code hl ⟨_, fun cdv A outer s H E G H' pn hr hg =>
      (s_cons (s_set (i := 4) sc_L_code.nd rfl (Or.inl rfl) (d_call ⟨c_law_take.ex⟩ hr hg rfl (a_cons (d_name 0) (a_cons d_int a_nil))))
      (s_cons (s_if (PW.pt (w_or (t_cmp (op_eqA hr) ok_eq (d_name 3) d_int (nomark _)) (w_or1 (t_cmp (op_eqA hr) ok_eq (d_name 4) d_int (nomark _))))) (s_one (s_ret (d_call ⟨c_law_term.ex⟩ hr hg rfl (a_cons (d_name 0) (a_cons (d_name 1) (a_cons (d_name 2) (a_cons (d_add d_int (d_toint rfl z_int (a_cons (d_cmp (op_eqA hr) ok_eq (d_name 4) d_int (nomark _)) a_nil))) a_nil))))))) s_nil)
      (s_cons (s_if (t_cmp (op_eqA hr) ok_eq (d_name 4) d_int (nomark _)) (s_cons (s_par (i := 5) (j := 6) rfl (by rfl) sc_L_code.nd rfl rfl (by decide) rfl rfl (a_cons (d_call ⟨c_law_some.ex⟩ hr hg rfl (a_cons (d_name 0) (a_cons (d_name 1) a_nil))) (a_cons (d_fdiv (d_name 3) d_int) a_nil)))
      (s_one (s_ret (d_tup (a_cons d_str (a_cons (d_name 5) (a_cons (d_call ⟨c_law_code.ex⟩ hr hg rfl (a_cons (d_name 0) (a_cons (d_name 1) (a_cons (d_name 2) (a_cons (d_name 6) a_nil))))) (a_cons (d_call ⟨c_law_code.ex⟩ hr hg rfl (a_cons (d_name 0) (a_cons (d_name 1) (a_cons (d_name 2) (a_cons (d_name 6) a_nil))))) a_nil)))))))) s_nil)
      (s_cons (s_if (t_cmp (op_eqA hr) ok_eq (d_name 4) d_int (nomark _)) (s_one (s_ret (d_tup (a_cons d_str (a_cons d_str (a_cons (d_tup (a_cons (d_call ⟨c_law_code.ex⟩ hr hg rfl (a_cons (d_name 0) (a_cons (d_name 1) (a_cons (d_name 2) (a_cons (d_sub (d_name 3) d_int) a_nil))))) a_nil)) a_nil)))))) s_nil)
      (s_cons (s_newLc (i := 7) (.nm 8) rfl sc_L_code.nd rfl rfl (by rfl) (i_rng1 rfl z_range (a_cons d_int a_nil)) bk_L_code_0 (fun _ _ _ _ _ => (pg_name (i := 8) sc_L_code.nd rfl (Or.inl rfl))) (fun _ _ _ _ _ _ => ts_nil) (fun _ _ _ _ _ _ => (d_call ⟨c_law_term.ex⟩ hr hg rfl (a_cons (d_name 0) (a_cons (d_name 1) (a_cons (d_name 2) (a_cons d_int a_nil)))))))
      (s_cons (s_set (i := 6) sc_L_code.nd rfl (Or.inl rfl) (d_fdiv (d_sub (d_name 3) d_int) d_int))
      (s_cons (s_if (PW.pt (w_and (t_cmp (op_eqA hr) ok_eq (d_name 4) d_int (nomark _)) (w_and1 (t_cmp op_gt ok_cmpI (d_name 6) d_int (nomark _))))) (s_one (s_parS 7 rfl (d_tup (a_cons (d_call ⟨c_law_code.ex⟩ hr hg rfl (a_cons (d_name 0) (a_cons (d_name 1) (a_cons (d_name 2) (a_cons d_int a_nil))))) (a_cons (d_fdiv (d_name 6) d_int) a_nil))) d_int sc_L_code.nd (j := 6) rfl (Or.inl rfl))) s_nil)
      (ss_frz 7 (s_one (s_ret (d_tup (a_cons d_str (a_cons (d_ix (d_name 7) d_int) (a_cons (d_ix (d_name 7) d_int) (a_cons (d_call ⟨c_law_code.ex⟩ hr hg rfl (a_cons (d_name 0) (a_cons (d_name 1) (a_cons (d_name 2) (a_cons (d_name 6) a_nil))))) (a_cons (d_call ⟨c_law_code.ex⟩ hr hg rfl (a_cons (d_name 0) (a_cons (d_name 1) (a_cons (d_name 2) (a_cons (d_name 6) a_nil))))) a_nil)))))))))))))))), hR⟩

abbrev s_L_answer : Stmt := top 30
theorem sc_L_answer : FnScope ["_law_code_here", "_law_world_here", "_law_bound", "_law_handed", "_law_thing", "_law_things", "_law_sides", "_law_one"] ["_law_code_here", "_law_world_here", "_law_bound", "_law_handed"] (defScope s_L_answer) := ⟨rfl, rfl, rfl, by decide +kernel, rfl, by decide +kernel, by decide +kernel⟩
theorem bk_L_answer_0 : BlkOk ["_law_code_here", "_law_world_here", "_law_bound", "_law_handed", "_law_thing", "_law_things", "_law_sides", "_law_one"] (defScope s_L_answer) { kind := .function, names := [(".0", .local), ("_law_one", .local), ("_law_answer", .globalImplicit), ("_law_bound", .free), ("_law_handed", .free), ("_law_world_here", .free)], isGenerator := false, isCoroutine := false, more := [] : Scope } [("_law_one", 7)] := blkOk_by (by decide +kernel)
theorem bk_L_answer_1 : BlkOk ["_law_code_here", "_law_world_here", "_law_bound", "_law_handed", "_law_thing", "_law_things", "_law_sides", "_law_one"] (defScope s_L_answer) { kind := .function, names := [(".0", .local), ("_law_one", .local), ("_law_answer", .globalImplicit), ("_law_bound", .free), ("_law_handed", .free), ("_law_world_here", .free)], isGenerator := false, isCoroutine := false, more := [] : Scope } [("_law_one", 7)] := blkOk_by (by decide +kernel)
def t_L_answer (R_law_answer : RD) : TSD :=
  (seqT (iffT (blT (DL.binT eqD (DL.binT ixD (nameT 0) (cT (.int 0))) (cT (.str "name")))) (retT (getT2 (nameT 2) (DL.binT ixD (nameT 0) (cT (.int 1))) (getT2 (DL.binT ixD (nameT 1) (cT (.int 2))) (DL.binT ixD (nameT 0) (cT (.int 1))) (cT (.int 0))))) nextT)
    (seqT (iffT (blT (DL.binT eqD (DL.binT ixD (nameT 0) (cT (.int 0))) (cT (.str "given")))) (retT (DL.binT ixD (nameT 3) (DL.binT ixD (nameT 0) (cT (.int 1))))) nextT)
    (seqT (iffT (blT (DL.binT eqD (DL.binT ixD (nameT 0) (cT (.int 0))) (cT (.str "with")))) (seqT (setT 4 (callT R_law_answer (consA (DL.binT ixD (nameT 0) (cT (.int 2))) (consA (nameT 1) (consA (nameT 2) (consA (nameT 3) nilA))))))
    (retT (callT R_law_answer (consA (DL.binT ixD (nameT 0) (cT (.int 3))) (consA (nameT 1) (consA (callT dictR (consA (DL.binT addD (ofF (itemsF (nameT 2))) (ofF (lstF (consA (tupT (consA (DL.binT ixD (nameT 0) (cT (.int 1))) (consA (nameT 4) nilA))) nilA)))) nilA)) (consA (nameT 3) nilA))))))) nextT)
    (seqT (iffT (blT (DL.binT eqD (DL.binT ixD (nameT 0) (cT (.int 0))) (cT (.str "work")))) (seqT (setT 5 (callT tupR (consA (ofF (lcF (.nm 7) (seqI (DL.binT ixD (nameT 0) (cT (.int 2)))) yesT (callT R_law_answer (consA (nameT 7) (consA (nameT 1) (consA (nameT 2) (consA (nameT 3) nilA))))) [7])) nilA)))
    (retT (getT2 (getT2 (DL.binT ixD (nameT 1) (cT (.int 1))) (tupT (consA (DL.binT ixD (nameT 0) (cT (.int 1))) (consA (callT lenR (consA (nameT 5) nilA)) nilA))) emptyT) (nameT 5) (cT (.int 0))))) nextT)
    (seqT (setT 6 (ofF (lcF (.nm 7) (seqI (slT slD (nameT 0) (someO (cT (.int 1))) (someO (cT (.int 3))))) yesT (callT R_law_answer (consA (nameT 7) (consA (nameT 1) (consA (nameT 2) (consA (nameT 3) nilA))))) [7])))
    (retT (callT R_law_answer (consA (ifT (blT (DL.binT eqD (DL.binT ixD (nameT 6) (cT (.int 0))) (DL.binT ixD (nameT 6) (cT (.int 1))))) (DL.binT ixD (nameT 0) (cT (.int 3))) (DL.binT ixD (nameT 0) (cT (.int 4)))) (consA (nameT 1) (consA (nameT 2) (consA (nameT 3) nilA)))))))))))
theorem fn_L_answer {n : Nat} {R : RD} {f : Addr} {fd : FuncData} {R_law_answer : RD} (Fn : Fun K "_law_answer" "_law_answer" s_L_answer f fd) (z_dict : mg "dict" = none) (z_len : mg "len" = none) (z_list : mg "list" = none) (z_tuple : mg "tuple" = none) (c_law_answer : CalP P w K mg base n "_law_answer" R_law_answer)
    (hl : ∀ ds k, R ds k → ds.length = 4) (hR : ∀ ds κ, R ds κ → t_L_answer R_law_answer (endD κ) (enterS 8 ds)) : FnG P w K mg base CX0 (n + 1) f fd ["_law_code_here", "_law_world_here", "_law_bound", "_law_handed"] (spD K R) :=
  Fun.okD Fn sc_L_answer hl ⟨_, fun cdv A outer s H E G H' pn hr hg =>
      (s_cons (s_if (t_cmp (op_eqA hr) ok_eq (d_ix (d_name 0) d_int) d_str (nomark _)) (s_one (s_ret (d_get2 hr (d_name 2) (d_ix (d_name 0) d_int) (d_get2 hr (d_ix (d_name 1) d_int) (d_ix (d_name 0) d_int) d_int)))) s_nil)
      (s_cons (s_if (t_cmp (op_eqA hr) ok_eq (d_ix (d_name 0) d_int) d_str (nomark _)) (s_one (s_ret (d_ix (d_name 3) (d_ix (d_name 0) d_int)))) s_nil)
      (s_cons (s_if (t_cmp (op_eqA hr) ok_eq (d_ix (d_name 0) d_int) d_str (nomark _)) (s_cons (s_set (i := 4) sc_L_answer.nd rfl (Or.inl rfl) (d_call ⟨c_law_answer.ex⟩ hr hg rfl (a_cons (d_ix (d_name 0) d_int) (a_cons (d_name 1) (a_cons (d_name 2) (a_cons (d_name 3) a_nil))))))
      (s_one (s_ret (d_call ⟨c_law_answer.ex⟩ hr hg rfl (a_cons (d_ix (d_name 0) d_int) (a_cons (d_name 1) (a_cons (d_dict rfl rfl z_dict (a_cons (d_add (d_of (f_items rfl rfl z_list (d_name 2))) (d_of (f_lst (a_cons (d_tup (a_cons (d_ix (d_name 0) d_int) (a_cons (d_name 4) a_nil))) a_nil)))) a_nil)) (a_cons (d_name 3) a_nil)))))))) s_nil)
      (s_cons (s_if (t_cmp (op_eqA hr) ok_eq (d_ix (d_name 0) d_int) d_str (nomark _)) (s_cons (s_set (i := 5) sc_L_answer.nd rfl (Or.inl rfl) (d_totup rfl z_tuple (a_cons (d_of (f_lc (.nm 7) rfl sc_L_answer.nd (i_seq (d_ix (d_name 0) d_int)) bk_L_answer_0 (fun _ _ _ _ _ => (pg_name (i := 7) sc_L_answer.nd rfl (Or.inl rfl))) (fun _ _ _ _ _ _ => ts_nil) (fun _ _ _ _ _ _ => (d_call ⟨c_law_answer.ex⟩ hr hg rfl (a_cons (d_name 7) (a_cons (d_name 1) (a_cons (d_name 2) (a_cons (d_name 3) a_nil)))))))) a_nil)))
      (s_one (s_ret (d_get2 hr (d_get2 hr (d_ix (d_name 1) d_int) (d_tup (a_cons (d_ix (d_name 0) d_int) (a_cons (d_len rfl z_len (a_cons (d_name 5) a_nil)) a_nil))) d_dictE) (d_name 5) d_int)))) s_nil)
      (s_cons (s_setLc (i := 6) (.nm 7) rfl sc_L_answer.nd rfl rfl (by rfl) (i_seq (d_slice (d_name 0) (o_some d_int) (o_some d_int))) bk_L_answer_1 (fun _ _ _ _ _ => (pg_name (i := 7) sc_L_answer.nd rfl (Or.inl rfl))) (fun _ _ _ _ _ _ => ts_nil) (fun _ _ _ _ _ _ => (d_call ⟨c_law_answer.ex⟩ hr hg rfl (a_cons (d_name 7) (a_cons (d_name 1) (a_cons (d_name 2) (a_cons (d_name 3) a_nil)))))))
      (s_one (s_ret (d_call ⟨c_law_answer.ex⟩ hr hg rfl (a_cons (d_if (t_cmp (op_eqA hr) ok_eq (d_ix (d_name 6) d_int) (d_ix (d_name 6) d_int) (nomark _)) (d_ix (d_name 0) d_int) (d_ix (d_name 0) d_int)) (a_cons (d_name 1) (a_cons (d_name 2) (a_cons (d_name 3) a_nil)))))))))))), hR⟩

abbrev s_L_world : Stmt := top 31
theorem sc_L_world : FnScope ["_law_bag_here", "_law_many", "_law_names", "_law_tables", "_law_first", "_law_second", "_law_name"] ["_law_bag_here", "_law_many", "_law_names"] (defScope s_L_world) := ⟨rfl, rfl, rfl, by decide +kernel, rfl, by decide +kernel, by decide +kernel⟩
theorem bk_L_world_0 : BlkOk ["_law_bag_here", "_law_many", "_law_names", "_law_tables", "_law_first", "_law_second", "_law_name"] (defScope s_L_world) { kind := .function, names := [(".0", .local), ("_law_name", .local), ("_law_take", .globalImplicit), ("_law_bag_here", .free), ("_law_many", .free)], isGenerator := false, isCoroutine := false, more := [] : Scope } [("_law_name", 6)] := blkOk_by (by decide +kernel)
def t_L_world (R_law_take : RD) : TSD :=
  (seqT (newR 3 (dispQ (qCons (consA (cT (.str "up")) (consA (cT (.int 1)) nilA)) emptyR (qCons (consA (cT (.str "up")) (consA (cT (.int 2)) nilA)) emptyR (qCons (consA (cT (.str "of")) (consA (cT (.int 2)) nilA)) emptyR (qCons (consA (cT (.str "one")) (consA (cT (.int 0)) nilA)) (dispQ (qCons nilA (datR (callT R_law_take (consA (nameT 0) (consA (nameT 1) nilA)))) qNil)) qNil))))))
    (seqT (forT (.nm 4) (rng1I (consA (nameT 1) nilA)) (seqT (dput2 3 (consA (cT (.str "up")) (consA (cT (.int 1)) nilA)) (consA (nameT 4) nilA) (callT R_law_take (consA (nameT 0) (consA (nameT 1) nilA))))
    (forT (.nm 5) (rng1I (consA (nameT 1) nilA)) (seqT (dput2 3 (consA (cT (.str "up")) (consA (cT (.int 2)) nilA)) (consA (nameT 4) (consA (nameT 5) nilA)) (callT R_law_take (consA (nameT 0) (consA (nameT 1) nilA))))
    (dput2 3 (consA (cT (.str "of")) (consA (cT (.int 2)) nilA)) (consA (nameT 4) (consA (nameT 5) nilA)) (callT R_law_take (consA (nameT 0) (consA (nameT 1) nilA))))))))
    (frzT 3 (retT (tupT (consA (nameT 1) (consA (nameT 3) (consA (callT dictR (consA (ofF (lcF (.nm 6) (seqI (nameT 2)) yesT (tupT (consA (nameT 6) (consA (callT R_law_take (consA (nameT 0) (consA (nameT 1) nilA))) nilA))) [6])) nilA)) nilA))))))))
theorem fn_L_world {n : Nat} {R : RD} {f : Addr} {fd : FuncData} {R_law_take : RD} (Fn : Fun K "_law_world" "_law_world" s_L_world f fd) (z_dict : mg "dict" = none) (z_range : mg "range" = none) (c_law_take : CalP P w K mg base n "_law_take" R_law_take)
    (hl : ∀ ds k, R ds k → ds.length = 3) (hR : ∀ ds κ, R ds κ → t_L_world R_law_take (endD κ) (enterS 7 ds)) : FnG P w K mg base CX0 (n + 1) f fd ["_law_bag_here", "_law_many", "_law_names"] (spD K R) :=
  Fun.okD Fn sc_L_world hl ⟨_, fun cdv A outer s H E G H' pn hr hg =>
      (s_cons (s_newR (i := 3) sc_L_world.nd rfl (Or.inl rfl) (r_dispQ hr (q_cons (a_cons d_str (a_cons d_int a_nil)) r_dictE (q_cons (a_cons d_str (a_cons d_int a_nil)) r_dictE (q_cons (a_cons d_str (a_cons d_int a_nil)) r_dictE (q_cons (a_cons d_str (a_cons d_int a_nil)) (r_dispQ hr (q_cons a_nil (r_dat (d_call ⟨c_law_take.ex⟩ hr hg rfl (a_cons (d_name 0) (a_cons (d_name 1) a_nil)))) q_nil)) q_nil))))))
      (s_cons (s_for (t := (.nm 4)) PassesOwn.never rfl (i_rng1 rfl z_range (a_cons (d_name 1) a_nil)) (pg_name (i := 4) sc_L_world.nd rfl (Or.inl rfl)) (fun _ => (s_cons (s_dput2 3 hr (d_call ⟨c_law_take.ex⟩ hr hg rfl (a_cons (d_name 0) (a_cons (d_name 1) a_nil))) (a_cons d_str (a_cons d_int a_nil)) (a_cons (d_name 4) a_nil))
      (s_one (s_for (t := (.nm 5)) PassesOwn.never rfl (i_rng1 rfl z_range (a_cons (d_name 1) a_nil)) (pg_name (i := 5) sc_L_world.nd rfl (Or.inl rfl)) (fun _ => (s_cons (s_dput2 3 hr (d_call ⟨c_law_take.ex⟩ hr hg rfl (a_cons (d_name 0) (a_cons (d_name 1) a_nil))) (a_cons d_str (a_cons d_int a_nil)) (a_cons (d_name 4) (a_cons (d_name 5) a_nil)))
      (s_one (s_dput2 3 hr (d_call ⟨c_law_take.ex⟩ hr hg rfl (a_cons (d_name 0) (a_cons (d_name 1) a_nil))) (a_cons d_str (a_cons d_int a_nil)) (a_cons (d_name 4) (a_cons (d_name 5) a_nil)))))))))))
      (ss_frz 3 (s_one (s_ret (d_tup (a_cons (d_name 1) (a_cons (d_name 3) (a_cons (d_dict rfl rfl z_dict (a_cons (d_of (f_lc (.nm 6) rfl sc_L_world.nd (i_seq (d_name 2)) bk_L_world_0 (fun _ _ _ _ _ => (pg_name (i := 6) sc_L_world.nd rfl (Or.inl rfl))) (fun _ _ _ _ _ _ => ts_nil) (fun _ _ _ _ _ _ => (d_tup (a_cons (d_name 6) (a_cons (d_call ⟨c_law_take.ex⟩ hr hg rfl (a_cons (d_name 0) (a_cons (d_name 1) a_nil))) a_nil)))))) a_nil)) a_nil))))))))), hR⟩

abbrev s_L_any : Stmt := top 32
theorem sc_L_any : FnScope ["_law_bag_here", "_law_names", "_law_room", "_law_way", "_law_name", "_law_many", "_law_some_here", "_law_k"] ["_law_bag_here", "_law_names", "_law_room"] (defScope s_L_any) := ⟨rfl, rfl, rfl, by decide +kernel, rfl, by decide +kernel, by decide +kernel⟩
theorem bk_L_any_0 : BlkOk ["_law_bag_here", "_law_names", "_law_room", "_law_way", "_law_name", "_law_many", "_law_some_here", "_law_k"] (defScope s_L_any) { kind := .function, names := [(".0", .local), ("_law_k", .local), ("_law_any", .globalImplicit), ("_law_bag_here", .free), ("_law_names", .free), ("_law_room", .free)], isGenerator := false, isCoroutine := false, more := [] : Scope } [("_law_k", 7)] := blkOk_by (by decide +kernel)
theorem bk_L_any_1 : BlkOk ["_law_bag_here", "_law_names", "_law_room", "_law_way", "_law_name", "_law_many", "_law_some_here", "_law_k"] (defScope s_L_any) { kind := .function, names := [(".0", .local), ("_law_k", .local), ("_law_any", .globalImplicit), ("int", .globalImplicit), ("_law_bag_here", .free), ("_law_many", .free), ("_law_names", .free), ("_law_room", .free)], isGenerator := false, isCoroutine := false, more := [] : Scope } [("_law_k", 7)] := blkOk_by (by decide +kernel)
def t_L_any (R_law_take : RD) (R_law_some : RD) (R_law_any : RD) : TSD :=
  (seqT (setT 3 (callT R_law_take (consA (nameT 0) (consA (cT (.int 12)) nilA))))
    (seqT (iffT (orB (blT (DL.binT (cmpI fun i j => decide (i < j)) (nameT 2) (cT (.int 2)))) (blT (DL.binT (cmpI fun i j => decide (i < j)) (nameT 3) (cT (.int 2))))) (retT (ifT (blT (DL.binT eqD (nameT 3) (cT (.int 1)))) (tupT (consA (cT (.str "given")) (consA (callT R_law_some (consA (nameT 0) (consA (ofF (lstF (consA (cT (.int 0)) (consA (cT (.int 1)) (consA (cT (.int 2)) (consA (cT (.int 2)) (consA (cT (.int 10)) (consA (cT (.int 11)) nilA)))))))) nilA))) nilA))) (tupT (consA (cT (.str "name")) (consA (callT R_law_some (consA (nameT 0) (consA (nameT 1) nilA))) nilA))))) nextT)
    (seqT (iffT (andB (blT (DL.binT (cmpI fun i j => decide (i < j)) (nameT 3) (cT (.int 5)))) (blT (DL.binT (cmpI fun i j => decide (i > j)) (nameT 2) (cT (.int 4))))) (retT (DL.binT addD (tupT (consA (cT (.str "if")) nilA)) (callT tupR (consA (ofF (lcF (.nm 7) (rng1I (consA (cT (.int 4)) nilA)) yesT (callT R_law_any (consA (nameT 0) (consA (nameT 1) (consA (DL.binT fdivD (DL.binT subD (nameT 2) (cT (.int 1))) (cT (.int 4))) nilA)))) [7])) nilA)))) nextT)
    (seqT (iffT (andB (blT (DL.binT (cmpI fun i j => decide (i < j)) (nameT 3) (cT (.int 8)))) (blT (DL.binT (cmpI fun i j => decide (i > j)) (nameT 2) (cT (.int 2))))) (seqT (setT 4 (callT R_law_some (consA (nameT 0) (consA (nameT 1) nilA))))
    (retT (tupT (consA (cT (.str "with")) (consA (nameT 4) (consA (callT R_law_any (consA (nameT 0) (consA (nameT 1) (consA (DL.binT fdivD (DL.binT subD (nameT 2) (cT (.int 1))) (cT (.int 3))) nilA)))) (consA (callT R_law_any (consA (nameT 0) (consA (nameT 1) (consA (DL.binT fdivD (DL.binT mulD (DL.binT subD (nameT 2) (cT (.int 1))) (cT (.int 2))) (cT (.int 3))) nilA)))) nilA))))))) nextT)
    (seqT (setT 5 (callT minR (consA (callT R_law_take (consA (nameT 0) (consA (ifT (blT (DL.binT eqD (callT R_law_take (consA (nameT 0) (consA (cT (.int 8)) nilA))) (cT (.int 0)))) (cT (.int 13)) (cT (.int 4))) nilA))) (consA (DL.binT subD (nameT 2) (cT (.int 1))) nilA))))
    (seqT (setT 6 (callT tupR (consA (ofF (lcF (.nm 7) (rng1I (consA (nameT 5) nilA)) yesT (callT R_law_any (consA (nameT 0) (consA (nameT 1) (consA (DL.binT fdivD (DL.binT mulD (DL.binT subD (nameT 2) (cT (.int 1))) (cT (.int 3))) (DL.binT addD (DL.binT mulD (cT (.int 3)) (nameT 5)) (callT intR (consA (DL.binT eqD (nameT 5) (cT (.int 1))) nilA)))) nilA)))) [7])) nilA)))
    (retT (tupT (consA (ifT (blT (DL.binT (cmpI fun i j => decide (i < j)) (nameT 3) (cT (.int 10)))) (cT (.str "work")) (cT (.str "call"))) (consA (callT R_law_some (consA (nameT 0) (consA (ofF (lstF (consA (cT (.str "up")) (consA (cT (.str "of")) (consA (cT (.str "one")) nilA))))) nilA))) (consA (nameT 6) nilA)))))))))))
theorem fn_L_any {n : Nat} {R : RD} {f : Addr} {fd : FuncData} {R_law_take R_law_some R_law_any : RD} (Fn : Fun K "_law_any" "_law_any" s_L_any f fd) (z_int : mg "int" = none) (z_min : mg "min" = none) (z_range : mg "range" = none) (z_tuple : mg "tuple" = none) (c_law_take : CalP P w K mg base n "_law_take" R_law_take) (c_law_some : CalP P w K mg base n "_law_some" R_law_some) (c_law_any : CalP P w K mg base n "_law_any" R_law_any)
    (hl : ∀ ds k, R ds k → ds.length = 3) (hR : ∀ ds κ, R ds κ → t_L_any R_law_take R_law_some R_law_any (endD κ) (enterS 8 ds)) : FnG P w K mg base CX0 (n + 1) f fd ["_law_bag_here", "_law_names", "_law_room"] (spD K R) :=
  Fun.okD Fn sc_L_any hl ⟨_, fun cdv A outer s H E G H' pn hr hg =>
      (s_cons (s_set (i := 3) sc_L_any.nd rfl (Or.inl rfl) (d_call ⟨c_law_take.ex⟩ hr hg rfl (a_cons (d_name 0) (a_cons d_int a_nil))))
      (s_cons (s_if (PW.pt (w_or (t_cmp op_lt ok_cmpI (d_name 2) d_int (nomark _)) (w_or1 (t_cmp op_lt ok_cmpI (d_name 3) d_int (nomark _))))) (s_one (s_ret (d_if (t_cmp (op_eqA hr) ok_eq (d_name 3) d_int (nomark _)) (d_tup (a_cons d_str (a_cons (d_call ⟨c_law_some.ex⟩ hr hg rfl (a_cons (d_name 0) (a_cons (d_of (f_lst (a_cons d_int (a_cons d_int (a_cons d_int (a_cons d_int (a_cons d_int (a_cons d_int a_nil)))))))) a_nil))) a_nil))) (d_tup (a_cons d_str (a_cons (d_call ⟨c_law_some.ex⟩ hr hg rfl (a_cons (d_name 0) (a_cons (d_name 1) a_nil))) a_nil)))))) s_nil)
      (s_cons (s_if (PW.pt (w_and (t_cmp op_lt ok_cmpI (d_name 3) d_int (nomark _)) (w_and1 (t_cmp op_gt ok_cmpI (d_name 2) d_int (nomark _))))) (s_one (s_ret (d_add (d_tup (a_cons d_str a_nil)) (d_totup rfl z_tuple (a_cons (d_of (f_lc (.nm 7) rfl sc_L_any.nd (i_rng1 rfl z_range (a_cons d_int a_nil)) bk_L_any_0 (fun _ _ _ _ _ => (pg_name (i := 7) sc_L_any.nd rfl (Or.inl rfl))) (fun _ _ _ _ _ _ => ts_nil) (fun _ _ _ _ _ _ => (d_call ⟨c_law_any.ex⟩ hr hg rfl (a_cons (d_name 0) (a_cons (d_name 1) (a_cons (d_fdiv (d_sub (d_name 2) d_int) d_int) a_nil))))))) a_nil))))) s_nil)
      (s_cons (s_if (PW.pt (w_and (t_cmp op_lt ok_cmpI (d_name 3) d_int (nomark _)) (w_and1 (t_cmp op_gt ok_cmpI (d_name 2) d_int (nomark _))))) (s_cons (s_set (i := 4) sc_L_any.nd rfl (Or.inl rfl) (d_call ⟨c_law_some.ex⟩ hr hg rfl (a_cons (d_name 0) (a_cons (d_name 1) a_nil))))
      (s_one (s_ret (d_tup (a_cons d_str (a_cons (d_name 4) (a_cons (d_call ⟨c_law_any.ex⟩ hr hg rfl (a_cons (d_name 0) (a_cons (d_name 1) (a_cons (d_fdiv (d_sub (d_name 2) d_int) d_int) a_nil)))) (a_cons (d_call ⟨c_law_any.ex⟩ hr hg rfl (a_cons (d_name 0) (a_cons (d_name 1) (a_cons (d_fdiv (d_mul (d_sub (d_name 2) d_int) d_int) d_int) a_nil)))) a_nil)))))))) s_nil)
      (s_cons (s_set (i := 5) sc_L_any.nd rfl (Or.inr rfl) (d_min rfl rfl z_min (a_cons (d_call ⟨c_law_take.ex⟩ hr hg rfl (a_cons (d_name 0) (a_cons (d_if (t_cmp (op_eqA hr) ok_eq (d_call ⟨c_law_take.ex⟩ hr hg rfl (a_cons (d_name 0) (a_cons d_int a_nil))) d_int (nomark _)) d_int d_int) a_nil))) (a_cons (d_sub (d_name 2) d_int) a_nil))))
      (s_cons (s_set (i := 6) sc_L_any.nd rfl (Or.inl rfl) (d_totup rfl z_tuple (a_cons (d_of (f_lc (.nm 7) rfl sc_L_any.nd (i_rng1 rfl z_range (a_cons (d_name 5) a_nil)) bk_L_any_1 (fun _ _ _ _ _ => (pg_name (i := 7) sc_L_any.nd rfl (Or.inl rfl))) (fun _ _ _ _ _ _ => ts_nil) (fun _ _ _ _ _ _ => (d_call ⟨c_law_any.ex⟩ hr hg rfl (a_cons (d_name 0) (a_cons (d_name 1) (a_cons (d_fdiv (d_mul (d_sub (d_name 2) d_int) d_int) (d_add (d_mul d_int (d_name 5)) (d_toint rfl z_int (a_cons (d_cmp (op_eqA hr) ok_eq (d_name 5) d_int (nomark _)) a_nil)))) a_nil))))))) a_nil)))
      (s_one (s_ret (d_tup (a_cons (d_if (t_cmp op_lt ok_cmpI (d_name 3) d_int (nomark _)) d_str d_str) (a_cons (d_call ⟨c_law_some.ex⟩ hr hg rfl (a_cons (d_name 0) (a_cons (d_of (f_lst (a_cons d_str (a_cons d_str (a_cons d_str a_nil))))) a_nil))) (a_cons (d_name 6) a_nil)))))))))))), hR⟩

abbrev s_L_free : Stmt := top 33
theorem sc_L_free : FnScope ["_law_code_here", "_law_bound", "_law_found", "_law_one", "_law_turn"] ["_law_code_here", "_law_bound"] (defScope s_L_free) := ⟨rfl, rfl, rfl, by decide +kernel, rfl, by decide +kernel, by decide +kernel⟩
theorem bk_L_free_0 : BlkOk ["_law_code_here", "_law_bound", "_law_found", "_law_one", "_law_turn"] (defScope s_L_free) { kind := .function, names := [(".0", .local), ("_law_turn", .local), ("_law_code_here", .free)], isGenerator := false, isCoroutine := false, more := [] : Scope } [("_law_turn", 4)] := blkOk_by (by decide +kernel)
def t_L_free (R_law_free : RD) (R_law_inner : RD) : TSD :=
  (seqT (iffT (blT (DL.binT eqD (DL.binT ixD (nameT 0) (cT (.int 0))) (cT (.str "name")))) (retT (ofF (lcF (.nm 4) (rng1I (consA (callT intR (consA (DL.binT notInD (DL.binT ixD (nameT 0) (cT (.int 1))) (nameT 1)) nilA)) nilA)) yesT (DL.binT ixD (nameT 0) (cT (.int 1))) [4]))) nextT)
    (seqT (iffT (blT (DL.binT eqD (DL.binT ixD (nameT 0) (cT (.int 0))) (cT (.str "with")))) (retT (DL.binT addD (callT R_law_free (consA (DL.binT ixD (nameT 0) (cT (.int 2))) (consA (nameT 1) nilA))) (callT R_law_free (consA (DL.binT ixD (nameT 0) (cT (.int 3))) (consA (DL.binT addD (nameT 1) (ofF (lstF (consA (DL.binT ixD (nameT 0) (cT (.int 1))) nilA)))) nilA))))) nextT)
    (seqT (setT 2 (ofF (lstF nilA)))
    (seqT (forT (.nm 3) (seqI (callT R_law_inner (consA (nameT 0) nilA))) (setT 2 (DL.binT addD (nameT 2) (callT R_law_free (consA (nameT 3) (consA (nameT 1) nilA))))))
    (retT (nameT 2))))))
theorem fn_L_free {n : Nat} {R : RD} {f : Addr} {fd : FuncData} {R_law_free R_law_inner : RD} (Fn : Fun K "_law_free" "_law_free" s_L_free f fd) (z_int : mg "int" = none) (z_range : mg "range" = none) (c_law_free : CalP P w K mg base n "_law_free" R_law_free) (c_law_inner : CalP P w K mg base n "_law_inner" R_law_inner)
    (hl : ∀ ds k, R ds k → ds.length = 2) (hR : ∀ ds κ, R ds κ → t_L_free R_law_free R_law_inner (endD κ) (enterS 5 ds)) : FnG P w K mg base CX0 (n + 1) f fd ["_law_code_here", "_law_bound"] (spD K R) :=
  Fun.okD Fn sc_L_free hl ⟨_, fun cdv A outer s H E G H' pn hr hg =>
      (s_cons (s_if (t_cmp (op_eqA hr) ok_eq (d_ix (d_name 0) d_int) d_str (nomark _)) (s_one (s_ret (d_of (f_lc (.nm 4) rfl sc_L_free.nd (i_rng1 rfl z_range (a_cons (d_toint rfl z_int (a_cons (d_cmp (op_notInA hr) ok_notIn (d_ix (d_name 0) d_int) (d_name 1) (by rfl)) a_nil)) a_nil)) bk_L_free_0 (fun _ _ _ _ _ => (pg_name (i := 4) sc_L_free.nd rfl (Or.inl rfl))) (fun _ _ _ _ _ _ => ts_nil) (fun _ _ _ _ _ _ => (d_ix (d_name 0) d_int)))))) s_nil)
      (s_cons (s_if (t_cmp (op_eqA hr) ok_eq (d_ix (d_name 0) d_int) d_str (nomark _)) (s_one (s_ret (d_add (d_call ⟨c_law_free.ex⟩ hr hg rfl (a_cons (d_ix (d_name 0) d_int) (a_cons (d_name 1) a_nil))) (d_call ⟨c_law_free.ex⟩ hr hg rfl (a_cons (d_ix (d_name 0) d_int) (a_cons (d_add (d_name 1) (d_of (f_lst (a_cons (d_ix (d_name 0) d_int) a_nil)))) a_nil)))))) s_nil)
      (s_cons (s_set (i := 2) sc_L_free.nd rfl (Or.inl rfl) (d_of (f_lst a_nil)))
      (s_cons (s_for (t := (.nm 3)) PassesOwn.never rfl (i_seq (d_call ⟨c_law_inner.ex⟩ hr hg rfl (a_cons (d_name 0) a_nil))) (pg_name (i := 3) sc_L_free.nd rfl (Or.inl rfl)) (fun _ => (s_one (s_set (i := 2) sc_L_free.nd rfl (Or.inl rfl) (d_add (d_name 2) (d_call ⟨c_law_free.ex⟩ hr hg rfl (a_cons (d_name 3) (a_cons (d_name 1) a_nil))))))))
      (s_one (s_ret (d_name 2))))))), hR⟩

abbrev s_L_names_of : Stmt := top 34
theorem sc_L_names_of : FnScope ["_law_bag_here", "_law_many", "_law_letters", "_law_found", "_law_k", "_law_word", "_law_j"] ["_law_bag_here", "_law_many"] (defScope s_L_names_of) := ⟨rfl, rfl, rfl, by decide +kernel, rfl, by decide +kernel, by decide +kernel⟩
theorem bk_L_names_of_0 : BlkOk ["_law_bag_here", "_law_many", "_law_letters", "_law_found", "_law_k", "_law_word", "_law_j"] (defScope s_L_names_of) { kind := .function, names := [(".0", .local), ("_law_j", .local), ("_law_some", .globalImplicit), ("_law_bag_here", .free), ("_law_letters", .free)], isGenerator := false, isCoroutine := false, more := [] : Scope } [("_law_j", 6)] := blkOk_by (by decide +kernel)
def t_L_names_of (R_law_take : RD) (R_law_words : RD) (R_law_some : RD) : TSD :=
  (seqT (iffT (blT (DL.binT (cmpI fun i j => decide (i > j)) (callT R_law_take (consA (nameT 0) (consA (cT (.int 3)) nilA))) (cT (.int 0)))) (retT (callT R_law_words (consA (nameT 0) (consA (nameT 1) nilA)))) nextT)
    (seqT (tgtT (.tp [2, 3]) (tupT (consA (cT (.str "abcdefghijklmnopqrstuvwxyz")) (consA (ofF (lstF nilA)) nilA))))
    (seqT (forT (.nm 4) (rng1I (consA (DL.binT addD (nameT 1) (cT (.int 3))) nilA)) (seqT (setT 5 (methT joinM (onT isStr (cT (.str ""))) (consA (ofF (lcF (.nm 6) (rng1I (consA (DL.binT addD (cT (.int 1)) (DL.binT mulD (callT R_law_take (consA (nameT 0) (consA (cT (.int 2)) nilA))) (callT R_law_take (consA (nameT 0) (consA (cT (.int 8)) nilA))))) nilA)) yesT (callT R_law_some (consA (nameT 0) (consA (nameT 2) nilA))) [6])) nilA)))
    (setT 3 (DL.binT addD (nameT 3) (DL.binT mulD (ofF (lstF (consA (nameT 5) nilA))) (callT intR (consA (DL.binT notInD (nameT 5) (nameT 3)) nilA)))))))
    (retT (slT slD (nameT 3) noneO (someO (nameT 1)))))))
theorem fn_L_names_of {n : Nat} {R : RD} {f : Addr} {fd : FuncData} {R_law_take R_law_words R_law_some : RD} (Fn : Fun K "_law_names_of" "_law_names_of" s_L_names_of f fd) (z_int : mg "int" = none) (z_range : mg "range" = none) (c_law_take : CalP P w K mg base n "_law_take" R_law_take) (c_law_words : CalP P w K mg base n "_law_words" R_law_words) (c_law_some : CalP P w K mg base n "_law_some" R_law_some)
    (hl : ∀ ds k, R ds k → ds.length = 2) (hR : ∀ ds κ, R ds κ → t_L_names_of R_law_take R_law_words R_law_some (endD κ) (enterS 7 ds)) : FnG P w K mg base CX0 (n + 1) f fd ["_law_bag_here", "_law_many"] (spD K R) :=
  Fun.okD Fn sc_L_names_of hl ⟨_, fun cdv A outer s H E G H' pn hr hg =>
      (s_cons (s_if (t_cmp op_gt ok_cmpI (d_call ⟨c_law_take.ex⟩ hr hg rfl (a_cons (d_name 0) (a_cons d_int a_nil))) d_int (nomark _)) (s_one (s_ret (d_call ⟨c_law_words.ex⟩ hr hg rfl (a_cons (d_name 0) (a_cons (d_name 1) a_nil))))) s_nil)
      (s_cons (s_tgt (.tp [2, 3]) (d_tup (a_cons d_str (a_cons (d_of (f_lst a_nil)) a_nil))) (pg_tup rfl (pgs_cons (pg_name (i := 2) sc_L_names_of.nd rfl (Or.inr rfl)) (pgs_cons (pg_name (i := 3) sc_L_names_of.nd rfl (Or.inl rfl)) pgs_nil))))
      (s_cons (s_for (t := (.nm 4)) PassesOwn.never rfl (i_rng1 rfl z_range (a_cons (d_add (d_name 1) d_int) a_nil)) (pg_name (i := 4) sc_L_names_of.nd rfl (Or.inl rfl)) (fun _ => (s_cons (s_set (i := 5) sc_L_names_of.nd rfl (Or.inl rfl) (d_join d_str (d_of (f_lc (.nm 6) rfl sc_L_names_of.nd (i_rng1 rfl z_range (a_cons (d_add d_int (d_mul (d_call ⟨c_law_take.ex⟩ hr hg rfl (a_cons (d_name 0) (a_cons d_int a_nil))) (d_call ⟨c_law_take.ex⟩ hr hg rfl (a_cons (d_name 0) (a_cons d_int a_nil))))) a_nil)) bk_L_names_of_0 (fun _ _ _ _ _ => (pg_name (i := 6) sc_L_names_of.nd rfl (Or.inl rfl))) (fun _ _ _ _ _ _ => ts_nil) (fun _ _ _ _ _ _ => (d_call ⟨c_law_some.ex⟩ hr hg rfl (a_cons (d_name 0) (a_cons (d_name 2) a_nil))))))))
      (s_one (s_set (i := 3) sc_L_names_of.nd rfl (Or.inl rfl) (d_add (d_name 3) (d_mul (d_of (f_lst (a_cons (d_name 5) a_nil))) (d_toint rfl z_int (a_cons (d_cmp (op_notInA hr) ok_notIn (d_name 5) (d_name 3) (by rfl)) a_nil)))))))))
      (s_one (s_ret (d_slice (d_name 3) o_none (o_some (d_name 1)))))))), hR⟩

abbrev s_L_numbered : Stmt := top 35
theorem sc_L_numbered : FnScope ["_law_code_here", "_law_bound", "_law_parts", "_law_outer", "_law_body", "_law_some_here", "_law_one"] ["_law_code_here", "_law_bound", "_law_parts"] (defScope s_L_numbered) := ⟨rfl, rfl, rfl, by decide +kernel, rfl, by decide +kernel, by decide +kernel⟩
theorem bk_L_numbered_0 : BlkOk ["_law_code_here", "_law_bound", "_law_parts", "_law_outer", "_law_body", "_law_some_here", "_law_one"] (defScope s_L_numbered) { kind := .function, names := [(".0", .local), ("_law_one", .local), ("_law_numbered", .globalImplicit), ("_law_bound", .free), ("_law_parts", .free)], isGenerator := false, isCoroutine := false, more := [] : Scope } [("_law_one", 6)] := blkOk_by (by decide +kernel)
def t_L_numbered (R_law_numbered : RD) (R_law_inner : RD) : TSD :=
  (seqT (iffT (blT (DL.binT eqD (DL.binT ixD (nameT 0) (cT (.int 0))) (cT (.str "name")))) (seqT (setT 3 (ofF (revF (nameT 1))))
    (retT (ifT (blT (DL.binT inD (DL.binT ixD (nameT 0) (cT (.int 1))) (nameT 3))) (tupT (consA (cT (.str "bound")) (consA (methT indexM (onT isLst (nameT 3)) (consA (DL.binT ixD (nameT 0) (cT (.int 1))) nilA)) nilA))) (getT2 (nameT 2) (DL.binT ixD (nameT 0) (cT (.int 1))) (nameT 0))))) nextT)
    (seqT (iffT (blT (DL.binT eqD (DL.binT ixD (nameT 0) (cT (.int 0))) (cT (.str "with")))) (seqT (setT 4 (callT R_law_numbered (consA (DL.binT ixD (nameT 0) (cT (.int 3))) (consA (DL.binT addD (nameT 1) (ofF (lstF (consA (DL.binT ixD (nameT 0) (cT (.int 1))) nilA)))) (consA (nameT 2) nilA)))))
    (retT (tupT (consA (cT (.str "with")) (consA (callT R_law_numbered (consA (DL.binT ixD (nameT 0) (cT (.int 2))) (consA (nameT 1) (consA (nameT 2) nilA)))) (consA (nameT 4) nilA)))))) nextT)
    (seqT (setT 5 (callT tupR (consA (ofF (lcF (.nm 6) (seqI (callT R_law_inner (consA (nameT 0) nilA))) yesT (callT R_law_numbered (consA (nameT 6) (consA (nameT 1) (consA (nameT 2) nilA)))) [6])) nilA)))
    (seqT (iffT (blT (DL.binT eqD (DL.binT ixD (nameT 0) (cT (.int 0))) (cT (.str "if")))) (retT (DL.binT addD (tupT (consA (cT (.str "if")) nilA)) (nameT 5))) nextT)
    (retT (ifT (blT (DL.binT eqD (DL.binT ixD (nameT 0) (cT (.int 0))) (cT (.str "given")))) (nameT 0) (DL.binT addD (slT slD (nameT 0) noneO (someO (cT (.int 2)))) (tupT (consA (nameT 5) nilA)))))))))
theorem fn_L_numbered {n : Nat} {R : RD} {f : Addr} {fd : FuncData} {R_law_numbered R_law_inner : RD} (Fn : Fun K "_law_numbered" "_law_numbered" s_L_numbered f fd) (z_tuple : mg "tuple" = none) (c_law_numbered : CalP P w K mg base n "_law_numbered" R_law_numbered) (c_law_inner : CalP P w K mg base n "_law_inner" R_law_inner)
    (hl : ∀ ds k, R ds k → ds.length = 3) (hR : ∀ ds κ, R ds κ → t_L_numbered R_law_numbered R_law_inner (endD κ) (enterS 7 ds)) : FnG P w K mg base CX0 (n + 1) f fd ["_law_code_here", "_law_bound", "_law_parts"] (spD K R) :=
  Fun.okD Fn sc_L_numbered hl ⟨_, fun cdv A outer s H E G H' pn hr hg =>
      (s_cons (s_if (t_cmp (op_eqA hr) ok_eq (d_ix (d_name 0) d_int) d_str (nomark _)) (s_cons (s_set (i := 3) sc_L_numbered.nd rfl (Or.inl rfl) (d_of (f_rev (d_name 1))))
      (s_one (s_ret (d_if (t_cmp (op_inA hr) ok_in (d_ix (d_name 0) d_int) (d_name 3) (by rfl)) (d_tup (a_cons d_str (a_cons (d_index hr (d_name 3) (d_ix (d_name 0) d_int)) a_nil))) (d_get2 hr (d_name 2) (d_ix (d_name 0) d_int) (d_name 0)))))) s_nil)
      (s_cons (s_if (t_cmp (op_eqA hr) ok_eq (d_ix (d_name 0) d_int) d_str (nomark _)) (s_cons (s_set (i := 4) sc_L_numbered.nd rfl (Or.inl rfl) (d_call ⟨c_law_numbered.ex⟩ hr hg rfl (a_cons (d_ix (d_name 0) d_int) (a_cons (d_add (d_name 1) (d_of (f_lst (a_cons (d_ix (d_name 0) d_int) a_nil)))) (a_cons (d_name 2) a_nil)))))
      (s_one (s_ret (d_tup (a_cons d_str (a_cons (d_call ⟨c_law_numbered.ex⟩ hr hg rfl (a_cons (d_ix (d_name 0) d_int) (a_cons (d_name 1) (a_cons (d_name 2) a_nil)))) (a_cons (d_name 4) a_nil))))))) s_nil)
      (s_cons (s_set (i := 5) sc_L_numbered.nd rfl (Or.inl rfl) (d_totup rfl z_tuple (a_cons (d_of (f_lc (.nm 6) rfl sc_L_numbered.nd (i_seq (d_call ⟨c_law_inner.ex⟩ hr hg rfl (a_cons (d_name 0) a_nil))) bk_L_numbered_0 (fun _ _ _ _ _ => (pg_name (i := 6) sc_L_numbered.nd rfl (Or.inl rfl))) (fun _ _ _ _ _ _ => ts_nil) (fun _ _ _ _ _ _ => (d_call ⟨c_law_numbered.ex⟩ hr hg rfl (a_cons (d_name 6) (a_cons (d_name 1) (a_cons (d_name 2) a_nil))))))) a_nil)))
      (s_cons (s_if (t_cmp (op_eqA hr) ok_eq (d_ix (d_name 0) d_int) d_str (nomark _)) (s_one (s_ret (d_add (d_tup (a_cons d_str a_nil)) (d_name 5)))) s_nil)
      (s_one (s_ret (d_if (t_cmp (op_eqA hr) ok_eq (d_ix (d_name 0) d_int) d_str (nomark _)) (d_name 0) (d_add (d_slice (d_name 0) o_none (o_some d_int)) (d_tup (a_cons (d_name 5) a_nil)))))))))), hR⟩

abbrev s_L_led : Stmt := top 36
theorem sc_L_led : FnScope ["_law_bag_here", "_law_code_here", "_law_names", "_law_every", "_law_bound", "_law_word", "_law_fresh", "_law_words_here", "_law_way", "_law_part", "_law_at"] ["_law_bag_here", "_law_code_here", "_law_names"] (defScope s_L_led) := ⟨rfl, rfl, rfl, by decide +kernel, rfl, by decide +kernel, by decide +kernel⟩
theorem bk_L_led_0 : BlkOk ["_law_bag_here", "_law_code_here", "_law_names", "_law_every", "_law_bound", "_law_word", "_law_fresh", "_law_words_here", "_law_way", "_law_part", "_law_at"] (defScope s_L_led) { kind := .function, names := [(".0", .local), ("_law_part", .local)], isGenerator := false, isCoroutine := false, more := [] : Scope } [("_law_part", 9)] := blkOk_by (by decide +kernel)
theorem bk_L_led_1 : BlkOk ["_law_bag_here", "_law_code_here", "_law_names", "_law_every", "_law_bound", "_law_word", "_law_fresh", "_law_words_here", "_law_way", "_law_part", "_law_at"] (defScope s_L_led) { kind := .function, names := [(".0", .local), ("_law_word", .local), ("_law_take", .globalImplicit), ("_law_bag_here", .free)], isGenerator := false, isCoroutine := false, more := [] : Scope } [("_law_word", 5)] := blkOk_by (by decide +kernel)
theorem bk_L_led_2 : BlkOk ["_law_bag_here", "_law_code_here", "_law_names", "_law_every", "_law_bound", "_law_word", "_law_fresh", "_law_words_here", "_law_way", "_law_part", "_law_at"] (defScope s_L_led) { kind := .function, names := [(".0", .local), ("_law_at", .local), ("_law_every", .free), ("_law_words_here", .free)], isGenerator := false, isCoroutine := false, more := [] : Scope } [("_law_at", 10)] := blkOk_by (by decide +kernel)
def t_L_led (R_law_free : RD) (R_law_take : RD) (R_law_parts_of : RD) (R_law_words : RD) (R_law_mixed : RD) : TSD :=
  (seqT (setT 3 (ofF (sortSetF (consA (DL.binT addD (callT R_law_free (consA (nameT 1) (consA (ofF (lstF nilA)) nilA))) (slT slD (nameT 2) noneO (someO (callT R_law_take (consA (nameT 0) (consA (cT (.int 3)) nilA)))))) nilA))))
    (seqT (setT 4 (ofF (lcF (.nm 9) (seqI (callT R_law_parts_of (consA (nameT 1) nilA))) (blT (DL.binT eqD (DL.binT ixD (nameT 9) (cT (.int 0))) (cT (.str "with")))) (DL.binT ixD (nameT 9) (cT (.int 1))) [9])))
    (seqT (setT 6 (DL.binT addD (ofF (lcF (.nm 5) (seqI (DL.binT addD (DL.binT addD (nameT 4) (nameT 2)) (callT R_law_words (consA (nameT 0) (consA (cT (.int 14)) nilA))))) (blT (DL.binT (cmpI fun i j => decide (i > j)) (callT R_law_take (consA (nameT 0) (consA (cT (.int 4)) nilA))) (cT (.int 0)))) (nameT 5) [5])) (callT R_law_words (consA (nameT 0) (consA (cT (.int 14)) nilA)))))
    (seqT (setT 7 (ofF (lstF nilA)))
    (seqT (forT (.nm 5) (seqI (nameT 6)) (setT 7 (DL.binT addD (nameT 7) (DL.binT mulD (ofF (lstF (consA (nameT 5) nilA))) (callT intR (consA (DL.binT notInD (nameT 5) (nameT 7)) nilA))))))
    (seqT (setT 8 (callT R_law_take (consA (nameT 0) (consA (cT (.int 4)) nilA))))
    (seqT (iffT (blT (DL.binT eqD (nameT 8) (cT (.int 0)))) (setT 7 (callT R_law_mixed (consA (nameT 0) (consA (nameT 3) nilA)))) nextT)
    (retT (callT dictR (consA (ofF (lcF (.nm 10) (seqI (callT R_law_mixed (consA (nameT 0) (consA (ofF (lstRgF (callT lenR (consA (nameT 3) nilA)))) nilA)))) yesT (tupT (consA (DL.binT ixD (nameT 3) (nameT 10)) (consA (DL.binT ixD (nameT 7) (nameT 10)) nilA))) [10])) nilA))))))))))
theorem fn_L_led {n : Nat} {R : RD} {f : Addr} {fd : FuncData} {R_law_free R_law_take R_law_parts_of R_law_words R_law_mixed : RD} (Fn : Fun K "_law_led" "_law_led" s_L_led f fd) (z_dict : mg "dict" = none) (z_int : mg "int" = none) (z_len : mg "len" = none) (z_list : mg "list" = none) (z_range : mg "range" = none) (z_set : mg "set" = none) (z_sorted : mg "sorted" = none) (c_law_free : CalP P w K mg base n "_law_free" R_law_free) (c_law_take : CalP P w K mg base n "_law_take" R_law_take) (c_law_parts_of : CalP P w K mg base n "_law_parts_of" R_law_parts_of) (c_law_words : CalP P w K mg base n "_law_words" R_law_words) (c_law_mixed : CalP P w K mg base n "_law_mixed" R_law_mixed)
    (hl : ∀ ds k, R ds k → ds.length = 3) (hR : ∀ ds κ, R ds κ → t_L_led R_law_free R_law_take R_law_parts_of R_law_words R_law_mixed (endD κ) (enterS 11 ds)) : FnG P w K mg base CX0 (n + 1) f fd ["_law_bag_here", "_law_code_here", "_law_names"] (spD K R) :=
  Fun.okD Fn sc_L_led hl ⟨_, fun cdv A outer s H E G H' pn hr hg =>
      (s_cons (s_set (i := 3) sc_L_led.nd rfl (Or.inr rfl) (d_of (f_sortSet rfl rfl z_sorted rfl z_set (a_cons (d_add (d_call ⟨c_law_free.ex⟩ hr hg rfl (a_cons (d_name 1) (a_cons (d_of (f_lst a_nil)) a_nil))) (d_slice (d_name 2) o_none (o_some (d_call ⟨c_law_take.ex⟩ hr hg rfl (a_cons (d_name 0) (a_cons d_int a_nil)))))) a_nil))))
      (s_cons (s_setLc (i := 4) (.nm 9) rfl sc_L_led.nd rfl rfl (by rfl) (i_seq (d_call ⟨c_law_parts_of.ex⟩ hr hg rfl (a_cons (d_name 1) a_nil))) bk_L_led_0 (fun _ _ _ _ _ => (pg_name (i := 9) sc_L_led.nd rfl (Or.inl rfl))) (fun _ _ _ _ _ _ => (ts_one (t_cmp (op_eqA hr) ok_eq (d_ix (d_name 9) d_int) d_str (nomark _)))) (fun _ _ _ _ _ _ => (d_ix (d_name 9) d_int)))
      (s_cons (s_set (i := 6) sc_L_led.nd rfl (Or.inl rfl) (d_add (d_of (f_lc (.nm 5) rfl sc_L_led.nd (i_seq (d_add (d_add (d_name 4) (d_name 2)) (d_call ⟨c_law_words.ex⟩ hr hg rfl (a_cons (d_name 0) (a_cons d_int a_nil))))) bk_L_led_1 (fun _ _ _ _ _ => (pg_name (i := 5) sc_L_led.nd rfl (Or.inl rfl))) (fun _ _ _ _ _ _ => (ts_one (t_cmp op_gt ok_cmpI (d_call ⟨c_law_take.ex⟩ hr hg rfl (a_cons (d_name 0) (a_cons d_int a_nil))) d_int (nomark _)))) (fun _ _ _ _ _ _ => (d_name 5)))) (d_call ⟨c_law_words.ex⟩ hr hg rfl (a_cons (d_name 0) (a_cons d_int a_nil)))))
      (s_cons (s_set (i := 7) sc_L_led.nd rfl (Or.inr rfl) (d_of (f_lst a_nil)))
      (s_cons (s_for (t := (.nm 5)) PassesOwn.never rfl (i_seq (d_name 6)) (pg_name (i := 5) sc_L_led.nd rfl (Or.inl rfl)) (fun _ => (s_one (s_set (i := 7) sc_L_led.nd rfl (Or.inr rfl) (d_add (d_name 7) (d_mul (d_of (f_lst (a_cons (d_name 5) a_nil))) (d_toint rfl z_int (a_cons (d_cmp (op_notInA hr) ok_notIn (d_name 5) (d_name 7) (by rfl)) a_nil))))))))
      (s_cons (s_set (i := 8) sc_L_led.nd rfl (Or.inl rfl) (d_call ⟨c_law_take.ex⟩ hr hg rfl (a_cons (d_name 0) (a_cons d_int a_nil))))
      (s_cons (s_if (t_cmp (op_eqA hr) ok_eq (d_name 8) d_int (nomark _)) (s_one (s_set (i := 7) sc_L_led.nd rfl (Or.inr rfl) (d_call ⟨c_law_mixed.ex⟩ hr hg rfl (a_cons (d_name 0) (a_cons (d_name 3) a_nil))))) s_nil)
      (s_one (s_ret (d_dict rfl rfl z_dict (a_cons (d_of (f_lc (.nm 10) rfl sc_L_led.nd (i_seq (d_call ⟨c_law_mixed.ex⟩ hr hg rfl (a_cons (d_name 0) (a_cons (d_of (f_listRg rfl rfl z_list rfl z_range (d_len rfl z_len (a_cons (d_name 3) a_nil)))) a_nil)))) bk_L_led_2 (fun _ _ _ _ _ => (pg_name (i := 10) sc_L_led.nd rfl (Or.inl rfl))) (fun _ _ _ _ _ _ => ts_nil) (fun _ _ _ _ _ _ => (d_tup (a_cons (d_ix (d_name 3) (d_name 10)) (a_cons (d_ix (d_name 7) (d_name 10)) a_nil)))))) a_nil))))))))))), hR⟩

abbrev s_law : Stmt := top 37
theorem sc_law : FnScope ["_law_script", "_law_bag_here", "_law_spin", "_law_names", "_law_code_here", "_law_led_here", "_law_shown", "_law_found", "_law_any_one", "_law_its", "_law_parts", "_law_again", "_law_back", "_law_k", "_law_world_here", "_law_handed", "_law_name", "_law_j"] ["_law_script"] (defScope s_law) := ⟨rfl, rfl, rfl, by decide +kernel, rfl, by decide +kernel, by decide +kernel⟩
theorem bk_law_0 : BlkOk ["_law_script", "_law_bag_here", "_law_spin", "_law_names", "_law_code_here", "_law_led_here", "_law_shown", "_law_found", "_law_any_one", "_law_its", "_law_parts", "_law_again", "_law_back", "_law_k", "_law_world_here", "_law_handed", "_law_name", "_law_j"] (defScope s_law) { kind := .function, names := [(".0", .local), ("_law_name", .local), ("_law_its", .free)], isGenerator := false, isCoroutine := false, more := [] : Scope } [("_law_name", 16)] := blkOk_by (by decide +kernel)
theorem bk_law_1 : BlkOk ["_law_script", "_law_bag_here", "_law_spin", "_law_names", "_law_code_here", "_law_led_here", "_law_shown", "_law_found", "_law_any_one", "_law_its", "_law_parts", "_law_again", "_law_back", "_law_k", "_law_world_here", "_law_handed", "_law_name", "_law_j"] (defScope s_law) { kind := .function, names := [(".0", .local), ("_law_name", .local), ("_law_led_here", .free)], isGenerator := false, isCoroutine := false, more := [] : Scope } [("_law_name", 16)] := blkOk_by (by decide +kernel)
theorem bk_law_2 : BlkOk ["_law_script", "_law_bag_here", "_law_spin", "_law_names", "_law_code_here", "_law_led_here", "_law_shown", "_law_found", "_law_any_one", "_law_its", "_law_parts", "_law_again", "_law_back", "_law_k", "_law_world_here", "_law_handed", "_law_name", "_law_j"] (defScope s_law) { kind := .function, names := [(".0", .local), ("_law_name", .local), ("_law_led_here", .free)], isGenerator := false, isCoroutine := false, more := [] : Scope } [("_law_name", 16)] := blkOk_by (by decide +kernel)
theorem bk_law_3 : BlkOk ["_law_script", "_law_bag_here", "_law_spin", "_law_names", "_law_code_here", "_law_led_here", "_law_shown", "_law_found", "_law_any_one", "_law_its", "_law_parts", "_law_again", "_law_back", "_law_k", "_law_world_here", "_law_handed", "_law_name", "_law_j"] (defScope s_law) { kind := .function, names := [(".0", .local), ("_law_name", .local)], isGenerator := false, isCoroutine := false, more := [] : Scope } [("_law_name", 16)] := blkOk_by (by decide +kernel)
theorem bk_law_4 : BlkOk ["_law_script", "_law_bag_here", "_law_spin", "_law_names", "_law_code_here", "_law_led_here", "_law_shown", "_law_found", "_law_any_one", "_law_its", "_law_parts", "_law_again", "_law_back", "_law_k", "_law_world_here", "_law_handed", "_law_name", "_law_j"] (defScope s_law) { kind := .function, names := [(".0", .local), ("_law_j", .local), ("_law_take", .globalImplicit), ("_law_bag_here", .free), ("_law_world_here", .free)], isGenerator := false, isCoroutine := false, more := [] : Scope } [("_law_j", 17)] := blkOk_by (by decide +kernel)
theorem bk_law_5 : BlkOk ["_law_script", "_law_bag_here", "_law_spin", "_law_names", "_law_code_here", "_law_led_here", "_law_shown", "_law_found", "_law_any_one", "_law_its", "_law_parts", "_law_again", "_law_back", "_law_k", "_law_world_here", "_law_handed", "_law_name", "_law_j"] (defScope s_law) { kind := .function, names := [(".0", .local), ("_law_name", .local), ("_law_led_here", .free), ("_law_world_here", .free)], isGenerator := false, isCoroutine := false, more := [] : Scope } [("_law_name", 16)] := blkOk_by (by decide +kernel)
def t_law (R_law_take : RD) (R_law_names_of : RD) (R_law_code : RD) (R_law_term : RD) (R_law_some : RD) (R_law_led : RD) (Rrenamed : RD) (R_law_any : RD) (R_law_numbered : RD) (Ris_code : RD) (Rfree_names : RD) (R_law_free : RD) (Rsame_but_bound : RD) (R_law_world : RD) (R_law_answer : RD) : TSD :=
  (seqT (forT (.nm 2) (rng1I (consA (cT (.int 7)) nilA)) (seqT (setT 3 (callT R_law_names_of (consA (nameT 1) (consA (DL.binT addD (cT (.int 2)) (callT R_law_take (consA (nameT 1) (consA (cT (.int 4)) nilA)))) nilA))))
    (seqT (setT 4 (callT R_law_code (consA (nameT 1) (consA (nameT 3) (consA (cT (.int 2)) (consA (cT (.int 2)) nilA))))))
    (seqT (iffT (blT (DL.binT eqD (callT R_law_take (consA (nameT 1) (consA (cT (.int 2)) nilA))) (cT (.int 0)))) (setT 4 (tupT (consA (cT (.str "with")) (consA (callT R_law_some (consA (nameT 1) (consA (nameT 3) nilA))) (consA (callT R_law_term (consA (nameT 1) (consA (nameT 3) (consA (cT (.int 2)) (consA (cT (.int 1)) nilA))))) (consA (nameT 4) nilA)))))) nextT)
    (seqT (setT 5 (callT R_law_led (consA (nameT 1) (consA (nameT 4) (consA (nameT 3) nilA)))))
    (seqT (parT 6 7 (consA (callT reprW (consA (nameT 5) nilA)) (consA (callT Rrenamed (consA (nameT 4) (consA (nameT 5) nilA))) nilA)))
    (seqT (iffT (orB (blT (DL.binT neD (callT reprW (consA (nameT 5) nilA)) (nameT 6))) (blT (DL.binT neD (nameT 7) (callT Rrenamed (consA (nameT 4) (consA (callT dictR (consA (ofF (revF (ofF (itemsF (nameT 5))))) nilA)) nilA)))))) (retT (cT (.bl false))) nextT)
    (seqT (setT 8 (callT R_law_any (consA (nameT 1) (consA (nameT 3) (consA (DL.binT addD (cT (.int 1)) (callT R_law_take (consA (nameT 1) (consA (cT (.int 30)) nilA)))) nilA)))))
    (seqT (setT 9 (callT R_law_led (consA (nameT 1) (consA (nameT 8) (consA (nameT 3) nilA)))))
    (seqT (setT 10 (callT dictR (consA (ofF (lcF (.nm 16) (keysI (nameT 9)) yesT (tupT (consA (nameT 16) (consA (tupT (consA (cT (.str "name")) (consA (dixT (nameT 9) (nameT 16)) nilA))) nilA))) [16])) nilA)))
    (seqT (setT 11 (callT Rrenamed (consA (nameT 8) (consA (nameT 9) nilA))))
    (seqT (iffT (blT (DL.binT neD (callT R_law_numbered (consA (nameT 11) (consA (ofF (lstF nilA)) (consA emptyT nilA)))) (callT R_law_numbered (consA (nameT 8) (consA (ofF (lstF nilA)) (consA (nameT 10) nilA)))))) (retT (cT (.bl false))) nextT)
    (seqT (iffT (orB (notB (truT (callT Ris_code (consA (nameT 11) nilA)))) (notB (truT (callT Ris_code (consA (nameT 7) nilA))))) (retT (cT (.bl false))) nextT)
    (seqT (iffT (blT (DL.binT neD (callT Rfree_names (consA (nameT 7) nilA)) (ofF (sortF (consA (ofF (lcF (.nm 16) (seqI (ofF (sortSetF (consA (callT R_law_free (consA (nameT 4) (consA (ofF (lstF nilA)) nilA))) nilA)))) yesT (dixT (nameT 5) (nameT 16)) [16])) nilA))))) (retT (cT (.bl false))) nextT)
    (seqT (setT 12 (callT dictR (consA (ofF (lcF (.nm 16) (keysI (nameT 5)) yesT (tupT (consA (dixT (nameT 5) (nameT 16)) (consA (nameT 16) nilA))) [16])) nilA)))
    (seqT (iffT (notB (truT (callT Rsame_but_bound (consA (callT Rrenamed (consA (nameT 7) (consA (nameT 12) nilA))) (consA (nameT 4) nilA))))) (retT (cT (.bl false))) nextT)
    (seqT (iffT (notB (truT (callT Rsame_but_bound (consA (callT Rrenamed (consA (nameT 4) (consA (callT dictR (consA (ofF (lcF (.nm 16) (keysI (nameT 5)) yesT (tupT (consA (nameT 16) (consA (nameT 16) nilA))) [16])) nilA)) nilA))) (consA (nameT 4) nilA))))) (retT (cT (.bl false))) nextT)
    (forT (.nm 13) (rng1I (consA (cT (.int 3)) nilA)) (seqT (setT 14 (callT R_law_world (consA (nameT 1) (consA (DL.binT addD (cT (.int 1)) (callT R_law_take (consA (nameT 1) (consA (cT (.int 3)) nilA)))) (consA (ofF (sortValsF (nameT 5))) nilA)))))
    (seqT (setT 15 (ofF (lcF (.nm 17) (rng1I (consA (cT (.int 3)) nilA)) yesT (callT R_law_take (consA (nameT 1) (consA (DL.binT ixD (nameT 14) (cT (.int 0))) nilA))) [17])))
    (seqT (setT 9 (tupT (consA (DL.binT ixD (nameT 14) (cT (.int 0))) (consA (DL.binT ixD (nameT 14) (cT (.int 1))) (consA (callT dictR (consA (ofF (lcF (.nm 16) (keysI (nameT 5)) yesT (tupT (consA (nameT 16) (consA (dixT (DL.binT ixD (nameT 14) (cT (.int 2))) (dixT (nameT 5) (nameT 16))) nilA))) [16])) nilA)) nilA)))))
    (iffT (blT (DL.binT neD (callT R_law_answer (consA (nameT 7) (consA (nameT 14) (consA emptyT (consA (nameT 15) nilA))))) (callT R_law_answer (consA (nameT 4) (consA (nameT 9) (consA emptyT (consA (nameT 15) nilA))))))) (retT (cT (.bl false))) nextT))))))))))))))))))))))
    (retT (cT (.bl true))))
theorem fn_law {n : Nat} {f : Addr} {fd : FuncData} {R_law_take R_law_names_of R_law_code R_law_term R_law_some R_law_led Rrenamed R_law_any R_law_numbered Ris_code Rfree_names R_law_free Rsame_but_bound R_law_world R_law_answer : RD} (Fn : Fun K "law" "law" s_law f fd) (z_dict : mg "dict" = none) (z_list : mg "list" = none) (z_range : mg "range" = none) (z_repr : mg "repr" = none) (z_set : mg "set" = none) (z_sorted : mg "sorted" = none) (cbag : BagP P w K mg base n "_law_bag") (c_law_take : CalP P w K mg base n "_law_take" R_law_take) (c_law_names_of : CalP P w K mg base n "_law_names_of" R_law_names_of) (c_law_code : CalP P w K mg base n "_law_code" R_law_code) (c_law_term : CalP P w K mg base n "_law_term" R_law_term) (c_law_some : CalP P w K mg base n "_law_some" R_law_some) (c_law_led : CalP P w K mg base n "_law_led" R_law_led) (crenamed : CalP P w K mg base n "renamed" Rrenamed) (c_law_any : CalP P w K mg base n "_law_any" R_law_any) (c_law_numbered : CalP P w K mg base n "_law_numbered" R_law_numbered) (cis_code : CalP P w K mg base n "is_code" Ris_code) (cfree_names : CalP P w K mg base n "free_names" Rfree_names) (c_law_free : CalP P w K mg base n "_law_free" R_law_free) (csame_but_bound : CalP P w K mg base n "same_but_bound" Rsame_but_bound) (c_law_world : CalP P w K mg base n "_law_world" R_law_world) (c_law_answer : CalP P w K mg base n "_law_answer" R_law_answer) (hS : ∃ m, base.Ns sysModules m)
    (hR : t_law R_law_take R_law_names_of R_law_code R_law_term R_law_some R_law_led Rrenamed R_law_any R_law_numbered Ris_code Rfree_names R_law_free Rsame_but_bound R_law_world R_law_answer endLaw (.un :: .dat .bag :: List.replicate 16 .un)) : FnG P w K mg base CX0 (n + 1) f fd ["_law_script"] (spLaw K) :=
  Fun.okLaw Fn sc_law rfl rfl ⟨_, fun cdv A outer s H E hr hg => ⟨s_bag0 ⟨cbag.ex⟩ hr hg sc_law.nd rfl (Or.inr rfl) rfl rfl, fun G H' pn =>
      (s_cons (s_for (t := (.nm 2)) PassesOwn.never rfl (i_rng1 rfl z_range (a_cons d_int a_nil)) (pg_name (i := 2) sc_law.nd rfl (Or.inl rfl)) (fun _ => (s_cons (s_set (i := 3) sc_law.nd rfl (Or.inl rfl) (d_call ⟨c_law_names_of.ex⟩ hr hg rfl (a_cons (d_name 1) (a_cons (d_add d_int (d_call ⟨c_law_take.ex⟩ hr hg rfl (a_cons (d_name 1) (a_cons d_int a_nil)))) a_nil))))
      (s_cons (s_set (i := 4) sc_law.nd rfl (Or.inl rfl) (d_call ⟨c_law_code.ex⟩ hr hg rfl (a_cons (d_name 1) (a_cons (d_name 3) (a_cons d_int (a_cons d_int a_nil))))))
      (s_cons (s_if (t_cmp (op_eqA hr) ok_eq (d_call ⟨c_law_take.ex⟩ hr hg rfl (a_cons (d_name 1) (a_cons d_int a_nil))) d_int (nomark _)) (s_one (s_set (i := 4) sc_law.nd rfl (Or.inl rfl) (d_tup (a_cons d_str (a_cons (d_call ⟨c_law_some.ex⟩ hr hg rfl (a_cons (d_name 1) (a_cons (d_name 3) a_nil))) (a_cons (d_call ⟨c_law_term.ex⟩ hr hg rfl (a_cons (d_name 1) (a_cons (d_name 3) (a_cons d_int (a_cons d_int a_nil))))) (a_cons (d_name 4) a_nil))))))) s_nil)
      (s_cons (s_set (i := 5) sc_law.nd rfl (Or.inr rfl) (d_call ⟨c_law_led.ex⟩ hr hg rfl (a_cons (d_name 1) (a_cons (d_name 4) (a_cons (d_name 3) a_nil)))))
      (s_cons (s_par (i := 6) (j := 7) rfl (by rfl) sc_law.nd rfl rfl (by decide) rfl rfl (a_cons (d_reprW hr hg hS rfl z_repr (a_cons (d_name 5) a_nil)) (a_cons (d_call ⟨crenamed.ex⟩ hr hg rfl (a_cons (d_name 4) (a_cons (d_name 5) a_nil))) a_nil)))
      (s_cons (s_if (PW.pt (w_or (t_cmp (op_neA hr) ok_ne (d_reprW hr hg hS rfl z_repr (a_cons (d_name 5) a_nil)) (d_name 6) (nomark _)) (w_or1 (t_cmp (op_neA hr) ok_ne (d_name 7) (d_call ⟨crenamed.ex⟩ hr hg rfl (a_cons (d_name 4) (a_cons (d_dict rfl rfl z_dict (a_cons (d_of (f_rev (d_of (f_items rfl rfl z_list (d_name 5))))) a_nil)) a_nil))) (nomark _))))) (s_one (s_ret d_bl)) s_nil)
      (s_cons (s_set (i := 8) sc_law.nd rfl (Or.inl rfl) (d_call ⟨c_law_any.ex⟩ hr hg rfl (a_cons (d_name 1) (a_cons (d_name 3) (a_cons (d_add d_int (d_call ⟨c_law_take.ex⟩ hr hg rfl (a_cons (d_name 1) (a_cons d_int a_nil)))) a_nil)))))
      (s_cons (s_set (i := 9) sc_law.nd rfl (Or.inr rfl) (d_call ⟨c_law_led.ex⟩ hr hg rfl (a_cons (d_name 1) (a_cons (d_name 8) (a_cons (d_name 3) a_nil)))))
      (s_cons (s_set (i := 10) sc_law.nd rfl (Or.inl rfl) (d_dict rfl rfl z_dict (a_cons (d_of (f_lc (.nm 16) rfl sc_law.nd (i_keys (d_name 9)) bk_law_0 (fun _ _ _ _ _ => (pg_name (i := 16) sc_law.nd rfl (Or.inl rfl))) (fun _ _ _ _ _ _ => ts_nil) (fun _ _ _ _ _ _ => (d_tup (a_cons (d_name 16) (a_cons (d_tup (a_cons d_str (a_cons (d_dix hr (d_name 9) (d_name 16)) a_nil))) a_nil)))))) a_nil)))
      (s_cons (s_set (i := 11) sc_law.nd rfl (Or.inl rfl) (d_call ⟨crenamed.ex⟩ hr hg rfl (a_cons (d_name 8) (a_cons (d_name 9) a_nil))))
      (s_cons (s_if (t_cmp (op_neA hr) ok_ne (d_call ⟨c_law_numbered.ex⟩ hr hg rfl (a_cons (d_name 11) (a_cons (d_of (f_lst a_nil)) (a_cons d_dictE a_nil)))) (d_call ⟨c_law_numbered.ex⟩ hr hg rfl (a_cons (d_name 8) (a_cons (d_of (f_lst a_nil)) (a_cons (d_name 10) a_nil)))) (nomark _)) (s_one (s_ret d_bl)) s_nil)
      (s_cons (s_if (PW.pt (w_or (t_not (t_tru (d_call ⟨cis_code.ex⟩ hr hg rfl (a_cons (d_name 11) a_nil)))) (w_or1 (t_not (t_tru (d_call ⟨cis_code.ex⟩ hr hg rfl (a_cons (d_name 7) a_nil))))))) (s_one (s_ret d_bl)) s_nil)
      (s_cons (s_if (t_cmp (op_neA hr) ok_ne (d_call ⟨cfree_names.ex⟩ hr hg rfl (a_cons (d_name 7) a_nil)) (d_of (f_sort rfl z_sorted (a_cons (d_of (f_lc (.nm 16) rfl sc_law.nd (i_seq (d_of (f_sortSet rfl rfl z_sorted rfl z_set (a_cons (d_call ⟨c_law_free.ex⟩ hr hg rfl (a_cons (d_name 4) (a_cons (d_of (f_lst a_nil)) a_nil))) a_nil)))) bk_law_1 (fun _ _ _ _ _ => (pg_name (i := 16) sc_law.nd rfl (Or.inl rfl))) (fun _ _ _ _ _ _ => ts_nil) (fun _ _ _ _ _ _ => (d_dix hr (d_name 5) (d_name 16))))) a_nil))) (nomark _)) (s_one (s_ret d_bl)) s_nil)
      (s_cons (s_set (i := 12) sc_law.nd rfl (Or.inl rfl) (d_dict rfl rfl z_dict (a_cons (d_of (f_lc (.nm 16) rfl sc_law.nd (i_keys (d_name 5)) bk_law_2 (fun _ _ _ _ _ => (pg_name (i := 16) sc_law.nd rfl (Or.inl rfl))) (fun _ _ _ _ _ _ => ts_nil) (fun _ _ _ _ _ _ => (d_tup (a_cons (d_dix hr (d_name 5) (d_name 16)) (a_cons (d_name 16) a_nil)))))) a_nil)))
      (s_cons (s_if (t_not (t_tru (d_call ⟨csame_but_bound.ex⟩ hr hg rfl (a_cons (d_call ⟨crenamed.ex⟩ hr hg rfl (a_cons (d_name 7) (a_cons (d_name 12) a_nil))) (a_cons (d_name 4) a_nil))))) (s_one (s_ret d_bl)) s_nil)
      (s_cons (s_if (t_not (t_tru (d_call ⟨csame_but_bound.ex⟩ hr hg rfl (a_cons (d_call ⟨crenamed.ex⟩ hr hg rfl (a_cons (d_name 4) (a_cons (d_dict rfl rfl z_dict (a_cons (d_of (f_lc (.nm 16) rfl sc_law.nd (i_keys (d_name 5)) bk_law_3 (fun _ _ _ _ _ => (pg_name (i := 16) sc_law.nd rfl (Or.inl rfl))) (fun _ _ _ _ _ _ => ts_nil) (fun _ _ _ _ _ _ => (d_tup (a_cons (d_name 16) (a_cons (d_name 16) a_nil)))))) a_nil)) a_nil))) (a_cons (d_name 4) a_nil))))) (s_one (s_ret d_bl)) s_nil)
      (s_one (s_for (t := (.nm 13)) PassesOwn.never rfl (i_rng1 rfl z_range (a_cons d_int a_nil)) (pg_name (i := 13) sc_law.nd rfl (Or.inl rfl)) (fun _ => (s_cons (s_set (i := 14) sc_law.nd rfl (Or.inr rfl) (d_call ⟨c_law_world.ex⟩ hr hg rfl (a_cons (d_name 1) (a_cons (d_add d_int (d_call ⟨c_law_take.ex⟩ hr hg rfl (a_cons (d_name 1) (a_cons d_int a_nil)))) (a_cons (d_of (f_sortVals rfl rfl z_sorted (d_name 5))) a_nil)))))
      (s_cons (s_setLc (i := 15) (.nm 17) rfl sc_law.nd rfl rfl (by rfl) (i_rng1 rfl z_range (a_cons d_int a_nil)) bk_law_4 (fun _ _ _ _ _ => (pg_name (i := 17) sc_law.nd rfl (Or.inl rfl))) (fun _ _ _ _ _ _ => ts_nil) (fun _ _ _ _ _ _ => (d_call ⟨c_law_take.ex⟩ hr hg rfl (a_cons (d_name 1) (a_cons (d_ix (d_name 14) d_int) a_nil)))))
      (s_cons (s_set (i := 9) sc_law.nd rfl (Or.inr rfl) (d_tup (a_cons (d_ix (d_name 14) d_int) (a_cons (d_ix (d_name 14) d_int) (a_cons (d_dict rfl rfl z_dict (a_cons (d_of (f_lc (.nm 16) rfl sc_law.nd (i_keys (d_name 5)) bk_law_5 (fun _ _ _ _ _ => (pg_name (i := 16) sc_law.nd rfl (Or.inl rfl))) (fun _ _ _ _ _ _ => ts_nil) (fun _ _ _ _ _ _ => (d_tup (a_cons (d_name 16) (a_cons (d_dix hr (d_ix (d_name 14) d_int) (d_dix hr (d_name 5) (d_name 16))) a_nil)))))) a_nil)) a_nil)))))
      (s_one (s_if (t_cmp (op_neA hr) ok_ne (d_call ⟨c_law_answer.ex⟩ hr hg rfl (a_cons (d_name 7) (a_cons (d_name 14) (a_cons d_dictE (a_cons (d_name 15) a_nil))))) (d_call ⟨c_law_answer.ex⟩ hr hg rfl (a_cons (d_name 4) (a_cons (d_name 9) (a_cons d_dictE (a_cons (d_name 15) a_nil))))) (nomark _)) (s_one (s_ret d_bl)) s_nil))))))))))))))))))))))))))
      (s_one (s_ret d_bl)))⟩, hR⟩

end
end K15

set_option Elab.async false
set_option linter.all false
set_option maxRecDepth 100000
set_option maxHeartbeats 4000000
namespace K15
open PySem L2 DL
local macro_rules | `(tactic| walk_at "dl") => `(tactic| simp only [Tr.toD, toDs_d, map_snoc, map_ins, treeT, seqT, iffT, setT, retT, nextT, retN, blT, DL.binT, nameT, cT, bagT, cutBT, putBT, augBT, consA, nilA, callT, ofF, lstF, lstR, tupT, eqD, neD, inD, notInD, someO, noneO, slT, revF, endD, enterS, ifT, andT, orT, notT, andB, orB, notB, truT, newT, mT, thruT, thruB, frzT, putT, parT, tgtT, methT, onT, isStr, isLst, getT, starA, negT, dropT, breakT, contT, tgD, putA, seqI, rng1I, enumI, zipI, forT, lcF, wipeS,
  addD_ii, addD_ib, addD_ss, addD_ll, addD_tt, subD_ii, mulD_ii, mulD_li, fdivD_ii, modD_ii, cmpI_ii, eqB_ss, eqB_ii, eqB_bb, eqB_tt, eqB_ll, inB_l, inB_t, ixD_l, ixD_t, ixD_s, slD_l, slD_t, truD_b, truD_i, truD_n, truD_s, truD_l, truD_t, intR_i, intR_b, lenR_s, lenR_l, lenR_t, absR_i, minR_ii, maxR_ii, tupR_l, tupR_t, appD_1, insD_1, extD_1, splitM_1, optK_some, atI_0, atI_1, atI_2, atI_3, atI_4, cutL_1, cutL_2, cutL_t1, cutL_t2,
  List.map_cons, List.map_nil, List.replicate_succ, List.replicate_zero, List.cons_append, List.nil_append, List.length_cons, List.length_nil, List.set_cons_zero, List.set_cons_succ, List.getElem?_cons_zero, List.getElem?_cons_succ, List.drop_succ_cons, List.drop_zero, List.take_succ_cons, List.take_zero, true_and, and_true, true_or, or_true, decide_eq_true_eq, reduceCtorEq, if_true, if_false, ite_true, ite_false, D.int.injEq, Nat.reduceAdd, Nat.reduceSub, Int.reduceSub, Int.reduceAdd, Int.reduceNeg, Bool.false_eq_true, Bool.true_eq_false, decide_true, decide_false, Bool.not_true, Bool.not_false, Bool.not_eq_true', decide_eq_false_iff_not])
def R_take : RD := fun ds k => ∃ m : Int, ds = [.bag, .int m] ∧ 0 < m ∧ m < 2 ^ 30 ∧ ∀ i : Int, 0 ≤ i → i < m → k (.int i)
theorem p_take : ∀ ds κ, R_take ds κ → t_L_take (endD κ) (enterS 7 ds) := by
  rintro ds κ ⟨m, rfl, h0, h1, h⟩
  unfold t_L_take
  walk_at "dl"
  have hm : ∀ i : Int, κ (.int (i % m)) := fun i => h _ (Int.emod_nonneg _ (by omega)) (Int.emod_lt_of_pos _ h0)
  have cm : ∀ {a b : Int}, 0 ≤ b → b < 2 ^ 64 → CMul a b := fun h1 h2 => .inr ⟨by omega, h2⟩
  have cd : ∀ {a b c : Int}, 0 ≤ a → a < 2 ^ 64 → CMul a c := fun h1 h2 => .inl ⟨by omega, h2⟩
  have em : ∀ {a b : Int}, 0 < b → 0 ≤ a % b ∧ a % b < b := fun hb => ⟨Int.emod_nonneg _ (by omega), Int.emod_lt_of_pos _ hb⟩
  intro x hx
  split
  · intro y hy ns hns hl
    have hs : sizeLine = 16777216 := sizeLine_eq
    refine ⟨by omega, by rw [List.length_map]; omega, ?_⟩
    have hc : ∃ c : Int, 0 ≤ c ∧ L2.atI (List.map D.int ns ++ [D.int 0]) 0 = some (D.int c) := by
      cases ns with
      | nil => exact ⟨0, by omega, atI_0⟩
      | cons a ns => exact ⟨a, hns a List.mem_cons_self, atI_0⟩
    obtain ⟨c, hc, e⟩ := hc
    refine optK_of e ⟨1, by omega, rfl, ?_⟩
    walk_at "dl"
    have tl : ∀ (z u : Int), 0 ≤ z → (0 ≤ u) → CMul z 48271 ∧ CMul 7919 u := fun z u _ _ => ⟨cm (by omega) (by omega), .inl ⟨by omega, by omega⟩⟩
    split
    · refine ⟨c, hc, rfl, fun z hz => ⟨cm (by omega) (by omega), by omega, fun u hu => ⟨.inl ⟨by omega, by omega⟩, by omega, _, (em (by omega)).1, rfl, fun v hv => ?_⟩⟩⟩
      split
      · exact fun a ha => ⟨h0, fun b hb => ⟨⟨h0, by omega⟩, _, Int.ediv_nonneg hb (by omega), rfl, hm _⟩⟩
      · exact fun a ha => ⟨cm (by omega) (by omega), by omega, .inl ⟨by have := (em (a := (a + 1) * 39373) (b := 1000000007) (by omega)).1; omega, by have := (em (a := (a + 1) * 39373) (b := 1000000007) (by omega)).2; omega⟩, by omega, cm (by omega) (by omega), by omega, ⟨by omega, by omega⟩, h0, hm _⟩
    · refine fun z hz => ⟨cm (by omega) (by omega), by omega, fun u hu => ⟨.inl ⟨by omega, by omega⟩, by omega, _, (em (by omega)).1, rfl, fun v hv => ?_⟩⟩
      split
      · exact fun a ha => ⟨h0, fun b hb => ⟨⟨h0, by omega⟩, _, Int.ediv_nonneg hb (by omega), rfl, hm _⟩⟩
      · exact fun a ha => ⟨cm (by omega) (by omega), by omega, .inl ⟨by have := (em (a := (a + 1) * 39373) (b := 1000000007) (by omega)).1; omega, by have := (em (a := (a + 1) * 39373) (b := 1000000007) (by omega)).2; omega⟩, by omega, cm (by omega) (by omega), by omega, ⟨by omega, by omega⟩, h0, hm _⟩
  · intro v hv
    split
    · exact fun a ha => ⟨h0, fun b hb => ⟨⟨h0, by omega⟩, _, Int.ediv_nonneg hb (by omega), rfl, hm _⟩⟩
    · exact fun a ha => ⟨cm (by omega) (by omega), by omega, .inl ⟨by have := (em (a := (a + 1) * 39373) (b := 1000000007) (by omega)).1; omega, by have := (em (a := (a + 1) * 39373) (b := 1000000007) (by omega)).2; omega⟩, by omega, cm (by omega) (by omega), by omega, ⟨by omega, by omega⟩, h0, hm _⟩
end K15

set_option Elab.async false
set_option linter.all false
set_option maxRecDepth 100000
set_option maxHeartbeats 4000000
namespace K15
open PySem L2 DL
local macro_rules | `(tactic| walk_at "dl") => `(tactic| simp only [Tr.toD, toDs_d, map_snoc, map_ins, treeT, seqT, iffT, setT, retT, nextT, retN, blT, DL.binT, nameT, cT, bagT, cutBT, putBT, augBT, consA, nilA, callT, ofF, lstF, lstR, tupT, eqD, neD, inD, notInD, someO, noneO, slT, revF, endD, enterS, ifT, andT, orT, notT, andB, orB, notB, truT, newT, mT, thruT, thruB, frzT, putT, parT, tgtT, methT, onT, isStr, isLst, getT, starA, negT, dropT, breakT, contT, tgD, putA, seqI, rng1I, enumI, zipI, forT, lcF, wipeS,
  addD_ii, addD_ib, addD_ss, addD_ll, addD_tt, subD_ii, mulD_ii, mulD_li, fdivD_ii, modD_ii, cmpI_ii, eqB_ss, eqB_ii, eqB_bb, eqB_tt, eqB_ll, inB_l, inB_t, ixD_l, ixD_t, ixD_s, slD_l, slD_t, truD_b, truD_i, truD_n, truD_s, truD_l, truD_t, intR_i, intR_b, lenR_s, lenR_l, lenR_t, absR_i, minR_ii, maxR_ii, tupR_l, tupR_t, appD_1, insD_1, extD_1, splitM_1, optK_some, atI_0, atI_1, atI_2, atI_3, atI_4, cutL_1, cutL_2, cutL_t1, cutL_t2,
  List.map_cons, List.map_nil, List.replicate_succ, List.replicate_zero, List.cons_append, List.nil_append, List.length_cons, List.length_nil, List.set_cons_zero, List.set_cons_succ, List.getElem?_cons_zero, List.getElem?_cons_succ, List.drop_succ_cons, List.drop_zero, List.take_succ_cons, List.take_zero, true_and, and_true, true_or, or_true, decide_eq_true_eq, reduceCtorEq, if_true, if_false, ite_true, ite_false, D.int.injEq, Nat.reduceAdd, Nat.reduceSub, Int.reduceSub, Int.reduceAdd, Int.reduceNeg, Bool.false_eq_true, Bool.true_eq_false, decide_true, decide_false, Bool.not_true, Bool.not_false, Bool.not_eq_true', decide_eq_false_iff_not])
/-! ### draws -/
def R_some : RD := fun ds k => (∃ xs, ds = [.bag, .lst xs] ∧ xs ≠ [] ∧ xs.length < 2 ^ 20 ∧ ∀ x ∈ xs, k x) ∨ ∃ z : Str, ds = [.bag, .str z] ∧ 0 < z.length ∧ z.length < 2 ^ 20 ∧ ∀ c ∈ z.cps.toList, k (.str ⟨#[c]⟩)
theorem p_some : ∀ ds κ, R_some ds κ → t_L_some R_take (endD κ) (enterS 2 ds) := by
  have hs : sizeLine = 16777216 := sizeLine_eq
  rintro ds κ (⟨xs, rfl, hn, hl, h⟩ | ⟨z, rfl, hn, hl, h⟩)
  · unfold t_L_some
    walk_at "dl"
    have hp : 0 < xs.length := List.length_pos_iff.mpr hn
    refine ⟨_, rfl, by omega, by omega, fun i h0 h1 => ?_⟩
    walk_at "dl"
    obtain ⟨c, e1, e2⟩ := atI_lt h0 h1
    exact optK_of e1 (h c (List.mem_of_getElem? e2))
  · unfold t_L_some
    walk_at "dl"
    refine ⟨by omega, _, rfl, by omega, by omega, fun i h0 h1 => ?_⟩
    walk_at "dl"
    have h2 : i < z.cps.toList.length := h1
    obtain ⟨c, e1, e2⟩ := atI_lt h0 h2
    exact ⟨by omega, optK_of e1 (h c (List.mem_of_getElem? e2))⟩
/-- some order of what is there -/
def R_mixed (n : Nat) : RD := fun ds k => ∃ xs, (ds = [.bag, .lst xs] ∨ ds = [.bag, .tup xs]) ∧ xs.length ≤ n ∧ ∀ ys : List D, (∀ y, y ∈ ys ↔ y ∈ xs) → ys.length = xs.length → k (.lst ys)
theorem p_mixed {n : Nat} (hn : n < 2 ^ 20) : ∀ ds κ, R_mixed n ds κ → t_L_mixed R_take (endD κ) (enterS 4 ds) := by
  have hs : sizeLine = 16777216 := sizeLine_eq
  rintro ds κ ⟨xs, hd, hl, h⟩
  have go : ∀ s0 : D, (s0 = .lst xs ∨ s0 = .tup xs) → t_L_mixed R_take (endD κ) (enterS 4 [.bag, s0]) := by
    intro s0 hs0
    unfold t_L_mixed
    walk_at "dl"
    refine ⟨by omega, ?_⟩
    have main : loopT (.nm 3) (mT 2 insD (consA (thruT 2 (callT R_take (consA (nameT 0) (consA (DL.binT addD (callT lenR (consA (nameT 2) nilA)) (cT (.int 1))) nilA)))) (consA (nameT 3) nilA)))
        { nx := frzT 2 (retT (nameT 2)) (endD κ), rt := (endD κ).rt, bk := (endD κ).bk, ct := (endD κ).ct } xs [.dat .bag, .dat s0, .ml [], .un] := by
      refine loopT_ind (I := fun rest ρ => ∃ ys u, ρ = [.dat .bag, .dat s0, .ml ys, u] ∧ (∀ y, (y ∈ ys ∨ y ∈ rest) ↔ y ∈ xs) ∧ ys.length + rest.length = xs.length) ?_ ?_ ⟨[], .un, rfl, fun y => by simp, by simp⟩
      · rintro ρ ⟨ys, u, rfl, h1, h2⟩
        walk_at "dl"
        exact h ys (fun y => by rw [← h1 y]; simp) (by simpa using h2)
      · rintro d rest ρ N hN ⟨ys, u, rfl, h1, h2⟩
        rw [List.length_cons] at h2
        walk_at "dl"
        refine ⟨_, rfl, by omega, by omega, fun i h3 h4 => ⟨rfl, ?_⟩⟩
        walk_at "dl"
        refine ⟨by rw [List.length_map]; omega, h3, by omega, hN _ ⟨_, _, rfl, fun y => ?_, by simp [List.length_take, List.length_drop]; omega⟩⟩
        rw [← h1 y]
        have e : ys = ys.take i.toNat ++ ys.drop i.toNat := (List.take_append_drop _ _).symm
        have e2 : y ∈ ys ↔ y ∈ ys.take i.toNat ∨ y ∈ ys.drop i.toNat := by
          constructor
          · intro hy; rw [e] at hy; exact List.mem_append.mp hy
          · intro hy; rw [e]; exact List.mem_append.mpr hy
        rw [e2]
        simp only [List.mem_append, List.mem_cons, List.not_mem_nil, or_false]
        constructor
        · rintro (((a | b) | c) | d)
          · exact .inl (.inl a)
          · exact .inr (.inl b)
          · exact .inl (.inr c)
          · exact .inr (.inr d)
        · rintro ((a | b) | (c | d))
          · exact .inl (.inl (.inl a))
          · exact .inl (.inr b)
          · exact .inl (.inl (.inr c))
          · exact .inr d
    rcases hs0 with rfl | rfl <;> exact main
  rcases hd with rfl | rfl
  · exact go _ (.inl rfl)
  · exact go _ (.inr rfl)
end K15

set_option Elab.async false
set_option linter.all false
set_option maxRecDepth 100000
set_option maxHeartbeats 4000000
namespace K15
open PySem L2 DL
local macro_rules | `(tactic| walk_at "dl") => `(tactic| simp only [Tr.toD, toDs_d, map_snoc, map_ins, treeT, seqT, iffT, setT, retT, nextT, retN, blT, DL.binT, nameT, cT, bagT, cutBT, putBT, augBT, consA, nilA, callT, ofF, lstF, lstR, tupT, eqD, neD, inD, notInD, someO, noneO, slT, revF, endD, enterS, ifT, andT, orT, notT, andB, orB, notB, truT, newT, mT, thruT, thruB, frzT, putT, parT, tgtT, methT, onT, isStr, isLst, getT, starA, negT, dropT, breakT, contT, tgD, putA, seqI, rng1I, enumI, zipI, forT, lcF, wipeS,
  addD_ii, addD_ib, addD_ss, addD_ll, addD_tt, subD_ii, mulD_ii, mulD_li, fdivD_ii, modD_ii, cmpI_ii, eqB_ss, eqB_ii, eqB_bb, eqB_tt, eqB_ll, inB_l, inB_t, ixD_l, ixD_t, ixD_s, slD_l, slD_t, truD_b, truD_i, truD_n, truD_s, truD_l, truD_t, intR_i, intR_b, lenR_s, lenR_l, lenR_t, absR_i, minR_ii, maxR_ii, tupR_l, tupR_t, appD_1, insD_1, extD_1, splitM_1, optK_some, atI_0, atI_1, atI_2, atI_3, atI_4, cutL_1, cutL_2, cutL_t1, cutL_t2,
  List.map_cons, List.map_nil, List.replicate_succ, List.replicate_zero, List.cons_append, List.nil_append, List.length_cons, List.length_nil, List.set_cons_zero, List.set_cons_succ, List.getElem?_cons_zero, List.getElem?_cons_succ, List.drop_succ_cons, List.drop_zero, List.take_succ_cons, List.take_zero, true_and, and_true, true_or, or_true, decide_eq_true_eq, reduceCtorEq, if_true, if_false, ite_true, ite_false, D.int.injEq, Nat.reduceAdd, Nat.reduceSub, Int.reduceSub, Int.reduceAdd, Int.reduceNeg, Bool.false_eq_true, Bool.true_eq_false, decide_true, decide_false, Bool.not_true, Bool.not_false, Bool.not_eq_true', decide_eq_false_iff_not])
/-! ### words -/
def lowc (c : Nat) : Bool := decide (97 ≤ c) && decide (c < 123)
def wOk (w : Str) : Bool := w.cps.all lowc && (decide (w.length ≤ 8) && decide (0 < w.length))
theorem low_asc {w : Str} (h : w.cps.all lowc = true) : w.cps.all (· < 128) = true := by
  rw [Array.all_eq_true] at h ⊢
  intro i hi
  have := h i hi
  simp only [lowc, Bool.and_eq_true, decide_eq_true_eq] at this ⊢
  omega
theorem asc_ok {w : Str} (h : w.cps.all (· < 128) = true) : PyData.strOk w = true := by
  unfold PyData.strOk
  rw [Array.all_eq_true] at h ⊢
  intro i hi
  have := h i hi
  simp only [decide_eq_true_eq] at this ⊢
  omega
theorem wOk_str {w : Str} (h : wOk w = true) : PyData.strOk w = true := by
  unfold wOk at h
  rw [Bool.and_eq_true] at h
  exact asc_ok (low_asc h.1)
abbrev Good (ws : List Str) : Prop := ∀ w ∈ ws, wOk w = true
theorem lay_strs : ∀ ws : List Str, Good ws → PyData.canLayAll0 (D.pys (ws.map .str)) = true
  | [], _ => by simp [D.pys, PyData.canLayAll0]
  | w :: ws, h => by simp [D.pys, D.py, PyData.canLayAll0, PyData.canLay0, lay_strs ws fun z hz => h z (List.mem_cons_of_mem _ hz), wOk_str (h w List.mem_cons_self)]
theorem in_strs {x : Str} {ws : List Str} (hx : wOk x = true) (h : Good ws) : inOk (.str x) (ws.map .str) := ⟨by simp [D.py, PyData.canLay0, wOk_str hx], lay_strs ws h, by simp [D.py, PyData.depth]⟩
theorem any_strs (x : Str) : ∀ l : List Str, ((l.map D.str).any fun z => z.py.eqv (.str x)) = decide (x ∈ l)
  | [] => by simp
  | y :: l => by
    rw [List.map_cons, List.any_cons, any_strs x l]
    simp only [D.py, PyData.eqv, List.mem_cons]
    by_cases e : y = x
    · subst e; simp
    · have e' : ¬ x = y := fun z => e z.symm
      simp [e, e']
def addS (xs : List Str) (x : Str) : List Str := if x ∈ xs then xs else xs ++ [x]
theorem addS_mem {xs : List Str} {x y : Str} : y ∈ addS xs x ↔ y ∈ xs ∨ y = x := by
  unfold addS
  split
  · constructor
    · exact .inl
    · rintro (h | rfl)
      · exact h
      · assumption
  · simp
theorem addS_len (xs : List Str) (x : Str) : (addS xs x).length ≤ xs.length + 1 := by
  unfold addS
  split
  · omega
  · simp
theorem addS_ne (xs : List Str) (x : Str) : addS xs x ≠ [] := fun e => by
  have : x ∈ addS xs x := addS_mem.mpr (.inr rfl)
  rw [e] at this; cases this
theorem addS_nd {xs : List Str} {x : Str} (h : xs.Nodup) : (addS xs x).Nodup := by
  unfold addS
  split
  · exact h
  · rename_i q
    exact List.nodup_append.mpr ⟨h, by simp, fun a ha b hb => by
      obtain rfl := List.mem_singleton.mp hb
      exact fun z => q (z ▸ ha)⟩
theorem addS_good {xs : List Str} {x : Str} (h : Good xs) (hx : wOk x = true) : Good (addS xs x) := fun w hw => by
  rcases addS_mem.mp hw with z | rfl
  · exact h w z
  · exact hx
/-- found + [word] * int(word not in found) -/
theorem grows {x : Str} {ws : List Str} {κ : D → Prop} (B : Bool) (hB : B = decide (x ∈ ws)) (h : κ (.lst ((addS ws x).map .str))) (hl : ws.length < 2 ^ 20) :
    ((-2 ^ 63 ≤ if B = false then (1 : Int) else 0) ∧ (if B = false then (1 : Int) else 0) < 2 ^ 63) ∧ 1 * (if B = false then (1 : Int) else 0).toNat ≤ sizeLine ∧
      (ws.map D.str).length + (List.replicate (if B = false then (1 : Int) else 0).toNat [D.str x]).flatten.length ≤ sizeLine ∧ κ (.lst (ws.map .str ++ (List.replicate (if B = false then (1 : Int) else 0).toNat [D.str x]).flatten)) := by
  have hs : sizeLine = 16777216 := sizeLine_eq
  subst hB
  unfold addS at h
  by_cases q : x ∈ ws
  · rw [if_pos q] at h
    rw [decide_eq_true q]
    have e : ws.map D.str ++ (List.replicate (if true = false then (1 : Int) else 0).toNat [D.str x]).flatten = ws.map .str := by simp
    rw [e]
    exact ⟨by simp, by simp, by simp; omega, h⟩
  · rw [if_neg q] at h
    rw [decide_eq_false q]
    have e : ws.map D.str ++ (List.replicate (if false = false then (1 : Int) else 0).toNat [D.str x]).flatten = (ws ++ [x]).map .str := by rw [List.map_append]; rfl
    rw [e]
    exact ⟨by simp, by simp; omega, by simp; omega, h⟩
def R_words : RD := fun ds k => ∃ m : Nat, ds = [.bag, .int m] ∧ 1 ≤ m ∧ m ≤ 14 ∧ ∀ ws : List Str, Good ws → ws.Nodup → ws.length = m → k (.lst (ws.map .str))
abbrev wordsText : Str := "name given work if with call leaf test worth place there code up of one a aa b zzzzzzzz"
theorem words_len : (Txt.split wordsText " ").length = 19 := by decide +kernel
theorem words_ok : (Txt.split wordsText " ").all wOk = true := by decide +kernel
theorem words_nd : ∀ a : Fin 19, (((Txt.split wordsText " ") ++ (Txt.split wordsText " ")).drop a).take 19 |>.Nodup := by decide +kernel
theorem p_words : ∀ ds κ, R_words ds κ → t_L_words R_take (R_mixed 16) (endD κ) (enterS 6 ds) := by
  have hs : sizeLine = 16777216 := sizeLine_eq
  rintro ds κ ⟨m, rfl, h1, h3, h⟩
  unfold t_L_words
  walk_at "dl"
  refine ⟨⟨by decide +kernel, by decide +kernel⟩, _, rfl, by omega, by omega, fun i i0 i1 => ⟨by omega, ?_⟩⟩
  have wl := words_len
  have wo : Good (Txt.split wordsText " ") := List.all_eq_true.mp words_ok
  have wn := words_nd
  generalize hW : Txt.split _ _ = W at wl wo wn ⊢
  refine ⟨by simp only [List.length_map, wl]; omega, ?_⟩
  walk_at "dl"
  obtain ⟨a, rfl⟩ : ∃ a : Nat, i = a := ⟨i.toNat, by omega⟩
  have e2 : ((a : Int) + (m : Int) + 2) = ((a + m + 2 : Nat) : Int) := by omega
  rw [e2, cutL_r, ← List.map_append, ← List.map_drop, ← List.map_take]
  generalize hV : List.take _ _ = V
  have hl : V.length = m + 2 := by
    rw [← hV, List.length_take, List.length_drop, List.length_append, wl]; omega
  have vo : Good V := fun v hv => by
    rw [← hV] at hv
    rcases List.mem_append.mp (List.mem_of_mem_drop (List.mem_of_mem_take hv)) with q | q <;> exact wo v q
  have vn : V.Nodup := by
    have q := wn ⟨a, by omega⟩
    have e : V = (((W ++ W).drop a).take 19).take (m + 2) := by
      rw [← hV, List.take_take]
      congr 1
      omega
    rw [e]
    exact q.sublist (List.take_sublist _ _)
  refine ⟨_, .inl rfl, by rw [List.length_map, hl]; omega, fun ys hy hyl => ?_⟩
  have hys : ∃ us : List Str, ys = us.map .str ∧ ∀ u ∈ us, u ∈ V := by
    have : ∀ ys : List D, (∀ y ∈ ys, y ∈ V.map D.str) → ∃ us : List Str, ys = us.map .str ∧ ∀ u ∈ us, u ∈ V := by
      intro ys
      induction ys with
      | nil => exact fun _ => ⟨[], rfl, fun _ z => nomatch z⟩
      | cons y ys ih =>
        intro h
        obtain ⟨us, e, g⟩ := ih fun z hz => h z (List.mem_cons_of_mem _ hz)
        obtain ⟨x, hx, e'⟩ := List.mem_map.mp (h y List.mem_cons_self)
        refine ⟨x :: us, by rw [e, ← e']; rfl, fun z hz => ?_⟩
        rcases List.mem_cons.mp hz with rfl | hz
        · exact hx
        · exact g z hz
    exact this ys fun y h => (hy y).mp h
  obtain ⟨us, rfl, uV⟩ := hys
  have uo : Good us := fun u hu => vo u (uV u hu)
  rw [List.length_map, List.length_map, hl] at hyl
  have un : us.Nodup := by
    have p : us.Perm V := (DMS.perm_of vn (fun x hx => by
      have := (hy (.str x)).mpr (List.mem_map.mpr ⟨x, hx, rfl⟩)
      obtain ⟨z, hz, e⟩ := List.mem_map.mp this
      cases e; exact hz) (by omega))
    exact p.symm.nodup vn
  walk_at "dl"
  refine loopT_ind (I := fun rest ρ => ∃ (ws us : List Str) (p q u : Sl), rest = us.map .str ∧ ρ = [.dat .bag, .dat (.int m), p, q, .dat (.lst (ws.map .str)), u] ∧ Good ws ∧ Good us ∧ (ws ++ us).Nodup ∧ ws.length + us.length = m + 2) ?_ ?_ ⟨[], us, _, _, _, rfl, rfl, (fun _ z => nomatch z), uo, by simpa using un, by simp; omega⟩
  · rintro ρ ⟨ws, us, p, q, u, e1, rfl, g1, g2, hne, hle⟩
    walk_at "dl"
    rw [cutL_to, ← List.map_take]
    have hu : us = [] := by cases us with
      | nil => rfl
      | cons a l => cases e1
    subst hu
    rw [List.append_nil] at hne
    rw [List.length_nil] at hle
    exact h _ (fun z hz => g1 z (List.mem_of_mem_take hz)) (hne.sublist (List.take_sublist _ _)) (by rw [List.length_take]; omega)
  · rintro d rest ρ N hN ⟨ws, us, p, q, u, e1, rfl, g1, g2, hne, hle⟩
    cases us with
    | nil => cases e1
    | cons x us =>
      obtain ⟨rfl, rfl⟩ := List.cons.inj e1
      rw [List.length_cons] at hle
      have hx : x ∉ ws := fun z => (List.nodup_append.mp hne).2.2 x z x List.mem_cons_self rfl
      have ex : addS ws x = ws ++ [x] := if_neg hx
      walk_at "dl"
      refine ⟨by omega, in_strs (g2 x List.mem_cons_self) g1, grows (κ := fun d => N [.dat .bag, .dat (.int m), p, q, .dat d, .dat (.str x)]) _ (any_strs x ws) ?_ (by omega)⟩
      refine hN _ ⟨addS ws x, us, p, q, _, rfl, rfl, addS_good g1 (g2 x List.mem_cons_self), fun z hz => g2 z (List.mem_cons_of_mem _ hz), ?_, ?_⟩
      · rw [ex, List.append_assoc]; exact hne
      · rw [ex, List.length_append, List.length_singleton]; omega
end K15

set_option Elab.async false
set_option linter.all false
set_option maxRecDepth 100000
set_option maxHeartbeats 4000000
namespace K15
open PySem L2 DL
local macro_rules | `(tactic| walk_at "dl") => `(tactic| simp only [Tr.toD, toDs_d, map_snoc, map_ins, treeT, seqT, iffT, setT, retT, nextT, retN, blT, DL.binT, nameT, cT, bagT, cutBT, putBT, augBT, consA, nilA, callT, ofF, lstF, lstR, tupT, eqD, neD, inD, notInD, someO, noneO, slT, revF, endD, enterS, ifT, andT, orT, notT, andB, orB, notB, truT, newT, mT, thruT, thruB, frzT, putT, parT, tgtT, methT, onT, isStr, isLst, getT, starA, negT, dropT, breakT, contT, tgD, putA, seqI, rng1I, enumI, zipI, forT, lcF, wipeS,
  addD_ii, addD_ib, addD_ss, addD_ll, addD_tt, subD_ii, mulD_ii, mulD_li, fdivD_ii, modD_ii, cmpI_ii, eqB_ss, eqB_ii, eqB_bb, eqB_tt, eqB_ll, inB_l, inB_t, ixD_l, ixD_t, ixD_s, slD_l, slD_t, truD_b, truD_i, truD_n, truD_s, truD_l, truD_t, intR_i, intR_b, lenR_s, lenR_l, lenR_t, absR_i, minR_ii, maxR_ii, tupR_l, tupR_t, appD_1, insD_1, extD_1, splitM_1, optK_some, atI_0, atI_1, atI_2, atI_3, atI_4, cutL_1, cutL_2, cutL_t1, cutL_t2,
  List.map_cons, List.map_nil, List.replicate_succ, List.replicate_zero, List.cons_append, List.nil_append, List.length_cons, List.length_nil, List.set_cons_zero, List.set_cons_succ, List.getElem?_cons_zero, List.getElem?_cons_succ, List.drop_succ_cons, List.drop_zero, List.take_succ_cons, List.take_zero, true_and, and_true, true_or, or_true, decide_eq_true_eq, reduceCtorEq, if_true, if_false, ite_true, ite_false, D.int.injEq, Nat.reduceAdd, Nat.reduceSub, Int.reduceSub, Int.reduceAdd, Int.reduceNeg, Bool.false_eq_true, Bool.true_eq_false, decide_true, decide_false, Bool.not_true, Bool.not_false, Bool.not_eq_true', decide_eq_false_iff_not])
/-! ### names -/
theorem join_ok : ∀ ys : List Str, (∀ y ∈ ys, y.cps.all lowc = true ∧ y.length = 1) → (Str.join "" ys).cps.all lowc = true ∧ (Str.join "" ys).length = ys.length
  | [], _ => by decide +kernel
  | [x], h => ⟨(h x List.mem_cons_self).1, (h x List.mem_cons_self).2⟩
  | x :: y :: rest, h => by
    have ih := join_ok (y :: rest) fun z hz => h z (List.mem_cons_of_mem _ hz)
    have hx := h x List.mem_cons_self
    have e : Str.join "" (x :: y :: rest) = x ++ ("" : Str) ++ Str.join "" (y :: rest) := rfl
    rw [e]
    have c : (x ++ ("" : Str) ++ Str.join "" (y :: rest)).cps = x.cps ++ (Str.join "" (y :: rest)).cps := by
      show x.cps ++ #[] ++ _ = _
      rw [Array.append_empty]
    refine ⟨by rw [c, Array.all_append, hx.1, ih.1]; rfl, ?_⟩
    show (x ++ ("" : Str) ++ Str.join "" (y :: rest)).cps.size = _
    rw [c, Array.size_append]
    have h1 : x.cps.size = 1 := hx.2
    have h2 : (Str.join "" (y :: rest)).cps.size = (y :: rest).length := ih.2
    rw [h1, h2]; simp only [List.length_cons]; omega
theorem strs_out {P : Str → Prop} {ds es : List D} (h : All2 (fun _ e => ∃ c : Str, e = .str c ∧ P c) ds es) : ∃ cs : List Str, es = cs.map .str ∧ cs.length = ds.length ∧ ∀ c ∈ cs, P c := by
  induction h with
  | nil => exact ⟨[], rfl, rfl, fun _ z => nomatch z⟩
  | cons hr _ ih =>
    obtain ⟨c, rfl, hc⟩ := hr
    obtain ⟨cs, rfl, hl, hp⟩ := ih
    refine ⟨c :: cs, rfl, by simp [hl], fun d hd => ?_⟩
    rcases List.mem_cons.mp hd with rfl | hd
    · exact hc
    · exact hp d hd
abbrev letters : Str := "abcdefghijklmnopqrstuvwxyz"
theorem letters_ok : letters.cps.toList.all lowc = true := by decide +kernel
theorem letters_len : letters.length = 26 := by decide +kernel
def R_names : RD := fun ds k => ∃ m : Nat, ds = [.bag, .int m] ∧ 1 ≤ m ∧ m ≤ 5 ∧ ∀ ws : List Str, Good ws → ws ≠ [] → ws.length ≤ m → k (.lst (ws.map .str))
theorem p_names : ∀ ds κ, R_names ds κ → t_L_names_of R_take R_words R_some (endD κ) (enterS 7 ds) := by
  have hs : sizeLine = 16777216 := sizeLine_eq
  rintro ds κ ⟨m, rfl, h1, h3, h⟩
  unfold t_L_names_of
  generalize hB : (seqT (setT 5 (methT joinM _ _)) _ : TSD) = body
  walk_at "dl"
  refine ⟨_, rfl, by omega, by omega, fun i i0 i1 => ?_⟩
  walk_at "dl"
  split
  · exact ⟨m, rfl, h1, by omega, fun ws g n l => h ws g (fun e => by rw [e] at l; simp at l; omega) (by omega)⟩
  · refine ⟨by omega, by omega, ⟨by omega, by omega⟩, ?_⟩
    obtain ⟨b, hb0⟩ : ∃ b : Nat, b = m := ⟨m, rfl⟩
    subst hb0
    refine loopT_ind (I := fun rest ρ => ∃ (ws : List Str) (u v w : Sl), ρ = [.dat .bag, .dat (.int b), .dat (.str letters), .dat (.lst (ws.map .str)), u, v, w] ∧ Good ws ∧ (rest.length < b + 3 → ws ≠ []) ∧ ws.length + rest.length ≤ b + 3) ?_ ?_ ⟨[], _, _, _, rfl, (fun _ z => nomatch z), (fun h => ?_), ?_⟩
    · rintro ρ ⟨ws, u, v, w, rfl, g, hne, hle⟩
      walk_at "dl"
      rw [cutL_to, ← List.map_take]
      have hn := hne (by simp)
      refine h _ (fun z hz => g z (List.mem_of_mem_take hz)) (fun e => ?_) (by rw [List.length_take]; omega)
      have := congrArg List.length e
      rw [List.length_take] at this
      have h0 : 0 < ws.length := List.length_pos_iff.mpr hn
      rw [List.length_nil] at this
      omega
    · rintro d rest ρ N hN ⟨ws, u, v, w, rfl, g, hne, hle⟩
      rw [List.length_cons] at hle
      subst hB
      walk_at "dl"
      refine ⟨_, rfl, by omega, by omega, fun p p0 p1 => ⟨_, rfl, by omega, by omega, fun q q0 q1 => ?_⟩⟩
      walk_at "dl"
      have pq : p * q ≤ 7 := by
        have : p = 0 ∨ p = 1 := by omega
        rcases this with rfl | rfl <;> omega
      have pq0 : 0 ≤ p * q := Int.mul_nonneg p0 q0
      refine ⟨.inr ⟨by omega, by omega⟩, ⟨by omega, by omega⟩, by rw [List.length_map, List.length_range]; omega, ?_⟩
      refine compT_ind (R := fun _ e => ∃ c : Str, e = .str c ∧ (c.cps.all lowc = true ∧ c.length = 1)) (fun d' _ κ' k => ?_) fun es he => ?_
      · walk_at "dl"
        refine .inr ⟨letters, rfl, by rw [letters_len]; omega, by rw [letters_len]; omega, fun c hc => k _ ⟨_, rfl, ?_, rfl⟩⟩
        have := List.all_eq_true.mp letters_ok c hc
        simpa using this
      · obtain ⟨cs, rfl, cl, cp⟩ := strs_out he
        have cs1 : (cs.map (·.length)).sum = cs.length := by
          have : ∀ cs : List Str, (∀ c ∈ cs, c.length = 1) → (cs.map (·.length)).sum = cs.length := by
            intro cs
            induction cs with
            | nil => intro _; rfl
            | cons a l ih => intro h; rw [List.map_cons, List.sum_cons, ih fun c hc => h c (List.mem_cons_of_mem _ hc), h a List.mem_cons_self, List.length_cons]; omega
          exact this cs fun c hc => (cp c hc).2
        rw [List.length_map, List.length_range] at cl
        rw [List.nil_append]
        refine ⟨cs, .inl rfl, ?_, by omega, ?_⟩
        · have e0 : ("" : Str).length = 0 := by decide +kernel
          rw [cs1, e0]; omega
        · have ok : wOk (Txt.join "" cs) = true := by
            rw [TL.join_eq]
            have := join_ok cs fun c hc => cp c hc
            unfold wOk
            rw [this.1, this.2, Bool.true_and, Bool.and_eq_true]
            exact ⟨decide_eq_true (by omega), decide_eq_true (by omega)⟩
          refine ⟨in_strs ok g, grows (κ := fun d' => N [.dat .bag, .dat (.int b), .dat (.str letters), .dat d', .dat d, .dat (.str (Txt.join "" cs)), w]) _ (any_strs _ ws) ?_ (by omega)⟩
          have := addS_len ws (Txt.join "" cs)
          exact hN _ ⟨addS ws (Txt.join "" cs), _, _, _, rfl, addS_good g ok, fun _ => addS_ne _ _, by omega⟩
    · rw [List.length_map, List.length_range] at h; omega
    · rw [List.length_map, List.length_range, List.length_nil]; omega
end K15

set_option Elab.async false
set_option linter.all false
set_option maxRecDepth 100000
set_option maxHeartbeats 4000000
namespace K15
open PySem L2 DL
local macro_rules | `(tactic| walk_at "dl") => `(tactic| simp only [Tr.toD, toDs_d, map_snoc, map_ins, treeT, seqT, iffT, setT, retT, nextT, retN, blT, DL.binT, nameT, cT, bagT, cutBT, putBT, augBT, consA, nilA, callT, ofF, lstF, lstR, tupT, eqD, neD, inD, notInD, someO, noneO, slT, revF, endD, enterS, ifT, andT, orT, notT, andB, orB, notB, truT, newT, mT, thruT, thruB, frzT, putT, parT, tgtT, methT, onT, isStr, isLst, getT, starA, negT, dropT, breakT, contT, tgD, putA, seqI, rng1I, enumI, zipI, forT, lcF, wipeS,
  addD_ii, addD_ib, addD_ss, addD_ll, addD_tt, subD_ii, mulD_ii, mulD_li, fdivD_ii, modD_ii, cmpI_ii, eqB_ss, eqB_ii, eqB_bb, eqB_tt, eqB_ll, inB_l, inB_t, ixD_l, ixD_t, ixD_s, slD_l, slD_t, truD_b, truD_i, truD_n, truD_s, truD_l, truD_t, intR_i, intR_b, lenR_s, lenR_l, lenR_t, absR_i, minR_ii, maxR_ii, tupR_l, tupR_t, appD_1, insD_1, extD_1, splitM_1, optK_some, atI_0, atI_1, atI_2, atI_3, atI_4, cutL_1, cutL_2, cutL_t1, cutL_t2,
  List.map_cons, List.map_nil, List.replicate_succ, List.replicate_zero, List.cons_append, List.nil_append, List.length_cons, List.length_nil, List.set_cons_zero, List.set_cons_succ, List.getElem?_cons_zero, List.getElem?_cons_succ, List.drop_succ_cons, List.drop_zero, List.take_succ_cons, List.take_zero, true_and, and_true, true_or, or_true, decide_eq_true_eq, reduceCtorEq, if_true, if_false, ite_true, ite_false, D.int.injEq, Nat.reduceAdd, Nat.reduceSub, Int.reduceSub, Int.reduceAdd, Int.reduceNeg, Bool.false_eq_true, Bool.true_eq_false, decide_true, decide_false, Bool.not_true, Bool.not_false, Bool.not_eq_true', decide_eq_false_iff_not])
/-! ### codes -/
inductive Code where
  | nm (x : Str) | gv (i : Int) | ite (a b c d : Code) | wth (x : Str) (a b : Code) | app (w : Bool) (f : Str) (cs : List Code)
mutual
def Code.toD : Code → D
  | .nm x => .tup [.str "name", .str x]
  | .gv i => .tup [.str "given", .int i]
  | .ite a b c d => .tup [.str "if", a.toD, b.toD, c.toD, d.toD]
  | .wth x a b => .tup [.str "with", .str x, a.toD, b.toD]
  | .app w f cs => .tup [.str (if w = true then "work" else "call"), .str f, .tup (Code.toDs cs)]
def Code.toDs : List Code → List D
  | [] => []
  | c :: cs => c.toD :: Code.toDs cs
end
mutual
def Code.size : Code → Nat
  | .nm _ => 1
  | .gv _ => 1
  | .ite a b c d => 1 + a.size + b.size + c.size + d.size
  | .wth _ a b => 1 + a.size + b.size
  | .app _ _ cs => 1 + Code.sizes cs
def Code.sizes : List Code → Nat
  | [] => 0
  | c :: cs => c.size + Code.sizes cs
end
mutual
/-- its texts are good -/
def Code.ok : Code → Prop
  | .nm x => wOk x = true
  | .gv i => 0 ≤ i ∧ i < 13
  | .ite a b c d => a.ok ∧ b.ok ∧ c.ok ∧ d.ok
  | .wth x a b => wOk x = true ∧ a.ok ∧ b.ok
  | .app _ f cs => wOk f = true ∧ Code.oks cs
def Code.oks : List Code → Prop
  | [] => True
  | c :: cs => c.ok ∧ Code.oks cs
end
def Code.kids : Code → List Code
  | .nm _ => []
  | .gv _ => []
  | .ite a b c d => [a, b, c, d]
  | .wth _ a b => [a, b]
  | .app _ _ cs => cs
theorem toDs_map : ∀ cs : List Code, Code.toDs cs = cs.map Code.toD
  | [] => by simp only [Code.toDs, List.map_nil]
  | c :: cs => by simp only [Code.toDs, List.map_cons, toDs_map cs]
theorem Code.size_pos (c : Code) : 0 < c.size := by cases c <;> simp only [Code.size] <;> omega
theorem sizes_mem : ∀ {cs : List Code} {c : Code}, c ∈ cs → c.size ≤ Code.sizes cs
  | d :: cs, c, h => by
    simp only [Code.sizes]
    rcases List.mem_cons.mp h with rfl | h
    · omega
    · have := sizes_mem h; omega
theorem sizes_len : ∀ cs : List Code, cs.length ≤ Code.sizes cs
  | [] => Nat.le_refl _
  | c :: cs => by
    have := sizes_len cs
    have := c.size_pos
    simp only [Code.sizes, List.length_cons]; omega
theorem kids_sizes (c : Code) : Code.sizes c.kids < c.size := by cases c <;> simp only [Code.kids, Code.sizes, Code.size] <;> omega
theorem oks_mem : ∀ {cs : List Code}, Code.oks cs → ∀ c ∈ cs, c.ok
  | d :: cs, h, c, hc => by
    simp only [Code.oks] at h
    rcases List.mem_cons.mp hc with rfl | hc
    · exact h.1
    · exact oks_mem h.2 c hc
theorem kids_ok {c : Code} (h : c.ok) : Code.oks c.kids := by
  cases c <;> simp only [Code.kids, Code.oks, Code.ok] at h ⊢ <;> simp_all
theorem oks_of : ∀ {cs : List Code}, (∀ c ∈ cs, c.ok) → Code.oks cs
  | [], _ => by simp only [Code.oks]
  | c :: cs, h => by simp only [Code.oks]; exact ⟨h c List.mem_cons_self, oks_of fun d hd => h d (List.mem_cons_of_mem _ hd)⟩
theorem four {cs : List Code} {k : List Code → Prop} (h : cs.length = 4) (q : ∀ a b c d, cs = [a, b, c, d] → k [a, b, c, d]) : k cs := by
  match cs, h with
  | [a, b, c, d], _ => exact q a b c d rfl
mutual
/-- its texts are good, and its names are some words' -/
def Code.okw (ws : List Str) : Code → Prop
  | .nm x => wOk x = true ∧ x ∈ ws
  | .gv i => 0 ≤ i ∧ i < 13
  | .ite a b c d => a.okw ws ∧ b.okw ws ∧ c.okw ws ∧ d.okw ws
  | .wth x a b => wOk x = true ∧ a.okw ws ∧ b.okw ws
  | .app _ f cs => wOk f = true ∧ Code.okws ws cs
def Code.okws (ws : List Str) : List Code → Prop
  | [] => True
  | c :: cs => c.okw ws ∧ Code.okws ws cs
end
theorem okws_of {ws : List Str} : ∀ {cs : List Code}, (∀ c ∈ cs, c.okw ws) → Code.okws ws cs
  | [], _ => by simp only [Code.okws]
  | c :: cs, h => by simp only [Code.okws]; exact ⟨h c List.mem_cons_self, okws_of fun d hd => h d (List.mem_cons_of_mem _ hd)⟩
mutual
theorem okw_ok {ws : List Str} : ∀ c : Code, c.okw ws → c.ok
  | .nm x, h => by simp only [Code.okw] at h; simp only [Code.ok]; exact h.1
  | .gv i, h => by simp only [Code.okw] at h; simp only [Code.ok]; exact h
  | .ite a b c d, h => by simp only [Code.okw] at h; simp only [Code.ok]; exact ⟨okw_ok a h.1, okw_ok b h.2.1, okw_ok c h.2.2.1, okw_ok d h.2.2.2⟩
  | .wth x a b, h => by simp only [Code.okw] at h; simp only [Code.ok]; exact ⟨h.1, okw_ok a h.2.1, okw_ok b h.2.2⟩
  | .app w f cs, h => by simp only [Code.okw] at h; simp only [Code.ok]; exact ⟨h.1, okws_oks cs h.2⟩
theorem okws_oks {ws : List Str} : ∀ cs : List Code, Code.okws ws cs → Code.oks cs
  | [], _ => by simp only [Code.oks]
  | c :: cs, h => by simp only [Code.okws] at h; simp only [Code.oks]; exact ⟨okw_ok c h.1, okws_oks cs h.2⟩
end
/-! ### a code -/
def R_any (n : Nat) : RD := fun ds k => ∃ (ws : List Str) (r : Int), ds = [.bag, .lst (ws.map .str), .int r] ∧ Good ws ∧ ws ≠ [] ∧ ws.length ≤ 10 ∧ 0 ≤ r ∧ r < n ∧ r ≤ 60 ∧ ∀ c : Code, c.okw ws → (c.size : Int) ≤ max r 1 → k c.toD
theorem sizes_le {b : Nat} : ∀ {cs : List Code}, (∀ c ∈ cs, c.size ≤ b) → Code.sizes cs ≤ cs.length * b
  | [], _ => by simp [Code.sizes]
  | c :: cs, h => by
    have h1 := sizes_le (cs := cs) fun d hd => h d (List.mem_cons_of_mem _ hd)
    have h2 := h c List.mem_cons_self
    simp only [Code.sizes, List.length_cons, Nat.succ_mul]
    omega
theorem codes_out {P : Code → Prop} {ds es : List D} (h : All2 (fun _ e => ∃ c : Code, e = c.toD ∧ P c) ds es) : ∃ cs, es = Code.toDs cs ∧ cs.length = ds.length ∧ ∀ c ∈ cs, P c := by
  induction h with
  | nil => exact ⟨[], by simp only [Code.toDs], rfl, fun _ z => nomatch z⟩
  | cons hr _ ih =>
    obtain ⟨c, rfl, hc⟩ := hr
    obtain ⟨cs, rfl, hl, hp⟩ := ih
    refine ⟨c :: cs, by simp only [Code.toDs], by simp [hl], fun d hd => ?_⟩
    rcases List.mem_cons.mp hd with rfl | hd
    · exact hc
    · exact hp d hd
/-- a call's result for each i in range(m) -/
theorem comp_any {n m : Nat} {te : TD} {P : Code → Prop} {ρ : List Sl} {i : Nat} {k : List D → Prop} (h : ∀ d κ', (∀ c : Code, P c → κ' c.toD) → te (ρ.set i (.dat d)) κ') (hk : ∀ cs : List Code, cs.length = m → (∀ c ∈ cs, P c) → k (Code.toDs cs)) :
    compT (.nm i) yesT te ρ ((List.range m).map fun i => D.int (i : Nat)) [] k := by
  refine compT_ind (R := fun _ e => ∃ c : Code, e = c.toD ∧ P c) (fun d _ κ' q => h d κ' fun c hc => q _ ⟨c, rfl, hc⟩) fun es he => ?_
  obtain ⟨cs, rfl, hl, hp⟩ := codes_out he
  exact hk cs (by simpa using hl) hp
theorem some_words {l : List Str} {κ : D → Prop} (hl : l.length < 2 ^ 20) (hn : l ≠ []) (h : ∀ w ∈ l, κ (.str w)) : R_some [.bag, .lst (l.map .str)] κ :=
  .inl ⟨_, rfl, by simpa using hn, by rw [List.length_map]; exact hl, fun d hd => by obtain ⟨w, hw', rfl⟩ := List.mem_map.mp hd; exact h w hw'⟩
theorem up_good : Good ["up", "of", "one"] := List.all_eq_true.mp (by decide +kernel : (["up", "of", "one"] : List Str).all wOk = true)
theorem p_any (n : Nat) : ∀ ds κ, R_any (n + 1) ds κ → t_L_any R_take R_some (R_any n) (endD κ) (enterS 8 ds) := by
  have hs : sizeLine = 16777216 := sizeLine_eq
  rintro ds κ ⟨ws, r, rfl, hw, hne, hwl, r0, rn, rz, h⟩
  unfold t_L_any
  have leaf : ∀ c : Code, c.okw ws → c.size = 1 → κ c.toD := fun c o s => h c o (by omega)
  have h1 : (6 ≤ sizeLine ∧ R_some [D.bag, D.lst [D.int 0, D.int 1, D.int 2, D.int 2, D.int 10, D.int 11]] fun d => 2 ≤ sizeLine ∧ κ (D.tup [D.str "given", d])) := by
    refine ⟨by omega, .inl ⟨_, rfl, by simp, by simp, fun d hd => ⟨by omega, ?_⟩⟩⟩
    simp only [List.mem_cons, List.not_mem_nil, or_false] at hd
    rcases hd with rfl | rfl | rfl | rfl | rfl | rfl <;> exact leaf (.gv _) (by simp only [Code.okw]; omega) rfl
  have h2 : R_some [D.bag, D.lst (List.map D.str ws)] fun d => 2 ≤ sizeLine ∧ κ (D.tup [D.str "name", d]) :=
    some_words (by omega) hne fun w hw' => ⟨by omega, leaf (.nm w) (by simp only [Code.okw]; exact ⟨hw w hw', hw'⟩) rfl⟩
  generalize hT : (seqT (setT 5 (callT minR _)) _ : TSD) = tl
  walk_at "dl"
  refine ⟨_, rfl, by omega, by omega, fun way w0 w1 => ?_⟩
  have h3 : ∀ ρ : List Sl, (∃ s, ρ = [.dat .bag, .dat (.lst (ws.map .str)), .dat (.int r), .dat (.int way), s, .un, .un, .un]) → 2 ≤ r → tl { nx := fun _ => κ .non, rt := fun t => κ t.toD, bk := fun _ => False, ct := fun _ => False } ρ := by
    rintro ρ ⟨s, rfl⟩ hr
    subst hT
    walk_at "dl"
    refine ⟨_, rfl, by omega, by omega, fun z z0 z1 => ?_⟩
    walk_at "dl"
    have go : ∀ m : Int, 0 < m → m < 2 ^ 10 → R_take [D.bag, D.int m] fun d => minR [d, D.int (r - 1)] fun d => (rng1I (fun _ k => k [d]) [] fun ds => ds.length ≤ sizeLine ∧
        compT (Tg.nm 7) yesT (callT (R_any n) (consA (nameT 0) (consA (nameT 1) (consA (DL.binT fdivD (DL.binT mulD (DL.binT subD (nameT 2) (cT (D.int 1))) (cT (D.int 3))) (DL.binT addD (DL.binT mulD (cT (D.int 3)) (nameT 5)) (callT intR (consA (DL.binT eqD (nameT 5) (cT (D.int 1))) nilA)))) nilA))))
          [.dat .bag, .dat (.lst (ws.map .str)), .dat (.int r), .dat (.int way), s, .dat d, .un, .un] ds [] fun ds => if way < 10 then
            3 ≤ sizeLine ∧ R_some [D.bag, D.lst [D.str "up", D.str "of", D.str "one"]] fun d => 3 ≤ sizeLine ∧ κ (D.tup [D.str "work", d, D.tup ds])
          else 3 ≤ sizeLine ∧ R_some [D.bag, D.lst [D.str "up", D.str "of", D.str "one"]] fun d => 3 ≤ sizeLine ∧ κ (D.tup [D.str "call", d, D.tup ds])) := by
      intro m m0 m1
      refine ⟨m, rfl, m0, by omega, fun j j0 j1 => ?_⟩
      walk_at "dl"
      generalize hq : (if r - 1 < j then r - 1 else j) = q
      have q0 : 0 ≤ q := by rw [← hq]; split <;> omega
      have q1 : q ≤ r - 1 := by rw [← hq]; split <;> omega
      have q2 : q < 2 ^ 10 := by rw [← hq]; split <;> omega
      obtain ⟨a, rfl⟩ : ∃ a : Nat, q = a := ⟨q.toNat, by omega⟩
      refine ⟨by omega, by simp; omega, ?_⟩
      rw [Int.toNat_natCast]
      -- the room of each
      have fin : ∀ cs : List Code, Code.okws ws cs → (Code.sizes cs : Int) ≤ r - 1 → cs.length = a → if way < 10 then
            3 ≤ sizeLine ∧ R_some [D.bag, D.lst [D.str "up", D.str "of", D.str "one"]] fun d => 3 ≤ sizeLine ∧ κ (D.tup [D.str "work", d, D.tup (Code.toDs cs)])
          else 3 ≤ sizeLine ∧ R_some [D.bag, D.lst [D.str "up", D.str "of", D.str "one"]] fun d => 3 ≤ sizeLine ∧ κ (D.tup [D.str "call", d, D.tup (Code.toDs cs)]) := by
        intro cs o sz l
        split
        · exact ⟨by omega, some_words (l := ["up", "of", "one"]) (by simp) (by simp) fun w hw' => ⟨by omega, h (.app true w cs) (by simp only [Code.okw]; exact ⟨up_good w hw', o⟩) (by simp only [Code.size]; omega)⟩⟩
        · exact ⟨by omega, some_words (l := ["up", "of", "one"]) (by simp) (by simp) fun w hw' => ⟨by omega, h (.app false w cs) (by simp only [Code.okw]; exact ⟨up_good w hw', o⟩) (by simp only [Code.size]; omega)⟩⟩
      by_cases a0 : a = 0
      · subst a0
        exact fin [] (by simp only [Code.okws]) (by simp only [Code.sizes]; omega) rfl
      · have bnd : ∃ x : Int, (r - 1) * 3 / (3 * (a : Int) + if ((a : Int) = 1) then 1 else 0) = x ∧ 0 ≤ x ∧ x < n ∧ x ≤ 60 ∧ ((a : Int) * max x 1 ≤ r - 1) := by
          by_cases a1 : a = 1
          · subst a1
            refine ⟨_, rfl, ?_⟩
            simp only [Int.cast_ofNat_Int, if_true]
            omega
          · rw [if_neg (by omega)]
            have ha : (0 : Int) < 3 * (a : Int) + 0 := by omega
            have e1 := Int.ediv_mul_le ((r - 1) * 3) (b := 3 * (a : Int) + 0) (by omega)
            have e2 : 0 ≤ (r - 1) * 3 / (3 * (a : Int) + 0) := Int.ediv_nonneg (by omega) (by omega)
            generalize (r - 1) * 3 / (3 * (a : Int) + 0) = x at e1 e2
            have e3 : x * (3 * (a : Int) + 0) = 3 * ((a : Int) * x) := by rw [Int.add_zero, Int.mul_left_comm, Int.mul_comm x]
            rw [e3] at e1
            have e4 : (a : Int) * x ≤ r - 1 := by omega
            have e5 : x ≤ (a : Int) * x := by
              have : (1 : Int) * x ≤ (a : Int) * x := Int.mul_le_mul_of_nonneg_right (by omega) e2
              omega
            refine ⟨x, rfl, e2, by omega, by omega, ?_⟩
            rcases Int.le_total x 1 with hx | hx
            · rw [Int.max_eq_right hx]; omega
            · rw [Int.max_eq_left hx]; exact e4
        obtain ⟨x, hx, x0, xn, x60, hsz⟩ := bnd
        refine comp_any (n := 0) (P := fun c => c.okw ws ∧ (c.size : Int) ≤ max x 1) (fun d κ' q => ?_) fun cs l p => fin cs (okws_of fun c hc => (p c hc).1) ?_ l
        · walk_at "dl"
          refine ⟨.inr ⟨by omega, by omega⟩, .inl ⟨by omega, by omega⟩, ⟨by split <;> omega, by split <;> omega⟩, ?_⟩
          rw [hx]
          exact ⟨ws, x, rfl, hw, hne, hwl, x0, xn, x60, fun c o sz => q c ⟨o, sz⟩⟩
        · obtain ⟨y, hy⟩ : ∃ y : Nat, max x 1 = y := ⟨(max x 1).toNat, by omega⟩
          rw [hy] at hsz p
          have := sizes_le (b := y) fun c hc => by have := (p c hc).2; omega
          rw [l] at this
          have e : ((a * y : Nat) : Int) = (a : Int) * (y : Int) := Int.natCast_mul a y
          omega
    split
    · exact go 13 (by omega) (by omega)
    · exact go 4 (by omega) (by omega)
  have h4 : r > 4 → (1 ≤ sizeLine ∧ (-2 ^ 62 ≤ (4 : Int) ∧ (4 : Int) < 2 ^ 62) ∧ (List.map (fun i => D.int (i : Nat)) (List.range (Int.toNat 4))).length ≤ sizeLine ∧
      compT (Tg.nm 7) yesT (callT (R_any n) (consA (nameT 0) (consA (nameT 1) (consA (DL.binT fdivD (DL.binT subD (nameT 2) (cT (D.int 1))) (cT (D.int 4))) nilA))))
        [Sl.dat D.bag, Sl.dat (D.lst (List.map D.str ws)), Sl.dat (D.int r), Sl.dat (D.int way), Sl.un, Sl.un, Sl.un, Sl.un]
        (List.map (fun i => D.int (i : Nat)) (List.range (Int.toNat 4))) [] fun ds => 1 + ds.length ≤ sizeLine ∧ κ (D.tup (D.str "if" :: ds))) := by
    intro hr
    refine ⟨by omega, by omega, by simp; omega, comp_any (n := 0) (m := 4) (P := fun c => c.okw ws ∧ (c.size : Int) ≤ (r - 1) / 4) (fun d κ' q => ?_) fun cs l p => ?_⟩
    · walk_at "dl"
      exact ⟨⟨by omega, by omega⟩, ws, _, rfl, hw, hne, hwl, by omega, by omega, by omega, fun c o sz => q c ⟨o, by omega⟩⟩
    · refine four (k := fun cs => 1 + (Code.toDs cs).length ≤ sizeLine ∧ κ (D.tup (D.str "if" :: Code.toDs cs))) l fun a b c d e => ?_
      subst e
      have pa := p a (by simp)
      have pb := p b (by simp)
      have pc := p c (by simp)
      have pd := p d (by simp)
      exact ⟨by simp only [Code.toDs, List.length_cons, List.length_nil]; omega, h (.ite a b c d) (by simp only [Code.okw]; exact ⟨pa.1, pb.1, pc.1, pd.1⟩) (by simp only [Code.size]; omega)⟩
  have h5 : r > 2 → R_some [D.bag, D.lst (List.map D.str ws)] fun d => CDiv (r - 1) 3 ∧ R_any n [D.bag, D.lst (List.map D.str ws), D.int ((r - 1) / 3)] fun d_1 => CMul (r - 1) 2 ∧ CDiv ((r - 1) * 2) 3 ∧
      R_any n [D.bag, D.lst (List.map D.str ws), D.int ((r - 1) * 2 / 3)] fun d_2 => 4 ≤ sizeLine ∧ κ (D.tup [D.str "with", d, d_1, d_2]) := by
    intro hr
    refine some_words (by omega) hne fun w hw' => ⟨⟨by omega, by omega⟩, ws, _, rfl, hw, hne, hwl, by omega, by omega, by omega, fun c o sz => ⟨.inr ⟨by omega, by omega⟩, ⟨by omega, by omega⟩, ws, _, rfl, hw, hne, hwl, by omega, by omega, by omega, fun c' o' sz' => ⟨by omega, ?_⟩⟩⟩
    exact h (.wth w c c') (by simp only [Code.okw]; exact ⟨hw w hw', o, o'⟩) (by simp only [Code.size]; omega)
  walk_at "dl"
  repeat' split
  all_goals first | exact h1 | exact h2 | exact h4 (by omega) | exact h5 (by omega) | exact h3 _ ⟨_, rfl⟩ (by omega)
end K15

set_option Elab.async false
set_option linter.all false
set_option maxRecDepth 100000
set_option maxHeartbeats 4000000
namespace K15
open PySem L2 DL
local macro_rules | `(tactic| walk_at "dl") => `(tactic| simp only [Tr.toD, toDs_d, map_snoc, map_ins, treeT, seqT, iffT, setT, retT, nextT, retN, blT, DL.binT, nameT, cT, bagT, cutBT, putBT, augBT, consA, nilA, callT, ofF, lstF, lstR, tupT, eqD, neD, inD, notInD, someO, noneO, slT, revF, endD, enterS, ifT, andT, orT, notT, andB, orB, notB, truT, newT, mT, thruT, thruB, frzT, putT, parT, tgtT, methT, onT, isStr, isLst, getT, starA, negT, dropT, breakT, contT, tgD, putA, seqI, rng1I, enumI, zipI, forT, lcF, wipeS,
  addD_ii, addD_ib, addD_ss, addD_ll, addD_tt, subD_ii, mulD_ii, mulD_li, fdivD_ii, modD_ii, cmpI_ii, eqB_ss, eqB_ii, eqB_bb, eqB_tt, eqB_ll, inB_l, inB_t, ixD_l, ixD_t, ixD_s, slD_l, slD_t, truD_b, truD_i, truD_n, truD_s, truD_l, truD_t, intR_i, intR_b, lenR_s, lenR_l, lenR_t, absR_i, minR_ii, maxR_ii, tupR_l, tupR_t, appD_1, insD_1, extD_1, splitM_1, optK_some, atI_0, atI_1, atI_2, atI_3, atI_4, cutL_1, cutL_2, cutL_t1, cutL_t2,
  List.map_cons, List.map_nil, List.replicate_succ, List.replicate_zero, List.cons_append, List.nil_append, List.length_cons, List.length_nil, List.set_cons_zero, List.set_cons_succ, List.getElem?_cons_zero, List.getElem?_cons_succ, List.drop_succ_cons, List.drop_zero, List.take_succ_cons, List.take_zero, true_and, and_true, true_or, or_true, decide_eq_true_eq, reduceCtorEq, if_true, if_false, ite_true, ite_false, D.int.injEq, Nat.reduceAdd, Nat.reduceSub, Int.reduceSub, Int.reduceAdd, Int.reduceNeg, Bool.false_eq_true, Bool.true_eq_false, decide_true, decide_false, Bool.not_true, Bool.not_false, Bool.not_eq_true', decide_eq_false_iff_not])
mutual
theorem Code.flat : ∀ c : Code, c.toD.flat = true
  | .nm _ => by simp [Code.toD, D.flat, D.flats]
  | .gv _ => by simp [Code.toD, D.flat, D.flats]
  | .ite a b c d => by simp [Code.toD, D.flat, D.flats, a.flat, b.flat, c.flat, d.flat]
  | .wth x a b => by simp [Code.toD, D.flat, D.flats, a.flat, b.flat]
  | .app w f cs => by simp [Code.toD, D.flat, D.flats, Code.flats cs]
theorem Code.flats : ∀ cs : List Code, D.flats (Code.toDs cs) = true
  | [] => by simp [Code.toDs, D.flats]
  | c :: cs => by simp [Code.toDs, D.flats, c.flat, Code.flats cs]
end
mutual
theorem Code.lay : ∀ c : Code, c.ok → c.toD.py.canLay0 = true
  | .nm x, h => by simp only [Code.ok] at h; simp [Code.toD, D.py, D.pys, PyData.canLay0, PyData.canLayAll0, wOk_str h]; decide +kernel
  | .gv _, h => by simp [Code.toD, D.py, D.pys, PyData.canLay0, PyData.canLayAll0]; decide +kernel
  | .ite a b c d, h => by
    simp only [Code.ok] at h
    simp [Code.toD, D.py, D.pys, PyData.canLay0, PyData.canLayAll0, a.lay h.1, b.lay h.2.1, c.lay h.2.2.1, d.lay h.2.2.2]; decide +kernel
  | .wth x a b, h => by
    simp only [Code.ok] at h
    simp [Code.toD, D.py, D.pys, PyData.canLay0, PyData.canLayAll0, a.lay h.2.1, b.lay h.2.2, wOk_str h.1]; decide +kernel
  | .app w f cs, h => by
    simp only [Code.ok] at h
    cases w <;> simp [Code.toD, D.py, D.pys, PyData.canLay0, PyData.canLayAll0, wOk_str h.1, Code.lays cs h.2] <;> decide +kernel
theorem Code.lays : ∀ cs : List Code, Code.oks cs → PyData.canLayAll0 (D.pys (Code.toDs cs)) = true
  | [], _ => by simp [Code.toDs, D.pys, PyData.canLayAll0]
  | c :: cs, h => by
    simp only [Code.oks] at h
    simp [Code.toDs, D.pys, PyData.canLayAll0, c.lay h.1, Code.lays cs h.2]
end
mutual
theorem Code.deep : ∀ c : Code, c.toD.py.depth ≤ 2 * c.size
  | .nm x => by simp [Code.toD, D.py, D.pys, PyData.depth, PyData.depthAll, Code.size]
  | .gv _ => by simp [Code.toD, D.py, D.pys, PyData.depth, PyData.depthAll, Code.size]
  | .ite a b c d => by
    have := a.deep; have := b.deep; have := c.deep; have := d.deep
    simp [Code.toD, D.py, D.pys, PyData.depth, PyData.depthAll, Code.size]; omega
  | .wth x a b => by
    have := a.deep; have := b.deep
    simp [Code.toD, D.py, D.pys, PyData.depth, PyData.depthAll, Code.size]; omega
  | .app w f cs => by
    have := Code.deeps cs
    simp [Code.toD, D.py, D.pys, PyData.depth, PyData.depthAll, Code.size]; omega
theorem Code.deeps : ∀ cs : List Code, PyData.depthAll (D.pys (Code.toDs cs)) ≤ 2 * Code.sizes cs
  | [] => by simp [Code.toDs, D.pys, PyData.depthAll]
  | c :: cs => by
    have := c.deep; have := Code.deeps cs
    simp [Code.toDs, D.pys, PyData.depthAll, Code.sizes]; omega
end
theorem q_name_given : ((("name" : Str) = ("given" : Str)) = False) := eq_false (by decide +kernel)
theorem q_name_if : ((("name" : Str) = ("if" : Str)) = False) := eq_false (by decide +kernel)
theorem q_name_with : ((("name" : Str) = ("with" : Str)) = False) := eq_false (by decide +kernel)
theorem q_name_work : ((("name" : Str) = ("work" : Str)) = False) := eq_false (by decide +kernel)
theorem q_name_call : ((("name" : Str) = ("call" : Str)) = False) := eq_false (by decide +kernel)
theorem q_name_bound : ((("name" : Str) = ("bound" : Str)) = False) := eq_false (by decide +kernel)
theorem q_given_name : ((("given" : Str) = ("name" : Str)) = False) := eq_false (by decide +kernel)
theorem q_given_if : ((("given" : Str) = ("if" : Str)) = False) := eq_false (by decide +kernel)
theorem q_given_with : ((("given" : Str) = ("with" : Str)) = False) := eq_false (by decide +kernel)
theorem q_given_work : ((("given" : Str) = ("work" : Str)) = False) := eq_false (by decide +kernel)
theorem q_given_call : ((("given" : Str) = ("call" : Str)) = False) := eq_false (by decide +kernel)
theorem q_given_bound : ((("given" : Str) = ("bound" : Str)) = False) := eq_false (by decide +kernel)
theorem q_if_name : ((("if" : Str) = ("name" : Str)) = False) := eq_false (by decide +kernel)
theorem q_if_given : ((("if" : Str) = ("given" : Str)) = False) := eq_false (by decide +kernel)
theorem q_if_with : ((("if" : Str) = ("with" : Str)) = False) := eq_false (by decide +kernel)
theorem q_if_work : ((("if" : Str) = ("work" : Str)) = False) := eq_false (by decide +kernel)
theorem q_if_call : ((("if" : Str) = ("call" : Str)) = False) := eq_false (by decide +kernel)
theorem q_if_bound : ((("if" : Str) = ("bound" : Str)) = False) := eq_false (by decide +kernel)
theorem q_with_name : ((("with" : Str) = ("name" : Str)) = False) := eq_false (by decide +kernel)
theorem q_with_given : ((("with" : Str) = ("given" : Str)) = False) := eq_false (by decide +kernel)
theorem q_with_if : ((("with" : Str) = ("if" : Str)) = False) := eq_false (by decide +kernel)
theorem q_with_work : ((("with" : Str) = ("work" : Str)) = False) := eq_false (by decide +kernel)
theorem q_with_call : ((("with" : Str) = ("call" : Str)) = False) := eq_false (by decide +kernel)
theorem q_with_bound : ((("with" : Str) = ("bound" : Str)) = False) := eq_false (by decide +kernel)
theorem q_work_name : ((("work" : Str) = ("name" : Str)) = False) := eq_false (by decide +kernel)
theorem q_work_given : ((("work" : Str) = ("given" : Str)) = False) := eq_false (by decide +kernel)
theorem q_work_if : ((("work" : Str) = ("if" : Str)) = False) := eq_false (by decide +kernel)
theorem q_work_with : ((("work" : Str) = ("with" : Str)) = False) := eq_false (by decide +kernel)
theorem q_work_call : ((("work" : Str) = ("call" : Str)) = False) := eq_false (by decide +kernel)
theorem q_work_bound : ((("work" : Str) = ("bound" : Str)) = False) := eq_false (by decide +kernel)
theorem q_call_name : ((("call" : Str) = ("name" : Str)) = False) := eq_false (by decide +kernel)
theorem q_call_given : ((("call" : Str) = ("given" : Str)) = False) := eq_false (by decide +kernel)
theorem q_call_if : ((("call" : Str) = ("if" : Str)) = False) := eq_false (by decide +kernel)
theorem q_call_with : ((("call" : Str) = ("with" : Str)) = False) := eq_false (by decide +kernel)
theorem q_call_work : ((("call" : Str) = ("work" : Str)) = False) := eq_false (by decide +kernel)
theorem q_call_bound : ((("call" : Str) = ("bound" : Str)) = False) := eq_false (by decide +kernel)
theorem q_bound_name : ((("bound" : Str) = ("name" : Str)) = False) := eq_false (by decide +kernel)
theorem q_bound_given : ((("bound" : Str) = ("given" : Str)) = False) := eq_false (by decide +kernel)
theorem q_bound_if : ((("bound" : Str) = ("if" : Str)) = False) := eq_false (by decide +kernel)
theorem q_bound_with : ((("bound" : Str) = ("with" : Str)) = False) := eq_false (by decide +kernel)
theorem q_bound_work : ((("bound" : Str) = ("work" : Str)) = False) := eq_false (by decide +kernel)
theorem q_bound_call : ((("bound" : Str) = ("call" : Str)) = False) := eq_false (by decide +kernel)
theorem good2 : Good ["name", "given"] := List.all_eq_true.mp (by decide +kernel : (["name", "given"] : List Str).all wOk = true)
theorem in_name : inOk (.str "name") [.str "name", .str "given"] = True := eq_true (in_strs (ws := ["name", "given"]) (by decide +kernel) good2)
theorem in_given : inOk (.str "given") [.str "name", .str "given"] = True := eq_true (in_strs (ws := ["name", "given"]) (by decide +kernel) good2)
theorem in_if : inOk (.str "if") [.str "name", .str "given"] = True := eq_true (in_strs (ws := ["name", "given"]) (by decide +kernel) good2)
theorem in_with : inOk (.str "with") [.str "name", .str "given"] = True := eq_true (in_strs (ws := ["name", "given"]) (by decide +kernel) good2)
theorem in_work : inOk (.str "work") [.str "name", .str "given"] = True := eq_true (in_strs (ws := ["name", "given"]) (by decide +kernel) good2)
theorem in_call : inOk (.str "call") [.str "name", .str "given"] = True := eq_true (in_strs (ws := ["name", "given"]) (by decide +kernel) good2)
local macro_rules | `(tactic| walk_at "cd") => `(tactic| simp only [Code.toD, Code.toDs, Code.kids, List.any_cons, List.any_nil, D.py, PyData.eqv, beq_iff_eq, Bool.or_false, Bool.or_eq_true, Bool.or_eq_false_iff, or_false, false_or, q_name_given, q_name_if, q_name_with, q_name_work, q_name_call, q_name_bound, q_given_name, q_given_if, q_given_with, q_given_work, q_given_call, q_given_bound, q_if_name, q_if_given, q_if_with, q_if_work, q_if_call, q_if_bound, q_with_name, q_with_given, q_with_if, q_with_work, q_with_call, q_with_bound, q_work_name, q_work_given, q_work_if, q_work_with, q_work_call, q_work_bound, q_call_name, q_call_given, q_call_if, q_call_with, q_call_work, q_call_bound, q_bound_name, q_bound_given, q_bound_if, q_bound_with, q_bound_work, q_bound_call, in_name, in_given, in_if, in_with, in_work, in_call])
def R_in : RD := fun ds k => ∃ c : Code, ds = [c.toD] ∧ k (.tup (Code.toDs c.kids))
theorem p_in (t : TSD) (ht : t = t_codes_within ∨ t = t_L_inner) : ∀ ds κ, R_in ds κ → t (endD κ) (enterS 1 ds) := by
  have hs : sizeLine = 16777216 := sizeLine_eq
  have main : ∀ ds κ, R_in ds κ → t_codes_within (endD κ) (enterS 1 ds) := by
    rintro ds κ ⟨c, rfl, h⟩
    unfold t_codes_within
    have h2 : 2 ≤ sizeLine := by omega
    have h0 : 0 ≤ sizeLine := by omega
    cases c with
    | app w f cs => cases w <;> (walk_at "cd"; walk_at "dl"; walk_at "cd"; simp only [Code.kids] at h; simpa [h2, h0] using h)
    | _ => walk_at "cd"; walk_at "dl"; walk_at "cd"; (simp only [Code.kids, Code.toDs] at h); simpa [h2, h0] using h
  rcases ht with rfl | rfl
  · exact main
  · exact main
end K15

set_option Elab.async false
set_option linter.all false
set_option maxRecDepth 100000
set_option maxHeartbeats 4000000
namespace K15
open PySem L2 DL
local macro_rules | `(tactic| walk_at "dl") => `(tactic| simp only [Tr.toD, toDs_d, map_snoc, map_ins, treeT, seqT, iffT, setT, retT, nextT, retN, blT, DL.binT, nameT, cT, bagT, cutBT, putBT, augBT, consA, nilA, callT, ofF, lstF, lstR, tupT, eqD, neD, inD, notInD, someO, noneO, slT, revF, endD, enterS, ifT, andT, orT, notT, andB, orB, notB, truT, newT, mT, thruT, thruB, frzT, putT, parT, tgtT, methT, onT, isStr, isLst, getT, starA, negT, dropT, breakT, contT, tgD, putA, seqI, rng1I, enumI, zipI, forT, lcF, wipeS,
  addD_ii, addD_ib, addD_ss, addD_ll, addD_tt, subD_ii, mulD_ii, mulD_li, fdivD_ii, modD_ii, cmpI_ii, eqB_ss, eqB_ii, eqB_bb, eqB_tt, eqB_ll, inB_l, inB_t, ixD_l, ixD_t, ixD_s, slD_l, slD_t, truD_b, truD_i, truD_n, truD_s, truD_l, truD_t, intR_i, intR_b, lenR_s, lenR_l, lenR_t, absR_i, minR_ii, maxR_ii, tupR_l, tupR_t, appD_1, insD_1, extD_1, splitM_1, optK_some, atI_0, atI_1, atI_2, atI_3, atI_4, cutL_1, cutL_2, cutL_t1, cutL_t2,
  List.map_cons, List.map_nil, List.replicate_succ, List.replicate_zero, List.cons_append, List.nil_append, List.length_cons, List.length_nil, List.set_cons_zero, List.set_cons_succ, List.getElem?_cons_zero, List.getElem?_cons_succ, List.drop_succ_cons, List.drop_zero, List.take_succ_cons, List.take_zero, true_and, and_true, true_or, or_true, decide_eq_true_eq, reduceCtorEq, if_true, if_false, ite_true, ite_false, D.int.injEq, Nat.reduceAdd, Nat.reduceSub, Int.reduceSub, Int.reduceAdd, Int.reduceNeg, Bool.false_eq_true, Bool.true_eq_false, decide_true, decide_false, Bool.not_true, Bool.not_false, Bool.not_eq_true', decide_eq_false_iff_not])
local macro_rules | `(tactic| walk_at "di") => `(tactic| simp only [isiT, chainT, e0D, ixO, parO, parS, disp1T, emptyT, getT2, lookD, keyD, keyT, keysD, valD, valQ, dixT, listKR, itemsF, keysI, valsI, itemsI, dputK, newR, emptyR, augI, whileT, dcT, lc2F, Tr.toEs, ib_int_NoneType, ib_int_bool, ib_int_int, ib_int_tuple, ib_bool_int, ib_bool_bool, ib_tuple_tuple, Bool.or_true, Bool.or_false, Bool.true_or, Bool.false_or])
local macro_rules | `(tactic| walk_at "dx") => `(tactic| ((try walk_at "dl"); (try walk_at "di"); (try walk_at "dl"); (try walk_at "di"); (try walk_at "dl")))
/-! ### what a code is without its withs -/
abbrev Env := Str → Code
def Env.put (s : Env) (x : Str) (c : Code) : Env := fun y => if y = x then c else s y
mutual
def Code.out : Code → Env → Code
  | .nm x, s => s x
  | .gv i, _ => .gv i
  | .ite a b c d, s => .ite (a.out s) (b.out s) (c.out s) (d.out s)
  | .wth x a b, s => b.out (s.put x (a.out s))
  | .app w f cs, s => .app w f (Code.outs cs s)
def Code.outs : List Code → Env → List Code
  | [], _ => []
  | c :: cs, s => c.out s :: Code.outs cs s
end
mutual
def Code.fr : Code → Str → Prop
  | .nm y, x => x = y
  | .gv _, _ => False
  | .ite a b c d, x => a.fr x ∨ b.fr x ∨ c.fr x ∨ d.fr x
  | .wth y a b, x => a.fr x ∨ (x ≠ y ∧ b.fr x)
  | .app _ _ cs, x => Code.frs cs x
def Code.frs : List Code → Str → Prop
  | [], _ => False
  | c :: cs, x => c.fr x ∨ Code.frs cs x
end
mutual
/-- no withs -/
def Code.pl : Code → Prop
  | .nm _ => True
  | .gv _ => True
  | .ite a b c d => a.pl ∧ b.pl ∧ c.pl ∧ d.pl
  | .wth _ _ _ => False
  | .app _ _ cs => Code.pls cs
def Code.pls : List Code → Prop
  | [] => True
  | c :: cs => c.pl ∧ Code.pls cs
end
mutual
theorem out_congr : ∀ (c : Code) (s t : Env), (∀ x, c.fr x → s x = t x) → c.out s = c.out t
  | .nm x, s, t, h => by simp only [Code.out]; exact h x (by simp only [Code.fr])
  | .gv i, s, t, h => by simp only [Code.out]
  | .ite a b c d, s, t, h => by
    simp only [Code.fr] at h
    simp only [Code.out, out_congr a s t fun x hx => h x (.inl hx), out_congr b s t fun x hx => h x (.inr (.inl hx)), out_congr c s t fun x hx => h x (.inr (.inr (.inl hx))), out_congr d s t fun x hx => h x (.inr (.inr (.inr hx)))]
  | .wth y a b, s, t, h => by
    simp only [Code.fr] at h
    simp only [Code.out, out_congr a s t fun x hx => h x (.inl hx)]
    refine out_congr b _ _ fun x hx => ?_
    unfold Env.put
    by_cases e : x = y
    · rw [if_pos e, if_pos e]
    · rw [if_neg e, if_neg e]; exact h x (.inr ⟨e, hx⟩)
  | .app w f cs, s, t, h => by
    simp only [Code.fr] at h
    simp only [Code.out, outs_congr cs s t h]
theorem outs_congr : ∀ (cs : List Code) (s t : Env), (∀ x, Code.frs cs x → s x = t x) → Code.outs cs s = Code.outs cs t
  | [], s, t, h => by simp only [Code.outs]
  | c :: cs, s, t, h => by
    simp only [Code.frs] at h
    simp only [Code.outs, out_congr c s t fun x hx => h x (.inl hx), outs_congr cs s t fun x hx => h x (.inr hx)]
end
theorem put_out (s t : Env) (x : Str) (c : Code) : (fun y => ((s.put x c) y).out t) = Env.put (fun y => (s y).out t) x (c.out t) := by
  funext y
  unfold Env.put
  split <;> rfl
mutual
theorem out_out : ∀ (c : Code) (s t : Env), (c.out s).out t = c.out fun x => (s x).out t
  | .nm x, s, t => by simp only [Code.out]
  | .gv i, s, t => by simp only [Code.out]
  | .ite a b c d, s, t => by simp only [Code.out, out_out a s t, out_out b s t, out_out c s t, out_out d s t]
  | .wth y a b, s, t => by simp only [Code.out]; rw [out_out b, put_out, out_out a s t]
  | .app w f cs, s, t => by simp only [Code.out, outs_outs cs s t]
theorem outs_outs : ∀ (cs : List Code) (s t : Env), Code.outs (Code.outs cs s) t = Code.outs cs fun x => (s x).out t
  | [], s, t => by simp only [Code.outs]
  | c :: cs, s, t => by simp only [Code.outs, out_out c s t, outs_outs cs s t]
end
mutual
theorem out_nm : ∀ (c : Code), c.pl → c.out .nm = c
  | .nm x, h => by simp only [Code.out]
  | .gv i, h => by simp only [Code.out]
  | .ite a b c d, h => by simp only [Code.pl] at h; simp only [Code.out, out_nm a h.1, out_nm b h.2.1, out_nm c h.2.2.1, out_nm d h.2.2.2]
  | .wth y a b, h => by simp only [Code.pl] at h
  | .app w f cs, h => by simp only [Code.pl] at h; simp only [Code.out, outs_nm cs h]
theorem outs_nm : ∀ (cs : List Code), Code.pls cs → Code.outs cs .nm = cs
  | [], h => by simp only [Code.outs]
  | c :: cs, h => by simp only [Code.pls] at h; simp only [Code.outs, out_nm c h.1, outs_nm cs h.2]
end
theorem Env.put_pl {s : Env} {x : Str} {c : Code} (h : ∀ y, (s y).pl) (hc : c.pl) : ∀ y, ((s.put x c) y).pl := fun y => by
  unfold Env.put
  split
  · exact hc
  · exact h y
mutual
theorem out_pl : ∀ (c : Code) (s : Env), (∀ x, (s x).pl) → (c.out s).pl
  | .nm x, s, h => by simp only [Code.out]; exact h x
  | .gv i, s, h => by simp only [Code.out, Code.pl]
  | .ite a b c d, s, h => by simp only [Code.out, Code.pl]; exact ⟨out_pl a s h, out_pl b s h, out_pl c s h, out_pl d s h⟩
  | .wth y a b, s, h => by simp only [Code.out]; exact out_pl b _ (Env.put_pl h (out_pl a s h))
  | .app w f cs, s, h => by simp only [Code.out, Code.pl]; exact outs_pl cs s h
theorem outs_pl : ∀ (cs : List Code) (s : Env), (∀ x, (s x).pl) → Code.pls (Code.outs cs s)
  | [], s, h => by simp only [Code.outs, Code.pls]
  | c :: cs, s, h => by simp only [Code.outs, Code.pls]; exact ⟨out_pl c s h, outs_pl cs s h⟩
end
theorem nm_pl : ∀ x, (Code.nm x).pl := fun x => by simp only [Code.pl]
/-! depth, and how much a code may add to it -/
mutual
def Code.dp : Code → Nat
  | .nm _ => 1
  | .gv _ => 1
  | .ite a b c d => 1 + max (max a.dp b.dp) (max c.dp d.dp)
  | .wth _ a b => 1 + max a.dp b.dp
  | .app _ _ cs => 1 + Code.dps cs
def Code.dps : List Code → Nat
  | [] => 0
  | c :: cs => max c.dp (Code.dps cs)
end
mutual
def Code.wt : Code → Nat
  | .nm _ => 0
  | .gv _ => 1
  | .ite a b c d => 1 + max (max a.wt b.wt) (max c.wt d.wt)
  | .wth _ a b => 1 + a.wt + b.wt
  | .app _ _ cs => 1 + Code.wts cs
def Code.wts : List Code → Nat
  | [] => 0
  | c :: cs => max c.wt (Code.wts cs)
end
mutual
theorem out_dp : ∀ (c : Code) (s : Env) (n : Nat), (∀ x, (s x).dp ≤ n) → (c.out s).dp ≤ c.wt + n
  | .nm x, s, n, h => by simp only [Code.out, Code.wt]; have := h x; omega
  | .gv i, s, n, h => by simp only [Code.out, Code.wt, Code.dp]; omega
  | .ite a b c d, s, n, h => by
    have h1 := out_dp a s n h; have h2 := out_dp b s n h; have h3 := out_dp c s n h; have h4 := out_dp d s n h
    simp only [Code.out, Code.wt, Code.dp]; omega
  | .wth y a b, s, n, h => by
    have h1 := out_dp a s n h
    have h2 := out_dp b (s.put y (a.out s)) (a.wt + n) fun x => by
      unfold Env.put
      split
      · exact h1
      · have := h x; omega
    simp only [Code.out, Code.wt]; omega
  | .app w f cs, s, n, h => by
    have h1 := outs_dp cs s n h
    simp only [Code.out, Code.wt, Code.dp]; omega
theorem outs_dp : ∀ (cs : List Code) (s : Env) (n : Nat), (∀ x, (s x).dp ≤ n) → Code.dps (Code.outs cs s) ≤ Code.wts cs + n
  | [], s, n, h => by simp only [Code.outs, Code.wts, Code.dps]; omega
  | c :: cs, s, n, h => by
    have h1 := out_dp c s n h
    have h2 := outs_dp cs s n h
    simp only [Code.outs, Code.wts, Code.dps]; omega
end
mutual
theorem dp_wt : ∀ c : Code, c.dp ≤ c.wt + 1
  | .nm x => by simp only [Code.dp, Code.wt]; omega
  | .gv i => by simp only [Code.dp, Code.wt]; omega
  | .ite a b c d => by have := dp_wt a; have := dp_wt b; have := dp_wt c; have := dp_wt d; simp only [Code.dp, Code.wt]; omega
  | .wth y a b => by have := dp_wt a; have := dp_wt b; simp only [Code.dp, Code.wt]; omega
  | .app w f cs => by have := dps_wts cs; simp only [Code.dp, Code.wt]; omega
theorem dps_wts : ∀ cs : List Code, Code.dps cs ≤ Code.wts cs + 1
  | [] => by simp only [Code.dps, Code.wts]; omega
  | c :: cs => by have := dp_wt c; have := dps_wts cs; simp only [Code.dps, Code.wts]; omega
end
mutual
theorem wt_size : ∀ c : Code, c.wt ≤ c.size
  | .nm x => by simp only [Code.size, Code.wt]; omega
  | .gv i => by simp only [Code.size, Code.wt]; omega
  | .ite a b c d => by have := wt_size a; have := wt_size b; have := wt_size c; have := wt_size d; simp only [Code.size, Code.wt]; omega
  | .wth y a b => by have := wt_size a; have := wt_size b; simp only [Code.size, Code.wt]; omega
  | .app w f cs => by have := wts_sizes cs; simp only [Code.size, Code.wt]; omega
theorem wts_sizes : ∀ cs : List Code, Code.wts cs ≤ Code.sizes cs
  | [] => by simp only [Code.sizes, Code.wts]; omega
  | c :: cs => by have := wt_size c; have := wts_sizes cs; simp only [Code.sizes, Code.wts]; omega
end
mutual
theorem Code.deepd : ∀ c : Code, c.toD.py.depth ≤ 2 * c.dp
  | .nm x => by simp [Code.toD, D.py, D.pys, PyData.depth, PyData.depthAll, Code.dp]
  | .gv _ => by simp [Code.toD, D.py, D.pys, PyData.depth, PyData.depthAll, Code.dp]
  | .ite a b c d => by
    have := a.deepd; have := b.deepd; have := c.deepd; have := d.deepd
    simp [Code.toD, D.py, D.pys, PyData.depth, PyData.depthAll, Code.dp]; omega
  | .wth x a b => by
    have := a.deepd; have := b.deepd
    simp [Code.toD, D.py, D.pys, PyData.depth, PyData.depthAll, Code.dp]; omega
  | .app w f cs => by
    have := Code.deepds cs
    simp [Code.toD, D.py, D.pys, PyData.depth, PyData.depthAll, Code.dp]; omega
theorem Code.deepds : ∀ cs : List Code, PyData.depthAll (D.pys (Code.toDs cs)) ≤ 2 * Code.dps cs
  | [] => by simp [Code.toDs, D.pys, PyData.depthAll, Code.dps]
  | c :: cs => by
    have := c.deepd; have := Code.deepds cs
    simp [Code.toDs, D.pys, PyData.depthAll, Code.dps]; omega
end
/-- the codes within others, in their place -/
def Code.re : Code → List Code → Code
  | .ite _ _ _ _, [a, b, c, d] => .ite a b c d
  | .wth x _ _, [a, b] => .wth x a b
  | .app w f _, cs => .app w f cs
  | c, _ => c
theorem re_out {c : Code} {s : Env} (h : ∀ x a b, c ≠ .wth x a b) (hn : ∀ x, c ≠ .nm x) : c.out s = c.re (c.kids.map fun d => d.out s) := by
  cases c with
  | nm x => exact absurd rfl (hn x)
  | gv i => simp only [Code.out, Code.re]
  | ite a b c d => simp only [Code.out, Code.kids, List.map_cons, List.map_nil, Code.re]
  | wth x a b => exact absurd rfl (h x a b)
  | app w f cs =>
    simp only [Code.out, Code.kids, Code.re]
    congr 1
    clear h hn
    induction cs with
    | nil => simp only [Code.outs, List.map_nil]
    | cons c cs ih => simp only [Code.outs, List.map_cons, ih]
end K15

set_option Elab.async false
set_option linter.all false
set_option maxRecDepth 100000
set_option maxHeartbeats 4000000
namespace K15
open PySem L2 DL
local macro_rules | `(tactic| walk_at "dl") => `(tactic| simp only [Tr.toD, toDs_d, map_snoc, map_ins, treeT, seqT, iffT, setT, retT, nextT, retN, blT, DL.binT, nameT, cT, bagT, cutBT, putBT, augBT, consA, nilA, callT, ofF, lstF, lstR, tupT, eqD, neD, inD, notInD, someO, noneO, slT, revF, endD, enterS, ifT, andT, orT, notT, andB, orB, notB, truT, newT, mT, thruT, thruB, frzT, putT, parT, tgtT, methT, onT, isStr, isLst, getT, starA, negT, dropT, breakT, contT, tgD, putA, seqI, rng1I, enumI, zipI, forT, lcF, wipeS,
  addD_ii, addD_ib, addD_ss, addD_ll, addD_tt, subD_ii, mulD_ii, mulD_li, fdivD_ii, modD_ii, cmpI_ii, eqB_ss, eqB_ii, eqB_bb, eqB_tt, eqB_ll, inB_l, inB_t, ixD_l, ixD_t, ixD_s, slD_l, slD_t, truD_b, truD_i, truD_n, truD_s, truD_l, truD_t, intR_i, intR_b, lenR_s, lenR_l, lenR_t, absR_i, minR_ii, maxR_ii, tupR_l, tupR_t, appD_1, insD_1, extD_1, splitM_1, optK_some, atI_0, atI_1, atI_2, atI_3, atI_4, cutL_1, cutL_2, cutL_t1, cutL_t2,
  List.map_cons, List.map_nil, List.replicate_succ, List.replicate_zero, List.cons_append, List.nil_append, List.length_cons, List.length_nil, List.set_cons_zero, List.set_cons_succ, List.getElem?_cons_zero, List.getElem?_cons_succ, List.drop_succ_cons, List.drop_zero, List.take_succ_cons, List.take_zero, true_and, and_true, true_or, or_true, decide_eq_true_eq, reduceCtorEq, if_true, if_false, ite_true, ite_false, D.int.injEq, Nat.reduceAdd, Nat.reduceSub, Int.reduceSub, Int.reduceAdd, Int.reduceNeg, Bool.false_eq_true, Bool.true_eq_false, decide_true, decide_false, Bool.not_true, Bool.not_false, Bool.not_eq_true', decide_eq_false_iff_not])
local macro_rules | `(tactic| walk_at "di") => `(tactic| simp only [isiT, chainT, e0D, ixO, parO, parS, disp1T, emptyT, getT2, lookD, keyD, keyT, keysD, valD, valQ, dixT, listKR, itemsF, keysI, valsI, itemsI, dputK, newR, emptyR, augI, whileT, dcT, lc2F, Tr.toEs, Bool.or_true, Bool.or_false, Bool.true_or, Bool.false_or, isi2T, inSg, notInSg, tabT, List.isEmpty_nil, List.isEmpty_cons, ib_int_NoneType, ib_int_bool, ib_int_int, ib_int_str, ib_int_list, ib_int_tuple, ib_int_dict, ib_bool_NoneType, ib_bool_bool, ib_bool_int, ib_bool_str, ib_bool_list, ib_bool_tuple, ib_bool_dict, ib_str_NoneType, ib_str_bool, ib_str_int, ib_str_str, ib_str_list, ib_str_tuple, ib_str_dict, ib_list_NoneType, ib_list_bool, ib_list_int, ib_list_str, ib_list_list, ib_list_tuple, ib_list_dict, ib_tuple_NoneType, ib_tuple_bool, ib_tuple_int, ib_tuple_str, ib_tuple_list, ib_tuple_tuple, ib_tuple_dict])
local macro_rules | `(tactic| walk_at "dx") => `(tactic| ((try walk_at "dl"); (try walk_at "di"); (try walk_at "dl"); (try walk_at "di"); (try walk_at "dl")))
local macro_rules | `(tactic| walk_at "cd") => `(tactic| simp only [Code.toD, Code.toDs, Code.kids, List.any_cons, List.any_nil, D.py, PyData.eqv, beq_iff_eq, Bool.or_false, Bool.or_eq_true, Bool.or_eq_false_iff, or_false, false_or, q_name_given, q_name_if, q_name_with, q_name_work, q_name_call, q_name_bound, q_given_name, q_given_if, q_given_with, q_given_work, q_given_call, q_given_bound, q_if_name, q_if_given, q_if_with, q_if_work, q_if_call, q_if_bound, q_with_name, q_with_given, q_with_if, q_with_work, q_with_call, q_with_bound, q_work_name, q_work_given, q_work_if, q_work_with, q_work_call, q_work_bound, q_call_name, q_call_given, q_call_if, q_call_with, q_call_work, q_call_bound, q_bound_name, q_bound_given, q_bound_if, q_bound_with, q_bound_work, q_bound_call, in_name, in_given, in_if, in_with, in_work, in_call])
local macro_rules | `(tactic| walk_at "ce") => `(tactic| (walk_at "cd"; walk_at "dl"; (try walk_at "cd"); (try walk_at "dl"); (try walk_at "cd")))
/-! ### words by numbers -/
def wcs (n : Nat) : List Nat := (if h : 25 < n then wcs (n / 26 - 1) else []) ++ [97 + n % 26]
termination_by n
decreasing_by omega
def wd (n : Nat) : Str := ⟨(wcs n).toArray⟩
theorem wcs_hi {n : Nat} (h : 25 < n) : wcs n = wcs (n / 26 - 1) ++ [97 + n % 26] := by rw [wcs, dif_pos h]
theorem wcs_lo {n : Nat} (h : ¬ 25 < n) : wcs n = [97 + n % 26] := by rw [wcs, dif_neg h, List.nil_append]
theorem wcs_ne (n : Nat) : wcs n ≠ [] := by rw [wcs]; simp
theorem wcs_inj : ∀ (k n m : Nat), n ≤ k → wcs n = wcs m → n = m := by
  intro k
  induction k with
  | zero =>
    intro n m hn h
    obtain rfl : n = 0 := by omega
    by_cases hm : 25 < m
    · rw [wcs_lo (by omega), wcs_hi hm] at h
      have := congrArg List.length h
      have h0 := List.length_pos_iff.mpr (wcs_ne (m / 26 - 1))
      simp at this
      exact absurd this (wcs_ne _)
    · rw [wcs_lo (by omega), wcs_lo hm] at h
      simp at h; omega
  | succ k ih =>
    intro n m hn h
    by_cases h1 : 25 < n <;> by_cases h2 : 25 < m
    · rw [wcs_hi h1, wcs_hi h2] at h
      obtain ⟨e1, e2⟩ := List.append_inj' h rfl
      have := ih _ _ (by omega) e1
      simp at e2; omega
    · rw [wcs_hi h1, wcs_lo h2] at h
      have := congrArg List.length h
      simp at this
      exact absurd this (wcs_ne _)
    · rw [wcs_lo h1, wcs_hi h2] at h
      have := congrArg List.length h
      simp at this
      exact absurd this (wcs_ne _)
    · rw [wcs_lo h1, wcs_lo h2] at h
      simp at h; omega
theorem wd_inj {n m : Nat} (h : wd n = wd m) : n = m := by
  unfold wd at h
  have := congrArg (fun s : Str => s.cps.toList) h
  exact wcs_inj n n m (Nat.le_refl _) (by simpa using this)
theorem wcs_len : ∀ (k n : Nat), n < 26 ^ (k + 1) → (wcs n).length ≤ k + 1 := by
  intro k
  induction k with
  | zero =>
    intro n h
    rw [wcs_lo (by omega)]; simp
  | succ k ih =>
    intro n h
    by_cases h1 : 25 < n
    · rw [wcs_hi h1]
      have : n / 26 < 26 ^ (k + 1) := Nat.div_lt_of_lt_mul (by rw [Nat.pow_succ] at h; omega)
      have := ih (n / 26 - 1) (by omega)
      simp; omega
    · rw [wcs_lo h1]; simp
theorem wcs_asc : ∀ (k n : Nat), n ≤ k → ∀ c ∈ wcs n, 97 ≤ c ∧ c < 123 := by
  intro k
  induction k with
  | zero =>
    intro n hn c hc
    rw [wcs_lo (by omega)] at hc
    simp at hc; omega
  | succ k ih =>
    intro n hn c hc
    by_cases h1 : 25 < n
    · rw [wcs_hi h1] at hc
      rcases List.mem_append.mp hc with z | z
      · exact ih _ (by omega) c z
      · simp at z; omega
    · rw [wcs_lo h1] at hc
      simp at hc; omega
theorem wd_ok {n : Nat} (h : n < 2 ^ 18) : wOk (wd n) = true := by
  unfold wOk wd
  rw [Bool.and_eq_true, Bool.and_eq_true]
  refine ⟨?_, decide_eq_true ?_, decide_eq_true ?_⟩
  · rw [← Array.all_toList]
    refine List.all_eq_true.mpr fun c hc => ?_
    have := wcs_asc n n (Nat.le_refl _) c hc
    unfold lowc
    rw [decide_eq_true this.1, decide_eq_true this.2]; rfl
  · have := wcs_len 3 n (by omega)
    show (wcs n).toArray.size ≤ 8
    rw [List.size_toArray]; omega
  · show 0 < (wcs n).toArray.size
    rw [List.size_toArray]
    exact List.length_pos_iff.mpr (wcs_ne n)
theorem letter_at : ∀ i : Fin 26, L2.atI txt_LETTERS.cps.toList ((i : Nat) : Int) = some (97 + (i : Nat)) := by decide +kernel
theorem letter_mod (a : Nat) : L2.atI txt_LETTERS.cps.toList ((a : Int) % 26) = some (97 + a % 26) := by
  have e : (a : Int) % 26 = ((a % 26 : Nat) : Int) := by omega
  rw [e]
  exact letter_at ⟨a % 26, Nat.mod_lt _ (by omega)⟩
theorem str_cons (c : Nat) (l : List Nat) : (⟨#[c]⟩ : Str) ++ ⟨l.toArray⟩ = ⟨(c :: l).toArray⟩ := by
  show (⟨#[c] ++ l.toArray⟩ : Str) = _
  simp
theorem ite_t {c : Prop} {i : Decidable c} {A B : Prop} (h : c) (a : A) : @ite Prop c i A B := by rw [if_pos h]; exact a
theorem ite_f {c : Prop} {i : Decidable c} {A B : Prop} (h : ¬ c) (b : B) : @ite Prop c i A B := by rw [if_neg h]; exact b
def R_word : RD := fun ds k => ∃ n : Nat, ds = [.int n] ∧ n < 2 ^ 18 ∧ k (.str (wd n))
theorem p_word_of : ∀ ds κ, R_word ds κ → t_word_of (endD κ) (enterS 2 ds) := by
  have hs : sizeLine = 16777216 := sizeLine_eq
  have hl : txt_LETTERS.length ≤ sizeLine := by rw [hs]; decide +kernel
  rintro ds κ ⟨n, rfl, hn, h⟩
  unfold t_word_of
  walk_at "dl"
  have ln := wcs_len 3 n (by omega)
  refine ⟨by omega, hl, optK_of (letter_mod n) ?_⟩
  refine ⟨fun m ρ => ∃ (a : Nat) (s : List Nat), m = a ∧ ρ = [.dat (.int a), .dat (.str ⟨((97 + a % 26) :: s).toArray⟩)] ∧ wcs n = wcs a ++ s, ⟨n, n, [], rfl, rfl, by simp⟩, ?_⟩
  rintro m ρ ⟨a, s, hm, rfl, e⟩
  obtain rfl : a = m := hm.symm
  walk_at "dl"
  have ls : s.length ≤ 4 := by
    have := congrArg List.length e
    rw [List.length_append] at this; omega
  by_cases ha : 25 < a
  · rw [if_pos (by omega)]
    refine ⟨fun ρ => ∃ (a' : Nat) (s : List Nat), a' < a ∧ ρ = [.dat (.int a'), .dat (.str ⟨((97 + a' % 26) :: s).toArray⟩)] ∧ wcs n = wcs a' ++ s, fun ρ' ⟨a', s, h1, h2, h3⟩ => ⟨a', by omega, a', s, rfl, h2, h3⟩, ?_⟩
    have e1 : ((a : Int) / 26 - 1) = ((a / 26 - 1 : Nat) : Int) := by omega
    rw [e1]
    refine ⟨⟨by omega, by omega⟩, by omega, hl, optK_of (letter_mod _) ⟨?_, a / 26 - 1, (97 + a % 26) :: s, by omega, by rw [str_cons], ?_⟩⟩
    · show 1 + ((97 + a % 26) :: s).toArray.size ≤ sizeLine
      rw [List.size_toArray, List.length_cons]; omega
    · rw [e, wcs_hi ha, List.append_assoc]; rfl
  · rw [if_neg (by omega)]
    rw [wcs_lo ha] at e
    unfold wd at h
    rw [e] at h
    exact h
theorem pigeon {α : Type} [DecidableEq α] : ∀ {ys xs : List α}, ys.Nodup → (∀ y ∈ ys, y ∈ xs) → ys.length ≤ xs.length
  | [], _, _, _ => Nat.zero_le _
  | y :: ys, xs, hn, h => by
    obtain ⟨h1, h2⟩ := List.nodup_cons.mp hn
    have hy := h y List.mem_cons_self
    have := pigeon (xs := xs.erase y) h2 fun z hz => (List.mem_erase_of_ne (fun e => h1 (by rw [← e]; exact hz))).mpr (h z (List.mem_cons_of_mem _ hz))
    rw [List.length_erase_of_mem hy] at this
    have := List.length_pos_of_mem hy
    rw [List.length_cons]; omega
theorem wd_room {xs : List Str} {a : Nat} (h : ∀ i, i < a → wd i ∈ xs) : a ≤ xs.length := by
  have := pigeon (ys := (List.range a).map wd) (xs := xs) (List.Pairwise.map _ (fun i j h e => h (wd_inj e)) List.nodup_range) (fun y hy => by
    obtain ⟨i, hi, rfl⟩ := List.mem_map.mp hy
    exact h i (List.mem_range.mp hi))
  simpa using this
/-! ### a word that is not there -/
def R_fresh : RD := fun ds k => ∃ xs : List Str, ds = [.lst (xs.map .str)] ∧ Good xs ∧ xs.length < 2 ^ 17 ∧ ∀ n : Nat, wOk (wd n) = true → wd n ∉ xs → (∀ i, i < n → wd i ∈ xs) → k (.str (wd n))
theorem p_fresh_word : ∀ ds κ, R_fresh ds κ → t_fresh_word R_word (endD κ) (enterS 2 ds) := by
  have hs : sizeLine = 16777216 := sizeLine_eq
  rintro ds κ ⟨xs, rfl, hg, hl, h⟩
  unfold t_fresh_word
  walk_at "dl"
  refine ⟨fun m ρ => ∃ a : Nat, m + a = xs.length + 1 ∧ ρ = [.dat (.lst (xs.map .str)), .dat (.int a)] ∧ ∀ i, i < a → wd i ∈ xs, ⟨xs.length + 1, 0, rfl, rfl, fun i hi => absurd hi (Nat.not_lt_zero i)⟩, ?_⟩
  rintro m ρ ⟨a, hm, rfl, hi⟩
  have ha := wd_room hi
  walk_at "dl"
  have ok : wOk (wd a) = true := wd_ok (by omega)
  refine ⟨a, rfl, by omega, in_strs ok hg, ?_⟩
  have z := any_strs (wd a) xs
  by_cases hx : wd a ∈ xs
  · refine ite_t (z.trans (decide_eq_true hx)) ?_
    have hi' : ∀ i, i < a + 1 → wd i ∈ xs := fun i h => (by
      by_cases e : i = a
      · rw [e]; exact hx
      · exact hi i (by omega))
    have ha' := wd_room hi'
    refine ⟨fun ρ => ρ = [.dat (.lst (xs.map .str)), .dat (.int ((a + 1 : Nat) : Int))], fun ρ' e => ⟨m - 1, by omega, a + 1, by omega, e, hi'⟩, ?_⟩
    exact ⟨a, rfl, 1, rfl, rfl⟩
  · exact ite_f (fun q => hx (of_decide_eq_true (z.symm.trans q))) ⟨a, rfl, by omega, h a ok hx hi⟩
end K15

set_option Elab.async false
set_option linter.all false
set_option maxRecDepth 100000
set_option maxHeartbeats 4000000
namespace K15
open PySem L2 DL
local macro_rules | `(tactic| walk_at "dl") => `(tactic| simp only [Tr.toD, toDs_d, map_snoc, map_ins, treeT, seqT, iffT, setT, retT, nextT, retN, blT, DL.binT, nameT, cT, bagT, cutBT, putBT, augBT, consA, nilA, callT, ofF, lstF, lstR, tupT, eqD, neD, inD, notInD, someO, noneO, slT, revF, endD, enterS, ifT, andT, orT, notT, andB, orB, notB, truT, newT, mT, thruT, thruB, frzT, putT, parT, tgtT, methT, onT, isStr, isLst, getT, starA, negT, dropT, breakT, contT, tgD, putA, seqI, rng1I, enumI, zipI, forT, lcF, wipeS,
  addD_ii, addD_ib, addD_ss, addD_ll, addD_tt, subD_ii, mulD_ii, mulD_li, fdivD_ii, modD_ii, cmpI_ii, eqB_ss, eqB_ii, eqB_bb, eqB_tt, eqB_ll, inB_l, inB_t, ixD_l, ixD_t, ixD_s, slD_l, slD_t, truD_b, truD_i, truD_n, truD_s, truD_l, truD_t, intR_i, intR_b, lenR_s, lenR_l, lenR_t, absR_i, minR_ii, maxR_ii, tupR_l, tupR_t, appD_1, insD_1, extD_1, splitM_1, optK_some, atI_0, atI_1, atI_2, atI_3, atI_4, cutL_1, cutL_2, cutL_t1, cutL_t2,
  List.map_cons, List.map_nil, List.replicate_succ, List.replicate_zero, List.cons_append, List.nil_append, List.length_cons, List.length_nil, List.set_cons_zero, List.set_cons_succ, List.getElem?_cons_zero, List.getElem?_cons_succ, List.drop_succ_cons, List.drop_zero, List.take_succ_cons, List.take_zero, true_and, and_true, true_or, or_true, decide_eq_true_eq, reduceCtorEq, if_true, if_false, ite_true, ite_false, D.int.injEq, Nat.reduceAdd, Nat.reduceSub, Int.reduceSub, Int.reduceAdd, Int.reduceNeg, Bool.false_eq_true, Bool.true_eq_false, decide_true, decide_false, Bool.not_true, Bool.not_false, Bool.not_eq_true', decide_eq_false_iff_not])
local macro_rules | `(tactic| walk_at "di") => `(tactic| simp only [isiT, chainT, e0D, ixO, parO, parS, disp1T, emptyT, getT2, lookD, keyD, keyT, keysD, valD, valQ, dixT, listKR, itemsF, keysI, valsI, itemsI, dputK, newR, emptyR, augI, whileT, dcT, lc2F, Tr.toEs, Bool.or_true, Bool.or_false, Bool.true_or, Bool.false_or, isi2T, inSg, notInSg, tabT, List.isEmpty_nil, List.isEmpty_cons, ib_int_NoneType, ib_int_bool, ib_int_int, ib_int_str, ib_int_list, ib_int_tuple, ib_int_dict, ib_bool_NoneType, ib_bool_bool, ib_bool_int, ib_bool_str, ib_bool_list, ib_bool_tuple, ib_bool_dict, ib_str_NoneType, ib_str_bool, ib_str_int, ib_str_str, ib_str_list, ib_str_tuple, ib_str_dict, ib_list_NoneType, ib_list_bool, ib_list_int, ib_list_str, ib_list_list, ib_list_tuple, ib_list_dict, ib_tuple_NoneType, ib_tuple_bool, ib_tuple_int, ib_tuple_str, ib_tuple_list, ib_tuple_tuple, ib_tuple_dict])
local macro_rules | `(tactic| walk_at "dx") => `(tactic| ((try walk_at "dl"); (try walk_at "di"); (try walk_at "dl"); (try walk_at "di"); (try walk_at "dl")))
local macro_rules | `(tactic| walk_at "cd") => `(tactic| simp only [Code.toD, Code.toDs, Code.kids, List.any_cons, List.any_nil, D.py, PyData.eqv, beq_iff_eq, Bool.or_false, Bool.or_eq_true, Bool.or_eq_false_iff, or_false, false_or, q_name_given, q_name_if, q_name_with, q_name_work, q_name_call, q_name_bound, q_given_name, q_given_if, q_given_with, q_given_work, q_given_call, q_given_bound, q_if_name, q_if_given, q_if_with, q_if_work, q_if_call, q_if_bound, q_with_name, q_with_given, q_with_if, q_with_work, q_with_call, q_with_bound, q_work_name, q_work_given, q_work_if, q_work_with, q_work_call, q_work_bound, q_call_name, q_call_given, q_call_if, q_call_with, q_call_work, q_call_bound, q_bound_name, q_bound_given, q_bound_if, q_bound_with, q_bound_work, q_bound_call, in_name, in_given, in_if, in_with, in_work, in_call])
local macro_rules | `(tactic| walk_at "ce") => `(tactic| (walk_at "cd"; walk_at "dl"; (try walk_at "cd"); (try walk_at "dl"); (try walk_at "cd")))
/-! ### the names that are free -/
abbrev esOf (xs : List Str) : List (D × D) := xs.map fun x => (.str x, .bl true)
theorem putD_esOf (xs : List Str) (x : Str) : putD (esOf xs) (.str x) (.bl true) = esOf (addS xs x) := by
  have ha : ((esOf xs).any fun e => decide (keyD e.1 = keyD (.str x))) = decide (x ∈ xs) := by
    unfold esOf
    rw [List.any_map]
    induction xs with
    | nil => simp
    | cons y ys ih =>
      rw [List.any_cons, ih]
      by_cases e : y = x
      · subst e; simp [keyD]
      · have e' : ¬ x = y := fun z => e z.symm
        simp [keyD, e, e']
  unfold putD mergeD.putD addS
  rw [ha]
  by_cases h : x ∈ xs
  · rw [if_pos (decide_eq_true h), if_pos h]
    unfold esOf
    rw [List.map_map]
    refine List.map_congr_left fun y _ => ?_
    simp only [Function.comp]
    split <;> rfl
  · rw [if_neg (by simpa using h), if_neg h]
    unfold esOf
    rw [List.map_append]; rfl
theorem toEs_dE : ∀ es : List (D × D), Tr.toEs (es.map dE) = es
  | [] => by simp only [List.map_nil, Tr.toEs]
  | (k, d) :: es => by simp only [List.map_cons, Tr.toEs, Tr.toD, toEs_dE es]
def keepB : Code → Nat → Str → Bool
  | .wth y _ _, i, x => decide (i = 0) || decide (x ≠ y)
  | _, _, _ => true
def R_free (n : Nat) : RD := fun ds k => ∃ c : Code, ds = [c.toD] ∧ c.ok ∧ c.dp ≤ n ∧ c.size < 2 ^ 16 ∧ ∀ xs : List Str, (∀ x, x ∈ xs ↔ c.fr x) → xs.length ≤ c.size → xs.Nodup → k (.lst (xs.map .str))
abbrev frB : TSD := iffT (orB (blT (DL.binT neD (DL.binT ixD (nameT 0) (cT (.int 0))) (cT (.str "with")))) (orB (blT (DL.binT eqD (nameT 2) (cT (.int 0)))) (blT (DL.binT neD (nameT 4) (DL.binT ixD (nameT 0) (cT (.int 1))))))) (dputK 1 (nameT 4) (cT (.bl true))) nextT
abbrev frS (c : Code) (xs : List Str) (s2 s3 s4 : Sl) : List Sl := [.dat c.toD, .tr (.m false ((esOf xs).map dE)), s2, s3, s4]
theorem put_fr {c : Code} {xs : List Str} {i : Nat} {x : Str} {k : DE} {s3 : Sl} (hl : xs.length < 2 ^ 20) (h : k.nx (frS c (addS xs x) (.dat (.int i)) s3 (.dat (.str x)))) : dputK 1 (nameT 4) (cT (.bl true)) k (frS c xs (.dat (.int i)) s3 (.dat (.str x))) := by
  have hs : sizeLine = 16777216 := sizeLine_eq
  refine ⟨esOf xs, rfl, ?_⟩
  walk_at "dl"
  refine ⟨rfl, by rw [List.length_map]; omega, ?_⟩
  rw [putD_esOf]
  exact h
theorem frB_ok {c : Code} {xs : List Str} {i : Nat} {x : Str} {k : DE} {s3 : Sl} (hc : ∀ y, c ≠ .nm y) (hg : ∀ y, c ≠ .gv y) (hl : xs.length < 2 ^ 20) (h : k.nx (frS c (if keepB c i x = true then addS xs x else xs) (.dat (.int i)) s3 (.dat (.str x)))) :
    frB k (frS c xs (.dat (.int i)) s3 (.dat (.str x))) := by
  unfold frB
  simp only [frS] at h ⊢
  cases c with
  | nm y => exact absurd rfl (hc y)
  | gv y => exact absurd rfl (hg y)
  | ite a b c d =>
    have p := put_fr (c := .ite a b c d) (i := i) (x := x) (s3 := s3) hl h
    simp only [frS] at p
    (walk_at "cd"; walk_at "dl"; (try walk_at "cd"))
    exact p
  | app w f cs =>
    have p := put_fr (c := .app w f cs) (i := i) (x := x) (s3 := s3) hl h
    simp only [frS] at p
    cases w <;> (walk_at "cd"; walk_at "dl"; (try walk_at "cd")) <;> exact p
  | wth y a b =>
    have p := fun h => put_fr (c := .wth y a b) (i := i) (x := x) (s3 := s3) (k := k) hl h
    (walk_at "cd"; walk_at "dl"; (try walk_at "cd"))
    unfold keepB at h
    simp only [Code.toD] at h
    simp only [frS, Code.toD] at p
    by_cases h0 : (i : Int) = 0
    · have h0' : i = 0 := by omega
      rw [if_pos (by rw [decide_eq_true h0']; rfl)] at h
      exact ite_t h0 (p h)
    · have h0' : ¬ i = 0 := by omega
      refine ite_f h0 ?_
      by_cases h1 : x = y
      · rw [if_neg (by rw [decide_eq_false h0', decide_eq_false (fun z => z h1)]; exact fun z => Bool.noConfusion z)] at h
        exact ite_f (fun z => z h1) h
      · rw [if_pos (by rw [decide_eq_true (p := x ≠ y) h1, Bool.or_true])] at h
        exact ite_t h1 (p h)
theorem numb_get? {ds : List D} {i : Nat} {d : D} {rest : List D} (h : d :: rest = (numb ds).drop i) : ∃ e, ds[i]? = some e ∧ d = .tup [.int (i : Nat), e] ∧ rest = (numb ds).drop (i + 1) := by
  have hi : i < (numb ds).length := by
    have := congrArg List.length h
    rw [List.length_cons, List.length_drop] at this; omega
  rw [List.drop_eq_getElem_cons hi] at h
  obtain ⟨h1, h2⟩ := List.cons.inj h
  rw [numb_len] at hi
  refine ⟨ds[i], List.getElem?_eq_getElem hi, ?_, h2⟩
  have := numb_get (List.getElem?_eq_getElem hi)
  rw [List.getElem?_eq_getElem (by rw [numb_len]; exact hi)] at this
  rw [h1]
  exact Option.some.inj this
theorem fr_kids {c : Code} {x : Str} (hc : ∀ y, c ≠ .nm y) : c.fr x ↔ ∃ (i : Nat) (d : Code), c.kids[i]? = some d ∧ d.fr x ∧ keepB c i x = true := by
  have frs : ∀ {cs : List Code}, Code.frs cs x ↔ ∃ (i : Nat) (d : Code), cs[i]? = some d ∧ d.fr x := by
    intro cs
    induction cs with
    | nil => simp [Code.frs]
    | cons d cs ih =>
      simp only [Code.frs, ih]
      constructor
      · rintro (h | ⟨i, e, h1, h2⟩)
        · exact ⟨0, d, rfl, h⟩
        · exact ⟨i + 1, e, by simpa using h1, h2⟩
      · rintro ⟨i, e, h1, h2⟩
        cases i with
        | zero =>
          obtain rfl : d = e := by simpa using h1
          exact .inl h2
        | succ i => exact .inr ⟨i, e, by simpa using h1, h2⟩
  cases c with
  | nm y => exact absurd rfl (hc y)
  | gv y => simp [Code.fr, Code.kids]
  | ite a b c d =>
    have z := frs (cs := [a, b, c, d])
    simp only [Code.frs, or_false] at z
    simp only [Code.fr, Code.kids, keepB, and_true]
    exact z
  | app w f cs =>
    simp only [Code.fr, Code.kids, keepB, and_true]
    exact frs
  | wth y a b =>
    simp only [Code.fr, Code.kids, keepB]
    constructor
    · rintro (h | ⟨h1, h2⟩)
      · exact ⟨0, a, rfl, h, by simp⟩
      · exact ⟨1, b, rfl, h2, by simp [h1]⟩
    · rintro ⟨i, d, h1, h2, h3⟩
      match i with
      | 0 =>
        obtain rfl : a = d := by simpa using h1
        exact .inl h2
      | 1 =>
        obtain rfl : b = d := by simpa using h1
        exact .inr ⟨by simpa using h3, h2⟩
      | i + 2 => simp at h1
theorem kids_dp : ∀ {c d : Code}, d ∈ c.kids → d.dp < c.dp := by
  intro c d h
  have dps : ∀ {cs : List Code}, d ∈ cs → d.dp ≤ Code.dps cs := by
    intro cs
    induction cs with
    | nil => intro h; cases h
    | cons e cs ih =>
      intro h
      simp only [Code.dps]
      rcases List.mem_cons.mp h with rfl | h
      · omega
      · have := ih h; omega
  cases c with
  | nm y => cases h
  | gv y => cases h
  | ite a b c e =>
    simp only [Code.kids, List.mem_cons, List.not_mem_nil, or_false] at h
    simp only [Code.dp]
    rcases h with rfl | rfl | rfl | rfl <;> omega
  | wth y a b =>
    simp only [Code.kids, List.mem_cons, List.not_mem_nil, or_false] at h
    simp only [Code.dp]
    rcases h with rfl | rfl <;> omega
  | app w f cs =>
    have := dps (cs := cs) h
    simp only [Code.dp]; omega
theorem sizes_take {cs : List Code} {i : Nat} {d : Code} (h : cs[i]? = some d) : Code.sizes (cs.take (i + 1)) = Code.sizes (cs.take i) + d.size := by
  induction cs generalizing i with
  | nil => simp at h
  | cons c cs ih =>
    cases i with
    | zero =>
      obtain rfl : c = d := by simpa using h
      simp only [List.take_succ_cons, List.take_zero, Code.sizes]; omega
    | succ i =>
      have := ih (i := i) (by simpa using h)
      simp only [List.take_succ_cons, Code.sizes, this]; omega
theorem sizes_take_le (cs : List Code) (i : Nat) : Code.sizes (cs.take i) ≤ Code.sizes cs := by
  induction cs generalizing i with
  | nil => simp
  | cons c cs ih =>
    cases i with
    | zero => simp [Code.sizes]
    | succ i => have := ih i; simp only [List.take_succ_cons, Code.sizes]; omega
theorem ok_name {c : Code} {x : Str} : c.ok → c.fr x → wOk x = true := by
  have main : ∀ (n : Nat) (c : Code), c.dp ≤ n → c.ok → c.fr x → wOk x = true := by
    intro n
    induction n with
    | zero => intro c h; cases c <;> simp only [Code.dp] at h <;> omega
    | succ n ih =>
      intro c hn ho hf
      by_cases hc : ∃ y, c = .nm y
      · obtain ⟨y, rfl⟩ := hc
        simp only [Code.fr] at hf
        simp only [Code.ok] at ho
        rw [hf]; exact ho
      · obtain ⟨i, d, h1, h2, h3⟩ := (fr_kids (fun y e => hc ⟨y, e⟩)).mp hf
        have hd := List.mem_of_getElem? h1
        have := kids_dp hd
        exact ih d (by omega) (oks_mem (kids_ok ho) d hd) h2
  exact main c.dp c (Nat.le_refl _)
theorem inner_fr {c : Code} {i : Nat} {k : DE} {s3 : Sl} (hc : ∀ y, c ≠ .nm y) (hg : ∀ y, c ≠ .gv y) : ∀ {ns xs : List Str} {s4 : Sl}, xs.length + ns.length < 2 ^ 20 → xs.Nodup →
    (∀ (ys : List Str) (s4 : Sl), (∀ y, y ∈ ys ↔ y ∈ xs ∨ (y ∈ ns ∧ keepB c i y = true)) → ys.length ≤ xs.length + ns.length → ys.Nodup → k.nx (frS c ys (.dat (.int i)) s3 s4)) → loopT (.nm 4) frB k (ns.map .str) (frS c xs (.dat (.int i)) s3 s4)
  | [], xs, s4, _, hn, h => h xs s4 (by simp) (by simp) hn
  | n :: ns, xs, s4, hl, hn, h => by
    rw [List.length_cons] at hl
    show frB { nx := loopT (.nm 4) frB k (ns.map .str), rt := k.rt, bk := k.nx, ct := loopT (.nm 4) frB k (ns.map .str) } (frS c xs (.dat (.int i)) s3 (.dat (.str n)))
    refine frB_ok hc hg (by omega) ?_
    have hle : (if keepB c i n = true then addS xs n else xs).length ≤ xs.length + 1 := by
      split
      · exact addS_len xs n
      · omega
    have hnd : (if keepB c i n = true then addS xs n else xs).Nodup := by
      split
      · exact addS_nd hn
      · exact hn
    refine inner_fr hc hg (by omega) hnd fun ys s4 hy hyl hyn => h ys s4 (fun y => ?_) (by rw [List.length_cons]; omega) hyn
    rw [hy]
    by_cases hk : keepB c i n = true
    · rw [if_pos hk, addS_mem, List.mem_cons]
      constructor
      · rintro ((a | rfl) | ⟨a, b⟩)
        · exact .inl a
        · exact .inr ⟨.inl rfl, hk⟩
        · exact .inr ⟨.inr a, b⟩
      · rintro (a | ⟨rfl | a, b⟩)
        · exact .inl (.inl a)
        · exact .inl (.inr rfl)
        · exact .inr ⟨a, b⟩
    · rw [if_neg hk, List.mem_cons]
      constructor
      · rintro (a | ⟨a, b⟩)
        · exact .inl a
        · exact .inr ⟨.inr a, b⟩
      · rintro (a | ⟨rfl | a, b⟩)
        · exact .inl a
        · exact absurd b hk
        · exact .inr ⟨a, b⟩
def Code.hd : Code → Str
  | .nm _ => "name" | .gv _ => "given" | .ite _ _ _ _ => "if" | .wth _ _ _ => "with" | .app w _ _ => if w = true then "work" else "call"
theorem hd_at (c : Code) : ∃ ds, c.toD = .tup (.str c.hd :: ds) := by
  cases c with
  | app w f cs => cases w <;> exact ⟨_, rfl⟩
  | _ => exact ⟨_, by simp only [Code.toD, Code.hd]; rfl⟩
theorem t_hd {c : Code} {ρ : List Sl} {w : Str} {kb : Bool → Prop} (h : ρ[0]? = some (.dat c.toD)) (q : kb (decide (c.hd = w))) : blT (DL.binT eqD (DL.binT ixD (nameT 0) (cT (.int 0))) (cT (.str w))) ρ kb := by
  obtain ⟨ds, e⟩ := hd_at c
  rw [e] at h
  simp only [blT, DL.binT, nameT, h, cT, ixD_t, atI_0, optK_some, eqD, eqB_ss]
  exact q
theorem hd_name {c : Code} (h : ∀ y, c ≠ .nm y) : ¬ c.hd = "name" := by
  cases c with
  | nm y => exact absurd rfl (h y)
  | gv i => show ¬ ("given" : Str) = "name"; decide +kernel
  | ite a b c d => show ¬ ("if" : Str) = "name"; decide +kernel
  | wth y a b => show ¬ ("with" : Str) = "name"; decide +kernel
  | app w f cs =>
    cases w
    · show ¬ ("call" : Str) = "name"; decide +kernel
    · show ¬ ("work" : Str) = "name"; decide +kernel
theorem hd_with {c : Code} (h : ∀ y a b, c ≠ .wth y a b) : ¬ c.hd = "with" := by
  cases c with
  | wth y a b => exact absurd rfl (h y a b)
  | nm i => show ¬ ("name" : Str) = "with"; decide +kernel
  | gv i => show ¬ ("given" : Str) = "with"; decide +kernel
  | ite a b c d => show ¬ ("if" : Str) = "with"; decide +kernel
  | app w f cs =>
    cases w
    · show ¬ ("call" : Str) = "with"; decide +kernel
    · show ¬ ("work" : Str) = "with"; decide +kernel
theorem p_free_in (n : Nat) : ∀ ds κ, R_free (n + 1) ds κ → t_free_in R_in (R_free n) (endD κ) (enterS 5 ds) := by
  have hs : sizeLine = 16777216 := sizeLine_eq
  rintro ds κ ⟨c, rfl, ho, hn, hz, h⟩
  unfold t_free_in
  by_cases hc : ∃ y, c = .nm y
  · obtain ⟨y, rfl⟩ := hc
    walk_at "cd"
    walk_at "dl"
    exact ⟨by omega, h [y] (fun x => by simp [Code.fr]) (by simp [Code.size]) (by simp)⟩
  · have hc' : ∀ y, c ≠ .nm y := fun y e => hc ⟨y, e⟩
    have main : (seqT (newR 1 emptyR) (seqT (forT (.tp [2, 3]) (enumI (consA (callT R_in (consA (nameT 0) nilA)) nilA)) (forT (.nm 4) (seqI (callT (R_free n) (consA (nameT 3) nilA))) frB)) (frzT 1 (retT (callT listKR (consA (nameT 1) nilA)))))) (endD κ) (enterS 5 [c.toD]) := by
      walk_at "dl"
      simp only [newR, emptyR]
      refine .inr ?_
      walk_at "dl"
      refine ⟨c, rfl, ?_⟩
      refine loopT_ind (I := fun rest ρ => ∃ (i : Nat) (xs : List Str) (s2 s3 s4 : Sl), rest = (numb (Code.toDs c.kids)).drop i ∧ ρ = frS c xs s2 s3 s4 ∧ (∀ x, x ∈ xs ↔ ∃ (j : Nat) (d : Code), j < i ∧ c.kids[j]? = some d ∧ d.fr x ∧ keepB c j x = true) ∧ xs.length ≤ Code.sizes (c.kids.take i) ∧ xs.Nodup) ?_ ?_ ⟨0, [], _, _, _, rfl, rfl, fun x => ⟨fun h => (nomatch h), fun ⟨j, d, h, _⟩ => absurd h (Nat.not_lt_zero j)⟩, by simp, List.nodup_nil⟩
      · rintro ρ ⟨i, xs, s2, s3, s4, e, rfl, hx, hl, hnd⟩
        have hi : c.kids.length ≤ i := by
          have := congrArg List.length e
          rw [List.length_nil, List.length_drop, numb_len, toDs_map, List.length_map] at this; omega
        simp only [frS]
        walk_at "dl"
        rw [toEs_dE]
        show κ (.lst ((esOf xs).map Prod.fst))
        have e2 : (esOf xs).map Prod.fst = xs.map .str := by rw [List.map_map]; rfl
        rw [e2]
        refine h xs (fun x => ?_) ?_ hnd
        · rw [hx, fr_kids hc']
          constructor
          · rintro ⟨j, d, _, q⟩
            exact ⟨j, d, q⟩
          · rintro ⟨j, d, q⟩
            have := (List.getElem?_eq_some_iff.mp q.1).1
            exact ⟨j, d, by omega, q⟩
        · have := sizes_take_le c.kids i
          have := kids_sizes c
          omega
      · rintro d rest ρ N hN ⟨i, xs, s2, s3, s4, e, rfl, hx, hl, hnd⟩
        obtain ⟨e', he, rfl, rfl⟩ := numb_get? e
        rw [toDs_map, List.getElem?_map] at he
        obtain ⟨d, hd, rfl⟩ := Option.map_eq_some_iff.mp he
        have hm := List.mem_of_getElem? hd
        have h1 := kids_dp hm
        have h2 := sizes_mem hm
        have h3 := kids_sizes c
        have hg' : ∀ y, c ≠ .gv y := fun y z => by rw [z] at hm; simp only [Code.kids] at hm; cases hm
        have h4 := sizes_take_le c.kids i
        refine ⟨rfl, ?_⟩
        refine ⟨d, rfl, oks_mem (kids_ok ho) d hm, by omega, by omega, fun ns hns hnl _ => ?_⟩
        refine inner_fr (c := c) (i := i) (s3 := .dat d.toD) (s4 := s4) hc' hg' (by omega) hnd fun ys s4 hy hyl hyn => hN _ ⟨i + 1, ys, _, _, _, rfl, rfl, fun x => ?_, by rw [sizes_take hd]; omega, hyn⟩
        rw [hy, hx, hns]
        constructor
        · rintro (⟨j, d', a, b⟩ | ⟨a, b⟩)
          · exact ⟨j, d', by omega, b⟩
          · exact ⟨i, d, by omega, hd, a, b⟩
        · rintro ⟨j, d', a, b1, b2, b3⟩
          by_cases z : j = i
          · subst z
            rw [hd] at b1
            cases b1
            exact .inr ⟨b2, b3⟩
          · exact .inl ⟨j, d', by omega, b1, b2, b3⟩
    refine t_hd (c := c) rfl ?_
    rw [decide_eq_false (hd_name hc')]
    exact main
end K15

set_option Elab.async false
set_option linter.all false
set_option maxRecDepth 100000
set_option maxHeartbeats 4000000
namespace K15
open PySem L2 DL
local macro_rules | `(tactic| walk_at "dl") => `(tactic| simp only [Tr.toD, toDs_d, map_snoc, map_ins, treeT, seqT, iffT, setT, retT, nextT, retN, blT, DL.binT, nameT, cT, bagT, cutBT, putBT, augBT, consA, nilA, callT, ofF, lstF, lstR, tupT, eqD, neD, inD, notInD, someO, noneO, slT, revF, endD, enterS, ifT, andT, orT, notT, andB, orB, notB, truT, newT, mT, thruT, thruB, frzT, putT, parT, tgtT, methT, onT, isStr, isLst, getT, starA, negT, dropT, breakT, contT, tgD, putA, seqI, rng1I, enumI, zipI, forT, lcF, wipeS,
  addD_ii, addD_ib, addD_ss, addD_ll, addD_tt, subD_ii, mulD_ii, mulD_li, fdivD_ii, modD_ii, cmpI_ii, eqB_ss, eqB_ii, eqB_bb, eqB_tt, eqB_ll, inB_l, inB_t, ixD_l, ixD_t, ixD_s, slD_l, slD_t, truD_b, truD_i, truD_n, truD_s, truD_l, truD_t, intR_i, intR_b, lenR_s, lenR_l, lenR_t, absR_i, minR_ii, maxR_ii, tupR_l, tupR_t, appD_1, insD_1, extD_1, splitM_1, optK_some, atI_0, atI_1, atI_2, atI_3, atI_4, cutL_1, cutL_2, cutL_t1, cutL_t2,
  List.map_cons, List.map_nil, List.replicate_succ, List.replicate_zero, List.cons_append, List.nil_append, List.length_cons, List.length_nil, List.set_cons_zero, List.set_cons_succ, List.getElem?_cons_zero, List.getElem?_cons_succ, List.drop_succ_cons, List.drop_zero, List.take_succ_cons, List.take_zero, true_and, and_true, true_or, or_true, decide_eq_true_eq, reduceCtorEq, if_true, if_false, ite_true, ite_false, D.int.injEq, Nat.reduceAdd, Nat.reduceSub, Int.reduceSub, Int.reduceAdd, Int.reduceNeg, Bool.false_eq_true, Bool.true_eq_false, decide_true, decide_false, Bool.not_true, Bool.not_false, Bool.not_eq_true', decide_eq_false_iff_not])
local macro_rules | `(tactic| walk_at "di") => `(tactic| simp only [isiT, chainT, e0D, ixO, parO, parS, disp1T, emptyT, getT2, lookD, keyD, keyT, keysD, valD, valQ, dixT, listKR, itemsF, keysI, valsI, itemsI, dputK, newR, emptyR, augI, whileT, dcT, lc2F, Tr.toEs, Bool.or_true, Bool.or_false, Bool.true_or, Bool.false_or, isi2T, inSg, notInSg, tabT, List.isEmpty_nil, List.isEmpty_cons, ib_int_NoneType, ib_int_bool, ib_int_int, ib_int_str, ib_int_list, ib_int_tuple, ib_int_dict, ib_bool_NoneType, ib_bool_bool, ib_bool_int, ib_bool_str, ib_bool_list, ib_bool_tuple, ib_bool_dict, ib_str_NoneType, ib_str_bool, ib_str_int, ib_str_str, ib_str_list, ib_str_tuple, ib_str_dict, ib_list_NoneType, ib_list_bool, ib_list_int, ib_list_str, ib_list_list, ib_list_tuple, ib_list_dict, ib_tuple_NoneType, ib_tuple_bool, ib_tuple_int, ib_tuple_str, ib_tuple_list, ib_tuple_tuple, ib_tuple_dict])
local macro_rules | `(tactic| walk_at "dx") => `(tactic| ((try walk_at "dl"); (try walk_at "di"); (try walk_at "dl"); (try walk_at "di"); (try walk_at "dl")))
local macro_rules | `(tactic| walk_at "cd") => `(tactic| simp only [Code.toD, Code.toDs, Code.kids, List.any_cons, List.any_nil, D.py, PyData.eqv, beq_iff_eq, Bool.or_false, Bool.or_eq_true, Bool.or_eq_false_iff, or_false, false_or, q_name_given, q_name_if, q_name_with, q_name_work, q_name_call, q_name_bound, q_given_name, q_given_if, q_given_with, q_given_work, q_given_call, q_given_bound, q_if_name, q_if_given, q_if_with, q_if_work, q_if_call, q_if_bound, q_with_name, q_with_given, q_with_if, q_with_work, q_with_call, q_with_bound, q_work_name, q_work_given, q_work_if, q_work_with, q_work_call, q_work_bound, q_call_name, q_call_given, q_call_if, q_call_with, q_call_work, q_call_bound, q_bound_name, q_bound_given, q_bound_if, q_bound_with, q_bound_work, q_bound_call, in_name, in_given, in_if, in_with, in_work, in_call])
local macro_rules | `(tactic| walk_at "ce") => `(tactic| (walk_at "cd"; walk_at "dl"; (try walk_at "cd"); (try walk_at "dl"); (try walk_at "cd")))
/-! ### other codes within a code -/
theorem toDs_len (cs : List Code) : (Code.toDs cs).length = cs.length := by rw [toDs_map, List.length_map]
def R_withc : RD := fun ds k => ∃ (c : Code) (cs : List Code), ds = [c.toD, .lst (Code.toDs cs)] ∧ cs.length = c.kids.length ∧ cs.length < 2 ^ 20 ∧ k (c.re cs).toD
theorem p_with_codes : ∀ ds κ, R_withc ds κ → t_with_codes (endD κ) (enterS 2 ds) := by
  have hs : sizeLine = 16777216 := sizeLine_eq
  rintro ds κ ⟨c, cs, rfl, hl, hz, h⟩
  unfold t_with_codes
  have h2 : 2 ≤ sizeLine := by omega
  have h3 : 3 ≤ sizeLine := by omega
  have tl := toDs_len cs
  cases c with
  | nm y =>
    simp only [Code.re, Code.toD] at h
    walk_at "cd"; walk_at "dl"; walk_at "cd"
    simpa [h2] using h
  | gv y =>
    simp only [Code.re, Code.toD] at h
    walk_at "cd"; walk_at "dl"; walk_at "cd"
    simpa [h2] using h
  | ite a b c d =>
    match cs, hl with
    | [a', b', c', d'], _ =>
      simp only [Code.re, Code.toD] at h
      walk_at "cd"; walk_at "dl"; walk_at "cd"
      have h5 : 5 ≤ sizeLine := by omega
      simpa [h2, h5] using h
  | wth y a b =>
    match cs, hl with
    | [a', b'], _ =>
      simp only [Code.re, Code.toD] at h
      walk_at "cd"; walk_at "dl"; walk_at "cd"
      have h4 : 4 ≤ sizeLine := by omega
      simpa [h2, h4] using h
  | app w f ds =>
    simp only [Code.re, Code.toD] at h
    cases w <;> (walk_at "cd"; walk_at "dl"; walk_at "cd"; simpa [h2, h3] using h)
/-! ### dicts of codes -/
abbrev pD (ps : List (Str × Code)) : List (D × D) := ps.map fun p => (.str p.1, p.2.toD)
def lk : List (Str × Code) → Str → Option Code
  | [], _ => none
  | (y, c) :: ps, x => if y = x then some c else lk ps x
theorem valD_pD (x : Str) : ∀ ps : List (Str × Code), valD (pD ps) (.inr x) = (lk ps x).map Code.toD
  | [] => rfl
  | (y, c) :: ps => by
    show (if keyD (.str y) = some (.inr x) then some c.toD else valD (pD ps) (.inr x)) = _
    unfold lk
    by_cases e : y = x
    · subst e
      rw [if_pos (show keyD (.str y) = some (.inr y) from rfl), if_pos rfl]; rfl
    · rw [if_neg (fun z => e (by injection z with z; injection z)), if_neg e, valD_pD x ps]
theorem lk_cons {ps : List (Str × Code)} {x y : Str} {c : Code} : lk ((y, c) :: ps) x = if y = x then some c else lk ps x := rfl
theorem lk_none {ps : List (Str × Code)} {x : Str} : lk ps x = none ↔ x ∉ ps.map (·.1) := by
  induction ps with
  | nil => simp [lk]
  | cons p ps ih =>
    obtain ⟨y, c⟩ := p
    unfold lk
    by_cases e : y = x
    · subst e; simp
    · have e' : ¬ x = y := fun z => e z.symm
      rw [if_neg e, ih]; simp [e']
theorem lk_mem {ps : List (Str × Code)} {x : Str} {c : Code} (h : lk ps x = some c) : (x, c) ∈ ps := by
  induction ps with
  | nil => cases h
  | cons p ps ih =>
    obtain ⟨y, d⟩ := p
    unfold lk at h
    by_cases e : y = x
    · subst e
      rw [if_pos rfl] at h
      cases h
      exact List.mem_cons_self
    · rw [if_neg e] at h
      exact List.mem_cons_of_mem _ (ih h)
theorem lk_app {ps qs : List (Str × Code)} {x : Str} : lk (ps ++ qs) x = (lk ps x).or (lk qs x) := by
  induction ps with
  | nil => rfl
  | cons p ps ih =>
    obtain ⟨y, c⟩ := p
    rw [List.cons_append, lk_cons, lk_cons]
    by_cases e : y = x
    · rw [if_pos e, if_pos e]; rfl
    · rw [if_neg e, if_neg e]; exact ih
theorem putD_pD {ps : List (Str × Code)} {x : Str} {c : Code} (h : x ∉ ps.map (·.1)) : putD (pD ps) (.str x) c.toD = pD (ps ++ [(x, c)]) := by
  have ha : ((pD ps).any fun e => decide (keyD e.1 = keyD (.str x))) = false := by
    rw [List.any_eq_false]
    intro e he
    obtain ⟨p, hp, rfl⟩ := List.mem_map.mp he
    have : p.1 ≠ x := fun z => h (List.mem_map.mpr ⟨p, hp, z⟩)
    simpa [keyD] using this
  unfold putD mergeD.putD
  rw [if_neg (by rw [ha]; exact fun z => Bool.noConfusion z)]
  unfold pD
  rw [List.map_append]; rfl
def Env.puts (s : Env) (ps : List (Str × Code)) : Env := fun x => match lk ps x with
  | some c => c.out s
  | none => s x
/-- the pairs whose keys pass -/
theorem dcomp_pD {tt : TBD} {tv : TD} {i : Nat} {tk : TD} {ρ : List Sl} {P : Str → Prop} {k : List (D × D) → Prop}
    (hstep : ∀ (x : Str) (c : Code) (acc : List (D × D)) (κ : Bool → Prop), True) : ∀ {ps done : List (Str × Code)} {l : List (Str × Code)},
    (∀ p ∈ ps, ∀ (kb : Bool → Prop), (P p.1 → kb true) → (¬ P p.1 → kb false) → tt (ρ.set i (.dat (.str p.1))) kb) →
    (∀ p ∈ ps, ∀ (κ : D → Prop), κ (.str p.1) → tk (ρ.set i (.dat (.str p.1))) κ) →
    (∀ p ∈ ps, ∀ (κ : D → Prop), κ p.2.toD → tv (ρ.set i (.dat (.str p.1))) κ) →
    ((done ++ ps).map (·.1)).Nodup → (done ++ ps).length < 2 ^ 20 → (∀ p ∈ l, p ∈ done ∧ P p.1) → (∀ x, P x → lk l x = lk done x) → (l.map (·.1)).Nodup → l.length ≤ done.length →
    (∀ l' : List (Str × Code), (∀ p ∈ l', p ∈ done ++ ps ∧ P p.1) → (∀ x, P x → lk l' x = lk (done ++ ps) x) → (l'.map (·.1)).Nodup → l'.length ≤ (done ++ ps).length → k (pD l')) →
    dcompT (.nm i) tt tk tv ρ (ps.map fun p => .str p.1) (pD l) k
  | [], done, l, _, _, _, _, _, h1, h2, h3, h4, hk => by
    rw [List.append_nil] at hk
    exact hk l h1 h2 h3 h4
  | (x, c) :: ps, done, l, ht, hky, hv, hn, hlen, h1, h2, h3, h4, hk => by
    have hs : sizeLine = 16777216 := sizeLine_eq
    have e : done ++ (x, c) :: ps = (done ++ [(x, c)]) ++ ps := by simp
    have ll : (done ++ [(x, c)]).length = done.length + 1 := by simp
    have hx : x ∉ done.map (·.1) := fun z => by
      rw [List.map_append, List.nodup_append] at hn
      exact hn.2.2 x z x (by simp) rfl
    have rest : ∀ l2 : List (Str × Code), (∀ p ∈ l2, p ∈ done ++ [(x, c)] ∧ P p.1) → (∀ y, P y → lk l2 y = lk (done ++ [(x, c)]) y) → (l2.map (·.1)).Nodup → l2.length ≤ done.length + 1 → dcompT (.nm i) tt tk tv ρ (ps.map fun p => .str p.1) (pD l2) k :=
      fun l2 a b c' d => dcomp_pD hstep (done := done ++ [(x, c)]) (fun p hp => ht p (List.mem_cons_of_mem _ hp)) (fun p hp => hky p (List.mem_cons_of_mem _ hp)) (fun p hp => hv p (List.mem_cons_of_mem _ hp)) (by rw [← e]; exact hn) (by rw [← e]; exact hlen) a b c' (by rw [ll]; exact d) fun l' => by rw [← e]; exact hk l'
    show tt (ρ.set i (.dat (.str x))) fun b => if b = true then tk (ρ.set i (.dat (.str x))) fun y => tv (ρ.set i (.dat (.str x))) fun z => (keyD y).isSome ∧ (pD l).length < sizeLine ∧ dcompT (.nm i) tt tk tv ρ (ps.map fun p => .str p.1) (putD (pD l) y z) k else dcompT (.nm i) tt tk tv ρ (ps.map fun p => .str p.1) (pD l) k
    refine ht (x, c) List.mem_cons_self _ (fun hp => ?_) fun hp => ?_
    · rw [if_pos rfl]
      refine hky (x, c) List.mem_cons_self _ (hv (x, c) List.mem_cons_self _ ⟨rfl, ?_, ?_⟩)
      · rw [List.length_map]
        rw [List.length_append] at hlen
        omega
      · have hxl : x ∉ l.map (·.1) := fun z => by
          obtain ⟨p, q1, q2⟩ := List.mem_map.mp z
          exact hx (List.mem_map.mpr ⟨p, (h1 p q1).1, q2⟩)
        rw [putD_pD hxl]
        refine rest _ (fun p hp' => ?_) (fun y hy => ?_) ?_ (by simp; omega)
        · rcases List.mem_append.mp hp' with z | z
          · exact ⟨List.mem_append_left _ (h1 p z).1, (h1 p z).2⟩
          · obtain rfl := List.mem_singleton.mp z
            exact ⟨by simp, hp⟩
        · rw [lk_app, lk_app, h2 y hy]
        · rw [List.map_append, List.nodup_append]
          refine ⟨h3, by simp, fun a ha b hb => ?_⟩
          obtain rfl : b = x := by simpa using hb
          exact fun z => hxl (z ▸ ha)
    · rw [if_neg (fun z => Bool.noConfusion z)]
      refine rest l (fun p hp' => ⟨List.mem_append_left _ (h1 p hp').1, (h1 p hp').2⟩) (fun y hy => ?_) h3 (by omega)
      rw [lk_app, ← h2 y hy]
      have : lk [(x, c)] y = none := by
        rw [lk_cons, if_neg (fun z : x = y => hp (by rw [show (x, c).1 = y from z]; exact hy))]; rfl
      rw [this, Option.or_none]
end K15

set_option Elab.async false
set_option linter.all false
set_option maxRecDepth 100000
set_option maxHeartbeats 4000000
namespace K15
open PySem L2 DL
local macro_rules | `(tactic| walk_at "dl") => `(tactic| simp only [Tr.toD, toDs_d, map_snoc, map_ins, treeT, seqT, iffT, setT, retT, nextT, retN, blT, DL.binT, nameT, cT, bagT, cutBT, putBT, augBT, consA, nilA, callT, ofF, lstF, lstR, tupT, eqD, neD, inD, notInD, someO, noneO, slT, revF, endD, enterS, ifT, andT, orT, notT, andB, orB, notB, truT, newT, mT, thruT, thruB, frzT, putT, parT, tgtT, methT, onT, isStr, isLst, getT, starA, negT, dropT, breakT, contT, tgD, putA, seqI, rng1I, enumI, zipI, forT, lcF, wipeS,
  addD_ii, addD_ib, addD_ss, addD_ll, addD_tt, subD_ii, mulD_ii, mulD_li, fdivD_ii, modD_ii, cmpI_ii, eqB_ss, eqB_ii, eqB_bb, eqB_tt, eqB_ll, inB_l, inB_t, ixD_l, ixD_t, ixD_s, slD_l, slD_t, truD_b, truD_i, truD_n, truD_s, truD_l, truD_t, intR_i, intR_b, lenR_s, lenR_l, lenR_t, absR_i, minR_ii, maxR_ii, tupR_l, tupR_t, appD_1, insD_1, extD_1, splitM_1, optK_some, atI_0, atI_1, atI_2, atI_3, atI_4, cutL_1, cutL_2, cutL_t1, cutL_t2,
  List.map_cons, List.map_nil, List.replicate_succ, List.replicate_zero, List.cons_append, List.nil_append, List.length_cons, List.length_nil, List.set_cons_zero, List.set_cons_succ, List.getElem?_cons_zero, List.getElem?_cons_succ, List.drop_succ_cons, List.drop_zero, List.take_succ_cons, List.take_zero, true_and, and_true, true_or, or_true, decide_eq_true_eq, reduceCtorEq, if_true, if_false, ite_true, ite_false, D.int.injEq, Nat.reduceAdd, Nat.reduceSub, Int.reduceSub, Int.reduceAdd, Int.reduceNeg, Bool.false_eq_true, Bool.true_eq_false, decide_true, decide_false, Bool.not_true, Bool.not_false, Bool.not_eq_true', decide_eq_false_iff_not])
local macro_rules | `(tactic| walk_at "di") => `(tactic| simp only [isiT, chainT, e0D, ixO, parO, parS, disp1T, emptyT, getT2, lookD, keyD, keyT, keysD, valD, valQ, dixT, listKR, itemsF, keysI, valsI, itemsI, dputK, newR, emptyR, augI, whileT, dcT, lc2F, Tr.toEs, Bool.or_true, Bool.or_false, Bool.true_or, Bool.false_or, isi2T, inSg, notInSg, tabT, List.isEmpty_nil, List.isEmpty_cons, ib_int_NoneType, ib_int_bool, ib_int_int, ib_int_str, ib_int_list, ib_int_tuple, ib_int_dict, ib_bool_NoneType, ib_bool_bool, ib_bool_int, ib_bool_str, ib_bool_list, ib_bool_tuple, ib_bool_dict, ib_str_NoneType, ib_str_bool, ib_str_int, ib_str_str, ib_str_list, ib_str_tuple, ib_str_dict, ib_list_NoneType, ib_list_bool, ib_list_int, ib_list_str, ib_list_list, ib_list_tuple, ib_list_dict, ib_tuple_NoneType, ib_tuple_bool, ib_tuple_int, ib_tuple_str, ib_tuple_list, ib_tuple_tuple, ib_tuple_dict])
local macro_rules | `(tactic| walk_at "dx") => `(tactic| ((try walk_at "dl"); (try walk_at "di"); (try walk_at "dl"); (try walk_at "di"); (try walk_at "dl")))
local macro_rules | `(tactic| walk_at "cd") => `(tactic| simp only [Code.toD, Code.toDs, Code.kids, List.any_cons, List.any_nil, D.py, PyData.eqv, beq_iff_eq, Bool.or_false, Bool.or_eq_true, Bool.or_eq_false_iff, or_false, false_or, q_name_given, q_name_if, q_name_with, q_name_work, q_name_call, q_name_bound, q_given_name, q_given_if, q_given_with, q_given_work, q_given_call, q_given_bound, q_if_name, q_if_given, q_if_with, q_if_work, q_if_call, q_if_bound, q_with_name, q_with_given, q_with_if, q_with_work, q_with_call, q_with_bound, q_work_name, q_work_given, q_work_if, q_work_with, q_work_call, q_work_bound, q_call_name, q_call_given, q_call_if, q_call_with, q_call_work, q_call_bound, q_bound_name, q_bound_given, q_bound_if, q_bound_with, q_bound_work, q_bound_call, in_name, in_given, in_if, in_with, in_work, in_call])
local macro_rules | `(tactic| walk_at "ce") => `(tactic| (walk_at "cd"; walk_at "dl"; (try walk_at "cd"); (try walk_at "dl"); (try walk_at "cd")))
/-! ### what a code means in any algebra -/
structure Alg (X : Type) where
  gv : Int → X
  ite : X → X → X → X → X
  wth : X → (X → X) → X
  app : Bool → Str → List X → X
def setV {X : Type} (s : Str → X) (x : Str) (v : X) : Str → X := fun y => if y = x then v else s y
mutual
def Code.sem {X : Type} (A : Alg X) : Code → (Str → X) → X
  | .nm x, s => s x
  | .gv i, _ => A.gv i
  | .ite a b c d, s => A.ite (a.sem A s) (b.sem A s) (c.sem A s) (d.sem A s)
  | .wth x a b, s => A.wth (a.sem A s) fun v => b.sem A (setV s x v)
  | .app w f cs, s => A.app w f (Code.sems A cs s)
def Code.sems {X : Type} (A : Alg X) : List Code → (Str → X) → List X
  | [], _ => []
  | c :: cs, s => c.sem A s :: Code.sems A cs s
end
theorem sems_map {X : Type} (A : Alg X) (s : Str → X) : ∀ cs : List Code, Code.sems A cs s = cs.map fun c => c.sem A s
  | [] => by simp only [Code.sems, List.map_nil]
  | c :: cs => by simp only [Code.sems, List.map_cons, sems_map A s cs]
mutual
theorem sem_congr {X : Type} (A : Alg X) : ∀ (c : Code) (s t : Str → X), (∀ x, c.fr x → s x = t x) → c.sem A s = c.sem A t
  | .nm x, s, t, h => by simp only [Code.sem]; exact h x (by simp only [Code.fr])
  | .gv i, s, t, h => by simp only [Code.sem]
  | .ite a b c d, s, t, h => by
    simp only [Code.fr] at h
    simp only [Code.sem, sem_congr A a s t fun x hx => h x (.inl hx), sem_congr A b s t fun x hx => h x (.inr (.inl hx)), sem_congr A c s t fun x hx => h x (.inr (.inr (.inl hx))), sem_congr A d s t fun x hx => h x (.inr (.inr (.inr hx)))]
  | .wth y a b, s, t, h => by
    simp only [Code.fr] at h
    simp only [Code.sem, sem_congr A a s t fun x hx => h x (.inl hx)]
    congr 1
    funext v
    refine sem_congr A b _ _ fun x hx => ?_
    unfold setV
    by_cases e : x = y
    · rw [if_pos e, if_pos e]
    · rw [if_neg e, if_neg e]; exact h x (.inr ⟨e, hx⟩)
  | .app w f cs, s, t, h => by
    simp only [Code.fr] at h
    simp only [Code.sem, sems_congr A cs s t h]
theorem sems_congr {X : Type} (A : Alg X) : ∀ (cs : List Code) (s t : Str → X), (∀ x, Code.frs cs x → s x = t x) → Code.sems A cs s = Code.sems A cs t
  | [], s, t, h => by simp only [Code.sems]
  | c :: cs, s, t, h => by
    simp only [Code.frs] at h
    simp only [Code.sems, sem_congr A c s t fun x hx => h x (.inl hx), sems_congr A cs s t fun x hx => h x (.inr hx)]
end
/-- names meant by what is put in for them -/
def putsE {X : Type} (A : Alg X) (s : Str → X) (P : Str → Option Code) : Str → X := fun x => match P x with
  | some c => c.sem A s
  | none => s x
open Classical in
/-- the first number whose word does not pass -/
noncomputable def freshN (S : Str → Prop) : Nat := epsilon fun n => ¬ S (wd n) ∧ ∀ i, i < n → S (wd i)
theorem freshN_eq {S : Str → Prop} {n : Nat} (h1 : ¬ S (wd n)) (h2 : ∀ i, i < n → S (wd i)) : freshN S = n := by
  have q : ¬ S (wd (freshN S)) ∧ ∀ i, i < freshN S → S (wd i) := Classical.epsilon_spec (p := fun n => ¬ S (wd n) ∧ ∀ i, i < n → S (wd i)) ⟨n, h1, h2⟩
  by_cases a : freshN S < n
  · exact absurd (h2 _ a) q.1
  · by_cases b : n < freshN S
    · exact absurd (q.2 _ b) h1
    · omega
def caughtBy (L : Str → Option Code) (v : Str) : Prop := ∃ x d, L x = some d ∧ d.fr v
open Classical in
noncomputable def leftOf (P : Str → Option Code) (y : Str) (b : Code) : Str → Option Code := fun x => if x ≠ y ∧ b.fr x then P x else none
open Classical in
/-- what put_all tells; n bounds the depth -/
noncomputable def putF : Nat → Code → (Str → Option Code) → Code
  | 0, c, _ => c
  | _ + 1, .nm y, P => (P y).getD (.nm y)
  | _ + 1, .gv i, _ => .gv i
  | n + 1, .ite a b c d, P => .ite (putF n a P) (putF n b P) (putF n c P) (putF n d P)
  | n + 1, .app w f cs, P => .app w f (cs.map fun c => putF n c P)
  | n + 1, .wth y a b, P =>
    if caughtBy (leftOf P y b) y then
      .wth (wd (freshN fun v => caughtBy (leftOf P y b) v ∨ b.fr v)) (putF n a P) (putF n (putF n b fun x => if y = x then some (.nm (wd (freshN fun v => caughtBy (leftOf P y b) v ∨ b.fr v))) else none) (leftOf P y b))
    else .wth y (putF n a P) (putF n b (leftOf P y b))
theorem putF_re {n : Nat} {c : Code} {cs : List Code} {P : Str → Option Code} (h1 : ∀ x a b, c ≠ .wth x a b) (h2 : ∀ x, c ≠ .nm x) (hl : cs.length = c.kids.length) (h : ∀ (i : Nat) (d e : Code), c.kids[i]? = some d → cs[i]? = some e → e = putF n d P) : c.re cs = putF (n + 1) c P := by
  have e : cs = c.kids.map fun d => putF n d P := by
    apply List.ext_getElem?
    intro j
    rw [List.getElem?_map]
    cases q : c.kids[j]? with
    | none =>
      have : c.kids.length ≤ j := by simpa using q
      simp; omega
    | some d =>
      have hj : j < c.kids.length := (List.getElem?_eq_some_iff.mp q).1
      have q2 : cs[j]? = some cs[j] := List.getElem?_eq_getElem (by omega)
      rw [q2, h j d _ q q2]; rfl
  subst e
  cases c with
  | nm y => exact absurd rfl (h2 y)
  | gv y => simp only [Code.re, putF]
  | ite a b c d => simp only [Code.kids, List.map_cons, List.map_nil, Code.re, putF]
  | wth x a b => exact absurd rfl (h1 x a b)
  | app w f ds => simp only [Code.kids, Code.re, putF]
theorem lk_one (y : Str) (c : Code) : lk [(y, c)] = fun x => if y = x then some c else none := by
  funext x
  rw [lk_cons]; rfl
theorem lk_of_mem {ps : List (Str × Code)} {p : Str × Code} (hn : (ps.map (·.1)).Nodup) (hp : p ∈ ps) : lk ps p.1 = some p.2 := by
  cases q : lk ps p.1 with
  | none => exact absurd (List.mem_map.mpr ⟨p, hp, rfl⟩) (lk_none.mp q)
  | some d =>
    have hm := lk_mem q
    have : ∀ {ps : List (Str × Code)} {p q : Str × Code}, (ps.map (·.1)).Nodup → p ∈ ps → q ∈ ps → p.1 = q.1 → p = q := by
      intro ps
      induction ps with
      | nil => intro p q _ h; cases h
      | cons r ps ih =>
        intro p q hn h1 h2 e
        rw [List.map_cons, List.nodup_cons] at hn
        rcases List.mem_cons.mp h1 with g1 | g1
        · rcases List.mem_cons.mp h2 with g2 | g2
          · rw [g1, g2]
          · exact absurd (show r.1 ∈ ps.map (·.1) from List.mem_map.mpr ⟨q, g2, by rw [← e, g1]⟩) hn.1
        · rcases List.mem_cons.mp h2 with g2 | g2
          · exact absurd (show r.1 ∈ ps.map (·.1) from List.mem_map.mpr ⟨p, g1, by rw [e, g2]⟩) hn.1
          · exact ih hn.2 g1 g2 e
    have z := this hn hp hm rfl
    rw [z]
theorem lk_left {ps l : List (Str × Code)} {y : Str} {b : Code} (l1 : ∀ p ∈ l, p ∈ ps ∧ (p.1 ≠ y ∧ b.fr p.1)) (l2 : ∀ x, (x ≠ y ∧ b.fr x) → lk l x = lk ps x) : lk l = leftOf (lk ps) y b := by
  funext x
  unfold leftOf
  by_cases h : x ≠ y ∧ b.fr x
  · rw [if_pos h, l2 x h]
  · rw [if_neg h]
    exact lk_none.mpr fun z => by
      obtain ⟨p, q1, q2⟩ := List.mem_map.mp z
      exact h (q2 ▸ (l1 p q1).2)
theorem caught_lk {l : List (Str × Code)} {v : Str} (l3 : (l.map (·.1)).Nodup) : caughtBy (lk l) v ↔ ∃ p ∈ l, p.2.fr v := by
  constructor
  · rintro ⟨x, d, h1, h2⟩
    exact ⟨_, lk_mem h1, h2⟩
  · rintro ⟨p, h1, h2⟩
    exact ⟨p.1, p.2, lk_of_mem l3 h1, h2⟩
end K15

set_option Elab.async false
set_option linter.all false
set_option maxRecDepth 100000
set_option maxHeartbeats 4000000
namespace K15
open PySem L2 DL
local macro_rules | `(tactic| walk_at "dl") => `(tactic| simp only [Tr.toD, toDs_d, map_snoc, map_ins, treeT, seqT, iffT, setT, retT, nextT, retN, blT, DL.binT, nameT, cT, bagT, cutBT, putBT, augBT, consA, nilA, callT, ofF, lstF, lstR, tupT, eqD, neD, inD, notInD, someO, noneO, slT, revF, endD, enterS, ifT, andT, orT, notT, andB, orB, notB, truT, newT, mT, thruT, thruB, frzT, putT, parT, tgtT, methT, onT, isStr, isLst, getT, starA, negT, dropT, breakT, contT, tgD, putA, seqI, rng1I, enumI, zipI, forT, lcF, wipeS,
  addD_ii, addD_ib, addD_ss, addD_ll, addD_tt, subD_ii, mulD_ii, mulD_li, fdivD_ii, modD_ii, cmpI_ii, eqB_ss, eqB_ii, eqB_bb, eqB_tt, eqB_ll, inB_l, inB_t, ixD_l, ixD_t, ixD_s, slD_l, slD_t, truD_b, truD_i, truD_n, truD_s, truD_l, truD_t, intR_i, intR_b, lenR_s, lenR_l, lenR_t, absR_i, minR_ii, maxR_ii, tupR_l, tupR_t, appD_1, insD_1, extD_1, splitM_1, optK_some, atI_0, atI_1, atI_2, atI_3, atI_4, cutL_1, cutL_2, cutL_t1, cutL_t2,
  List.map_cons, List.map_nil, List.replicate_succ, List.replicate_zero, List.cons_append, List.nil_append, List.length_cons, List.length_nil, List.set_cons_zero, List.set_cons_succ, List.getElem?_cons_zero, List.getElem?_cons_succ, List.drop_succ_cons, List.drop_zero, List.take_succ_cons, List.take_zero, true_and, and_true, true_or, or_true, decide_eq_true_eq, reduceCtorEq, if_true, if_false, ite_true, ite_false, D.int.injEq, Nat.reduceAdd, Nat.reduceSub, Int.reduceSub, Int.reduceAdd, Int.reduceNeg, Bool.false_eq_true, Bool.true_eq_false, decide_true, decide_false, Bool.not_true, Bool.not_false, Bool.not_eq_true', decide_eq_false_iff_not])
local macro_rules | `(tactic| walk_at "di") => `(tactic| simp only [isiT, chainT, e0D, ixO, parO, parS, disp1T, emptyT, getT2, lookD, keyD, keyT, keysD, valD, valQ, dixT, listKR, itemsF, keysI, valsI, itemsI, dputK, newR, emptyR, augI, whileT, dcT, lc2F, Tr.toEs, Bool.or_true, Bool.or_false, Bool.true_or, Bool.false_or, isi2T, inSg, notInSg, tabT, List.isEmpty_nil, List.isEmpty_cons, ib_int_NoneType, ib_int_bool, ib_int_int, ib_int_str, ib_int_list, ib_int_tuple, ib_int_dict, ib_bool_NoneType, ib_bool_bool, ib_bool_int, ib_bool_str, ib_bool_list, ib_bool_tuple, ib_bool_dict, ib_str_NoneType, ib_str_bool, ib_str_int, ib_str_str, ib_str_list, ib_str_tuple, ib_str_dict, ib_list_NoneType, ib_list_bool, ib_list_int, ib_list_str, ib_list_list, ib_list_tuple, ib_list_dict, ib_tuple_NoneType, ib_tuple_bool, ib_tuple_int, ib_tuple_str, ib_tuple_list, ib_tuple_tuple, ib_tuple_dict])
local macro_rules | `(tactic| walk_at "dx") => `(tactic| ((try walk_at "dl"); (try walk_at "di"); (try walk_at "dl"); (try walk_at "di"); (try walk_at "dl")))
local macro_rules | `(tactic| walk_at "cd") => `(tactic| simp only [Code.toD, Code.toDs, Code.kids, List.any_cons, List.any_nil, D.py, PyData.eqv, beq_iff_eq, Bool.or_false, Bool.or_eq_true, Bool.or_eq_false_iff, or_false, false_or, q_name_given, q_name_if, q_name_with, q_name_work, q_name_call, q_name_bound, q_given_name, q_given_if, q_given_with, q_given_work, q_given_call, q_given_bound, q_if_name, q_if_given, q_if_with, q_if_work, q_if_call, q_if_bound, q_with_name, q_with_given, q_with_if, q_with_work, q_with_call, q_with_bound, q_work_name, q_work_given, q_work_if, q_work_with, q_work_call, q_work_bound, q_call_name, q_call_given, q_call_if, q_call_with, q_call_work, q_call_bound, q_bound_name, q_bound_given, q_bound_if, q_bound_with, q_bound_work, q_bound_call, in_name, in_given, in_if, in_with, in_work, in_call])
local macro_rules | `(tactic| walk_at "ce") => `(tactic| (walk_at "cd"; walk_at "dl"; (try walk_at "cd"); (try walk_at "dl"); (try walk_at "cd")))
/-! ### the names that the codes put in have free -/
theorem compB_strs {s0 s1 s2 s3 s4 s5 s6 s7 s8 s9 : Sl} {k : List D → Prop} : ∀ {ns xs : List Str}, xs.length + ns.length < 2 ^ 20 → k ((xs ++ ns).map .str) → compB (.nm 7) yesT (nameT 7) [s0, s1, s2, s3, s4, s5, s6, s7, s8, s9] (ns.map .str) (xs.map .str) k
  | [], xs, _, h => by rw [List.append_nil] at h; exact h
  | n :: ns, xs, hl, h => by
    have hs : sizeLine = 16777216 := sizeLine_eq
    rw [List.length_cons] at hl
    simp only [List.map_cons, compB, tgD, yesT, if_true, nameT, List.set_cons_succ, List.set_cons_zero, List.getElem?_cons_succ, List.getElem?_cons_zero]
    refine ⟨by rw [List.length_map]; omega, ?_⟩
    have e : xs.map D.str ++ [.str n] = (xs ++ [n]).map .str := by rw [List.map_append]; rfl
    rw [e]
    exact compB_strs (by simp; omega) (by rw [List.append_assoc]; exact h)
theorem caught_ok {N : Nat} {s0 s1 s2 s3 s4 s5 s6 s7 s8 s9 : Sl} {k : List D → Prop} : ∀ {l : List (Str × Code)} {xs : List Str}, (∀ p ∈ l, p.2.ok ∧ p.2.dp ≤ N ∧ p.2.size < 2 ^ 10) → xs.length + l.length * 2 ^ 10 < 2 ^ 20 →
    (∀ ys : List Str, (∀ x, x ∈ ys ↔ x ∈ xs ∨ ∃ p ∈ l, p.2.fr x) → ys.length ≤ xs.length + l.length * 2 ^ 10 → k (ys.map .str)) →
    comp2T 9 yesT (.nm 7) (seqI (callT (R_free N) (consA (nameT 9) nilA))) yesT (nameT 7) [7] [s0, s1, s2, s3, s4, s5, s6, s7, s8, s9] (l.map fun p => p.2.toD) (xs.map .str) k
  | [], xs, _, _, h => h xs (fun x => by simp) (by simp)
  | p :: l, xs, hp, hl, h => by
    rw [List.length_cons] at hl
    obtain ⟨q1, q2, q3⟩ := hp p List.mem_cons_self
    simp only [List.map_cons, comp2T, yesT, if_true, List.set_cons_succ, List.set_cons_zero]
    refine ⟨p.2, rfl, q1, q2, by omega, fun ns hns hnl _ => ?_⟩
    refine compB_strs (s0 := s0) (s1 := s1) (s2 := s2) (s3 := s3) (s4 := s4) (s5 := s5) (s6 := s6) (s7 := .un) (s8 := s8) (s9 := .dat p.2.toD) (by omega) ?_
    refine caught_ok (fun p' h' => hp p' (List.mem_cons_of_mem _ h')) (by rw [List.length_append]; omega) fun ys hy hyl => h ys (fun x => ?_) (by rw [List.length_cons]; rw [List.length_append] at hyl; omega)
    rw [hy, List.mem_append, hns]
    constructor
    · rintro ((a | b) | ⟨p', a, b⟩)
      · exact .inl a
      · exact .inr ⟨p, List.mem_cons_self, b⟩
      · exact .inr ⟨p', List.mem_cons_of_mem _ a, b⟩
    · rintro (a | ⟨p', a, b⟩)
      · exact .inl (.inl a)
      · rcases List.mem_cons.mp a with rfl | a
        · exact .inl (.inr b)
        · exact .inr ⟨p', a, b⟩
/-! ### codes put for names -/
/-- what is told of each code put in -/
structure PutOk (n : Nat) (ps : List (Str × Code)) (m z : Nat) (c c' : Code) : Prop where
  eq : c' = putF n c (lk ps)
  ok : c'.ok
  sem : ∀ (X : Type) (A : Alg X) (s : Str → X), c'.sem A s = c.sem A (putsE A s (lk ps))
  dp : c'.dp ≤ c.dp + m
  size : c'.size ≤ c.size * z
def R_put (N n : Nat) : RD := fun ds k => ∃ (c : Code) (ps : List (Str × Code)) (m z : Nat), ds = [c.toD, .dic false (pD ps)] ∧ c.ok ∧ c.dp ≤ n ∧ c.dp ≤ N ∧ c.size < 2 ^ 10 ∧ (ps.map (·.1)).Nodup ∧ ps.length < 2 ^ 5 ∧ (∀ p ∈ ps, wOk p.1 = true ∧ p.2.ok ∧ p.2.dp ≤ N ∧ p.2.size < 2 ^ 10) ∧
  (∀ p ∈ ps, p.2.dp ≤ m + 1 ∧ p.2.size ≤ z) ∧ 1 ≤ z ∧ ∀ c' : Code, PutOk n ps m z c c' → k c'.toD
theorem re_ok {c : Code} {cs : List Code} (h : c.ok) (hl : cs.length = c.kids.length) (hc : Code.oks cs) : (c.re cs).ok := by
  cases c with
  | nm y => exact h
  | gv y => exact h
  | ite a b c d =>
    match cs, hl with
    | [a', b', c', d'], _ => simp only [Code.re, Code.ok, Code.oks, and_true] at hc ⊢; exact hc
  | wth y a b =>
    match cs, hl with
    | [a', b'], _ => simp only [Code.re, Code.ok, Code.oks, and_true] at h hc ⊢; exact ⟨h.1, hc⟩
  | app w f ds => simp only [Code.re, Code.ok] at h ⊢; exact ⟨h.1, hc⟩
/-- kids changed one by one, each as f says -/
theorem re_dp {c : Code} {cs : List Code} {m : Nat} (hl : cs.length = c.kids.length) (h : ∀ (i : Nat) (d e : Code), c.kids[i]? = some d → cs[i]? = some e → e.dp ≤ d.dp + m) : (c.re cs).dp ≤ c.dp + m := by
  have dps : ∀ {ds es : List Code}, es.length = ds.length → (∀ (i : Nat) (d e : Code), ds[i]? = some d → es[i]? = some e → e.dp ≤ d.dp + m) → Code.dps es ≤ Code.dps ds + m := by
    intro ds
    induction ds with
    | nil => intro es hl h; cases es with
      | nil => simp [Code.dps]
      | cons => simp at hl
    | cons d ds ih =>
      intro es hl h
      cases es with
      | nil => simp at hl
      | cons e es =>
        have h1 := ih (es := es) (by simpa using hl) fun i d' e' a b => h (i + 1) d' e' (by simpa using a) (by simpa using b)
        have h2 := h 0 d e rfl rfl
        simp only [Code.dps]; omega
  cases c with
  | nm y => simp only [Code.re]; omega
  | gv y => simp only [Code.re]; omega
  | ite a b c d =>
    match cs, hl with
    | [a', b', c', d'], _ =>
      have h0 := h 0 a a' rfl rfl; have h1 := h 1 b b' rfl rfl; have h2 := h 2 c c' rfl rfl; have h3 := h 3 d d' rfl rfl
      simp only [Code.re, Code.dp]; omega
  | wth y a b =>
    match cs, hl with
    | [a', b'], _ =>
      have h0 := h 0 a a' rfl rfl; have h1 := h 1 b b' rfl rfl
      simp only [Code.re, Code.dp]; omega
  | app w f ds =>
    have := dps (ds := ds) hl h
    simp only [Code.re, Code.dp]; omega
theorem re_size {c : Code} {cs : List Code} {z : Nat} (hz : 1 ≤ z) (hl : cs.length = c.kids.length) (h : ∀ (i : Nat) (d e : Code), c.kids[i]? = some d → cs[i]? = some e → e.size ≤ d.size * z) : (c.re cs).size ≤ c.size * z := by
  have szs : ∀ {ds es : List Code}, es.length = ds.length → (∀ (i : Nat) (d e : Code), ds[i]? = some d → es[i]? = some e → e.size ≤ d.size * z) → Code.sizes es ≤ Code.sizes ds * z := by
    intro ds
    induction ds with
    | nil => intro es hl h; cases es with
      | nil => simp [Code.sizes]
      | cons => simp at hl
    | cons d ds ih =>
      intro es hl h
      cases es with
      | nil => simp at hl
      | cons e es =>
        have h1 := ih (es := es) (by simpa using hl) fun i d' e' a b => h (i + 1) d' e' (by simpa using a) (by simpa using b)
        have h2 := h 0 d e rfl rfl
        simp only [Code.sizes, Nat.add_mul]; omega
  cases c with
  | nm y => simp only [Code.re, Code.size]; omega
  | gv y => simp only [Code.re, Code.size]; omega
  | ite a b c d =>
    match cs, hl with
    | [a', b', c', d'], _ =>
      have h0 := h 0 a a' rfl rfl; have h1 := h 1 b b' rfl rfl; have h2 := h 2 c c' rfl rfl; have h3 := h 3 d d' rfl rfl
      simp only [Code.re, Code.size, Nat.add_mul]; omega
  | wth y a b =>
    match cs, hl with
    | [a', b'], _ =>
      have h0 := h 0 a a' rfl rfl; have h1 := h 1 b b' rfl rfl
      simp only [Code.re, Code.size, Nat.add_mul]; omega
  | app w f ds =>
    have := szs (ds := ds) hl h
    simp only [Code.re, Code.size, Nat.add_mul]; omega
theorem re_sem {X : Type} {A : Alg X} {c : Code} {cs : List Code} {s t : Str → X} (h1 : ∀ x a b, c ≠ .wth x a b) (h2 : ∀ x, c ≠ .nm x) (hl : cs.length = c.kids.length) (h : ∀ (i : Nat) (d e : Code), c.kids[i]? = some d → cs[i]? = some e → e.sem A s = d.sem A t) : (c.re cs).sem A s = c.sem A t := by
  have outs : ∀ {ds es : List Code}, es.length = ds.length → (∀ (i : Nat) (d e : Code), ds[i]? = some d → es[i]? = some e → e.sem A s = d.sem A t) → Code.sems A es s = Code.sems A ds t := by
    intro ds
    induction ds with
    | nil => intro es hl h; cases es with
      | nil => simp only [Code.sems]
      | cons => simp at hl
    | cons d ds ih =>
      intro es hl h
      cases es with
      | nil => simp at hl
      | cons e es =>
        simp only [Code.sems]
        rw [h 0 d e rfl rfl, ih (es := es) (by simpa using hl) fun i d' e' a b => h (i + 1) d' e' (by simpa using a) (by simpa using b)]
  cases c with
  | nm y => exact absurd rfl (h2 y)
  | gv y => simp only [Code.re, Code.sem]
  | ite a b c d =>
    match cs, hl with
    | [a', b', c', d'], _ =>
      simp only [Code.re, Code.sem]
      rw [h 0 a a' rfl rfl, h 1 b b' rfl rfl, h 2 c c' rfl rfl, h 3 d d' rfl rfl]
  | wth x a b => exact absurd rfl (h1 x a b)
  | app w f ds =>
    simp only [Code.re, Code.sem]
    rw [outs (ds := ds) hl h]
end K15

set_option Elab.async false
set_option linter.all false
set_option maxRecDepth 100000
set_option maxHeartbeats 4000000
namespace K15
open PySem L2 DL
local macro_rules | `(tactic| walk_at "dl") => `(tactic| simp only [Tr.toD, toDs_d, map_snoc, map_ins, treeT, seqT, iffT, setT, retT, nextT, retN, blT, DL.binT, nameT, cT, bagT, cutBT, putBT, augBT, consA, nilA, callT, ofF, lstF, lstR, tupT, eqD, neD, inD, notInD, someO, noneO, slT, revF, endD, enterS, ifT, andT, orT, notT, andB, orB, notB, truT, newT, mT, thruT, thruB, frzT, putT, parT, tgtT, methT, onT, isStr, isLst, getT, starA, negT, dropT, breakT, contT, tgD, putA, seqI, rng1I, enumI, zipI, forT, lcF, wipeS,
  addD_ii, addD_ib, addD_ss, addD_ll, addD_tt, subD_ii, mulD_ii, mulD_li, fdivD_ii, modD_ii, cmpI_ii, eqB_ss, eqB_ii, eqB_bb, eqB_tt, eqB_ll, inB_l, inB_t, ixD_l, ixD_t, ixD_s, slD_l, slD_t, truD_b, truD_i, truD_n, truD_s, truD_l, truD_t, intR_i, intR_b, lenR_s, lenR_l, lenR_t, absR_i, minR_ii, maxR_ii, tupR_l, tupR_t, appD_1, insD_1, extD_1, splitM_1, optK_some, atI_0, atI_1, atI_2, atI_3, atI_4, cutL_1, cutL_2, cutL_t1, cutL_t2,
  List.map_cons, List.map_nil, List.replicate_succ, List.replicate_zero, List.cons_append, List.nil_append, List.length_cons, List.length_nil, List.set_cons_zero, List.set_cons_succ, List.getElem?_cons_zero, List.getElem?_cons_succ, List.drop_succ_cons, List.drop_zero, List.take_succ_cons, List.take_zero, true_and, and_true, true_or, or_true, decide_eq_true_eq, reduceCtorEq, if_true, if_false, ite_true, ite_false, D.int.injEq, Nat.reduceAdd, Nat.reduceSub, Int.reduceSub, Int.reduceAdd, Int.reduceNeg, Bool.false_eq_true, Bool.true_eq_false, decide_true, decide_false, Bool.not_true, Bool.not_false, Bool.not_eq_true', decide_eq_false_iff_not])
local macro_rules | `(tactic| walk_at "di") => `(tactic| simp only [isiT, chainT, e0D, ixO, parO, parS, disp1T, emptyT, getT2, lookD, keyD, keyT, keysD, valD, valQ, dixT, listKR, itemsF, keysI, valsI, itemsI, dputK, newR, emptyR, augI, whileT, dcT, lc2F, Tr.toEs, Bool.or_true, Bool.or_false, Bool.true_or, Bool.false_or, isi2T, inSg, notInSg, tabT, List.isEmpty_nil, List.isEmpty_cons, ib_int_NoneType, ib_int_bool, ib_int_int, ib_int_str, ib_int_list, ib_int_tuple, ib_int_dict, ib_bool_NoneType, ib_bool_bool, ib_bool_int, ib_bool_str, ib_bool_list, ib_bool_tuple, ib_bool_dict, ib_str_NoneType, ib_str_bool, ib_str_int, ib_str_str, ib_str_list, ib_str_tuple, ib_str_dict, ib_list_NoneType, ib_list_bool, ib_list_int, ib_list_str, ib_list_list, ib_list_tuple, ib_list_dict, ib_tuple_NoneType, ib_tuple_bool, ib_tuple_int, ib_tuple_str, ib_tuple_list, ib_tuple_tuple, ib_tuple_dict])
local macro_rules | `(tactic| walk_at "dx") => `(tactic| ((try walk_at "dl"); (try walk_at "di"); (try walk_at "dl"); (try walk_at "di"); (try walk_at "dl")))
local macro_rules | `(tactic| walk_at "cd") => `(tactic| simp only [Code.toD, Code.toDs, Code.kids, List.any_cons, List.any_nil, D.py, PyData.eqv, beq_iff_eq, Bool.or_false, Bool.or_eq_true, Bool.or_eq_false_iff, or_false, false_or, q_name_given, q_name_if, q_name_with, q_name_work, q_name_call, q_name_bound, q_given_name, q_given_if, q_given_with, q_given_work, q_given_call, q_given_bound, q_if_name, q_if_given, q_if_with, q_if_work, q_if_call, q_if_bound, q_with_name, q_with_given, q_with_if, q_with_work, q_with_call, q_with_bound, q_work_name, q_work_given, q_work_if, q_work_with, q_work_call, q_work_bound, q_call_name, q_call_given, q_call_if, q_call_with, q_call_work, q_call_bound, q_bound_name, q_bound_given, q_bound_if, q_bound_with, q_bound_work, q_bound_call, in_name, in_given, in_if, in_with, in_work, in_call])
local macro_rules | `(tactic| walk_at "ce") => `(tactic| (walk_at "cd"; walk_at "dl"; (try walk_at "cd"); (try walk_at "dl"); (try walk_at "cd")))
theorem comp_kids {i : Nat} {te : TD} {ρ : List Sl} {P : Code → D → Prop} {k : List D → Prop} : ∀ {cs : List Code} {acc : List D}, (∀ c ∈ cs, ∀ κ : D → Prop, (∀ e, P c e → κ e) → te (ρ.set i (.dat c.toD)) κ) →
    (∀ es : List D, es.length = cs.length → (∀ (j : Nat) (c : Code), cs[j]? = some c → ∃ e, es[j]? = some e ∧ P c e) → k (acc ++ es)) → compT (.nm i) yesT te ρ (Code.toDs cs) acc k
  | [], acc, _, hk => by
    have h := hk [] rfl (fun j c h => nomatch (show (none : Option Code) = some c by simpa using h))
    rw [List.append_nil] at h
    simp only [Code.toDs]
    exact h
  | c :: cs, acc, hd, hk => by
    simp only [Code.toDs]
    show te (ρ.set i (.dat c.toD)) fun e => compT (.nm i) yesT te ρ (Code.toDs cs) (acc ++ [e]) k
    refine hd c List.mem_cons_self _ fun e he => ?_
    refine comp_kids (P := P) (fun d h => hd d (List.mem_cons_of_mem _ h)) fun es hl h => ?_
    rw [List.append_assoc]
    refine hk (e :: es) (by simp [hl]) fun j d hj => ?_
    cases j with
    | zero =>
      obtain rfl : c = d := by simpa using hj
      exact ⟨e, rfl, he⟩
    | succ j => exact h j d (by simpa using hj)
theorem kids_out {P : Code → Code → Prop} : ∀ {cs : List Code} {es : List D}, es.length = cs.length → (∀ (j : Nat) (c : Code), cs[j]? = some c → ∃ e, es[j]? = some e ∧ ∃ c' : Code, e = c'.toD ∧ P c c') →
    ∃ cs', es = Code.toDs cs' ∧ cs'.length = cs.length ∧ ∀ (j : Nat) (c c' : Code), cs[j]? = some c → cs'[j]? = some c' → P c c'
  | [], [], _, _ => ⟨[], by simp only [Code.toDs], rfl, fun j c c' h => by simp at h⟩
  | c :: cs, e :: es, hl, h => by
    obtain ⟨cs', e1, e2, e3⟩ := kids_out (P := P) (cs := cs) (es := es) (by simpa using hl) fun j d hj => h (j + 1) d (by simpa using hj)
    obtain ⟨e', h1, c', rfl, h2⟩ := h 0 c rfl
    obtain rfl : e = c'.toD := by simpa using h1
    refine ⟨c' :: cs', by simp only [Code.toDs, e1], by simp [e2], fun j d d' a b => ?_⟩
    cases j with
    | zero =>
      obtain rfl : c = d := by simpa using a
      obtain rfl : c' = d' := by simpa using b
      exact h2
    | succ j => exact e3 j d d' (by simpa using a) (by simpa using b)
  | [], e :: es, hl, _ => by simp at hl
  | c :: cs, [], hl, _ => by simp at hl
theorem t_hdN {c : Code} {ρ : List Sl} {w : Str} {kb : Bool → Prop} (h : ρ[0]? = some (.dat c.toD)) (q : kb (!decide (c.hd = w))) : blT (DL.binT neD (DL.binT ixD (nameT 0) (cT (.int 0))) (cT (.str w))) ρ kb := by
  obtain ⟨ds, e⟩ := hd_at c
  rw [e] at h
  simp only [blT, DL.binT, nameT, h, cT, ixD_t, atI_0, optK_some, neD, eqB_ss]
  exact q
theorem t_nm1 {y : Str} {ρ : List Sl} {k : D → Prop} (h : ρ[0]? = some (.dat (Code.nm y).toD)) (q : k (.str y)) : DL.binT ixD (nameT 0) (cT (.int 1)) ρ k := by
  simp only [Code.toD] at h
  simp only [DL.binT, nameT, h, cT, ixD_t, atI_1, optK_some]; exact q
end K15

set_option Elab.async false
set_option linter.all false
set_option maxRecDepth 100000
set_option maxHeartbeats 4000000
namespace K15
open PySem L2 DL
local macro_rules | `(tactic| walk_at "dl") => `(tactic| simp only [Tr.toD, toDs_d, map_snoc, map_ins, treeT, seqT, iffT, setT, retT, nextT, retN, blT, DL.binT, nameT, cT, bagT, cutBT, putBT, augBT, consA, nilA, callT, ofF, lstF, lstR, tupT, eqD, neD, inD, notInD, someO, noneO, slT, revF, endD, enterS, ifT, andT, orT, notT, andB, orB, notB, truT, newT, mT, thruT, thruB, frzT, putT, parT, tgtT, methT, onT, isStr, isLst, getT, starA, negT, dropT, breakT, contT, tgD, putA, seqI, rng1I, enumI, zipI, forT, lcF, wipeS,
  addD_ii, addD_ib, addD_ss, addD_ll, addD_tt, subD_ii, mulD_ii, mulD_li, fdivD_ii, modD_ii, cmpI_ii, eqB_ss, eqB_ii, eqB_bb, eqB_tt, eqB_ll, inB_l, inB_t, ixD_l, ixD_t, ixD_s, slD_l, slD_t, truD_b, truD_i, truD_n, truD_s, truD_l, truD_t, intR_i, intR_b, lenR_s, lenR_l, lenR_t, absR_i, minR_ii, maxR_ii, tupR_l, tupR_t, appD_1, insD_1, extD_1, splitM_1, optK_some, atI_0, atI_1, atI_2, atI_3, atI_4, cutL_1, cutL_2, cutL_t1, cutL_t2,
  List.map_cons, List.map_nil, List.replicate_succ, List.replicate_zero, List.cons_append, List.nil_append, List.length_cons, List.length_nil, List.set_cons_zero, List.set_cons_succ, List.getElem?_cons_zero, List.getElem?_cons_succ, List.drop_succ_cons, List.drop_zero, List.take_succ_cons, List.take_zero, true_and, and_true, true_or, or_true, decide_eq_true_eq, reduceCtorEq, if_true, if_false, ite_true, ite_false, D.int.injEq, Nat.reduceAdd, Nat.reduceSub, Int.reduceSub, Int.reduceAdd, Int.reduceNeg, Bool.false_eq_true, Bool.true_eq_false, decide_true, decide_false, Bool.not_true, Bool.not_false, Bool.not_eq_true', decide_eq_false_iff_not])
local macro_rules | `(tactic| walk_at "di") => `(tactic| simp only [isiT, chainT, e0D, ixO, parO, parS, disp1T, emptyT, getT2, lookD, keyD, keyT, keysD, valD, valQ, dixT, listKR, itemsF, keysI, valsI, itemsI, dputK, newR, emptyR, augI, whileT, dcT, lc2F, Tr.toEs, Bool.or_true, Bool.or_false, Bool.true_or, Bool.false_or, isi2T, inSg, notInSg, tabT, List.isEmpty_nil, List.isEmpty_cons, ib_int_NoneType, ib_int_bool, ib_int_int, ib_int_str, ib_int_list, ib_int_tuple, ib_int_dict, ib_bool_NoneType, ib_bool_bool, ib_bool_int, ib_bool_str, ib_bool_list, ib_bool_tuple, ib_bool_dict, ib_str_NoneType, ib_str_bool, ib_str_int, ib_str_str, ib_str_list, ib_str_tuple, ib_str_dict, ib_list_NoneType, ib_list_bool, ib_list_int, ib_list_str, ib_list_list, ib_list_tuple, ib_list_dict, ib_tuple_NoneType, ib_tuple_bool, ib_tuple_int, ib_tuple_str, ib_tuple_list, ib_tuple_tuple, ib_tuple_dict])
local macro_rules | `(tactic| walk_at "dx") => `(tactic| ((try walk_at "dl"); (try walk_at "di"); (try walk_at "dl"); (try walk_at "di"); (try walk_at "dl")))
local macro_rules | `(tactic| walk_at "cd") => `(tactic| simp only [Code.toD, Code.toDs, Code.kids, List.any_cons, List.any_nil, D.py, PyData.eqv, beq_iff_eq, Bool.or_false, Bool.or_eq_true, Bool.or_eq_false_iff, or_false, false_or, q_name_given, q_name_if, q_name_with, q_name_work, q_name_call, q_name_bound, q_given_name, q_given_if, q_given_with, q_given_work, q_given_call, q_given_bound, q_if_name, q_if_given, q_if_with, q_if_work, q_if_call, q_if_bound, q_with_name, q_with_given, q_with_if, q_with_work, q_with_call, q_with_bound, q_work_name, q_work_given, q_work_if, q_work_with, q_work_call, q_work_bound, q_call_name, q_call_given, q_call_if, q_call_with, q_call_work, q_call_bound, q_bound_name, q_bound_given, q_bound_if, q_bound_with, q_bound_work, q_bound_call, in_name, in_given, in_if, in_with, in_work, in_call])
local macro_rules | `(tactic| walk_at "ce") => `(tactic| (walk_at "cd"; walk_at "dl"; (try walk_at "cd"); (try walk_at "dl"); (try walk_at "cd")))
/-! ### a with: names that would be caught get other words -/
theorem puts_same {X : Type} {A : Alg X} {P : Str → Option Code} {y : Str} {b : Code} {s : Str → X} {v : X} (hy : ¬ caughtBy (leftOf P y b) y) :
    b.sem A (putsE A (setV s y v) (leftOf P y b)) = b.sem A (setV (putsE A s P) y v) := by
  refine sem_congr A b _ _ fun x hx => ?_
  by_cases e : x = y
  · subst e
    have : leftOf P x b x = none := by unfold leftOf; rw [if_neg (fun z => z.1 rfl)]
    simp only [putsE, this, setV, if_true]
  · have q : leftOf P y b x = P x := by unfold leftOf; rw [if_pos ⟨e, hx⟩]
    simp only [putsE, setV, q, if_neg e]
    cases q2 : P x with
    | none => rfl
    | some d =>
      refine sem_congr A d _ _ fun v hv => ?_
      unfold setV
      rw [if_neg (fun z : v = y => hy ⟨x, d, q.trans q2, z ▸ hv⟩)]
theorem puts_other {X : Type} {A : Alg X} {P : Str → Option Code} {y w : Str} {b : Code} {s : Str → X} {v : X} (hw : ¬ caughtBy (leftOf P y b) w) (hwb : ¬ b.fr w) :
    b.sem A (putsE A (putsE A (setV s w v) (leftOf P y b)) (fun x => if y = x then some (.nm w) else none)) = b.sem A (setV (putsE A s P) y v) := by
  refine sem_congr A b _ _ fun x hx => ?_
  have lw : leftOf P y b w = none := by unfold leftOf; rw [if_neg (fun z => hwb z.2)]
  by_cases e : x = y
  · subst e
    simp only [putsE, if_true, setV, Code.sem, lw]
  · have e' : ¬ y = x := fun z => e z.symm
    have q : leftOf P y b x = P x := by unfold leftOf; rw [if_pos ⟨e, hx⟩]
    have xw : x ≠ w := fun z => hwb (z ▸ hx)
    simp only [putsE, if_neg e', setV, q, if_neg e]
    cases q2 : P x with
    | none => simp only [if_neg xw]
    | some d =>
      refine sem_congr A d _ _ fun v hv => ?_
      unfold setV
      rw [if_neg (fun z : v = w => hw ⟨x, d, q.trans q2, z ▸ hv⟩)]
theorem PutOk.wth {n : Nat} {ps : List (Str × Code)} {m z : Nat} {y w : Str} {a b a' b' : Code} (he : Code.wth w a' b' = putF (n + 1) (.wth y a b) (lk ps)) (hz : 1 ≤ z) (ha : PutOk n ps m z a a') (hb : b'.ok) (hw : wOk w = true) (hd : b'.dp ≤ b.dp + m) (hs : b'.size ≤ b.size * z)
    (ho : ∀ (X : Type) (A : Alg X) (s : Str → X) (v : X), b'.sem A (setV s w v) = b.sem A (setV (putsE A s (lk ps)) y v)) : PutOk (n + 1) ps m z (.wth y a b) (.wth w a' b') := by
  refine ⟨he, by simp only [Code.ok]; exact ⟨hw, ha.ok, hb⟩, fun X A s => ?_, ?_, ?_⟩
  · simp only [Code.sem]
    rw [ha.sem]
    congr 1
    funext v
    exact ho X A s v
  · have := ha.dp
    simp only [Code.dp]; omega
  · have := ha.size
    simp only [Code.size, Nat.add_mul]; omega
abbrev wthT (N n : Nat) : TSD := (seqT (setT 4 (dcT (.nm 8) (keysI (nameT 1)) (andB (blT (DL.binT neD (nameT 8) (nameT 2))) (blT (DL.binT inD (nameT 8) (callT (R_free N) (consA (nameT 3) nilA))))) (nameT 8) (dixT (nameT 1) (nameT 8)) [8]))
    (seqT (setT 5 (ofF (lc2F 9 (valsI (nameT 4)) yesT (.nm 7) (seqI (callT (R_free N) (consA (nameT 9) nilA))) yesT (nameT 7) [9, 7] [7])))
    (seqT (iffT (blT (DL.binT inD (nameT 2) (nameT 5))) (seqT (setT 6 (callT R_fresh (consA (ofF (lstF (starA (nameT 5) (starA (callT (R_free N) (consA (nameT 3) nilA)) nilA)))) nilA)))
    (tgtT (.tp [3, 2]) (tupT (consA (callT (R_put N n) (consA (nameT 3) (consA (disp1T (nameT 2) (tupT (consA (cT (.str "name")) (consA (nameT 6) nilA)))) nilA))) (consA (nameT 6) nilA))))) nextT)
    (retT (tupT (consA (cT (.str "with")) (consA (nameT 2) (consA (callT (R_put N n) (consA (DL.binT ixD (nameT 0) (cT (.int 2))) (consA (nameT 1) nilA))) (consA (callT (R_put N n) (consA (nameT 3) (consA (nameT 4) nilA))) nilA)))))))))
theorem put_wth {N n : Nat} {y : Str} {a b : Code} {ps : List (Str × Code)} {m z : Nat} {κ : D → Prop} (ho : (Code.wth y a b).ok) (hn : (Code.wth y a b).dp ≤ n + 1) (hN : (Code.wth y a b).dp ≤ N) (hN1 : 1 ≤ N) (hsz : (Code.wth y a b).size < 2 ^ 10) (hnd : (ps.map (·.1)).Nodup) (hpl : ps.length < 2 ^ 5)
    (hp : ∀ p ∈ ps, wOk p.1 = true ∧ p.2.ok ∧ p.2.dp ≤ N ∧ p.2.size < 2 ^ 10) (hb : ∀ p ∈ ps, p.2.dp ≤ m + 1 ∧ p.2.size ≤ z) (hz : 1 ≤ z) (h : ∀ c' : Code, PutOk (n + 1) ps m z (.wth y a b) c' → κ c'.toD) :
    wthT N n (endD κ) [.dat (.tup [.str "with", .str y, a.toD, b.toD]), .dat (.dic false (pD ps)), .dat (.str y), .dat b.toD, .un, .un, .un, .un, .un, .un] := by
  have hs : sizeLine = 16777216 := sizeLine_eq
  simp only [Code.ok] at ho
  simp only [Code.dp] at hn hN
  simp only [Code.size] at hsz
  have e1 : (pD ps).map Prod.fst = ps.map fun p => D.str p.1 := by rw [List.map_map]; rfl
  refine ⟨pD ps, rfl, ?_⟩
  rw [e1]
  refine dcomp_pD (P := fun x => x ≠ y ∧ b.fr x) (fun _ _ _ _ => True.intro) (done := []) (l := []) (fun p hp' kb k1 k2 => ?_) (fun p hp' κ' k1 => k1) (fun p hp' κ' k1 => ?_) (by simpa using hnd) (by simp; omega) (fun p hp' => nomatch hp') (fun x _ => rfl) List.nodup_nil (Nat.le_refl _) fun l l1 l2 l3 l4 => ?_
  · have hpy : wOk p.1 = true := (hp p hp').1
    simp only [wipeS, List.set_cons_succ, List.set_cons_zero]
    walk_at "dl"
    by_cases e : p.1 = y
    · exact ite_f (fun z => z e) (k2 fun z => z.1 e)
    · refine ite_t e ⟨b, rfl, ho.2.2, by omega, by omega, fun xs hx hxl _ => ?_⟩
      walk_at "dl"
      have gx : Good xs := fun w hw => ok_name ho.2.2 ((hx w).mp hw)
      refine ⟨in_strs hpy gx, ?_⟩
      have q := any_strs p.1 xs
      by_cases hm : p.1 ∈ xs
      · rw [show ((xs.map D.str).any fun z => z.py.eqv (D.str p.1).py) = true from q.trans (decide_eq_true hm)]
        exact k1 ⟨e, (hx _).mp hm⟩
      · rw [show ((xs.map D.str).any fun z => z.py.eqv (D.str p.1).py) = false from q.trans (decide_eq_false hm)]
        exact k2 fun z => hm ((hx _).mpr z.2)
  · refine ⟨pD ps, rfl, ?_⟩
    show optK (keyD (.str p.1)) fun j => optK (valD (pD ps) j) κ'
    refine ⟨.inr p.1, rfl, p.2.toD, ?_, k1⟩
    rw [valD_pD]
    have : lk ps p.1 = some p.2 := lk_of_mem hnd hp'
    rw [this]; rfl
  · simp only [List.nil_append] at l1 l2 l4
    have e2 : (pD l).map Prod.snd = l.map fun p => p.2.toD := by rw [List.map_map]; rfl
    have hl' : ∀ p ∈ l, wOk p.1 = true ∧ p.2.ok ∧ p.2.dp ≤ N ∧ p.2.size < 2 ^ 10 := fun p hp' => hp p (l1 p hp').1
    refine ⟨pD l, rfl, ?_⟩
    rw [e2]
    refine caught_ok (l := l) (xs := []) (fun p hp' => ⟨(hl' p hp').2.1, (hl' p hp').2.2.1, (hl' p hp').2.2.2⟩) (by simp; omega) fun ys hy hyl => ?_
    have gy : Good ys := fun w hw => by
      rcases (hy w).mp hw with z | ⟨p, z, q⟩
      · cases z
      · exact ok_name (hl' p z).2.1 q
    rw [List.length_nil] at hyl
    have lL : lk l = leftOf (lk ps) y b := lk_left l1 l2
    have cL : ∀ v, caughtBy (leftOf (lk ps) y b) v ↔ v ∈ ys := fun v => by
      rw [← lL, caught_lk l3, hy v]; simp
    refine ⟨in_strs ho.1 gy, ?_⟩
    have q := any_strs y ys
    have putA : ∀ (κ' : D → Prop), (∀ a' : Code, PutOk n ps m z a a' → κ' a'.toD) → R_put N n [a.toD, .dic false (pD ps)] κ' := fun κ' hk => ⟨a, ps, m, z, rfl, ho.2.1, by omega, by omega, by omega, hnd, hpl, hp, hb, hz, hk⟩
    have putB : ∀ (b1 : Code) (κ' : D → Prop), b1.ok → b1.dp ≤ b.dp → b1.size ≤ b.size → (∀ b' : Code, PutOk n l m z b1 b' → κ' b'.toD) → R_put N n [b1.toD, .dic false (pD l)] κ' := fun b1 κ' g1 g2 g3 hk => ⟨b1, l, m, z, rfl, g1, by omega, by omega, by omega, l3, by omega, hl', fun p hp' => hb p (l1 p hp').1, hz, hk⟩
    by_cases hm : y ∈ ys
    · refine ite_t (q.trans (decide_eq_true hm)) ?_
      walk_at "dl"
      refine ⟨b, rfl, ho.2.2, by omega, by omega, fun xs hx hxl _ => ?_⟩
      have e3 : (ys.map D.str ++ (xs.map D.str ++ [])) = (ys ++ xs).map .str := by simp
      have gx : Good xs := fun w hw => ok_name ho.2.2 ((hx w).mp hw)
      dsimp only
      rw [e3]
      refine ⟨by rw [List.length_map, List.length_append]; omega, ys ++ xs, rfl, fun w hw => ?_, by rw [List.length_append]; omega, fun t hwo hwn hwi => ?_⟩
      · rcases List.mem_append.mp hw with z | z
        · exact gy w z
        · exact gx w z
      · have hfr : freshN (fun v => caughtBy (leftOf (lk ps) y b) v ∨ b.fr v) = t := freshN_eq (fun z => hwn (List.mem_append.mpr (z.imp (cL _).mp (hx _).mpr))) fun i hi => (List.mem_append.mp (hwi i hi)).imp (cL _).mpr (hx _).mp
        have wy : ¬ caughtBy (leftOf (lk ps) y b) (wd t) := fun z => hwn (List.mem_append_left _ ((cL _).mp z))
        have wx : ¬ b.fr (wd t) := fun z => hwn (List.mem_append_right _ ((hx _).mpr z))
        simp only [disp1T]
        walk_at "dl"
        refine ⟨by omega, rfl, b, [(y, .nm (wd t))], 0, 1, rfl, ho.2.2, by omega, by omega, by omega, by simp, by simp, fun p hp' => ?_, fun p hp' => ?_, Nat.le_refl _, fun b1 hb1 => ⟨by omega, ?_⟩⟩
        · obtain rfl := List.mem_singleton.mp hp'
          exact ⟨ho.1, by simp only [Code.ok]; exact hwo, by simp only [Code.dp]; omega, by simp only [Code.size]; omega⟩
        · obtain rfl := List.mem_singleton.mp hp'
          exact ⟨by simp only [Code.dp]; omega, by simp only [Code.size]; omega⟩
        · have d1 := hb1.dp
          have s1 := hb1.size
          have e1 := hb1.eq
          rw [lk_one] at e1
          refine putA _ fun a' ha => putB b1 _ hb1.ok (by omega) (by omega) fun b' hb' => ⟨by omega, ?_⟩
          refine h (.wth (wd t) a' b') (PutOk.wth ?_ hz ha hb'.ok hwo (by have := hb'.dp; omega) (Nat.le_trans hb'.size (Nat.mul_le_mul_right _ (by omega))) fun X A s v => ?_)
          · rw [putF, if_pos ((cL y).mpr hm), hfr, hb'.eq, e1, ha.eq, lL]
          · rw [hb'.sem, hb1.sem, lk_one, lL]
            exact puts_other wy wx
    · refine ite_f (fun z => hm (of_decide_eq_true (q.symm.trans z))) ?_
      walk_at "dl"
      have nc : ¬ caughtBy (leftOf (lk ps) y b) y := fun z => hm ((cL y).mp z)
      refine putA _ fun a' ha => putB b _ ho.2.2 (Nat.le_refl _) (Nat.le_refl _) fun b' hb' => ⟨by omega, ?_⟩
      refine h (.wth y a' b') (PutOk.wth ?_ hz ha hb'.ok ho.1 hb'.dp hb'.size fun X A s v => ?_)
      · rw [putF, if_neg nc, hb'.eq, ha.eq, lL]
      · rw [hb'.sem, lL]
        exact puts_same nc
end K15

set_option Elab.async false
set_option linter.all false
set_option maxRecDepth 100000
set_option maxHeartbeats 4000000
namespace K15
open PySem L2 DL
local macro_rules | `(tactic| walk_at "dl") => `(tactic| simp only [Tr.toD, toDs_d, map_snoc, map_ins, treeT, seqT, iffT, setT, retT, nextT, retN, blT, DL.binT, nameT, cT, bagT, cutBT, putBT, augBT, consA, nilA, callT, ofF, lstF, lstR, tupT, eqD, neD, inD, notInD, someO, noneO, slT, revF, endD, enterS, ifT, andT, orT, notT, andB, orB, notB, truT, newT, mT, thruT, thruB, frzT, putT, parT, tgtT, methT, onT, isStr, isLst, getT, starA, negT, dropT, breakT, contT, tgD, putA, seqI, rng1I, enumI, zipI, forT, lcF, wipeS,
  addD_ii, addD_ib, addD_ss, addD_ll, addD_tt, subD_ii, mulD_ii, mulD_li, fdivD_ii, modD_ii, cmpI_ii, eqB_ss, eqB_ii, eqB_bb, eqB_tt, eqB_ll, inB_l, inB_t, ixD_l, ixD_t, ixD_s, slD_l, slD_t, truD_b, truD_i, truD_n, truD_s, truD_l, truD_t, intR_i, intR_b, lenR_s, lenR_l, lenR_t, absR_i, minR_ii, maxR_ii, tupR_l, tupR_t, appD_1, insD_1, extD_1, splitM_1, optK_some, atI_0, atI_1, atI_2, atI_3, atI_4, cutL_1, cutL_2, cutL_t1, cutL_t2,
  List.map_cons, List.map_nil, List.replicate_succ, List.replicate_zero, List.cons_append, List.nil_append, List.length_cons, List.length_nil, List.set_cons_zero, List.set_cons_succ, List.getElem?_cons_zero, List.getElem?_cons_succ, List.drop_succ_cons, List.drop_zero, List.take_succ_cons, List.take_zero, true_and, and_true, true_or, or_true, decide_eq_true_eq, reduceCtorEq, if_true, if_false, ite_true, ite_false, D.int.injEq, Nat.reduceAdd, Nat.reduceSub, Int.reduceSub, Int.reduceAdd, Int.reduceNeg, Bool.false_eq_true, Bool.true_eq_false, decide_true, decide_false, Bool.not_true, Bool.not_false, Bool.not_eq_true', decide_eq_false_iff_not])
local macro_rules | `(tactic| walk_at "di") => `(tactic| simp only [isiT, chainT, e0D, ixO, parO, parS, disp1T, emptyT, getT2, lookD, keyD, keyT, keysD, valD, valQ, dixT, listKR, itemsF, keysI, valsI, itemsI, dputK, newR, emptyR, augI, whileT, dcT, lc2F, Tr.toEs, Bool.or_true, Bool.or_false, Bool.true_or, Bool.false_or, isi2T, inSg, notInSg, tabT, List.isEmpty_nil, List.isEmpty_cons, ib_int_NoneType, ib_int_bool, ib_int_int, ib_int_str, ib_int_list, ib_int_tuple, ib_int_dict, ib_bool_NoneType, ib_bool_bool, ib_bool_int, ib_bool_str, ib_bool_list, ib_bool_tuple, ib_bool_dict, ib_str_NoneType, ib_str_bool, ib_str_int, ib_str_str, ib_str_list, ib_str_tuple, ib_str_dict, ib_list_NoneType, ib_list_bool, ib_list_int, ib_list_str, ib_list_list, ib_list_tuple, ib_list_dict, ib_tuple_NoneType, ib_tuple_bool, ib_tuple_int, ib_tuple_str, ib_tuple_list, ib_tuple_tuple, ib_tuple_dict])
local macro_rules | `(tactic| walk_at "dx") => `(tactic| ((try walk_at "dl"); (try walk_at "di"); (try walk_at "dl"); (try walk_at "di"); (try walk_at "dl")))
local macro_rules | `(tactic| walk_at "cd") => `(tactic| simp only [Code.toD, Code.toDs, Code.kids, List.any_cons, List.any_nil, D.py, PyData.eqv, beq_iff_eq, Bool.or_false, Bool.or_eq_true, Bool.or_eq_false_iff, or_false, false_or, q_name_given, q_name_if, q_name_with, q_name_work, q_name_call, q_name_bound, q_given_name, q_given_if, q_given_with, q_given_work, q_given_call, q_given_bound, q_if_name, q_if_given, q_if_with, q_if_work, q_if_call, q_if_bound, q_with_name, q_with_given, q_with_if, q_with_work, q_with_call, q_with_bound, q_work_name, q_work_given, q_work_if, q_work_with, q_work_call, q_work_bound, q_call_name, q_call_given, q_call_if, q_call_with, q_call_work, q_call_bound, q_bound_name, q_bound_given, q_bound_if, q_bound_with, q_bound_work, q_bound_call, in_name, in_given, in_if, in_with, in_work, in_call])
local macro_rules | `(tactic| walk_at "ce") => `(tactic| (walk_at "cd"; walk_at "dl"; (try walk_at "cd"); (try walk_at "dl"); (try walk_at "cd")))
theorem p_put_all (N n : Nat) : ∀ ds κ, R_put N (n + 1) ds κ → t_put_all R_in (R_put N n) R_withc (R_free N) R_fresh (endD κ) (enterS 10 ds) := by
  have hs : sizeLine = 16777216 := sizeLine_eq
  rintro ds κ ⟨c, ps, m, z, rfl, ho, hn, hN, hsz, hnd, hpl, hp, hb, hz1, h⟩
  unfold t_put_all
  by_cases hc : ∃ y, c = .nm y
  · obtain ⟨y, rfl⟩ := hc
    refine t_hd (c := .nm y) rfl ?_
    rw [decide_eq_true (show (Code.nm y).hd = "name" from rfl), if_pos rfl]
    refine ⟨false, pD ps, rfl, ?_⟩
    have fin : ∀ c' : Code, PutOk (n + 1) ps m z (.nm y) c' → κ c'.toD := h
    refine t_nm1 (y := y) rfl ?_
    show lookD false (pD ps) (.str y) fun o => κ (o.getD (Code.nm y).toD)
    refine ⟨.inr y, rfl, ?_⟩
    show κ ((valD (pD ps) (.inr y)).getD (Code.nm y).toD)
    rw [valD_pD]
    cases hl : lk ps y with
    | none => exact fin (.nm y) ⟨by simp only [putF, hl]; rfl, ho, fun X A s => by simp only [Code.sem, putsE, hl], by simp only [Code.dp]; omega, by simp only [Code.size]; omega⟩
    | some d =>
      have hm := lk_mem hl
      have h1 := hp _ hm
      have h2 := hb _ hm
      exact fin d ⟨by simp only [putF, hl]; rfl, h1.2.1, fun X A s => by simp only [Code.sem, putsE, hl], by simp only [Code.dp]; have := h2.1; dsimp only at this; omega, by simp only [Code.size]; have := h2.2; dsimp only at this; omega⟩
  · have hc' : ∀ y, c ≠ .nm y := fun y e => hc ⟨y, e⟩
    refine t_hd (c := c) rfl ?_
    rw [decide_eq_false (hd_name hc')]
    by_cases hw : ∃ y a b, c = .wth y a b
    · obtain ⟨y, a, b, rfl⟩ := hw
      have fin := put_wth (κ := κ) (N := N) (n := n) ho hn hN (by simp only [Code.dp] at hN; omega) hsz hnd hpl hp hb hz1 h
      generalize hT : (seqT (setT 4 _) _ : TSD) = tl
      walk_at "cd"
      walk_at "dl"
      subst hT
      exact ⟨by omega, fin⟩
    · have hw' : ∀ y a b, c ≠ .wth y a b := fun y a b e => hw ⟨y, a, b, e⟩
      rw [if_neg (fun z => Bool.noConfusion z)]
      refine t_hdN (c := c) (ρ := enterS 10 [c.toD, .dic false (pD ps)]) rfl ?_
      rw [decide_eq_false (hd_with hw'), Bool.not_false, if_pos rfl]
      have hlen : c.kids.length < 2 ^ 10 := by
        have := sizes_len c.kids
        have := kids_sizes c
        omega
      refine ⟨c, rfl, by rw [toDs_len]; omega, ?_⟩
      refine comp_kids (i := 7) (P := fun d e => ∃ d' : Code, e = d'.toD ∧ PutOk n ps m z d d') (fun d hd κ' q => ?_) fun es hl hj => ?_
      · have h1 := kids_dp hd
        have h2 := sizes_mem hd
        have h3 := kids_sizes c
        exact ⟨d, ps, m, z, rfl, oks_mem (kids_ok ho) d hd, by omega, by omega, by omega, hnd, hpl, hp, hb, hz1, fun c' a1 => q _ ⟨c', rfl, a1⟩⟩
      · obtain ⟨cs, rfl, cl, cp⟩ := kids_out (P := PutOk n ps m z) hl hj
        refine ⟨c, cs, rfl, cl, by omega, ?_⟩
        have hk : ∀ (i : Nat) (e : Code), cs[i]? = some e → ∃ d, c.kids[i]? = some d ∧ PutOk n ps m z d e := fun i e he => by
          have hi : i < c.kids.length := by rw [← cl]; exact (List.getElem?_eq_some_iff.mp he).1
          exact ⟨c.kids[i], List.getElem?_eq_getElem hi, cp i _ e (List.getElem?_eq_getElem hi) he⟩
        refine h _ ⟨putF_re hw' hc' cl fun i d e a b => (cp i d e a b).eq, re_ok ho cl (oks_of fun e he => ?_), fun X A s => re_sem hw' hc' cl fun i d e a b => (cp i d e a b).sem X A s, re_dp cl fun i d e a b => (cp i d e a b).dp, re_size hz1 cl fun i d e a b => (cp i d e a b).size⟩
        obtain ⟨i, hi⟩ := List.getElem?_of_mem he
        obtain ⟨d, _, q⟩ := hk i e hi
        exact q.ok
end K15

set_option Elab.async false
set_option linter.all false
set_option maxRecDepth 100000
set_option maxHeartbeats 4000000
namespace K15
open PySem L2 DL
local macro_rules | `(tactic| walk_at "dl") => `(tactic| simp only [Tr.toD, toDs_d, map_snoc, map_ins, treeT, seqT, iffT, setT, retT, nextT, retN, blT, DL.binT, nameT, cT, bagT, cutBT, putBT, augBT, consA, nilA, callT, ofF, lstF, lstR, tupT, eqD, neD, inD, notInD, someO, noneO, slT, revF, endD, enterS, ifT, andT, orT, notT, andB, orB, notB, truT, newT, mT, thruT, thruB, frzT, putT, parT, tgtT, methT, onT, isStr, isLst, getT, starA, negT, dropT, breakT, contT, tgD, putA, seqI, rng1I, enumI, zipI, forT, lcF, wipeS,
  addD_ii, addD_ib, addD_ss, addD_ll, addD_tt, subD_ii, mulD_ii, mulD_li, fdivD_ii, modD_ii, cmpI_ii, eqB_ss, eqB_ii, eqB_bb, eqB_tt, eqB_ll, inB_l, inB_t, ixD_l, ixD_t, ixD_s, slD_l, slD_t, truD_b, truD_i, truD_n, truD_s, truD_l, truD_t, intR_i, intR_b, lenR_s, lenR_l, lenR_t, absR_i, minR_ii, maxR_ii, tupR_l, tupR_t, appD_1, insD_1, extD_1, splitM_1, optK_some, atI_0, atI_1, atI_2, atI_3, atI_4, cutL_1, cutL_2, cutL_t1, cutL_t2,
  List.map_cons, List.map_nil, List.replicate_succ, List.replicate_zero, List.cons_append, List.nil_append, List.length_cons, List.length_nil, List.set_cons_zero, List.set_cons_succ, List.getElem?_cons_zero, List.getElem?_cons_succ, List.drop_succ_cons, List.drop_zero, List.take_succ_cons, List.take_zero, true_and, and_true, true_or, or_true, decide_eq_true_eq, reduceCtorEq, if_true, if_false, ite_true, ite_false, D.int.injEq, Nat.reduceAdd, Nat.reduceSub, Int.reduceSub, Int.reduceAdd, Int.reduceNeg, Bool.false_eq_true, Bool.true_eq_false, decide_true, decide_false, Bool.not_true, Bool.not_false, Bool.not_eq_true', decide_eq_false_iff_not])
local macro_rules | `(tactic| walk_at "di") => `(tactic| simp only [isiT, chainT, e0D, ixO, parO, parS, disp1T, emptyT, getT2, lookD, keyD, keyT, keysD, valD, valQ, dixT, listKR, itemsF, keysI, valsI, itemsI, dputK, newR, emptyR, augI, whileT, dcT, lc2F, Tr.toEs, Bool.or_true, Bool.or_false, Bool.true_or, Bool.false_or, isi2T, inSg, notInSg, tabT, List.isEmpty_nil, List.isEmpty_cons, ib_int_NoneType, ib_int_bool, ib_int_int, ib_int_str, ib_int_list, ib_int_tuple, ib_int_dict, ib_bool_NoneType, ib_bool_bool, ib_bool_int, ib_bool_str, ib_bool_list, ib_bool_tuple, ib_bool_dict, ib_str_NoneType, ib_str_bool, ib_str_int, ib_str_str, ib_str_list, ib_str_tuple, ib_str_dict, ib_list_NoneType, ib_list_bool, ib_list_int, ib_list_str, ib_list_list, ib_list_tuple, ib_list_dict, ib_tuple_NoneType, ib_tuple_bool, ib_tuple_int, ib_tuple_str, ib_tuple_list, ib_tuple_tuple, ib_tuple_dict])
local macro_rules | `(tactic| walk_at "dx") => `(tactic| ((try walk_at "dl"); (try walk_at "di"); (try walk_at "dl"); (try walk_at "di"); (try walk_at "dl")))
local macro_rules | `(tactic| walk_at "cd") => `(tactic| simp only [Code.toD, Code.toDs, Code.kids, List.any_cons, List.any_nil, D.py, PyData.eqv, beq_iff_eq, Bool.or_false, Bool.or_eq_true, Bool.or_eq_false_iff, or_false, false_or, q_name_given, q_name_if, q_name_with, q_name_work, q_name_call, q_name_bound, q_given_name, q_given_if, q_given_with, q_given_work, q_given_call, q_given_bound, q_if_name, q_if_given, q_if_with, q_if_work, q_if_call, q_if_bound, q_with_name, q_with_given, q_with_if, q_with_work, q_with_call, q_with_bound, q_work_name, q_work_given, q_work_if, q_work_with, q_work_call, q_work_bound, q_call_name, q_call_given, q_call_if, q_call_with, q_call_work, q_call_bound, q_bound_name, q_bound_given, q_bound_if, q_bound_with, q_bound_work, q_bound_call, in_name, in_given, in_if, in_with, in_work, in_call])
local macro_rules | `(tactic| walk_at "ce") => `(tactic| (walk_at "cd"; walk_at "dl"; (try walk_at "cd"); (try walk_at "dl"); (try walk_at "cd")))
theorem comp_kids_fn {i : Nat} {te : TD} {ρ : List Sl} {f : Code → D} {k : List D → Prop} {cs : List Code} (h : ∀ c ∈ cs, ∀ κ : D → Prop, κ (f c) → te (ρ.set i (.dat c.toD)) κ) (hk : k (cs.map f)) : compT (.nm i) yesT te ρ (Code.toDs cs) [] k := by
  refine comp_kids (P := fun c e => e = f c) (fun c hc κ q => h c hc κ (q _ rfl)) fun es hl hj => ?_
  have e : es = cs.map f := by
    apply List.ext_getElem?
    intro j
    rw [List.getElem?_map]
    cases q : cs[j]? with
    | none =>
      have : cs.length ≤ j := by simpa using q
      simp; omega
    | some c =>
      obtain ⟨e, h1, h2⟩ := hj j c q
      rw [h1, h2]; rfl
  rw [e]
  exact hk
end K15

set_option Elab.async false
set_option linter.all false
set_option maxRecDepth 100000
set_option maxHeartbeats 4000000
namespace K15
open PySem L2 DL
local macro_rules | `(tactic| walk_at "dl") => `(tactic| simp only [Tr.toD, toDs_d, map_snoc, map_ins, treeT, seqT, iffT, setT, retT, nextT, retN, blT, DL.binT, nameT, cT, bagT, cutBT, putBT, augBT, consA, nilA, callT, ofF, lstF, lstR, tupT, eqD, neD, inD, notInD, someO, noneO, slT, revF, endD, enterS, ifT, andT, orT, notT, andB, orB, notB, truT, newT, mT, thruT, thruB, frzT, putT, parT, tgtT, methT, onT, isStr, isLst, getT, starA, negT, dropT, breakT, contT, tgD, putA, seqI, rng1I, enumI, zipI, forT, lcF, wipeS,
  addD_ii, addD_ib, addD_ss, addD_ll, addD_tt, subD_ii, mulD_ii, mulD_li, fdivD_ii, modD_ii, cmpI_ii, eqB_ss, eqB_ii, eqB_bb, eqB_tt, eqB_ll, inB_l, inB_t, ixD_l, ixD_t, ixD_s, slD_l, slD_t, truD_b, truD_i, truD_n, truD_s, truD_l, truD_t, intR_i, intR_b, lenR_s, lenR_l, lenR_t, absR_i, minR_ii, maxR_ii, tupR_l, tupR_t, appD_1, insD_1, extD_1, splitM_1, optK_some, atI_0, atI_1, atI_2, atI_3, atI_4, cutL_1, cutL_2, cutL_t1, cutL_t2,
  List.map_cons, List.map_nil, List.replicate_succ, List.replicate_zero, List.cons_append, List.nil_append, List.length_cons, List.length_nil, List.set_cons_zero, List.set_cons_succ, List.getElem?_cons_zero, List.getElem?_cons_succ, List.drop_succ_cons, List.drop_zero, List.take_succ_cons, List.take_zero, true_and, and_true, true_or, or_true, decide_eq_true_eq, reduceCtorEq, if_true, if_false, ite_true, ite_false, D.int.injEq, Nat.reduceAdd, Nat.reduceSub, Int.reduceSub, Int.reduceAdd, Int.reduceNeg, Bool.false_eq_true, Bool.true_eq_false, decide_true, decide_false, Bool.not_true, Bool.not_false, Bool.not_eq_true', decide_eq_false_iff_not])
local macro_rules | `(tactic| walk_at "di") => `(tactic| simp only [isiT, chainT, e0D, ixO, parO, parS, disp1T, emptyT, getT2, lookD, keyD, keyT, keysD, valD, valQ, dixT, listKR, itemsF, keysI, valsI, itemsI, dputK, newR, emptyR, augI, whileT, dcT, lc2F, Tr.toEs, ib_int_NoneType, ib_int_bool, ib_int_int, ib_int_tuple, ib_bool_int, ib_bool_bool, ib_tuple_tuple, Bool.or_true, Bool.or_false, Bool.true_or, Bool.false_or])
local macro_rules | `(tactic| walk_at "dx") => `(tactic| ((try walk_at "dl"); (try walk_at "di"); (try walk_at "dl"); (try walk_at "di"); (try walk_at "dl")))
/-! ### isinstance, by kinds -/
theorem ib_int_NoneType : isB .non "int" = some false := by decide +kernel
theorem ib_int_bool {b : Bool} : isB (.bl b) "int" = some true := by simp only [isB, tyN]; rw [if_pos (by decide +kernel)]; exact congrArg some (by decide +kernel)
theorem ib_int_int {i : Int} : isB (.int i) "int" = some true := by simp only [isB, tyN]; rw [if_pos (by decide +kernel)]; exact congrArg some (by decide +kernel)
theorem ib_int_str {x : Str} : isB (.str x) "int" = some false := by simp only [isB, tyN]; rw [if_pos (by decide +kernel)]; exact congrArg some (by decide +kernel)
theorem ib_int_list {ds : List D} : isB (.lst ds) "int" = some false := by simp only [isB, tyN]; rw [if_pos (by decide +kernel)]; exact congrArg some (by decide +kernel)
theorem ib_int_tuple {ds : List D} : isB (.tup ds) "int" = some false := by simp only [isB, tyN]; rw [if_pos (by decide +kernel)]; exact congrArg some (by decide +kernel)
theorem ib_int_dict {es : List (D × D)} : isB (.dic false es) "int" = some false := by simp only [isB, tyN]; rw [if_pos (by decide +kernel)]; exact congrArg some (by decide +kernel)
theorem ib_bool_NoneType : isB .non "bool" = some false := by decide +kernel
theorem ib_bool_bool {b : Bool} : isB (.bl b) "bool" = some true := by simp only [isB, tyN]; rw [if_pos (by decide +kernel)]; exact congrArg some (by decide +kernel)
theorem ib_bool_int {i : Int} : isB (.int i) "bool" = some false := by simp only [isB, tyN]; rw [if_pos (by decide +kernel)]; exact congrArg some (by decide +kernel)
theorem ib_bool_str {x : Str} : isB (.str x) "bool" = some false := by simp only [isB, tyN]; rw [if_pos (by decide +kernel)]; exact congrArg some (by decide +kernel)
theorem ib_bool_list {ds : List D} : isB (.lst ds) "bool" = some false := by simp only [isB, tyN]; rw [if_pos (by decide +kernel)]; exact congrArg some (by decide +kernel)
theorem ib_bool_tuple {ds : List D} : isB (.tup ds) "bool" = some false := by simp only [isB, tyN]; rw [if_pos (by decide +kernel)]; exact congrArg some (by decide +kernel)
theorem ib_bool_dict {es : List (D × D)} : isB (.dic false es) "bool" = some false := by simp only [isB, tyN]; rw [if_pos (by decide +kernel)]; exact congrArg some (by decide +kernel)
theorem ib_str_NoneType : isB .non "str" = some false := by decide +kernel
theorem ib_str_bool {b : Bool} : isB (.bl b) "str" = some false := by simp only [isB, tyN]; rw [if_pos (by decide +kernel)]; exact congrArg some (by decide +kernel)
theorem ib_str_int {i : Int} : isB (.int i) "str" = some false := by simp only [isB, tyN]; rw [if_pos (by decide +kernel)]; exact congrArg some (by decide +kernel)
theorem ib_str_str {x : Str} : isB (.str x) "str" = some true := by simp only [isB, tyN]; rw [if_pos (by decide +kernel)]; exact congrArg some (by decide +kernel)
theorem ib_str_list {ds : List D} : isB (.lst ds) "str" = some false := by simp only [isB, tyN]; rw [if_pos (by decide +kernel)]; exact congrArg some (by decide +kernel)
theorem ib_str_tuple {ds : List D} : isB (.tup ds) "str" = some false := by simp only [isB, tyN]; rw [if_pos (by decide +kernel)]; exact congrArg some (by decide +kernel)
theorem ib_str_dict {es : List (D × D)} : isB (.dic false es) "str" = some false := by simp only [isB, tyN]; rw [if_pos (by decide +kernel)]; exact congrArg some (by decide +kernel)
theorem ib_list_NoneType : isB .non "list" = some false := by decide +kernel
theorem ib_list_bool {b : Bool} : isB (.bl b) "list" = some false := by simp only [isB, tyN]; rw [if_pos (by decide +kernel)]; exact congrArg some (by decide +kernel)
theorem ib_list_int {i : Int} : isB (.int i) "list" = some false := by simp only [isB, tyN]; rw [if_pos (by decide +kernel)]; exact congrArg some (by decide +kernel)
theorem ib_list_str {x : Str} : isB (.str x) "list" = some false := by simp only [isB, tyN]; rw [if_pos (by decide +kernel)]; exact congrArg some (by decide +kernel)
theorem ib_list_list {ds : List D} : isB (.lst ds) "list" = some true := by simp only [isB, tyN]; rw [if_pos (by decide +kernel)]; exact congrArg some (by decide +kernel)
theorem ib_list_tuple {ds : List D} : isB (.tup ds) "list" = some false := by simp only [isB, tyN]; rw [if_pos (by decide +kernel)]; exact congrArg some (by decide +kernel)
theorem ib_list_dict {es : List (D × D)} : isB (.dic false es) "list" = some false := by simp only [isB, tyN]; rw [if_pos (by decide +kernel)]; exact congrArg some (by decide +kernel)
theorem ib_tuple_NoneType : isB .non "tuple" = some false := by decide +kernel
theorem ib_tuple_bool {b : Bool} : isB (.bl b) "tuple" = some false := by simp only [isB, tyN]; rw [if_pos (by decide +kernel)]; exact congrArg some (by decide +kernel)
theorem ib_tuple_int {i : Int} : isB (.int i) "tuple" = some false := by simp only [isB, tyN]; rw [if_pos (by decide +kernel)]; exact congrArg some (by decide +kernel)
theorem ib_tuple_str {x : Str} : isB (.str x) "tuple" = some false := by simp only [isB, tyN]; rw [if_pos (by decide +kernel)]; exact congrArg some (by decide +kernel)
theorem ib_tuple_list {ds : List D} : isB (.lst ds) "tuple" = some false := by simp only [isB, tyN]; rw [if_pos (by decide +kernel)]; exact congrArg some (by decide +kernel)
theorem ib_tuple_tuple {ds : List D} : isB (.tup ds) "tuple" = some true := by simp only [isB, tyN]; rw [if_pos (by decide +kernel)]; exact congrArg some (by decide +kernel)
theorem ib_tuple_dict {es : List (D × D)} : isB (.dic false es) "tuple" = some false := by simp only [isB, tyN]; rw [if_pos (by decide +kernel)]; exact congrArg some (by decide +kernel)
end K15

set_option Elab.async false
set_option linter.all false
set_option maxRecDepth 100000
set_option maxHeartbeats 4000000
namespace K15
open PySem L2 DL
local macro_rules | `(tactic| walk_at "dl") => `(tactic| simp only [Tr.toD, toDs_d, map_snoc, map_ins, treeT, seqT, iffT, setT, retT, nextT, retN, blT, DL.binT, nameT, cT, bagT, cutBT, putBT, augBT, consA, nilA, callT, ofF, lstF, lstR, tupT, eqD, neD, inD, notInD, someO, noneO, slT, revF, endD, enterS, ifT, andT, orT, notT, andB, orB, notB, truT, newT, mT, thruT, thruB, frzT, putT, parT, tgtT, methT, onT, isStr, isLst, getT, starA, negT, dropT, breakT, contT, tgD, putA, seqI, rng1I, enumI, zipI, forT, lcF, wipeS,
  addD_ii, addD_ib, addD_ss, addD_ll, addD_tt, subD_ii, mulD_ii, mulD_li, fdivD_ii, modD_ii, cmpI_ii, eqB_ss, eqB_ii, eqB_bb, eqB_tt, eqB_ll, inB_l, inB_t, ixD_l, ixD_t, ixD_s, slD_l, slD_t, truD_b, truD_i, truD_n, truD_s, truD_l, truD_t, intR_i, intR_b, lenR_s, lenR_l, lenR_t, absR_i, minR_ii, maxR_ii, tupR_l, tupR_t, appD_1, insD_1, extD_1, splitM_1, optK_some, atI_0, atI_1, atI_2, atI_3, atI_4, cutL_1, cutL_2, cutL_t1, cutL_t2,
  List.map_cons, List.map_nil, List.replicate_succ, List.replicate_zero, List.cons_append, List.nil_append, List.length_cons, List.length_nil, List.set_cons_zero, List.set_cons_succ, List.getElem?_cons_zero, List.getElem?_cons_succ, List.drop_succ_cons, List.drop_zero, List.take_succ_cons, List.take_zero, true_and, and_true, true_or, or_true, decide_eq_true_eq, reduceCtorEq, if_true, if_false, ite_true, ite_false, D.int.injEq, Nat.reduceAdd, Nat.reduceSub, Int.reduceSub, Int.reduceAdd, Int.reduceNeg, Bool.false_eq_true, Bool.true_eq_false, decide_true, decide_false, Bool.not_true, Bool.not_false, Bool.not_eq_true', decide_eq_false_iff_not])
local macro_rules | `(tactic| walk_at "di") => `(tactic| simp only [isiT, chainT, e0D, ixO, parO, parS, disp1T, emptyT, getT2, lookD, keyD, keyT, keysD, valD, valQ, dixT, listKR, itemsF, keysI, valsI, itemsI, dputK, newR, emptyR, augI, whileT, dcT, lc2F, Tr.toEs, Bool.or_true, Bool.or_false, Bool.true_or, Bool.false_or, isi2T, inSg, notInSg, tabT, List.isEmpty_nil, List.isEmpty_cons, ib_int_NoneType, ib_int_bool, ib_int_int, ib_int_str, ib_int_list, ib_int_tuple, ib_int_dict, ib_bool_NoneType, ib_bool_bool, ib_bool_int, ib_bool_str, ib_bool_list, ib_bool_tuple, ib_bool_dict, ib_str_NoneType, ib_str_bool, ib_str_int, ib_str_str, ib_str_list, ib_str_tuple, ib_str_dict, ib_list_NoneType, ib_list_bool, ib_list_int, ib_list_str, ib_list_list, ib_list_tuple, ib_list_dict, ib_tuple_NoneType, ib_tuple_bool, ib_tuple_int, ib_tuple_str, ib_tuple_list, ib_tuple_tuple, ib_tuple_dict])
local macro_rules | `(tactic| walk_at "dx") => `(tactic| ((try walk_at "dl"); (try walk_at "di"); (try walk_at "dl"); (try walk_at "di"); (try walk_at "dl")))
local macro_rules | `(tactic| walk_at "cd") => `(tactic| simp only [Code.toD, Code.toDs, Code.kids, List.any_cons, List.any_nil, D.py, PyData.eqv, beq_iff_eq, Bool.or_false, Bool.or_eq_true, Bool.or_eq_false_iff, or_false, false_or, q_name_given, q_name_if, q_name_with, q_name_work, q_name_call, q_name_bound, q_given_name, q_given_if, q_given_with, q_given_work, q_given_call, q_given_bound, q_if_name, q_if_given, q_if_with, q_if_work, q_if_call, q_if_bound, q_with_name, q_with_given, q_with_if, q_with_work, q_with_call, q_with_bound, q_work_name, q_work_given, q_work_if, q_work_with, q_work_call, q_work_bound, q_call_name, q_call_given, q_call_if, q_call_with, q_call_work, q_call_bound, q_bound_name, q_bound_given, q_bound_if, q_bound_with, q_bound_work, q_bound_call, in_name, in_given, in_if, in_with, in_work, in_call])
local macro_rules | `(tactic| walk_at "ce") => `(tactic| (walk_at "cd"; walk_at "dl"; (try walk_at "cd"); (try walk_at "dl"); (try walk_at "cd")))
/-! ### words, numbers and codes are known -/
def R_iint : RD := fun ds k => ∃ i : Int, ds = [.int i] ∧ k (.bl true)
def R_icnt : RD := fun ds k => ∃ i : Int, ds = [.int i] ∧ 0 ≤ i ∧ k (.bl true)
theorem p_is_integer : ∀ ds κ, R_iint ds κ → t_is_integer (endD κ) (enterS 1 ds) := by
  rintro ds κ ⟨i, rfl, h⟩
  unfold t_is_integer
  walk_at "dx"
  exact h
theorem p_is_count : ∀ ds κ, R_icnt ds κ → t_is_count R_iint (endD κ) (enterS 1 ds) := by
  rintro ds κ ⟨i, rfl, h0, h⟩
  unfold t_is_count
  walk_at "dx"
  refine ⟨i, rfl, ?_⟩
  walk_at "dx"
  have : decide ((i : Int) ≥ 0) = true := decide_eq_true (by omega)
  rw [this]
  exact h
def R_isword : RD := fun ds k => ∃ x : Str, ds = [.str x] ∧ wOk x = true ∧ k (.bl true)
theorem low_in : ∀ c : Nat, lowc c = true → c ∈ letters.cps.toList := by
  have e : letters.cps.toList = List.range' 97 26 := by decide +kernel
  intro c h
  unfold lowc at h
  rw [Bool.and_eq_true, decide_eq_true_eq, decide_eq_true_eq] at h
  rw [e, List.mem_range'_1]
  omega
theorem trues {es : List D} {n : Nat} (h : ∀ e ∈ es, e = .bl true) : ∃ bs : List Bool, es = bs.map .bl ∧ bs.all _root_.id = true := by
  induction es with
  | nil => exact ⟨[], rfl, rfl⟩
  | cons e es ih =>
    obtain ⟨bs, e1, e2⟩ := ih fun z hz => h z (List.mem_cons_of_mem _ hz)
    refine ⟨true :: bs, by rw [h e List.mem_cons_self, e1]; rfl, by rw [List.all_cons, e2]; rfl⟩
theorem all2_right {R : D → D → Prop} {P : D → Prop} {ds es : List D} (h : All2 R ds es) (hp : ∀ d e, R d e → P e) : ∀ e ∈ es, P e := by
  induction h with
  | nil => intro e he; cases he
  | cons r _ ih =>
    intro e he
    rcases List.mem_cons.mp he with rfl | he
    · exact hp _ _ r
    · exact ih e he
theorem p_is_word : ∀ ds κ, R_isword ds κ → t_is_word (endD κ) (enterS 2 ds) := by
  have hs : sizeLine = 16777216 := sizeLine_eq
  rintro ds κ ⟨x, rfl, o, h⟩
  unfold t_is_word
  unfold wOk at o
  rw [Bool.and_eq_true, Bool.and_eq_true, decide_eq_true_eq, decide_eq_true_eq] at o
  obtain ⟨o1, o2, o3⟩ := o
  walk_at "dx"
  refine ⟨by omega, ?_⟩
  rw [if_pos (by omega), if_neg (by omega)]
  refine ⟨by rw [List.length_map]; show x.length ≤ sizeLine; omega, ?_⟩
  refine compT_ind (R := fun d e => e = .bl true) (fun d hd κ' q => ?_) fun es he => ?_
  · obtain ⟨c, hc, rfl⟩ := List.mem_map.mp hd
    walk_at "dx"
    refine ⟨⟨c, rfl⟩, fun c' e => ?_⟩
    cases e
    refine q _ ?_
    rw [decide_eq_true (low_in c (by
      rw [← Array.all_toList] at o1
      exact List.all_eq_true.mp o1 c hc))]
  · obtain ⟨bs, e1, e2⟩ := trues (n := 0) (all2_right he fun d e r => r)
    rw [List.nil_append]
    refine ⟨bs, by rw [e1], ?_⟩
    rw [e2]
    exact h
/-- how long a code with a head is -/
theorem tabT_is {s : Str} {n : Int} (hf : ((tab_LENGTHS.find? (fun p => decide (p.1 = s))).map (·.2)).getD (.int 0) = .int n) {te : TD} {ρ : List Sl} {k : D → Prop} (h : ∀ k', k' (.str s) → te ρ k') (q : k (.int n)) : tabT tab_LENGTHS te (cT (.int 0)) ρ k := by
  unfold tabT
  refine h _ ?_
  show k _
  rw [hf]; exact q
theorem ln_name : ((tab_LENGTHS.find? (fun p => decide (p.1 = ("name" : Str)))).map (·.2)).getD (.int 0) = .int 2 := by rfl
theorem ln_given : ((tab_LENGTHS.find? (fun p => decide (p.1 = ("given" : Str)))).map (·.2)).getD (.int 0) = .int 2 := by rfl
theorem ln_work : ((tab_LENGTHS.find? (fun p => decide (p.1 = ("work" : Str)))).map (·.2)).getD (.int 0) = .int 3 := by rfl
theorem ln_if : ((tab_LENGTHS.find? (fun p => decide (p.1 = ("if" : Str)))).map (·.2)).getD (.int 0) = .int 5 := by rfl
theorem ln_with : ((tab_LENGTHS.find? (fun p => decide (p.1 = ("with" : Str)))).map (·.2)).getD (.int 0) = .int 4 := by rfl
theorem ln_call : ((tab_LENGTHS.find? (fun p => decide (p.1 = ("call" : Str)))).map (·.2)).getD (.int 0) = .int 3 := by rfl
def R_iscode (n : Nat) : RD := fun ds k => ∃ c : Code, ds = [c.toD] ∧ c.ok ∧ c.dp ≤ n ∧ c.size < 2 ^ 16 ∧ k (.bl true)
theorem comp_iscode {n i : Nat} {te : TD} {ρ : List Sl} {κ : D → Prop} {cs : List Code} (h : ∀ c ∈ cs, ∀ κ' : D → Prop, κ' (.bl true) → te (ρ.set i (.dat c.toD)) κ') (hk : κ (.bl true)) : compT (.nm i) yesT te ρ (Code.toDs cs) [] fun ds => allR [D.lst ds] κ := by
  refine comp_kids_fn (f := fun _ => .bl true) h ?_
  obtain ⟨bs, e1, e2⟩ := trues (n := 0) (es := cs.map fun _ => D.bl true) fun e he => by
    obtain ⟨c, _, rfl⟩ := List.mem_map.mp he; rfl
  refine ⟨bs, by rw [e1], ?_⟩
  rw [e2]; exact hk
theorem p_is_code (n : Nat) : ∀ ds κ, R_iscode (n + 1) ds κ → t_is_code R_isword R_icnt (R_iscode n) (endD κ) (enterS 2 ds) := by
  have hs : sizeLine = 16777216 := sizeLine_eq
  rintro ds κ ⟨c, rfl, o, hn, hz, h⟩
  unfold t_is_code
  have kid : ∀ d ∈ c.kids, ∀ κ' : D → Prop, κ' (.bl true) → R_iscode n [d.toD] κ' := fun d hd κ' q => by
    have h1 := kids_dp hd
    have h2 := sizes_mem hd
    have h3 := kids_sizes c
    exact ⟨d, rfl, oks_mem (kids_ok o) d hd, by omega, by omega, q⟩
  have ix : ∀ (w : Str) (ds : List D) (s2 : Sl) (k' : D → Prop), k' (.str w) → DL.binT ixD (nameT 0) (cT (.int 0)) [.dat (.tup (.str w :: ds)), s2] k' := fun w ds s2 k' q => by
    walk_at "dl"
    exact q
  cases c with
  | nm y =>
    simp only [Code.ok] at o
    generalize hT : tabT _ _ _ = T
    walk_at "ce"
    walk_at "dx"
    rw [if_neg (by omega)]
    subst hT
    refine tabT_is ln_name (ix _ _ _) ?_
    walk_at "dx"
    rw [if_neg (by simp)]
    exact ⟨y, rfl, o, h⟩
  | gv y =>
    simp only [Code.ok] at o
    generalize hT : tabT _ _ _ = T
    walk_at "ce"
    walk_at "dx"
    rw [if_neg (by omega)]
    subst hT
    refine tabT_is ln_given (ix _ _ _) ?_
    walk_at "dx"
    rw [if_neg (by simp)]
    exact ⟨y, rfl, o.1, h⟩
  | ite a b c d =>
    generalize hT : tabT _ _ _ = T
    walk_at "ce"
    walk_at "dx"
    rw [if_neg (by omega)]
    subst hT
    refine tabT_is ln_if (ix _ _ _) ?_
    walk_at "dx"
    rw [if_neg (by simp)]
    have e : [a.toD, b.toD, c.toD, d.toD] = Code.toDs [a, b, c, d] := by simp only [Code.toDs]
    rw [e]
    refine ⟨by omega, comp_iscode (n := 0) (fun d hd κ' q => ?_) h⟩
    walk_at "dx"
    exact kid d hd κ' q
  | wth y a b =>
    simp only [Code.ok] at o
    generalize hT : tabT _ _ _ = T
    walk_at "ce"
    walk_at "dx"
    rw [if_neg (by omega)]
    subst hT
    refine tabT_is ln_with (ix _ _ _) ?_
    walk_at "dx"
    rw [if_neg (by simp)]
    refine ⟨y, rfl, o.1, ?_⟩
    walk_at "dx"
    refine kid a (by simp only [Code.kids]; simp) _ ?_
    walk_at "dx"
    exact kid b (by simp only [Code.kids]; simp) _ h
  | app w f cs =>
    simp only [Code.ok] at o
    have cl : cs.length < 2 ^ 16 := by
      have := sizes_len cs
      simp only [Code.size] at hz
      omega
    cases w
    all_goals
      generalize hT : tabT _ _ _ = T
      walk_at "ce"
      walk_at "dx"
      rw [if_neg (by omega)]
      subst hT
      first | refine tabT_is ln_work (ix _ _ _) ?_ | refine tabT_is ln_call (ix _ _ _) ?_
      walk_at "dx"
      rw [if_neg (by simp)]
      refine ⟨f, rfl, o.1, ?_⟩
      walk_at "dx"
      try simp only [toDs_len]
      refine ⟨by omega, comp_iscode (n := 0) (fun d hd κ' q => ?_) h⟩
      walk_at "dx"
      exact kid d hd κ' q
end K15

set_option Elab.async false
set_option linter.all false
set_option maxRecDepth 100000
set_option maxHeartbeats 4000000
namespace K15
open PySem L2 DL
local macro_rules | `(tactic| walk_at "dl") => `(tactic| simp only [Tr.toD, toDs_d, map_snoc, map_ins, treeT, seqT, iffT, setT, retT, nextT, retN, blT, DL.binT, nameT, cT, bagT, cutBT, putBT, augBT, consA, nilA, callT, ofF, lstF, lstR, tupT, eqD, neD, inD, notInD, someO, noneO, slT, revF, endD, enterS, ifT, andT, orT, notT, andB, orB, notB, truT, newT, mT, thruT, thruB, frzT, putT, parT, tgtT, methT, onT, isStr, isLst, getT, starA, negT, dropT, breakT, contT, tgD, putA, seqI, rng1I, enumI, zipI, forT, lcF, wipeS,
  addD_ii, addD_ib, addD_ss, addD_ll, addD_tt, subD_ii, mulD_ii, mulD_li, fdivD_ii, modD_ii, cmpI_ii, eqB_ss, eqB_ii, eqB_bb, eqB_tt, eqB_ll, inB_l, inB_t, ixD_l, ixD_t, ixD_s, slD_l, slD_t, truD_b, truD_i, truD_n, truD_s, truD_l, truD_t, intR_i, intR_b, lenR_s, lenR_l, lenR_t, absR_i, minR_ii, maxR_ii, tupR_l, tupR_t, appD_1, insD_1, extD_1, splitM_1, optK_some, atI_0, atI_1, atI_2, atI_3, atI_4, cutL_1, cutL_2, cutL_t1, cutL_t2,
  List.map_cons, List.map_nil, List.replicate_succ, List.replicate_zero, List.cons_append, List.nil_append, List.length_cons, List.length_nil, List.set_cons_zero, List.set_cons_succ, List.getElem?_cons_zero, List.getElem?_cons_succ, List.drop_succ_cons, List.drop_zero, List.take_succ_cons, List.take_zero, true_and, and_true, true_or, or_true, decide_eq_true_eq, reduceCtorEq, if_true, if_false, ite_true, ite_false, D.int.injEq, Nat.reduceAdd, Nat.reduceSub, Int.reduceSub, Int.reduceAdd, Int.reduceNeg, Bool.false_eq_true, Bool.true_eq_false, decide_true, decide_false, Bool.not_true, Bool.not_false, Bool.not_eq_true', decide_eq_false_iff_not])
local macro_rules | `(tactic| walk_at "di") => `(tactic| simp only [isiT, chainT, e0D, ixO, parO, parS, disp1T, emptyT, getT2, lookD, keyD, keyT, keysD, valD, valQ, dixT, listKR, itemsF, keysI, valsI, itemsI, dputK, newR, emptyR, augI, whileT, dcT, lc2F, Tr.toEs, Bool.or_true, Bool.or_false, Bool.true_or, Bool.false_or, isi2T, inSg, notInSg, tabT, List.isEmpty_nil, List.isEmpty_cons, ib_int_NoneType, ib_int_bool, ib_int_int, ib_int_str, ib_int_list, ib_int_tuple, ib_int_dict, ib_bool_NoneType, ib_bool_bool, ib_bool_int, ib_bool_str, ib_bool_list, ib_bool_tuple, ib_bool_dict, ib_str_NoneType, ib_str_bool, ib_str_int, ib_str_str, ib_str_list, ib_str_tuple, ib_str_dict, ib_list_NoneType, ib_list_bool, ib_list_int, ib_list_str, ib_list_list, ib_list_tuple, ib_list_dict, ib_tuple_NoneType, ib_tuple_bool, ib_tuple_int, ib_tuple_str, ib_tuple_list, ib_tuple_tuple, ib_tuple_dict])
local macro_rules | `(tactic| walk_at "dx") => `(tactic| ((try walk_at "dl"); (try walk_at "di"); (try walk_at "dl"); (try walk_at "di"); (try walk_at "dl")))
local macro_rules | `(tactic| walk_at "cd") => `(tactic| simp only [Code.toD, Code.toDs, Code.kids, List.any_cons, List.any_nil, D.py, PyData.eqv, beq_iff_eq, Bool.or_false, Bool.or_eq_true, Bool.or_eq_false_iff, or_false, false_or, q_name_given, q_name_if, q_name_with, q_name_work, q_name_call, q_name_bound, q_given_name, q_given_if, q_given_with, q_given_work, q_given_call, q_given_bound, q_if_name, q_if_given, q_if_with, q_if_work, q_if_call, q_if_bound, q_with_name, q_with_given, q_with_if, q_with_work, q_with_call, q_with_bound, q_work_name, q_work_given, q_work_if, q_work_with, q_work_call, q_work_bound, q_call_name, q_call_given, q_call_if, q_call_with, q_call_work, q_call_bound, q_bound_name, q_bound_given, q_bound_if, q_bound_with, q_bound_work, q_bound_call, in_name, in_given, in_if, in_with, in_work, in_call])
local macro_rules | `(tactic| walk_at "ce") => `(tactic| (walk_at "cd"; walk_at "dl"; (try walk_at "cd"); (try walk_at "dl"); (try walk_at "cd")))
/-! ### dict(list(d.items()) + [(x, v)]) -/
abbrev eD (qs : List (Str × D)) : List (D × D) := qs.map fun q => (.str q.1, q.2)
def lkS : List (Str × D) → Str → Option D
  | [], _ => none
  | (y, c) :: ps, x => if y = x then some c else lkS ps x
theorem lkS_cons {ps : List (Str × D)} {x y : Str} {c : D} : lkS ((y, c) :: ps) x = if y = x then some c else lkS ps x := rfl
def putS (qs : List (Str × D)) (x : Str) (d : D) : List (Str × D) := if (qs.any fun q => decide (q.1 = x)) = true then qs.map (fun q => if q.1 = x then (q.1, d) else q) else qs ++ [(x, d)]
theorem keyD_str {x y : Str} : (keyD (.str x) = keyD (.str y)) ↔ x = y := by
  constructor
  · intro h
    injection h with h
    injection h
  · rintro rfl; rfl
theorem putD_eD (qs : List (Str × D)) (x : Str) (d : D) : putD (eD qs) (.str x) d = eD (putS qs x d) := by
  have ha : ((eD qs).any fun e => decide (keyD e.1 = keyD (.str x))) = qs.any fun q => decide (q.1 = x) := by
    rw [List.any_map]
    congr 1
    funext q
    exact decide_eq_decide.mpr keyD_str
  unfold putD mergeD.putD putS
  rw [ha]
  split
  · unfold eD
    rw [List.map_map, List.map_map]
    refine List.map_congr_left fun q _ => ?_
    simp only [Function.comp]
    by_cases e : q.1 = x
    · rw [if_pos (keyD_str.mpr e), if_pos e]
    · rw [if_neg (fun z => e (keyD_str.mp z)), if_neg e]
  · unfold eD
    rw [List.map_append]; rfl
theorem valD_eD (x : Str) : ∀ qs : List (Str × D), valD (eD qs) (.inr x) = lkS qs x
  | [] => rfl
  | (y, c) :: qs => by
    show (if keyD (.str y) = some (.inr x) then some c else valD (eD qs) (.inr x)) = _
    rw [lkS_cons]
    by_cases e : y = x
    · subst e
      rw [if_pos (show keyD (.str y) = some (.inr y) from rfl), if_pos rfl]
    · rw [if_neg (fun z => e (by injection z with z; injection z)), if_neg e, valD_eD x qs]
theorem lkS_none {ps : List (Str × D)} {x : Str} : lkS ps x = none ↔ x ∉ ps.map (·.1) := by
  induction ps with
  | nil => simp [lkS]
  | cons p ps ih =>
    obtain ⟨y, c⟩ := p
    rw [lkS_cons]
    by_cases e : y = x
    · subst e; simp
    · have e' : ¬ x = y := fun z => e z.symm
      rw [if_neg e, ih]; simp [e']
theorem putS_new {qs : List (Str × D)} {x : Str} {d : D} (h : x ∉ qs.map (·.1)) : putS qs x d = qs ++ [(x, d)] := by
  unfold putS
  rw [if_neg]
  intro z
  obtain ⟨q, h1, h2⟩ := List.any_eq_true.mp z
  exact h (List.mem_map.mpr ⟨q, h1, of_decide_eq_true h2⟩)
theorem merge_eD : ∀ {qs ps : List (Str × D)}, ((ps ++ qs).map (·.1)).Nodup → mergeD (eD ps) (eD qs) = eD (ps ++ qs)
  | [], ps, _ => by simp [mergeD]
  | (x, d) :: qs, ps, h => by
    have hx : x ∉ ps.map (·.1) := fun z => by
      rw [List.map_append, List.nodup_append] at h
      exact h.2.2 x z x (by simp) rfl
    show mergeD (putD (eD ps) (.str x) d) (eD qs) = _
    rw [putD_eD, putS_new hx, merge_eD (by simpa using h)]
    simp
/-- what dict(list(d.items()) + [(x, v)]) is -/
theorem dict_snoc {qs : List (Str × D)} {x : Str} {d : D} (h : (qs.map (·.1)).Nodup) : mergeD [] (eD qs ++ [(.str x, d)]) = eD (putS qs x d) := by
  unfold mergeD
  rw [List.foldl_append]
  have e := merge_eD (ps := []) (qs := qs) (by simpa using h)
  unfold mergeD at e
  rw [show (List.foldl (fun acc (e : D × D) => mergeD.putD acc e.1 e.2) [] (eD qs)) = eD qs from e]
  exact putD_eD qs x d
theorem lkS_put {qs : List (Str × D)} {x y : Str} {d : D} : lkS (putS qs x d) y = if y = x then some d else lkS qs y := by
  have rp : ∀ qs : List (Str × D), x ∈ qs.map (·.1) → lkS (qs.map fun q => if q.1 = x then (q.1, d) else q) y = if y = x then some d else lkS qs y := by
    intro qs hx
    by_cases e : y = x
    · subst e
      rw [if_pos rfl]
      induction qs with
      | nil => cases hx
      | cons q qs ih =>
        obtain ⟨z, c⟩ := q
        rw [List.map_cons]
        by_cases q : z = y
        · rw [if_pos q, lkS_cons, if_pos q]
        · rw [if_neg q, lkS_cons, if_neg q]
          exact ih ((List.mem_cons.mp hx).resolve_left fun z' => q z'.symm)
    · rw [if_neg e]
      clear hx
      induction qs with
      | nil => rfl
      | cons q qs ih =>
        obtain ⟨z, c⟩ := q
        rw [List.map_cons, lkS_cons]
        by_cases q : z = x
        · rw [if_pos q, lkS_cons, if_neg (fun w => e (w.symm.trans q)), if_neg (fun w => e (w.symm.trans q)), ih]
        · rw [if_neg q, lkS_cons, ih]
  by_cases hx : x ∈ qs.map (·.1)
  · unfold putS
    rw [if_pos]
    · exact rp qs hx
    · obtain ⟨q, h1, h2⟩ := List.mem_map.mp hx
      exact List.any_eq_true.mpr ⟨q, h1, decide_eq_true h2⟩
  · rw [putS_new hx]
    clear rp
    induction qs with
    | nil =>
      rw [List.nil_append, lkS_cons]
      by_cases e : y = x
      · rw [if_pos e, if_pos e.symm]
      · rw [if_neg e, if_neg (fun z => e z.symm)]
    | cons q qs ih =>
      obtain ⟨z, c⟩ := q
      have h1 : ¬ x = z := fun w => hx (by rw [w]; exact List.mem_cons_self)
      rw [List.cons_append, lkS_cons, lkS_cons, ih fun w => hx (List.mem_cons_of_mem _ w)]
      by_cases e : z = y
      · rw [if_pos e, if_pos e, if_neg (fun w => h1 (w.symm.trans e.symm))]
      · rw [if_neg e, if_neg e]
theorem putS_nodup {qs : List (Str × D)} {x : Str} {d : D} (h : (qs.map (·.1)).Nodup) : ((putS qs x d).map (·.1)).Nodup := by
  unfold putS
  split
  · rw [List.map_map]
    have : (qs.map ((fun q => q.1) ∘ fun q : Str × D => if q.1 = x then (q.1, d) else q)) = qs.map (·.1) := List.map_congr_left fun q _ => by
      simp only [Function.comp]; split <;> rfl
    rw [this]; exact h
  · rename_i hn
    rw [List.map_append, List.nodup_append]
    refine ⟨h, by simp, fun a ha b hb => ?_⟩
    obtain rfl : b = x := by simpa using hb
    intro z
    subst z
    obtain ⟨q, h1, h2⟩ := List.mem_map.mp ha
    exact hn (List.any_eq_true.mpr ⟨q, h1, decide_eq_true h2⟩)
theorem putS_len (qs : List (Str × D)) (x : Str) (d : D) : (putS qs x d).length ≤ qs.length + 1 := by
  unfold putS
  split <;> simp
end K15

set_option Elab.async false
set_option linter.all false
set_option maxRecDepth 100000
set_option maxHeartbeats 4000000
namespace K15
open PySem L2 DL
local macro_rules | `(tactic| walk_at "dl") => `(tactic| simp only [Tr.toD, toDs_d, map_snoc, map_ins, treeT, seqT, iffT, setT, retT, nextT, retN, blT, DL.binT, nameT, cT, bagT, cutBT, putBT, augBT, consA, nilA, callT, ofF, lstF, lstR, tupT, eqD, neD, inD, notInD, someO, noneO, slT, revF, endD, enterS, ifT, andT, orT, notT, andB, orB, notB, truT, newT, mT, thruT, thruB, frzT, putT, parT, tgtT, methT, onT, isStr, isLst, getT, starA, negT, dropT, breakT, contT, tgD, putA, seqI, rng1I, enumI, zipI, forT, lcF, wipeS,
  addD_ii, addD_ib, addD_ss, addD_ll, addD_tt, subD_ii, mulD_ii, mulD_li, fdivD_ii, modD_ii, cmpI_ii, eqB_ss, eqB_ii, eqB_bb, eqB_tt, eqB_ll, inB_l, inB_t, ixD_l, ixD_t, ixD_s, slD_l, slD_t, truD_b, truD_i, truD_n, truD_s, truD_l, truD_t, intR_i, intR_b, lenR_s, lenR_l, lenR_t, absR_i, minR_ii, maxR_ii, tupR_l, tupR_t, appD_1, insD_1, extD_1, splitM_1, optK_some, atI_0, atI_1, atI_2, atI_3, atI_4, cutL_1, cutL_2, cutL_t1, cutL_t2,
  List.map_cons, List.map_nil, List.replicate_succ, List.replicate_zero, List.cons_append, List.nil_append, List.length_cons, List.length_nil, List.set_cons_zero, List.set_cons_succ, List.getElem?_cons_zero, List.getElem?_cons_succ, List.drop_succ_cons, List.drop_zero, List.take_succ_cons, List.take_zero, true_and, and_true, true_or, or_true, decide_eq_true_eq, reduceCtorEq, if_true, if_false, ite_true, ite_false, D.int.injEq, Nat.reduceAdd, Nat.reduceSub, Int.reduceSub, Int.reduceAdd, Int.reduceNeg, Bool.false_eq_true, Bool.true_eq_false, decide_true, decide_false, Bool.not_true, Bool.not_false, Bool.not_eq_true', decide_eq_false_iff_not])
local macro_rules | `(tactic| walk_at "di") => `(tactic| simp only [isiT, chainT, e0D, ixO, parO, parS, disp1T, emptyT, getT2, lookD, keyD, keyT, keysD, valD, valQ, dixT, listKR, itemsF, keysI, valsI, itemsI, dputK, newR, emptyR, augI, whileT, dcT, lc2F, Tr.toEs, Bool.or_true, Bool.or_false, Bool.true_or, Bool.false_or, isi2T, inSg, notInSg, tabT, List.isEmpty_nil, List.isEmpty_cons, ib_int_NoneType, ib_int_bool, ib_int_int, ib_int_str, ib_int_list, ib_int_tuple, ib_int_dict, ib_bool_NoneType, ib_bool_bool, ib_bool_int, ib_bool_str, ib_bool_list, ib_bool_tuple, ib_bool_dict, ib_str_NoneType, ib_str_bool, ib_str_int, ib_str_str, ib_str_list, ib_str_tuple, ib_str_dict, ib_list_NoneType, ib_list_bool, ib_list_int, ib_list_str, ib_list_list, ib_list_tuple, ib_list_dict, ib_tuple_NoneType, ib_tuple_bool, ib_tuple_int, ib_tuple_str, ib_tuple_list, ib_tuple_tuple, ib_tuple_dict])
local macro_rules | `(tactic| walk_at "dx") => `(tactic| ((try walk_at "dl"); (try walk_at "di"); (try walk_at "dl"); (try walk_at "di"); (try walk_at "dl")))
local macro_rules | `(tactic| walk_at "cd") => `(tactic| simp only [Code.toD, Code.toDs, Code.kids, List.any_cons, List.any_nil, D.py, PyData.eqv, beq_iff_eq, Bool.or_false, Bool.or_eq_true, Bool.or_eq_false_iff, or_false, false_or, q_name_given, q_name_if, q_name_with, q_name_work, q_name_call, q_name_bound, q_given_name, q_given_if, q_given_with, q_given_work, q_given_call, q_given_bound, q_if_name, q_if_given, q_if_with, q_if_work, q_if_call, q_if_bound, q_with_name, q_with_given, q_with_if, q_with_work, q_with_call, q_with_bound, q_work_name, q_work_given, q_work_if, q_work_with, q_work_call, q_work_bound, q_call_name, q_call_given, q_call_if, q_call_with, q_call_work, q_call_bound, q_bound_name, q_bound_given, q_bound_if, q_bound_with, q_bound_work, q_bound_call, in_name, in_given, in_if, in_with, in_work, in_call])
local macro_rules | `(tactic| walk_at "ce") => `(tactic| (walk_at "cd"; walk_at "dl"; (try walk_at "cd"); (try walk_at "dl"); (try walk_at "cd")))
/-! ### the parts of a code -/
mutual
def Code.parts : Code → List Code
  | .nm x => [.nm x]
  | .gv i => [.gv i]
  | .ite a b c d => .ite a b c d :: (a.parts ++ (b.parts ++ (c.parts ++ d.parts)))
  | .wth x a b => .wth x a b :: (a.parts ++ b.parts)
  | .app w f cs => .app w f cs :: Code.partss cs
def Code.partss : List Code → List Code
  | [] => []
  | c :: cs => c.parts ++ Code.partss cs
end
theorem parts_kids (c : Code) : c.parts = c :: Code.partss c.kids := by
  cases c <;> simp only [Code.parts, Code.partss, Code.kids, List.append_nil]
mutual
theorem parts_len : ∀ c : Code, c.parts.length = c.size
  | .nm _ => by simp [Code.parts, Code.size]
  | .gv _ => by simp [Code.parts, Code.size]
  | .ite a b c d => by simp [Code.parts, Code.size, parts_len a, parts_len b, parts_len c, parts_len d]; omega
  | .wth _ a b => by simp [Code.parts, Code.size, parts_len a, parts_len b]; omega
  | .app _ _ cs => by simp [Code.parts, Code.size, partss_len cs]; omega
theorem partss_len : ∀ cs : List Code, (Code.partss cs).length = Code.sizes cs
  | [] => by simp [Code.partss, Code.sizes]
  | c :: cs => by simp [Code.partss, Code.sizes, parts_len c, partss_len cs]
end
def R_parts (n : Nat) : RD := fun ds k => ∃ c : Code, ds = [c.toD] ∧ c.dp ≤ n ∧ c.size < 2 ^ 16 ∧ k (.lst (Code.toDs c.parts))
theorem toDs_app (as bs : List Code) : Code.toDs as ++ Code.toDs bs = Code.toDs (as ++ bs) := by rw [toDs_map, toDs_map, toDs_map, List.map_append]
theorem p_parts_of (n : Nat) : ∀ ds κ, R_parts (n + 1) ds κ → t_L_parts_of R_in (R_parts n) (endD κ) (enterS 3 ds) := by
  have hs : sizeLine = 16777216 := sizeLine_eq
  rintro ds κ ⟨c, rfl, hn, hz, h⟩
  unfold t_L_parts_of
  walk_at "dl"
  refine ⟨by omega, c, rfl, ?_⟩
  dsimp only
  have hk := kids_sizes c
  refine loopT_ind (I := fun rest ρ => ∃ (done cs : List Code) (s2 : Sl), rest = Code.toDs cs ∧ c.kids = done ++ cs ∧ ρ = [.dat c.toD, .dat (.lst (Code.toDs (c :: Code.partss done))), s2]) ?_ ?_ ⟨[], c.kids, .un, rfl, rfl, by simp only [Code.partss, Code.toDs]⟩
  · rintro ρ ⟨done, cs, s2, e, e2, rfl⟩
    have : cs = [] := by
      cases cs with
      | nil => rfl
      | cons a l => simp only [Code.toDs] at e; cases e
    subst this
    rw [List.append_nil] at e2
    walk_at "dl"
    rw [← e2, ← parts_kids]
    exact h
  · rintro d rest ρ N hN ⟨done, cs, s2, e, e2, rfl⟩
    cases cs with
    | nil => simp only [Code.toDs] at e; cases e
    | cons a cs =>
      simp only [Code.toDs] at e
      obtain ⟨rfl, rfl⟩ := List.cons.inj e
      have ha : a ∈ c.kids := by rw [e2]; simp
      have h1 := kids_dp ha
      have h2 := sizes_mem ha
      have pp : ∀ as bs : List Code, Code.partss (as ++ bs) = Code.partss as ++ Code.partss bs := by
        intro as bs
        induction as with
        | nil => simp [Code.partss]
        | cons x as ih => simp [Code.partss, ih]
      have l1 := partss_len c.kids
      rw [e2, pp] at l1
      simp only [Code.partss, List.length_append] at l1
      rw [← e2] at l1
      walk_at "dl"
      refine ⟨a, rfl, by omega, by omega, ?_⟩
      walk_at "dl"
      refine ⟨by rw [toDs_len, toDs_len, List.length_cons]; omega, hN _ ⟨done ++ [a], cs, .dat a.toD, rfl, by simp [e2], ?_⟩⟩
      rw [toDs_app, pp]
      simp only [Code.partss, List.append_nil, List.cons_append]
end K15

set_option Elab.async false
set_option linter.all false
set_option maxRecDepth 100000
set_option maxHeartbeats 4000000
namespace K15
open PySem L2 DL
local macro_rules | `(tactic| walk_at "dl") => `(tactic| simp only [Tr.toD, toDs_d, map_snoc, map_ins, treeT, seqT, iffT, setT, retT, nextT, retN, blT, DL.binT, nameT, cT, bagT, cutBT, putBT, augBT, consA, nilA, callT, ofF, lstF, lstR, tupT, eqD, neD, inD, notInD, someO, noneO, slT, revF, endD, enterS, ifT, andT, orT, notT, andB, orB, notB, truT, newT, mT, thruT, thruB, frzT, putT, parT, tgtT, methT, onT, isStr, isLst, getT, starA, negT, dropT, breakT, contT, tgD, putA, seqI, rng1I, enumI, zipI, forT, lcF, wipeS,
  addD_ii, addD_ib, addD_ss, addD_ll, addD_tt, subD_ii, mulD_ii, mulD_li, fdivD_ii, modD_ii, cmpI_ii, eqB_ss, eqB_ii, eqB_bb, eqB_tt, eqB_ll, inB_l, inB_t, ixD_l, ixD_t, ixD_s, slD_l, slD_t, truD_b, truD_i, truD_n, truD_s, truD_l, truD_t, intR_i, intR_b, lenR_s, lenR_l, lenR_t, absR_i, minR_ii, maxR_ii, tupR_l, tupR_t, appD_1, insD_1, extD_1, splitM_1, optK_some, atI_0, atI_1, atI_2, atI_3, atI_4, cutL_1, cutL_2, cutL_t1, cutL_t2,
  List.map_cons, List.map_nil, List.replicate_succ, List.replicate_zero, List.cons_append, List.nil_append, List.length_cons, List.length_nil, List.set_cons_zero, List.set_cons_succ, List.getElem?_cons_zero, List.getElem?_cons_succ, List.drop_succ_cons, List.drop_zero, List.take_succ_cons, List.take_zero, true_and, and_true, true_or, or_true, decide_eq_true_eq, reduceCtorEq, if_true, if_false, ite_true, ite_false, D.int.injEq, Nat.reduceAdd, Nat.reduceSub, Int.reduceSub, Int.reduceAdd, Int.reduceNeg, Bool.false_eq_true, Bool.true_eq_false, decide_true, decide_false, Bool.not_true, Bool.not_false, Bool.not_eq_true', decide_eq_false_iff_not])
local macro_rules | `(tactic| walk_at "di") => `(tactic| simp only [isiT, chainT, e0D, ixO, parO, parS, disp1T, emptyT, getT2, lookD, keyD, keyT, keysD, valD, valQ, dixT, listKR, itemsF, keysI, valsI, itemsI, dputK, newR, emptyR, augI, whileT, dcT, lc2F, Tr.toEs, Bool.or_true, Bool.or_false, Bool.true_or, Bool.false_or, isi2T, inSg, notInSg, tabT, List.isEmpty_nil, List.isEmpty_cons, ib_int_NoneType, ib_int_bool, ib_int_int, ib_int_str, ib_int_list, ib_int_tuple, ib_int_dict, ib_bool_NoneType, ib_bool_bool, ib_bool_int, ib_bool_str, ib_bool_list, ib_bool_tuple, ib_bool_dict, ib_str_NoneType, ib_str_bool, ib_str_int, ib_str_str, ib_str_list, ib_str_tuple, ib_str_dict, ib_list_NoneType, ib_list_bool, ib_list_int, ib_list_str, ib_list_list, ib_list_tuple, ib_list_dict, ib_tuple_NoneType, ib_tuple_bool, ib_tuple_int, ib_tuple_str, ib_tuple_list, ib_tuple_tuple, ib_tuple_dict])
local macro_rules | `(tactic| walk_at "dx") => `(tactic| ((try walk_at "dl"); (try walk_at "di"); (try walk_at "dl"); (try walk_at "di"); (try walk_at "dl")))
local macro_rules | `(tactic| walk_at "cd") => `(tactic| simp only [Code.toD, Code.toDs, Code.kids, List.any_cons, List.any_nil, D.py, PyData.eqv, beq_iff_eq, Bool.or_false, Bool.or_eq_true, Bool.or_eq_false_iff, or_false, false_or, q_name_given, q_name_if, q_name_with, q_name_work, q_name_call, q_name_bound, q_given_name, q_given_if, q_given_with, q_given_work, q_given_call, q_given_bound, q_if_name, q_if_given, q_if_with, q_if_work, q_if_call, q_if_bound, q_with_name, q_with_given, q_with_if, q_with_work, q_with_call, q_with_bound, q_work_name, q_work_given, q_work_if, q_work_with, q_work_call, q_work_bound, q_call_name, q_call_given, q_call_if, q_call_with, q_call_work, q_call_bound, q_bound_name, q_bound_given, q_bound_if, q_bound_with, q_bound_work, q_bound_call, in_name, in_given, in_if, in_with, in_work, in_call])
local macro_rules | `(tactic| walk_at "ce") => `(tactic| (walk_at "cd"; walk_at "dl"; (try walk_at "cd"); (try walk_at "dl"); (try walk_at "cd")))
/-! ### answers -/
abbrev Tab := Str → List Int → Int
mutual
def Code.ans (T : Tab) (g : Int → Int) : Code → (Str → Int) → Int
  | .nm x, r => r x
  | .gv i, _ => g i
  | .ite a b c d, r => if a.ans T g r = b.ans T g r then c.ans T g r else d.ans T g r
  | .wth x a b, r => b.ans T g fun y => if y = x then a.ans T g r else r y
  | .app _ f cs, r => T f (Code.anss T g cs r)
def Code.anss (T : Tab) (g : Int → Int) : List Code → (Str → Int) → List Int
  | [], _ => []
  | c :: cs, r => c.ans T g r :: Code.anss T g cs r
end
mutual
/-- no calls, and all givens are there -/
def Code.nc (H : Int) : Code → Prop
  | .nm _ => True
  | .gv i => 0 ≤ i ∧ i < H
  | .ite a b c d => a.nc H ∧ b.nc H ∧ c.nc H ∧ d.nc H
  | .wth _ a b => a.nc H ∧ b.nc H
  | .app w _ cs => w = true ∧ Code.ncs H cs
def Code.ncs (H : Int) : List Code → Prop
  | [] => True
  | c :: cs => c.nc H ∧ Code.ncs H cs
end
/-! answers, and no calls, as meanings -/
def ansA (T : Tab) (g : Int → Int) : Alg Int where
  gv := g
  ite a b c d := if a = b then c else d
  wth a f := f a
  app _ f xs := T f xs
mutual
theorem ans_sem (T : Tab) (g : Int → Int) : ∀ (c : Code) (r : Str → Int), c.ans T g r = c.sem (ansA T g) r
  | .nm x, r => by simp only [Code.ans, Code.sem]
  | .gv i, r => by simp only [Code.ans, Code.sem, ansA]
  | .ite a b c d, r => by simp only [Code.ans, Code.sem, ansA, ans_sem T g a r, ans_sem T g b r, ans_sem T g c r, ans_sem T g d r]
  | .wth y a b, r => by simp only [Code.ans, Code.sem, ansA, ans_sem T g a r, ans_sem T g b]; rfl
  | .app w f cs, r => by simp only [Code.ans, Code.sem, anss_sem T g cs r]; rfl
theorem anss_sem (T : Tab) (g : Int → Int) : ∀ (cs : List Code) (r : Str → Int), Code.anss T g cs r = Code.sems (ansA T g) cs r
  | [], r => by simp only [Code.anss, Code.sems]
  | c :: cs, r => by simp only [Code.anss, Code.sems, ans_sem T g c r, anss_sem T g cs r]
end
def ncA (H : Int) : Alg Prop where
  gv i := 0 ≤ i ∧ i < H
  ite a b c d := a ∧ b ∧ c ∧ d
  wth a f := a ∧ f True
  app w _ xs := w = true ∧ ∀ x ∈ xs, x
theorem setV_true (x : Str) : setV (fun _ => True) x True = fun _ => True := by
  funext y
  unfold setV
  split <;> rfl
mutual
theorem nc_sem (H : Int) : ∀ c : Code, c.nc H ↔ c.sem (ncA H) fun _ => True
  | .nm x => by simp only [Code.nc, Code.sem]
  | .gv i => by simp only [Code.nc, Code.sem, ncA]
  | .ite a b c d => by simp only [Code.nc, Code.sem, ncA]; rw [nc_sem H a, nc_sem H b, nc_sem H c, nc_sem H d]; rfl
  | .wth y a b => by simp only [Code.nc, Code.sem, ncA, setV_true]; rw [nc_sem H a, nc_sem H b]; rfl
  | .app w f cs => by simp only [Code.nc, Code.sem, ncA]; rw [ncs_sem H cs]; rfl
theorem ncs_sem (H : Int) : ∀ cs : List Code, Code.ncs H cs ↔ ∀ x ∈ Code.sems (ncA H) cs (fun _ => True), x
  | [] => by simp [Code.ncs, Code.sems]
  | c :: cs => by
    simp only [Code.ncs, Code.sems, List.mem_cons, forall_eq_or_imp]
    rw [nc_sem H c, ncs_sem H cs]
end
def tv (tabs : List (D × D)) : Tab := fun f is => match valQ tabs [.inr f, .inl (is.length : Nat)] with
  | some (.dic true es) => (match valQ es (is.map .inl) with
    | some (.int v) => v
    | _ => 0)
  | _ => 0
def TabOk (tabs : List (D × D)) : Prop := ∀ q, valQ tabs q = none ∨ ∃ es, valQ tabs q = some (.dic true es) ∧ ∀ q2, valQ es q2 = none ∨ ∃ v, valQ es q2 = some (.int v)
abbrev wD (m : Int) (tabs : List (D × D)) (ns : List (Str × D)) : D := .tup [.int m, .dic true tabs, .dic false (eD ns)]
def R_ans (n : Nat) : RD := fun ds k => ∃ (c : Code) (m : Int) (tabs : List (D × D)) (ns qs : List (Str × D)) (hd : List Int) (r : Str → Int), ds = [c.toD, wD m tabs ns, .dic false (eD qs), .lst (hd.map .int)] ∧ c.dp ≤ n ∧ c.size < 2 ^ 12 ∧ c.nc (hd.length : Nat) ∧
  TabOk tabs ∧ qs.length + c.dp < 2 ^ 10 ∧ (qs.map (·.1)).Nodup ∧ (∀ x, (lkS qs x).getD ((lkS ns x).getD (.int 0)) = .int (r x)) ∧ k (.int (c.ans (tv tabs) (fun i => hd.getD i.toNat 0) r))
theorem keys_ints : ∀ is : List Int, keysD (is.map .int) = some (is.map .inl)
  | [] => rfl
  | i :: is => by
    show (match keyD (.int i), keysD (is.map .int) with
      | some j, some js => some (j :: js)
      | _, _ => none) = _
    rw [keys_ints is]; rfl
end K15

set_option Elab.async false
set_option linter.all false
set_option maxRecDepth 100000
set_option maxHeartbeats 4000000
namespace K15
open PySem L2 DL
local macro_rules | `(tactic| walk_at "dl") => `(tactic| simp only [Tr.toD, toDs_d, map_snoc, map_ins, treeT, seqT, iffT, setT, retT, nextT, retN, blT, DL.binT, nameT, cT, bagT, cutBT, putBT, augBT, consA, nilA, callT, ofF, lstF, lstR, tupT, eqD, neD, inD, notInD, someO, noneO, slT, revF, endD, enterS, ifT, andT, orT, notT, andB, orB, notB, truT, newT, mT, thruT, thruB, frzT, putT, parT, tgtT, methT, onT, isStr, isLst, getT, starA, negT, dropT, breakT, contT, tgD, putA, seqI, rng1I, enumI, zipI, forT, lcF, wipeS,
  addD_ii, addD_ib, addD_ss, addD_ll, addD_tt, subD_ii, mulD_ii, mulD_li, fdivD_ii, modD_ii, cmpI_ii, eqB_ss, eqB_ii, eqB_bb, eqB_tt, eqB_ll, inB_l, inB_t, ixD_l, ixD_t, ixD_s, slD_l, slD_t, truD_b, truD_i, truD_n, truD_s, truD_l, truD_t, intR_i, intR_b, lenR_s, lenR_l, lenR_t, absR_i, minR_ii, maxR_ii, tupR_l, tupR_t, appD_1, insD_1, extD_1, splitM_1, optK_some, atI_0, atI_1, atI_2, atI_3, atI_4, cutL_1, cutL_2, cutL_t1, cutL_t2,
  List.map_cons, List.map_nil, List.replicate_succ, List.replicate_zero, List.cons_append, List.nil_append, List.length_cons, List.length_nil, List.set_cons_zero, List.set_cons_succ, List.getElem?_cons_zero, List.getElem?_cons_succ, List.drop_succ_cons, List.drop_zero, List.take_succ_cons, List.take_zero, true_and, and_true, true_or, or_true, decide_eq_true_eq, reduceCtorEq, if_true, if_false, ite_true, ite_false, D.int.injEq, Nat.reduceAdd, Nat.reduceSub, Int.reduceSub, Int.reduceAdd, Int.reduceNeg, Bool.false_eq_true, Bool.true_eq_false, decide_true, decide_false, Bool.not_true, Bool.not_false, Bool.not_eq_true', decide_eq_false_iff_not])
local macro_rules | `(tactic| walk_at "di") => `(tactic| simp only [isiT, chainT, e0D, ixO, parO, parS, disp1T, emptyT, getT2, lookD, keyD, keyT, keysD, valD, valQ, dixT, listKR, itemsF, keysI, valsI, itemsI, dputK, newR, emptyR, augI, whileT, dcT, lc2F, Tr.toEs, Bool.or_true, Bool.or_false, Bool.true_or, Bool.false_or, isi2T, inSg, notInSg, tabT, List.isEmpty_nil, List.isEmpty_cons, ib_int_NoneType, ib_int_bool, ib_int_int, ib_int_str, ib_int_list, ib_int_tuple, ib_int_dict, ib_bool_NoneType, ib_bool_bool, ib_bool_int, ib_bool_str, ib_bool_list, ib_bool_tuple, ib_bool_dict, ib_str_NoneType, ib_str_bool, ib_str_int, ib_str_str, ib_str_list, ib_str_tuple, ib_str_dict, ib_list_NoneType, ib_list_bool, ib_list_int, ib_list_str, ib_list_list, ib_list_tuple, ib_list_dict, ib_tuple_NoneType, ib_tuple_bool, ib_tuple_int, ib_tuple_str, ib_tuple_list, ib_tuple_tuple, ib_tuple_dict])
local macro_rules | `(tactic| walk_at "dx") => `(tactic| ((try walk_at "dl"); (try walk_at "di"); (try walk_at "dl"); (try walk_at "di"); (try walk_at "dl")))
local macro_rules | `(tactic| walk_at "cd") => `(tactic| simp only [Code.toD, Code.toDs, Code.kids, List.any_cons, List.any_nil, D.py, PyData.eqv, beq_iff_eq, Bool.or_false, Bool.or_eq_true, Bool.or_eq_false_iff, or_false, false_or, q_name_given, q_name_if, q_name_with, q_name_work, q_name_call, q_name_bound, q_given_name, q_given_if, q_given_with, q_given_work, q_given_call, q_given_bound, q_if_name, q_if_given, q_if_with, q_if_work, q_if_call, q_if_bound, q_with_name, q_with_given, q_with_if, q_with_work, q_with_call, q_with_bound, q_work_name, q_work_given, q_work_if, q_work_with, q_work_call, q_work_bound, q_call_name, q_call_given, q_call_if, q_call_with, q_call_work, q_call_bound, q_bound_name, q_bound_given, q_bound_if, q_bound_with, q_bound_work, q_bound_call, in_name, in_given, in_if, in_with, in_work, in_call])
local macro_rules | `(tactic| walk_at "ce") => `(tactic| (walk_at "cd"; walk_at "dl"; (try walk_at "cd"); (try walk_at "dl"); (try walk_at "cd")))
theorem nc_kids {H : Int} {c d : Code} (h : c.nc H) (hd : d ∈ c.kids) : d.nc H := by
  have ncs : ∀ {cs : List Code}, Code.ncs H cs → d ∈ cs → d.nc H := by
    intro cs
    induction cs with
    | nil => intro _ h; cases h
    | cons e cs ih =>
      intro h hd
      simp only [Code.ncs] at h
      rcases List.mem_cons.mp hd with rfl | hd
      · exact h.1
      · exact ih h.2 hd
  cases c with
  | nm y => cases hd
  | gv y => cases hd
  | ite a b c e =>
    simp only [Code.nc] at h
    simp only [Code.kids, List.mem_cons, List.not_mem_nil, or_false] at hd
    rcases hd with rfl | rfl | rfl | rfl
    · exact h.1
    · exact h.2.1
    · exact h.2.2.1
    · exact h.2.2.2
  | wth y a b =>
    simp only [Code.nc] at h
    simp only [Code.kids, List.mem_cons, List.not_mem_nil, or_false] at hd
    rcases hd with rfl | rfl
    · exact h.1
    · exact h.2
  | app w f cs => simp only [Code.nc] at h; exact ncs h.2 hd
theorem anss_map (T : Tab) (g : Int → Int) (r : Str → Int) : ∀ cs : List Code, Code.anss T g cs r = cs.map fun c => c.ans T g r
  | [] => by simp only [Code.anss, List.map_nil]
  | c :: cs => by simp only [Code.anss, List.map_cons, anss_map T g r cs]
theorem p_answer (n : Nat) : ∀ ds κ, R_ans (n + 1) ds κ → t_L_answer (R_ans n) (endD κ) (enterS 8 ds) := by
  have hs : sizeLine = 16777216 := sizeLine_eq
  rintro ds κ ⟨c, m, tabs, ns, qs, hd, r, rfl, hn, hz, hc, ht, hl, hq, hr, h⟩
  unfold t_L_answer
  have sub : ∀ (d : Code) (κ' : D → Prop), d ∈ c.kids → κ' (.int (d.ans (tv tabs) (fun i => hd.getD i.toNat 0) r)) → R_ans n [d.toD, wD m tabs ns, .dic false (eD qs), .lst (hd.map .int)] κ' := fun d κ' hd' q => by
    have h1 := kids_dp hd'
    have h2 := sizes_mem hd'
    have h3 := kids_sizes c
    exact ⟨d, m, tabs, ns, qs, hd, r, rfl, by omega, by omega, nc_kids hc hd', ht, by omega, hq, hr, q⟩
  have h2 : 2 ≤ sizeLine := by omega
  have h1 : 1 ≤ sizeLine := by omega
  have h0 : 0 ≤ sizeLine := by omega
  cases c with
  | nm y =>
    walk_at "cd"; walk_at "dl"; (try walk_at "cd")
    simp only [Code.ans] at h
    refine ⟨false, eD qs, rfl, ?_⟩
    refine ⟨D.str y, atI_1, ?_⟩
    refine ⟨.dic false (eD ns), atI_2, false, eD ns, rfl, .str y, atI_1, ?_⟩
    refine ⟨.inr y, rfl, .inr y, rfl, ?_⟩
    rw [valD_eD]
    dsimp only
    rw [valD_eD, hr]
    exact h
  | gv i =>
    simp only [Code.nc] at hc
    walk_at "cd"; walk_at "dl"; (try walk_at "cd")
    obtain ⟨e, e1, e2⟩ := atI_lt (l := hd.map D.int) (i := i) hc.1 (by rw [List.length_map]; omega)
    refine optK_of e1 ?_
    rw [List.getElem?_map] at e2
    obtain ⟨v, hv, rfl⟩ := Option.map_eq_some_iff.mp e2
    simp only [Code.ans, List.getD_eq_getElem?_getD, hv, Option.getD_some] at h
    exact h
  | wth y a b =>
    simp only [Code.dp] at hl
    walk_at "cd"; walk_at "dl"; (try walk_at "cd")
    rw [if_neg (fun z => z), if_neg (fun z => z)]
    refine sub a _ (by simp only [Code.kids]; exact List.mem_cons_self) ?_
    refine ⟨eD qs, rfl, h2, h1, by simp; omega, eD qs ++ [(.str y, .int (a.ans (tv tabs) (fun i => hd.getD i.toNat 0) r))], by rw [List.map_append]; rfl, fun e he => ?_, ?_⟩
    · rcases List.mem_append.mp he with z | z
      · obtain ⟨q, _, rfl⟩ := List.mem_map.mp z
        rfl
      · obtain rfl := List.mem_singleton.mp z
        rfl
    · rw [dict_snoc hq]
      have := putS_len qs y (.int (a.ans (tv tabs) (fun i => hd.getD i.toNat 0) r))
      simp only [Code.dp] at hn
      simp only [Code.size] at hz
      simp only [Code.nc] at hc
      refine ⟨b, m, tabs, ns, putS qs y (.int (a.ans (tv tabs) (fun i => hd.getD i.toNat 0) r)), hd, _, rfl, by omega, by omega, hc.2, ht, by omega, putS_nodup hq, fun x => ?_, by simp only [Code.ans] at h; exact h⟩
      rw [lkS_put]
      by_cases e : x = y
      · rw [if_pos e, if_pos e]; rfl
      · rw [if_neg e, if_neg e]; exact hr x
  | ite a b c d =>
    generalize hT : (seqT (setT 6 _) _ : TSD) = tl
    walk_at "cd"; walk_at "dl"; (try walk_at "cd")
    subst hT
    rw [if_neg (fun z => z), if_neg (fun z => z), if_neg (fun z => z), if_neg (fun z => z)]
    walk_at "dl"
    have e : cutL [D.str (Str.ofString "if"), a.toD, b.toD, c.toD, d.toD] (some 1) (some 3) = Code.toDs [a, b] := by simp only [Code.toDs]; rfl
    rw [e]
    refine ⟨by rw [toDs_len]; simp; omega, ?_⟩
    have mk : ∀ x, x ∈ [a, b, c, d] → x ∈ (Code.ite a b c d).kids := fun x hx => by simp only [Code.kids]; exact hx
    refine comp_kids_fn (f := fun x => .int (x.ans (tv tabs) (fun i => hd.getD i.toNat 0) r)) (fun x hx κ' q => ?_) ?_
    · exact sub x κ' (mk x (by simp only [List.mem_cons, List.not_mem_nil, or_false] at hx ⊢; rcases hx with rfl | rfl <;> simp)) q
    · walk_at "dl"
      simp only [Code.ans] at h
      by_cases q : a.ans (tv tabs) (fun i => hd.getD i.toNat 0) r = b.ans (tv tabs) (fun i => hd.getD i.toNat 0) r
      · rw [if_pos q] at h
        exact ite_t q (sub c _ (mk c (by simp)) h)
      · rw [if_neg q] at h
        exact ite_f q (sub d _ (mk d (by simp)) h)
  | app w f cs =>
    simp only [Code.nc] at hc
    obtain ⟨rfl, hc⟩ := hc
    generalize hT : (seqT (setT 6 _) _ : TSD) = tl
    walk_at "cd"; walk_at "dl"; (try walk_at "cd")
    rw [if_neg (fun z => z), if_neg (fun z => z), if_neg (fun z => z)]
    have lc : cs.length < 2 ^ 12 := by
      have := sizes_len cs
      simp only [Code.size] at hz
      omega
    refine ⟨by rw [toDs_len]; omega, ?_⟩
    refine comp_kids_fn (f := fun x => .int (x.ans (tv tabs) (fun i => hd.getD i.toNat 0) r)) (fun x hx κ' q => sub x κ' (by simp only [Code.kids]; exact hx) q) ?_
    generalize hI : cs.map (fun x => x.ans (tv tabs) (fun i => hd.getD i.toNat 0) r) = is
    have eI : cs.map (fun x => D.int (x.ans (tv tabs) (fun i => hd.getD i.toNat 0) r)) = is.map .int := by rw [← hI, List.map_map]; rfl
    rw [eI]
    simp only [Code.ans, anss_map, hI, tv] at h
    simp only [getT2]
    walk_at "dl"
    rw [List.length_map]
    refine ⟨true, tabs, rfl, h2, .inl ?_⟩
    refine ⟨[.inr f, .inl (is.length : Nat)], rfl, ?_⟩
    rcases ht [.inr f, .inl (is.length : Nat)] with q | ⟨es, q1, q2⟩
    · rw [q] at h ⊢
      exact ⟨true, [], rfl, is.map .inl, keys_ints is, h⟩
    · rw [q1] at h ⊢
      refine ⟨true, es, rfl, is.map .inl, keys_ints is, ?_⟩
      rcases q2 (is.map .inl) with q | ⟨v, q⟩
      · rw [q]
        simp only [q] at h
        exact h
      · rw [q]
        simp only [q] at h
        exact h
end K15

set_option Elab.async false
set_option linter.all false
set_option maxRecDepth 100000
set_option maxHeartbeats 4000000
namespace K15
open PySem L2 DL
local macro_rules | `(tactic| walk_at "dl") => `(tactic| simp only [Tr.toD, toDs_d, map_snoc, map_ins, treeT, seqT, iffT, setT, retT, nextT, retN, blT, DL.binT, nameT, cT, bagT, cutBT, putBT, augBT, consA, nilA, callT, ofF, lstF, lstR, tupT, eqD, neD, inD, notInD, someO, noneO, slT, revF, endD, enterS, ifT, andT, orT, notT, andB, orB, notB, truT, newT, mT, thruT, thruB, frzT, putT, parT, tgtT, methT, onT, isStr, isLst, getT, starA, negT, dropT, breakT, contT, tgD, putA, seqI, rng1I, enumI, zipI, forT, lcF, wipeS,
  addD_ii, addD_ib, addD_ss, addD_ll, addD_tt, subD_ii, mulD_ii, mulD_li, fdivD_ii, modD_ii, cmpI_ii, eqB_ss, eqB_ii, eqB_bb, eqB_tt, eqB_ll, inB_l, inB_t, ixD_l, ixD_t, ixD_s, slD_l, slD_t, truD_b, truD_i, truD_n, truD_s, truD_l, truD_t, intR_i, intR_b, lenR_s, lenR_l, lenR_t, absR_i, minR_ii, maxR_ii, tupR_l, tupR_t, appD_1, insD_1, extD_1, splitM_1, optK_some, atI_0, atI_1, atI_2, atI_3, atI_4, cutL_1, cutL_2, cutL_t1, cutL_t2,
  List.map_cons, List.map_nil, List.replicate_succ, List.replicate_zero, List.cons_append, List.nil_append, List.length_cons, List.length_nil, List.set_cons_zero, List.set_cons_succ, List.getElem?_cons_zero, List.getElem?_cons_succ, List.drop_succ_cons, List.drop_zero, List.take_succ_cons, List.take_zero, true_and, and_true, true_or, or_true, decide_eq_true_eq, reduceCtorEq, if_true, if_false, ite_true, ite_false, D.int.injEq, Nat.reduceAdd, Nat.reduceSub, Int.reduceSub, Int.reduceAdd, Int.reduceNeg, Bool.false_eq_true, Bool.true_eq_false, decide_true, decide_false, Bool.not_true, Bool.not_false, Bool.not_eq_true', decide_eq_false_iff_not])
local macro_rules | `(tactic| walk_at "di") => `(tactic| simp only [isiT, chainT, e0D, ixO, parO, parS, disp1T, emptyT, getT2, lookD, keyD, keyT, keysD, valD, valQ, dixT, listKR, itemsF, keysI, valsI, itemsI, dputK, newR, emptyR, augI, whileT, dcT, lc2F, Tr.toEs, Bool.or_true, Bool.or_false, Bool.true_or, Bool.false_or, isi2T, inSg, notInSg, tabT, List.isEmpty_nil, List.isEmpty_cons, ib_int_NoneType, ib_int_bool, ib_int_int, ib_int_str, ib_int_list, ib_int_tuple, ib_int_dict, ib_bool_NoneType, ib_bool_bool, ib_bool_int, ib_bool_str, ib_bool_list, ib_bool_tuple, ib_bool_dict, ib_str_NoneType, ib_str_bool, ib_str_int, ib_str_str, ib_str_list, ib_str_tuple, ib_str_dict, ib_list_NoneType, ib_list_bool, ib_list_int, ib_list_str, ib_list_list, ib_list_tuple, ib_list_dict, ib_tuple_NoneType, ib_tuple_bool, ib_tuple_int, ib_tuple_str, ib_tuple_list, ib_tuple_tuple, ib_tuple_dict])
local macro_rules | `(tactic| walk_at "dx") => `(tactic| ((try walk_at "dl"); (try walk_at "di"); (try walk_at "dl"); (try walk_at "di"); (try walk_at "dl")))
local macro_rules | `(tactic| walk_at "cd") => `(tactic| simp only [Code.toD, Code.toDs, Code.kids, List.any_cons, List.any_nil, D.py, PyData.eqv, beq_iff_eq, Bool.or_false, Bool.or_eq_true, Bool.or_eq_false_iff, or_false, false_or, q_name_given, q_name_if, q_name_with, q_name_work, q_name_call, q_name_bound, q_given_name, q_given_if, q_given_with, q_given_work, q_given_call, q_given_bound, q_if_name, q_if_given, q_if_with, q_if_work, q_if_call, q_if_bound, q_with_name, q_with_given, q_with_if, q_with_work, q_with_call, q_with_bound, q_work_name, q_work_given, q_work_if, q_work_with, q_work_call, q_work_bound, q_call_name, q_call_given, q_call_if, q_call_with, q_call_work, q_call_bound, q_bound_name, q_bound_given, q_bound_if, q_bound_with, q_bound_work, q_bound_call, in_name, in_given, in_if, in_with, in_work, in_call])
local macro_rules | `(tactic| walk_at "ce") => `(tactic| (walk_at "cd"; walk_at "dl"; (try walk_at "cd"); (try walk_at "dl"); (try walk_at "cd")))
/-! ### worlds -/
def IntV (es : List (D × D)) : Prop := ∀ e ∈ es, ∃ v, e.2 = .int v
theorem intV_nil : IntV [] := fun _ h => nomatch h
theorem putQ_len (es : List (D × D)) (k d : D) : (putQ es k d).length ≤ es.length + 1 := by
  unfold putQ
  split <;> simp
theorem putQ_int {es : List (D × D)} {k : D} {v : Int} (h : IntV es) : IntV (putQ es k (.int v)) := by
  unfold putQ
  split
  · intro e he
    obtain ⟨f, hf, rfl⟩ := List.mem_map.mp he
    split
    · exact ⟨v, rfl⟩
    · exact h f hf
  · intro e he
    rcases List.mem_append.mp he with z | z
    · exact h e z
    · obtain rfl := List.mem_singleton.mp z
      exact ⟨v, rfl⟩
theorem valQ_int (q : List Key) : ∀ {es : List (D × D)}, IntV es → valQ es q = none ∨ ∃ v, valQ es q = some (.int v)
  | [], _ => .inl rfl
  | (k, d) :: es, h => by
    unfold valQ
    split
    · obtain ⟨v, hv⟩ := h (k, d) List.mem_cons_self
      exact .inr ⟨v, by rw [show d = .int v from hv]⟩
    · exact valQ_int q fun e he => h e (List.mem_cons_of_mem _ he)
abbrev W4 (a b c d : List (D × D)) : List (D × Tr) := [(.tup [.str "up", .int 1], .m true (a.map dE)), (.tup [.str "up", .int 2], .m true (b.map dE)), (.tup [.str "of", .int 2], .m true (c.map dE)), (.tup [.str "one", .int 0], .m true (d.map dE))]
abbrev W4D (a b c d : List (D × D)) : List (D × D) := [(.tup [.str "up", .int 1], .dic true a), (.tup [.str "up", .int 2], .dic true b), (.tup [.str "of", .int 2], .dic true c), (.tup [.str "one", .int 0], .dic true d)]
theorem w4_to (a b c d : List (D × D)) : Tr.toEs (W4 a b c d) = W4D a b c d := by
  simp only [Tr.toEs, Tr.toD, toEs_dE]
theorem w4_tab {a b c d : List (D × D)} (ha : IntV a) (hb : IntV b) (hc : IntV c) (hd : IntV d) : TabOk (W4D a b c d) := by
  intro q
  unfold W4D
  simp only [valQ]
  split
  · exact .inr ⟨a, rfl, fun q2 => valQ_int q2 ha⟩
  · split
    · exact .inr ⟨b, rfl, fun q2 => valQ_int q2 hb⟩
    · split
      · exact .inr ⟨c, rfl, fun q2 => valQ_int q2 hc⟩
      · split
        · exact .inr ⟨d, rfl, fun q2 => valQ_int q2 hd⟩
        · exact .inl rfl
abbrev kU1 : List Key := [.inr "up", .inl 1]
abbrev kU2 : List Key := [.inr "up", .inl 2]
abbrev kO2 : List Key := [.inr "of", .inl 2]
abbrev kO0 : List Key := [.inr "one", .inl 0]
theorem kt1 : keyT (.tup [.str "up", .int 1]) = some kU1 := rfl
theorem kt2 : keyT (.tup [.str "up", .int 2]) = some kU2 := rfl
theorem kt3 : keyT (.tup [.str "of", .int 2]) = some kO2 := rfl
theorem kt4 : keyT (.tup [.str "one", .int 0]) = some kO0 := rfl
theorem up_of : ¬ ("up" : Str) = "of" := by decide +kernel
theorem up_one : ¬ ("up" : Str) = "one" := by decide +kernel
theorem of_one : ¬ ("of" : Str) = "one" := by decide +kernel
theorem kn12 : ¬ kU1 = kU2 := by decide +kernel
theorem kn13 : ¬ kU1 = kO2 := by decide +kernel
theorem kn23 : ¬ kU2 = kO2 := by decide +kernel
theorem valE1 {a b c d : List (D × D)} : valE (W4 a b c d) kU1 = some (.m true (a.map dE)) := by
  simp only [valE, kt1, if_true]
theorem valE2 {a b c d : List (D × D)} : valE (W4 a b c d) kU2 = some (.m true (b.map dE)) := by
  simp only [valE, kt1, kt2, Option.some.injEq, if_neg kn12, if_true]
theorem valE3 {a b c d : List (D × D)} : valE (W4 a b c d) kO2 = some (.m true (c.map dE)) := by
  simp only [valE, kt1, kt2, kt3, Option.some.injEq, if_neg kn13, if_neg kn23, if_true]
theorem setE1 {a b c d x : List (D × D)} : setE (W4 a b c d) kU1 (.m true (x.map dE)) = W4 x b c d := by
  simp only [setE, kt1, if_true]
theorem setE2 {a b c d x : List (D × D)} : setE (W4 a b c d) kU2 (.m true (x.map dE)) = W4 a x c d := by
  simp only [setE, kt1, kt2, Option.some.injEq, if_neg kn12, if_true]
theorem setE3 {a b c d x : List (D × D)} : setE (W4 a b c d) kO2 (.m true (x.map dE)) = W4 a b x d := by
  simp only [setE, kt1, kt2, kt3, Option.some.injEq, if_neg kn13, if_neg kn23, if_true]
def IntS (qs : List (Str × D)) : Prop := ∀ q ∈ qs, ∃ v, q.2 = .int v
theorem putS_int {qs : List (Str × D)} {x : Str} {v : Int} (h : IntS qs) : IntS (putS qs x (.int v)) := by
  unfold putS
  split
  · intro e he
    obtain ⟨f, hf, rfl⟩ := List.mem_map.mp he
    split
    · exact ⟨v, rfl⟩
    · exact h f hf
  · intro e he
    rcases List.mem_append.mp he with z | z
    · exact h e z
    · obtain rfl := List.mem_singleton.mp z
      exact ⟨v, rfl⟩
theorem lkS_int {qs : List (Str × D)} (h : IntS qs) (x : Str) : ∃ v, (lkS qs x).getD (.int 0) = .int v := by
  induction qs with
  | nil => exact ⟨0, rfl⟩
  | cons q qs ih =>
    obtain ⟨y, d⟩ := q
    rw [lkS_cons]
    split
    · obtain ⟨v, hv⟩ := h (y, d) List.mem_cons_self
      exact ⟨v, hv⟩
    · exact ih fun e he => h e (List.mem_cons_of_mem _ he)
theorem putS_keys {qs : List (Str × D)} {x y : Str} {d : D} : y ∈ (putS qs x d).map (·.1) ↔ y ∈ qs.map (·.1) ∨ y = x := by
  have h := lkS_put (qs := qs) (x := x) (y := y) (d := d)
  have n1 := lkS_none (ps := putS qs x d) (x := y)
  have n2 := lkS_none (ps := qs) (x := y)
  by_cases e : y = x
  · rw [if_pos e] at h
    refine ⟨fun _ => .inr e, fun _ => Classical.byContradiction fun z => ?_⟩
    rw [n1.mpr z] at h; cases h
  · rw [if_neg e] at h
    rw [h] at n1
    constructor
    · intro z
      refine .inl (Classical.byContradiction fun q => ?_)
      exact n1.mp (n2.mpr q) z
    · rintro (z | z)
      · exact Classical.byContradiction fun q => n2.mp (n1.mpr q) z
      · exact absurd z e
theorem merge_int : ∀ {ps : List (Str × Int)} {qs : List (Str × D)}, IntS qs → (qs.map (·.1)).Nodup → ∃ ns, mergeD (eD qs) (ps.map fun p => (.str p.1, .int p.2)) = eD ns ∧ IntS ns ∧ (ns.map (·.1)).Nodup ∧ ∀ x, x ∈ ns.map (·.1) ↔ x ∈ qs.map (·.1) ∨ x ∈ ps.map (·.1)
  | [], qs, h, hn => ⟨qs, rfl, h, hn, fun x => by simp⟩
  | (x, v) :: ps, qs, h, hq => by
    obtain ⟨ns, e, hn, nd, hm⟩ := merge_int (ps := ps) (putS_int (x := x) (v := v) h) (putS_nodup hq)
    refine ⟨ns, ?_, hn, nd, fun y => ?_⟩
    · rw [← e, ← putD_eD]
      rfl
    · rw [hm y, putS_keys, List.map_cons, List.mem_cons]
      constructor
      · rintro ((a | b) | c)
        · exact .inl a
        · exact .inr (.inl b)
        · exact .inr (.inr c)
      · rintro (a | b | c)
        · exact .inl (.inl a)
        · exact .inl (.inr b)
        · exact .inr c
theorem pairs_out {ws : List Str} {es : List D} (h : All2 (fun d e => ∃ (w : Str) (v : Int), d = .str w ∧ e = .tup [.str w, .int v]) (ws.map D.str) es) : ∃ ps : List (Str × Int), es = (ps.map fun p => D.tup [.str p.1, .int p.2]) ∧ ps.map (·.1) = ws := by
  induction ws generalizing es with
  | nil => cases h; exact ⟨[], rfl, rfl⟩
  | cons x ws ih =>
    cases h with
    | cons hr t =>
      obtain ⟨w, v, e1, rfl⟩ := hr
      cases e1
      obtain ⟨ps, rfl, e2⟩ := ih t
      exact ⟨(x, v) :: ps, rfl, by rw [List.map_cons, e2]⟩
def R_world : RD := fun ds k => ∃ (m : Int) (ws : List Str), ds = [.bag, .int m, .lst (ws.map .str)] ∧ 1 ≤ m ∧ m ≤ 3 ∧ Good ws ∧ ws.length ≤ 2 ^ 10 ∧ ∀ (tabs : List (D × D)) (ns : List (Str × D)), TabOk tabs → IntS ns → (ns.map (·.1)).Nodup → (∀ x, x ∈ ns.map (·.1) ↔ x ∈ ws) → k (wD m tabs ns)
theorem p_world : ∀ ds κ, R_world ds κ → t_L_world R_take (endD κ) (enterS 7 ds) := by
  have hs : sizeLine = 16777216 := sizeLine_eq
  rintro ds κ ⟨m, ws, rfl, m1, m3, hw, hwl, h⟩
  unfold t_L_world
  walk_at "dl"
  simp only [newR, dispQ, qCons, qNil, datR, emptyR]
  walk_at "dl"
  have h2 : 2 ≤ sizeLine := by omega
  have h1 : 1 ≤ sizeLine := by omega
  have h0 : 0 ≤ sizeLine := by omega
  have tk : ∀ κ' : D → Prop, (∀ v : Int, κ' (.int v)) → R_take [.bag, .int m] κ' := fun κ' q => ⟨m, rfl, by omega, by omega, fun v _ _ => q v⟩
  refine ⟨h2, rfl, .inl ⟨h2, rfl, .inl ⟨h2, rfl, .inl ⟨h2, rfl, h0, rfl, tk _ fun v0 => ?_⟩⟩⟩⟩
  refine ⟨by simp, by omega, by decide +kernel, by omega, by omega, ?_⟩
  refine loopT_ind (I := fun rest ρ => ∃ (a b c d : List (D × D)) (s4 s5 s6 : Sl), ρ = [.dat .bag, .dat (.int m), .dat (.lst (ws.map .str)), .tr (.m true (W4 a b c d)), s4, s5, s6] ∧ (∀ x ∈ rest, ∃ i : Int, x = .int i) ∧ IntV a ∧ IntV b ∧ IntV c ∧ IntV d ∧
      a.length + 100 * rest.length ≤ 400 ∧ b.length + 100 * rest.length ≤ 400 ∧ c.length + 100 * rest.length ≤ 400) ?_ ?_ ⟨[], [], [], [(.tup [], .int v0)], _, _, _, rfl, fun x hx => ?_, intV_nil, intV_nil, intV_nil, fun e he => ?_, by simp; omega, by simp; omega, by simp; omega⟩
  · rintro ρ ⟨a, b, c, d, s4, s5, s6, rfl, _, ha, hb, hc, hd, _⟩
    walk_at "dl"
    rw [w4_to]
    refine ⟨by rw [List.length_map]; omega, ?_⟩
    refine compT_ind (R := fun d e => ∃ (w : Str) (v : Int), d = .str w ∧ e = .tup [.str w, .int v]) (fun d' hd' κ' q => ?_) fun es he => ?_
    · obtain ⟨w, _, rfl⟩ := List.mem_map.mp hd'
      walk_at "dl"
      exact tk _ fun v => ⟨h2, q _ ⟨w, v, rfl, rfl⟩⟩
    · obtain ⟨ps, rfl, pw⟩ := pairs_out he
      rw [List.nil_append]
      refine ⟨ps.map fun p => (.str p.1, .int p.2), by rw [List.map_map]; rfl, fun e he' => ?_, by omega, ?_⟩
      · obtain ⟨p, _, rfl⟩ := List.mem_map.mp he'
        rfl
      · obtain ⟨ns, e, hn, nd, hm⟩ := merge_int (ps := ps) (qs := []) (fun _ z => nomatch z) List.nodup_nil
        rw [show mergeD [] (ps.map fun p => ((.str p.1, .int p.2) : D × D)) = eD ns from e]
        exact h _ ns (w4_tab ha hb hc hd) hn nd fun x => by rw [hm x, pw]; simp
  · rintro x rest ρ N hN ⟨a, b, c, d, s4, s5, s6, rfl, hx, ha, hb, hc, hd, la, lb, lc⟩
    obtain ⟨i, rfl⟩ := hx x List.mem_cons_self
    rw [List.length_cons] at la lb lc
    walk_at "dl"
    refine ⟨W4 a b c d, rfl, ?_⟩
    walk_at "dl"
    refine tk _ fun v => ⟨h2, kU1, a, rfl, valE1, by omega, h1, rfl, ?_⟩
    rw [setE1]
    have pl := putQ_len a (.tup [.int i]) (.int v)
    refine ⟨by omega, ?_⟩
    refine loopT_ind (I := fun rest2 ρ => ∃ (b c : List (D × D)) (s5 : Sl), ρ = [.dat .bag, .dat (.int m), .dat (.lst (ws.map .str)), .tr (.m true (W4 (putQ a (.tup [.int i]) (.int v)) b c d)), .dat (.int i), s5, s6] ∧ (∀ x ∈ rest2, ∃ i : Int, x = .int i) ∧ IntV b ∧ IntV c ∧
      b.length + rest2.length + 100 * rest.length ≤ 350 ∧ c.length + rest2.length + 100 * rest.length ≤ 350) ?_ ?_ ⟨b, c, _, rfl, fun x hx => ?_, hb, hc, by simp; omega, by simp; omega⟩
    · rintro ρ ⟨b, c, s5, rfl, _, hb, hc, lb, lc⟩
      exact hN _ ⟨_, b, c, d, _, _, _, rfl, fun x hx' => hx x (List.mem_cons_of_mem _ hx'), putQ_int ha, hb, hc, hd, by omega, by simp at lb; omega, by simp at lc; omega⟩
    · rintro y rest2 ρ N2 hN2 ⟨b, c, s5, rfl, hy, hb, hc, lb, lc⟩
      obtain ⟨j, rfl⟩ := hy y List.mem_cons_self
      rw [List.length_cons] at lb lc
      walk_at "dl"
      refine ⟨W4 (putQ a (.tup [.int i]) (.int v)) b c d, rfl, ?_⟩
      walk_at "dl"
      refine tk _ fun v1 => ⟨h2, kU2, b, rfl, valE2, by omega, h2, rfl, ?_⟩
      rw [setE2]
      refine ⟨W4 (putQ a (.tup [.int i]) (.int v)) (putQ b (.tup [.int i, .int j]) (.int v1)) c d, rfl, ?_⟩
      walk_at "dl"
      refine tk _ fun v2 => ⟨h2, kO2, c, rfl, valE3, by omega, h2, rfl, ?_⟩
      rw [setE3]
      have pb := putQ_len b (.tup [.int i, .int j]) (.int v1)
      have pc := putQ_len c (.tup [.int i, .int j]) (.int v2)
      exact hN2 _ ⟨_, _, _, rfl, fun x hx' => hy x (List.mem_cons_of_mem _ hx'), putQ_int hb, putQ_int hc, by omega, by omega⟩
    · obtain ⟨q, _, rfl⟩ := List.mem_map.mp hx
      exact ⟨_, rfl⟩
  · obtain ⟨q, _, rfl⟩ := List.mem_map.mp hx
    exact ⟨_, rfl⟩
  · obtain rfl := List.mem_singleton.mp he
    exact ⟨v0, rfl⟩
end K15

set_option Elab.async false
set_option linter.all false
set_option maxRecDepth 100000
set_option maxHeartbeats 4000000
namespace K15
open PySem L2 DL
local macro_rules | `(tactic| walk_at "dl") => `(tactic| simp only [Tr.toD, toDs_d, map_snoc, map_ins, treeT, seqT, iffT, setT, retT, nextT, retN, blT, DL.binT, nameT, cT, bagT, cutBT, putBT, augBT, consA, nilA, callT, ofF, lstF, lstR, tupT, eqD, neD, inD, notInD, someO, noneO, slT, revF, endD, enterS, ifT, andT, orT, notT, andB, orB, notB, truT, newT, mT, thruT, thruB, frzT, putT, parT, tgtT, methT, onT, isStr, isLst, getT, starA, negT, dropT, breakT, contT, tgD, putA, seqI, rng1I, enumI, zipI, forT, lcF, wipeS,
  addD_ii, addD_ib, addD_ss, addD_ll, addD_tt, subD_ii, mulD_ii, mulD_li, fdivD_ii, modD_ii, cmpI_ii, eqB_ss, eqB_ii, eqB_bb, eqB_tt, eqB_ll, inB_l, inB_t, ixD_l, ixD_t, ixD_s, slD_l, slD_t, truD_b, truD_i, truD_n, truD_s, truD_l, truD_t, intR_i, intR_b, lenR_s, lenR_l, lenR_t, absR_i, minR_ii, maxR_ii, tupR_l, tupR_t, appD_1, insD_1, extD_1, splitM_1, optK_some, atI_0, atI_1, atI_2, atI_3, atI_4, cutL_1, cutL_2, cutL_t1, cutL_t2,
  List.map_cons, List.map_nil, List.replicate_succ, List.replicate_zero, List.cons_append, List.nil_append, List.length_cons, List.length_nil, List.set_cons_zero, List.set_cons_succ, List.getElem?_cons_zero, List.getElem?_cons_succ, List.drop_succ_cons, List.drop_zero, List.take_succ_cons, List.take_zero, true_and, and_true, true_or, or_true, decide_eq_true_eq, reduceCtorEq, if_true, if_false, ite_true, ite_false, D.int.injEq, Nat.reduceAdd, Nat.reduceSub, Int.reduceSub, Int.reduceAdd, Int.reduceNeg, Bool.false_eq_true, Bool.true_eq_false, decide_true, decide_false, Bool.not_true, Bool.not_false, Bool.not_eq_true', decide_eq_false_iff_not])
local macro_rules | `(tactic| walk_at "di") => `(tactic| simp only [isiT, chainT, e0D, ixO, parO, parS, disp1T, emptyT, getT2, lookD, keyD, keyT, keysD, valD, valQ, dixT, listKR, itemsF, keysI, valsI, itemsI, dputK, newR, emptyR, augI, whileT, dcT, lc2F, Tr.toEs, Bool.or_true, Bool.or_false, Bool.true_or, Bool.false_or, isi2T, inSg, notInSg, tabT, List.isEmpty_nil, List.isEmpty_cons, ib_int_NoneType, ib_int_bool, ib_int_int, ib_int_str, ib_int_list, ib_int_tuple, ib_int_dict, ib_bool_NoneType, ib_bool_bool, ib_bool_int, ib_bool_str, ib_bool_list, ib_bool_tuple, ib_bool_dict, ib_str_NoneType, ib_str_bool, ib_str_int, ib_str_str, ib_str_list, ib_str_tuple, ib_str_dict, ib_list_NoneType, ib_list_bool, ib_list_int, ib_list_str, ib_list_list, ib_list_tuple, ib_list_dict, ib_tuple_NoneType, ib_tuple_bool, ib_tuple_int, ib_tuple_str, ib_tuple_list, ib_tuple_tuple, ib_tuple_dict])
local macro_rules | `(tactic| walk_at "dx") => `(tactic| ((try walk_at "dl"); (try walk_at "di"); (try walk_at "dl"); (try walk_at "di"); (try walk_at "dl")))
local macro_rules | `(tactic| walk_at "cd") => `(tactic| simp only [Code.toD, Code.toDs, Code.kids, List.any_cons, List.any_nil, D.py, PyData.eqv, beq_iff_eq, Bool.or_false, Bool.or_eq_true, Bool.or_eq_false_iff, or_false, false_or, q_name_given, q_name_if, q_name_with, q_name_work, q_name_call, q_name_bound, q_given_name, q_given_if, q_given_with, q_given_work, q_given_call, q_given_bound, q_if_name, q_if_given, q_if_with, q_if_work, q_if_call, q_if_bound, q_with_name, q_with_given, q_with_if, q_with_work, q_with_call, q_with_bound, q_work_name, q_work_given, q_work_if, q_work_with, q_work_call, q_work_bound, q_call_name, q_call_given, q_call_if, q_call_with, q_call_work, q_call_bound, q_bound_name, q_bound_given, q_bound_if, q_bound_with, q_bound_work, q_bound_call, in_name, in_given, in_if, in_with, in_work, in_call])
local macro_rules | `(tactic| walk_at "ce") => `(tactic| (walk_at "cd"; walk_at "dl"; (try walk_at "cd"); (try walk_at "dl"); (try walk_at "cd")))
/-! ### no calls, words are good, and few givens -/
mutual
def Code.okp (ws : List Str) (h : Int) : Code → Prop
  | .nm x => wOk x = true ∧ x ∈ ws
  | .gv i => 0 ≤ i ∧ i < h
  | .ite a b c d => a.okp ws h ∧ b.okp ws h ∧ c.okp ws h ∧ d.okp ws h
  | .wth x a b => wOk x = true ∧ a.okp ws h ∧ b.okp ws h
  | .app true f cs => wOk f = true ∧ Code.okps ws h cs
  | .app false _ _ => False
def Code.okps (ws : List Str) (h : Int) : List Code → Prop
  | [] => True
  | c :: cs => c.okp ws h ∧ Code.okps ws h cs
end
theorem okps_of {ws : List Str} {h : Int} : ∀ {cs : List Code}, (∀ c ∈ cs, c.okp ws h) → Code.okps ws h cs
  | [], _ => by simp only [Code.okps]
  | c :: cs, q => by simp only [Code.okps]; exact ⟨q c List.mem_cons_self, okps_of fun d hd => q d (List.mem_cons_of_mem _ hd)⟩
mutual
theorem okp_ok {ws : List Str} {h : Int} (h13 : h ≤ 13) : ∀ c : Code, c.okp ws h → c.ok
  | .nm x, q => by simp only [Code.okp] at q; simp only [Code.ok]; exact q.1
  | .gv i, q => by simp only [Code.okp] at q; simp only [Code.ok]; omega
  | .ite a b c d, q => by simp only [Code.okp] at q; simp only [Code.ok]; exact ⟨okp_ok h13 a q.1, okp_ok h13 b q.2.1, okp_ok h13 c q.2.2.1, okp_ok h13 d q.2.2.2⟩
  | .wth x a b, q => by simp only [Code.okp] at q; simp only [Code.ok]; exact ⟨q.1, okp_ok h13 a q.2.1, okp_ok h13 b q.2.2⟩
  | .app true f cs, q => by simp only [Code.okp] at q; simp only [Code.ok]; exact ⟨q.1, okps_oks h13 cs q.2⟩
  | .app false f cs, q => by simp only [Code.okp] at q
theorem okps_oks {ws : List Str} {h : Int} (h13 : h ≤ 13) : ∀ cs : List Code, Code.okps ws h cs → Code.oks cs
  | [], _ => by simp only [Code.oks]
  | c :: cs, q => by simp only [Code.okps] at q; simp only [Code.oks]; exact ⟨okp_ok h13 c q.1, okps_oks h13 cs q.2⟩
end
mutual
theorem okp_nc {ws : List Str} {h H : Int} (hH : h ≤ H) : ∀ c : Code, c.okp ws h → c.nc H
  | .nm x, q => by simp only [Code.nc]
  | .gv i, q => by simp only [Code.okp] at q; simp only [Code.nc]; omega
  | .ite a b c d, q => by simp only [Code.okp] at q; simp only [Code.nc]; exact ⟨okp_nc hH a q.1, okp_nc hH b q.2.1, okp_nc hH c q.2.2.1, okp_nc hH d q.2.2.2⟩
  | .wth x a b, q => by simp only [Code.okp] at q; simp only [Code.nc]; exact ⟨okp_nc hH a q.2.1, okp_nc hH b q.2.2⟩
  | .app true f cs, q => by simp only [Code.okp] at q; simp only [Code.nc]; exact ⟨trivial, okps_ncs hH cs q.2⟩
  | .app false f cs, q => by simp only [Code.okp] at q
theorem okps_ncs {ws : List Str} {h H : Int} (hH : h ≤ H) : ∀ cs : List Code, Code.okps ws h cs → Code.ncs H cs
  | [], _ => by simp only [Code.ncs]
  | c :: cs, q => by simp only [Code.okps] at q; simp only [Code.ncs]; exact ⟨okp_nc hH c q.1, okps_ncs hH cs q.2⟩
end
mutual
theorem okp_fr {ws : List Str} {h : Int} {x : Str} : ∀ c : Code, c.okp ws h → c.fr x → x ∈ ws
  | .nm y, q, f => by simp only [Code.okp] at q; simp only [Code.fr] at f; rw [f]; exact q.2
  | .gv i, q, f => by simp only [Code.fr] at f
  | .ite a b c d, q, f => by
    simp only [Code.okp] at q
    simp only [Code.fr] at f
    rcases f with f | f | f | f
    · exact okp_fr a q.1 f
    · exact okp_fr b q.2.1 f
    · exact okp_fr c q.2.2.1 f
    · exact okp_fr d q.2.2.2 f
  | .wth y a b, q, f => by
    simp only [Code.okp] at q
    simp only [Code.fr] at f
    rcases f with f | f
    · exact okp_fr a q.2.1 f
    · exact okp_fr b q.2.2 f.2
  | .app true f cs, q, fr => by
    simp only [Code.okp] at q
    simp only [Code.fr] at fr
    exact okps_fr cs q.2 fr
  | .app false f cs, q, fr => by simp only [Code.okp] at q
theorem okps_fr {ws : List Str} {h : Int} {x : Str} : ∀ cs : List Code, Code.okps ws h cs → Code.frs cs x → x ∈ ws
  | [], _, f => by simp only [Code.frs] at f
  | c :: cs, q, f => by
    simp only [Code.okps] at q
    simp only [Code.frs] at f
    rcases f with f | f
    · exact okp_fr c q.1 f
    · exact okps_fr cs q.2 f
end
mutual
theorem okw_fr {ws : List Str} {x : Str} : ∀ c : Code, c.okw ws → c.fr x → x ∈ ws
  | .nm y, q, f => by simp only [Code.okw] at q; simp only [Code.fr] at f; rw [f]; exact q.2
  | .gv i, q, f => by simp only [Code.fr] at f
  | .ite a b c d, q, f => by
    simp only [Code.okw] at q
    simp only [Code.fr] at f
    rcases f with f | f | f | f
    · exact okw_fr a q.1 f
    · exact okw_fr b q.2.1 f
    · exact okw_fr c q.2.2.1 f
    · exact okw_fr d q.2.2.2 f
  | .wth y a b, q, f => by
    simp only [Code.okw] at q
    simp only [Code.fr] at f
    rcases f with f | f
    · exact okw_fr a q.2.1 f
    · exact okw_fr b q.2.2 f.2
  | .app w f cs, q, fr => by
    simp only [Code.okw] at q
    simp only [Code.fr] at fr
    exact okws_fr cs q.2 fr
theorem okws_fr {ws : List Str} {x : Str} : ∀ cs : List Code, Code.okws ws cs → Code.frs cs x → x ∈ ws
  | [], _, f => by simp only [Code.frs] at f
  | c :: cs, q, f => by
    simp only [Code.okws] at q
    simp only [Code.frs] at f
    rcases f with f | f
    · exact okw_fr c q.1 f
    · exact okws_fr cs q.2 f
end
/-! ### drawn codes -/
def WsOk (ws : List Str) : Prop := Good ws ∧ ws ≠ [] ∧ ws.length ≤ 10
def R_leaf : RD := fun ds k => ∃ (ws : List Str) (h : Int), ds = [.bag, .lst (ws.map .str), .int h] ∧ WsOk ws ∧ 0 ≤ h ∧ h ≤ 13 ∧ ∀ c : Code, c.okp ws h → c.wt ≤ 1 → c.size = 1 → k c.toD
theorem p_leaf : ∀ ds κ, R_leaf ds κ → t_L_leaf R_take R_some (endD κ) (enterS 3 ds) := by
  have hs : sizeLine = 16777216 := sizeLine_eq
  rintro ds κ ⟨ws, h, rfl, ⟨hw, hne, hwl⟩, h0, h13, q⟩
  unfold t_L_leaf
  have nm : R_some [D.bag, D.lst (List.map D.str ws)] fun d => 2 ≤ sizeLine ∧ κ (D.tup [D.str "name", d]) :=
    some_words (by omega) hne fun w hw' => ⟨by omega, q (.nm w) (by simp only [Code.okp]; exact ⟨hw w hw', hw'⟩) (by simp only [Code.wt]; omega) rfl⟩
  walk_at "dl"
  split
  · refine ⟨4, rfl, by omega, by omega, fun i _ _ => ?_⟩
    walk_at "dl"
    split
    · refine ⟨h, rfl, by omega, by omega, fun j j0 j1 => ⟨by omega, ?_⟩⟩
      exact q (.gv j) (by simp only [Code.okp]; omega) (by simp only [Code.wt]; omega) rfl
    · exact nm
  · exact nm
def tz : Nat → Nat
  | 0 => 1
  | d + 1 => 1 + 3 * tz d
theorem tz_pos : ∀ d, 1 ≤ tz d
  | 0 => Nat.le_refl _
  | d + 1 => by simp only [tz]; omega
def R_term (n : Nat) : RD := fun ds k => ∃ (ws : List Str) (h : Int) (d : Nat), ds = [.bag, .lst (ws.map .str), .int h, .int (d : Nat)] ∧ WsOk ws ∧ 0 ≤ h ∧ h ≤ 13 ∧ d < n ∧ ∀ c : Code, c.okp ws h → c.wt ≤ d + 1 → c.size ≤ tz d → k c.toD
theorem wts_le {b : Nat} : ∀ {cs : List Code}, (∀ c ∈ cs, c.wt ≤ b) → Code.wts cs ≤ b
  | [], _ => by simp [Code.wts]
  | c :: cs, h => by
    have h1 := wts_le (cs := cs) fun d hd => h d (List.mem_cons_of_mem _ hd)
    have h2 := h c List.mem_cons_self
    simp only [Code.wts]
    omega
theorem up_ok : wOk "up" = true := by decide +kernel
theorem of_ok : wOk "of" = true := by decide +kernel
theorem one_ok : wOk "one" = true := by decide +kernel
abbrev termA (n : Nat) : TSD := (iffT (blT (DL.binT eqD (nameT 4) (cT (.int 5)))) (seqT (setT 5 (callT R_leaf (consA (nameT 0) (consA (nameT 1) (consA (nameT 2) nilA)))))
    (retT (ifT (blT (DL.binT eqD (callT R_take (consA (nameT 0) (consA (cT (.int 2)) nilA))) (cT (.int 0)))) (tupT (consA (cT (.str "work")) (consA (cT (.str "one")) (consA (tupT nilA) nilA)))) (tupT (consA (cT (.str "work")) (consA (cT (.str "up")) (consA (tupT (consA (nameT 5) (consA (nameT 5) nilA))) nilA))))))) nextT)
abbrev termB (n : Nat) : TSD := (seqT (setT 7 (callT tupR (consA (ofF (lcF (.nm 8) (rng1I (consA (nameT 6) nilA)) yesT (callT (R_term n) (consA (nameT 0) (consA (nameT 1) (consA (nameT 2) (consA (DL.binT subD (nameT 3) (cT (.int 1))) nilA))))) [8])) nilA)))
    (retT (tupT (consA (cT (.str "work")) (consA (DL.binT ixD (ofF (lstF (consA (cT (.str "up")) (consA (cT (.str "of")) nilA)))) (DL.binT subD (nameT 4) (cT (.int 3)))) (consA (nameT 7) nilA))))))
abbrev termM : TSD := (setT 6 (ifT (blT (DL.binT eqD (nameT 4) (cT (.int 3)))) (cT (.int 1)) (DL.binT addD (cT (.int 2)) (callT intR (consA (DL.binT eqD (callT R_take (consA (nameT 0) (consA (cT (.int 6)) nilA))) (cT (.int 0))) nilA)))))
abbrev termL (n : Nat) : TSD := (seqT (iffT (blT (DL.binT (cmpI fun i j => decide (i < j)) (nameT 4) (cT (.int 3)))) (retT (callT R_leaf (consA (nameT 0) (consA (nameT 1) (consA (nameT 2) nilA))))) nextT) (seqT (termA n) (seqT termM (termB n))))
theorem term_eq (n : Nat) : t_L_term R_take R_leaf (R_term n) = seqT (setT 4 (ifT (blT (DL.binT (cmpI fun i j => decide (i > j)) (nameT 3) (cT (.int 0)))) (callT R_take (consA (nameT 0) (consA (cT (.int 6)) nilA))) (cT (.int 0)))) (termL n) := rfl
theorem term_ix {way : Int} (h : way = 3 ∨ way = 4) {k : D → Prop} (q : ∀ w : Str, wOk w = true → k (.str w)) : optK (L2.atI [D.str (Str.ofString "up"), D.str (Str.ofString "of")] (way - 3)) k := by
  rcases h with rfl | rfl
  · exact optK_of (show L2.atI [D.str (Str.ofString "up"), D.str (Str.ofString "of")] (3 - 3) = some (.str "up") from rfl) (q _ up_ok)
  · exact optK_of (show L2.atI [D.str (Str.ofString "up"), D.str (Str.ofString "of")] (4 - 3) = some (.str "of") from rfl) (q _ of_ok)
theorem p_term (n : Nat) : ∀ ds κ, R_term (n + 1) ds κ → t_L_term R_take R_leaf (R_term n) (endD κ) (enterS 9 ds) := by
  have hs : sizeLine = 16777216 := sizeLine_eq
  rintro ds κ ⟨ws, h, d, rfl, hw, h0, h13, hd, q⟩
  rw [term_eq]
  have p1 := tz_pos d
  have lf : R_leaf [D.bag, D.lst (List.map D.str ws), D.int h] κ := ⟨ws, h, rfl, hw, h0, h13, fun c a b e => q c a (by omega) (by omega)⟩
  have fin : ∀ way : Int, 3 ≤ way → way < 6 → 0 < d → (seqT (termA n) (seqT termM (termB n))) (endD κ) [.dat .bag, .dat (.lst (ws.map .str)), .dat (.int h), .dat (.int (d : Nat)), .dat (.int way), .un, .un, .un, .un] := by
    intro way w3 w6 d0
    obtain ⟨e, rfl⟩ : ∃ e, d = e + 1 := ⟨d - 1, by omega⟩
    have p2 := tz_pos e
    simp only [tz] at q
    unfold termA
    generalize hT : seqT termM (termB n) = tl
    walk_at "dl"
    split
    · refine ⟨ws, h, rfl, hw, h0, h13, fun c c1 c2 c3 => ⟨2, rfl, by omega, by omega, fun i _ _ => ?_⟩⟩
      walk_at "dl"
      split
      · exact ⟨by omega, by omega, q (.app true "one" []) (by simp only [Code.okp, Code.okps, and_true]; exact one_ok) (by simp only [Code.wt, Code.wts]; omega) (by simp only [Code.size, Code.sizes]; omega)⟩
      · exact ⟨by omega, by omega, q (.app true "up" [c, c]) (by simp only [Code.okp, Code.okps, and_true]; exact ⟨up_ok, c1, c1⟩) (by simp only [Code.wt, Code.wts]; omega) (by simp only [Code.size, Code.sizes]; omega)⟩
    · subst hT
      have go : ∀ m : Nat, m ≤ 3 → termB n (endD κ) [.dat .bag, .dat (.lst (ws.map .str)), .dat (.int h), .dat (.int ((e + 1 : Nat) : Int)), .dat (.int way), .un, .dat (.int (m : Nat)), .un, .un] := by
        intro m m3
        unfold termB
        walk_at "dl"
        refine ⟨by omega, by simp; omega, ?_⟩
        rw [Int.toNat_natCast]
        refine comp_any (n := 0) (P := fun c => c.okp ws h ∧ c.wt ≤ e + 1 ∧ c.size ≤ tz e) (fun d κ' k => ?_) fun cs l p => ?_
        · walk_at "dl"
          refine ⟨ws, h, e, ?_, hw, h0, h13, by omega, fun c c1 c2 c3 => k c ⟨c1, c2, c3⟩⟩
          rw [show ((e + 1 : Nat) : Int) - 1 = (e : Int) by omega]
        · refine ⟨by omega, term_ix (by omega) fun w hw' => ⟨by omega, ?_⟩⟩
          have s1 := sizes_le (b := tz e) fun c hc => (p c hc).2.2
          have s2 := wts_le (b := e + 1) fun c hc => (p c hc).2.1
          rw [l] at s1
          have s3 : m * tz e ≤ 3 * tz e := Nat.mul_le_mul_right _ m3
          exact q (.app true w cs) (by simp only [Code.okp]; exact ⟨hw', okps_of fun c hc => (p c hc).1⟩) (by simp only [Code.wt]; omega) (by simp only [Code.size]; omega)
      generalize hB : termB n = tb at go ⊢
      walk_at "dl"
      split
      · exact go 1 (by omega)
      · refine ⟨6, rfl, by omega, by omega, fun i _ _ => ?_⟩
        walk_at "dl"
        split
        · exact go 3 (by omega)
        · exact go 2 (by omega)
  have fin2 : ∀ way : Int, way < 6 → (3 ≤ way → 0 < d) → termL n (endD κ) [.dat .bag, .dat (.lst (ws.map .str)), .dat (.int h), .dat (.int (d : Nat)), .dat (.int way), .un, .un, .un, .un] := by
    intro way w6 wd
    unfold termL
    generalize hT : seqT (termA n) (seqT termM (termB n)) = tl at fin ⊢
    walk_at "dl"
    split
    · exact lf
    · exact fin way (by omega) w6 (wd (by omega))
  generalize termL n = tl at fin2 ⊢
  walk_at "dl"
  split
  · refine ⟨6, rfl, by omega, by omega, fun way w0 w6 => fin2 way w6 fun _ => by omega⟩
  · exact fin2 0 (by omega) (fun h => by omega)
end K15

set_option Elab.async false
set_option linter.all false
set_option maxRecDepth 100000
set_option maxHeartbeats 4000000
namespace K15
open PySem L2 DL
local macro_rules | `(tactic| walk_at "dl") => `(tactic| simp only [Tr.toD, toDs_d, map_snoc, map_ins, treeT, seqT, iffT, setT, retT, nextT, retN, blT, DL.binT, nameT, cT, bagT, cutBT, putBT, augBT, consA, nilA, callT, ofF, lstF, lstR, tupT, eqD, neD, inD, notInD, someO, noneO, slT, revF, endD, enterS, ifT, andT, orT, notT, andB, orB, notB, truT, newT, mT, thruT, thruB, frzT, putT, parT, tgtT, methT, onT, isStr, isLst, getT, starA, negT, dropT, breakT, contT, tgD, putA, seqI, rng1I, enumI, zipI, forT, lcF, wipeS,
  addD_ii, addD_ib, addD_ss, addD_ll, addD_tt, subD_ii, mulD_ii, mulD_li, fdivD_ii, modD_ii, cmpI_ii, eqB_ss, eqB_ii, eqB_bb, eqB_tt, eqB_ll, inB_l, inB_t, ixD_l, ixD_t, ixD_s, slD_l, slD_t, truD_b, truD_i, truD_n, truD_s, truD_l, truD_t, intR_i, intR_b, lenR_s, lenR_l, lenR_t, absR_i, minR_ii, maxR_ii, tupR_l, tupR_t, appD_1, insD_1, extD_1, splitM_1, optK_some, atI_0, atI_1, atI_2, atI_3, atI_4, cutL_1, cutL_2, cutL_t1, cutL_t2,
  List.map_cons, List.map_nil, List.replicate_succ, List.replicate_zero, List.cons_append, List.nil_append, List.length_cons, List.length_nil, List.set_cons_zero, List.set_cons_succ, List.getElem?_cons_zero, List.getElem?_cons_succ, List.drop_succ_cons, List.drop_zero, List.take_succ_cons, List.take_zero, true_and, and_true, true_or, or_true, decide_eq_true_eq, reduceCtorEq, if_true, if_false, ite_true, ite_false, D.int.injEq, Nat.reduceAdd, Nat.reduceSub, Int.reduceSub, Int.reduceAdd, Int.reduceNeg, Bool.false_eq_true, Bool.true_eq_false, decide_true, decide_false, Bool.not_true, Bool.not_false, Bool.not_eq_true', decide_eq_false_iff_not])
local macro_rules | `(tactic| walk_at "di") => `(tactic| simp only [isiT, chainT, e0D, ixO, parO, parS, disp1T, emptyT, getT2, lookD, keyD, keyT, keysD, valD, valQ, dixT, listKR, itemsF, keysI, valsI, itemsI, dputK, newR, emptyR, augI, whileT, dcT, lc2F, Tr.toEs, Bool.or_true, Bool.or_false, Bool.true_or, Bool.false_or, isi2T, inSg, notInSg, tabT, List.isEmpty_nil, List.isEmpty_cons, ib_int_NoneType, ib_int_bool, ib_int_int, ib_int_str, ib_int_list, ib_int_tuple, ib_int_dict, ib_bool_NoneType, ib_bool_bool, ib_bool_int, ib_bool_str, ib_bool_list, ib_bool_tuple, ib_bool_dict, ib_str_NoneType, ib_str_bool, ib_str_int, ib_str_str, ib_str_list, ib_str_tuple, ib_str_dict, ib_list_NoneType, ib_list_bool, ib_list_int, ib_list_str, ib_list_list, ib_list_tuple, ib_list_dict, ib_tuple_NoneType, ib_tuple_bool, ib_tuple_int, ib_tuple_str, ib_tuple_list, ib_tuple_tuple, ib_tuple_dict])
local macro_rules | `(tactic| walk_at "dx") => `(tactic| ((try walk_at "dl"); (try walk_at "di"); (try walk_at "dl"); (try walk_at "di"); (try walk_at "dl")))
local macro_rules | `(tactic| walk_at "cd") => `(tactic| simp only [Code.toD, Code.toDs, Code.kids, List.any_cons, List.any_nil, D.py, PyData.eqv, beq_iff_eq, Bool.or_false, Bool.or_eq_true, Bool.or_eq_false_iff, or_false, false_or, q_name_given, q_name_if, q_name_with, q_name_work, q_name_call, q_name_bound, q_given_name, q_given_if, q_given_with, q_given_work, q_given_call, q_given_bound, q_if_name, q_if_given, q_if_with, q_if_work, q_if_call, q_if_bound, q_with_name, q_with_given, q_with_if, q_with_work, q_with_call, q_with_bound, q_work_name, q_work_given, q_work_if, q_work_with, q_work_call, q_work_bound, q_call_name, q_call_given, q_call_if, q_call_with, q_call_work, q_call_bound, q_bound_name, q_bound_given, q_bound_if, q_bound_with, q_bound_work, q_bound_call, in_name, in_given, in_if, in_with, in_work, in_call])
local macro_rules | `(tactic| walk_at "ce") => `(tactic| (walk_at "cd"; walk_at "dl"; (try walk_at "cd"); (try walk_at "dl"); (try walk_at "cd")))
def cw : Nat → Nat
  | 0 => 3 | 1 => 7 | _ => 15
def cz : Nat → Nat
  | 0 => 13 | 1 => 35 | _ => 71
def R_code (n : Nat) : RD := fun ds k => ∃ (ws : List Str) (h : Int) (t : Nat), ds = [.bag, .lst (ws.map .str), .int h, .int (t : Nat)] ∧ WsOk ws ∧ 0 ≤ h ∧ h ≤ 13 ∧ t < n ∧ t ≤ 2 ∧ ∀ c : Code, c.okp ws h → c.wt ≤ cw t → c.size ≤ cz t → k c.toD
abbrev codeA (n : Nat) : TSD := (iffT (blT (DL.binT eqD (nameT 4) (cT (.int 1)))) (seqT (parT 5 6 (consA (callT R_some (consA (nameT 0) (consA (nameT 1) nilA))) (consA (DL.binT fdivD (nameT 3) (cT (.int 2))) nilA)))
    (retT (tupT (consA (cT (.str "with")) (consA (nameT 5) (consA (callT (R_code n) (consA (nameT 0) (consA (nameT 1) (consA (nameT 2) (consA (nameT 6) nilA))))) (consA (callT (R_code n) (consA (nameT 0) (consA (nameT 1) (consA (nameT 2) (consA (nameT 6) nilA))))) nilA))))))) nextT)
abbrev codeB (n : Nat) : TSD := (iffT (blT (DL.binT eqD (nameT 4) (cT (.int 2)))) (retT (tupT (consA (cT (.str "work")) (consA (cT (.str "up")) (consA (tupT (consA (callT (R_code n) (consA (nameT 0) (consA (nameT 1) (consA (nameT 2) (consA (DL.binT subD (nameT 3) (cT (.int 1))) nilA))))) nilA)) nilA))))) nextT)
abbrev codeC (n : Nat) : TSD := (seqT (newT 7 (lcF (.nm 8) (rng1I (consA (cT (.int 2)) nilA)) yesT (callT (R_term 3) (consA (nameT 0) (consA (nameT 1) (consA (nameT 2) (consA (cT (.int 1)) nilA))))) [8]))
    (seqT (setT 6 (DL.binT fdivD (DL.binT subD (nameT 3) (cT (.int 1))) (cT (.int 2))))
    (seqT (iffT (andB (blT (DL.binT eqD (nameT 4) (cT (.int 3)))) (blT (DL.binT (cmpI fun i j => decide (i > j)) (nameT 6) (cT (.int 0))))) (parS 7 (cT (.int 0)) 6 (tupT (consA (callT (R_code n) (consA (nameT 0) (consA (nameT 1) (consA (nameT 2) (consA (cT (.int 1)) nilA))))) (consA (DL.binT fdivD (nameT 6) (cT (.int 2))) nilA)))) nextT)
    (frzT 7 (retT (tupT (consA (cT (.str "if")) (consA (DL.binT ixD (nameT 7) (cT (.int 0))) (consA (DL.binT ixD (nameT 7) (cT (.int 1))) (consA (callT (R_code n) (consA (nameT 0) (consA (nameT 1) (consA (nameT 2) (consA (nameT 6) nilA))))) (consA (callT (R_code n) (consA (nameT 0) (consA (nameT 1) (consA (nameT 2) (consA (nameT 6) nilA))))) nilA)))))))))))
abbrev codeI : TSD := (iffT (orB (blT (DL.binT eqD (nameT 3) (cT (.int 0)))) (blT (DL.binT eqD (nameT 4) (cT (.int 0))))) (retT (callT (R_term 3) (consA (nameT 0) (consA (nameT 1) (consA (nameT 2) (consA (DL.binT addD (cT (.int 1)) (callT intR (consA (DL.binT eqD (nameT 4) (cT (.int 7))) nilA))) nilA)))))) nextT)
theorem code_eq (n : Nat) : t_L_code R_take (R_term 3) R_some (R_code n) = seqT (setT 4 (callT R_take (consA (nameT 0) (consA (cT (.int 8)) nilA)))) (seqT codeI (seqT (codeA n) (seqT (codeB n) (codeC n)))) := rfl
theorem p_code (n : Nat) : ∀ ds κ, R_code (n + 1) ds κ → t_L_code R_take (R_term 3) R_some (R_code n) (endD κ) (enterS 9 ds) := by
  have hs : sizeLine = 16777216 := sizeLine_eq
  rintro ds κ ⟨ws, h, t, rfl, hw, h0, h13, ht, t2, q⟩
  rw [code_eq]
  have term : ∀ (e : Nat) (i : Int) (κ' : D → Prop), i = (e : Nat) → e ≤ 2 → (∀ c : Code, c.okp ws h → c.wt ≤ e + 1 → c.size ≤ tz e → κ' c.toD) → R_term 3 [.bag, .lst (ws.map .str), .int h, .int i] κ' := fun e i κ' hi he k => by
    subst hi
    exact ⟨ws, h, e, rfl, hw, h0, h13, by omega, k⟩
  have code : ∀ (e : Nat) (i : Int) (κ' : D → Prop), i = (e : Nat) → e < t → (∀ c : Code, c.okp ws h → c.wt ≤ cw e → c.size ≤ cz e → κ' c.toD) → R_code n [.bag, .lst (ws.map .str), .int h, .int i] κ' := fun e i κ' hi he k => by
    subst hi
    exact ⟨ws, h, e, rfl, hw, h0, h13, by omega, by omega, k⟩
  have z2 : tz 2 = 13 := rfl
  have z1 : tz 1 = 4 := rfl
  have bot : ∀ c : Code, c.okp ws h → c.wt ≤ 3 → c.size ≤ 13 → κ c.toD := fun c a b d => by
    refine q c a ?_ ?_
    · have : t = 0 ∨ t = 1 ∨ t = 2 := by omega
      rcases this with rfl | rfl | rfl <;> simp only [cw] <;> omega
    · have : t = 0 ∨ t = 1 ∨ t = 2 := by omega
      rcases this with rfl | rfl | rfl <;> simp only [cz] <;> omega
  have hc : ∀ way : Int, 0 < t → (codeC n) (endD κ) [.dat .bag, .dat (.lst (ws.map .str)), .dat (.int h), .dat (.int (t : Nat)), .dat (.int way), .un, .un, .un, .un] := by
    intro way t0
    unfold codeC
    walk_at "dl"
    refine ⟨by omega, by simp; omega, ?_⟩
    refine comp_any (n := 0) (m := 2) (P := fun c => c.okp ws h ∧ c.wt ≤ 2 ∧ c.size ≤ 4) (fun d κ' k => ?_) fun cs l p => ?_
    · walk_at "dl"
      exact term 1 _ _ rfl (by omega) fun c c1 c2 c3 => k c ⟨c1, c2, c3⟩
    · match cs, l with
      | [a, b], _ =>
        have pa := p a (by simp)
        have pb := p b (by simp)
        have hz : ¬ ((t : Int) - 1) / 2 > 0 := by omega
        have fin : optK (L2.atI (Code.toDs [a, b]) 0) fun d => optK (L2.atI (Code.toDs [a, b]) 1) fun d_1 => R_code n [D.bag, D.lst (List.map D.str ws), D.int h, D.int (((t : Int) - 1) / 2)] fun d_2 =>
            R_code n [D.bag, D.lst (List.map D.str ws), D.int h, D.int (((t : Int) - 1) / 2)] fun d_3 => 5 ≤ sizeLine ∧ κ (D.tup [D.str (Str.ofString "if"), d, d_1, d_2, d_3]) := by
          simp only [Code.toDs]
          refine optK_of atI_0 (optK_of atI_1 (code 0 _ _ (by omega) (by omega) fun c c1 c2 c3 => code 0 _ _ (by omega) (by omega) fun c' d1 d2 d3 => ⟨by omega, q (.ite a b c c') (by simp only [Code.okp]; exact ⟨pa.1, pb.1, c1, d1⟩) ?_ ?_⟩))
          · simp only [Code.wt, cw] at c2 d2 ⊢
            have : t = 1 ∨ t = 2 := by omega
            rcases this with rfl | rfl <;> simp only <;> omega
          · simp only [Code.size, cz] at c3 d3 ⊢
            have : t = 1 ∨ t = 2 := by omega
            rcases this with rfl | rfl <;> simp only <;> omega
        refine ⟨⟨by omega, by omega⟩, ?_⟩
        rw [if_neg hz]
        split <;> exact fin
  have hb : ∀ way : Int, 0 < t → (seqT (codeB n) (codeC n)) (endD κ) [.dat .bag, .dat (.lst (ws.map .str)), .dat (.int h), .dat (.int (t : Nat)), .dat (.int way), .un, .un, .un, .un] := by
    intro way t0
    unfold codeB
    generalize codeC n = tl at hc ⊢
    walk_at "dl"
    split
    · refine code (t - 1) _ _ (by omega) (by omega) fun c c1 c2 c3 => ⟨by omega, by omega, q (.app true "up" [c]) (by simp only [Code.okp, Code.okps, and_true]; exact ⟨up_ok, c1⟩) ?_ ?_⟩
      · have : t = 1 ∨ t = 2 := by omega
        rcases this with rfl | rfl <;> simp only [Code.wt, Code.wts, cw, Nat.reduceSub] at c2 ⊢ <;> omega
      · have : t = 1 ∨ t = 2 := by omega
        rcases this with rfl | rfl <;> simp only [Code.size, Code.sizes, cz, Nat.reduceSub] at c3 ⊢ <;> omega
    · exact hc way t0
  have ha : ∀ way : Int, 0 < t → (seqT (codeA n) (seqT (codeB n) (codeC n))) (endD κ) [.dat .bag, .dat (.lst (ws.map .str)), .dat (.int h), .dat (.int (t : Nat)), .dat (.int way), .un, .un, .un, .un] := by
    intro way t0
    unfold codeA
    generalize seqT (codeB n) (codeC n) = tl at hb ⊢
    walk_at "dl"
    split
    · refine some_words (by have := hw.2.2; omega) hw.2.1 fun w hw' => ⟨⟨by omega, by omega⟩, ?_⟩
      refine code (t / 2) _ _ (by omega) (by omega) fun c c1 c2 c3 => code (t / 2) _ _ (by omega) (by omega) fun c' d1 d2 d3 => ⟨by omega, q (.wth w c c') (by simp only [Code.okp]; exact ⟨hw.1 w hw', c1, d1⟩) ?_ ?_⟩
      · have : t = 1 ∨ t = 2 := by omega
        rcases this with rfl | rfl <;> simp only [Code.wt, cw, Nat.reduceDiv] at c2 d2 ⊢ <;> omega
      · have : t = 1 ∨ t = 2 := by omega
        rcases this with rfl | rfl <;> simp only [Code.size, cz, Nat.reduceDiv] at c3 d3 ⊢ <;> omega
    · exact hb way t0
  generalize (seqT (codeA n) (seqT (codeB n) (codeC n))) = tl at ha ⊢
  walk_at "dl"
  refine ⟨8, rfl, by omega, by omega, fun way w0 w8 => ?_⟩
  have top : eqB (.int way) (.int 7) fun b => R_term 3 [D.bag, D.lst (List.map D.str ws), D.int h, D.int (1 + if b = true then 1 else 0)] fun d => κ d := by
    by_cases w7 : way = 7
    · show R_term 3 [D.bag, D.lst (List.map D.str ws), D.int h, D.int (1 + if decide (way = 7) = true then 1 else 0)] _
      rw [decide_eq_true w7, if_pos rfl]
      exact term 2 _ _ rfl (by omega) fun c c1 c2 c3 => bot c c1 c2 (by omega)
    · show R_term 3 [D.bag, D.lst (List.map D.str ws), D.int h, D.int (1 + if decide (way = 7) = true then 1 else 0)] _
      rw [decide_eq_false w7, if_neg (fun z => Bool.noConfusion z)]
      exact term 1 _ _ rfl (by omega) fun c c1 c2 c3 => bot c c1 (by omega) (by omega)
  dsimp only
  split
  · exact top
  · show if decide (way = 0) = true then _ else _
    split
    · exact top
    · exact ha way (by omega)
end K15

set_option Elab.async false
set_option linter.all false
set_option maxRecDepth 100000
set_option maxHeartbeats 4000000
namespace K15
open PySem L2 DL
local macro_rules | `(tactic| walk_at "dl") => `(tactic| simp only [Tr.toD, toDs_d, map_snoc, map_ins, treeT, seqT, iffT, setT, retT, nextT, retN, blT, DL.binT, nameT, cT, bagT, cutBT, putBT, augBT, consA, nilA, callT, ofF, lstF, lstR, tupT, eqD, neD, inD, notInD, someO, noneO, slT, revF, endD, enterS, ifT, andT, orT, notT, andB, orB, notB, truT, newT, mT, thruT, thruB, frzT, putT, parT, tgtT, methT, onT, isStr, isLst, getT, starA, negT, dropT, breakT, contT, tgD, putA, seqI, rng1I, enumI, zipI, forT, lcF, wipeS,
  addD_ii, addD_ib, addD_ss, addD_ll, addD_tt, subD_ii, mulD_ii, mulD_li, fdivD_ii, modD_ii, cmpI_ii, eqB_ss, eqB_ii, eqB_bb, eqB_tt, eqB_ll, inB_l, inB_t, ixD_l, ixD_t, ixD_s, slD_l, slD_t, truD_b, truD_i, truD_n, truD_s, truD_l, truD_t, intR_i, intR_b, lenR_s, lenR_l, lenR_t, absR_i, minR_ii, maxR_ii, tupR_l, tupR_t, appD_1, insD_1, extD_1, splitM_1, optK_some, atI_0, atI_1, atI_2, atI_3, atI_4, cutL_1, cutL_2, cutL_t1, cutL_t2,
  List.map_cons, List.map_nil, List.replicate_succ, List.replicate_zero, List.cons_append, List.nil_append, List.length_cons, List.length_nil, List.set_cons_zero, List.set_cons_succ, List.getElem?_cons_zero, List.getElem?_cons_succ, List.drop_succ_cons, List.drop_zero, List.take_succ_cons, List.take_zero, true_and, and_true, true_or, or_true, decide_eq_true_eq, reduceCtorEq, if_true, if_false, ite_true, ite_false, D.int.injEq, Nat.reduceAdd, Nat.reduceSub, Int.reduceSub, Int.reduceAdd, Int.reduceNeg, Bool.false_eq_true, Bool.true_eq_false, decide_true, decide_false, Bool.not_true, Bool.not_false, Bool.not_eq_true', decide_eq_false_iff_not])
local macro_rules | `(tactic| walk_at "di") => `(tactic| simp only [isiT, chainT, e0D, ixO, parO, parS, disp1T, emptyT, getT2, lookD, keyD, keyT, keysD, valD, valQ, dixT, listKR, itemsF, keysI, valsI, itemsI, dputK, newR, emptyR, augI, whileT, dcT, lc2F, Tr.toEs, Bool.or_true, Bool.or_false, Bool.true_or, Bool.false_or, isi2T, inSg, notInSg, tabT, List.isEmpty_nil, List.isEmpty_cons, ib_int_NoneType, ib_int_bool, ib_int_int, ib_int_str, ib_int_list, ib_int_tuple, ib_int_dict, ib_bool_NoneType, ib_bool_bool, ib_bool_int, ib_bool_str, ib_bool_list, ib_bool_tuple, ib_bool_dict, ib_str_NoneType, ib_str_bool, ib_str_int, ib_str_str, ib_str_list, ib_str_tuple, ib_str_dict, ib_list_NoneType, ib_list_bool, ib_list_int, ib_list_str, ib_list_list, ib_list_tuple, ib_list_dict, ib_tuple_NoneType, ib_tuple_bool, ib_tuple_int, ib_tuple_str, ib_tuple_list, ib_tuple_tuple, ib_tuple_dict])
local macro_rules | `(tactic| walk_at "dx") => `(tactic| ((try walk_at "dl"); (try walk_at "di"); (try walk_at "dl"); (try walk_at "di"); (try walk_at "dl")))
local macro_rules | `(tactic| walk_at "cd") => `(tactic| simp only [Code.toD, Code.toDs, Code.kids, List.any_cons, List.any_nil, D.py, PyData.eqv, beq_iff_eq, Bool.or_false, Bool.or_eq_true, Bool.or_eq_false_iff, or_false, false_or, q_name_given, q_name_if, q_name_with, q_name_work, q_name_call, q_name_bound, q_given_name, q_given_if, q_given_with, q_given_work, q_given_call, q_given_bound, q_if_name, q_if_given, q_if_with, q_if_work, q_if_call, q_if_bound, q_with_name, q_with_given, q_with_if, q_with_work, q_with_call, q_with_bound, q_work_name, q_work_given, q_work_if, q_work_with, q_work_call, q_work_bound, q_call_name, q_call_given, q_call_if, q_call_with, q_call_work, q_call_bound, q_bound_name, q_bound_given, q_bound_if, q_bound_with, q_bound_work, q_bound_call, in_name, in_given, in_if, in_with, in_work, in_call])
local macro_rules | `(tactic| walk_at "ce") => `(tactic| (walk_at "cd"; walk_at "dl"; (try walk_at "cd"); (try walk_at "dl"); (try walk_at "cd")))
/-! ### the names that are free, in order, as often as they stand there -/
mutual
def Code.fl : Code → List Str → List Str
  | .nm x, bs => if x ∈ bs then [] else [x]
  | .gv _, _ => []
  | .ite a b c d, bs => a.fl bs ++ b.fl bs ++ c.fl bs ++ d.fl bs
  | .wth y a b, bs => a.fl bs ++ b.fl (bs ++ [y])
  | .app _ _ cs, bs => Code.fls cs bs
def Code.fls : List Code → List Str → List Str
  | [], _ => []
  | c :: cs, bs => c.fl bs ++ Code.fls cs bs
end
mutual
theorem fl_mem {x : Str} : ∀ (c : Code) (bs : List Str), x ∈ c.fl bs ↔ c.fr x ∧ x ∉ bs
  | .nm y, bs => by
    simp only [Code.fl, Code.fr]
    by_cases h : y ∈ bs
    · rw [if_pos h]
      exact ⟨fun z => (List.not_mem_nil z).elim, fun z => absurd h (z.1 ▸ z.2)⟩
    · rw [if_neg h, List.mem_singleton]
      exact ⟨fun z => ⟨z, z ▸ h⟩, fun z => z.1⟩
  | .gv i, bs => by simp [Code.fl, Code.fr]
  | .ite a b c d, bs => by
    simp only [Code.fl, Code.fr, List.mem_append, fl_mem a bs, fl_mem b bs, fl_mem c bs, fl_mem d bs]
    constructor
    · rintro (((z | z) | z) | z)
      · exact ⟨.inl z.1, z.2⟩
      · exact ⟨.inr (.inl z.1), z.2⟩
      · exact ⟨.inr (.inr (.inl z.1)), z.2⟩
      · exact ⟨.inr (.inr (.inr z.1)), z.2⟩
    · rintro ⟨z | z | z | z, q⟩
      · exact .inl (.inl (.inl ⟨z, q⟩))
      · exact .inl (.inl (.inr ⟨z, q⟩))
      · exact .inl (.inr ⟨z, q⟩)
      · exact .inr ⟨z, q⟩
  | .wth y a b, bs => by
    simp only [Code.fl, Code.fr, List.mem_append, fl_mem a bs, fl_mem b (bs ++ [y]), List.mem_singleton, not_or]
    constructor
    · rintro (z | z)
      · exact ⟨.inl z.1, z.2⟩
      · exact ⟨.inr ⟨z.2.2, z.1⟩, z.2.1⟩
    · rintro ⟨z | z, q⟩
      · exact .inl ⟨z, q⟩
      · exact .inr ⟨z.2, q, z.1⟩
  | .app w f cs, bs => by simp only [Code.fl, Code.fr]; exact fls_mem cs bs
theorem fls_mem {x : Str} : ∀ (cs : List Code) (bs : List Str), x ∈ Code.fls cs bs ↔ Code.frs cs x ∧ x ∉ bs
  | [], bs => by simp [Code.fls, Code.frs]
  | c :: cs, bs => by
    simp only [Code.fls, Code.frs, List.mem_append, fl_mem c bs, fls_mem cs bs]
    constructor
    · rintro (z | z)
      · exact ⟨.inl z.1, z.2⟩
      · exact ⟨.inr z.1, z.2⟩
    · rintro ⟨z | z, q⟩
      · exact .inl ⟨z, q⟩
      · exact .inr ⟨z, q⟩
end
mutual
theorem fl_len : ∀ (c : Code) (bs : List Str), (c.fl bs).length ≤ c.size
  | .nm y, bs => by simp only [Code.fl, Code.size]; split <;> simp
  | .gv i, bs => by simp only [Code.fl, Code.size]; simp
  | .ite a b c d, bs => by
    have := fl_len a bs; have := fl_len b bs; have := fl_len c bs; have := fl_len d bs
    simp only [Code.fl, Code.size, List.length_append]; omega
  | .wth y a b, bs => by
    have := fl_len a bs; have := fl_len b (bs ++ [y])
    simp only [Code.fl, Code.size, List.length_append]; omega
  | .app w f cs, bs => by
    have := fls_len cs bs
    simp only [Code.fl, Code.size]; omega
theorem fls_len : ∀ (cs : List Code) (bs : List Str), (Code.fls cs bs).length ≤ Code.sizes cs
  | [], bs => by simp [Code.fls, Code.sizes]
  | c :: cs, bs => by
    have := fl_len c bs; have := fls_len cs bs
    simp only [Code.fls, Code.sizes, List.length_append]; omega
end
def nsum (l : List Nat) : Nat := l.foldr (· + ·) 0
/-- how often names stand free -/
def cntA : Alg Nat where
  gv _ := 0
  ite a b c d := a + b + c + d
  wth a f := a + f 0
  app _ _ xs := nsum xs
/-- how many parts -/
def szA : Alg Nat where
  gv _ := 1
  ite a b c d := 1 + a + b + c + d
  wth a f := 1 + a + f 1
  app _ _ xs := 1 + nsum xs
abbrev dl (v : Str) : Str → Nat := fun y => if y = v then 1 else 0
mutual
theorem fl_cnt (v : Str) : ∀ (c : Code) (bs : List Str), (c.fl bs).count v = c.sem cntA fun y => if y ∈ bs then 0 else if y = v then 1 else 0
  | .nm y, bs => by
    simp only [Code.fl, Code.sem]
    by_cases h : y ∈ bs
    · rw [if_pos h, if_pos h]; rfl
    · rw [if_neg h, if_neg h, List.count_singleton]
      by_cases e : y = v
      · subst e; simp
      · rw [if_neg e, if_neg (by simpa using e)]
  | .gv i, bs => by simp [Code.fl, Code.sem, cntA]
  | .ite a b c d, bs => by
    simp only [Code.fl, Code.sem, List.count_append, fl_cnt v a bs, fl_cnt v b bs, fl_cnt v c bs, fl_cnt v d bs]; rfl
  | .wth y a b, bs => by
    simp only [Code.fl, Code.sem, List.count_append, fl_cnt v a bs, fl_cnt v b (bs ++ [y])]
    show _ + _ = _ + b.sem cntA (setV _ y 0)
    congr 2
    funext z
    unfold setV
    by_cases e : z = y
    · subst e; rw [if_pos rfl, if_pos (by simp)]
    · rw [if_neg e]
      show _ = if z ∈ bs then 0 else if z = v then 1 else 0
      by_cases h : z ∈ bs
      · rw [if_pos h, if_pos (by simp [h])]
      · rw [if_neg h, if_neg (by simp [h, e])]
  | .app w f cs, bs => by
    simp only [Code.fl, Code.sem, fls_cnt v cs bs]; rfl
theorem fls_cnt (v : Str) : ∀ (cs : List Code) (bs : List Str), (Code.fls cs bs).count v = nsum (Code.sems cntA cs fun y => if y ∈ bs then 0 else if y = v then 1 else 0)
  | [], bs => by simp [Code.fls, Code.sems, nsum]
  | c :: cs, bs => by
    simp only [Code.fls, Code.sems, List.count_append, fl_cnt v c bs, fls_cnt v cs bs]; rfl
end
theorem fl_cnt0 (v : Str) (c : Code) : (c.fl []).count v = c.sem cntA (dl v) := by
  rw [fl_cnt]
  congr 1
mutual
theorem cnt_lin (k : Nat) : ∀ (c : Code) (s t : Str → Nat), (c.sem cntA fun y => s y + k * t y) = c.sem cntA s + k * c.sem cntA t
  | .nm y, s, t => by simp only [Code.sem]
  | .gv i, s, t => by simp only [Code.sem, cntA]; rw [Nat.mul_zero]
  | .ite a b c d, s, t => by
    simp only [Code.sem, cntA]
    have h1 := cnt_lin k a s t; have h2 := cnt_lin k b s t; have h3 := cnt_lin k c s t; have h4 := cnt_lin k d s t
    simp only [cntA] at h1 h2 h3 h4
    rw [h1, h2, h3, h4, Nat.mul_add, Nat.mul_add, Nat.mul_add]; omega
  | .wth y a b, s, t => by
    simp only [Code.sem, cntA]
    have h1 := cnt_lin k a s t
    have h2 := cnt_lin k b (setV s y 0) (setV t y 0)
    have e : setV (fun y => s y + k * t y) y 0 = fun z => setV s y 0 z + k * setV t y 0 z := by
      funext z
      unfold setV
      split
      · rw [Nat.mul_zero]
      · rfl
    simp only [cntA] at h1 h2
    rw [e, h1, h2, Nat.mul_add]; omega
  | .app w f cs, s, t => by
    simp only [Code.sem]
    exact cnts_lin k cs s t
theorem cnts_lin (k : Nat) : ∀ (cs : List Code) (s t : Str → Nat), nsum (Code.sems cntA cs fun y => s y + k * t y) = nsum (Code.sems cntA cs s) + k * nsum (Code.sems cntA cs t)
  | [], s, t => by simp [Code.sems, nsum]
  | c :: cs, s, t => by
    simp only [Code.sems]
    show _ + nsum _ = (_ + nsum _) + k * (_ + nsum _)
    rw [cnt_lin k c s t, cnts_lin k cs s t, Nat.mul_add]; omega
end
mutual
theorem sz_lin (k : Nat) : ∀ (c : Code) (t : Str → Nat), (c.sem szA fun y => 1 + k * t y) = c.size + k * c.sem cntA t
  | .nm y, t => by simp only [Code.sem, Code.size]
  | .gv i, t => by simp only [Code.sem, cntA, szA, Code.size]; rw [Nat.mul_zero]
  | .ite a b c d, t => by
    have h1 := sz_lin k a t; have h2 := sz_lin k b t; have h3 := sz_lin k c t; have h4 := sz_lin k d t
    simp only [Code.sem, cntA, szA, Code.size] at h1 h2 h3 h4 ⊢
    rw [h1, h2, h3, h4, Nat.mul_add, Nat.mul_add, Nat.mul_add]; omega
  | .wth y a b, t => by
    have h1 := sz_lin k a t
    have h2 := sz_lin k b (setV t y 0)
    have e : setV (fun y => 1 + k * t y) y 1 = fun z => 1 + k * setV t y 0 z := by
      funext z
      unfold setV
      split
      · rw [Nat.mul_zero]
      · rfl
    simp only [Code.sem, cntA, szA, Code.size] at h1 h2 ⊢
    rw [e, h1, h2, Nat.mul_add]; omega
  | .app w f cs, t => by
    have := szs_lin k cs t
    simp only [Code.sem, Code.size]
    show 1 + nsum _ = 1 + _ + k * nsum _
    rw [this]; omega
theorem szs_lin (k : Nat) : ∀ (cs : List Code) (t : Str → Nat), nsum (Code.sems szA cs fun y => 1 + k * t y) = Code.sizes cs + k * nsum (Code.sems cntA cs t)
  | [], t => by simp [Code.sems, nsum, Code.sizes]
  | c :: cs, t => by
    simp only [Code.sems, Code.sizes]
    show _ + nsum _ = _ + _ + k * (_ + nsum _)
    rw [sz_lin k c t, szs_lin k cs t, Nat.mul_add]; omega
end
theorem size_sem (c : Code) : c.size = c.sem szA fun _ => 1 := by
  have := sz_lin 0 c fun _ => 0
  simp only [Nat.zero_mul, Nat.add_zero] at this
  exact this.symm
/-- what is told of one code put in for a name -/
def oneP (x : Str) (d : Code) : Str → Option Code := fun y => if x = y then some d else none
structure PutIn (c : Code) (x : Str) (d c' : Code) : Prop where
  sem : ∀ (X : Type) (A : Alg X) (s : Str → X), c'.sem A s = c.sem A (putsE A s (oneP x d))
theorem putsE_one {X : Type} (A : Alg X) (s : Str → X) (x : Str) (d : Code) (y : Str) : putsE A s (oneP x d) y = if y = x then d.sem A s else s y := by
  unfold putsE oneP
  by_cases e : x = y
  · subst e; simp only [if_true]
  · rw [if_neg e, if_neg (fun z => e z.symm)]
theorem put_size {c d c' : Code} {x : Str} (h : PutIn c x d c') : c'.size = c.size + (c.fl []).count x * (d.size - 1) := by
  rw [size_sem c', h.sem, fl_cnt0, Nat.mul_comm, ← sz_lin]
  congr 1
  funext y
  rw [putsE_one, ← size_sem d]
  have := d.size_pos
  by_cases e : y = x
  · rw [if_pos e, show dl x y = 1 from if_pos e]; omega
  · rw [if_neg e, show dl x y = 0 from if_neg e]; omega
theorem count_rep (v : Str) (l : List Str) : ∀ n : Nat, ((List.replicate n l).flatten).count v = n * l.count v
  | 0 => by simp
  | n + 1 => by
    rw [List.replicate_succ, List.flatten_cons, List.count_append, count_rep v l n, Nat.succ_mul]; omega
theorem put_free {c d c' : Code} {x : Str} (h : PutIn c x d c') : (c'.fl []).Perm (((c.fl []).filter fun y => decide (y ≠ x)) ++ (List.replicate ((c.fl []).count x) (d.fl [])).flatten) := by
  rw [List.perm_iff_count]
  intro v
  rw [List.count_append, count_rep, fl_cnt0, h.sem, fl_cnt0 v d]
  have e : putsE cntA (dl v) (oneP x d) = fun y => (if y = x then 0 else dl v y) + d.sem cntA (dl v) * dl x y := by
    funext y
    rw [putsE_one]
    by_cases e : y = x
    · rw [if_pos e, if_pos e, show dl x y = 1 from if_pos e]; omega
    · rw [if_neg e, if_neg e, show dl x y = 0 from if_neg e]; omega
  rw [e, cnt_lin, fl_cnt0 x c, Nat.mul_comm (d.sem cntA (dl v))]
  congr 1
  by_cases e : v = x
  · subst e
    have z : ((c.fl []).filter fun y => decide (y ≠ v)).count v = 0 := List.count_eq_zero.mpr fun q => by simpa using (List.mem_filter.mp q).2
    rw [z]
    have : (fun y => if y = v then 0 else dl v y) = fun y => 0 + 0 * dl v y := by
      funext y
      by_cases e : y = v <;> simp [e]
    rw [this, cnt_lin]
    have := cnt_lin 0 c (fun _ => 0) fun _ => 0
    have z2 : ∀ c : Code, c.sem cntA (fun _ => 0) = 0 := fun c => by
      have h := cnt_lin 1 c (fun _ => 0) fun _ => 0
      simp only [Nat.mul_zero, Nat.add_zero, Nat.one_mul] at h
      omega
    rw [z2]; omega
  · rw [List.count_filter (by simpa using e), fl_cnt0]
    congr 1
    funext y
    by_cases q : y = x
    · subst q
      have : ¬ y = v := fun z => e z.symm
      simp [this]
    · rw [if_neg q]
theorem put_ans {c d c' : Code} {x : Str} (h : PutIn c x d c') (T : Tab) (g : Int → Int) (r : Str → Int) : c'.ans T g r = c.ans T g fun y => if y = x then d.ans T g r else r y := by
  rw [ans_sem, h.sem, ans_sem]
  congr 1
  funext y
  rw [putsE_one, ans_sem]
theorem put_nc {c d c' : Code} {x : Str} {H : Int} (h : PutIn c x d c') (hc : c.nc H) (hd : d.nc H) : c'.nc H := by
  rw [nc_sem, h.sem]
  have e : putsE (ncA H) (fun _ => True) (oneP x d) = fun _ => True := by
    funext y
    rw [putsE_one]
    split
    · exact eq_true ((nc_sem H d).mp hd)
    · rfl
  rw [e]
  exact (nc_sem H c).mp hc
end K15

set_option Elab.async false
set_option linter.all false
set_option maxRecDepth 100000
set_option maxHeartbeats 4000000
namespace K15
open PySem L2 DL
local macro_rules | `(tactic| walk_at "dl") => `(tactic| simp only [Tr.toD, toDs_d, map_snoc, map_ins, treeT, seqT, iffT, setT, retT, nextT, retN, blT, DL.binT, nameT, cT, bagT, cutBT, putBT, augBT, consA, nilA, callT, ofF, lstF, lstR, tupT, eqD, neD, inD, notInD, someO, noneO, slT, revF, endD, enterS, ifT, andT, orT, notT, andB, orB, notB, truT, newT, mT, thruT, thruB, frzT, putT, parT, tgtT, methT, onT, isStr, isLst, getT, starA, negT, dropT, breakT, contT, tgD, putA, seqI, rng1I, enumI, zipI, forT, lcF, wipeS,
  addD_ii, addD_ib, addD_ss, addD_ll, addD_tt, subD_ii, mulD_ii, mulD_li, fdivD_ii, modD_ii, cmpI_ii, eqB_ss, eqB_ii, eqB_bb, eqB_tt, eqB_ll, inB_l, inB_t, ixD_l, ixD_t, ixD_s, slD_l, slD_t, truD_b, truD_i, truD_n, truD_s, truD_l, truD_t, intR_i, intR_b, lenR_s, lenR_l, lenR_t, absR_i, minR_ii, maxR_ii, tupR_l, tupR_t, appD_1, insD_1, extD_1, splitM_1, optK_some, atI_0, atI_1, atI_2, atI_3, atI_4, cutL_1, cutL_2, cutL_t1, cutL_t2,
  List.map_cons, List.map_nil, List.replicate_succ, List.replicate_zero, List.cons_append, List.nil_append, List.length_cons, List.length_nil, List.set_cons_zero, List.set_cons_succ, List.getElem?_cons_zero, List.getElem?_cons_succ, List.drop_succ_cons, List.drop_zero, List.take_succ_cons, List.take_zero, true_and, and_true, true_or, or_true, decide_eq_true_eq, reduceCtorEq, if_true, if_false, ite_true, ite_false, D.int.injEq, Nat.reduceAdd, Nat.reduceSub, Int.reduceSub, Int.reduceAdd, Int.reduceNeg, Bool.false_eq_true, Bool.true_eq_false, decide_true, decide_false, Bool.not_true, Bool.not_false, Bool.not_eq_true', decide_eq_false_iff_not])
local macro_rules | `(tactic| walk_at "di") => `(tactic| simp only [isiT, chainT, e0D, ixO, parO, parS, disp1T, emptyT, getT2, lookD, keyD, keyT, keysD, valD, valQ, dixT, listKR, itemsF, keysI, valsI, itemsI, dputK, newR, emptyR, augI, whileT, dcT, lc2F, Tr.toEs, Bool.or_true, Bool.or_false, Bool.true_or, Bool.false_or, isi2T, inSg, notInSg, tabT, List.isEmpty_nil, List.isEmpty_cons, ib_int_NoneType, ib_int_bool, ib_int_int, ib_int_str, ib_int_list, ib_int_tuple, ib_int_dict, ib_bool_NoneType, ib_bool_bool, ib_bool_int, ib_bool_str, ib_bool_list, ib_bool_tuple, ib_bool_dict, ib_str_NoneType, ib_str_bool, ib_str_int, ib_str_str, ib_str_list, ib_str_tuple, ib_str_dict, ib_list_NoneType, ib_list_bool, ib_list_int, ib_list_str, ib_list_list, ib_list_tuple, ib_list_dict, ib_tuple_NoneType, ib_tuple_bool, ib_tuple_int, ib_tuple_str, ib_tuple_list, ib_tuple_tuple, ib_tuple_dict])
local macro_rules | `(tactic| walk_at "dx") => `(tactic| ((try walk_at "dl"); (try walk_at "di"); (try walk_at "dl"); (try walk_at "di"); (try walk_at "dl")))
local macro_rules | `(tactic| walk_at "cd") => `(tactic| simp only [Code.toD, Code.toDs, Code.kids, List.any_cons, List.any_nil, D.py, PyData.eqv, beq_iff_eq, Bool.or_false, Bool.or_eq_true, Bool.or_eq_false_iff, or_false, false_or, q_name_given, q_name_if, q_name_with, q_name_work, q_name_call, q_name_bound, q_given_name, q_given_if, q_given_with, q_given_work, q_given_call, q_given_bound, q_if_name, q_if_given, q_if_with, q_if_work, q_if_call, q_if_bound, q_with_name, q_with_given, q_with_if, q_with_work, q_with_call, q_with_bound, q_work_name, q_work_given, q_work_if, q_work_with, q_work_call, q_work_bound, q_call_name, q_call_given, q_call_if, q_call_with, q_call_work, q_call_bound, q_bound_name, q_bound_given, q_bound_if, q_bound_with, q_bound_work, q_bound_call, in_name, in_given, in_if, in_with, in_work, in_call])
local macro_rules | `(tactic| walk_at "ce") => `(tactic| (walk_at "cd"; walk_at "dl"; (try walk_at "cd"); (try walk_at "dl"); (try walk_at "cd")))
/-! ### alike -/
def look : List (Str × Str) → Str → Str → Bool
  | [], x, y => decide (x = y)
  | (m, i) :: r, x, y => if m = x ∨ i = y then decide (m = x) && decide (i = y) else look r x y
mutual
def alike : Code → Code → List (Str × Str) → Bool
  | .nm x, .nm y, bs => look bs.reverse x y
  | .gv i, .gv j, _ => decide (i = j)
  | .ite a b c d, .ite a' b' c' d', bs => alike a a' bs && (alike b b' bs && (alike c c' bs && (alike d d' bs && true)))
  | .wth x a b, .wth y a' b', bs => alike a a' bs && alike b b' (bs ++ [(x, y)])
  | .app w f cs, .app w' f' cs', bs => decide (w = w') && (decide (f = f') && alikes cs cs' bs)
  | _, _, _ => false
def alikes : List Code → List Code → List (Str × Str) → Bool
  | [], [], _ => true
  | c :: cs, c' :: cs', bs => alike c c' bs && alikes cs cs' bs
  | _, _, _ => false
end
def pr (q : Str × Str) : D := .tup [.str q.1, .str q.2]
def R_al (n : Nat) : RD := fun ds k => ∃ (a b : Code) (bs : List (Str × Str)), ds = [a.toD, b.toD, .lst (bs.map pr)] ∧ a.size ≤ n ∧ b.size ≤ 100 ∧ a.size + bs.length ≤ 200 ∧ k (.bl (alike a b bs))
theorem alikes_kids {bs : List (Str × Str)} : ∀ {cs cs' : List Code}, cs.length = cs'.length → alikes cs cs' bs = ((cs.zip cs').map fun q => alike q.1 q.2 bs).all id
  | [], [], _ => by simp [alikes]
  | c :: cs, c' :: cs', h => by
    simp only [alikes, List.zip_cons_cons, List.map_cons, List.all_cons, id_eq]
    rw [alikes_kids (by simpa using h)]
  | [], _ :: _, h => by simp at h
  | _ :: _, [], h => by simp at h
theorem alikes_ne {bs : List (Str × Str)} : ∀ {cs cs' : List Code}, cs.length ≠ cs'.length → alikes cs cs' bs = false
  | [], [], h => absurd rfl h
  | c :: cs, c' :: cs', h => by
    simp only [alikes]
    rw [alikes_ne (cs := cs) (cs' := cs') (by simpa using h), Bool.and_false]
  | [], _ :: _, _ => by simp only [alikes]
  | _ :: _, [], _ => by simp only [alikes]
/-- the loop over the pairs of the kids -/
theorem kids_al {n : Nat} {cs cs' : List Code} {bs : List (Str × Str)} {ρ : List Sl} {k : List D → Prop} (h2 : ρ[2]? = some (.dat (.lst (bs.map pr)))) (hl : 5 ≤ ρ.length)
    (hc : ∀ c ∈ cs, c.size ≤ n ∧ c.size + bs.length ≤ 200) (hc' : ∀ c ∈ cs', c.size ≤ 100) (hk : k (((cs.zip cs').map fun q => alike q.1 q.2 bs).map .bl)) :
    compT (.tp [3, 4]) yesT (callT (R_al n) (consA (nameT 3) (consA (nameT 4) (consA (nameT 2) nilA)))) ρ (pairD (Code.toDs cs) (Code.toDs cs')) [] k := by
  have e : pairD (Code.toDs cs) (Code.toDs cs') = (cs.zip cs').map fun q => .tup [q.1.toD, q.2.toD] := by
    unfold pairD
    rw [toDs_map, toDs_map, List.zip_map, List.map_map]; rfl
  rw [e]
  obtain ⟨s0, s1, s2, s3, s4, r, rfl⟩ : ∃ s0 s1 s2 s3 s4 r, ρ = s0 :: s1 :: s2 :: s3 :: s4 :: r := by
    match ρ, hl with
    | s0 :: s1 :: s2 :: s3 :: s4 :: r, _ => exact ⟨_, _, _, _, _, _, rfl⟩
  simp only [List.getElem?_cons_succ, List.getElem?_cons_zero, Option.some.injEq] at h2
  subst h2
  have main : ∀ (qs : List (Code × Code)) (acc : List Bool), (∀ q ∈ qs, q.1.size ≤ n ∧ q.1.size + bs.length ≤ 200 ∧ q.2.size ≤ 100) → k ((acc ++ qs.map fun q => alike q.1 q.2 bs).map .bl) →
      compT (.tp [3, 4]) yesT (callT (R_al n) (consA (nameT 3) (consA (nameT 4) (consA (nameT 2) nilA)))) (s0 :: s1 :: .dat (.lst (bs.map pr)) :: s3 :: s4 :: r) (qs.map fun q => .tup [q.1.toD, q.2.toD]) (acc.map .bl) k := by
    intro qs
    induction qs with
    | nil =>
      intro acc _ hk
      rw [List.map_nil, List.append_nil] at hk
      exact hk
    | cons q qs ih =>
      intro acc hq hk
      rw [List.map_cons]
      unfold compT
      unfold yesT
      walk_at "dl"
      obtain ⟨q1, q2, q3⟩ := hq q List.mem_cons_self
      refine ⟨q.1, q.2, bs, rfl, q1, q3, q2, ?_⟩
      have e : acc.map D.bl ++ [D.bl (alike q.1 q.2 bs)] = (acc ++ [alike q.1 q.2 bs]).map .bl := by rw [List.map_append]; rfl
      show compT (.tp [3, 4]) yesT _ _ _ (acc.map D.bl ++ [D.bl (alike q.1 q.2 bs)]) k
      rw [e]
      refine ih _ (fun z hz => hq z (List.mem_cons_of_mem _ hz)) ?_
      rw [List.append_assoc]
      exact hk
  refine main (cs.zip cs') [] (fun q hq => ?_) hk
  obtain ⟨u, v⟩ := q
  have hz := List.of_mem_zip hq
  exact ⟨(hc u hz.1).1, (hc u hz.1).2, hc' v hz.2⟩
theorem tail_al {n : Nat} {a b : Code} {bs : List (Str × Str)} {κ : D → Prop} {ρ : List Sl} (h2 : ρ[2]? = some (.dat (.lst (bs.map pr)))) (hl : 5 ≤ ρ.length) (hn : a.size ≤ n + 1) (hb : b.size ≤ 100) (hz : a.size + bs.length ≤ 200)
    (h : κ (.bl (alikes a.kids b.kids bs))) : R_in [a.toD] fun d => lenR [d] fun x => R_in [b.toD] fun d => lenR [d] fun y => eqB x y fun c => if c = false then κ (.bl false) else R_in [a.toD] fun d => R_in [b.toD] fun d1 =>
      zipI (fun _ k => k [d, d1]) [] fun ps => ps.length ≤ sizeLine ∧ compT (.tp [3, 4]) yesT (callT (R_al n) (consA (nameT 3) (consA (nameT 4) (consA (nameT 2) nilA)))) ρ ps [] fun ds => allR [.lst ds] κ := by
  have hs : sizeLine = 16777216 := sizeLine_eq
  refine ⟨a, rfl, b, rfl, ?_⟩
  have la := toDs_len a.kids
  have lb := toDs_len b.kids
  have ka := kids_sizes a
  have kb := kids_sizes b
  have sa := sizes_len a.kids
  have sb := sizes_len b.kids
  show if decide (((Code.toDs a.kids).length : Int) = ((Code.toDs b.kids).length : Int)) = false then _ else _
  by_cases e : a.kids.length = b.kids.length
  · have e' : ((Code.toDs a.kids).length : Int) = ((Code.toDs b.kids).length : Int) := by omega
    rw [if_neg (by rw [decide_eq_true e']; exact Bool.noConfusion)]
    refine ⟨a, rfl, b, rfl, by rw [pairD_len]; omega, ?_⟩
    refine kids_al h2 hl (fun c hc => ?_) (fun c hc => ?_) ⟨_, rfl, ?_⟩
    · have := sizes_mem hc; omega
    · have := sizes_mem hc; omega
    · rw [← alikes_kids e]; exact h
  · have e' : ¬ ((Code.toDs a.kids).length : Int) = ((Code.toDs b.kids).length : Int) := by omega
    rw [if_pos (decide_eq_false e')]
    rw [alikes_ne e] at h
    exact h
theorem p_al (n : Nat) : ∀ ds κ, R_al (n + 1) ds κ → t_are_like (R_al n) R_in (endD κ) (enterS 6 ds) := by
  have hs : sizeLine = 16777216 := sizeLine_eq
  rintro ds κ ⟨a, b, bs, rfl, hn, hb, hz, h⟩
  unfold t_are_like
  cases a with
  | nm x =>
    cases b with
    | nm y =>
      walk_at "ce"
      simp only [alike] at h
      have main : ∀ (rs : List (Str × Str)) (ρ : List Sl), (∃ u v, ρ = [.dat (Code.nm x).toD, .dat (Code.nm y).toD, .dat (.lst (bs.map pr)), u, v, .un]) → κ (.bl (look rs x y)) → loopT (.tp [3, 4]) (iffT (orB (blT (DL.binT eqD (nameT 3) (DL.binT ixD (nameT 0) (cT (.int 1))))) (blT (DL.binT eqD (nameT 4) (DL.binT ixD (nameT 1) (cT (.int 1)))))) (retT (andT (DL.binT eqD (nameT 3) (DL.binT ixD (nameT 0) (cT (.int 1)))) (DL.binT eqD (nameT 4) (DL.binT ixD (nameT 1) (cT (.int 1)))))) nextT)
          { nx := retT (DL.binT eqD (DL.binT ixD (nameT 0) (cT (.int 1))) (DL.binT ixD (nameT 1) (cT (.int 1)))) (endD κ), rt := (endD κ).rt, bk := fun _ => False, ct := fun _ => False } (rs.map pr) ρ := by
        intro rs
        induction rs with
        | nil =>
          rintro ρ ⟨u, v, rfl⟩ h
          unfold loopT
          walk_at "ce"
          exact h
        | cons q rs ih =>
          rintro ρ ⟨u, v, rfl⟩ h
          obtain ⟨m, i⟩ := q
          rw [List.map_cons]
          unfold loopT
          rw [show pr (m, i) = .tup [.str m, .str i] from rfl]
          walk_at "ce"
          have ih' := ih _ ⟨.dat (.str m), .dat (.str i), rfl⟩
          simp only [Code.toD] at ih'
          by_cases e1 : m = x
          · rw [if_pos e1, if_pos e1]
            simpa [look, e1] using h
          · rw [if_neg e1]
            by_cases e2 : i = y
            · rw [if_pos e2, if_neg e1]
              simpa [look, e1, e2] using h
            · rw [if_neg e2]
              exact ih' (by simpa [look, e1, e2] using h)
      have e : (bs.map pr).reverse = bs.reverse.map pr := List.map_reverse.symm
      rw [e]
      exact main bs.reverse _ ⟨.un, .un, by simp only [Code.toD]⟩ h
    | app w f cs => cases w <;> (walk_at "ce"; simpa [alike] using h)
    | _ => walk_at "ce"; simpa [alike] using h
  | gv i =>
    cases b with
    | gv j =>
      walk_at "ce"
      refine ⟨⟨by simp [D.py, D.pys, PyData.canLay0, PyData.canLayAll0]; decide +kernel, by simp [D.py, D.pys, PyData.canLay0, PyData.canLayAll0]; decide +kernel, by simp [D.py, D.pys, PyData.depth, PyData.depthAll]⟩, ?_⟩
      simp only [alike] at h
      have e : PyData.eqvAll (D.pys [.str "given", .int i]) (D.pys [.str "given", .int j]) = decide (i = j) := by
        simp [D.pys, D.py, PyData.eqv, PyData.eqvAll]
        by_cases e : i = j <;> simp [e]
      rw [e]
      exact h
    | app w f cs => cases w <;> (walk_at "ce"; simpa [alike] using h)
    | _ => walk_at "ce"; simpa [alike] using h
  | wth x a1 a2 =>
    cases b with
    | wth y b1 b2 =>
      simp only [Code.size] at hn hb hz
      walk_at "ce"
      simp only [alike] at h
      refine ⟨by omega, by simp; omega, ?_⟩
      refine ⟨a1, b1, bs, rfl, by omega, by omega, by omega, ?_⟩
      walk_at "dl"
      cases e : alike a1 b1 bs with
      | true =>
        rw [e] at h
        simp only [if_true]
        exact ⟨a2, b2, bs ++ [(x, y)], by rw [List.map_append]; rfl, by omega, by omega, by simp; omega, by simpa using h⟩
      | false =>
        rw [e] at h
        simpa using h
    | app w f cs => cases w <;> (walk_at "ce"; simpa [alike] using h)
    | _ => walk_at "ce"; simpa [alike] using h
  | ite a1 a2 a3 a4 =>
    cases b with
    | ite b1 b2 b3 b4 =>
      walk_at "ce"
      exact tail_al (a := .ite a1 a2 a3 a4) (b := .ite b1 b2 b3 b4) rfl (by simp) hn hb hz (by simpa [Code.kids, alikes, alike] using h)
    | app w f cs => cases w <;> (walk_at "ce"; simpa [alike] using h)
    | _ => walk_at "ce"; simpa [alike] using h
  | app w f cs =>
    cases b with
    | app w' f' cs' =>
      cases w <;> cases w'
      · by_cases ef : f = f'
        · subst ef
          walk_at "ce"
          exact tail_al (a := .app false f cs) (b := .app false f cs') rfl (by simp) hn hb hz (by simpa [alike, Code.kids] using h)
        · walk_at "ce"
          rw [if_pos ef]
          simpa [alike, ef] using h
      · walk_at "ce"; simpa [alike] using h
      · walk_at "ce"; simpa [alike] using h
      · by_cases ef : f = f'
        · subst ef
          walk_at "ce"
          exact tail_al (a := .app true f cs) (b := .app true f cs') rfl (by simp) hn hb hz (by simpa [alike, Code.kids] using h)
        · walk_at "ce"
          rw [if_pos ef]
          simpa [alike, ef] using h
    | _ => cases w <;> (walk_at "ce"; simpa [alike] using h)
end K15

set_option Elab.async false
set_option linter.all false
set_option maxRecDepth 100000
set_option maxHeartbeats 4000000
namespace K15
open PySem L2 DL
local macro_rules | `(tactic| walk_at "dl") => `(tactic| simp only [Tr.toD, toDs_d, map_snoc, map_ins, treeT, seqT, iffT, setT, retT, nextT, retN, blT, DL.binT, nameT, cT, bagT, cutBT, putBT, augBT, consA, nilA, callT, ofF, lstF, lstR, tupT, eqD, neD, inD, notInD, someO, noneO, slT, revF, endD, enterS, ifT, andT, orT, notT, andB, orB, notB, truT, newT, mT, thruT, thruB, frzT, putT, parT, tgtT, methT, onT, isStr, isLst, getT, starA, negT, dropT, breakT, contT, tgD, putA, seqI, rng1I, enumI, zipI, forT, lcF, wipeS,
  addD_ii, addD_ib, addD_ss, addD_ll, addD_tt, subD_ii, mulD_ii, mulD_li, fdivD_ii, modD_ii, cmpI_ii, eqB_ss, eqB_ii, eqB_bb, eqB_tt, eqB_ll, inB_l, inB_t, ixD_l, ixD_t, ixD_s, slD_l, slD_t, truD_b, truD_i, truD_n, truD_s, truD_l, truD_t, intR_i, intR_b, lenR_s, lenR_l, lenR_t, absR_i, minR_ii, maxR_ii, tupR_l, tupR_t, appD_1, insD_1, extD_1, splitM_1, optK_some, atI_0, atI_1, atI_2, atI_3, atI_4, cutL_1, cutL_2, cutL_t1, cutL_t2,
  List.map_cons, List.map_nil, List.replicate_succ, List.replicate_zero, List.cons_append, List.nil_append, List.length_cons, List.length_nil, List.set_cons_zero, List.set_cons_succ, List.getElem?_cons_zero, List.getElem?_cons_succ, List.drop_succ_cons, List.drop_zero, List.take_succ_cons, List.take_zero, true_and, and_true, true_or, or_true, decide_eq_true_eq, reduceCtorEq, if_true, if_false, ite_true, ite_false, D.int.injEq, Nat.reduceAdd, Nat.reduceSub, Int.reduceSub, Int.reduceAdd, Int.reduceNeg, Bool.false_eq_true, Bool.true_eq_false, decide_true, decide_false, Bool.not_true, Bool.not_false, Bool.not_eq_true', decide_eq_false_iff_not])
local macro_rules | `(tactic| walk_at "di") => `(tactic| simp only [isiT, chainT, e0D, ixO, parO, parS, disp1T, emptyT, getT2, lookD, keyD, keyT, keysD, valD, valQ, dixT, listKR, itemsF, keysI, valsI, itemsI, dputK, newR, emptyR, augI, whileT, dcT, lc2F, Tr.toEs, Bool.or_true, Bool.or_false, Bool.true_or, Bool.false_or, isi2T, inSg, notInSg, tabT, List.isEmpty_nil, List.isEmpty_cons, ib_int_NoneType, ib_int_bool, ib_int_int, ib_int_str, ib_int_list, ib_int_tuple, ib_int_dict, ib_bool_NoneType, ib_bool_bool, ib_bool_int, ib_bool_str, ib_bool_list, ib_bool_tuple, ib_bool_dict, ib_str_NoneType, ib_str_bool, ib_str_int, ib_str_str, ib_str_list, ib_str_tuple, ib_str_dict, ib_list_NoneType, ib_list_bool, ib_list_int, ib_list_str, ib_list_list, ib_list_tuple, ib_list_dict, ib_tuple_NoneType, ib_tuple_bool, ib_tuple_int, ib_tuple_str, ib_tuple_list, ib_tuple_tuple, ib_tuple_dict])
local macro_rules | `(tactic| walk_at "dx") => `(tactic| ((try walk_at "dl"); (try walk_at "di"); (try walk_at "dl"); (try walk_at "di"); (try walk_at "dl")))
local macro_rules | `(tactic| walk_at "cd") => `(tactic| simp only [Code.toD, Code.toDs, Code.kids, List.any_cons, List.any_nil, D.py, PyData.eqv, beq_iff_eq, Bool.or_false, Bool.or_eq_true, Bool.or_eq_false_iff, or_false, false_or, q_name_given, q_name_if, q_name_with, q_name_work, q_name_call, q_name_bound, q_given_name, q_given_if, q_given_with, q_given_work, q_given_call, q_given_bound, q_if_name, q_if_given, q_if_with, q_if_work, q_if_call, q_if_bound, q_with_name, q_with_given, q_with_if, q_with_work, q_with_call, q_with_bound, q_work_name, q_work_given, q_work_if, q_work_with, q_work_call, q_work_bound, q_call_name, q_call_given, q_call_if, q_call_with, q_call_work, q_call_bound, q_bound_name, q_bound_given, q_bound_if, q_bound_with, q_bound_work, q_bound_call, in_name, in_given, in_if, in_with, in_work, in_call])
local macro_rules | `(tactic| walk_at "ce") => `(tactic| (walk_at "cd"; walk_at "dl"; (try walk_at "cd"); (try walk_at "dl"); (try walk_at "cd")))
/-! ### numbered -/
def place (rs : List Str) (x : Str) : D := if x ∈ rs then .tup [.str "bound", .int (rs.idxOf x : Nat)] else .tup [.str "name", .str x]
mutual
def num : Code → List Str → D
  | .nm x, bs => place bs.reverse x
  | .gv i, _ => .tup [.str "given", .int i]
  | .ite a b c d, bs => .tup [.str "if", num a bs, num b bs, num c bs, num d bs]
  | .wth x a b, bs => .tup [.str "with", num a bs, num b (bs ++ [x])]
  | .app w f cs, bs => .tup [.str (if w = true then "work" else "call"), .str f, .tup (nums cs bs)]
def nums : List Code → List Str → List D
  | [], _ => []
  | c :: cs, bs => num c bs :: nums cs bs
end
theorem nums_map (bs : List Str) : ∀ cs : List Code, nums cs bs = cs.map fun c => num c bs
  | [] => by simp only [nums, List.map_nil]
  | c :: cs => by simp only [nums, List.map_cons, nums_map bs cs]
theorem place_tup (rs : List Str) (x : Str) : ∃ ds, place rs x = .tup ds := by unfold place; split <;> exact ⟨_, rfl⟩
theorem num_tup (c : Code) (bs : List Str) : ∃ ds, num c bs = .tup ds := by
  cases c <;> simp only [num] <;> first | exact place_tup _ _ | exact ⟨_, rfl⟩
theorem eqv_place : ∀ (rs : List (Str × Str)) (x y : Str), PyData.eqv (place (rs.map (·.1)) x).py (place (rs.map (·.2)) y).py = look rs x y
  | [], x, y => by
    simp only [place, List.map_nil, List.not_mem_nil, if_false, look, D.py, D.pys, PyData.eqv, PyData.eqvAll, beq_self_eq_true, Bool.true_and, Bool.and_true]
    by_cases e : x = y <;> simp [e]
  | (m, i) :: r, x, y => by
    have ih := eqv_place r x y
    simp only [look, List.map_cons]
    have nb : (("bound" : Str) == ("name" : Str)) = false := by decide +kernel
    have bn : (("name" : Str) == ("bound" : Str)) = false := by decide +kernel
    by_cases e1 : m = x
    · by_cases e2 : i = y
      · subst e1 e2
        simp [place, List.idxOf_cons, D.py, D.pys, PyData.eqv, PyData.eqvAll]
      · subst e1
        rw [if_pos (Or.inl rfl)]
        unfold place
        rw [if_pos List.mem_cons_self]
        split
        · rename_i h
          have h' : y ∈ r.map (·.2) := (List.mem_cons.mp h).resolve_left fun z => e2 z.symm
          have e3 : (i == y) = false := by simpa using e2
          simp [List.idxOf_cons, e3, D.py, D.pys, PyData.eqv, PyData.eqvAll, e2]
          omega
        · simp [D.py, D.pys, PyData.eqv, PyData.eqvAll, nb, e2]
    · by_cases e2 : i = y
      · subst e2
        rw [if_pos (Or.inr rfl)]
        unfold place
        rw [if_pos (List.mem_cons_self (a := i))]
        split
        · have e3 : (m == x) = false := by simpa using e1
          simp [List.idxOf_cons, e3, D.py, D.pys, PyData.eqv, PyData.eqvAll, e1]
          omega
        · simp [D.py, D.pys, PyData.eqv, PyData.eqvAll, bn, e1]
      · rw [if_neg (by simp [e1, e2]), ← ih]
        have s1 : ∀ {l : List Str} {m x : Str}, ¬ m = x → place (m :: l) x = if x ∈ l then .tup [.str "bound", .int ((l.idxOf x + 1 : Nat) : Int)] else .tup [.str "name", .str x] := fun {l m x} e => by
          unfold place
          have e3 : (m == x) = false := by simpa using e
          have e4 : x ∈ m :: l ↔ x ∈ l := by simp [Ne.symm e]
          simp only [e4, List.idxOf_cons, e3]
          rfl
        rw [s1 e1, s1 e2]
        unfold place
        split <;> split
        · simp only [D.py, D.pys, PyData.eqv, PyData.eqvAll, beq_self_eq_true, Bool.true_and, Bool.and_true]
          rw [Bool.eq_iff_iff, beq_iff_eq, beq_iff_eq]
          omega
        · simp [D.py, D.pys, PyData.eqv, PyData.eqvAll, nb]
        · simp [D.py, D.pys, PyData.eqv, PyData.eqvAll, bn]
        · simp [D.py, D.pys, PyData.eqv, PyData.eqvAll]
/-- the first word of a numbered code -/
def tg : Code → List Str → Str
  | .nm x, bs => if x ∈ bs.reverse then "bound" else "name"
  | .gv _, _ => "given"
  | .ite _ _ _ _, _ => "if"
  | .wth _ _ _, _ => "with"
  | .app w _ _, _ => if w = true then "work" else "call"
theorem tg_hd (c : Code) (bs : List Str) : ∃ xs, (num c bs).py = .tuple (.str (tg c bs) :: xs) := by
  cases c with
  | nm x =>
    simp only [num, tg]; unfold place; split
    · exact ⟨[.int (bs.reverse.idxOf x : Nat)], by simp only [D.py, D.pys]⟩
    · exact ⟨[.str x], by simp only [D.py, D.pys]⟩
  | _ => simp only [num, tg, D.py, D.pys]; exact ⟨_, rfl⟩
theorem mis {a b : Code} {bs bs' : List Str} (h : (tg a bs == tg b bs') = false) : PyData.eqv (num a bs).py (num b bs').py = false := by
  obtain ⟨xs, e1⟩ := tg_hd a bs
  obtain ⟨ys, e2⟩ := tg_hd b bs'
  rw [e1, e2]
  simp only [PyData.eqv, PyData.eqvAll, h, Bool.false_and]
local macro_rules | `(tactic| walk_at "mm") => `(tactic| (rw [mis (by unfold tg; (repeat' split) <;> first | decide +kernel | contradiction)]; simp only [alike]))
theorem eqv_nums_of {qs : List (Str × Str)} : ∀ {as bs : List Code}, (∀ a ∈ as, ∀ b, PyData.eqv (num a (qs.map (·.1))).py (num b (qs.map (·.2))).py = alike a b qs) → PyData.eqvAll (D.pys (nums as (qs.map (·.1)))) (D.pys (nums bs (qs.map (·.2)))) = alikes as bs qs
  | [], [], _ => by simp only [nums, alikes, D.pys, PyData.eqvAll]
  | [], _ :: _, _ => by simp only [nums, alikes, D.pys, PyData.eqvAll]
  | _ :: _, [], _ => by simp only [nums, alikes, D.pys, PyData.eqvAll]
  | a :: as, b :: bs, h => by
    simp only [nums, alikes, D.pys, PyData.eqvAll]
    rw [h a List.mem_cons_self b, eqv_nums_of fun c hc => h c (List.mem_cons_of_mem _ hc)]
theorem eqv_num : ∀ (n : Nat) (a b : Code) (bs : List (Str × Str)), a.size ≤ n → PyData.eqv (num a (bs.map (·.1))).py (num b (bs.map (·.2))).py = alike a b bs
  | 0, a, b, bs, h => absurd a.size_pos (by omega)
  | n + 1, a, b, bs, hn => by
    cases a with
    | nm x =>
      cases b with
      | nm y =>
        simp only [num, alike]
        rw [← List.map_reverse, ← List.map_reverse]
        exact eqv_place bs.reverse x y
      | _ => walk_at "mm"
    | gv i =>
      cases b with
      | gv j =>
        simp only [num, alike, D.py, D.pys, PyData.eqv, PyData.eqvAll, beq_self_eq_true, Bool.true_and, Bool.and_true]
        by_cases e : i = j <;> simp [e]
      | _ => walk_at "mm"
    | ite a1 a2 a3 a4 =>
      simp only [Code.size] at hn
      cases b with
      | ite b1 b2 b3 b4 =>
        have h1 := eqv_num n a1 b1 bs (by omega)
        have h2 := eqv_num n a2 b2 bs (by omega)
        have h3 := eqv_num n a3 b3 bs (by omega)
        have h4 := eqv_num n a4 b4 bs (by omega)
        simp only [num, alike, D.py, D.pys, PyData.eqvAll]
        show (("if" : Str) == "if" && (PyData.eqv _ _ && (PyData.eqv _ _ && (PyData.eqv _ _ && (PyData.eqv _ _ && true))))) = _
        rw [h1, h2, h3, h4, beq_self_eq_true, Bool.true_and]
      | _ => walk_at "mm"
    | wth x a1 a2 =>
      simp only [Code.size] at hn
      cases b with
      | wth y b1 b2 =>
        have h1 := eqv_num n a1 b1 bs (by omega)
        have h2 := eqv_num n a2 b2 (bs ++ [(x, y)]) (by omega)
        rw [List.map_append, List.map_append] at h2
        simp only [num, alike, D.py, D.pys, PyData.eqvAll]
        show (("with" : Str) == "with" && (PyData.eqv _ _ && (PyData.eqv _ _ && true))) = _
        rw [h1, beq_self_eq_true, Bool.true_and, Bool.and_true]
        exact congrArg _ h2
      | _ => walk_at "mm"
    | app w f cs =>
      simp only [Code.size] at hn
      cases b with
      | app w' f' cs' =>
        have h := eqv_nums_of (qs := bs) (as := cs) (bs := cs') fun a ha b => eqv_num n a b bs (by have := sizes_mem ha; omega)
        by_cases ew : w = w'
        · subst ew
          simp only [num, alike, D.py, D.pys, PyData.eqvAll]
          show ((_ : Str) == _ && ((_ : Str) == _ && (PyData.eqvAll _ _ && true))) = _
          rw [h, beq_self_eq_true, Bool.true_and, Bool.and_true, decide_true, Bool.true_and]
          by_cases e : f = f' <;> simp [e]
        · cases w <;> cases w' <;> first | exact absurd rfl ew | (rw [mis (by simp only [tg]; decide +kernel)]; simp [alike])
      | _ => cases w <;> walk_at "mm"
end K15

set_option Elab.async false
set_option linter.all false
set_option maxRecDepth 100000
set_option maxHeartbeats 4000000
namespace K15
open PySem L2 DL
local macro_rules | `(tactic| walk_at "dl") => `(tactic| simp only [Tr.toD, toDs_d, map_snoc, map_ins, treeT, seqT, iffT, setT, retT, nextT, retN, blT, DL.binT, nameT, cT, bagT, cutBT, putBT, augBT, consA, nilA, callT, ofF, lstF, lstR, tupT, eqD, neD, inD, notInD, someO, noneO, slT, revF, endD, enterS, ifT, andT, orT, notT, andB, orB, notB, truT, newT, mT, thruT, thruB, frzT, putT, parT, tgtT, methT, onT, isStr, isLst, getT, starA, negT, dropT, breakT, contT, tgD, putA, seqI, rng1I, enumI, zipI, forT, lcF, wipeS,
  addD_ii, addD_ib, addD_ss, addD_ll, addD_tt, subD_ii, mulD_ii, mulD_li, fdivD_ii, modD_ii, cmpI_ii, eqB_ss, eqB_ii, eqB_bb, eqB_tt, eqB_ll, inB_l, inB_t, ixD_l, ixD_t, ixD_s, slD_l, slD_t, truD_b, truD_i, truD_n, truD_s, truD_l, truD_t, intR_i, intR_b, lenR_s, lenR_l, lenR_t, absR_i, minR_ii, maxR_ii, tupR_l, tupR_t, appD_1, insD_1, extD_1, splitM_1, optK_some, atI_0, atI_1, atI_2, atI_3, atI_4, cutL_1, cutL_2, cutL_t1, cutL_t2,
  List.map_cons, List.map_nil, List.replicate_succ, List.replicate_zero, List.cons_append, List.nil_append, List.length_cons, List.length_nil, List.set_cons_zero, List.set_cons_succ, List.getElem?_cons_zero, List.getElem?_cons_succ, List.drop_succ_cons, List.drop_zero, List.take_succ_cons, List.take_zero, true_and, and_true, true_or, or_true, decide_eq_true_eq, reduceCtorEq, if_true, if_false, ite_true, ite_false, D.int.injEq, Nat.reduceAdd, Nat.reduceSub, Int.reduceSub, Int.reduceAdd, Int.reduceNeg, Bool.false_eq_true, Bool.true_eq_false, decide_true, decide_false, Bool.not_true, Bool.not_false, Bool.not_eq_true', decide_eq_false_iff_not])
local macro_rules | `(tactic| walk_at "di") => `(tactic| simp only [isiT, chainT, e0D, ixO, parO, parS, disp1T, emptyT, getT2, lookD, keyD, keyT, keysD, valD, valQ, dixT, listKR, itemsF, keysI, valsI, itemsI, dputK, newR, emptyR, augI, whileT, dcT, lc2F, Tr.toEs, Bool.or_true, Bool.or_false, Bool.true_or, Bool.false_or, isi2T, inSg, notInSg, tabT, List.isEmpty_nil, List.isEmpty_cons, ib_int_NoneType, ib_int_bool, ib_int_int, ib_int_str, ib_int_list, ib_int_tuple, ib_int_dict, ib_bool_NoneType, ib_bool_bool, ib_bool_int, ib_bool_str, ib_bool_list, ib_bool_tuple, ib_bool_dict, ib_str_NoneType, ib_str_bool, ib_str_int, ib_str_str, ib_str_list, ib_str_tuple, ib_str_dict, ib_list_NoneType, ib_list_bool, ib_list_int, ib_list_str, ib_list_list, ib_list_tuple, ib_list_dict, ib_tuple_NoneType, ib_tuple_bool, ib_tuple_int, ib_tuple_str, ib_tuple_list, ib_tuple_tuple, ib_tuple_dict])
local macro_rules | `(tactic| walk_at "dx") => `(tactic| ((try walk_at "dl"); (try walk_at "di"); (try walk_at "dl"); (try walk_at "di"); (try walk_at "dl")))
local macro_rules | `(tactic| walk_at "cd") => `(tactic| simp only [Code.toD, Code.toDs, Code.kids, List.any_cons, List.any_nil, D.py, PyData.eqv, beq_iff_eq, Bool.or_false, Bool.or_eq_true, Bool.or_eq_false_iff, or_false, false_or, q_name_given, q_name_if, q_name_with, q_name_work, q_name_call, q_name_bound, q_given_name, q_given_if, q_given_with, q_given_work, q_given_call, q_given_bound, q_if_name, q_if_given, q_if_with, q_if_work, q_if_call, q_if_bound, q_with_name, q_with_given, q_with_if, q_with_work, q_with_call, q_with_bound, q_work_name, q_work_given, q_work_if, q_work_with, q_work_call, q_work_bound, q_call_name, q_call_given, q_call_if, q_call_with, q_call_work, q_call_bound, q_bound_name, q_bound_given, q_bound_if, q_bound_with, q_bound_work, q_bound_call, in_name, in_given, in_if, in_with, in_work, in_call])
local macro_rules | `(tactic| walk_at "ce") => `(tactic| (walk_at "cd"; walk_at "dl"; (try walk_at "cd"); (try walk_at "dl"); (try walk_at "cd")))
/-! ### numbered, with parts for free names -/
def placeE (e : Str → D) (rs : List Str) (x : Str) : D := if x ∈ rs then .tup [.str "bound", .int (rs.idxOf x : Nat)] else e x
mutual
def numE (e : Str → D) : Code → List Str → D
  | .nm x, bs => placeE e bs.reverse x
  | .gv i, _ => .tup [.str "given", .int i]
  | .ite a b c d, bs => .tup [.str "if", numE e a bs, numE e b bs, numE e c bs, numE e d bs]
  | .wth x a b, bs => .tup [.str "with", numE e a bs, numE e b (bs ++ [x])]
  | .app w f cs, bs => .tup [.str (if w = true then "work" else "call"), .str f, .tup (numsE e cs bs)]
def numsE (e : Str → D) : List Code → List Str → List D
  | [], _ => []
  | c :: cs, bs => numE e c bs :: numsE e cs bs
end
theorem numsE_map (e : Str → D) (bs : List Str) : ∀ cs : List Code, numsE e cs bs = cs.map fun c => numE e c bs
  | [] => by simp only [numsE, List.map_nil]
  | c :: cs => by simp only [numsE, List.map_cons, numsE_map e bs cs]
abbrev nmD (x : Str) : D := .tup [.str "name", .str x]
mutual
theorem numE_nm : ∀ (c : Code) (bs : List Str), numE nmD c bs = num c bs
  | .nm x, bs => by simp only [numE, num]; rfl
  | .gv i, bs => by simp only [numE, num]
  | .ite a b c d, bs => by simp only [numE, num, numE_nm a bs, numE_nm b bs, numE_nm c bs, numE_nm d bs]
  | .wth x a b, bs => by simp only [numE, num, numE_nm a bs, numE_nm b (bs ++ [x])]
  | .app w f cs, bs => by simp only [numE, num, numsE_nm cs bs]
theorem numsE_nm : ∀ (cs : List Code) (bs : List Str), numsE nmD cs bs = nums cs bs
  | [], bs => by simp only [numsE, nums]
  | c :: cs, bs => by simp only [numsE, nums, numE_nm c bs, numsE_nm cs bs]
end
/-! as a meaning: by the number of withs around -/
def numA : Alg (Nat → D) where
  gv i := fun _ => .tup [.str "given", .int i]
  ite a b c d := fun n => .tup [.str "if", a n, b n, c n, d n]
  wth a f := fun n => .tup [.str "with", a n, f (fun m => .tup [.str "bound", .int ((m : Int) - n - 1)]) (n + 1)]
  app w f xs := fun n => .tup [.str (if w = true then "work" else "call"), .str f, .tup (xs.map fun x => x n)]
def envN (e : Str → D) (bs : List Str) (x : Str) : Nat → D := fun m => if x ∈ bs.reverse then .tup [.str "bound", .int ((m : Int) - bs.length + (bs.reverse.idxOf x : Nat))] else e x
theorem envN_snoc (e : Str → D) (bs : List Str) (y : Str) : envN e (bs ++ [y]) = setV (envN e bs) y fun m => .tup [.str "bound", .int ((m : Int) - bs.length - 1)] := by
  funext x m
  unfold envN setV
  rw [List.reverse_append, List.reverse_singleton, List.singleton_append, List.length_append, List.length_singleton]
  by_cases q : x = y
  · subst q
    rw [if_pos List.mem_cons_self, if_pos rfl, List.idxOf_cons]
    simp
    omega
  · rw [if_neg q]
    have e3 : (y == x) = false := by simpa using fun z => q z.symm
    by_cases h : x ∈ bs.reverse
    · rw [if_pos (List.mem_cons_of_mem _ h), List.idxOf_cons, e3]
      show _ = if x ∈ bs.reverse then _ else _
      rw [if_pos h]
      simp only [cond_false, D.tup.injEq, List.cons.injEq, D.int.injEq, and_true, true_and]
      omega
    · rw [if_neg (fun z => h ((List.mem_cons.mp z).resolve_left q))]
      show _ = if x ∈ bs.reverse then _ else _
      rw [if_neg h]
mutual
theorem num_sem (e : Str → D) : ∀ (c : Code) (bs : List Str), numE e c bs = c.sem numA (envN e bs) bs.length
  | .nm x, bs => by
    simp only [numE, Code.sem]
    unfold placeE envN
    split
    · congr 3; simp
    · rfl
  | .gv i, bs => by simp only [numE, Code.sem, numA]
  | .ite a b c d, bs => by
    simp only [numE, Code.sem, num_sem e a bs, num_sem e b bs, num_sem e c bs, num_sem e d bs]; rfl
  | .wth x a b, bs => by
    simp only [numE, Code.sem, num_sem e a bs, num_sem e b (bs ++ [x])]
    rw [envN_snoc, List.length_append, List.length_singleton]; rfl
  | .app w f cs, bs => by
    simp only [numE, Code.sem, nums_sem e cs bs]; rfl
theorem nums_sem (e : Str → D) : ∀ (cs : List Code) (bs : List Str), numsE e cs bs = (Code.sems numA cs (envN e bs)).map fun x => x bs.length
  | [], bs => by simp only [numsE, Code.sems, List.map_nil]
  | c :: cs, bs => by simp only [numsE, Code.sems, List.map_cons, num_sem e c bs, nums_sem e cs bs]
end
mutual
theorem num_shift (k : Nat) : ∀ (c : Code) (s t : Str → Nat → D), (∀ x m, s x (m + k) = t x m) → ∀ m, c.sem numA s (m + k) = c.sem numA t m
  | .nm x, s, t, h, m => by simp only [Code.sem]; exact h x m
  | .gv i, s, t, h, m => by simp only [Code.sem, numA]
  | .ite a b c d, s, t, h, m => by
    have h1 := num_shift k a s t h m; have h2 := num_shift k b s t h m; have h3 := num_shift k c s t h m; have h4 := num_shift k d s t h m
    simp only [Code.sem]
    show D.tup [.str "if", a.sem numA s (m + k), b.sem numA s (m + k), c.sem numA s (m + k), d.sem numA s (m + k)] = _
    rw [h1, h2, h3, h4]; rfl
  | .wth y a b, s, t, h, m => by
    have h1 := num_shift k a s t h m
    have h2 := num_shift k b (setV s y fun j => .tup [.str "bound", .int ((j : Int) - ((m + k : Nat) : Int) - 1)]) (setV t y fun j => .tup [.str "bound", .int ((j : Int) - m - 1)]) (fun x j => by
      unfold setV
      by_cases q : x = y
      · rw [if_pos q, if_pos q]
        simp only [D.tup.injEq, List.cons.injEq, D.int.injEq, and_true, true_and]
        omega
      · rw [if_neg q, if_neg q]; exact h x j) (m + 1)
    simp only [Code.sem]
    show D.tup [.str "with", a.sem numA s (m + k), b.sem numA (setV s y fun j => .tup [.str "bound", .int ((j : Int) - ((m + k : Nat) : Int) - 1)]) (m + k + 1)] = _
    rw [h1, show m + k + 1 = m + 1 + k by omega, h2]; rfl
  | .app w f cs, s, t, h, m => by
    simp only [Code.sem]
    show D.tup [_, _, .tup ((Code.sems numA cs s).map fun x => x (m + k))] = _
    rw [nums_shift k cs s t h m]; rfl
theorem nums_shift (k : Nat) : ∀ (cs : List Code) (s t : Str → Nat → D), (∀ x m, s x (m + k) = t x m) → ∀ m, ((Code.sems numA cs s).map fun x => x (m + k)) = (Code.sems numA cs t).map fun x => x m
  | [], s, t, h, m => by simp only [Code.sems, List.map_nil]
  | c :: cs, s, t, h, m => by simp only [Code.sems, List.map_cons, num_shift k c s t h m, nums_shift k cs s t h m]
end
theorem envN_nil (e : Str → D) : envN e [] = fun x _ => e x := by
  funext x m
  unfold envN
  rw [if_neg (by simp)]
/-- what put_all tells, numbered -/
theorem put_num {c c' : Code} {P : Str → Option Code} (e : Str → D) (h : ∀ s : Str → Nat → D, c'.sem numA s = c.sem numA (putsE numA s P)) :
    numE e c' [] = numE (fun x => match P x with
      | some d => numE e d []
      | none => e x) c [] := by
  rw [num_sem, num_sem, h, envN_nil, envN_nil]
  refine congrFun (congrArg (c.sem numA) ?_) 0
  funext x m
  unfold putsE
  cases P x with
  | none => rfl
  | some d =>
    dsimp only
    rw [num_sem, envN_nil]
    have := num_shift m d (fun x _ => e x) (fun x _ => e x) (fun _ _ => rfl) 0
    rw [Nat.zero_add] at this
    exact this
theorem numE_congr {c : Code} {e e' : Str → D} (h : ∀ x, c.fr x → e x = e' x) : numE e c [] = numE e' c [] := by
  rw [num_sem, num_sem, envN_nil, envN_nil, sem_congr numA c (fun x _ => e x) (fun x _ => e' x) fun x hx => by rw [h x hx]]
theorem pys_strs (l : List Str) : D.pys (l.map .str) = l.map PyData.str := by rw [pys_map, List.map_map]; exact List.map_congr_left fun x _ => by simp only [Function.comp, D.py]
theorem depth_strs : ∀ l : List Str, PyData.depthAll (l.map PyData.str) = 0
  | [] => by simp [PyData.depthAll]
  | x :: l => by simp [PyData.depthAll, PyData.depth, depth_strs l]
theorem idx_first {x : Str} : ∀ {l : List Str} {m : Nat} {y : Str}, m < l.idxOf x → l[m]? = some y → y ≠ x
  | [], m, y, h, e => by simp at e
  | z :: l, m, y, h, e => by
    rw [List.idxOf_cons] at h
    by_cases ez : z = x
    · simp [ez] at h
    · have ez' : (z == x) = false := by simpa using ez
      simp only [ez', cond_false] at h
      cases m with
      | zero =>
        obtain rfl : z = y := by simpa using e
        exact ez
      | succ m =>
        have h' : m + 1 < l.idxOf x + 1 := h
        exact idx_first (l := l) (m := m) (by omega) (by simpa using e)
theorem index_strs {l : List Str} {x : Str} {k : D → Prop} (hg : Good l) (ho : PyData.strOk x = true) (hx : x ∈ l) (h : k (.int (l.idxOf x : Nat))) : indexM (.lst (l.map .str)) [.str x] k := by
  have hj : l.idxOf x < l.length := List.idxOf_lt_length_iff.mpr hx
  have g : (l.map PyData.str)[l.idxOf x]? = some (.str x) := by
    rw [List.getElem?_map, List.getElem?_eq_getElem hj, List.getElem_idxOf]; rfl
  refine ⟨l.idxOf x, .str x, ?_, ?_, by rw [pys_strs]; exact g, by simp [D.py, PyData.eqv], fun m z' hm hz => ?_, h⟩
  · unfold SeqAt.shaped
    rw [pys_strs]
    have e := lay_strs l hg
    rw [pys_strs] at e
    simp [PyData.canLay0, e, PyData.depth, depth_strs]
  · simp [SeqAt.shaped, D.py, PyData.canLay0, ho, PyData.depth]
  · rw [pys_strs, List.getElem?_map] at hz
    cases q : l[m]? with
    | none => rw [q] at hz; cases hz
    | some y =>
      rw [q] at hz
      cases hz
      have := idx_first hm q
      simp only [D.py, PyData.eqv]
      simpa using this
def R_num (n : Nat) : RD := fun ds k => ∃ (c : Code) (bs : List Str) (qs : List (Str × D)) (e : Str → D), ds = [c.toD, .lst (bs.map .str), .dic false (eD qs)] ∧ (∀ x, (lkS qs x).getD (nmD x) = e x) ∧ c.ok ∧ Good bs ∧ c.dp ≤ n ∧ c.size < 2 ^ 12 ∧ c.dp + bs.length < 2 ^ 12 ∧ k (numE e c bs)
theorem p_num (n : Nat) : ∀ ds κ, R_num (n + 1) ds κ → t_L_numbered (R_num n) R_in (endD κ) (enterS 7 ds) := by
  have hs : sizeLine = 16777216 := sizeLine_eq
  rintro ds κ ⟨c, bs, qs, e, rfl, he, ho, hg, hn, hz, hb, h⟩
  unfold t_L_numbered
  have kid : ∀ (d : Code) (κ' : D → Prop), d ∈ c.kids → κ' (numE e d bs) → R_num n [d.toD, .lst (bs.map .str), .dic false (eD qs)] κ' := fun d κ' hd q => by
    have h1 := kids_dp hd
    have h2 := sizes_mem hd
    have h3 := kids_sizes c
    exact ⟨d, bs, qs, e, rfl, he, oks_mem (kids_ok ho) d hd, hg, by omega, by omega, by omega, q⟩
  cases c with
  | nm x =>
    simp only [Code.ok] at ho
    simp only [numE] at h
    unfold placeE at h
    have gr : Good bs.reverse := fun w hw => hg w (List.mem_reverse.mp hw)
    walk_at "ce"
    rw [← List.map_reverse]
    refine ⟨in_strs ho gr, ?_⟩
    have ha := any_strs x bs.reverse
    by_cases hx : x ∈ bs.reverse
    · rw [decide_eq_true hx] at ha
      rw [if_pos hx] at h
      exact ite_t ha (index_strs gr (wOk_str ho) hx ⟨by omega, h⟩)
    · rw [decide_eq_false hx] at ha
      rw [if_neg hx] at h
      refine ite_f (fun z => Bool.noConfusion (ha.symm.trans z)) ?_
      refine ⟨false, eD qs, rfl, ?_⟩
      refine ⟨.str x, atI_1, ?_⟩
      refine ⟨.inr x, rfl, ?_⟩
      show κ ((valD (eD qs) (.inr x)).getD (nmD x))
      rw [valD_eD, he]
      exact h
  | gv i =>
    walk_at "ce"
    simp only [numE] at h
    exact ⟨.gv i, rfl, Nat.zero_le _, h⟩
  | wth x a b =>
    simp only [Code.ok] at ho
    simp only [Code.size] at hz
    simp only [Code.dp] at hn hb
    simp only [numE] at h
    walk_at "ce"
    refine ⟨by omega, by rw [List.length_map]; omega, ?_⟩
    refine ⟨b, bs ++ [x], qs, e, by rw [List.map_append]; rfl, he, ho.2.2, fun w hw => ?_, by omega, by omega, by simp; omega, kid a _ (by simp only [Code.kids]; simp) ⟨by omega, h⟩⟩
    rcases List.mem_append.mp hw with q | q
    · exact hg w q
    · rw [List.mem_singleton.mp q]; exact ho.1
  | ite a b c d =>
    simp only [numE] at h
    walk_at "ce"
    refine ⟨.ite a b c d, rfl, by rw [toDs_len]; simp [Code.kids]; omega, ?_⟩
    refine comp_kids_fn (f := fun d => numE e d bs) (fun d' hd κ' q => ?_) ?_
    · walk_at "dl"
      exact kid d' κ' hd q
    · rw [← numsE_map]
      exact ⟨by omega, by rw [numsE_map, List.length_map]; simp [Code.kids]; omega, by simpa only [Code.kids, numsE] using h⟩
  | app w f cs =>
    have kl := sizes_len cs
    simp only [Code.size] at hz
    simp only [numE] at h
    cases w
    · walk_at "ce"
      refine ⟨.app false f cs, rfl, by rw [toDs_len]; show cs.length ≤ _; omega, ?_⟩
      refine comp_kids_fn (cs := cs) (f := fun d => numE e d bs) (fun d' hd κ' q => ?_) ?_
      · walk_at "dl"
        exact kid d' κ' hd q
      · rw [← numsE_map]
        exact ⟨by omega, by omega, h⟩
    · walk_at "ce"
      refine ⟨.app true f cs, rfl, by rw [toDs_len]; show cs.length ≤ _; omega, ?_⟩
      refine comp_kids_fn (cs := cs) (f := fun d => numE e d bs) (fun d' hd κ' q => ?_) ?_
      · walk_at "dl"
        exact kid d' κ' hd q
      · rw [← numsE_map]
        exact ⟨by omega, by omega, h⟩
end K15

set_option Elab.async false
set_option linter.all false
set_option maxRecDepth 100000
set_option maxHeartbeats 4000000
namespace K15
open PySem L2 DL
local macro_rules | `(tactic| walk_at "dl") => `(tactic| simp only [Tr.toD, toDs_d, map_snoc, map_ins, treeT, seqT, iffT, setT, retT, nextT, retN, blT, DL.binT, nameT, cT, bagT, cutBT, putBT, augBT, consA, nilA, callT, ofF, lstF, lstR, tupT, eqD, neD, inD, notInD, someO, noneO, slT, revF, endD, enterS, ifT, andT, orT, notT, andB, orB, notB, truT, newT, mT, thruT, thruB, frzT, putT, parT, tgtT, methT, onT, isStr, isLst, getT, starA, negT, dropT, breakT, contT, tgD, putA, seqI, rng1I, enumI, zipI, forT, lcF, wipeS,
  addD_ii, addD_ib, addD_ss, addD_ll, addD_tt, subD_ii, mulD_ii, mulD_li, fdivD_ii, modD_ii, cmpI_ii, eqB_ss, eqB_ii, eqB_bb, eqB_tt, eqB_ll, inB_l, inB_t, ixD_l, ixD_t, ixD_s, slD_l, slD_t, truD_b, truD_i, truD_n, truD_s, truD_l, truD_t, intR_i, intR_b, lenR_s, lenR_l, lenR_t, absR_i, minR_ii, maxR_ii, tupR_l, tupR_t, appD_1, insD_1, extD_1, splitM_1, optK_some, atI_0, atI_1, atI_2, atI_3, atI_4, cutL_1, cutL_2, cutL_t1, cutL_t2,
  List.map_cons, List.map_nil, List.replicate_succ, List.replicate_zero, List.cons_append, List.nil_append, List.length_cons, List.length_nil, List.set_cons_zero, List.set_cons_succ, List.getElem?_cons_zero, List.getElem?_cons_succ, List.drop_succ_cons, List.drop_zero, List.take_succ_cons, List.take_zero, true_and, and_true, true_or, or_true, decide_eq_true_eq, reduceCtorEq, if_true, if_false, ite_true, ite_false, D.int.injEq, Nat.reduceAdd, Nat.reduceSub, Int.reduceSub, Int.reduceAdd, Int.reduceNeg, Bool.false_eq_true, Bool.true_eq_false, decide_true, decide_false, Bool.not_true, Bool.not_false, Bool.not_eq_true', decide_eq_false_iff_not])
local macro_rules | `(tactic| walk_at "di") => `(tactic| simp only [isiT, chainT, e0D, ixO, parO, parS, disp1T, emptyT, getT2, lookD, keyD, keyT, keysD, valD, valQ, dixT, listKR, itemsF, keysI, valsI, itemsI, dputK, newR, emptyR, augI, whileT, dcT, lc2F, Tr.toEs, Bool.or_true, Bool.or_false, Bool.true_or, Bool.false_or, isi2T, inSg, notInSg, tabT, List.isEmpty_nil, List.isEmpty_cons, ib_int_NoneType, ib_int_bool, ib_int_int, ib_int_str, ib_int_list, ib_int_tuple, ib_int_dict, ib_bool_NoneType, ib_bool_bool, ib_bool_int, ib_bool_str, ib_bool_list, ib_bool_tuple, ib_bool_dict, ib_str_NoneType, ib_str_bool, ib_str_int, ib_str_str, ib_str_list, ib_str_tuple, ib_str_dict, ib_list_NoneType, ib_list_bool, ib_list_int, ib_list_str, ib_list_list, ib_list_tuple, ib_list_dict, ib_tuple_NoneType, ib_tuple_bool, ib_tuple_int, ib_tuple_str, ib_tuple_list, ib_tuple_tuple, ib_tuple_dict])
local macro_rules | `(tactic| walk_at "dx") => `(tactic| ((try walk_at "dl"); (try walk_at "di"); (try walk_at "dl"); (try walk_at "di"); (try walk_at "dl")))
local macro_rules | `(tactic| walk_at "cd") => `(tactic| simp only [Code.toD, Code.toDs, Code.kids, List.any_cons, List.any_nil, D.py, PyData.eqv, beq_iff_eq, Bool.or_false, Bool.or_eq_true, Bool.or_eq_false_iff, or_false, false_or, q_name_given, q_name_if, q_name_with, q_name_work, q_name_call, q_name_bound, q_given_name, q_given_if, q_given_with, q_given_work, q_given_call, q_given_bound, q_if_name, q_if_given, q_if_with, q_if_work, q_if_call, q_if_bound, q_with_name, q_with_given, q_with_if, q_with_work, q_with_call, q_with_bound, q_work_name, q_work_given, q_work_if, q_work_with, q_work_call, q_work_bound, q_call_name, q_call_given, q_call_if, q_call_with, q_call_work, q_call_bound, q_bound_name, q_bound_given, q_bound_if, q_bound_with, q_bound_work, q_bound_call, in_name, in_given, in_if, in_with, in_work, in_call])
local macro_rules | `(tactic| walk_at "ce") => `(tactic| (walk_at "cd"; walk_at "dl"; (try walk_at "cd"); (try walk_at "dl"); (try walk_at "cd")))
/-! ### showing codes -/
mutual
theorem Code.showa : ∀ c : Code, c.ok → c.toD.py.showable = true
  | .nm x, h => by simp [Code.toD, D.py, D.pys, PyData.showable, PyData.showableAll]
  | .gv i, h => by
    simp only [Code.ok] at h
    have : i = 0 ∨ i = 1 ∨ i = 2 ∨ i = 3 ∨ i = 4 ∨ i = 5 ∨ i = 6 ∨ i = 7 ∨ i = 8 ∨ i = 9 ∨ i = 10 ∨ i = 11 ∨ i = 12 := by omega
    simp only [Code.toD, D.py, D.pys, PyData.showable, PyData.showableAll]
    rcases this with rfl | rfl | rfl | rfl | rfl | rfl | rfl | rfl | rfl | rfl | rfl | rfl | rfl <;> decide +kernel
  | .ite a b c d, h => by
    simp only [Code.ok] at h
    simp [Code.toD, D.py, D.pys, PyData.showable, PyData.showableAll, a.showa h.1, b.showa h.2.1, c.showa h.2.2.1, d.showa h.2.2.2]
  | .wth x a b, h => by
    simp only [Code.ok] at h
    simp [Code.toD, D.py, D.pys, PyData.showable, PyData.showableAll, a.showa h.2.1, b.showa h.2.2]
  | .app w f cs, h => by
    simp only [Code.ok] at h
    simp [Code.toD, D.py, D.pys, PyData.showable, PyData.showableAll, Code.showas cs h.2]
theorem Code.showas : ∀ cs : List Code, Code.oks cs → PyData.showableAll (D.pys (Code.toDs cs)) = true
  | [], _ => by simp [Code.toDs, D.pys, PyData.showableAll]
  | c :: cs, h => by
    simp only [Code.oks] at h
    simp [Code.toDs, D.pys, PyData.showableAll, c.showa h.1, Code.showas cs h.2]
end
mutual
theorem Code.ints : ∀ c : Code, c.ok → c.toD.py.intsShort 8 = true
  | .nm x, h => by simp [Code.toD, D.py, D.pys, PyData.intsShort, PyData.intsShortAll]
  | .gv i, h => by
    simp only [Code.ok] at h
    have : i = 0 ∨ i = 1 ∨ i = 2 ∨ i = 3 ∨ i = 4 ∨ i = 5 ∨ i = 6 ∨ i = 7 ∨ i = 8 ∨ i = 9 ∨ i = 10 ∨ i = 11 ∨ i = 12 := by omega
    simp only [Code.toD, D.py, D.pys, PyData.intsShort, PyData.intsShortAll]
    rcases this with rfl | rfl | rfl | rfl | rfl | rfl | rfl | rfl | rfl | rfl | rfl | rfl | rfl <;> decide +kernel
  | .ite a b c d, h => by
    simp only [Code.ok] at h
    simp [Code.toD, D.py, D.pys, PyData.intsShort, PyData.intsShortAll, a.ints h.1, b.ints h.2.1, c.ints h.2.2.1, d.ints h.2.2.2]
  | .wth x a b, h => by
    simp only [Code.ok] at h
    simp [Code.toD, D.py, D.pys, PyData.intsShort, PyData.intsShortAll, a.ints h.2.1, b.ints h.2.2]
  | .app w f cs, h => by
    simp only [Code.ok] at h
    simp [Code.toD, D.py, D.pys, PyData.intsShort, PyData.intsShortAll, Code.intss cs h.2]
theorem Code.intss : ∀ cs : List Code, Code.oks cs → PyData.intsShortAll 8 (D.pys (Code.toDs cs)) = true
  | [], _ => by simp [Code.toDs, D.pys, PyData.intsShortAll]
  | c :: cs, h => by
    simp only [Code.oks] at h
    simp [Code.toDs, D.pys, PyData.intsShortAll, c.ints h.1, Code.intss cs h.2]
end
theorem lens6 : ("name" : Str).cps.size = 4 ∧ ("given" : Str).cps.size = 5 ∧ ("if" : Str).cps.size = 2 ∧ ("with" : Str).cps.size = 4 ∧ ("work" : Str).cps.size = 4 ∧ ("call" : Str).cps.size = 4 := by decide +kernel
theorem wok_size {x : Str} (h : wOk x = true) : x.cps.size ≤ 8 := by
  unfold wOk at h
  rw [Bool.and_eq_true] at h
  rw [Bool.and_eq_true, decide_eq_true_eq, decide_eq_true_eq] at h
  exact h.2.1
mutual
theorem Code.bulky : ∀ c : Code, c.ok → c.toD.py.bulk + 1 ≤ 30 * c.size
  | .nm x, h => by
    simp only [Code.ok] at h
    have := wok_size h
    have := lens6
    simp only [Code.toD, D.py, D.pys, PyData.bulk, PyData.bulkAll, Code.size]; omega
  | .gv i, h => by
    have := lens6
    simp only [Code.toD, D.py, D.pys, PyData.bulk, PyData.bulkAll, Code.size]; omega
  | .ite a b c d, h => by
    simp only [Code.ok] at h
    have := lens6
    have := a.bulky h.1; have := b.bulky h.2.1; have := c.bulky h.2.2.1; have := d.bulky h.2.2.2
    simp only [Code.toD, D.py, D.pys, PyData.bulk, PyData.bulkAll, Code.size]; omega
  | .wth x a b, h => by
    simp only [Code.ok] at h
    have := wok_size h.1
    have := lens6
    have := a.bulky h.2.1; have := b.bulky h.2.2
    simp only [Code.toD, D.py, D.pys, PyData.bulk, PyData.bulkAll, Code.size]; omega
  | .app w f cs, h => by
    simp only [Code.ok] at h
    have := wok_size h.1
    have := lens6
    have := Code.bulkys cs h.2
    cases w <;> simp only [Code.toD, D.py, D.pys, PyData.bulk, PyData.bulkAll, Code.size, if_true, Bool.false_eq_true, if_false] <;> omega
theorem Code.bulkys : ∀ cs : List Code, Code.oks cs → PyData.bulkAll (D.pys (Code.toDs cs)) ≤ 30 * Code.sizes cs
  | [], _ => by simp [Code.toDs, D.pys, PyData.bulkAll, Code.sizes]
  | c :: cs, h => by
    simp only [Code.oks] at h
    have := c.bulky h.1; have := Code.bulkys cs h.2
    simp only [Code.toDs, D.pys, PyData.bulkAll, Code.sizes]; omega
end
theorem two_ok {a b : Code} (ha : a.ok) (hb : b.ok) (da : a.dp ≤ 60) (db : b.dp ≤ 60) (za : a.size < 2 ^ 10) (zb : b.size < 2 ^ 10) : (D.lst [a.toD, b.toD]).py.canLay0 = true ∧ (D.lst [a.toD, b.toD]).py.showable = true ∧ (D.lst [a.toD, b.toD]).py.depth ≤ 140 ∧ (D.lst [a.toD, b.toD]).py.shown.length ≤ sizeLine := by
  have hs : sizeLine = 16777216 := sizeLine_eq
  have la := a.lay ha; have sa := a.showa ha; have ia := a.ints ha; have ba := a.bulky ha; have ea := a.deepd
  have lb := b.lay hb; have sb := b.showa hb; have ib := b.ints hb; have bb := b.bulky hb; have eb := b.deepd
  have cl : (D.lst [a.toD, b.toD]).py.canLay0 = true := by simp only [D.py, D.pys, PyData.canLay0, PyData.canLayAll0, la, lb, Bool.and_self]
  refine ⟨cl, by simp only [D.py, D.pys, PyData.showable, PyData.showableAll, sa, sb, Bool.and_self], ?_, ?_⟩
  · simp only [D.py, D.pys, PyData.depth, PyData.depthAll]; omega
  · have := PyData.shown_le_bulk 8 (by omega) _ (PyData.leavesShort_of_canLay0 8 _ cl (by simp only [D.py, D.pys, PyData.intsShort, PyData.intsShortAll, ia, ib, Bool.and_self]))
    have e : (D.lst [a.toD, b.toD]).py.bulk = (a.toD.py.bulk + 1) + (b.toD.py.bulk + 1) := by simp only [D.py, D.pys, PyData.bulk, PyData.bulkAll] <;> omega
    rw [e] at this
    omega
theorem eq_code {c : Code} {kb : Bool → Prop} (h : c.ok) (hd : c.dp ≤ 70) (q : kb true) : eqB c.toD c.toD kb := by
  have l := c.lay h
  have e := PySem.SeqAt.eqv_refl _ l
  have d := c.deepd
  obtain ⟨ds, hc⟩ := hd_at c
  rw [hc] at l e d ⊢
  rw [eqB_tt]
  refine ⟨⟨l, l, by omega⟩, ?_⟩
  rw [e]; exact q
def R_same : RD := fun ds k => ∃ a b : Code, ds = [a.toD, b.toD] ∧ a.size ≤ 100 ∧ b.size ≤ 100 ∧ k (.bl (alike a b []))
theorem p_same : ∀ ds κ, R_same ds κ → t_same_but_bound (R_al 101) (endD κ) (enterS 2 ds) := by
  rintro ds κ ⟨a, b, rfl, ha, hb, h⟩
  unfold t_same_but_bound
  walk_at "dl"
  exact ⟨Nat.zero_le _, a, b, [], rfl, by omega, hb, by simp; omega, h⟩
theorem alike_num {a b : Code} (h : numE nmD a [] = numE nmD b []) (l : (numE nmD b []).py.canLay0 = true) : alike a b [] = true := by
  have e := eqv_num a.size a b [] (Nat.le_refl _)
  rw [List.map_nil, List.map_nil, ← numE_nm, ← numE_nm, h, PySem.SeqAt.eqv_refl _ l] at e
  exact e.symm
theorem placeE_lay {e : Str → D} {rs : List Str} {x : Str} (h : (e x).py.canLay0 = true) : (placeE e rs x).py.canLay0 = true := by
  unfold placeE
  split
  · simp [D.py, D.pys, PyData.canLay0, PyData.canLayAll0]; decide +kernel
  · exact h
mutual
theorem numE_lay {e : Str → D} (he : ∀ x, wOk x = true → (e x).py.canLay0 = true) : ∀ (c : Code) (bs : List Str), c.ok → (numE e c bs).py.canLay0 = true
  | .nm x, bs, h => by simp only [Code.ok] at h; simp only [numE]; exact placeE_lay (he x h)
  | .gv _, _, h => by simp [numE, D.py, D.pys, PyData.canLay0, PyData.canLayAll0]; decide +kernel
  | .ite a b c d, bs, h => by
    simp only [Code.ok] at h
    simp [numE, D.py, D.pys, PyData.canLay0, PyData.canLayAll0, numE_lay he a bs h.1, numE_lay he b bs h.2.1, numE_lay he c bs h.2.2.1, numE_lay he d bs h.2.2.2]; decide +kernel
  | .wth x a b, bs, h => by
    simp only [Code.ok] at h
    simp [numE, D.py, D.pys, PyData.canLay0, PyData.canLayAll0, numE_lay he a bs h.2.1, numE_lay he b (bs ++ [x]) h.2.2]; decide +kernel
  | .app w f cs, bs, h => by
    simp only [Code.ok] at h
    cases w <;> simp [numE, D.py, D.pys, PyData.canLay0, PyData.canLayAll0, wOk_str h.1, numsE_lay he cs bs h.2] <;> decide +kernel
theorem numsE_lay {e : Str → D} (he : ∀ x, wOk x = true → (e x).py.canLay0 = true) : ∀ (cs : List Code) (bs : List Str), Code.oks cs → PyData.canLayAll0 (D.pys (numsE e cs bs)) = true
  | [], _, _ => by simp [numsE, D.pys, PyData.canLayAll0]
  | c :: cs, bs, h => by
    simp only [Code.oks] at h
    simp [numsE, D.pys, PyData.canLayAll0, numE_lay he c bs h.1, numsE_lay he cs bs h.2]
end
mutual
theorem numE_deep {e : Str → D} {m : Nat} (he : ∀ x, (e x).py.depth ≤ m) : ∀ (c : Code) (bs : List Str), (numE e c bs).py.depth ≤ 2 * c.dp + m
  | .nm x, bs => by
    simp only [numE, Code.dp]
    unfold placeE
    split
    · simp [D.py, D.pys, PyData.depth, PyData.depthAll]; omega
    · have := he x; omega
  | .gv _, _ => by simp [numE, D.py, D.pys, PyData.depth, PyData.depthAll, Code.dp]; omega
  | .ite a b c d, bs => by
    have := numE_deep he a bs; have := numE_deep he b bs; have := numE_deep he c bs; have := numE_deep he d bs
    simp [numE, D.py, D.pys, PyData.depth, PyData.depthAll, Code.dp]; omega
  | .wth x a b, bs => by
    have := numE_deep he a bs; have := numE_deep he b (bs ++ [x])
    simp [numE, D.py, D.pys, PyData.depth, PyData.depthAll, Code.dp]; omega
  | .app w f cs, bs => by
    have := numsE_deep he cs bs
    simp [numE, D.py, D.pys, PyData.depth, PyData.depthAll, Code.dp]; omega
theorem numsE_deep {e : Str → D} {m : Nat} (he : ∀ x, (e x).py.depth ≤ m) : ∀ (cs : List Code) (bs : List Str), PyData.depthAll (D.pys (numsE e cs bs)) ≤ 2 * Code.dps cs + m
  | [], _ => by simp [numsE, D.pys, PyData.depthAll]
  | c :: cs, bs => by
    have := numE_deep he c bs; have := numsE_deep he cs bs
    simp [numsE, D.pys, PyData.depthAll, Code.dps]; omega
end
theorem nmD_lay {x : Str} (h : wOk x = true) : (nmD x).py.canLay0 = true := by
  simp [D.py, D.pys, PyData.canLay0, PyData.canLayAll0, wOk_str h]; decide +kernel
theorem nmD_deep (x : Str) : (nmD x).py.depth ≤ 1 := by
  simp [D.py, D.pys, PyData.depth, PyData.depthAll]
/-! ### the free names as the law tells them -/
theorem fls_app (bs : List Str) : ∀ as cs : List Code, Code.fls (as ++ cs) bs = Code.fls as bs ++ Code.fls cs bs
  | [], cs => by simp only [Code.fls, List.nil_append]
  | a :: as, cs => by simp only [List.cons_append, Code.fls, fls_app bs as cs, List.append_assoc]
theorem fl_kids {c : Code} {bs : List Str} (h1 : ∀ x a b, c ≠ .wth x a b) (h2 : ∀ x, c ≠ .nm x) : c.fl bs = Code.fls c.kids bs := by
  cases c with
  | nm y => exact absurd rfl (h2 y)
  | gv y => simp only [Code.fl, Code.kids, Code.fls]
  | ite a b c d => simp only [Code.fl, Code.kids, Code.fls, List.append_nil, List.append_assoc]
  | wth x a b => exact absurd rfl (h1 x a b)
  | app w f cs => simp only [Code.fl, Code.kids]
def R_lfree (n : Nat) : RD := fun ds k => ∃ (c : Code) (bs : List Str), ds = [c.toD, .lst (bs.map .str)] ∧ c.ok ∧ Good bs ∧ c.dp ≤ n ∧ c.size < 2 ^ 16 ∧ c.dp + bs.length < 2 ^ 16 ∧ k (.lst ((c.fl bs).map .str))
theorem p_lfree (n : Nat) : ∀ ds κ, R_lfree (n + 1) ds κ → t_L_free (R_lfree n) R_in (endD κ) (enterS 5 ds) := by
  have hs : sizeLine = 16777216 := sizeLine_eq
  rintro ds κ ⟨c, bs, rfl, ho, hg, hn, hz, hb, h⟩
  unfold t_L_free
  by_cases hc : ∃ y, c = .nm y
  · obtain ⟨y, rfl⟩ := hc
    simp only [Code.ok] at ho
    simp only [Code.fl] at h
    walk_at "cd"; walk_at "dl"; (try walk_at "cd")
    refine ⟨in_strs ho hg, ?_⟩
    have ha : ((List.map D.str bs).any fun z => z.py.eqv (PyData.str y)) = decide (y ∈ bs) := any_strs y bs
    have key : ∀ v : Int, v = (if y ∈ bs then 0 else 1) → (-2 ^ 62 ≤ v ∧ v < 2 ^ 62) ∧ (List.map (fun i : Nat => D.int (i : Int)) (List.range v.toNat)).length ≤ sizeLine ∧
        compT (Tg.nm 4) yesT (DL.binT ixD (nameT 0) (cT (D.int 1))) [Sl.dat (D.tup [D.str (Str.ofString "name"), D.str y]), Sl.dat (D.lst (List.map D.str bs)), Sl.un, Sl.un, Sl.un]
          (List.map (fun i : Nat => D.int (i : Int)) (List.range v.toNat)) [] fun ds => κ (D.lst ds) := by
      intro v hv
      subst hv
      by_cases q : y ∈ bs
      · rw [if_pos q] at h ⊢
        exact ⟨by omega, by simp, h⟩
      · rw [if_neg q] at h ⊢
        refine ⟨by omega, by simp; omega, ?_⟩
        rw [show (List.map (fun i : Nat => D.int (i : Int)) (List.range (Int.toNat 1))) = [.int 0] by simp [List.range_succ]]
        simp only [compT, compB, tgD, yesT, if_true]
        walk_at "dl"
        exact h
    refine key _ ?_
    by_cases q : y ∈ bs
    · rw [if_pos q]
      rw [decide_eq_true q] at ha
      exact if_neg (fun z => Bool.noConfusion (ha.symm.trans z))
    · rw [if_neg q]
      rw [decide_eq_false q] at ha
      exact if_pos ha
  · have hc' : ∀ y, c ≠ .nm y := fun y e => hc ⟨y, e⟩
    refine t_hd (c := c) rfl ?_
    rw [decide_eq_false (hd_name hc'), if_neg (fun z => Bool.noConfusion z)]
    by_cases hw : ∃ y a b, c = .wth y a b
    · obtain ⟨y, a, b, rfl⟩ := hw
      simp only [Code.ok] at ho
      simp only [Code.size] at hz
      simp only [Code.dp] at hn hb
      simp only [Code.fl] at h
      walk_at "cd"; walk_at "dl"; (try walk_at "cd")
      refine ⟨a, bs, rfl, ho.2.1, hg, by omega, by omega, by omega, by omega, by rw [List.length_map]; omega, b, bs ++ [y], by rw [List.map_append]; rfl, ho.2.2, fun w hw' => ?_, by omega, by omega, by simp; omega, ?_⟩
      · rcases List.mem_append.mp hw' with z | z
        · exact hg w z
        · rw [List.mem_singleton.mp z]; exact ho.1
      · have l1 := fl_len a bs
        have l2 := fl_len b (bs ++ [y])
        walk_at "dl"
        refine ⟨by rw [List.length_map, List.length_map]; omega, ?_⟩
        rw [← List.map_append]; exact h
    · have hw' : ∀ y a b, c ≠ .wth y a b := fun y a b e => hw ⟨y, a, b, e⟩
      refine t_hd (c := c) (ρ := enterS 5 [c.toD, .lst (bs.map .str)]) rfl ?_
      rw [decide_eq_false (hd_with hw'), if_neg (fun z => Bool.noConfusion z)]
      rw [fl_kids hw' hc'] at h
      walk_at "dl"
      refine ⟨by omega, c, rfl, ?_⟩
      refine loopT_ind (I := fun rest ρ => ∃ (as cs : List Code) (u : Sl), c.kids = as ++ cs ∧ rest = Code.toDs cs ∧ ρ = [.dat c.toD, .dat (.lst (bs.map .str)), .dat (.lst ((Code.fls as bs).map .str)), u, .un]) ?_ ?_ ⟨[], c.kids, _, rfl, rfl, by simp only [Code.fls]; rfl⟩
      · rintro ρ ⟨as, cs, u, e1, e2, rfl⟩
        have : cs = [] := by cases cs with
          | nil => rfl
          | cons d cs => simp only [Code.toDs] at e2; cases e2
        subst this
        rw [List.append_nil] at e1
        walk_at "dl"
        rw [e1] at h; exact h
      · rintro d rest ρ N hN ⟨as, cs, u, e1, e2, rfl⟩
        cases cs with
        | nil => simp only [Code.toDs] at e2; cases e2
        | cons d' cs =>
          simp only [Code.toDs] at e2
          obtain ⟨rfl, rfl⟩ := List.cons.inj e2
          have hd : d' ∈ c.kids := by rw [e1]; simp
          have h1 := kids_dp hd
          have h2 := sizes_mem hd
          have h3 := kids_sizes c
          have l1 := fls_len as bs
          have l2 := fl_len d' bs
          have l3 : Code.sizes as ≤ Code.sizes c.kids := by
            rw [e1]
            have : ∀ as cs : List Code, Code.sizes as ≤ Code.sizes (as ++ cs) := by
              intro as cs
              induction as with
              | nil => simp [Code.sizes]
              | cons a as ih => simp only [List.cons_append, Code.sizes]; omega
            exact this _ _
          walk_at "dl"
          refine ⟨d', bs, rfl, oks_mem (kids_ok ho) d' hd, hg, by omega, by omega, by omega, by rw [List.length_map, List.length_map]; omega, ?_⟩
          refine hN _ ⟨as ++ [d'], cs, .dat d'.toD, by rw [e1, List.append_assoc]; rfl, rfl, ?_⟩
          rw [fls_app]
          simp only [Code.fls, List.append_nil, List.map_append]
end K15

set_option Elab.async false
set_option linter.all false
set_option maxRecDepth 100000
set_option maxHeartbeats 4000000
namespace K15
open PySem L2 DL
local macro_rules | `(tactic| walk_at "dl") => `(tactic| simp only [Tr.toD, toDs_d, map_snoc, map_ins, treeT, seqT, iffT, setT, retT, nextT, retN, blT, DL.binT, nameT, cT, bagT, cutBT, putBT, augBT, consA, nilA, callT, ofF, lstF, lstR, tupT, eqD, neD, inD, notInD, someO, noneO, slT, revF, endD, enterS, ifT, andT, orT, notT, andB, orB, notB, truT, newT, mT, thruT, thruB, frzT, putT, parT, tgtT, methT, onT, isStr, isLst, getT, starA, negT, dropT, breakT, contT, tgD, putA, seqI, rng1I, enumI, zipI, forT, lcF, wipeS,
  addD_ii, addD_ib, addD_ss, addD_ll, addD_tt, subD_ii, mulD_ii, mulD_li, fdivD_ii, modD_ii, cmpI_ii, eqB_ss, eqB_ii, eqB_bb, eqB_tt, eqB_ll, inB_l, inB_t, ixD_l, ixD_t, ixD_s, slD_l, slD_t, truD_b, truD_i, truD_n, truD_s, truD_l, truD_t, intR_i, intR_b, lenR_s, lenR_l, lenR_t, absR_i, minR_ii, maxR_ii, tupR_l, tupR_t, appD_1, insD_1, extD_1, splitM_1, optK_some, atI_0, atI_1, atI_2, atI_3, atI_4, cutL_1, cutL_2, cutL_t1, cutL_t2,
  List.map_cons, List.map_nil, List.replicate_succ, List.replicate_zero, List.cons_append, List.nil_append, List.length_cons, List.length_nil, List.set_cons_zero, List.set_cons_succ, List.getElem?_cons_zero, List.getElem?_cons_succ, List.drop_succ_cons, List.drop_zero, List.take_succ_cons, List.take_zero, true_and, and_true, true_or, or_true, decide_eq_true_eq, reduceCtorEq, if_true, if_false, ite_true, ite_false, D.int.injEq, Nat.reduceAdd, Nat.reduceSub, Int.reduceSub, Int.reduceAdd, Int.reduceNeg, Bool.false_eq_true, Bool.true_eq_false, decide_true, decide_false, Bool.not_true, Bool.not_false, Bool.not_eq_true', decide_eq_false_iff_not])
local macro_rules | `(tactic| walk_at "di") => `(tactic| simp only [isiT, chainT, e0D, ixO, parO, parS, disp1T, emptyT, getT2, lookD, keyD, keyT, keysD, valD, valQ, dixT, listKR, itemsF, keysI, valsI, itemsI, dputK, newR, emptyR, augI, whileT, dcT, lc2F, Tr.toEs, Bool.or_true, Bool.or_false, Bool.true_or, Bool.false_or, isi2T, inSg, notInSg, tabT, List.isEmpty_nil, List.isEmpty_cons, ib_int_NoneType, ib_int_bool, ib_int_int, ib_int_str, ib_int_list, ib_int_tuple, ib_int_dict, ib_bool_NoneType, ib_bool_bool, ib_bool_int, ib_bool_str, ib_bool_list, ib_bool_tuple, ib_bool_dict, ib_str_NoneType, ib_str_bool, ib_str_int, ib_str_str, ib_str_list, ib_str_tuple, ib_str_dict, ib_list_NoneType, ib_list_bool, ib_list_int, ib_list_str, ib_list_list, ib_list_tuple, ib_list_dict, ib_tuple_NoneType, ib_tuple_bool, ib_tuple_int, ib_tuple_str, ib_tuple_list, ib_tuple_tuple, ib_tuple_dict])
local macro_rules | `(tactic| walk_at "dx") => `(tactic| ((try walk_at "dl"); (try walk_at "di"); (try walk_at "dl"); (try walk_at "di"); (try walk_at "dl")))
local macro_rules | `(tactic| walk_at "cd") => `(tactic| simp only [Code.toD, Code.toDs, Code.kids, List.any_cons, List.any_nil, D.py, PyData.eqv, beq_iff_eq, Bool.or_false, Bool.or_eq_true, Bool.or_eq_false_iff, or_false, false_or, q_name_given, q_name_if, q_name_with, q_name_work, q_name_call, q_name_bound, q_given_name, q_given_if, q_given_with, q_given_work, q_given_call, q_given_bound, q_if_name, q_if_given, q_if_with, q_if_work, q_if_call, q_if_bound, q_with_name, q_with_given, q_with_if, q_with_work, q_with_call, q_with_bound, q_work_name, q_work_given, q_work_if, q_work_with, q_work_call, q_work_bound, q_call_name, q_call_given, q_call_if, q_call_with, q_call_work, q_call_bound, q_bound_name, q_bound_given, q_bound_if, q_bound_with, q_bound_work, q_bound_call, in_name, in_given, in_if, in_with, in_work, in_call])
local macro_rules | `(tactic| walk_at "ce") => `(tactic| (walk_at "cd"; walk_at "dl"; (try walk_at "cd"); (try walk_at "dl"); (try walk_at "cd")))
/-! ### words for names -/
abbrev lD (qs : List (Str × Str)) : List (D × D) := qs.map fun q => (.str q.1, .str q.2)
abbrev nP (qs : List (Str × Str)) : List (Str × Code) := qs.map fun q => (q.1, .nm q.2)
def lkN : List (Str × Str) → Str → Option Str
  | [], _ => none
  | (y, w) :: qs, x => if y = x then some w else lkN qs x
theorem lkN_cons {qs : List (Str × Str)} {x y w : Str} : lkN ((y, w) :: qs) x = if y = x then some w else lkN qs x := rfl
theorem lk_nP (x : Str) : ∀ qs : List (Str × Str), lk (nP qs) x = (lkN qs x).map .nm
  | [] => rfl
  | (y, w) :: qs => by
    show (if y = x then some (Code.nm w) else lk (nP qs) x) = _
    rw [lkN_cons, lk_nP x qs]
    by_cases e : y = x
    · rw [if_pos e, if_pos e]; rfl
    · rw [if_neg e, if_neg e]
theorem lkS_lD (x : Str) : ∀ qs : List (Str × Str), lkS (qs.map fun q => (q.1, D.str q.2)) x = (lkN qs x).map .str
  | [] => rfl
  | (y, w) :: qs => by
    rw [List.map_cons, lkS_cons, lkN_cons, lkS_lD x qs]
    by_cases e : y = x
    · rw [if_pos e, if_pos e]; rfl
    · rw [if_neg e, if_neg e]
theorem lD_eD (qs : List (Str × Str)) : lD qs = eD (qs.map fun q => (q.1, D.str q.2)) := by
  show qs.map _ = (qs.map _).map _
  rw [List.map_map]; rfl
theorem valD_lD (x : Str) (qs : List (Str × Str)) : valD (lD qs) (.inr x) = (lkN qs x).map .str := by
  rw [lD_eD, valD_eD, lkS_lD]
theorem lkN_none {qs : List (Str × Str)} {x : Str} : lkN qs x = none ↔ x ∉ qs.map (·.1) := by
  induction qs with
  | nil => simp [lkN]
  | cons p qs ih =>
    obtain ⟨y, c⟩ := p
    rw [lkN_cons]
    by_cases e : y = x
    · subst e; simp
    · have e' : ¬ x = y := fun z => e z.symm
      rw [if_neg e, ih]; simp [e']
theorem lkN_mem {qs : List (Str × Str)} {x w : Str} (h : lkN qs x = some w) : (x, w) ∈ qs := by
  induction qs with
  | nil => cases h
  | cons p qs ih =>
    obtain ⟨y, d⟩ := p
    rw [lkN_cons] at h
    by_cases e : y = x
    · subst e
      rw [if_pos rfl] at h
      cases h
      exact List.mem_cons_self
    · rw [if_neg e] at h
      exact List.mem_cons_of_mem _ (ih h)
theorem lkN_of {qs : List (Str × Str)} {x w : Str} (hn : (qs.map (·.1)).Nodup) (h : (x, w) ∈ qs) : lkN qs x = some w := by
  induction qs with
  | nil => cases h
  | cons p qs ih =>
    obtain ⟨y, d⟩ := p
    rw [List.map_cons, List.nodup_cons] at hn
    rw [lkN_cons]
    rcases List.mem_cons.mp h with e | h
    · cases e
      rw [if_pos rfl]
    · rw [if_neg (fun e : y = x => hn.1 (e ▸ List.mem_map.mpr ⟨_, h, rfl⟩))]
      exact ih hn.2 h
/-- the word of a name -/
def ld (qs : List (Str × Str)) (x : Str) : Str := (lkN qs x).getD x
theorem putsE_nP {X : Type} (A : Alg X) (s : Str → X) (qs : List (Str × Str)) : putsE A s (lk (nP qs)) = fun x => s (ld qs x) := by
  funext x
  unfold putsE ld
  rw [lk_nP]
  cases lkN qs x with
  | none => rfl
  | some w => simp only [Option.map_some, Option.getD_some, Code.sem]
/-- what renamed tells -/
def Ren (c : Code) (qs : List (Str × Str)) (c' : Code) : Prop := ∀ (X : Type) (A : Alg X) (s : Str → X), c'.sem A s = c.sem A fun x => s (ld qs x)
theorem dcomp_items {i j : Nat} {ρ : List Sl} {k : List (D × D) → Prop} (hij : i ≠ j) (hi : i < ρ.length) (hj : j < ρ.length) : ∀ {qs done : List (Str × Str)}, ((done ++ qs).map (·.1)).Nodup → (done ++ qs).length < 2 ^ 20 →
    k (pD (nP (done ++ qs))) → dcompT (.tp [i, j]) yesT (nameT i) (tupT (consA (cT (.str "name")) (consA (nameT j) nilA))) ρ ((lD qs).map tupE) (pD (nP done)) k
  | [], done, _, _, h => by rw [List.append_nil] at h; exact h
  | (x, w) :: qs, done, hn, hl, h => by
    have hs : sizeLine = 16777216 := sizeLine_eq
    have e : done ++ (x, w) :: qs = (done ++ [(x, w)]) ++ qs := by simp
    have hx : x ∉ (nP done).map (·.1) := fun z => by
      rw [List.map_map] at z
      rw [List.map_append, List.nodup_append] at hn
      exact hn.2.2 x z x (by simp) rfl
    have e1 : ((ρ.set i (.dat (.str x))).set j (.dat (.str w)))[i]? = some (.dat (.str x)) := by
      rw [List.getElem?_set_ne (fun z => hij z.symm), List.getElem?_set_self hi]
    have e2 : ((ρ.set i (.dat (.str x))).set j (.dat (.str w)))[j]? = some (.dat (.str w)) := List.getElem?_set_self (by rw [List.length_set]; exact hj)
    simp only [List.map_cons, dcompT, tgD, tupE]
    refine ⟨rfl, ?_⟩
    simp only [yesT, if_true, putA, nameT, e1, tupT, consA, nilA, cT, e2, List.length_cons, List.length_nil]
    refine ⟨by omega, rfl, ?_, ?_⟩
    · rw [List.length_map, List.length_map]
      rw [List.length_append] at hl
      omega
    · have e3 : putD (pD (nP done)) (.str x) (.tup [.str "name", .str w]) = pD (nP (done ++ [(x, w)])) := by
        have := putD_pD (ps := nP done) (x := x) (c := .nm w) hx
        simp only [Code.toD] at this
        rw [this]
        unfold nP
        rw [List.map_append]; rfl
      rw [e3]
      exact dcomp_items hij hi hj (done := done ++ [(x, w)]) (by rw [← e]; exact hn) (by rw [← e]; exact hl) (by rw [← e]; exact h)
def R_ren (N n : Nat) : RD := fun ds k => ∃ (c : Code) (qs : List (Str × Str)), ds = [c.toD, .dic false (lD qs)] ∧ (qs.map (·.1)).Nodup ∧ qs.length < 2 ^ 5 ∧ R_put N n [c.toD, .dic false (pD (nP qs))] k
theorem p_renamed (N n : Nat) : ∀ ds κ, R_ren N n ds κ → t_renamed (R_put N n) (endD κ) (enterS 4 ds) := by
  rintro ds κ ⟨c, qs, rfl, hn, hl, h⟩
  unfold t_renamed
  walk_at "dl"
  refine ⟨lD qs, rfl, ?_⟩
  refine dcomp_items (done := []) (i := 2) (j := 3) (by decide) (by simp [wipeS]) (by simp [wipeS]) (by simpa using hn) (by simp; omega) ?_
  exact h
def R_fnames (N : Nat) : RD := fun ds k => ∃ c : Code, ds = [c.toD] ∧ c.ok ∧ c.dp ≤ N ∧ c.size < 2 ^ 16 ∧ ∀ xs : List Str, (∀ x, x ∈ xs ↔ c.fr x) → xs.Nodup → k (.lst ((DMS.srt xs).map .str))
theorem p_free_names (N : Nat) : ∀ ds κ, R_fnames N ds κ → t_free_names (R_free N) (endD κ) (enterS 1 ds) := by
  rintro ds κ ⟨c, rfl, ho, hd, hz, h⟩
  unfold t_free_names
  walk_at "dl"
  simp only [sortF]
  walk_at "dl"
  exact ⟨c, rfl, ho, hd, hz, fun xs h1 _ h3 => ⟨xs, rfl, h xs h1 h3⟩⟩
/-! what renaming does -/
theorem ren_size {c c' : Code} {qs : List (Str × Str)} (h : Ren c qs c') : c'.size = c.size := by
  rw [size_sem c', h, ← size_sem c]
theorem ren_num {c c' : Code} {qs : List (Str × Str)} (h : Ren c qs c') (e : Str → D) : numE e c' [] = numE (fun x => e (ld qs x)) c [] := by
  rw [num_sem, num_sem, h, envN_nil, envN_nil]
theorem ren_ans {c c' : Code} {qs : List (Str × Str)} (h : Ren c qs c') (T : Tab) (g : Int → Int) (r : Str → Int) : c'.ans T g r = c.ans T g fun x => r (ld qs x) := by
  rw [ans_sem, h, ans_sem]
theorem ren_nc {c c' : Code} {qs : List (Str × Str)} {H : Int} (h : Ren c qs c') (hc : c.nc H) : c'.nc H := by
  rw [nc_sem, h]
  exact (nc_sem H c).mp hc
def frA : Alg Prop where
  gv _ := False
  ite a b c d := a ∨ b ∨ c ∨ d
  wth a f := a ∨ f False
  app _ _ xs := ∃ x ∈ xs, x
mutual
theorem fr_sem : ∀ (c : Code) (p : Str → Prop), c.sem frA p ↔ ∃ x, c.fr x ∧ p x
  | .nm y, p => by simp only [Code.sem, Code.fr]; exact ⟨fun h => ⟨y, rfl, h⟩, fun ⟨x, e, h⟩ => e ▸ h⟩
  | .gv i, p => by simp only [Code.sem, Code.fr, frA]; exact ⟨fun h => h.elim, fun ⟨x, e, h⟩ => e⟩
  | .ite a b c d, p => by
    simp only [Code.sem, Code.fr]
    show (a.sem frA p ∨ b.sem frA p ∨ c.sem frA p ∨ d.sem frA p) ↔ _
    rw [fr_sem a p, fr_sem b p, fr_sem c p, fr_sem d p]
    constructor
    · rintro (⟨x, h, q⟩ | ⟨x, h, q⟩ | ⟨x, h, q⟩ | ⟨x, h, q⟩)
      · exact ⟨x, .inl h, q⟩
      · exact ⟨x, .inr (.inl h), q⟩
      · exact ⟨x, .inr (.inr (.inl h)), q⟩
      · exact ⟨x, .inr (.inr (.inr h)), q⟩
    · rintro ⟨x, h | h | h | h, q⟩
      · exact .inl ⟨x, h, q⟩
      · exact .inr (.inl ⟨x, h, q⟩)
      · exact .inr (.inr (.inl ⟨x, h, q⟩))
      · exact .inr (.inr (.inr ⟨x, h, q⟩))
  | .wth y a b, p => by
    simp only [Code.sem, Code.fr]
    show (a.sem frA p ∨ b.sem frA (setV p y False)) ↔ _
    rw [fr_sem a p, fr_sem b (setV p y False)]
    constructor
    · rintro (⟨x, h, q⟩ | ⟨x, h, q⟩)
      · exact ⟨x, .inl h, q⟩
      · unfold setV at q
        by_cases e : x = y
        · rw [if_pos e] at q; exact q.elim
        · rw [if_neg e] at q; exact ⟨x, .inr ⟨e, h⟩, q⟩
    · rintro ⟨x, h | ⟨e, h⟩, q⟩
      · exact .inl ⟨x, h, q⟩
      · exact .inr ⟨x, h, by unfold setV; rw [if_neg e]; exact q⟩
  | .app w f cs, p => by
    simp only [Code.sem, Code.fr]
    exact frs_sem cs p
theorem frs_sem : ∀ (cs : List Code) (p : Str → Prop), (∃ x ∈ Code.sems frA cs p, x) ↔ ∃ x, Code.frs cs x ∧ p x
  | [], p => by simp only [Code.sems, Code.frs]; exact ⟨fun ⟨x, h, _⟩ => (nomatch h), fun ⟨x, h, _⟩ => h.elim⟩
  | c :: cs, p => by
    simp only [Code.sems, Code.frs, List.mem_cons, exists_eq_or_imp]
    rw [fr_sem c p, frs_sem cs p]
    constructor
    · rintro (⟨x, h, q⟩ | ⟨x, h, q⟩)
      · exact ⟨x, .inl h, q⟩
      · exact ⟨x, .inr h, q⟩
    · rintro ⟨x, h | h, q⟩
      · exact .inl ⟨x, h, q⟩
      · exact .inr ⟨x, h, q⟩
end
theorem ren_fr {c c' : Code} {qs : List (Str × Str)} (h : Ren c qs c') (y : Str) : c'.fr y ↔ ∃ x, c.fr x ∧ y = ld qs x := by
  have h1 := fr_sem c' fun x => y = x
  rw [h, fr_sem c] at h1
  rw [h1]
  exact ⟨fun q => ⟨y, q, rfl⟩, fun ⟨x, q, e⟩ => e ▸ q⟩
/-- which words names get -/
structure LedOk (c : Code) (qs : List (Str × Str)) : Prop where
  keys : (qs.map (·.1)).Nodup
  vals : (qs.map (·.2)).Nodup
  good : ∀ q ∈ qs, wOk q.1 = true ∧ wOk q.2 = true
  all : ∀ x, c.fr x → x ∈ qs.map (·.1)
  few : qs.length ≤ 5
theorem lkN_some {qs : List (Str × Str)} {x : Str} (h : x ∈ qs.map (·.1)) : ∃ w, lkN qs x = some w := by
  cases q : lkN qs x with
  | none => exact absurd h (lkN_none.mp q)
  | some w => exact ⟨w, rfl⟩
abbrev swq (qs : List (Str × Str)) : List (Str × Str) := qs.map fun q => (q.2, q.1)
abbrev idq (qs : List (Str × Str)) : List (Str × Str) := qs.map fun q => (q.1, q.1)
theorem ld_back {qs : List (Str × Str)} {x : Str} (h2 : (qs.map (·.2)).Nodup) (h : x ∈ qs.map (·.1)) : ld (swq qs) (ld qs x) = x := by
  obtain ⟨w, hw⟩ := lkN_some h
  have e : ld qs x = w := by unfold ld; rw [hw]; rfl
  rw [e]
  unfold ld
  have : lkN (swq qs) w = some x := lkN_of (by rw [List.map_map]; exact h2) (List.mem_map.mpr ⟨(x, w), lkN_mem hw, rfl⟩)
  rw [this]; rfl
theorem ld_id (qs : List (Str × Str)) (x : Str) : ld (idq qs) x = x := by
  unfold ld
  have : ∀ qs : List (Str × Str), lkN (idq qs) x = none ∨ lkN (idq qs) x = some x := by
    intro qs
    induction qs with
    | nil => exact .inl rfl
    | cons q qs ih =>
      show lkN ((q.1, q.1) :: idq qs) x = none ∨ lkN ((q.1, q.1) :: idq qs) x = some x
      rw [lkN_cons]
      by_cases e : q.1 = x
      · rw [if_pos e, e]; exact .inr rfl
      · rw [if_neg e]; exact ih
  rcases this qs with e | e <;> rw [e] <;> rfl
theorem ld_rev {qs : List (Str × Str)} (hn : (qs.map (·.1)).Nodup) : lk (nP qs.reverse) = lk (nP qs) := by
  funext x
  rw [lk_nP, lk_nP]
  congr 1
  have hr : (qs.reverse.map (·.1)).Nodup := by rw [List.map_reverse]; exact (List.reverse_perm _).symm.nodup hn
  cases q : lkN qs x with
  | none =>
    refine lkN_none.mpr fun z => lkN_none.mp q ?_
    rw [List.map_reverse] at z
    exact List.mem_reverse.mp z
  | some w => exact lkN_of hr (List.mem_reverse.mpr (lkN_mem q))
end K15

set_option Elab.async false
set_option linter.all false
set_option maxRecDepth 100000
set_option maxHeartbeats 4000000
namespace K15
open PySem L2 DL
local macro_rules | `(tactic| walk_at "dl") => `(tactic| simp only [Tr.toD, toDs_d, map_snoc, map_ins, treeT, seqT, iffT, setT, retT, nextT, retN, blT, DL.binT, nameT, cT, bagT, cutBT, putBT, augBT, consA, nilA, callT, ofF, lstF, lstR, tupT, eqD, neD, inD, notInD, someO, noneO, slT, revF, endD, enterS, ifT, andT, orT, notT, andB, orB, notB, truT, newT, mT, thruT, thruB, frzT, putT, parT, tgtT, methT, onT, isStr, isLst, getT, starA, negT, dropT, breakT, contT, tgD, putA, seqI, rng1I, enumI, zipI, forT, lcF, wipeS,
  addD_ii, addD_ib, addD_ss, addD_ll, addD_tt, subD_ii, mulD_ii, mulD_li, fdivD_ii, modD_ii, cmpI_ii, eqB_ss, eqB_ii, eqB_bb, eqB_tt, eqB_ll, inB_l, inB_t, ixD_l, ixD_t, ixD_s, slD_l, slD_t, truD_b, truD_i, truD_n, truD_s, truD_l, truD_t, intR_i, intR_b, lenR_s, lenR_l, lenR_t, absR_i, minR_ii, maxR_ii, tupR_l, tupR_t, appD_1, insD_1, extD_1, splitM_1, optK_some, atI_0, atI_1, atI_2, atI_3, atI_4, cutL_1, cutL_2, cutL_t1, cutL_t2,
  List.map_cons, List.map_nil, List.replicate_succ, List.replicate_zero, List.cons_append, List.nil_append, List.length_cons, List.length_nil, List.set_cons_zero, List.set_cons_succ, List.getElem?_cons_zero, List.getElem?_cons_succ, List.drop_succ_cons, List.drop_zero, List.take_succ_cons, List.take_zero, true_and, and_true, true_or, or_true, decide_eq_true_eq, reduceCtorEq, if_true, if_false, ite_true, ite_false, D.int.injEq, Nat.reduceAdd, Nat.reduceSub, Int.reduceSub, Int.reduceAdd, Int.reduceNeg, Bool.false_eq_true, Bool.true_eq_false, decide_true, decide_false, Bool.not_true, Bool.not_false, Bool.not_eq_true', decide_eq_false_iff_not])
local macro_rules | `(tactic| walk_at "di") => `(tactic| simp only [isiT, chainT, e0D, ixO, parO, parS, disp1T, emptyT, getT2, lookD, keyD, keyT, keysD, valD, valQ, dixT, listKR, itemsF, keysI, valsI, itemsI, dputK, newR, emptyR, augI, whileT, dcT, lc2F, Tr.toEs, Bool.or_true, Bool.or_false, Bool.true_or, Bool.false_or, isi2T, inSg, notInSg, tabT, List.isEmpty_nil, List.isEmpty_cons, ib_int_NoneType, ib_int_bool, ib_int_int, ib_int_str, ib_int_list, ib_int_tuple, ib_int_dict, ib_bool_NoneType, ib_bool_bool, ib_bool_int, ib_bool_str, ib_bool_list, ib_bool_tuple, ib_bool_dict, ib_str_NoneType, ib_str_bool, ib_str_int, ib_str_str, ib_str_list, ib_str_tuple, ib_str_dict, ib_list_NoneType, ib_list_bool, ib_list_int, ib_list_str, ib_list_list, ib_list_tuple, ib_list_dict, ib_tuple_NoneType, ib_tuple_bool, ib_tuple_int, ib_tuple_str, ib_tuple_list, ib_tuple_tuple, ib_tuple_dict])
local macro_rules | `(tactic| walk_at "dx") => `(tactic| ((try walk_at "dl"); (try walk_at "di"); (try walk_at "dl"); (try walk_at "di"); (try walk_at "dl")))
local macro_rules | `(tactic| walk_at "cd") => `(tactic| simp only [Code.toD, Code.toDs, Code.kids, List.any_cons, List.any_nil, D.py, PyData.eqv, beq_iff_eq, Bool.or_false, Bool.or_eq_true, Bool.or_eq_false_iff, or_false, false_or, q_name_given, q_name_if, q_name_with, q_name_work, q_name_call, q_name_bound, q_given_name, q_given_if, q_given_with, q_given_work, q_given_call, q_given_bound, q_if_name, q_if_given, q_if_with, q_if_work, q_if_call, q_if_bound, q_with_name, q_with_given, q_with_if, q_with_work, q_with_call, q_with_bound, q_work_name, q_work_given, q_work_if, q_work_with, q_work_call, q_work_bound, q_call_name, q_call_given, q_call_if, q_call_with, q_call_work, q_call_bound, q_bound_name, q_bound_given, q_bound_if, q_bound_with, q_bound_work, q_bound_call, in_name, in_given, in_if, in_with, in_work, in_call])
local macro_rules | `(tactic| walk_at "ce") => `(tactic| (walk_at "cd"; walk_at "dl"; (try walk_at "cd"); (try walk_at "dl"); (try walk_at "cd")))
/-! ### which words names get -/
def R_led : RD := fun ds k => ∃ (c : Code) (ws : List Str), ds = [.bag, c.toD, .lst (ws.map .str)] ∧ Good ws ∧ ws.length ≤ 5 ∧ c.ok ∧ c.dp ≤ 40 ∧ c.size < 2 ^ 10 ∧ (∀ x, c.fr x → x ∈ ws) ∧ ∀ qs : List (Str × Str), LedOk c qs → k (.dic false (lD qs))
abbrev le1 : TSD := (setT 3 (ofF (sortSetF (consA (DL.binT addD (callT (R_lfree 40) (consA (nameT 1) (consA (ofF (lstF nilA)) nilA))) (slT slD (nameT 2) noneO (someO (callT R_take (consA (nameT 0) (consA (cT (.int 3)) nilA)))))) nilA))))
abbrev le2 : TSD := (setT 4 (ofF (lcF (.nm 9) (seqI (callT (R_parts 40) (consA (nameT 1) nilA))) (blT (DL.binT eqD (DL.binT ixD (nameT 9) (cT (.int 0))) (cT (.str "with")))) (DL.binT ixD (nameT 9) (cT (.int 1))) [9])))
abbrev le3 : TSD := (setT 6 (DL.binT addD (ofF (lcF (.nm 5) (seqI (DL.binT addD (DL.binT addD (nameT 4) (nameT 2)) (callT R_words (consA (nameT 0) (consA (cT (.int 14)) nilA))))) (blT (DL.binT (cmpI fun i j => decide (i > j)) (callT R_take (consA (nameT 0) (consA (cT (.int 4)) nilA))) (cT (.int 0)))) (nameT 5) [5])) (callT R_words (consA (nameT 0) (consA (cT (.int 14)) nilA)))))
abbrev le4 : TSD := (setT 7 (ofF (lstF nilA)))
abbrev le5b1 : TSD := (setT 7 (DL.binT addD (nameT 7) (DL.binT mulD (ofF (lstF (consA (nameT 5) nilA))) (callT intR (consA (DL.binT notInD (nameT 5) (nameT 7)) nilA)))))
abbrev le5B : TSD := le5b1
abbrev le5 : TSD := (forT (.nm 5) (seqI (nameT 6)) le5B)
abbrev le6 : TSD := (setT 8 (callT R_take (consA (nameT 0) (consA (cT (.int 4)) nilA))))
abbrev le7 : TSD := (iffT (blT (DL.binT eqD (nameT 8) (cT (.int 0)))) (setT 7 (callT (R_mixed 16) (consA (nameT 0) (consA (nameT 3) nilA)))) nextT)
abbrev le8 : TSD := (retT (callT dictR (consA (ofF (lcF (.nm 10) (seqI (callT (R_mixed 16) (consA (nameT 0) (consA (ofF (lstRgF (callT lenR (consA (nameT 3) nilA)))) nilA)))) yesT (tupT (consA (DL.binT ixD (nameT 3) (nameT 10)) (consA (DL.binT ixD (nameT 7) (nameT 10)) nilA))) [10])) nilA)))
theorem le_eq : t_L_led (R_lfree 40) R_take (R_parts 40) R_words (R_mixed 16) = (seqT le1 (seqT le2 (seqT le3 (seqT le4 (seqT le5 (seqT le6 (seqT le7 le8))))))) := rfl
theorem parts_le : ∀ (n : Nat) (c : Code), c.dp ≤ n → ∀ p ∈ c.parts, p.dp ≤ c.dp ∧ p.size ≤ c.size ∧ (c.ok → p.ok) := by
  intro n
  induction n with
  | zero => intro c h; cases c <;> simp only [Code.dp] at h <;> omega
  | succ n ih =>
    intro c hn p hp
    rw [parts_kids] at hp
    rcases List.mem_cons.mp hp with rfl | hp
    · exact ⟨Nat.le_refl _, Nat.le_refl _, fun h => h⟩
    · have pm : ∀ {cs : List Code}, p ∈ Code.partss cs → ∃ d ∈ cs, p ∈ d.parts := by
        intro cs
        induction cs with
        | nil => intro h; simp only [Code.partss] at h; cases h
        | cons e cs ih =>
          intro h
          simp only [Code.partss] at h
          rcases List.mem_append.mp h with h | h
          · exact ⟨e, List.mem_cons_self, h⟩
          · obtain ⟨d, a, b⟩ := ih h
            exact ⟨d, List.mem_cons_of_mem _ a, b⟩
      obtain ⟨d, hd, hp⟩ := pm hp
      have h1 := kids_dp hd
      have h2 := sizes_mem hd
      have h3 := kids_sizes c
      obtain ⟨a, b, e⟩ := ih d (by omega) p hp
      exact ⟨by omega, by omega, fun h => e (oks_mem (kids_ok h) d hd)⟩
theorem t_hdI {c : Code} {i : Nat} {ρ : List Sl} {w : Str} {kb : Bool → Prop} (h : ρ[i]? = some (.dat c.toD)) (q : kb (decide (c.hd = w))) : blT (DL.binT eqD (DL.binT ixD (nameT i) (cT (.int 0))) (cT (.str w))) ρ kb := by
  obtain ⟨ds, e⟩ := hd_at c
  rw [e] at h
  simp only [blT, DL.binT, nameT, h, cT, ixD_t, atI_0, optK_some, eqD, eqB_ss]
  exact q
theorem lf_of {a : Code} {κ : D → Prop} (ho : a.ok) (hd : a.dp ≤ 40) (hz : a.size < 2 ^ 15) (h : κ (.lst ((a.fl []).map .str))) : R_lfree 40 [a.toD, .lst []] κ :=
  ⟨a, [], rfl, ho, (fun _ z => nomatch z), hd, by omega, by simp; omega, h⟩
theorem comp_fnD {α : Type} {i : Nat} {te : TD} {ρ : List Sl} {g f : α → D} {k : List D → Prop} : ∀ {l : List α} {acc : List D}, (∀ a ∈ l, ∀ κ : D → Prop, κ (f a) → te (ρ.set i (.dat (g a))) κ) → k (acc ++ l.map f) → compT (.nm i) yesT te ρ (l.map g) acc k
  | [], acc, _, hk => by rw [List.map_nil, List.append_nil] at hk; exact hk
  | a :: l, acc, h, hk => by
    show te (ρ.set i (.dat (g a))) fun e => compT (.nm i) yesT te ρ (l.map g) (acc ++ [e]) k
    refine h a List.mem_cons_self _ ?_
    exact comp_fnD (fun b hb => h b (List.mem_cons_of_mem _ hb)) (by rw [List.append_assoc]; exact hk)
theorem comp_pick {i : Nat} {tt : TBD} {ρ : List Sl} {k : List D → Prop} (hi : i < ρ.length) (ht : ∀ (d : Sl) (kb : Bool → Prop), (∀ b, kb b) → tt (ρ.set i d) kb) : ∀ {L acc : List Str}, Good L → Good acc → (∀ fs : List Str, Good fs → fs.length ≤ acc.length + L.length → k (fs.map .str)) → compT (.nm i) tt (nameT i) ρ (L.map .str) (acc.map .str) k
  | [], acc, _, ga, hk => hk acc ga (by simp)
  | x :: L, acc, gl, ga, hk => by
    have gx := gl x List.mem_cons_self
    have gl' : Good L := fun w hw => gl w (List.mem_cons_of_mem _ hw)
    have e1 : (ρ.set i (.dat (.str x)))[i]? = some (.dat (.str x)) := List.getElem?_set_self hi
    simp only [List.map_cons, compT, tgD, nameT, e1]
    refine ht _ _ fun b => ?_
    cases b with
    | true =>
      rw [if_pos rfl]
      rw [show acc.map D.str ++ [.str x] = (acc ++ [x]).map .str by rw [List.map_append]; rfl]
      refine comp_pick hi ht gl' (fun w hw => ?_) fun fs gf hf => hk fs gf (by rw [List.length_append, List.length_singleton] at hf; rw [List.length_cons]; omega)
      rcases List.mem_append.mp hw with z | z
      · exact ga w z
      · rw [List.mem_singleton.mp z]; exact gx
    | false =>
      rw [if_neg (fun z => Bool.noConfusion z)]
      exact comp_pick hi ht gl' ga fun fs gf hf => hk fs gf (by rw [List.length_cons]; omega)
theorem comp_with {i : Nat} {ρ : List Sl} {k : List D → Prop} (hi : i < ρ.length) : ∀ {cs : List Code} {acc : List Str}, (∀ p ∈ cs, p.ok) → Good acc → (∀ bs : List Str, Good bs → bs.length ≤ acc.length + cs.length → k (bs.map .str)) →
    compT (.nm i) (blT (DL.binT eqD (DL.binT ixD (nameT i) (cT (.int 0))) (cT (.str "with")))) (DL.binT ixD (nameT i) (cT (.int 1))) ρ (Code.toDs cs) (acc.map .str) k
  | [], acc, _, ga, hk => by simp only [Code.toDs]; exact hk acc ga (by simp)
  | p :: cs, acc, hp, ga, hk => by
    have hp' : ∀ q ∈ cs, q.ok := fun q hq => hp q (List.mem_cons_of_mem _ hq)
    have po := hp p List.mem_cons_self
    have e1 : (ρ.set i (.dat p.toD))[i]? = some (.dat p.toD) := List.getElem?_set_self hi
    simp only [Code.toDs, compT, tgD]
    refine t_hdI (c := p) e1 ?_
    by_cases hw : ∃ y a b, p = .wth y a b
    · obtain ⟨y, a, b, rfl⟩ := hw
      simp only [Code.ok] at po
      rw [decide_eq_true (show (Code.wth y a b).hd = "with" from rfl), if_pos rfl]
      simp only [Code.toD] at e1
      simp only [Code.toD, DL.binT, nameT, e1, cT, ixD_t, atI_1, optK_some]
      rw [show acc.map D.str ++ [.str y] = (acc ++ [y]).map .str by rw [List.map_append]; rfl]
      refine comp_with hi hp' (fun w hw => ?_) fun fs gf hf => hk fs gf (by rw [List.length_append, List.length_singleton] at hf; rw [List.length_cons]; omega)
      rcases List.mem_append.mp hw with z | z
      · exact ga w z
      · rw [List.mem_singleton.mp z]; exact po.1
    · have hw' : ∀ y a b, p ≠ .wth y a b := fun y a b e => hw ⟨y, a, b, e⟩
      rw [decide_eq_false (hd_with hw'), if_neg (fun z => Bool.noConfusion z)]
      exact comp_with hi hp' ga fun fs gf hf => hk fs gf (by rw [List.length_cons]; omega)
theorem range_get (l : List Str) {n : Nat} (h : n ≤ l.length) : ((List.range n).map fun j => l.getD j "") = l.take n := by
  apply List.ext_getElem?
  intro j
  rw [List.getElem?_map, List.getElem?_take]
  by_cases q : j < n
  · rw [List.getElem?_range q, if_pos q, List.getElem?_eq_getElem (by omega)]
    simp only [Option.map_some, List.getD_eq_getElem?_getD]
    rw [List.getElem?_eq_getElem (by omega)]; rfl
  · rw [if_neg q, List.getElem?_eq_none (by simp; omega)]; rfl
section
variable {K : DE} {c : Code} {ws : List Str} {s3 s4 s5 s6 s7 s8 s9 s10 : Sl}
abbrev ρE (c : Code) (ws : List Str) (s3 s4 s5 s6 s7 s8 s9 s10 : Sl) : List Sl := [.dat .bag, .dat c.toD, .dat (.lst (ws.map .str)), s3, s4, s5, s6, s7, s8, s9, s10]
/-- the names that are to get words -/
structure Ev (c : Code) (ws ev : List Str) : Prop where
  nd : ev.Nodup
  sub : ∀ x ∈ ev, x ∈ ws
  all : ∀ x, c.fr x → x ∈ ev
theorem Ev.len {ev : List Str} (h : Ev c ws ev) : ev.length ≤ ws.length := pigeon h.nd h.sub
theorem le1_ok (ho : c.ok) (hd : c.dp ≤ 40) (hz : c.size < 2 ^ 10) (hw : ws.length ≤ 5) (hf : ∀ x, c.fr x → x ∈ ws) (h : ∀ ev, Ev c ws ev → K.nx (ρE c ws (.dat (.lst (ev.map .str))) s4 s5 s6 s7 s8 s9 s10)) : le1 K (ρE c ws s3 s4 s5 s6 s7 s8 s9 s10) := by
  have hs : sizeLine = 16777216 := sizeLine_eq
  have l1 := fl_len c []
  unfold le1 ρE
  walk_at "dl"
  simp only [sortSetF]
  walk_at "dl"
  refine ⟨by omega, lf_of ho hd (by omega) ⟨3, rfl, by omega, by omega, fun i i0 i3 => ?_⟩⟩
  obtain ⟨n, rfl⟩ : ∃ n : Nat, i = n := ⟨i.toNat, by omega⟩
  dsimp only
  rw [cutL_to, ← List.map_take]
  walk_at "dl"
  have l2 : (ws.take n).length ≤ ws.length := by rw [List.length_take]; omega
  refine ⟨by rw [List.length_map, List.length_map]; omega, c.fl [] ++ ws.take n, by rw [List.map_append], by rw [List.length_append]; omega, h _ ⟨(DMS.srt_perm _).symm.nodup (DMS.dd_nd _), fun x hx => ?_, fun x hx => ?_⟩⟩
  · have := DMS.dd_mem.mp ((DMS.srt_perm _).mem_iff.mp hx)
    rcases List.mem_append.mp this with z | z
    · exact hf x ((fl_mem c []).mp z).1
    · exact List.mem_of_mem_take z
  · exact (DMS.srt_perm _).mem_iff.mpr (DMS.dd_mem.mpr (List.mem_append_left _ ((fl_mem c []).mpr ⟨hx, List.not_mem_nil⟩)))
theorem le2_ok (hd : c.dp ≤ 40) (hz : c.size < 2 ^ 10) (ho : c.ok) (h : ∀ bs, Good bs → bs.length ≤ c.size → K.nx (ρE c ws s3 (.dat (.lst (bs.map .str))) s5 s6 s7 s8 s9 s10)) : le2 K (ρE c ws s3 s4 s5 s6 s7 s8 s9 s10) := by
  have hs : sizeLine = 16777216 := sizeLine_eq
  unfold le2 ρE
  walk_at "dl"
  refine ⟨c, rfl, hd, by omega, ?_⟩
  dsimp only
  refine ⟨by rw [toDs_len, parts_len]; omega, ?_⟩
  refine comp_with (acc := []) (by simp) (fun p hp => (parts_le c.dp c (Nat.le_refl _) p hp).2.2 ho) (fun _ z => nomatch z) fun bs gb hb => h bs gb ?_
  rw [parts_len] at hb
  simpa using hb
theorem le3_ok {bs : List Str} (hg : Good bs) (hl : bs.length < 2 ^ 10) (hw : Good ws) (hwl : ws.length ≤ 5) (h : ∀ fs : List Str, Good fs → fs.length < 2 ^ 12 → (∃ W : List Str, W.Nodup ∧ W.length = 14 ∧ ∀ w ∈ W, w ∈ fs) → K.nx (ρE c ws s3 (.dat (.lst (bs.map .str))) s5 (.dat (.lst (fs.map .str))) s7 s8 s9 s10)) : le3 K (ρE c ws s3 (.dat (.lst (bs.map .str))) s5 s6 s7 s8 s9 s10) := by
  have hs : sizeLine = 16777216 := sizeLine_eq
  unfold le3 ρE
  walk_at "dl"
  refine ⟨by rw [List.length_map, List.length_map]; omega, 14, rfl, by omega, by omega, fun W gW nW lW => ?_⟩
  walk_at "dl"
  refine ⟨by rw [List.length_append, List.length_map, List.length_map, List.length_map]; omega, ?_⟩
  rw [← List.map_append, ← List.map_append]
  have gall : Good (bs ++ ws ++ W) := fun w hw' => by
    rcases List.mem_append.mp hw' with z | z
    · rcases List.mem_append.mp z with z | z
      · exact hg w z
      · exact hw w z
    · exact gW w z
  refine ⟨by rw [List.length_map, List.length_append, List.length_append]; omega, ?_⟩
  refine comp_pick (acc := []) (by simp) (fun d kb q => ?_) gall (fun _ z => nomatch z) fun fs gf hf => ?_
  · walk_at "dl"
    exact ⟨4, rfl, by omega, by omega, fun i _ _ => q _⟩
  · rw [List.length_append, List.length_append, List.length_nil] at hf
    refine ⟨14, rfl, by omega, by omega, fun W2 gW2 nW2 lW2 => ?_⟩
    walk_at "dl"
    refine ⟨by rw [List.length_map, List.length_map]; omega, ?_⟩
    rw [← List.map_append]
    refine h (fs ++ W2) (fun w hw' => ?_) (by rw [List.length_append]; omega) ⟨W2, nW2, lW2, fun w hw' => List.mem_append_right _ hw'⟩
    rcases List.mem_append.mp hw' with z | z
    · exact gf w z
    · exact gW2 w z
theorem le5_ok {fs : List Str} (hg : Good fs) (hl : fs.length < 2 ^ 12) (h : ∀ (us : List Str) (s5 : Sl), Good us → us.Nodup → (∀ w ∈ fs, w ∈ us) → us.length < 2 ^ 12 → K.nx (ρE c ws s3 s4 s5 (.dat (.lst (fs.map .str))) (.dat (.lst (us.map .str))) s8 s9 s10)) : le5 K (ρE c ws s3 s4 s5 (.dat (.lst (fs.map .str))) (.dat (.lst [])) s8 s9 s10) := by
  have hs : sizeLine = 16777216 := sizeLine_eq
  unfold le5 ρE
  walk_at "dl"
  refine loopT_ind (I := fun rest ρ => ∃ (us gs : List Str) (s5 : Sl), rest = gs.map .str ∧ ρ = ρE c ws s3 s4 s5 (.dat (.lst (fs.map .str))) (.dat (.lst (us.map .str))) s8 s9 s10 ∧ Good us ∧ us.Nodup ∧ (∀ w ∈ fs, w ∈ us ∨ w ∈ gs) ∧ (∀ w ∈ gs, w ∈ fs) ∧ us.length + gs.length ≤ fs.length) ?_ ?_ ⟨[], fs, _, rfl, rfl, (fun _ z => nomatch z), List.nodup_nil, fun w hw => .inr hw, fun w hw => hw, by simp⟩
  · rintro ρ ⟨us, gs, s5, e, rfl, h1, h2, h3, h4, h5⟩
    have : gs = [] := by cases gs with
      | nil => rfl
      | cons a l => cases e
    subst this
    exact h us s5 h1 h2 (fun w hw => (h3 w hw).resolve_right List.not_mem_nil) (by omega)
  · rintro d rest ρ N hN ⟨us, gs, s5, e, rfl, h1, h2, h3, h4, h5⟩
    cases gs with
    | nil => cases e
    | cons x gs =>
      obtain ⟨rfl, rfl⟩ := List.cons.inj e
      rw [List.length_cons] at h5
      have gx := hg x (h4 x List.mem_cons_self)
      have al := addS_len us x
      unfold le5B ρE
      walk_at "dl"
      refine ⟨by omega, in_strs gx h1, grows (κ := fun d => N (ρE c ws s3 s4 (.dat (.str x)) (.dat (.lst (fs.map .str))) (.dat d) s8 s9 s10)) _ (any_strs x us) ?_ (by omega)⟩
      refine hN _ ⟨addS us x, gs, _, rfl, rfl, addS_good h1 gx, addS_nd h2, fun w hw => ?_, fun w hw => h4 w (List.mem_cons_of_mem _ hw), by omega⟩
      rcases h3 w hw with z | z
      · exact .inl (addS_mem.mpr (.inl z))
      · rcases List.mem_cons.mp z with rfl | z
        · exact .inl (addS_mem.mpr (.inr rfl))
        · exact .inr z
theorem le8_ok {κ : D → Prop} {ev us : List Str} (he : Ev c ws ev) (hw : Good ws) (hwl : ws.length ≤ 5) (hg : Good us) (hn : us.Nodup) (hl : ev.length ≤ us.length) (h : ∀ qs : List (Str × Str), LedOk c qs → κ (.dic false (lD qs))) : le8 (endD κ) (ρE c ws (.dat (.lst (ev.map .str))) s4 s5 s6 (.dat (.lst (us.map .str))) s8 s9 s10) := by
  have hs : sizeLine = 16777216 := sizeLine_eq
  unfold le8 ρE
  walk_at "dl"
  simp only [lstRgF]
  walk_at "dl"
  have el := he.len
  refine ⟨ev.length, by rw [List.length_map], by omega, _, .inl rfl, by simp; omega, fun ys hy hyl => ?_⟩
  dsimp only
  have hys : ∃ is : List Nat, ys = (is.map fun i => D.int (i : Nat)) ∧ ∀ i ∈ is, i < ev.length := by
    have : ∀ ys : List D, (∀ y ∈ ys, y ∈ (List.range ev.length).map fun i => D.int (i : Nat)) → ∃ is : List Nat, ys = (is.map fun i => D.int (i : Nat)) ∧ ∀ i ∈ is, i < ev.length := by
      intro ys
      induction ys with
      | nil => exact fun _ => ⟨[], rfl, fun _ z => nomatch z⟩
      | cons y ys ih =>
        intro h
        obtain ⟨is, e, g⟩ := ih fun z hz => h z (List.mem_cons_of_mem _ hz)
        obtain ⟨i, hi, e'⟩ := List.mem_map.mp (h y List.mem_cons_self)
        refine ⟨i :: is, by rw [e, ← e']; rfl, fun z hz => ?_⟩
        rcases List.mem_cons.mp hz with rfl | hz
        · exact List.mem_range.mp hi
        · exact g z hz
    exact this ys fun y h => (hy y).mp h
  obtain ⟨is, rfl, hi⟩ := hys
  rw [List.length_map, List.length_map, List.length_range] at hyl
  have ip : is.Perm (List.range ev.length) := DMS.perm_of List.nodup_range (fun x hx => by
    obtain ⟨i, q1, q2⟩ := List.mem_map.mp ((hy (.int (x : Nat))).mpr (List.mem_map.mpr ⟨x, hx, rfl⟩))
    injection q2 with q2
    obtain rfl : i = x := by omega
    exact q1) (by rw [List.length_range]; omega)
  refine ⟨by rw [List.length_map]; omega, ?_⟩
  refine comp_fnD (f := fun j => D.tup [.str (ev.getD j ""), .str (us.getD j "")]) (fun j hj κ' q => ?_) ?_
  · have j1 := hi j hj
    have a1 : L2.atI (ev.map D.str) (j : Nat) = some (.str (ev.getD j "")) := by
      obtain ⟨e, e1, e2⟩ := atI_lt (l := ev.map D.str) (i := (j : Int)) (by omega) (by rw [List.length_map]; omega)
      rw [e1]
      rw [Int.toNat_natCast, List.getElem?_map, List.getElem?_eq_getElem j1] at e2
      rw [← e2, List.getD_eq_getElem?_getD, List.getElem?_eq_getElem j1]; rfl
    have a2 : L2.atI (us.map D.str) (j : Nat) = some (.str (us.getD j "")) := by
      obtain ⟨e, e1, e2⟩ := atI_lt (l := us.map D.str) (i := (j : Int)) (by omega) (by rw [List.length_map]; omega)
      rw [e1]
      rw [Int.toNat_natCast, List.getElem?_map, List.getElem?_eq_getElem (by omega)] at e2
      rw [← e2, List.getD_eq_getElem?_getD, List.getElem?_eq_getElem (by omega)]; rfl
    walk_at "dl"
    exact optK_of a1 (optK_of a2 ⟨by omega, q⟩)
  · rw [List.nil_append]
    have kp : ((is.map fun j => (ev.getD j "", us.getD j "")).map (·.1)).Perm ev := by
      rw [List.map_map]
      have := ip.map fun j => ev.getD j ""
      rw [range_get ev (Nat.le_refl _), List.take_length] at this
      exact this
    have vp : ((is.map fun j => (ev.getD j "", us.getD j "")).map (·.2)).Perm (us.take ev.length) := by
      rw [List.map_map]
      have := ip.map fun j => us.getD j ""
      rw [range_get us hl] at this
      exact this
    have hL : LedOk c (is.map fun j => (ev.getD j "", us.getD j "")) := ⟨kp.symm.nodup he.nd, vp.symm.nodup (hn.sublist (List.take_sublist _ _)), fun q hq => ⟨hw _ (he.sub _ (kp.mem_iff.mp (List.mem_map.mpr ⟨q, hq, rfl⟩))), hg _ (List.mem_of_mem_take (vp.mem_iff.mp (List.mem_map.mpr ⟨q, hq, rfl⟩)))⟩, fun x hx => kp.mem_iff.mpr (he.all x hx), by rw [List.length_map]; omega⟩
    refine ⟨lD (is.map fun j => (ev.getD j "", us.getD j "")), by rw [List.map_map, List.map_map]; rfl, fun e he' => ?_, ?_⟩
    · obtain ⟨q, _, rfl⟩ := List.mem_map.mp he'
      rfl
    · have := merge_eD (ps := []) (qs := (is.map fun j => (ev.getD j "", us.getD j "")).map fun q => (q.1, D.str q.2)) (by rw [List.nil_append, List.map_map]; exact hL.keys)
      rw [← lD_eD, List.nil_append, ← lD_eD] at this
      rw [show mergeD [] _ = lD _ from this]
      exact h _ hL
end
theorem p_led : ∀ ds κ, R_led ds κ → t_L_led (R_lfree 40) R_take (R_parts 40) R_words (R_mixed 16) (endD κ) (enterS 11 ds) := by
  have hs : sizeLine = 16777216 := sizeLine_eq
  rintro ds κ ⟨c, ws, rfl, gw, lw, ho, hd, hz, hf, h⟩
  rw [le_eq]
  refine le1_ok ho hd hz lw hf fun ev he => ?_
  refine le2_ok hd hz ho fun bs gb lb => ?_
  refine le3_ok gb (by omega) gw lw fun fs gf lf ⟨W, nW, lW, hW⟩ => ?_
  unfold le4
  walk_at "dl"
  refine ⟨by omega, ?_⟩
  refine le5_ok gf lf fun us s5 gu nu fu lu => ?_
  have el := he.len
  have l14 : 14 ≤ us.length := by
    have := pigeon nW fun w hw => fu w (hW w hw)
    omega
  have fin : ∀ (us : List Str) (s8 : Sl), Good us → us.Nodup → ev.length ≤ us.length → le8 (endD κ) (ρE c ws (.dat (.lst (ev.map .str))) (.dat (.lst (bs.map .str))) s5 (.dat (.lst (fs.map .str))) (.dat (.lst (us.map .str))) s8 .un .un) := fun us s8 g n l => le8_ok he gw lw g n l h
  unfold le6
  generalize hT : seqT le7 le8 = T
  unfold ρE
  walk_at "dl"
  refine ⟨4, rfl, by omega, by omega, fun i i0 i4 => ?_⟩
  subst hT
  generalize le8 = t8 at fin ⊢
  unfold le7
  walk_at "dl"
  split
  · refine ⟨_, .inl rfl, by rw [List.length_map]; omega, fun ys hy hyl => ?_⟩
    have hys : ∃ vs : List Str, ys = vs.map .str ∧ ∀ v ∈ vs, v ∈ ev := by
      have : ∀ ys : List D, (∀ y ∈ ys, y ∈ ev.map D.str) → ∃ vs : List Str, ys = vs.map .str ∧ ∀ v ∈ vs, v ∈ ev := by
        intro ys
        induction ys with
        | nil => exact fun _ => ⟨[], rfl, fun _ z => nomatch z⟩
        | cons y ys ih =>
          intro h
          obtain ⟨vs, e, g⟩ := ih fun z hz => h z (List.mem_cons_of_mem _ hz)
          obtain ⟨x, hx, e'⟩ := List.mem_map.mp (h y List.mem_cons_self)
          refine ⟨x :: vs, by rw [e, ← e']; rfl, fun z hz => ?_⟩
          rcases List.mem_cons.mp hz with rfl | hz
          · exact hx
          · exact g z hz
      exact this ys fun y h => (hy y).mp h
    obtain ⟨vs, rfl, vE⟩ := hys
    rw [List.length_map, List.length_map] at hyl
    have vp : vs.Perm ev := DMS.perm_of he.nd (fun x hx => by
      obtain ⟨z, hz, e⟩ := List.mem_map.mp ((hy (.str x)).mpr (List.mem_map.mpr ⟨x, hx, rfl⟩))
      cases e; exact hz) (by omega)
    exact fin vs _ (fun v hv => gw v (he.sub v (vE v hv))) (vp.symm.nodup he.nd) (by omega)
  · exact fin us _ gu nu (by omega)
end K15

set_option Elab.async false
set_option linter.all false
set_option maxRecDepth 100000
set_option maxHeartbeats 4000000
namespace K15
open PySem L2 DL
local macro_rules | `(tactic| walk_at "dl") => `(tactic| simp only [Tr.toD, toDs_d, map_snoc, map_ins, treeT, seqT, iffT, setT, retT, nextT, retN, blT, DL.binT, nameT, cT, bagT, cutBT, putBT, augBT, consA, nilA, callT, ofF, lstF, lstR, tupT, eqD, neD, inD, notInD, someO, noneO, slT, revF, endD, enterS, ifT, andT, orT, notT, andB, orB, notB, truT, newT, mT, thruT, thruB, frzT, putT, parT, tgtT, methT, onT, isStr, isLst, getT, starA, negT, dropT, breakT, contT, tgD, putA, seqI, rng1I, enumI, zipI, forT, lcF, wipeS,
  addD_ii, addD_ib, addD_ss, addD_ll, addD_tt, subD_ii, mulD_ii, mulD_li, fdivD_ii, modD_ii, cmpI_ii, eqB_ss, eqB_ii, eqB_bb, eqB_tt, eqB_ll, inB_l, inB_t, ixD_l, ixD_t, ixD_s, slD_l, slD_t, truD_b, truD_i, truD_n, truD_s, truD_l, truD_t, intR_i, intR_b, lenR_s, lenR_l, lenR_t, absR_i, minR_ii, maxR_ii, tupR_l, tupR_t, appD_1, insD_1, extD_1, splitM_1, optK_some, atI_0, atI_1, atI_2, atI_3, atI_4, cutL_1, cutL_2, cutL_t1, cutL_t2,
  List.map_cons, List.map_nil, List.replicate_succ, List.replicate_zero, List.cons_append, List.nil_append, List.length_cons, List.length_nil, List.set_cons_zero, List.set_cons_succ, List.getElem?_cons_zero, List.getElem?_cons_succ, List.drop_succ_cons, List.drop_zero, List.take_succ_cons, List.take_zero, true_and, and_true, true_or, or_true, decide_eq_true_eq, reduceCtorEq, if_true, if_false, ite_true, ite_false, D.int.injEq, Nat.reduceAdd, Nat.reduceSub, Int.reduceSub, Int.reduceAdd, Int.reduceNeg, Bool.false_eq_true, Bool.true_eq_false, decide_true, decide_false, Bool.not_true, Bool.not_false, Bool.not_eq_true', decide_eq_false_iff_not])
local macro_rules | `(tactic| walk_at "di") => `(tactic| simp only [isiT, chainT, e0D, ixO, parO, parS, disp1T, emptyT, getT2, lookD, keyD, keyT, keysD, valD, valQ, dixT, listKR, itemsF, keysI, valsI, itemsI, dputK, newR, emptyR, augI, whileT, dcT, lc2F, Tr.toEs, Bool.or_true, Bool.or_false, Bool.true_or, Bool.false_or, isi2T, inSg, notInSg, tabT, List.isEmpty_nil, List.isEmpty_cons, ib_int_NoneType, ib_int_bool, ib_int_int, ib_int_str, ib_int_list, ib_int_tuple, ib_int_dict, ib_bool_NoneType, ib_bool_bool, ib_bool_int, ib_bool_str, ib_bool_list, ib_bool_tuple, ib_bool_dict, ib_str_NoneType, ib_str_bool, ib_str_int, ib_str_str, ib_str_list, ib_str_tuple, ib_str_dict, ib_list_NoneType, ib_list_bool, ib_list_int, ib_list_str, ib_list_list, ib_list_tuple, ib_list_dict, ib_tuple_NoneType, ib_tuple_bool, ib_tuple_int, ib_tuple_str, ib_tuple_list, ib_tuple_tuple, ib_tuple_dict])
local macro_rules | `(tactic| walk_at "dx") => `(tactic| ((try walk_at "dl"); (try walk_at "di"); (try walk_at "dl"); (try walk_at "di"); (try walk_at "dl")))
local macro_rules | `(tactic| walk_at "cd") => `(tactic| simp only [Code.toD, Code.toDs, Code.kids, List.any_cons, List.any_nil, D.py, PyData.eqv, beq_iff_eq, Bool.or_false, Bool.or_eq_true, Bool.or_eq_false_iff, or_false, false_or, q_name_given, q_name_if, q_name_with, q_name_work, q_name_call, q_name_bound, q_given_name, q_given_if, q_given_with, q_given_work, q_given_call, q_given_bound, q_if_name, q_if_given, q_if_with, q_if_work, q_if_call, q_if_bound, q_with_name, q_with_given, q_with_if, q_with_work, q_with_call, q_with_bound, q_work_name, q_work_given, q_work_if, q_work_with, q_work_call, q_work_bound, q_call_name, q_call_given, q_call_if, q_call_with, q_call_work, q_call_bound, q_bound_name, q_bound_given, q_bound_if, q_bound_with, q_bound_work, q_bound_call, in_name, in_given, in_if, in_with, in_work, in_call])
local macro_rules | `(tactic| walk_at "ce") => `(tactic| (walk_at "cd"; walk_at "dl"; (try walk_at "cd"); (try walk_at "dl"); (try walk_at "cd")))
/-! ### the law: its steps -/
abbrev R15ren : RD := R_ren 40 40
abbrev lb1 : TSD := (setT 3 (callT R_names (consA (nameT 1) (consA (DL.binT addD (cT (.int 2)) (callT R_take (consA (nameT 1) (consA (cT (.int 4)) nilA)))) nilA))))
abbrev lb2 : TSD := (setT 4 (callT (R_code 3) (consA (nameT 1) (consA (nameT 3) (consA (cT (.int 2)) (consA (cT (.int 2)) nilA))))))
abbrev lb3 : TSD := (iffT (blT (DL.binT eqD (callT R_take (consA (nameT 1) (consA (cT (.int 2)) nilA))) (cT (.int 0)))) (setT 4 (tupT (consA (cT (.str "with")) (consA (callT R_some (consA (nameT 1) (consA (nameT 3) nilA))) (consA (callT (R_term 3) (consA (nameT 1) (consA (nameT 3) (consA (cT (.int 2)) (consA (cT (.int 1)) nilA))))) (consA (nameT 4) nilA)))))) nextT)
abbrev lb4 : TSD := (setT 5 (callT R_led (consA (nameT 1) (consA (nameT 4) (consA (nameT 3) nilA)))))
abbrev lb5 : TSD := (parT 6 7 (consA (callT reprW (consA (nameT 5) nilA)) (consA (callT R15ren (consA (nameT 4) (consA (nameT 5) nilA))) nilA)))
abbrev lb6 : TSD := (iffT (orB (blT (DL.binT neD (callT reprW (consA (nameT 5) nilA)) (nameT 6))) (blT (DL.binT neD (nameT 7) (callT R15ren (consA (nameT 4) (consA (callT dictR (consA (ofF (revF (ofF (itemsF (nameT 5))))) nilA)) nilA)))))) (retT (cT (.bl false))) nextT)
abbrev lb7 : TSD := (setT 8 (callT (R_any 31) (consA (nameT 1) (consA (nameT 3) (consA (DL.binT addD (cT (.int 1)) (callT R_take (consA (nameT 1) (consA (cT (.int 30)) nilA)))) nilA)))))
abbrev lb8 : TSD := (setT 9 (callT R_led (consA (nameT 1) (consA (nameT 8) (consA (nameT 3) nilA)))))
abbrev lb9 : TSD := (setT 10 (callT dictR (consA (ofF (lcF (.nm 16) (keysI (nameT 9)) yesT (tupT (consA (nameT 16) (consA (tupT (consA (cT (.str "name")) (consA (dixT (nameT 9) (nameT 16)) nilA))) nilA))) [16])) nilA)))
abbrev lb10 : TSD := (setT 11 (callT R15ren (consA (nameT 8) (consA (nameT 9) nilA))))
abbrev lb11 : TSD := (iffT (blT (DL.binT neD (callT (R_num 40) (consA (nameT 11) (consA (ofF (lstF nilA)) (consA emptyT nilA)))) (callT (R_num 40) (consA (nameT 8) (consA (ofF (lstF nilA)) (consA (nameT 10) nilA)))))) (retT (cT (.bl false))) nextT)
abbrev lb12 : TSD := (iffT (orB (notB (truT (callT (R_iscode 40) (consA (nameT 11) nilA)))) (notB (truT (callT (R_iscode 40) (consA (nameT 7) nilA))))) (retT (cT (.bl false))) nextT)
abbrev lb13 : TSD := (iffT (blT (DL.binT neD (callT (R_fnames 40) (consA (nameT 7) nilA)) (ofF (sortF (consA (ofF (lcF (.nm 16) (seqI (ofF (sortSetF (consA (callT (R_lfree 40) (consA (nameT 4) (consA (ofF (lstF nilA)) nilA))) nilA)))) yesT (dixT (nameT 5) (nameT 16)) [16])) nilA))))) (retT (cT (.bl false))) nextT)
abbrev lb14 : TSD := (setT 12 (callT dictR (consA (ofF (lcF (.nm 16) (keysI (nameT 5)) yesT (tupT (consA (dixT (nameT 5) (nameT 16)) (consA (nameT 16) nilA))) [16])) nilA)))
abbrev lb15 : TSD := (iffT (notB (truT (callT R_same (consA (callT R15ren (consA (nameT 7) (consA (nameT 12) nilA))) (consA (nameT 4) nilA))))) (retT (cT (.bl false))) nextT)
abbrev lb16 : TSD := (iffT (notB (truT (callT R_same (consA (callT R15ren (consA (nameT 4) (consA (callT dictR (consA (ofF (lcF (.nm 16) (keysI (nameT 5)) yesT (tupT (consA (nameT 16) (consA (nameT 16) nilA))) [16])) nilA)) nilA))) (consA (nameT 4) nilA))))) (retT (cT (.bl false))) nextT)
abbrev lc1 : TSD := (setT 14 (callT R_world (consA (nameT 1) (consA (DL.binT addD (cT (.int 1)) (callT R_take (consA (nameT 1) (consA (cT (.int 3)) nilA)))) (consA (ofF (sortValsF (nameT 5))) nilA)))))
abbrev lc2 : TSD := (setT 15 (ofF (lcF (.nm 17) (rng1I (consA (cT (.int 3)) nilA)) yesT (callT R_take (consA (nameT 1) (consA (DL.binT ixD (nameT 14) (cT (.int 0))) nilA))) [17])))
abbrev lc3 : TSD := (setT 9 (tupT (consA (DL.binT ixD (nameT 14) (cT (.int 0))) (consA (DL.binT ixD (nameT 14) (cT (.int 1))) (consA (callT dictR (consA (ofF (lcF (.nm 16) (keysI (nameT 5)) yesT (tupT (consA (nameT 16) (consA (dixT (DL.binT ixD (nameT 14) (cT (.int 2))) (dixT (nameT 5) (nameT 16))) nilA))) [16])) nilA)) nilA)))))
abbrev lc4 : TSD := (iffT (blT (DL.binT neD (callT (R_ans 40) (consA (nameT 7) (consA (nameT 14) (consA emptyT (consA (nameT 15) nilA))))) (callT (R_ans 40) (consA (nameT 4) (consA (nameT 9) (consA emptyT (consA (nameT 15) nilA))))))) (retT (cT (.bl false))) nextT)
abbrev lcB : TSD := (seqT lc1 (seqT lc2 (seqT lc3 lc4)))
abbrev lb17 : TSD := (forT (.nm 13) (rng1I (consA (cT (.int 3)) nilA)) lcB)
abbrev lbB : TSD := (seqT lb1 (seqT lb2 (seqT lb3 (seqT lb4 (seqT lb5 (seqT lb6 (seqT lb7 (seqT lb8 (seqT lb9 (seqT lb10 (seqT lb11 (seqT lb12 (seqT lb13 (seqT lb14 (seqT lb15 (seqT lb16 lb17))))))))))))))))
theorem law_eq : t_law R_take R_names (R_code 3) (R_term 3) R_some R_led R15ren (R_any 31) (R_num 40) (R_iscode 40) (R_fnames 40) (R_lfree 40) R_same R_world (R_ans 40) = (seqT (forT (.nm 2) (rng1I (consA (cT (.int 7)) nilA)) lbB) (retT (cT (.bl true)))) := rfl
abbrev ρL (s2 s3 s4 s5 s6 s7 s8 s9 s10 s11 s12 s13 s14 s15 s16 s17 : Sl) : List Sl := [.un, .dat .bag, s2, s3, s4, s5, s6, s7, s8, s9, s10, s11, s12, s13, s14, s15, s16, s17]
abbrev wsS (ws : List Str) : Sl := .dat (.lst (ws.map .str))
abbrev ldS (qs : List (Str × Str)) : Sl := .dat (.dic false (lD qs))
theorem some_w {ws : List Str} {κ : D → Prop} (hw : WsOk ws) (h : ∀ w : Str, wOk w = true → κ (.str w)) : R_some [.bag, .lst (ws.map .str)] κ :=
  some_words (by have := hw.2.2; omega) hw.2.1 fun w hw' => h w (hw.1 w hw')
/-! showing a dict of words -/
theorem lD_okP : ∀ qs : List (Str × Str), D.okP (lD qs) = true
  | [] => rfl
  | q :: qs => by simp only [List.map_cons, D.okP, D.okW, Bool.true_and]; exact lD_okP qs
theorem lD_showa : ∀ qs : List (Str × Str), PyData.showableKv (D.pwP (lD qs)) = true
  | [] => by simp [D.pwP, PyData.showableKv]
  | q :: qs => by simp [List.map_cons, D.pwP, PyData.showableKv, D.py, D.pw, PyData.showable, lD_showa qs]
theorem lD_deep : ∀ qs : List (Str × Str), PyData.depthKv (D.pwP (lD qs)) = 0
  | [] => by simp [D.pwP, PyData.depthKv]
  | q :: qs => by simp [List.map_cons, D.pwP, PyData.depthKv, D.py, D.pw, PyData.depth, lD_deep qs]
theorem str_short {x : Str} (h : wOk x = true) : (PyData.str x).leavesShort 8 = true :=
  PyData.leavesShort_of_canLay0 8 _ (by simp [PyData.canLay0, wOk_str h]) (by simp [PyData.intsShort])
theorem lD_leaves : ∀ qs : List (Str × Str), (∀ q ∈ qs, wOk q.1 = true ∧ wOk q.2 = true) → PyData.leavesShortKv 8 (D.pwP (lD qs)) = true
  | [], _ => by simp [D.pwP, PyData.leavesShortKv]
  | q :: qs, h => by
    have h1 := h q List.mem_cons_self
    simp [List.map_cons, D.pwP, PyData.leavesShortKv, D.py, D.pw, str_short h1.1, str_short h1.2, lD_leaves qs fun p hp => h p (List.mem_cons_of_mem _ hp)]
theorem lD_bulk : ∀ qs : List (Str × Str), (∀ q ∈ qs, wOk q.1 = true ∧ wOk q.2 = true) → PyData.bulkKv (D.pwP (lD qs)) ≤ 18 * qs.length
  | [], _ => by simp [D.pwP, PyData.bulkKv]
  | q :: qs, h => by
    have h1 := h q List.mem_cons_self
    have h2 := wok_size h1.1; have h3 := wok_size h1.2
    have h4 := lD_bulk qs fun p hp => h p (List.mem_cons_of_mem _ hp)
    show PyData.bulkKv (D.pwP ((.str q.1, .str q.2) :: lD qs)) ≤ _
    simp only [D.pwP, PyData.bulkKv, D.py, D.pw, PyData.bulk, List.length_cons]; omega
theorem repr_led {c : Code} {qs : List (Str × Str)} {κ : D → Prop} (hq : LedOk c qs) (h : κ (.str (D.dic false (lD qs)).pw.shown)) : reprW [.dic false (lD qs)] κ := by
  have hs : sizeLine = 16777216 := sizeLine_eq
  refine ⟨⟨by simp only [D.okW, lD_okP]; rfl, by simp only [D.pw, PyData.showable, lD_showa], by simp only [D.pw, PyData.depth, lD_deep]; omega, ?_⟩, h⟩
  have h1 := PyData.shown_le_bulk 8 (by omega) (D.dic false (lD qs)).pw (by simp only [D.pw, PyData.leavesShort]; exact lD_leaves qs hq.good)
  have h2 := lD_bulk qs hq.good
  have h3 := hq.few
  have e : (D.dic false (lD qs)).pw.bulk = PyData.bulkKv (D.pwP (lD qs)) := by simp only [D.pw, PyData.bulk]
  rw [e] at h1
  omega
/-! renaming by words -/
abbrev Got (c : Code) (qs : List (Str × Str)) (c' : Code) : Prop := PutOk 40 (nP qs) 0 1 c c'
theorem Got.ren {c c' : Code} {qs : List (Str × Str)} (h : Got c qs c') : Ren c qs c' := fun X A s => by rw [h.sem, putsE_nP]
theorem ren_of {c : Code} {qs : List (Str × Str)} {κ : D → Prop} (ho : c.ok) (hd : c.dp ≤ 40) (hz : c.size < 2 ^ 10) (hn : (qs.map (·.1)).Nodup) (hg : ∀ q ∈ qs, wOk q.1 = true ∧ wOk q.2 = true) (hl : qs.length ≤ 5) (h : ∀ c', Got c qs c' → κ c'.toD) : R15ren [c.toD, .dic false (lD qs)] κ := by
  refine ⟨c, qs, rfl, hn, by omega, c, nP qs, 0, 1, rfl, ho, hd, hd, hz, by rw [List.map_map]; exact hn, by rw [List.length_map]; omega, fun p hp => ?_, fun p hp => ?_, Nat.le_refl _, h⟩
  · obtain ⟨q, hq, rfl⟩ := List.mem_map.mp hp
    exact ⟨(hg q hq).1, by simp only [Code.ok]; exact (hg q hq).2, by simp only [Code.dp]; omega, by simp only [Code.size]; omega⟩
  · obtain ⟨q, hq, rfl⟩ := List.mem_map.mp hp
    exact ⟨by simp only [Code.dp]; omega, by simp only [Code.size]; omega⟩
theorem led_of {c : Code} {qs : List (Str × Str)} {κ : D → Prop} (hq : LedOk c qs) (ho : c.ok) (hd : c.dp ≤ 40) (hz : c.size < 2 ^ 10) (h : ∀ c', Got c qs c' → κ c'.toD) : R15ren [c.toD, .dic false (lD qs)] κ :=
  ren_of ho hd hz hq.keys hq.good hq.few h
theorem vals_of {qs : List (Str × Str)} {x : Str} (h : x ∈ qs.map (·.1)) : valD (lD qs) (.inr x) = some (.str (ld qs x)) := by
  rw [valD_lD]
  obtain ⟨w, hw⟩ := lkN_some h
  unfold ld
  rw [hw]; rfl
/-- a dict made out of the pairs of its items -/
theorem dictR_of {α : Type} {l : List α} {f : α → Str} {g : α → D} {κ : D → Prop} (hn : (l.map f).Nodup) (h : κ (.dic false (eD (l.map fun a => (f a, g a))))) : dictR [.lst (l.map fun a => D.tup [.str (f a), g a])] κ := by
  refine ⟨eD (l.map fun a => (f a, g a)), by rw [List.map_map, List.map_map]; rfl, fun e he => ?_, ?_⟩
  · obtain ⟨q, _, rfl⟩ := List.mem_map.mp he
    rfl
  · have := merge_eD (ps := []) (qs := l.map fun a => (f a, g a)) (by rw [List.nil_append, List.map_map]; exact hn)
    rw [List.nil_append] at this
    rw [show mergeD [] (eD (l.map fun a => (f a, g a))) = _ from this]
    exact h
theorem numE_tup {e : Str → D} (he : ∀ x, ∃ ds, e x = .tup ds) (c : Code) (bs : List Str) : ∃ ds, numE e c bs = .tup ds := by
  cases c <;> simp only [numE] <;> first | exact ⟨_, rfl⟩ | skip
  unfold placeE
  split
  · exact ⟨_, rfl⟩
  · exact he _
theorem eq_tup {v : D} {kb : Bool → Prop} (hv : ∃ ds, v = .tup ds) (l : v.py.canLay0 = true) (d : v.py.depth ≤ 150) (q : kb true) : eqB v v kb := by
  obtain ⟨ds, rfl⟩ := hv
  rw [eqB_tt]
  exact ⟨⟨l, l, by omega⟩, by rw [PySem.SeqAt.eqv_refl _ l]; exact q⟩
theorem num_of {a : Code} {qs : List (Str × D)} {e : Str → D} {κ : D → Prop} (he : ∀ x, (lkS qs x).getD (nmD x) = e x) (ho : a.ok) (hd : a.dp ≤ 40) (hz : a.size < 2 ^ 11) (h : κ (numE e a [])) : R_num 40 [a.toD, .lst [], .dic false (eD qs)] κ :=
  ⟨a, [], qs, e, rfl, he, ho, (fun _ z => nomatch z), hd, by omega, by simp; omega, h⟩
theorem good_fl {a : Code} (ho : a.ok) : Good (a.fl []) := fun w hw => ok_name ho ((fl_mem a []).mp hw).1
theorem eq_strs {L : List Str} (g : Good L) : eqOk (.lst (L.map .str)) (.lst (L.map .str)) ∧ PyData.eqv (D.lst (L.map .str)).py (D.lst (L.map .str)).py = true := by
  have l : (D.lst (L.map .str)).py.canLay0 = true := by simp [D.py, PyData.canLay0, lay_strs L g]
  have e := PySem.SeqAt.eqv_refl _ l
  refine ⟨⟨l, l, ?_⟩, e⟩
  have : ∀ L : List Str, PyData.depthAll (D.pys (L.map .str)) = 0 := by
    intro L
    induction L with
    | nil => simp [D.pys, PyData.depthAll]
    | cons a L ih => simp [D.pys, D.py, PyData.depthAll, PyData.depth, ih]
  simp [D.py, PyData.depth, this]
theorem ints_out {ds es : List D} (h : All2 (fun _ e => ∃ v : Int, e = .int v) ds es) : ∃ is : List Int, es = is.map .int ∧ is.length = ds.length := by
  induction h with
  | nil => exact ⟨[], rfl, rfl⟩
  | cons hr _ ih =>
    obtain ⟨v, rfl⟩ := hr
    obtain ⟨is, rfl, l⟩ := ih
    exact ⟨v :: is, rfl, by simp [l]⟩
end K15

set_option Elab.async false
set_option linter.all false
set_option maxRecDepth 100000
set_option maxHeartbeats 4000000
namespace K15
open PySem L2 DL
local macro_rules | `(tactic| walk_at "dl") => `(tactic| simp only [Tr.toD, toDs_d, map_snoc, map_ins, treeT, seqT, iffT, setT, retT, nextT, retN, blT, DL.binT, nameT, cT, bagT, cutBT, putBT, augBT, consA, nilA, callT, ofF, lstF, lstR, tupT, eqD, neD, inD, notInD, someO, noneO, slT, revF, endD, enterS, ifT, andT, orT, notT, andB, orB, notB, truT, newT, mT, thruT, thruB, frzT, putT, parT, tgtT, methT, onT, isStr, isLst, getT, starA, negT, dropT, breakT, contT, tgD, putA, seqI, rng1I, enumI, zipI, forT, lcF, wipeS,
  addD_ii, addD_ib, addD_ss, addD_ll, addD_tt, subD_ii, mulD_ii, mulD_li, fdivD_ii, modD_ii, cmpI_ii, eqB_ss, eqB_ii, eqB_bb, eqB_tt, eqB_ll, inB_l, inB_t, ixD_l, ixD_t, ixD_s, slD_l, slD_t, truD_b, truD_i, truD_n, truD_s, truD_l, truD_t, intR_i, intR_b, lenR_s, lenR_l, lenR_t, absR_i, minR_ii, maxR_ii, tupR_l, tupR_t, appD_1, insD_1, extD_1, splitM_1, optK_some, atI_0, atI_1, atI_2, atI_3, atI_4, cutL_1, cutL_2, cutL_t1, cutL_t2,
  List.map_cons, List.map_nil, List.replicate_succ, List.replicate_zero, List.cons_append, List.nil_append, List.length_cons, List.length_nil, List.set_cons_zero, List.set_cons_succ, List.getElem?_cons_zero, List.getElem?_cons_succ, List.drop_succ_cons, List.drop_zero, List.take_succ_cons, List.take_zero, true_and, and_true, true_or, or_true, decide_eq_true_eq, reduceCtorEq, if_true, if_false, ite_true, ite_false, D.int.injEq, Nat.reduceAdd, Nat.reduceSub, Int.reduceSub, Int.reduceAdd, Int.reduceNeg, Bool.false_eq_true, Bool.true_eq_false, decide_true, decide_false, Bool.not_true, Bool.not_false, Bool.not_eq_true', decide_eq_false_iff_not])
local macro_rules | `(tactic| walk_at "di") => `(tactic| simp only [isiT, chainT, e0D, ixO, parO, parS, disp1T, emptyT, getT2, lookD, keyD, keyT, keysD, valD, valQ, dixT, listKR, itemsF, keysI, valsI, itemsI, dputK, newR, emptyR, augI, whileT, dcT, lc2F, Tr.toEs, ib_int_NoneType, ib_int_bool, ib_int_int, ib_int_tuple, ib_bool_int, ib_bool_bool, ib_tuple_tuple, Bool.or_true, Bool.or_false, Bool.true_or, Bool.false_or])
local macro_rules | `(tactic| walk_at "dx") => `(tactic| ((try walk_at "dl"); (try walk_at "di"); (try walk_at "dl"); (try walk_at "di"); (try walk_at "dl")))
local macro_rules | `(tactic| walk_at "cd") => `(tactic| simp only [Code.toD, Code.toDs, Code.kids, List.any_cons, List.any_nil, D.py, PyData.eqv, beq_iff_eq, Bool.or_false, Bool.or_eq_true, Bool.or_eq_false_iff, or_false, false_or, q_name_given, q_name_if, q_name_with, q_name_work, q_name_call, q_name_bound, q_given_name, q_given_if, q_given_with, q_given_work, q_given_call, q_given_bound, q_if_name, q_if_given, q_if_with, q_if_work, q_if_call, q_if_bound, q_with_name, q_with_given, q_with_if, q_with_work, q_with_call, q_with_bound, q_work_name, q_work_given, q_work_if, q_work_with, q_work_call, q_work_bound, q_call_name, q_call_given, q_call_if, q_call_with, q_call_work, q_call_bound, q_bound_name, q_bound_given, q_bound_if, q_bound_with, q_bound_work, q_bound_call, in_name, in_given, in_if, in_with, in_work, in_call])
local macro_rules | `(tactic| walk_at "ce") => `(tactic| (walk_at "cd"; walk_at "dl"; (try walk_at "cd"); (try walk_at "dl"); (try walk_at "cd")))
section
variable {K : DE} {ws : List Str} {c d c' d' : Code} {qs qs2 : List (Str × Str)} {s2 s3 s4 s5 s6 s7 s8 s9 s10 s11 s12 s13 s14 s15 s16 s17 : Sl}
theorem lb1_ok (h : ∀ ws, WsOk ws → ws.length ≤ 5 → K.nx (ρL s2 (wsS ws) s4 s5 s6 s7 s8 s9 s10 s11 s12 s13 s14 s15 s16 s17)) : lb1 K (ρL s2 s3 s4 s5 s6 s7 s8 s9 s10 s11 s12 s13 s14 s15 s16 s17) := by
  unfold lb1 ρL
  walk_at "dl"
  refine ⟨4, rfl, by omega, by omega, fun i i0 i3 => ?_⟩
  walk_at "dl"
  obtain ⟨n, rfl⟩ : ∃ n : Nat, i = n := ⟨i.toNat, by omega⟩
  exact ⟨2 + n, by rw [Int.natCast_add]; rfl, by omega, by omega, fun ws g n l => h ws ⟨g, n, by omega⟩ (by omega)⟩
theorem lb2_ok (hw : WsOk ws) (h : ∀ c : Code, c.okp ws 2 → c.wt ≤ 15 → c.size ≤ 71 → K.nx (ρL s2 (wsS ws) (.dat c.toD) s5 s6 s7 s8 s9 s10 s11 s12 s13 s14 s15 s16 s17)) : lb2 K (ρL s2 (wsS ws) s4 s5 s6 s7 s8 s9 s10 s11 s12 s13 s14 s15 s16 s17) := by
  unfold lb2 ρL
  walk_at "dl"
  exact ⟨ws, 2, 2, rfl, hw, by omega, by omega, by omega, by omega, fun c c1 c2 c3 => h c c1 c2 c3⟩
theorem lb3_ok (hw : WsOk ws) (h1 : c.okp ws 2) (h2 : c.wt ≤ 15) (h3 : c.size ≤ 71) (h : ∀ c : Code, c.okp ws 2 → c.wt ≤ 18 → c.size ≤ 76 → K.nx (ρL s2 (wsS ws) (.dat c.toD) s5 s6 s7 s8 s9 s10 s11 s12 s13 s14 s15 s16 s17)) : lb3 K (ρL s2 (wsS ws) (.dat c.toD) s5 s6 s7 s8 s9 s10 s11 s12 s13 s14 s15 s16 s17) := by
  have hs : sizeLine = 16777216 := sizeLine_eq
  have z1 : tz 1 = 4 := rfl
  unfold lb3 ρL
  walk_at "dl"
  refine ⟨2, rfl, by omega, by omega, fun i i0 i3 => ?_⟩
  walk_at "dl"
  split
  · refine some_w hw fun w hw' => ⟨ws, 2, 1, rfl, hw, by omega, by omega, by omega, fun a a1 a2 a3 => ⟨by omega, ?_⟩⟩
    exact h (.wth w a c) (by simp only [Code.okp]; exact ⟨hw', a1, h1⟩) (by simp only [Code.wt]; omega) (by simp only [Code.size]; omega)
  · exact h c h1 (by omega) (by omega)
theorem lb4_ok (hw : WsOk ws) (hl : ws.length ≤ 5) (ho : c.ok) (hd : c.dp ≤ 40) (hz : c.size < 2 ^ 10) (hf : ∀ x, c.fr x → x ∈ ws) (h : ∀ qs, LedOk c qs → K.nx (ρL s2 (wsS ws) (.dat c.toD) (ldS qs) s6 s7 s8 s9 s10 s11 s12 s13 s14 s15 s16 s17)) : lb4 K (ρL s2 (wsS ws) (.dat c.toD) s5 s6 s7 s8 s9 s10 s11 s12 s13 s14 s15 s16 s17) := by
  unfold lb4 ρL
  walk_at "dl"
  exact ⟨c, ws, rfl, hw.1, hl, ho, hd, hz, hf, h⟩
theorem lb5_ok (hq : LedOk c qs) (ho : c.ok) (hd : c.dp ≤ 40) (hz : c.size < 2 ^ 10) (h : ∀ c', Got c qs c' → K.nx (ρL s2 s3 (.dat c.toD) (ldS qs) (.dat (.str (D.dic false (lD qs)).pw.shown)) (.dat c'.toD) s8 s9 s10 s11 s12 s13 s14 s15 s16 s17)) : lb5 K (ρL s2 s3 (.dat c.toD) (ldS qs) s6 s7 s8 s9 s10 s11 s12 s13 s14 s15 s16 s17) := by
  unfold lb5 ρL
  walk_at "dl"
  exact repr_led hq (led_of hq ho hd hz h)
theorem lb6_ok (hq : LedOk c qs) (ho : c.ok) (hd : c.dp ≤ 40) (hz : c.size < 2 ^ 10) (hc : Got c qs c') (h : K.nx (ρL s2 s3 (.dat c.toD) (ldS qs) (.dat (.str (D.dic false (lD qs)).pw.shown)) (.dat c'.toD) s8 s9 s10 s11 s12 s13 s14 s15 s16 s17)) : lb6 K (ρL s2 s3 (.dat c.toD) (ldS qs) (.dat (.str (D.dic false (lD qs)).pw.shown)) (.dat c'.toD) s8 s9 s10 s11 s12 s13 s14 s15 s16 s17) := by
  have hdp := hc.dp
  unfold lb6 ρL
  walk_at "dl"
  refine repr_led hq ?_
  walk_at "dl"
  refine ⟨lD qs, rfl, ?_⟩
  dsimp only
  rw [← List.map_reverse, ← List.map_reverse]
  rw [List.map_map]
  refine dictR_of (l := qs.reverse) (f := fun q => q.1) (g := fun q => D.str q.2) (by rw [List.map_reverse]; exact (List.reverse_perm _).symm.nodup hq.keys) ?_
  rw [← lD_eD]
  refine ren_of ho hd hz (by rw [List.map_reverse]; exact (List.reverse_perm _).symm.nodup hq.keys) (fun q h => hq.good q (List.mem_reverse.mp h)) (by rw [List.length_reverse]; exact hq.few) fun c2 h2 => ?_
  obtain rfl : c2 = c' := by rw [h2.eq, hc.eq, ld_rev hq.keys]
  refine eq_code hc.ok (by omega) ?_
  walk_at "dl"
  exact h
theorem lb7_ok (hw : WsOk ws) (h : ∀ d : Code, d.ok → d.okw ws → d.size ≤ 30 → K.nx (ρL s2 (wsS ws) s4 s5 s6 s7 (.dat d.toD) s9 s10 s11 s12 s13 s14 s15 s16 s17)) : lb7 K (ρL s2 (wsS ws) s4 s5 s6 s7 s8 s9 s10 s11 s12 s13 s14 s15 s16 s17) := by
  unfold lb7 ρL
  walk_at "dl"
  refine ⟨30, rfl, by omega, by omega, fun i i0 i1 => ?_⟩
  walk_at "dl"
  exact ⟨ws, 1 + i, rfl, hw.1, hw.2.1, hw.2.2, by omega, by omega, by omega, fun c c1 c2 => h c (okw_ok c c1) c1 (by omega)⟩
theorem lb8_ok (hw : WsOk ws) (hl : ws.length ≤ 5) (ho : d.ok) (hf : d.okw ws) (hz : d.size ≤ 30) (h : ∀ qs, LedOk d qs → K.nx (ρL s2 (wsS ws) s4 s5 s6 s7 (.dat d.toD) (ldS qs) s10 s11 s12 s13 s14 s15 s16 s17)) : lb8 K (ρL s2 (wsS ws) s4 s5 s6 s7 (.dat d.toD) s9 s10 s11 s12 s13 s14 s15 s16 s17) := by
  have h1 := dp_wt d; have h2 := wt_size d
  unfold lb8 ρL
  walk_at "dl"
  exact ⟨d, ws, rfl, hw.1, hl, ho, by omega, by omega, fun x => okw_fr d hf, h⟩
abbrev paD (qs : List (Str × Str)) : List (Str × D) := qs.map fun q => (q.1, nmD q.2)
theorem keys_mem {q : Str × Str} (h : q ∈ qs) : q.1 ∈ qs.map (·.1) := List.mem_map.mpr ⟨q, h, rfl⟩
theorem ld_mem {q : Str × Str} (hn : (qs.map (·.1)).Nodup) (h : q ∈ qs) : ld qs q.1 = q.2 := by
  unfold ld
  rw [lkN_of hn (show (q.1, q.2) ∈ qs from h)]; rfl
/-- a dict's value at a key -/
theorem dix_led {i : Nat} {ρ : List Sl} {x : Str} {κ : D → Prop} {t : TD} (ht : ∀ κ' : D → Prop, κ' (.str x) → t ρ κ') (hi : ρ[i]? = some (ldS qs)) (hx : x ∈ qs.map (·.1)) (h : κ (.str (ld qs x))) : dixT (nameT i) t ρ κ := by
  unfold dixT nameT
  rw [hi]
  exact ⟨lD qs, rfl, ht _ ⟨.inr x, rfl, .str (ld qs x), vals_of hx, h⟩⟩
theorem nm_at {i : Nat} {ρ : List Sl} {d : D} {κ : D → Prop} (hi : ρ[i]? = some (.dat d)) (h : κ d) : nameT i ρ κ := by
  unfold nameT
  rw [hi]; exact h
theorem lb9_ok (hq : LedOk d qs) (h : K.nx (ρL s2 s3 s4 s5 s6 s7 s8 (ldS qs) (.dat (.dic false (eD (paD qs)))) s11 s12 s13 s14 s15 s16 s17)) : lb9 K (ρL s2 s3 s4 s5 s6 s7 s8 (ldS qs) s10 s11 s12 s13 s14 s15 s16 s17) := by
  have hs : sizeLine = 16777216 := sizeLine_eq
  unfold lb9 ρL
  walk_at "dl"
  refine ⟨lD qs, rfl, ?_⟩
  have := hq.few
  refine ⟨by rw [List.length_map, List.length_map]; omega, ?_⟩
  rw [List.map_map]
  refine comp_fnD (g := fun q : Str × Str => D.str q.1) (f := fun q => D.tup [.str q.1, nmD q.2]) (fun q hq' κ' hk => ?_) ?_
  · simp only [tupT, consA, nilA, cT]
    refine nm_at rfl (dix_led (qs := qs) (x := q.1) (fun κ2 h2 => nm_at rfl h2) rfl (keys_mem hq') ⟨by simp; omega, by simp; omega, ?_⟩)
    rw [ld_mem hq.keys hq']
    exact hk
  · rw [List.nil_append]
    exact dictR_of (f := fun q : Str × Str => q.1) (g := fun q => nmD q.2) hq.keys h
theorem lb10_ok (hq : LedOk d qs) (ho : d.ok) (hz : d.size ≤ 30) (h : ∀ d', Got d qs d' → K.nx (ρL s2 s3 s4 s5 s6 s7 (.dat d.toD) (ldS qs) s10 (.dat d'.toD) s12 s13 s14 s15 s16 s17)) : lb10 K (ρL s2 s3 s4 s5 s6 s7 (.dat d.toD) (ldS qs) s10 s11 s12 s13 s14 s15 s16 s17) := by
  have h1 := dp_wt d; have h2 := wt_size d
  unfold lb10 ρL
  walk_at "dl"
  exact led_of hq ho (by omega) (by omega) h
theorem lkS_paD (x : Str) : ∀ qs : List (Str × Str), (lkS (paD qs) x).getD (nmD x) = nmD (ld qs x)
  | [] => rfl
  | q :: qs => by
    have ih := lkS_paD x qs
    unfold ld at ih ⊢
    show (lkS ((q.1, nmD q.2) :: paD qs) x).getD _ = nmD ((lkN ((q.1, q.2) :: qs) x).getD x)
    rw [lkS_cons, lkN_cons]
    by_cases e : q.1 = x
    · rw [if_pos e, if_pos e]; rfl
    · rw [if_neg e, if_neg e]; exact ih
theorem lb11_ok (ho : d.ok) (hz : d.size ≤ 30) (hd : Got d qs d') (h : K.nx (ρL s2 s3 s4 s5 s6 s7 (.dat d.toD) s9 (.dat (.dic false (eD (paD qs)))) (.dat d'.toD) s12 s13 s14 s15 s16 s17)) : lb11 K (ρL s2 s3 s4 s5 s6 s7 (.dat d.toD) s9 (.dat (.dic false (eD (paD qs)))) (.dat d'.toD) s12 s13 s14 s15 s16 s17) := by
  have hs : sizeLine = 16777216 := sizeLine_eq
  have h1 := dp_wt d; have h2 := wt_size d; have h3 := hd.dp; have h4 := hd.size
  unfold lb11 ρL
  walk_at "dx"
  refine ⟨by omega, .inr (num_of (qs := []) (e := nmD) (fun _ => rfl) hd.ok (by omega) (by omega) ⟨by omega, num_of (qs := paD qs) (e := fun x => nmD (ld qs x)) (fun x => lkS_paD x qs) ho (by omega) (by omega) ?_⟩)⟩
  rw [ren_num hd.ren nmD]
  refine eq_tup (numE_tup (fun x => ⟨_, rfl⟩) d []) ?_ ?_ ?_
  · rw [← ren_num hd.ren nmD]
    exact numE_lay (fun x h => nmD_lay h) d' [] hd.ok
  · have := numE_deep (e := fun x => nmD (ld qs x)) (fun x => nmD_deep _) d []
    omega
  · exact h
theorem lb12_ok (oc : c'.ok) (dc : c'.dp ≤ 40) (zc : c'.size < 2 ^ 16) (od : d'.ok) (dd : d'.dp ≤ 40) (zd : d'.size < 2 ^ 16) (h : K.nx (ρL s2 s3 s4 s5 s6 (.dat c'.toD) s8 s9 s10 (.dat d'.toD) s12 s13 s14 s15 s16 s17)) : lb12 K (ρL s2 s3 s4 s5 s6 (.dat c'.toD) s8 s9 s10 (.dat d'.toD) s12 s13 s14 s15 s16 s17) := by
  unfold lb12 ρL
  walk_at "dl"
  refine ⟨d', rfl, od, by omega, zd, ?_⟩
  walk_at "dl"
  refine ⟨c', rfl, oc, by omega, zc, ?_⟩
  walk_at "dl"
  exact h
theorem ld_inj {x y : Str} (hq : LedOk c qs) (hx : x ∈ qs.map (·.1)) (hy : y ∈ qs.map (·.1)) (e : ld qs x = ld qs y) : x = y := by
  rw [← ld_back hq.vals hx, ← ld_back hq.vals hy, e]
theorem lb13_ok (hq : LedOk c qs) (ho : c.ok) (hd : c.dp ≤ 40) (hz : c.size < 2 ^ 10) (hc : Got c qs c') (h : K.nx (ρL s2 s3 (.dat c.toD) (ldS qs) s6 (.dat c'.toD) s8 s9 s10 s11 s12 s13 s14 s15 s16 s17)) : lb13 K (ρL s2 s3 (.dat c.toD) (ldS qs) s6 (.dat c'.toD) s8 s9 s10 s11 s12 s13 s14 s15 s16 s17) := by
  have hs : sizeLine = 16777216 := sizeLine_eq
  have h3 := hc.dp; have h4 := hc.size
  have l1 := fl_len c []
  unfold lb13 ρL
  walk_at "dl"
  refine ⟨c', rfl, hc.ok, by omega, by omega, fun xs hx hnx => ?_⟩
  simp only [sortF, sortSetF]
  walk_at "dl"
  simp only [sortSetF]
  walk_at "dl"
  refine ⟨by omega, lf_of ho hd (by omega) ⟨c.fl [], rfl, by omega, ?_⟩⟩
  have sl : (DMS.srt (DMS.dd (c.fl []))).length ≤ (c.fl []).length := by
    rw [(DMS.srt_perm _).length_eq]
    exact pigeon (DMS.dd_nd _) fun y hy => DMS.dd_mem.mp hy
  refine ⟨by rw [List.length_map]; omega, ?_⟩
  have mm : ∀ x, x ∈ DMS.srt (DMS.dd (c.fl [])) ↔ c.fr x := fun x => by
    rw [(DMS.srt_perm _).mem_iff, DMS.dd_mem, fl_mem]
    exact ⟨fun z => z.1, fun z => ⟨z, List.not_mem_nil⟩⟩
  refine comp_fnD (l := DMS.srt (DMS.dd (c.fl []))) (f := fun x => D.str (ld qs x)) (fun x hx' κ' hk => ?_) ?_
  · exact dix_led (qs := qs) (x := x) (fun κ2 h2 => nm_at rfl h2) rfl (hq.all x ((mm x).mp hx')) hk
  · refine ⟨(DMS.srt (DMS.dd (c.fl []))).map (ld qs), by rw [List.nil_append, List.map_map]; rfl, ?_⟩
    have nd : (DMS.srt (DMS.dd (c.fl []))).Nodup := (DMS.srt_perm _).symm.nodup (DMS.dd_nd _)
    have nd2 : ((DMS.srt (DMS.dd (c.fl []))).map (ld qs)).Nodup := by
      rw [List.nodup_iff_pairwise_ne, List.pairwise_map]
      refine (List.nodup_iff_pairwise_ne.mp nd).imp_of_mem fun {x y} hx hy ne e => ne ?_
      exact ld_inj hq (hq.all x ((mm x).mp hx)) (hq.all y ((mm y).mp hy)) e
    have pm : xs.Perm ((DMS.srt (DMS.dd (c.fl []))).map (ld qs)) := DMS.nd_perm hnx nd2 fun y => by
      rw [hx, ren_fr hc.ren, List.mem_map]
      constructor
      · rintro ⟨x, a, b⟩; exact ⟨x, (mm x).mpr a, b.symm⟩
      · rintro ⟨x, a, b⟩; exact ⟨x, (mm x).mp a, b.symm⟩
    rw [DMS.srt_of_perm pm]
    obtain ⟨e1, e2⟩ := eq_strs (L := DMS.srt ((DMS.srt (DMS.dd (c.fl []))).map (ld qs))) fun w hw => by
      rw [← DMS.srt_of_perm pm] at hw
      exact ok_name hc.ok ((hx w).mp ((DMS.srt_perm _).mem_iff.mp hw))
    refine ⟨e1, ?_⟩
    rw [e2]
    exact h
theorem lb14_ok (hq : LedOk c qs) (h : K.nx (ρL s2 s3 s4 (ldS qs) s6 s7 s8 s9 s10 s11 (ldS (swq qs)) s13 s14 s15 s16 s17)) : lb14 K (ρL s2 s3 s4 (ldS qs) s6 s7 s8 s9 s10 s11 s12 s13 s14 s15 s16 s17) := by
  have hs : sizeLine = 16777216 := sizeLine_eq
  unfold lb14 ρL
  walk_at "dl"
  refine ⟨lD qs, rfl, ?_⟩
  have := hq.few
  refine ⟨by rw [List.length_map, List.length_map]; omega, ?_⟩
  rw [List.map_map]
  refine comp_fnD (g := fun q : Str × Str => D.str q.1) (f := fun q => D.tup [.str q.2, .str q.1]) (fun q hq' κ' hk => ?_) ?_
  · simp only [tupT, consA, nilA, cT]
    refine dix_led (qs := qs) (x := q.1) (fun κ2 h2 => nm_at rfl h2) rfl (keys_mem hq') (nm_at rfl ⟨by simp; omega, ?_⟩)
    rw [ld_mem hq.keys hq']
    exact hk
  · rw [List.nil_append]
    refine dictR_of (f := fun q : Str × Str => q.2) (g := fun q => D.str q.1) hq.vals ?_
    have e : eD (qs.map fun q => (q.2, D.str q.1)) = lD (swq qs) := by rw [lD_eD, List.map_map]; rfl
    rw [e]
    exact h
theorem same_of {a b : Code} {κ : D → Prop} (ha : a.size ≤ 100) (hb : b.size ≤ 100) (hbo : b.ok) (e : numE nmD a [] = numE nmD b []) (h : κ (.bl true)) : R_same [a.toD, b.toD] κ :=
  ⟨a, b, rfl, ha, hb, by rw [alike_num e (numE_lay (fun x h => nmD_lay h) b [] hbo)]; exact h⟩
theorem lb15_ok (hq : LedOk c qs) (ho : c.ok) (hd : c.dp ≤ 40) (hz : c.size ≤ 76) (hc : Got c qs c') (h : K.nx (ρL s2 s3 (.dat c.toD) (ldS qs) s6 (.dat c'.toD) s8 s9 s10 s11 (ldS (swq qs)) s13 s14 s15 s16 s17)) : lb15 K (ρL s2 s3 (.dat c.toD) (ldS qs) s6 (.dat c'.toD) s8 s9 s10 s11 (ldS (swq qs)) s13 s14 s15 s16 s17) := by
  have h3 := hc.dp; have h4 := hc.size
  unfold lb15 ρL
  walk_at "dl"
  refine ren_of (qs := swq qs) hc.ok (by omega) (by omega) (by rw [List.map_map]; exact hq.vals) (fun q h => ?_) (by rw [List.length_map]; exact hq.few) fun c2 h2 => ?_
  · obtain ⟨p, hp, rfl⟩ := List.mem_map.mp h
    exact ⟨(hq.good p hp).2, (hq.good p hp).1⟩
  · have h5 := h2.size
    refine same_of (by omega) (by omega) ho ?_ ?_
    · rw [ren_num h2.ren, ren_num hc.ren]
      exact numE_congr fun x hx => by rw [ld_back hq.vals (hq.all x hx)]
    · walk_at "dl"
      exact h
theorem lb16_ok (hq : LedOk c qs) (ho : c.ok) (hd : c.dp ≤ 40) (hz : c.size ≤ 76) (h : K.nx (ρL s2 s3 (.dat c.toD) (ldS qs) s6 s7 s8 s9 s10 s11 s12 s13 s14 s15 s16 s17)) : lb16 K (ρL s2 s3 (.dat c.toD) (ldS qs) s6 s7 s8 s9 s10 s11 s12 s13 s14 s15 s16 s17) := by
  have hs : sizeLine = 16777216 := sizeLine_eq
  have hf := hq.few
  unfold lb16 ρL
  walk_at "dl"
  refine ⟨lD qs, rfl, ?_⟩
  refine ⟨by rw [List.length_map, List.length_map]; omega, ?_⟩
  rw [List.map_map]
  refine comp_fnD (g := fun q : Str × Str => D.str q.1) (f := fun q => D.tup [.str q.1, .str q.1]) (fun q hq' κ' hk => ?_) ?_
  · simp only [tupT, consA, nilA, cT]
    exact nm_at rfl (nm_at rfl ⟨by simp; omega, hk⟩)
  · rw [List.nil_append]
    refine dictR_of (f := fun q : Str × Str => q.1) (g := fun q => D.str q.1) hq.keys ?_
    have e : eD (qs.map fun q => (q.1, D.str q.1)) = lD (idq qs) := by rw [lD_eD, List.map_map]; rfl
    rw [e]
    refine ren_of (qs := idq qs) ho hd (by omega) (by rw [List.map_map]; exact hq.keys) (fun q h => ?_) (by rw [List.length_map]; exact hq.few) fun c2 h2 => ?_
    · obtain ⟨p, hp, rfl⟩ := List.mem_map.mp h
      exact ⟨(hq.good p hp).1, (hq.good p hp).1⟩
    · have h5 := h2.size
      refine same_of (by omega) (by omega) ho ?_ ?_
      · rw [ren_num h2.ren]
        exact numE_congr fun x hx => by rw [ld_id]
      · walk_at "dl"
        exact h
abbrev iD (qs : List (Str × Str)) (r : Str → Int) : List (Str × D) := qs.map fun q => (q.1, .int (r q.2))
theorem lkS_iD {r : Str → Int} {x : Str} : ∀ {qs : List (Str × Str)}, x ∈ qs.map (·.1) → lkS (iD qs r) x = some (.int (r (ld qs x)))
  | [], h => nomatch h
  | q :: qs, h => by
    have ih := @lkS_iD r x qs
    unfold ld at ih ⊢
    show lkS ((q.1, D.int (r q.2)) :: iD qs r) x = some (D.int (r ((lkN ((q.1, q.2) :: qs) x).getD x)))
    rw [lkS_cons, lkN_cons]
    by_cases e : q.1 = x
    · rw [if_pos e, if_pos e]; rfl
    · rw [if_neg e, if_neg e]
      exact ih ((List.mem_cons.mp h).resolve_left fun z => e z.symm)
theorem lcB_ok (hq : LedOk c qs) (ho : c.ok) (hd : c.dp ≤ 40) (hz : c.size ≤ 76) (hn : c.nc 3) (hc : Got c qs c') (h : ∀ s9 s14 s15 s16 s17, K.nx (ρL s2 s3 (.dat c.toD) (ldS qs) s6 (.dat c'.toD) s8 s9 s10 s11 s12 s13 s14 s15 s16 s17)) : lcB K (ρL s2 s3 (.dat c.toD) (ldS qs) s6 (.dat c'.toD) s8 s9 s10 s11 s12 s13 s14 s15 s16 s17) := by
  have hs : sizeLine = 16777216 := sizeLine_eq
  have hf := hq.few
  have h3 := hc.dp; have h4 := hc.size
  unfold lcB ρL
  generalize hT : seqT lc3 lc4 = T
  unfold lc1 lc2
  walk_at "dl"
  simp only [sortValsF]
  walk_at "dl"
  refine ⟨3, rfl, by omega, by omega, fun i i0 i3 => ?_⟩
  walk_at "dl"
  refine ⟨lD qs, qs.map (·.2), rfl, by rw [List.map_map, List.map_map]; rfl, ?_⟩
  refine ⟨1 + i, _, rfl, by omega, by omega, fun w hw => ?_, ?_, fun tabs ns ht hi hnd hk => ?_⟩
  · obtain ⟨q, a, rfl⟩ := List.mem_map.mp ((DMS.srt_perm _).mem_iff.mp hw)
    exact (hq.good q a).2
  · rw [(DMS.srt_perm _).length_eq, List.length_map]; omega
  · refine ⟨by omega, by simp; omega, ?_⟩
    refine compT_ind (R := fun _ e => ∃ v : Int, e = .int v) (fun d hd κ' q => ?_) fun es he => ?_
    · walk_at "dl"
      exact ⟨1 + i, rfl, by omega, by omega, fun v _ _ => q _ ⟨v, rfl⟩⟩
    · obtain ⟨is, rfl, hl⟩ := ints_out he
      have hl : is.length = 3 := by rw [hl]; simp
      rw [List.nil_append]
      obtain ⟨r, hr⟩ := Classical.skolem.mp (lkS_int hi)
      have n3 : ∀ a : Code, a.nc 3 → a.nc (is.length : Nat) := fun a h => by rw [hl]; exact h
      subst hT
      unfold lc3
      generalize hT : lc4 = T
      walk_at "dl"
      refine ⟨lD qs, rfl, ?_⟩
      refine ⟨by rw [List.length_map, List.length_map]; omega, ?_⟩
      rw [List.map_map]
      refine comp_fnD (g := fun q : Str × Str => D.str q.1) (f := fun q => D.tup [.str q.1, .int (r q.2)]) (fun q hq' κ' hk' => ?_) ?_
      · simp only [tupT, consA, nilA, cT]
        refine nm_at rfl ?_
        have hm : q.2 ∈ ns.map (·.1) := (hk _).mpr ((DMS.srt_perm _).mem_iff.mpr (List.mem_map.mpr ⟨q, hq', rfl⟩))
        have hv : valD (eD ns) (.inr q.2) = some (.int (r q.2)) := by
          rw [valD_eD]
          have := hr q.2
          cases z : lkS ns q.2 with
          | none => exact absurd hm (lkS_none.mp z)
          | some v => rw [z] at this; exact congrArg some this
        show dixT (DL.binT ixD (nameT 14) (cT (.int 2))) (dixT (nameT 5) (nameT 16)) _ _
        unfold dixT
        simp only [DL.binT]
        refine nm_at rfl ⟨.dic false (eD ns), atI_2, eD ns, rfl, ?_⟩
        refine dix_led (qs := qs) (x := q.1) (fun κ2 h2 => nm_at rfl h2) rfl (keys_mem hq') ?_
        rw [ld_mem hq.keys hq']
        exact ⟨.inr q.2, rfl, .int (r q.2), hv, by simp; omega, hk'⟩
      · rw [List.nil_append]
        refine dictR_of (f := fun q : Str × Str => q.1) (g := fun q => D.int (r q.2)) hq.keys ⟨by omega, ?_⟩
        subst hT
        unfold lc4
        walk_at "dl"
        simp only [emptyT]
        (try walk_at "dl")
        refine .inr ⟨c', 1 + i, tabs, ns, [], is, r, rfl, by omega, by omega, n3 _ (ren_nc hc.ren hn), ht, by simp; omega, by simp, hr, ?_⟩
        refine .inr ⟨c, 1 + i, tabs, iD qs r, [], is, fun y => if y ∈ qs.map (·.1) then r (ld qs y) else 0, rfl, by omega, by omega, n3 _ hn, ht, by simp; omega, by simp, fun y => ?_, ?_⟩
        · show (lkS (iD qs r) y).getD (.int 0) = D.int (if y ∈ qs.map (·.1) then r (ld qs y) else 0)
          by_cases e : y ∈ qs.map (·.1)
          · rw [lkS_iD e, if_pos e]; rfl
          · rw [if_neg e]
            have : lkS (iD qs r) y = none := lkS_none.mpr (by rw [List.map_map]; exact e)
            rw [this]; rfl
        · rw [ren_ans hc.ren]
          have e : c.ans (tv tabs) (fun i => is.getD i.toNat 0) (fun y => if y ∈ qs.map (·.1) then r (ld qs y) else 0) = c.ans (tv tabs) (fun i => is.getD i.toNat 0) fun y => r (ld qs y) := by
            rw [ans_sem, ans_sem]
            exact sem_congr _ c _ _ fun x hx => by rw [if_pos (hq.all x hx)]
          rw [e]
          show if decide (_ = _) = false then _ else _
          rw [decide_eq_true rfl, if_neg (fun z => Bool.noConfusion z)]
          exact h _ _ _ _ _
end
theorem p_law : t_law R_take R_names (R_code 3) (R_term 3) R_some R_led R15ren (R_any 31) (R_num 40) (R_iscode 40) (R_fnames 40) (R_lfree 40) R_same R_world (R_ans 40) endLaw (.un :: .dat .bag :: List.replicate 16 .un) := by
  have hs : sizeLine = 16777216 := sizeLine_eq
  rw [law_eq]
  generalize hS : lbB = st
  walk_at "dl"
  refine ⟨by omega, ?_⟩
  refine loopT_ind (I := fun rest ρ => ∃ s2 s3 s4 s5 s6 s7 s8 s9 s10 s11 s12 s13 s14 s15 s16 s17 : Sl, ρ = ρL s2 s3 s4 s5 s6 s7 s8 s9 s10 s11 s12 s13 s14 s15 s16 s17) ?_ ?_ ⟨_, _, _, _, _, _, _, _, _, _, _, _, _, _, _, _, rfl⟩
  · rintro ρ ⟨s2, s3, s4, s5, s6, s7, s8, s9, s10, s11, s12, s13, s14, s15, s16, s17, rfl⟩
    rfl
  · rintro x rest ρ N hN ⟨s2, s3, s4, s5, s6, s7, s8, s9, s10, s11, s12, s13, s14, s15, s16, s17, rfl⟩
    subst hS
    simp only [tgD, List.set_cons_succ, List.set_cons_zero]
    unfold lbB
    refine lb1_ok fun ws hw hwl => ?_
    refine lb2_ok hw fun c c1 c2 c3 => ?_
    refine lb3_ok hw c1 c2 c3 fun c c1 c2 c3 => ?_
    have oc := okp_ok (by decide) c c1
    have cd := dp_wt c
    have cn := okp_nc (H := 3) (by decide) c c1
    refine lb4_ok hw hwl oc (by omega) (by omega) (fun x => okp_fr c c1) fun qs hq => ?_
    refine lb5_ok hq oc (by omega) (by omega) fun c' hc => ?_
    have cd' := hc.dp; have cz' := hc.size
    refine lb6_ok hq oc (by omega) (by omega) hc ?_
    refine lb7_ok hw fun d d1 d2 d3 => ?_
    refine lb8_ok hw hwl d1 d2 d3 fun qs2 hq2 => ?_
    refine lb9_ok hq2 ?_
    refine lb10_ok hq2 d1 d3 fun d' hd => ?_
    have h1 := dp_wt d; have h2 := wt_size d; have dd' := hd.dp; have dz' := hd.size
    refine lb11_ok d1 d3 hd ?_
    refine lb12_ok hc.ok (by omega) (by omega) hd.ok (by omega) (by omega) ?_
    refine lb13_ok hq oc (by omega) (by omega) hc ?_
    refine lb14_ok hq ?_
    refine lb15_ok hq oc (by omega) c3 hc ?_
    refine lb16_ok hq oc (by omega) c3 ?_
    unfold lb17
    generalize hS : lcB = st
    walk_at "dl"
    refine ⟨by omega, ?_⟩
    subst hS
    refine loopT_ind (I := fun rest ρ => ∃ s9 s13 s14 s15 s16 s17 : Sl, ρ = ρL _ _ (.dat c.toD) (ldS qs) _ (.dat c'.toD) _ s9 _ _ _ s13 s14 s15 s16 s17) ?_ ?_ ⟨_, _, _, _, _, _, rfl⟩
    · rintro ρ ⟨s9, s13, s14, s15, s16, s17, rfl⟩
      exact hN _ ⟨_, _, _, _, _, _, _, _, _, _, _, _, _, _, _, _, rfl⟩
    · rintro e rest ρ N2 hN2 ⟨s9, s13, s14, s15, s16, s17, rfl⟩
      simp only [tgD, List.set_cons_succ, List.set_cons_zero]
      exact lcB_ok hq oc (by omega) c3 cn hc fun s9 s14 s15 s16 s17 => hN2 _ ⟨_, _, _, _, _, _, rfl⟩
end K15

set_option Elab.async false
set_option linter.all false
set_option maxRecDepth 100000
set_option maxHeartbeats 4000000
namespace K15
open PySem L2 DL
def tabI_LENGTHS : List (Str × Int) := [("name", 2), ("given", 2), ("work", 3), ("if", 5), ("with", 4), ("call", 3)]
theorem all_mk {l : PySem.W.OpenLaw} {w : World} {K : PySem.W.Frag} {h : Heap} {mg : Str → Option Value} {fa f1 f2 f3 f4 f5 f6 f7 f8 f9 f10 f11 f12 f13 f14 f15 f16 f17 f18 f19 f20 f21 f22 f23 f24 f25 f26 f27 f28 f29 f30 f31 f32 : Addr} (X : K.In h) (G : h.Ns mainGlobals mg) (hfa : mg "law" = some (.ref fa))
    {od1 an1 od2 an2 od3 an3 od4 an4 od5 an5 od6 an6 od7 an7 od8 an8 od9 an9 od10 an10 od11 an11 od12 an12 od13 an13 od14 an14 od15 an15 od16 an16 od17 an17 od18 an18 od19 an19 od20 an20 od21 an21 od22 an22 od23 an23 od24 an24 od25 an25 od26 an26 od27 an27 od28 an28 od29 an29 od30 an30 od31 an31 od32 an32 : Option Addr} {sl1 sl2 sl3 sl4 sl5 sl6 sl7 sl8 sl9 sl10 sl11 sl12 sl13 sl14 sl15 sl16 sl17 sl18 sl19 sl20 sl21 sl22 sl23 sl24 sl25 sl26 sl27 sl28 sl29 sl30 sl31 sl32 : Array (Option Value)} {oc1 kV1 dc1 pm1 cd1 ct1 oc2 kV2 dc2 pm2 cd2 ct2 oc3 kV3 dc3 pm3 cd3 ct3 oc4 kV4 dc4 pm4 cd4 ct4 oc5 kV5 dc5 pm5 cd5 ct5 oc6 kV6 dc6 pm6 cd6 ct6 oc7 kV7 dc7 pm7 cd7 ct7 oc8 kV8 dc8 pm8 cd8 ct8 oc9 kV9 dc9 pm9 cd9 ct9 oc10 kV10 dc10 pm10 cd10 ct10 oc11 kV11 dc11 pm11 cd11 ct11 oc12 kV12 dc12 pm12 cd12 ct12 oc13 kV13 dc13 pm13 cd13 ct13 oc14 kV14 dc14 pm14 cd14 ct14 oc15 kV15 dc15 pm15 cd15 ct15 oc16 kV16 dc16 pm16 cd16 ct16 oc17 kV17 dc17 pm17 cd17 ct17 oc18 kV18 dc18 pm18 cd18 ct18 oc19 kV19 dc19 pm19 cd19 ct19 oc20 kV20 dc20 pm20 cd20 ct20 oc21 kV21 dc21 pm21 cd21 ct21 oc22 kV22 dc22 pm22 cd22 ct22 oc23 kV23 dc23 pm23 cd23 ct23 oc24 kV24 dc24 pm24 cd24 ct24 oc25 kV25 dc25 pm25 cd25 ct25 oc26 kV26 dc26 pm26 cd26 ct26 oc27 kV27 dc27 pm27 cd27 ct27 oc28 kV28 dc28 pm28 cd28 ct28 oc29 kV29 dc29 pm29 cd29 ct29 oc30 kV30 dc30 pm30 cd30 ct30 oc31 kV31 dc31 pm31 cd31 ct31 oc32 kV32 dc32 pm32 cd32 ct32 : Value}
    (a1 : PySem.W.nsIn K mainGlobals "is_integer" = some (some (.ref f1))) (l1 : K.lookup f1 = some ⟨oc1, od1, .func (PySem.W.fnOf "is_integer" "is_integer" (defArgs s_is_integer) (defBody s_is_integer) (defScope s_is_integer) .none kV1 dc1 pm1 an1 cd1 ct1), sl1⟩) (c1 : PySem.W.codeIn K cd1 "is_integer" = true) (k1 : PySem.W.keepIn K (.ref f1) = true)
    (a2 : PySem.W.nsIn K mainGlobals "is_count" = some (some (.ref f2))) (l2 : K.lookup f2 = some ⟨oc2, od2, .func (PySem.W.fnOf "is_count" "is_count" (defArgs s_is_count) (defBody s_is_count) (defScope s_is_count) .none kV2 dc2 pm2 an2 cd2 ct2), sl2⟩) (c2 : PySem.W.codeIn K cd2 "is_count" = true) (k2 : PySem.W.keepIn K (.ref f2) = true)
    (a3 : PySem.W.nsIn K mainGlobals "is_word" = some (some (.ref f3))) (l3 : K.lookup f3 = some ⟨oc3, od3, .func (PySem.W.fnOf "is_word" "is_word" (defArgs s_is_word) (defBody s_is_word) (defScope s_is_word) .none kV3 dc3 pm3 an3 cd3 ct3), sl3⟩) (c3 : PySem.W.codeIn K cd3 "is_word" = true) (k3 : PySem.W.keepIn K (.ref f3) = true)
    (a4 : PySem.W.nsIn K mainGlobals "is_code" = some (some (.ref f4))) (l4 : K.lookup f4 = some ⟨oc4, od4, .func (PySem.W.fnOf "is_code" "is_code" (defArgs s_is_code) (defBody s_is_code) (defScope s_is_code) .none kV4 dc4 pm4 an4 cd4 ct4), sl4⟩) (c4 : PySem.W.codeIn K cd4 "is_code" = true) (k4 : PySem.W.keepIn K (.ref f4) = true)
    (a5 : PySem.W.nsIn K mainGlobals "codes_within" = some (some (.ref f5))) (l5 : K.lookup f5 = some ⟨oc5, od5, .func (PySem.W.fnOf "codes_within" "codes_within" (defArgs s_codes_within) (defBody s_codes_within) (defScope s_codes_within) .none kV5 dc5 pm5 an5 cd5 ct5), sl5⟩) (c5 : PySem.W.codeIn K cd5 "codes_within" = true) (k5 : PySem.W.keepIn K (.ref f5) = true)
    (a6 : PySem.W.nsIn K mainGlobals "with_codes" = some (some (.ref f6))) (l6 : K.lookup f6 = some ⟨oc6, od6, .func (PySem.W.fnOf "with_codes" "with_codes" (defArgs s_with_codes) (defBody s_with_codes) (defScope s_with_codes) .none kV6 dc6 pm6 an6 cd6 ct6), sl6⟩) (c6 : PySem.W.codeIn K cd6 "with_codes" = true) (k6 : PySem.W.keepIn K (.ref f6) = true)
    (a7 : PySem.W.nsIn K mainGlobals "free_in" = some (some (.ref f7))) (l7 : K.lookup f7 = some ⟨oc7, od7, .func (PySem.W.fnOf "free_in" "free_in" (defArgs s_free_in) (defBody s_free_in) (defScope s_free_in) .none kV7 dc7 pm7 an7 cd7 ct7), sl7⟩) (c7 : PySem.W.codeIn K cd7 "free_in" = true) (k7 : PySem.W.keepIn K (.ref f7) = true)
    (a8 : PySem.W.nsIn K mainGlobals "free_names" = some (some (.ref f8))) (l8 : K.lookup f8 = some ⟨oc8, od8, .func (PySem.W.fnOf "free_names" "free_names" (defArgs s_free_names) (defBody s_free_names) (defScope s_free_names) .none kV8 dc8 pm8 an8 cd8 ct8), sl8⟩) (c8 : PySem.W.codeIn K cd8 "free_names" = true) (k8 : PySem.W.keepIn K (.ref f8) = true)
    (a9 : PySem.W.nsIn K mainGlobals "word_of" = some (some (.ref f9))) (l9 : K.lookup f9 = some ⟨oc9, od9, .func (PySem.W.fnOf "word_of" "word_of" (defArgs s_word_of) (defBody s_word_of) (defScope s_word_of) .none kV9 dc9 pm9 an9 cd9 ct9), sl9⟩) (c9 : PySem.W.codeIn K cd9 "word_of" = true) (k9 : PySem.W.keepIn K (.ref f9) = true)
    (a10 : PySem.W.nsIn K mainGlobals "fresh_word" = some (some (.ref f10))) (l10 : K.lookup f10 = some ⟨oc10, od10, .func (PySem.W.fnOf "fresh_word" "fresh_word" (defArgs s_fresh_word) (defBody s_fresh_word) (defScope s_fresh_word) .none kV10 dc10 pm10 an10 cd10 ct10), sl10⟩) (c10 : PySem.W.codeIn K cd10 "fresh_word" = true) (k10 : PySem.W.keepIn K (.ref f10) = true)
    (a11 : PySem.W.nsIn K mainGlobals "put_all" = some (some (.ref f11))) (l11 : K.lookup f11 = some ⟨oc11, od11, .func (PySem.W.fnOf "put_all" "put_all" (defArgs s_put_all) (defBody s_put_all) (defScope s_put_all) .none kV11 dc11 pm11 an11 cd11 ct11), sl11⟩) (c11 : PySem.W.codeIn K cd11 "put_all" = true) (k11 : PySem.W.keepIn K (.ref f11) = true)
    (a12 : PySem.W.nsIn K mainGlobals "renamed" = some (some (.ref f12))) (l12 : K.lookup f12 = some ⟨oc12, od12, .func (PySem.W.fnOf "renamed" "renamed" (defArgs s_renamed) (defBody s_renamed) (defScope s_renamed) .none kV12 dc12 pm12 an12 cd12 ct12), sl12⟩) (c12 : PySem.W.codeIn K cd12 "renamed" = true) (k12 : PySem.W.keepIn K (.ref f12) = true)
    (a13 : PySem.W.nsIn K mainGlobals "are_like" = some (some (.ref f13))) (l13 : K.lookup f13 = some ⟨oc13, od13, .func (PySem.W.fnOf "are_like" "are_like" (defArgs s_are_like) (defBody s_are_like) (defScope s_are_like) .none kV13 dc13 pm13 an13 cd13 ct13), sl13⟩) (c13 : PySem.W.codeIn K cd13 "are_like" = true) (k13 : PySem.W.keepIn K (.ref f13) = true)
    (a14 : PySem.W.nsIn K mainGlobals "same_but_bound" = some (some (.ref f14))) (l14 : K.lookup f14 = some ⟨oc14, od14, .func (PySem.W.fnOf "same_but_bound" "same_but_bound" (defArgs s_same_but_bound) (defBody s_same_but_bound) (defScope s_same_but_bound) .none kV14 dc14 pm14 an14 cd14 ct14), sl14⟩) (c14 : PySem.W.codeIn K cd14 "same_but_bound" = true) (k14 : PySem.W.keepIn K (.ref f14) = true)
    (a15 : PySem.W.nsIn K mainGlobals "_law_bag" = some (some (.ref f15))) (l15 : K.lookup f15 = some ⟨oc15, od15, .func (PySem.W.fnOf "_law_bag" "_law_bag" (defArgs s_L_bag) (defBody s_L_bag) (defScope s_L_bag) .none kV15 dc15 pm15 an15 cd15 ct15), sl15⟩) (c15 : PySem.W.codeIn K cd15 "_law_bag" = true) (k15 : PySem.W.keepIn K (.ref f15) = true)
    (a16 : PySem.W.nsIn K mainGlobals "_law_take" = some (some (.ref f16))) (l16 : K.lookup f16 = some ⟨oc16, od16, .func (PySem.W.fnOf "_law_take" "_law_take" (defArgs s_L_take) (defBody s_L_take) (defScope s_L_take) .none kV16 dc16 pm16 an16 cd16 ct16), sl16⟩) (c16 : PySem.W.codeIn K cd16 "_law_take" = true) (k16 : PySem.W.keepIn K (.ref f16) = true)
    (a17 : PySem.W.nsIn K mainGlobals "_law_some" = some (some (.ref f17))) (l17 : K.lookup f17 = some ⟨oc17, od17, .func (PySem.W.fnOf "_law_some" "_law_some" (defArgs s_L_some) (defBody s_L_some) (defScope s_L_some) .none kV17 dc17 pm17 an17 cd17 ct17), sl17⟩) (c17 : PySem.W.codeIn K cd17 "_law_some" = true) (k17 : PySem.W.keepIn K (.ref f17) = true)
    (a18 : PySem.W.nsIn K mainGlobals "_law_mixed" = some (some (.ref f18))) (l18 : K.lookup f18 = some ⟨oc18, od18, .func (PySem.W.fnOf "_law_mixed" "_law_mixed" (defArgs s_L_mixed) (defBody s_L_mixed) (defScope s_L_mixed) .none kV18 dc18 pm18 an18 cd18 ct18), sl18⟩) (c18 : PySem.W.codeIn K cd18 "_law_mixed" = true) (k18 : PySem.W.keepIn K (.ref f18) = true)
    (a19 : PySem.W.nsIn K mainGlobals "_law_words" = some (some (.ref f19))) (l19 : K.lookup f19 = some ⟨oc19, od19, .func (PySem.W.fnOf "_law_words" "_law_words" (defArgs s_L_words) (defBody s_L_words) (defScope s_L_words) .none kV19 dc19 pm19 an19 cd19 ct19), sl19⟩) (c19 : PySem.W.codeIn K cd19 "_law_words" = true) (k19 : PySem.W.keepIn K (.ref f19) = true)
    (a20 : PySem.W.nsIn K mainGlobals "_law_inner" = some (some (.ref f20))) (l20 : K.lookup f20 = some ⟨oc20, od20, .func (PySem.W.fnOf "_law_inner" "_law_inner" (defArgs s_L_inner) (defBody s_L_inner) (defScope s_L_inner) .none kV20 dc20 pm20 an20 cd20 ct20), sl20⟩) (c20 : PySem.W.codeIn K cd20 "_law_inner" = true) (k20 : PySem.W.keepIn K (.ref f20) = true)
    (a21 : PySem.W.nsIn K mainGlobals "_law_parts_of" = some (some (.ref f21))) (l21 : K.lookup f21 = some ⟨oc21, od21, .func (PySem.W.fnOf "_law_parts_of" "_law_parts_of" (defArgs s_L_parts_of) (defBody s_L_parts_of) (defScope s_L_parts_of) .none kV21 dc21 pm21 an21 cd21 ct21), sl21⟩) (c21 : PySem.W.codeIn K cd21 "_law_parts_of" = true) (k21 : PySem.W.keepIn K (.ref f21) = true)
    (a22 : PySem.W.nsIn K mainGlobals "_law_leaf" = some (some (.ref f22))) (l22 : K.lookup f22 = some ⟨oc22, od22, .func (PySem.W.fnOf "_law_leaf" "_law_leaf" (defArgs s_L_leaf) (defBody s_L_leaf) (defScope s_L_leaf) .none kV22 dc22 pm22 an22 cd22 ct22), sl22⟩) (c22 : PySem.W.codeIn K cd22 "_law_leaf" = true) (k22 : PySem.W.keepIn K (.ref f22) = true)
    (a23 : PySem.W.nsIn K mainGlobals "_law_term" = some (some (.ref f23))) (l23 : K.lookup f23 = some ⟨oc23, od23, .func (PySem.W.fnOf "_law_term" "_law_term" (defArgs s_L_term) (defBody s_L_term) (defScope s_L_term) .none kV23 dc23 pm23 an23 cd23 ct23), sl23⟩) (c23 : PySem.W.codeIn K cd23 "_law_term" = true) (k23 : PySem.W.keepIn K (.ref f23) = true)
    (a24 : PySem.W.nsIn K mainGlobals "_law_code" = some (some (.ref f24))) (l24 : K.lookup f24 = some ⟨oc24, od24, .func (PySem.W.fnOf "_law_code" "_law_code" (defArgs s_L_code) (defBody s_L_code) (defScope s_L_code) .none kV24 dc24 pm24 an24 cd24 ct24), sl24⟩) (c24 : PySem.W.codeIn K cd24 "_law_code" = true) (k24 : PySem.W.keepIn K (.ref f24) = true)
    (a25 : PySem.W.nsIn K mainGlobals "_law_answer" = some (some (.ref f25))) (l25 : K.lookup f25 = some ⟨oc25, od25, .func (PySem.W.fnOf "_law_answer" "_law_answer" (defArgs s_L_answer) (defBody s_L_answer) (defScope s_L_answer) .none kV25 dc25 pm25 an25 cd25 ct25), sl25⟩) (c25 : PySem.W.codeIn K cd25 "_law_answer" = true) (k25 : PySem.W.keepIn K (.ref f25) = true)
    (a26 : PySem.W.nsIn K mainGlobals "_law_world" = some (some (.ref f26))) (l26 : K.lookup f26 = some ⟨oc26, od26, .func (PySem.W.fnOf "_law_world" "_law_world" (defArgs s_L_world) (defBody s_L_world) (defScope s_L_world) .none kV26 dc26 pm26 an26 cd26 ct26), sl26⟩) (c26 : PySem.W.codeIn K cd26 "_law_world" = true) (k26 : PySem.W.keepIn K (.ref f26) = true)
    (a27 : PySem.W.nsIn K mainGlobals "_law_any" = some (some (.ref f27))) (l27 : K.lookup f27 = some ⟨oc27, od27, .func (PySem.W.fnOf "_law_any" "_law_any" (defArgs s_L_any) (defBody s_L_any) (defScope s_L_any) .none kV27 dc27 pm27 an27 cd27 ct27), sl27⟩) (c27 : PySem.W.codeIn K cd27 "_law_any" = true) (k27 : PySem.W.keepIn K (.ref f27) = true)
    (a28 : PySem.W.nsIn K mainGlobals "_law_free" = some (some (.ref f28))) (l28 : K.lookup f28 = some ⟨oc28, od28, .func (PySem.W.fnOf "_law_free" "_law_free" (defArgs s_L_free) (defBody s_L_free) (defScope s_L_free) .none kV28 dc28 pm28 an28 cd28 ct28), sl28⟩) (c28 : PySem.W.codeIn K cd28 "_law_free" = true) (k28 : PySem.W.keepIn K (.ref f28) = true)
    (a29 : PySem.W.nsIn K mainGlobals "_law_names_of" = some (some (.ref f29))) (l29 : K.lookup f29 = some ⟨oc29, od29, .func (PySem.W.fnOf "_law_names_of" "_law_names_of" (defArgs s_L_names_of) (defBody s_L_names_of) (defScope s_L_names_of) .none kV29 dc29 pm29 an29 cd29 ct29), sl29⟩) (c29 : PySem.W.codeIn K cd29 "_law_names_of" = true) (k29 : PySem.W.keepIn K (.ref f29) = true)
    (a30 : PySem.W.nsIn K mainGlobals "_law_numbered" = some (some (.ref f30))) (l30 : K.lookup f30 = some ⟨oc30, od30, .func (PySem.W.fnOf "_law_numbered" "_law_numbered" (defArgs s_L_numbered) (defBody s_L_numbered) (defScope s_L_numbered) .none kV30 dc30 pm30 an30 cd30 ct30), sl30⟩) (c30 : PySem.W.codeIn K cd30 "_law_numbered" = true) (k30 : PySem.W.keepIn K (.ref f30) = true)
    (a31 : PySem.W.nsIn K mainGlobals "_law_led" = some (some (.ref f31))) (l31 : K.lookup f31 = some ⟨oc31, od31, .func (PySem.W.fnOf "_law_led" "_law_led" (defArgs s_L_led) (defBody s_L_led) (defScope s_L_led) .none kV31 dc31 pm31 an31 cd31 ct31), sl31⟩) (c31 : PySem.W.codeIn K cd31 "_law_led" = true) (k31 : PySem.W.keepIn K (.ref f31) = true)
    (a32 : PySem.W.nsIn K mainGlobals "law" = some (some (.ref f32))) (l32 : K.lookup f32 = some ⟨oc32, od32, .func (PySem.W.fnOf "law" "law" (defArgs s_law) (defBody s_law) (defScope s_law) .none kV32 dc32 pm32 an32 cd32 ct32), sl32⟩) (c32 : PySem.W.codeIn K cd32 "law" = true) (k32 : PySem.W.keepIn K (.ref f32) = true)
    (y_abs : PySem.W.nsIn K mainGlobals "abs" = some none)
    (y_all : PySem.W.nsIn K mainGlobals "all" = some none)
    (y_bool : PySem.W.nsIn K mainGlobals "bool" = some none)
    (y_dict : PySem.W.nsIn K mainGlobals "dict" = some none)
    (y_enumerate : PySem.W.nsIn K mainGlobals "enumerate" = some none)
    (y_int : PySem.W.nsIn K mainGlobals "int" = some none)
    (y_isinstance : PySem.W.nsIn K mainGlobals "isinstance" = some none)
    (y_len : PySem.W.nsIn K mainGlobals "len" = some none)
    (y_list : PySem.W.nsIn K mainGlobals "list" = some none)
    (y_min : PySem.W.nsIn K mainGlobals "min" = some none)
    (y_range : PySem.W.nsIn K mainGlobals "range" = some none)
    (y_repr : PySem.W.nsIn K mainGlobals "repr" = some none)
    (y_set : PySem.W.nsIn K mainGlobals "set" = some none)
    (y_sorted : PySem.W.nsIn K mainGlobals "sorted" = some none)
    (y_str : PySem.W.nsIn K mainGlobals "str" = some none)
    (y_tuple : PySem.W.nsIn K mainGlobals "tuple" = some none)
    (y_zip : PySem.W.nsIn K mainGlobals "zip" = some none)
    {t_LETTERS : _} (aX_LETTERS : PySem.W.nsIn K mainGlobals "LETTERS" = some (some (.str txt_LETTERS t_LETTERS)))
    {d_LENGTHS : Addr} {e_LENGTHS : Array DictEntry} {n_LENGTHS : Nat} (aT_LENGTHS : PySem.W.nsIn K mainGlobals "LENGTHS" = some (some (.ref d_LENGTHS))) (lT_LENGTHS : K.lookup d_LENGTHS = some ⟨.type "dict", none, .dict e_LENGTHS n_LENGTHS, #[]⟩) (qT_LENGTHS : PySem.W.KeysLit w.params e_LENGTHS.toList) (eT_LENGTHS : e_LENGTHS.toList.map entI = tabI_LENGTHS.map some) (sT_LENGTHS : (d_LENGTHS == sysModules) = false)
    : ∃ fd : FuncData, (∀ (s : Shared) (v : Value), BindsTo s fd ⟨[v], []⟩ [("_law_script", v)]) ∧ ∀ base : Heap, K.In base → base.Ns mainGlobals mg → (∃ m, base.Ns sysModules m) → FnG l.prog w K mg base CX0 112 fa fd ["_law_script"] (spLaw K) := by
  have e := hfa.symm.trans (PySem.W.mg_of X G a32)
  cases e
  have z_abs := PySem.W.mg_none_of X G y_abs
  have z_all := PySem.W.mg_none_of X G y_all
  have z_bool := PySem.W.mg_none_of X G y_bool
  have z_dict := PySem.W.mg_none_of X G y_dict
  have z_enumerate := PySem.W.mg_none_of X G y_enumerate
  have z_int := PySem.W.mg_none_of X G y_int
  have z_isinstance := PySem.W.mg_none_of X G y_isinstance
  have z_len := PySem.W.mg_none_of X G y_len
  have z_list := PySem.W.mg_none_of X G y_list
  have z_min := PySem.W.mg_none_of X G y_min
  have z_range := PySem.W.mg_none_of X G y_range
  have z_repr := PySem.W.mg_none_of X G y_repr
  have z_set := PySem.W.mg_none_of X G y_set
  have z_sorted := PySem.W.mg_none_of X G y_sorted
  have z_str := PySem.W.mg_none_of X G y_str
  have z_tuple := PySem.W.mg_none_of X G y_tuple
  have z_zip := PySem.W.mg_none_of X G y_zip
  have F_is_integer := fun_mk (st := s_is_integer) l1 c1 k1
  have m_is_integer := PySem.W.mg_of X G a1
  have b_is_integer := F_is_integer.binds (ps := ["thing"]) fun _ _ _ _ _ _ us hl => match us, hl with | [_], _ => rfl
  have F_is_count := fun_mk (st := s_is_count) l2 c2 k2
  have m_is_count := PySem.W.mg_of X G a2
  have b_is_count := F_is_count.binds (ps := ["thing"]) fun _ _ _ _ _ _ us hl => match us, hl with | [_], _ => rfl
  have F_is_word := fun_mk (st := s_is_word) l3 c3 k3
  have m_is_word := PySem.W.mg_of X G a3
  have b_is_word := F_is_word.binds (ps := ["thing"]) fun _ _ _ _ _ _ us hl => match us, hl with | [_], _ => rfl
  have F_is_code := fun_mk (st := s_is_code) l4 c4 k4
  have m_is_code := PySem.W.mg_of X G a4
  have b_is_code := F_is_code.binds (ps := ["thing"]) fun _ _ _ _ _ _ us hl => match us, hl with | [_], _ => rfl
  have F_codes_within := fun_mk (st := s_codes_within) l5 c5 k5
  have m_codes_within := PySem.W.mg_of X G a5
  have b_codes_within := F_codes_within.binds (ps := ["code"]) fun _ _ _ _ _ _ us hl => match us, hl with | [_], _ => rfl
  have F_with_codes := fun_mk (st := s_with_codes) l6 c6 k6
  have m_with_codes := PySem.W.mg_of X G a6
  have b_with_codes := F_with_codes.binds (ps := ["code", "codes"]) fun _ _ _ _ _ _ us hl => match us, hl with | [_, _], _ => rfl
  have F_free_in := fun_mk (st := s_free_in) l7 c7 k7
  have m_free_in := PySem.W.mg_of X G a7
  have b_free_in := F_free_in.binds (ps := ["code"]) fun _ _ _ _ _ _ us hl => match us, hl with | [_], _ => rfl
  have F_free_names := fun_mk (st := s_free_names) l8 c8 k8
  have m_free_names := PySem.W.mg_of X G a8
  have b_free_names := F_free_names.binds (ps := ["code"]) fun _ _ _ _ _ _ us hl => match us, hl with | [_], _ => rfl
  have F_word_of := fun_mk (st := s_word_of) l9 c9 k9
  have m_word_of := PySem.W.mg_of X G a9
  have b_word_of := F_word_of.binds (ps := ["at"]) fun _ _ _ _ _ _ us hl => match us, hl with | [_], _ => rfl
  have F_fresh_word := fun_mk (st := s_fresh_word) l10 c10 k10
  have m_fresh_word := PySem.W.mg_of X G a10
  have b_fresh_word := F_fresh_word.binds (ps := ["words"]) fun _ _ _ _ _ _ us hl => match us, hl with | [_], _ => rfl
  have F_put_all := fun_mk (st := s_put_all) l11 c11 k11
  have m_put_all := PySem.W.mg_of X G a11
  have b_put_all := F_put_all.binds (ps := ["code", "parts"]) fun _ _ _ _ _ _ us hl => match us, hl with | [_, _], _ => rfl
  have F_renamed := fun_mk (st := s_renamed) l12 c12 k12
  have m_renamed := PySem.W.mg_of X G a12
  have b_renamed := F_renamed.binds (ps := ["code", "names"]) fun _ _ _ _ _ _ us hl => match us, hl with | [_, _], _ => rfl
  have F_are_like := fun_mk (st := s_are_like) l13 c13 k13
  have m_are_like := PySem.W.mg_of X G a13
  have b_are_like := F_are_like.binds (ps := ["one", "other", "bound"]) fun _ _ _ _ _ _ us hl => match us, hl with | [_, _, _], _ => rfl
  have F_same_but_bound := fun_mk (st := s_same_but_bound) l14 c14 k14
  have m_same_but_bound := PySem.W.mg_of X G a14
  have b_same_but_bound := F_same_but_bound.binds (ps := ["one", "other"]) fun _ _ _ _ _ _ us hl => match us, hl with | [_, _], _ => rfl
  have F_L_bag := fun_mk (st := s_L_bag) l15 c15 k15
  have m_L_bag := PySem.W.mg_of X G a15
  have b_L_bag := F_L_bag.binds (ps := ["_law_script"]) fun _ _ _ _ _ _ us hl => match us, hl with | [_], _ => rfl
  have F_L_take := fun_mk (st := s_L_take) l16 c16 k16
  have m_L_take := PySem.W.mg_of X G a16
  have b_L_take := F_L_take.binds (ps := ["_law_bag_here", "_law_many"]) fun _ _ _ _ _ _ us hl => match us, hl with | [_, _], _ => rfl
  have F_L_some := fun_mk (st := s_L_some) l17 c17 k17
  have m_L_some := PySem.W.mg_of X G a17
  have b_L_some := F_L_some.binds (ps := ["_law_bag_here", "_law_things"]) fun _ _ _ _ _ _ us hl => match us, hl with | [_, _], _ => rfl
  have F_L_mixed := fun_mk (st := s_L_mixed) l18 c18 k18
  have m_L_mixed := PySem.W.mg_of X G a18
  have b_L_mixed := F_L_mixed.binds (ps := ["_law_bag_here", "_law_things"]) fun _ _ _ _ _ _ us hl => match us, hl with | [_, _], _ => rfl
  have F_L_words := fun_mk (st := s_L_words) l19 c19 k19
  have m_L_words := PySem.W.mg_of X G a19
  have b_L_words := F_L_words.binds (ps := ["_law_bag_here", "_law_many"]) fun _ _ _ _ _ _ us hl => match us, hl with | [_, _], _ => rfl
  have F_L_inner := fun_mk (st := s_L_inner) l20 c20 k20
  have m_L_inner := PySem.W.mg_of X G a20
  have b_L_inner := F_L_inner.binds (ps := ["_law_code_here"]) fun _ _ _ _ _ _ us hl => match us, hl with | [_], _ => rfl
  have F_L_parts_of := fun_mk (st := s_L_parts_of) l21 c21 k21
  have m_L_parts_of := PySem.W.mg_of X G a21
  have b_L_parts_of := F_L_parts_of.binds (ps := ["_law_code_here"]) fun _ _ _ _ _ _ us hl => match us, hl with | [_], _ => rfl
  have F_L_leaf := fun_mk (st := s_L_leaf) l22 c22 k22
  have m_L_leaf := PySem.W.mg_of X G a22
  have b_L_leaf := F_L_leaf.binds (ps := ["_law_bag_here", "_law_names", "_law_handed_in"]) fun _ _ _ _ _ _ us hl => match us, hl with | [_, _, _], _ => rfl
  have F_L_term := fun_mk (st := s_L_term) l23 c23 k23
  have m_L_term := PySem.W.mg_of X G a23
  have b_L_term := F_L_term.binds (ps := ["_law_bag_here", "_law_names", "_law_handed_in", "_law_deep"]) fun _ _ _ _ _ _ us hl => match us, hl with | [_, _, _, _], _ => rfl
  have F_L_code := fun_mk (st := s_L_code) l24 c24 k24
  have m_L_code := PySem.W.mg_of X G a24
  have b_L_code := F_L_code.binds (ps := ["_law_bag_here", "_law_names", "_law_handed_in", "_law_tests"]) fun _ _ _ _ _ _ us hl => match us, hl with | [_, _, _, _], _ => rfl
  have F_L_answer := fun_mk (st := s_L_answer) l25 c25 k25
  have m_L_answer := PySem.W.mg_of X G a25
  have b_L_answer := F_L_answer.binds (ps := ["_law_code_here", "_law_world_here", "_law_bound", "_law_handed"]) fun _ _ _ _ _ _ us hl => match us, hl with | [_, _, _, _], _ => rfl
  have F_L_world := fun_mk (st := s_L_world) l26 c26 k26
  have m_L_world := PySem.W.mg_of X G a26
  have b_L_world := F_L_world.binds (ps := ["_law_bag_here", "_law_many", "_law_names"]) fun _ _ _ _ _ _ us hl => match us, hl with | [_, _, _], _ => rfl
  have F_L_any := fun_mk (st := s_L_any) l27 c27 k27
  have m_L_any := PySem.W.mg_of X G a27
  have b_L_any := F_L_any.binds (ps := ["_law_bag_here", "_law_names", "_law_room"]) fun _ _ _ _ _ _ us hl => match us, hl with | [_, _, _], _ => rfl
  have F_L_free := fun_mk (st := s_L_free) l28 c28 k28
  have m_L_free := PySem.W.mg_of X G a28
  have b_L_free := F_L_free.binds (ps := ["_law_code_here", "_law_bound"]) fun _ _ _ _ _ _ us hl => match us, hl with | [_, _], _ => rfl
  have F_L_names_of := fun_mk (st := s_L_names_of) l29 c29 k29
  have m_L_names_of := PySem.W.mg_of X G a29
  have b_L_names_of := F_L_names_of.binds (ps := ["_law_bag_here", "_law_many"]) fun _ _ _ _ _ _ us hl => match us, hl with | [_, _], _ => rfl
  have F_L_numbered := fun_mk (st := s_L_numbered) l30 c30 k30
  have m_L_numbered := PySem.W.mg_of X G a30
  have b_L_numbered := F_L_numbered.binds (ps := ["_law_code_here", "_law_bound", "_law_parts"]) fun _ _ _ _ _ _ us hl => match us, hl with | [_, _, _], _ => rfl
  have F_L_led := fun_mk (st := s_L_led) l31 c31 k31
  have m_L_led := PySem.W.mg_of X G a31
  have b_L_led := F_L_led.binds (ps := ["_law_bag_here", "_law_code_here", "_law_names"]) fun _ _ _ _ _ _ us hl => match us, hl with | [_, _, _], _ => rfl
  have F_law := fun_mk (st := s_law) l32 c32 k32
  have m_law := PySem.W.mg_of X G a32
  refine ⟨PySem.W.fnOf "law" "law" (defArgs s_law) (defBody s_law) (defScope s_law) .none kV32 dc32 pm32 an32 cd32 ct32, fun s v => .of_eq rfl, fun base _ _ hS => ?_⟩
  have k_LENGTHS : KTab K w mg "LENGTHS" tab_LENGTHS := KTab.ints (PySem.W.mg_of X G aT_LENGTHS) ⟨lT_LENGTHS, qT_LENGTHS, sT_LENGTHS⟩ eT_LENGTHS
  have x_LETTERS : ∃ t, mg "LETTERS" = some (.str txt_LETTERS t) := ⟨_, PySem.W.mg_of X G aX_LETTERS⟩
  -- LEVEL 112
  have dpos : ∀ c : Code, 0 < c.dp := fun c => by cases c <;> simp only [Code.dp] <;> omega
  have c_iint : CalP l.prog w K mg base 1 "is_integer" R_iint := CalP.of (fn_is_integer F_is_integer z_bool z_int z_isinstance (fun _ _ h => by first | (obtain ⟨_, rfl, _⟩ := h; rfl) | (obtain ⟨_, _, rfl, _⟩ := h; rfl) | (obtain ⟨_, _, _, rfl, _⟩ := h; rfl) | (obtain ⟨_, _, _, _, rfl, _⟩ := h; rfl) | (obtain ⟨_, _, _, _, _, rfl, _⟩ := h; rfl) | (obtain ⟨_, _, _, _, _, _, rfl, _⟩ := h; rfl) | (obtain ⟨_, _, _, _, _, _, _, rfl, _⟩ := h; rfl) | (obtain ⟨_, _, _, _, _, _, _, _, rfl, _⟩ := h; rfl)) p_is_integer) m_is_integer F_is_integer b_is_integer
  have c_icnt : CalP l.prog w K mg base 2 "is_count" R_icnt := CalP.of (fn_is_count F_is_count (c_iint.mono (by omega)) (fun _ _ h => by first | (obtain ⟨_, rfl, _⟩ := h; rfl) | (obtain ⟨_, _, rfl, _⟩ := h; rfl) | (obtain ⟨_, _, _, rfl, _⟩ := h; rfl) | (obtain ⟨_, _, _, _, rfl, _⟩ := h; rfl) | (obtain ⟨_, _, _, _, _, rfl, _⟩ := h; rfl) | (obtain ⟨_, _, _, _, _, _, rfl, _⟩ := h; rfl) | (obtain ⟨_, _, _, _, _, _, _, rfl, _⟩ := h; rfl) | (obtain ⟨_, _, _, _, _, _, _, _, rfl, _⟩ := h; rfl)) p_is_count) m_is_count F_is_count b_is_count
  have c_isword : CalP l.prog w K mg base 1 "is_word" R_isword := CalP.of (fn_is_word F_is_word z_all z_isinstance z_len z_str (fun _ _ h => by first | (obtain ⟨_, rfl, _⟩ := h; rfl) | (obtain ⟨_, _, rfl, _⟩ := h; rfl) | (obtain ⟨_, _, _, rfl, _⟩ := h; rfl) | (obtain ⟨_, _, _, _, rfl, _⟩ := h; rfl) | (obtain ⟨_, _, _, _, _, rfl, _⟩ := h; rfl) | (obtain ⟨_, _, _, _, _, _, rfl, _⟩ := h; rfl) | (obtain ⟨_, _, _, _, _, _, _, rfl, _⟩ := h; rfl) | (obtain ⟨_, _, _, _, _, _, _, _, rfl, _⟩ := h; rfl)) p_is_word) m_is_word F_is_word b_is_word
  have c_iscode : ∀ n, CalP l.prog w K mg base (n + 3) "is_code" (R_iscode n) := fun n => by
    induction n with
    | zero => exact CalP.of (FnG.never fun _ _ h => by obtain ⟨c, _, _, h0, _⟩ := h; have := dpos c; omega) m_is_code F_is_code b_is_code
    | succ n ih => exact CalP.of (fn_is_code F_is_code z_all z_isinstance z_len z_str z_tuple (c_isword.mono (by omega)) (c_icnt.mono (by omega)) ih k_LENGTHS (fun _ _ h => by first | (obtain ⟨_, rfl, _⟩ := h; rfl) | (obtain ⟨_, _, rfl, _⟩ := h; rfl) | (obtain ⟨_, _, _, rfl, _⟩ := h; rfl) | (obtain ⟨_, _, _, _, rfl, _⟩ := h; rfl) | (obtain ⟨_, _, _, _, _, rfl, _⟩ := h; rfl) | (obtain ⟨_, _, _, _, _, _, rfl, _⟩ := h; rfl) | (obtain ⟨_, _, _, _, _, _, _, rfl, _⟩ := h; rfl) | (obtain ⟨_, _, _, _, _, _, _, _, rfl, _⟩ := h; rfl)) (p_is_code n)) m_is_code F_is_code b_is_code
  have c_in : CalP l.prog w K mg base 1 "codes_within" R_in := CalP.of (fn_codes_within F_codes_within  (fun _ _ h => by first | (obtain ⟨_, rfl, _⟩ := h; rfl) | (obtain ⟨_, _, rfl, _⟩ := h; rfl) | (obtain ⟨_, _, _, rfl, _⟩ := h; rfl) | (obtain ⟨_, _, _, _, rfl, _⟩ := h; rfl) | (obtain ⟨_, _, _, _, _, rfl, _⟩ := h; rfl) | (obtain ⟨_, _, _, _, _, _, rfl, _⟩ := h; rfl) | (obtain ⟨_, _, _, _, _, _, _, rfl, _⟩ := h; rfl) | (obtain ⟨_, _, _, _, _, _, _, _, rfl, _⟩ := h; rfl)) (p_in _ (.inl rfl))) m_codes_within F_codes_within b_codes_within
  have c_inner : CalP l.prog w K mg base 1 "_law_inner" R_in := CalP.of (fn_L_inner F_L_inner  (fun _ _ h => by first | (obtain ⟨_, rfl, _⟩ := h; rfl) | (obtain ⟨_, _, rfl, _⟩ := h; rfl) | (obtain ⟨_, _, _, rfl, _⟩ := h; rfl) | (obtain ⟨_, _, _, _, rfl, _⟩ := h; rfl) | (obtain ⟨_, _, _, _, _, rfl, _⟩ := h; rfl) | (obtain ⟨_, _, _, _, _, _, rfl, _⟩ := h; rfl) | (obtain ⟨_, _, _, _, _, _, _, rfl, _⟩ := h; rfl) | (obtain ⟨_, _, _, _, _, _, _, _, rfl, _⟩ := h; rfl)) (p_in _ (.inr rfl))) m_L_inner F_L_inner b_L_inner
  have c_withc : CalP l.prog w K mg base 1 "with_codes" R_withc := CalP.of (fn_with_codes F_with_codes z_tuple (fun _ _ h => by first | (obtain ⟨_, rfl, _⟩ := h; rfl) | (obtain ⟨_, _, rfl, _⟩ := h; rfl) | (obtain ⟨_, _, _, rfl, _⟩ := h; rfl) | (obtain ⟨_, _, _, _, rfl, _⟩ := h; rfl) | (obtain ⟨_, _, _, _, _, rfl, _⟩ := h; rfl) | (obtain ⟨_, _, _, _, _, _, rfl, _⟩ := h; rfl) | (obtain ⟨_, _, _, _, _, _, _, rfl, _⟩ := h; rfl) | (obtain ⟨_, _, _, _, _, _, _, _, rfl, _⟩ := h; rfl)) p_with_codes) m_with_codes F_with_codes b_with_codes
  have c_free : ∀ n, CalP l.prog w K mg base (n + 2) "free_in" (R_free n) := fun n => by
    induction n with
    | zero => exact CalP.of (FnG.never fun _ _ h => by obtain ⟨c, _, _, h0, _⟩ := h; have := dpos c; omega) m_free_in F_free_in b_free_in
    | succ n ih => exact CalP.of (fn_free_in F_free_in z_enumerate z_list (c_in.mono (by omega)) ih (fun _ _ h => by first | (obtain ⟨_, rfl, _⟩ := h; rfl) | (obtain ⟨_, _, rfl, _⟩ := h; rfl) | (obtain ⟨_, _, _, rfl, _⟩ := h; rfl) | (obtain ⟨_, _, _, _, rfl, _⟩ := h; rfl) | (obtain ⟨_, _, _, _, _, rfl, _⟩ := h; rfl) | (obtain ⟨_, _, _, _, _, _, rfl, _⟩ := h; rfl) | (obtain ⟨_, _, _, _, _, _, _, rfl, _⟩ := h; rfl) | (obtain ⟨_, _, _, _, _, _, _, _, rfl, _⟩ := h; rfl)) (p_free_in n)) m_free_in F_free_in b_free_in
  have c_word : CalP l.prog w K mg base 1 "word_of" R_word := CalP.of (fn_word_of F_word_of x_LETTERS (fun _ _ h => by first | (obtain ⟨_, rfl, _⟩ := h; rfl) | (obtain ⟨_, _, rfl, _⟩ := h; rfl) | (obtain ⟨_, _, _, rfl, _⟩ := h; rfl) | (obtain ⟨_, _, _, _, rfl, _⟩ := h; rfl) | (obtain ⟨_, _, _, _, _, rfl, _⟩ := h; rfl) | (obtain ⟨_, _, _, _, _, _, rfl, _⟩ := h; rfl) | (obtain ⟨_, _, _, _, _, _, _, rfl, _⟩ := h; rfl) | (obtain ⟨_, _, _, _, _, _, _, _, rfl, _⟩ := h; rfl)) p_word_of) m_word_of F_word_of b_word_of
  have c_fresh : CalP l.prog w K mg base 2 "fresh_word" R_fresh := CalP.of (fn_fresh_word F_fresh_word (c_word.mono (by omega)) (fun _ _ h => by first | (obtain ⟨_, rfl, _⟩ := h; rfl) | (obtain ⟨_, _, rfl, _⟩ := h; rfl) | (obtain ⟨_, _, _, rfl, _⟩ := h; rfl) | (obtain ⟨_, _, _, _, rfl, _⟩ := h; rfl) | (obtain ⟨_, _, _, _, _, rfl, _⟩ := h; rfl) | (obtain ⟨_, _, _, _, _, _, rfl, _⟩ := h; rfl) | (obtain ⟨_, _, _, _, _, _, _, rfl, _⟩ := h; rfl) | (obtain ⟨_, _, _, _, _, _, _, _, rfl, _⟩ := h; rfl)) p_fresh_word) m_fresh_word F_fresh_word b_fresh_word
  have c_put : ∀ n, CalP l.prog w K mg base (n + 43) "put_all" (R_put 40 n) := fun n => by
    induction n with
    | zero => exact CalP.of (FnG.never fun _ _ h => by obtain ⟨c, _, _, _, _, _, h0, _⟩ := h; have := dpos c; omega) m_put_all F_put_all b_put_all
    | succ n ih => exact CalP.of (fn_put_all F_put_all (c_in.mono (by omega)) ih (c_withc.mono (by omega)) ((c_free 40).mono (by omega)) (c_fresh.mono (by omega)) (fun _ _ h => by first | (obtain ⟨_, rfl, _⟩ := h; rfl) | (obtain ⟨_, _, rfl, _⟩ := h; rfl) | (obtain ⟨_, _, _, rfl, _⟩ := h; rfl) | (obtain ⟨_, _, _, _, rfl, _⟩ := h; rfl) | (obtain ⟨_, _, _, _, _, rfl, _⟩ := h; rfl) | (obtain ⟨_, _, _, _, _, _, rfl, _⟩ := h; rfl) | (obtain ⟨_, _, _, _, _, _, _, rfl, _⟩ := h; rfl) | (obtain ⟨_, _, _, _, _, _, _, _, rfl, _⟩ := h; rfl)) (p_put_all 40 n)) m_put_all F_put_all b_put_all
  have c_ren : CalP l.prog w K mg base 84 "renamed" (R_ren 40 40) := CalP.of (fn_renamed F_renamed ((c_put 40).mono (by omega)) (fun _ _ h => by first | (obtain ⟨_, rfl, _⟩ := h; rfl) | (obtain ⟨_, _, rfl, _⟩ := h; rfl) | (obtain ⟨_, _, _, rfl, _⟩ := h; rfl) | (obtain ⟨_, _, _, _, rfl, _⟩ := h; rfl) | (obtain ⟨_, _, _, _, _, rfl, _⟩ := h; rfl) | (obtain ⟨_, _, _, _, _, _, rfl, _⟩ := h; rfl) | (obtain ⟨_, _, _, _, _, _, _, rfl, _⟩ := h; rfl) | (obtain ⟨_, _, _, _, _, _, _, _, rfl, _⟩ := h; rfl)) (p_renamed 40 40)) m_renamed F_renamed b_renamed
  have c_fnames : CalP l.prog w K mg base 44 "free_names" (R_fnames 40) := CalP.of (fn_free_names F_free_names z_sorted ((c_free 40).mono (by omega)) (fun _ _ h => by first | (obtain ⟨_, rfl, _⟩ := h; rfl) | (obtain ⟨_, _, rfl, _⟩ := h; rfl) | (obtain ⟨_, _, _, rfl, _⟩ := h; rfl) | (obtain ⟨_, _, _, _, rfl, _⟩ := h; rfl) | (obtain ⟨_, _, _, _, _, rfl, _⟩ := h; rfl) | (obtain ⟨_, _, _, _, _, _, rfl, _⟩ := h; rfl) | (obtain ⟨_, _, _, _, _, _, _, rfl, _⟩ := h; rfl) | (obtain ⟨_, _, _, _, _, _, _, _, rfl, _⟩ := h; rfl)) (p_free_names 40)) m_free_names F_free_names b_free_names
  have c_al : ∀ n, CalP l.prog w K mg base (n + 2) "are_like" (R_al n) := fun n => by
    induction n with
    | zero => exact CalP.of (FnG.never fun _ _ h => by obtain ⟨c, _, _, _, h0, _⟩ := h; exact absurd c.size_pos (by omega)) m_are_like F_are_like b_are_like
    | succ n ih => exact CalP.of (fn_are_like F_are_like z_all z_len z_zip ih (c_in.mono (by omega)) (fun _ _ h => by first | (obtain ⟨_, rfl, _⟩ := h; rfl) | (obtain ⟨_, _, rfl, _⟩ := h; rfl) | (obtain ⟨_, _, _, rfl, _⟩ := h; rfl) | (obtain ⟨_, _, _, _, rfl, _⟩ := h; rfl) | (obtain ⟨_, _, _, _, _, rfl, _⟩ := h; rfl) | (obtain ⟨_, _, _, _, _, _, rfl, _⟩ := h; rfl) | (obtain ⟨_, _, _, _, _, _, _, rfl, _⟩ := h; rfl) | (obtain ⟨_, _, _, _, _, _, _, _, rfl, _⟩ := h; rfl)) (p_al n)) m_are_like F_are_like b_are_like
  have c_same : CalP l.prog w K mg base 104 "same_but_bound" R_same := CalP.of (fn_same_but_bound F_same_but_bound ((c_al 101).mono (by omega)) (fun _ _ h => by first | (obtain ⟨_, rfl, _⟩ := h; rfl) | (obtain ⟨_, _, rfl, _⟩ := h; rfl) | (obtain ⟨_, _, _, rfl, _⟩ := h; rfl) | (obtain ⟨_, _, _, _, rfl, _⟩ := h; rfl) | (obtain ⟨_, _, _, _, _, rfl, _⟩ := h; rfl) | (obtain ⟨_, _, _, _, _, _, rfl, _⟩ := h; rfl) | (obtain ⟨_, _, _, _, _, _, _, rfl, _⟩ := h; rfl) | (obtain ⟨_, _, _, _, _, _, _, _, rfl, _⟩ := h; rfl)) p_same) m_same_but_bound F_same_but_bound b_same_but_bound
  have c_take : CalP l.prog w K mg base 1 "_law_take" R_take := CalP.of (fn_L_take F_L_take z_int (fun _ _ h => by first | (obtain ⟨_, rfl, _⟩ := h; rfl) | (obtain ⟨_, _, rfl, _⟩ := h; rfl) | (obtain ⟨_, _, _, rfl, _⟩ := h; rfl) | (obtain ⟨_, _, _, _, rfl, _⟩ := h; rfl) | (obtain ⟨_, _, _, _, _, rfl, _⟩ := h; rfl) | (obtain ⟨_, _, _, _, _, _, rfl, _⟩ := h; rfl) | (obtain ⟨_, _, _, _, _, _, _, rfl, _⟩ := h; rfl) | (obtain ⟨_, _, _, _, _, _, _, _, rfl, _⟩ := h; rfl)) p_take) m_L_take F_L_take b_L_take
  have c_bag : BagP l.prog w K mg base 1 "_law_bag" := ⟨_, _, _, 1, _, by decide, Nat.le_refl _, fn_L_bag F_L_bag z_abs, m_L_bag, F_L_bag.kp, b_L_bag⟩
  have c_some : CalP l.prog w K mg base 2 "_law_some" R_some := CalP.of (fn_L_some F_L_some z_len (c_take.mono (by omega)) (fun _ _ h => by rcases h with ⟨_, rfl, _⟩ | ⟨_, rfl, _⟩ <;> rfl) p_some) m_L_some F_L_some b_L_some
  have c_mixed : CalP l.prog w K mg base 2 "_law_mixed" (R_mixed 16) := CalP.of (fn_L_mixed F_L_mixed z_len (c_take.mono (by omega)) (fun _ _ h => by obtain ⟨_, h | h, _⟩ := h <;> (subst h; rfl)) (p_mixed (by decide))) m_L_mixed F_L_mixed b_L_mixed
  have c_words : CalP l.prog w K mg base 3 "_law_words" R_words := CalP.of (fn_L_words F_L_words z_int (c_take.mono (by omega)) (c_mixed.mono (by omega)) (fun _ _ h => by first | (obtain ⟨_, rfl, _⟩ := h; rfl) | (obtain ⟨_, _, rfl, _⟩ := h; rfl) | (obtain ⟨_, _, _, rfl, _⟩ := h; rfl) | (obtain ⟨_, _, _, _, rfl, _⟩ := h; rfl) | (obtain ⟨_, _, _, _, _, rfl, _⟩ := h; rfl) | (obtain ⟨_, _, _, _, _, _, rfl, _⟩ := h; rfl) | (obtain ⟨_, _, _, _, _, _, _, rfl, _⟩ := h; rfl) | (obtain ⟨_, _, _, _, _, _, _, _, rfl, _⟩ := h; rfl)) p_words) m_L_words F_L_words b_L_words
  have c_names : CalP l.prog w K mg base 4 "_law_names_of" R_names := CalP.of (fn_L_names_of F_L_names_of z_int z_range (c_take.mono (by omega)) (c_words.mono (by omega)) (c_some.mono (by omega)) (fun _ _ h => by first | (obtain ⟨_, rfl, _⟩ := h; rfl) | (obtain ⟨_, _, rfl, _⟩ := h; rfl) | (obtain ⟨_, _, _, rfl, _⟩ := h; rfl) | (obtain ⟨_, _, _, _, rfl, _⟩ := h; rfl) | (obtain ⟨_, _, _, _, _, rfl, _⟩ := h; rfl) | (obtain ⟨_, _, _, _, _, _, rfl, _⟩ := h; rfl) | (obtain ⟨_, _, _, _, _, _, _, rfl, _⟩ := h; rfl) | (obtain ⟨_, _, _, _, _, _, _, _, rfl, _⟩ := h; rfl)) p_names) m_L_names_of F_L_names_of b_L_names_of
  have c_any : ∀ n, CalP l.prog w K mg base (n + 3) "_law_any" (R_any n) := fun n => by
    induction n with
    | zero => exact CalP.of (FnG.never fun _ _ h => by obtain ⟨_, _, _, _, _, _, h0, h1, _⟩ := h; omega) m_L_any F_L_any b_L_any
    | succ n ih => exact CalP.of (fn_L_any F_L_any z_int z_min z_range z_tuple (c_take.mono (by omega)) (c_some.mono (by omega)) ih (fun _ _ h => by first | (obtain ⟨_, rfl, _⟩ := h; rfl) | (obtain ⟨_, _, rfl, _⟩ := h; rfl) | (obtain ⟨_, _, _, rfl, _⟩ := h; rfl) | (obtain ⟨_, _, _, _, rfl, _⟩ := h; rfl) | (obtain ⟨_, _, _, _, _, rfl, _⟩ := h; rfl) | (obtain ⟨_, _, _, _, _, _, rfl, _⟩ := h; rfl) | (obtain ⟨_, _, _, _, _, _, _, rfl, _⟩ := h; rfl) | (obtain ⟨_, _, _, _, _, _, _, _, rfl, _⟩ := h; rfl)) (p_any n)) m_L_any F_L_any b_L_any
  have c_parts : ∀ n, CalP l.prog w K mg base (n + 2) "_law_parts_of" (R_parts n) := fun n => by
    induction n with
    | zero => exact CalP.of (FnG.never fun _ _ h => by obtain ⟨c, _, h0, _⟩ := h; have := dpos c; omega) m_L_parts_of F_L_parts_of b_L_parts_of
    | succ n ih => exact CalP.of (fn_L_parts_of F_L_parts_of (c_inner.mono (by omega)) ih (fun _ _ h => by first | (obtain ⟨_, rfl, _⟩ := h; rfl) | (obtain ⟨_, _, rfl, _⟩ := h; rfl) | (obtain ⟨_, _, _, rfl, _⟩ := h; rfl) | (obtain ⟨_, _, _, _, rfl, _⟩ := h; rfl) | (obtain ⟨_, _, _, _, _, rfl, _⟩ := h; rfl) | (obtain ⟨_, _, _, _, _, _, rfl, _⟩ := h; rfl) | (obtain ⟨_, _, _, _, _, _, _, rfl, _⟩ := h; rfl) | (obtain ⟨_, _, _, _, _, _, _, _, rfl, _⟩ := h; rfl)) (p_parts_of n)) m_L_parts_of F_L_parts_of b_L_parts_of
  have c_ans : ∀ n, CalP l.prog w K mg base (n + 2) "_law_answer" (R_ans n) := fun n => by
    induction n with
    | zero => exact CalP.of (FnG.never fun _ _ h => by obtain ⟨c, _, _, _, _, _, _, _, h0, _⟩ := h; have := dpos c; omega) m_L_answer F_L_answer b_L_answer
    | succ n ih => exact CalP.of (fn_L_answer F_L_answer z_dict z_len z_list z_tuple ih (fun _ _ h => by first | (obtain ⟨_, rfl, _⟩ := h; rfl) | (obtain ⟨_, _, rfl, _⟩ := h; rfl) | (obtain ⟨_, _, _, rfl, _⟩ := h; rfl) | (obtain ⟨_, _, _, _, rfl, _⟩ := h; rfl) | (obtain ⟨_, _, _, _, _, rfl, _⟩ := h; rfl) | (obtain ⟨_, _, _, _, _, _, rfl, _⟩ := h; rfl) | (obtain ⟨_, _, _, _, _, _, _, rfl, _⟩ := h; rfl) | (obtain ⟨_, _, _, _, _, _, _, _, rfl, _⟩ := h; rfl)) (p_answer n)) m_L_answer F_L_answer b_L_answer
  have c_world : CalP l.prog w K mg base 2 "_law_world" R_world := CalP.of (fn_L_world F_L_world z_dict z_range (c_take.mono (by omega)) (fun _ _ h => by first | (obtain ⟨_, rfl, _⟩ := h; rfl) | (obtain ⟨_, _, rfl, _⟩ := h; rfl) | (obtain ⟨_, _, _, rfl, _⟩ := h; rfl) | (obtain ⟨_, _, _, _, rfl, _⟩ := h; rfl) | (obtain ⟨_, _, _, _, _, rfl, _⟩ := h; rfl) | (obtain ⟨_, _, _, _, _, _, rfl, _⟩ := h; rfl) | (obtain ⟨_, _, _, _, _, _, _, rfl, _⟩ := h; rfl) | (obtain ⟨_, _, _, _, _, _, _, _, rfl, _⟩ := h; rfl)) p_world) m_L_world F_L_world b_L_world
  have c_leaf : CalP l.prog w K mg base 3 "_law_leaf" R_leaf := CalP.of (fn_L_leaf F_L_leaf (c_take.mono (by omega)) (c_some.mono (by omega)) (fun _ _ h => by first | (obtain ⟨_, rfl, _⟩ := h; rfl) | (obtain ⟨_, _, rfl, _⟩ := h; rfl) | (obtain ⟨_, _, _, rfl, _⟩ := h; rfl) | (obtain ⟨_, _, _, _, rfl, _⟩ := h; rfl) | (obtain ⟨_, _, _, _, _, rfl, _⟩ := h; rfl) | (obtain ⟨_, _, _, _, _, _, rfl, _⟩ := h; rfl) | (obtain ⟨_, _, _, _, _, _, _, rfl, _⟩ := h; rfl) | (obtain ⟨_, _, _, _, _, _, _, _, rfl, _⟩ := h; rfl)) p_leaf) m_L_leaf F_L_leaf b_L_leaf
  have c_term : ∀ n, CalP l.prog w K mg base (n + 4) "_law_term" (R_term n) := fun n => by
    induction n with
    | zero => exact CalP.of (FnG.never fun _ _ h => by obtain ⟨_, _, _, _, _, _, _, h0, _⟩ := h; omega) m_L_term F_L_term b_L_term
    | succ n ih => exact CalP.of (fn_L_term F_L_term z_int z_range z_tuple (c_take.mono (by omega)) (c_leaf.mono (by omega)) ih (fun _ _ h => by first | (obtain ⟨_, rfl, _⟩ := h; rfl) | (obtain ⟨_, _, rfl, _⟩ := h; rfl) | (obtain ⟨_, _, _, rfl, _⟩ := h; rfl) | (obtain ⟨_, _, _, _, rfl, _⟩ := h; rfl) | (obtain ⟨_, _, _, _, _, rfl, _⟩ := h; rfl) | (obtain ⟨_, _, _, _, _, _, rfl, _⟩ := h; rfl) | (obtain ⟨_, _, _, _, _, _, _, rfl, _⟩ := h; rfl) | (obtain ⟨_, _, _, _, _, _, _, _, rfl, _⟩ := h; rfl)) (p_term n)) m_L_term F_L_term b_L_term
  have c_code : ∀ n, CalP l.prog w K mg base (n + 8) "_law_code" (R_code n) := fun n => by
    induction n with
    | zero => exact CalP.of (FnG.never fun _ _ h => by obtain ⟨_, _, _, _, _, _, _, h0, _⟩ := h; omega) m_L_code F_L_code b_L_code
    | succ n ih => exact CalP.of (fn_L_code F_L_code z_int z_range (c_take.mono (by omega)) ((c_term 3).mono (by omega)) (c_some.mono (by omega)) ih (fun _ _ h => by first | (obtain ⟨_, rfl, _⟩ := h; rfl) | (obtain ⟨_, _, rfl, _⟩ := h; rfl) | (obtain ⟨_, _, _, rfl, _⟩ := h; rfl) | (obtain ⟨_, _, _, _, rfl, _⟩ := h; rfl) | (obtain ⟨_, _, _, _, _, rfl, _⟩ := h; rfl) | (obtain ⟨_, _, _, _, _, _, rfl, _⟩ := h; rfl) | (obtain ⟨_, _, _, _, _, _, _, rfl, _⟩ := h; rfl) | (obtain ⟨_, _, _, _, _, _, _, _, rfl, _⟩ := h; rfl)) (p_code n)) m_L_code F_L_code b_L_code
  have c_lfree : ∀ n, CalP l.prog w K mg base (n + 2) "_law_free" (R_lfree n) := fun n => by
    induction n with
    | zero => exact CalP.of (FnG.never fun _ _ h => by obtain ⟨c, _, _, _, _, h0, _⟩ := h; have := dpos c; omega) m_L_free F_L_free b_L_free
    | succ n ih => exact CalP.of (fn_L_free F_L_free z_int z_range ih (c_inner.mono (by omega)) (fun _ _ h => by first | (obtain ⟨_, rfl, _⟩ := h; rfl) | (obtain ⟨_, _, rfl, _⟩ := h; rfl) | (obtain ⟨_, _, _, rfl, _⟩ := h; rfl) | (obtain ⟨_, _, _, _, rfl, _⟩ := h; rfl) | (obtain ⟨_, _, _, _, _, rfl, _⟩ := h; rfl) | (obtain ⟨_, _, _, _, _, _, rfl, _⟩ := h; rfl) | (obtain ⟨_, _, _, _, _, _, _, rfl, _⟩ := h; rfl) | (obtain ⟨_, _, _, _, _, _, _, _, rfl, _⟩ := h; rfl)) (p_lfree n)) m_L_free F_L_free b_L_free
  have c_num : ∀ n, CalP l.prog w K mg base (n + 2) "_law_numbered" (R_num n) := fun n => by
    induction n with
    | zero => exact CalP.of (FnG.never fun _ _ h => by obtain ⟨c, _, _, _, _, _, _, _, h0, _⟩ := h; have := dpos c; omega) m_L_numbered F_L_numbered b_L_numbered
    | succ n ih => exact CalP.of (fn_L_numbered F_L_numbered z_tuple ih (c_inner.mono (by omega)) (fun _ _ h => by first | (obtain ⟨_, rfl, _⟩ := h; rfl) | (obtain ⟨_, _, rfl, _⟩ := h; rfl) | (obtain ⟨_, _, _, rfl, _⟩ := h; rfl) | (obtain ⟨_, _, _, _, rfl, _⟩ := h; rfl) | (obtain ⟨_, _, _, _, _, rfl, _⟩ := h; rfl) | (obtain ⟨_, _, _, _, _, _, rfl, _⟩ := h; rfl) | (obtain ⟨_, _, _, _, _, _, _, rfl, _⟩ := h; rfl) | (obtain ⟨_, _, _, _, _, _, _, _, rfl, _⟩ := h; rfl)) (p_num n)) m_L_numbered F_L_numbered b_L_numbered
  have c_led : CalP l.prog w K mg base 50 "_law_led" R_led := CalP.of (fn_L_led F_L_led z_dict z_int z_len z_list z_range z_set z_sorted ((c_lfree 40).mono (by omega)) (c_take.mono (by omega)) ((c_parts 40).mono (by omega)) (c_words.mono (by omega)) (c_mixed.mono (by omega)) (fun _ _ h => by first | (obtain ⟨_, rfl, _⟩ := h; rfl) | (obtain ⟨_, _, rfl, _⟩ := h; rfl) | (obtain ⟨_, _, _, rfl, _⟩ := h; rfl) | (obtain ⟨_, _, _, _, rfl, _⟩ := h; rfl) | (obtain ⟨_, _, _, _, _, rfl, _⟩ := h; rfl) | (obtain ⟨_, _, _, _, _, _, rfl, _⟩ := h; rfl) | (obtain ⟨_, _, _, _, _, _, _, rfl, _⟩ := h; rfl) | (obtain ⟨_, _, _, _, _, _, _, _, rfl, _⟩ := h; rfl)) p_led) m_L_led F_L_led b_L_led
  exact fn_law (n := 111) F_law z_dict z_list z_range z_repr z_set z_sorted ⟨let ⟨f, fd, ps, k, c, h0, h1, r⟩ := c_bag.ex; ⟨f, fd, ps, k, c, h0, by omega, r⟩⟩ (c_take.mono (by omega)) (c_names.mono (by omega)) ((c_code 3).mono (by omega)) ((c_term 3).mono (by omega)) (c_some.mono (by omega)) (c_led.mono (by omega)) (c_ren.mono (by omega)) ((c_any 31).mono (by omega)) ((c_num 40).mono (by omega)) ((c_iscode 40).mono (by omega)) (c_fnames.mono (by omega)) ((c_lfree 40).mono (by omega)) (c_same.mono (by omega)) (c_world.mono (by omega)) ((c_ans 40).mono (by omega)) hS p_law

end K15

open PySem PySem.W PyProof.Rows in
set_option maxRecDepth 100000 in
set_option maxHeartbeats 0 in
theorem PySem.Challenge.cw_farcatch_k15_whole_names_for_names_holds : PySem.Challenge.rw_farcatch_k15_whole_names_for_names.Holds := by
  w_on; o_law; k_head; (case hw => w_witness2)
  k_fill
  refine DL.walkG2 (l := PySem.Challenge.rw_farcatch_k15_whole_names_for_names) (k := 112) (x := "_law_script") rfl rfl ⟨rfl, by decide, by decide⟩ rfl (fun w h Y => PySem.W.kIn_of Y) ?F
  case F =>
    intro w mg fa h KX G hmg
    refine' K15.all_mk KX G hmg ?a1 ?l1 ?c1 ?k1 ?a2 ?l2 ?c2 ?k2 ?a3 ?l3 ?c3 ?k3 ?a4 ?l4 ?c4 ?k4 ?a5 ?l5 ?c5 ?k5 ?a6 ?l6 ?c6 ?k6 ?a7 ?l7 ?c7 ?k7 ?a8 ?l8 ?c8 ?k8 ?a9 ?l9 ?c9 ?k9 ?a10 ?l10 ?c10 ?k10 ?a11 ?l11 ?c11 ?k11 ?a12 ?l12 ?c12 ?k12 ?a13 ?l13 ?c13 ?k13 ?a14 ?l14 ?c14 ?k14 ?a15 ?l15 ?c15 ?k15 ?a16 ?l16 ?c16 ?k16 ?a17 ?l17 ?c17 ?k17 ?a18 ?l18 ?c18 ?k18 ?a19 ?l19 ?c19 ?k19 ?a20 ?l20 ?c20 ?k20 ?a21 ?l21 ?c21 ?k21 ?a22 ?l22 ?c22 ?k22 ?a23 ?l23 ?c23 ?k23 ?a24 ?l24 ?c24 ?k24 ?a25 ?l25 ?c25 ?k25 ?a26 ?l26 ?c26 ?k26 ?a27 ?l27 ?c27 ?k27 ?a28 ?l28 ?c28 ?k28 ?a29 ?l29 ?c29 ?k29 ?a30 ?l30 ?c30 ?k30 ?a31 ?l31 ?c31 ?k31 ?a32 ?l32 ?c32 ?k32 ?y_abs ?y_all ?y_bool ?y_dict ?y_enumerate ?y_int ?y_isinstance ?y_len ?y_list ?y_min ?y_range ?y_repr ?y_set ?y_sorted ?y_str ?y_tuple ?y_zip ?aX_LETTERS ?aT_LENGTHS ?lT_LENGTHS ?qT_LENGTHS ?eT_LENGTHS ?sT_LENGTHS
    (case a1 => k_is)
    (case l1 => k_is)
    (case c1 => k_is)
    (case k1 => k_is)
    (case a2 => k_is)
    (case l2 => k_is)
    (case c2 => k_is)
    (case k2 => k_is)
    (case a3 => k_is)
    (case l3 => k_is)
    (case c3 => k_is)
    (case k3 => k_is)
    (case a4 => k_is)
    (case l4 => k_is)
    (case c4 => k_is)
    (case k4 => k_is)
    (case a5 => k_is)
    (case l5 => k_is)
    (case c5 => k_is)
    (case k5 => k_is)
    (case a6 => k_is)
    (case l6 => k_is)
    (case c6 => k_is)
    (case k6 => k_is)
    (case a7 => k_is)
    (case l7 => k_is)
    (case c7 => k_is)
    (case k7 => k_is)
    (case a8 => k_is)
    (case l8 => k_is)
    (case c8 => k_is)
    (case k8 => k_is)
    (case a9 => k_is)
    (case l9 => k_is)
    (case c9 => k_is)
    (case k9 => k_is)
    (case a10 => k_is)
    (case l10 => k_is)
    (case c10 => k_is)
    (case k10 => k_is)
    (case a11 => k_is)
    (case l11 => k_is)
    (case c11 => k_is)
    (case k11 => k_is)
    (case a12 => k_is)
    (case l12 => k_is)
    (case c12 => k_is)
    (case k12 => k_is)
    (case a13 => k_is)
    (case l13 => k_is)
    (case c13 => k_is)
    (case k13 => k_is)
    (case a14 => k_is)
    (case l14 => k_is)
    (case c14 => k_is)
    (case k14 => k_is)
    (case a15 => k_is)
    (case l15 => k_is)
    (case c15 => k_is)
    (case k15 => k_is)
    (case a16 => k_is)
    (case l16 => k_is)
    (case c16 => k_is)
    (case k16 => k_is)
    (case a17 => k_is)
    (case l17 => k_is)
    (case c17 => k_is)
    (case k17 => k_is)
    (case a18 => k_is)
    (case l18 => k_is)
    (case c18 => k_is)
    (case k18 => k_is)
    (case a19 => k_is)
    (case l19 => k_is)
    (case c19 => k_is)
    (case k19 => k_is)
    (case a20 => k_is)
    (case l20 => k_is)
    (case c20 => k_is)
    (case k20 => k_is)
    (case a21 => k_is)
    (case l21 => k_is)
    (case c21 => k_is)
    (case k21 => k_is)
    (case a22 => k_is)
    (case l22 => k_is)
    (case c22 => k_is)
    (case k22 => k_is)
    (case a23 => k_is)
    (case l23 => k_is)
    (case c23 => k_is)
    (case k23 => k_is)
    (case a24 => k_is)
    (case l24 => k_is)
    (case c24 => k_is)
    (case k24 => k_is)
    (case a25 => k_is)
    (case l25 => k_is)
    (case c25 => k_is)
    (case k25 => k_is)
    (case a26 => k_is)
    (case l26 => k_is)
    (case c26 => k_is)
    (case k26 => k_is)
    (case a27 => k_is)
    (case l27 => k_is)
    (case c27 => k_is)
    (case k27 => k_is)
    (case a28 => k_is)
    (case l28 => k_is)
    (case c28 => k_is)
    (case k28 => k_is)
    (case a29 => k_is)
    (case l29 => k_is)
    (case c29 => k_is)
    (case k29 => k_is)
    (case a30 => k_is)
    (case l30 => k_is)
    (case c30 => k_is)
    (case k30 => k_is)
    (case a31 => k_is)
    (case l31 => k_is)
    (case c31 => k_is)
    (case k31 => k_is)
    (case a32 => k_is)
    (case l32 => k_is)
    (case c32 => k_is)
    (case k32 => k_is)
    (case y_abs => k_is)
    (case y_all => k_is)
    (case y_bool => k_is)
    (case y_dict => k_is)
    (case y_enumerate => k_is)
    (case y_int => k_is)
    (case y_isinstance => k_is)
    (case y_len => k_is)
    (case y_list => k_is)
    (case y_min => k_is)
    (case y_range => k_is)
    (case y_repr => k_is)
    (case y_set => k_is)
    (case y_sorted => k_is)
    (case y_str => k_is)
    (case y_tuple => k_is)
    (case y_zip => k_is)
    (case aX_LETTERS => k_is)
    (case aT_LENGTHS => k_is)
    (case lT_LENGTHS => k_is)
    (case qT_LENGTHS => (repeat first | exact trivial | refine ⟨⟨_, _, rfl, rfl⟩, ?_⟩))
    (case eT_LENGTHS => rfl)
    (case sT_LENGTHS => rfl)

