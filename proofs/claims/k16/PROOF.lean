import PyProof.Rows.All
import Wide.All
import OpenK.AllK
import Wide.FinOn
import HandS.ForMost
import HandS.TupAny
import HandS.Style
import HandS.Flow
import HandS.More
import HandS.Zip
import HandS.Star
import HandS.Deep
import KE.GoesEnum
import PySem.Challenge.RW_farcatch_k16_same_but_for_bound_names
set_option Elab.async false
set_option linter.all false
set_option maxRecDepth 100000
set_option maxHeartbeats 1000000
/-! DL: a layer of data over HandS. -/
namespace DL
open PySem L2

/-- what a value stands for -/
inductive D where
  | non | bl (b : Bool) | int (i : Int) | str (x : Str)
  | lst (ds : List D) | tup (ds : List D) | dic (t : Bool) (kvs : List (D × D))
  | ins (C : Addr) (fs : List (Str × D)) | bag

/-- bg: where the bag stands, bi: its list; own: what data never reach -/
structure Gh where
  bg : Addr
  bi : Addr
  own : Addr → Prop

def kD : Key → D
  | .inl i => .int i
  | .inr x => .str x

mutual
def Dt (K : PySem.W.Frag) (G : Gh) (H : Hp) : D → V → Prop
  | .non, v => v = .non
  | .bl b, v => v = .bl b
  | .int i, v => v = .int i
  | .str x, v => v = .str x
  | .lst ds, v => ∃ a xs, v = .ref a ∧ ¬ G.own a ∧ H a = some (.lst xs) ∧ DtL K G H ds xs
  | .tup ds, v => ∃ a xs, v = .ref a ∧ SqT K H a xs ∧ DtL K G H ds xs
  | .dic t es, v => ∃ a, v = .ref a ∧ ¬ G.own a ∧ ((∃ kvs, Rd H a (.dK kvs) ∧ DtP K G H t es kvs) ∨ ∃ kvs, Rd H a (.dT kvs) ∧ DtQ K G H t es kvs)
  | .ins C fs, v => ∃ a dx vs, v = .ref a ∧ ¬ G.own a ∧ H a = some (.ins C dx vs) ∧ DtF K G H fs vs
  | .bag, v => v = .ref G.bg
def DtL (K : PySem.W.Frag) (G : Gh) (H : Hp) : List D → List V → Prop
  | [], xs => xs = []
  | d :: ds, xs => ∃ x r, xs = x :: r ∧ Dt K G H d x ∧ DtL K G H ds r
def DtP (K : PySem.W.Frag) (G : Gh) (H : Hp) (t : Bool) : List (D × D) → List (Key × V) → Prop
  | [], kvs => kvs = [] ∧ t = false
  | (k, d) :: es, kvs => ∃ j v r, kvs = (j, v) :: r ∧ k = kD j ∧ Dt K G H d v ∧ DtP K G H t es r
def DtQ (K : PySem.W.Frag) (G : Gh) (H : Hp) (t : Bool) : List (D × D) → List (List Key × V) → Prop
  | [], kvs => kvs = [] ∧ t = true
  | (k, d) :: es, kvs => ∃ j v r, kvs = (j, v) :: r ∧ k = .tup (j.map kD) ∧ Dt K G H d v ∧ DtQ K G H t es r
def DtF (K : PySem.W.Frag) (G : Gh) (H : Hp) : List (Str × D) → List (Str × V) → Prop
  | [], kvs => kvs = []
  | (k, d) :: es, kvs => ∃ v r, kvs = (k, v) :: r ∧ Dt K G H d v ∧ DtF K G H es r
end

theorem Rd.kp {H H' : Hp} {a : Addr} {u : HO} (k : ∀ o, H a = some o → H' a = some o) (h : Rd H a u) : Rd H' a u := by
  rcases h with h | ⟨o, h⟩
  · exact .inl (k _ h)
  · exact .inr ⟨o, k _ h⟩

section
variable {K : PySem.W.Frag} {G G' : Gh} {H H' : Hp}
/-- a change of what is mutable and owned alone leaves all data -/
structure Evo (G G' : Gh) (H H' : Hp) : Prop where
  keep : ∀ a o, ¬ G.own a → H a = some o → H' a = some o
  tr : ∀ a, G.own a → Mut (H a)
  out : ∀ a, ¬ G.own a → H a ≠ none → ¬ G'.own a
  bg : G'.bg = G.bg
  bi : G'.bi = G.bi
theorem Evo.sq {xs : List V} {a : Addr} (e : Evo G G' H H') (h : SqT K H a xs) : SqT K H' a xs := by
  rcases h with h | h
  · refine .inl (Rd.kp (fun o q => e.keep a o (fun z => ?_) q) h)
    have m := e.tr a z
    rcases h with h | ⟨o, h⟩ <;> rw [h] at m <;> exact m
  · exact .inr h
theorem Evo.rd {u : HO} {a : Addr} (e : Evo G G' H H') (n : ¬ G.own a) (h : Rd H a u) : ¬ G'.own a ∧ Rd H' a u :=
  ⟨e.out a n (by rcases h with h | ⟨o, h⟩ <;> rw [h] <;> exact fun z => nomatch z), Rd.kp (fun o q => e.keep a o n q) h⟩

mutual
theorem Evo.dt (e : Evo G G' H H') : ∀ (d : D) (v : V), Dt K G H d v → Dt K G' H' d v
  | .non, v, h => h
  | .bl b, v, h => h
  | .int i, v, h => h
  | .str x, v, h => h
  | .lst ds, v, h => by
    obtain ⟨a, xs, h1, h2, h3, h4⟩ := h
    exact ⟨a, xs, h1, e.out a h2 (by rw [h3]; exact fun z => nomatch z), e.keep a _ h2 h3, Evo.dts e ds xs h4⟩
  | .tup ds, v, h => by
    obtain ⟨a, xs, h1, h3, h4⟩ := h
    exact ⟨a, xs, h1, e.sq h3, Evo.dts e ds xs h4⟩
  | .dic t es, v, h => by
    obtain ⟨a, h1, h2, h3⟩ := h
    rcases h3 with ⟨kvs, h3, h4⟩ | ⟨kvs, h3, h4⟩
    · obtain ⟨n, r⟩ := e.rd h2 h3
      exact ⟨a, h1, n, .inl ⟨kvs, r, Evo.dtp e t es kvs h4⟩⟩
    · obtain ⟨n, r⟩ := e.rd h2 h3
      exact ⟨a, h1, n, .inr ⟨kvs, r, Evo.dtq e t es kvs h4⟩⟩
  | .ins C fs, v, h => by
    obtain ⟨a, dx, vs, h1, h2, h3, h4⟩ := h
    exact ⟨a, dx, vs, h1, e.out a h2 (by rw [h3]; exact fun z => nomatch z), e.keep a _ h2 h3, Evo.dtf e fs vs h4⟩
  | .bag, v, h => by
    have h' : v = .ref G.bg := h
    show v = .ref G'.bg
    rw [e.bg]; exact h'
theorem Evo.dts (e : Evo G G' H H') : ∀ (ds : List D) (xs : List V), DtL K G H ds xs → DtL K G' H' ds xs
  | [], xs, h => h
  | d :: ds, xs, h => by
    obtain ⟨x, r, h1, h2, h3⟩ := h
    exact ⟨x, r, h1, Evo.dt e d x h2, Evo.dts e ds r h3⟩
theorem Evo.dtp (e : Evo G G' H H') : ∀ (t : Bool) (es : List (D × D)) (kvs : List (Key × V)), DtP K G H t es kvs → DtP K G' H' t es kvs
  | t, [], xs, h => h
  | t, (k, d) :: es, kvs, h => by
    obtain ⟨j, v, r, h1, h2, h3, h4⟩ := h
    exact ⟨j, v, r, h1, h2, Evo.dt e d v h3, Evo.dtp e t es r h4⟩
theorem Evo.dtq (e : Evo G G' H H') : ∀ (t : Bool) (es : List (D × D)) (kvs : List (List Key × V)), DtQ K G H t es kvs → DtQ K G' H' t es kvs
  | t, [], xs, h => h
  | t, (k, d) :: es, kvs, h => by
    obtain ⟨j, v, r, h1, h2, h3, h4⟩ := h
    exact ⟨j, v, r, h1, h2, Evo.dt e d v h3, Evo.dtq e t es r h4⟩
theorem Evo.dtf (e : Evo G G' H H') : ∀ (es : List (Str × D)) (kvs : List (Str × V)), DtF K G H es kvs → DtF K G' H' es kvs
  | [], xs, h => h
  | (k, d) :: es, kvs, h => by
    obtain ⟨v, r, h1, h3, h4⟩ := h
    exact ⟨v, r, h1, Evo.dt e d v h3, Evo.dtf e es r h4⟩
end
end
end DL

set_option Elab.async false
set_option linter.all false
set_option maxRecDepth 100000
set_option maxHeartbeats 1000000
namespace DL
open PySem L2

/-- the bag of a law: its number, its seed, its place, the script's numbers -/
def BagOk (H : Hp) (bg bi : Addr) : Prop := ∃ (x y z : Int) (ns : List Int), H bg = some (.lst [.int x, .int y, .int z, .ref bi]) ∧ H bi = some (.lst (ns.map V.int)) ∧
  0 ≤ x ∧ 0 ≤ y ∧ 0 ≤ z ∧ (∀ n ∈ ns, 0 ≤ n) ∧ ns.length ≤ 63
theorem BagOk.ne {H : Hp} {bg bi : Addr} (h : BagOk H bg bi) : H bg ≠ none := by
  obtain ⟨x, y, z, ns, h1, _⟩ := h
  rw [h1]; exact fun z => nomatch z

/-- what an expression may do -/
structure Ext (G : Gh) (H H' : Hp) : Prop where
  keep : ∀ a o, a ≠ G.bg → H a = some o → H' a = some o
  bag : BagOk H' G.bg G.bi
theorem Ext.refl {G : Gh} {H : Hp} (b : BagOk H G.bg G.bi) : Ext G H H := ⟨fun _ _ _ h => h, b⟩
theorem Ext.trans {G : Gh} {H H1 H2 : Hp} (a : Ext G H H1) (b : Ext G H1 H2) : Ext G H H2 := ⟨fun x o n h => b.keep x o n (a.keep x o n h), b.bag⟩
theorem Ext.free {G : Gh} {H H1 : Hp} {p : Addr} (a : Ext G H H1) (b : BagOk H G.bg G.bi) (h : H1 p = none) : H p = none := by
  cases q : H p with
  | none => rfl
  | some o =>
    by_cases e : p = G.bg
    · subst e; exact absurd h a.bag.ne
    · rw [a.keep p o e q] at h; cases h
theorem Ext.cg {G G' : Gh} {H H' : Hp} (e : G'.bg = G.bg) (e2 : G'.bi = G.bi) (x : Ext G H H') : Ext G' H H' := ⟨fun a o n h => x.keep a o (by rw [← e]; exact n) h, by rw [e, e2]; exact x.bag⟩
theorem BagOk.kept {H H' : Hp} {bg bi : Addr} (h : BagOk H bg bi) (k : ∀ a o, H a = some o → H' a = some o) : BagOk H' bg bi := by
  obtain ⟨x, y, z, ns, h1, h2, r⟩ := h
  exact ⟨x, y, z, ns, k _ _ h1, k _ _ h2, r⟩
/-- what stands at any time -/
structure GOk (G : Gh) (H : Hp) : Prop where
  ob : G.own G.bg
  oi : G.own G.bi
  tr : ∀ a, G.own a → Mut (H a)
  bag : BagOk H G.bg G.bi
theorem Ext.all {G : Gh} {H H' : Hp} (b : BagOk H G.bg G.bi) (k : ∀ a o, H a = some o → H' a = some o) : Ext G H H' := ⟨fun a o _ h => k a o h, b.kept k⟩
theorem Ext.new {G : Gh} {H : Hp} {p : Addr} {o : HO} (b : BagOk H G.bg G.bi) (h : H p = none) : Ext G H (upd H p o) :=
  .all b fun a u e => by rw [upd_ne (ne_of_none e h)]; exact e

/-- what a name of a def may hold: nothing known, data, a list of its own, a dict of its own -/
inductive Sl where
  | un | dat (d : D) | ml (ds : List D) | md (t : Bool) (es : List (D × D))
def Sl.isM : Sl → Bool
  | .ml _ => true
  | .md _ _ => true
  | _ => false
structure Fr where
  K : PySem.W.Frag
  G : Gh
  H : Hp
  pn : List (V × D)
abbrev Fr.pin (F : Fr) (l : List (V × D)) : Fr := { F with pn := l ++ F.pn }
def SlR (F : Fr) (G : Gh) (H : Hp) : Sl → Option V → Prop
  | .un, _ => True
  | .dat d, o => ∃ v, o = some v ∧ Dt F.K G H d v
  | .ml ds, o => ∃ p xs, o = some (.ref p) ∧ G.own p ∧ ¬ F.G.own p ∧ H p = some (.lst xs) ∧ DtL F.K G H ds xs
  | .md t es, o => ∃ p, o = some (.ref p) ∧ G.own p ∧ ¬ F.G.own p ∧ ((∃ kvs, H p = some (.dK kvs) ∧ DtP F.K G H t es kvs) ∨ ∃ kvs, H p = some (.dT kvs) ∧ DtQ F.K G H t es kvs)
def Slots (F : Fr) (G : Gh) (H : Hp) : List Sl → St → Prop
  | [], σ => σ = []
  | s :: ρ, σ => ∃ o r, σ = o :: r ∧ SlR F G H s o ∧ Slots F G H ρ r
structure Rel (F : Fr) (G : Gh) (H : Hp) (σ : St) (ρ : List Sl) : Prop where
  bg : G.bg = F.G.bg
  bi : G.bi = F.G.bi
  ob : F.G.own F.G.bg
  oi : F.G.own F.G.bi
  sub : ∀ a, F.G.own a → G.own a
  new : ∀ a, G.own a → ¬ F.G.own a → F.H a = none
  tr : ∀ a, G.own a → Mut (H a)
  ext : Ext F.G F.H H
  pn : ∀ q ∈ F.pn, Dt F.K G H q.2 q.1
  sl : Slots F G H ρ σ
  uniq : ∀ (i j : Nat) (s t : Sl) (p : Addr), ρ[i]? = some s → ρ[j]? = some t → s.isM = true → t.isM = true → σ[i]? = some (some (.ref p)) → σ[j]? = some (some (.ref p)) → i = j

theorem Slots.get {F : Fr} {G : Gh} {H : Hp} : ∀ {ρ : List Sl} {σ : St} {i : Nat} {s : Sl}, Slots F G H ρ σ → ρ[i]? = some s → ∃ o, σ[i]? = some o ∧ SlR F G H s o
  | [], _, i, s, _, e => by simp at e
  | a :: ρ, σ, 0, s, h, e => by
    obtain ⟨o, r, rfl, h1, h2⟩ := h
    simp at e; subst e
    exact ⟨o, rfl, h1⟩
  | a :: ρ, σ, i + 1, s, h, e => by
    obtain ⟨o, r, rfl, h1, h2⟩ := h
    obtain ⟨o', e1, e2⟩ := Slots.get (i := i) h2 (by simpa using e)
    exact ⟨o', by simpa using e1, e2⟩
theorem Slots.set {F : Fr} {G : Gh} {H : Hp} {s : Sl} {o : Option V} (x : SlR F G H s o) : ∀ {ρ : List Sl} {σ : St} (i : Nat), Slots F G H ρ σ → Slots F G H (ρ.set i s) (σ.set i o)
  | [], σ, i, h => by
    have h' : σ = [] := h
    subst h'
    exact rfl
  | a :: ρ, σ, 0, h => by
    obtain ⟨q, r, rfl, h1, h2⟩ := h
    exact ⟨o, r, rfl, x, h2⟩
  | a :: ρ, σ, i + 1, h => by
    obtain ⟨q, r, rfl, h1, h2⟩ := h
    exact ⟨q, r.set i o, rfl, h1, Slots.set x i h2⟩
theorem Slots.map {F F' : Fr} {G G' : Gh} {H H' : Hp} (f : ∀ s o, SlR F G H s o → SlR F' G' H' s o) : ∀ {ρ : List Sl} {σ : St}, Slots F G H ρ σ → Slots F' G' H' ρ σ
  | [], _, h => h
  | a :: ρ, σ, h => by
    obtain ⟨q, r, rfl, h1, h2⟩ := h
    exact ⟨q, r, rfl, f _ _ h1, Slots.map f h2⟩
theorem Slots.len {F : Fr} {G : Gh} {H : Hp} : ∀ {ρ : List Sl} {σ : St}, Slots F G H ρ σ → ρ.length = σ.length
  | [], _, h => by
    have h' : _ = [] := h
    rw [h']; rfl
  | a :: ρ, σ, h => by
    obtain ⟨q, r, rfl, h1, h2⟩ := h
    simp [Slots.len h2]

section
variable {F : Fr} {G G' : Gh} {H H' : Hp} {σ : St} {ρ : List Sl}
theorem Rel.obg (r : Rel F G H σ ρ) : G.own G.bg := by rw [r.bg]; exact r.sub _ r.ob
theorem Rel.bag (r : Rel F G H σ ρ) : BagOk H G.bg G.bi := by rw [r.bg, r.bi]; exact r.ext.bag
theorem Rel.ok (r : Rel F G H σ ρ) : GOk G H := ⟨r.obg, by rw [r.bi]; exact r.sub _ r.oi, r.tr, r.bag⟩
theorem Rel.free (r : Rel F G H σ ρ) {p : Addr} (h : H p = none) : ¬ G.own p := fun z => by
  have m := r.tr p z
  rw [h] at m; exact m
theorem Rel.evo (r : Rel F G H σ ρ) (e : Ext G H H') : Evo G G H H' :=
  ⟨fun a o n h => e.keep a o (fun z => n (by rw [z]; exact r.obg)) h, r.tr, fun _ n _ => n, rfl, rfl⟩
theorem Ext.tr' (o : G.own G.bg) (tr : ∀ a, G.own a → Mut (H a)) (e : Ext G H H') : ∀ a, G.own a → Mut (H' a) := fun a z => by
  by_cases q : a = G.bg
  · subst q
    obtain ⟨x, y, z, ns, h1, _⟩ := e.bag
    rw [h1]; exact True.intro
  · have m := tr a z
    cases h : H a with
    | none => rw [h] at m; exact m.elim
    | some o => rw [e.keep a o q h]; rw [h] at m; exact m
theorem SlR.step (bg : G.bg = F.G.bg) (ob : F.G.own F.G.bg) (e : Evo G G H H') (x : Ext G H H') : ∀ s o, SlR F G H s o → SlR F G H' s o
  | .un, _, h => h
  | .dat d, o, h => by
    obtain ⟨v, h1, h2⟩ := h
    exact ⟨v, h1, e.dt d v h2⟩
  | .ml ds, o, h => by
    obtain ⟨p, xs, h1, h2, h3, h4, h5⟩ := h
    exact ⟨p, xs, h1, h2, h3, x.keep p _ (fun z => h3 (by rw [z, bg]; exact ob)) h4, e.dts ds xs h5⟩
  | .md t es, o, h => by
    obtain ⟨p, h1, h2, h3, h4⟩ := h
    have k := fun u => x.keep p u (fun z => h3 (by rw [z, bg]; exact ob))
    rcases h4 with ⟨kvs, h4, h5⟩ | ⟨kvs, h4, h5⟩
    · exact ⟨p, h1, h2, h3, .inl ⟨kvs, k _ h4, e.dtp t es kvs h5⟩⟩
    · exact ⟨p, h1, h2, h3, .inr ⟨kvs, k _ h4, e.dtq t es kvs h5⟩⟩
theorem Rel.step (r : Rel F G H σ ρ) (e : Ext G H H') : Rel F G H' σ ρ :=
  ⟨r.bg, r.bi, r.ob, r.oi, r.sub, r.new, Ext.tr' r.obg r.tr e, r.ext.trans (e.cg r.bg.symm r.bi.symm), fun q hq => (r.evo e).dt _ _ (r.pn q hq), r.sl.map (SlR.step r.bg r.ob (r.evo e) e), r.uniq⟩
/-- what data avoid may be less -/
theorem Rel.less (r : Rel F G H σ ρ) : Evo G F.G H H := ⟨fun _ _ _ h => h, r.tr, fun a n _ z => n (r.sub a z), r.bg.symm, r.bi.symm⟩
theorem Rel.unpin {l : List (V × D)} (r : Rel (F.pin l) G H σ ρ) : Rel F G H σ ρ :=
  ⟨r.bg, r.bi, r.ob, r.oi, r.sub, r.new, r.tr, r.ext, fun q hq => r.pn q (List.mem_append_right _ hq), r.sl.map fun s o h => (by cases s <;> exact h), r.uniq⟩
theorem Rel.pinned {l : List (V × D)} (r : Rel F G H σ ρ) (h : ∀ q ∈ l, Dt F.K G H q.2 q.1) : Rel (F.pin l) G H σ ρ :=
  ⟨r.bg, r.bi, r.ob, r.oi, r.sub, r.new, r.tr, r.ext, fun q hq => (List.mem_append.mp hq).elim (h q) (r.pn q), r.sl.map fun s o h => (by cases s <;> exact h), r.uniq⟩

/-- a slot is given data -/
theorem Rel.put (r : Rel F G H σ ρ) {i : Nat} {d : D} {v : V} (h : Dt F.K G H d v) : Rel F G H (σ.set i (some v)) (ρ.set i (.dat d)) := by
  refine ⟨r.bg, r.bi, r.ob, r.oi, r.sub, r.new, r.tr, r.ext, r.pn, r.sl.set (s := .dat d) (o := some v) ⟨v, rfl, h⟩ i, fun a b s t p h1 h2 m1 m2 h3 h4 => ?_⟩
  have na : a ≠ i := fun e => by
    subst e
    rw [List.getElem?_set_self' ] at h1
    cases q : ρ[a]? with
    | none => rw [q] at h1; cases h1
    | some z => rw [q] at h1; cases h1; cases m1
  have nb : b ≠ i := fun e => by
    subst e
    rw [List.getElem?_set_self' ] at h2
    cases q : ρ[b]? with
    | none => rw [q] at h2; cases h2
    | some z => rw [q] at h2; cases h2; cases m2
  rw [List.getElem?_set_ne (Ne.symm na)] at h1 h3
  rw [List.getElem?_set_ne (Ne.symm nb)] at h2 h4
  exact r.uniq a b s t p h1 h2 m1 m2 h3 h4
def Gh.add (G : Gh) (p : Addr) : Gh := ⟨G.bg, G.bi, fun a => G.own a ∨ a = p⟩
theorem Rel.evoAdd (r : Rel F G H σ ρ) (e : Ext G H H') {p : Addr} (hp : H p = none) : Evo G (G.add p) H H' :=
  ⟨fun a o n h => e.keep a o (fun z => n (by rw [z]; exact r.obg)) h, r.tr, fun a n q z => z.elim n fun w => q (by rw [w]; exact hp), rfl, rfl⟩
theorem SlR.grow {p : Addr} (e : Evo G (G.add p) H H') (k : ∀ a o, ¬ F.G.own a → H a = some o → H' a = some o) : ∀ s o, SlR F G H s o → SlR F (G.add p) H' s o
  | .un, _, h => h
  | .dat d, o, h => by
    obtain ⟨v, h1, h2⟩ := h
    exact ⟨v, h1, e.dt d v h2⟩
  | .ml ds, o, h => by
    obtain ⟨p, xs, h1, h2, h3, h4, h5⟩ := h
    exact ⟨p, xs, h1, .inl h2, h3, k p _ h3 h4, e.dts ds xs h5⟩
  | .md t es, o, h => by
    obtain ⟨p, h1, h2, h3, h4⟩ := h
    rcases h4 with ⟨kvs, h4, h5⟩ | ⟨kvs, h4, h5⟩
    · exact ⟨p, h1, .inl h2, h3, .inl ⟨kvs, k p _ h3 h4, e.dtp t es kvs h5⟩⟩
    · exact ⟨p, h1, .inl h2, h3, .inr ⟨kvs, k p _ h3 h4, e.dtq t es kvs h5⟩⟩
/-- a new list (or dict) at p that nothing knows -/
theorem Rel.grow (r : Rel F G H σ ρ) (e : Ext G H H') {p : Addr} (hp : H p = none) (hm : Mut (H' p)) : Rel F (G.add p) H' σ ρ := by
  have ev := r.evoAdd e hp
  refine ⟨r.bg, r.bi, r.ob, r.oi, fun a h => .inl (r.sub a h), fun a h n => ?_, fun a h => ?_, r.ext.trans (e.cg r.bg.symm r.bi.symm), fun q hq => ev.dt _ _ (r.pn q hq), r.sl.map (SlR.grow ev fun a o n h => ?_), r.uniq⟩
  · rcases h with h | h
    · exact r.new a h n
    · subst h
      cases q : F.H a with
      | none => rfl
      | some o =>
        have q2 : a ≠ F.G.bg := fun z => by
          have := r.ext.bag.ne
          rw [← z] at this
          exact this hp
        rw [r.ext.keep a o q2 q] at hp; cases hp
  · rcases h with h | h
    · exact Ext.tr' r.obg r.tr e a h
    · subst h; exact hm
  · exact e.keep a o (fun z => n (by rw [z, r.bg]; exact r.ob)) h
end
end DL

set_option Elab.async false
set_option linter.all false
set_option maxRecDepth 100000
set_option maxHeartbeats 1000000
namespace DL
open PySem L2

abbrev TD := List Sl → (D → Prop) → Prop
abbrev TBD := List Sl → (Bool → Prop) → Prop
abbrev TLD := List Sl → (List D → Prop) → Prop
def lift (F : Fr) (T : TD) : TE := fun σ H Q => ∃ G ρ k, Rel F G H σ ρ ∧ T ρ k ∧ ∀ d v H', k d → Ext G H H' → Dt F.K G H' d v → Q v H'
def liftT (F : Fr) (T : TBD) : TT := fun σ H Q => ∃ G ρ k, Rel F G H σ ρ ∧ T ρ k ∧ ∀ b H', k b → Ext G H H' → Q b H'
def liftA (F : Fr) (T : TLD) : TA := fun σ H Q => ∃ G ρ k, Rel F G H σ ρ ∧ T ρ k ∧ ∀ ds vs H', k ds → Ext G H H' → DtL F.K G H' ds vs → Q vs H'
/-- a new list, that nothing else knows -/
def liftF (F : Fr) (T : TLD) : TE := fun σ H Q => ∃ G ρ k, Rel F G H σ ρ ∧ T ρ k ∧ ∀ ds p vs H', k ds → Ext G H H' → H p = none → H' p = some (.lst vs) → DtL F.K (G.add p) H' ds vs → Q (.ref p) H'

theorem pe_imp {X : Cx} {e : Expr} {t t' : TE} (h : PE X e t) (i : ∀ σ H Q, t' σ H Q → t σ H Q) : PE X e t' := ⟨fun pins s σ H Q I w => h.run pins s σ H Q I (i _ _ _ w)⟩
theorem pt_imp {X : Cx} {e : Expr} {t t' : TT} (h : PT X e t) (i : ∀ σ H Q, t' σ H Q → t σ H Q) : PT X e t' := ⟨fun pins s σ H Q I w => h.run pins s σ H Q I (i _ _ _ w)⟩
theorem pa_imp {X : Cx} {e : List Expr} {t t' : TA} (h : PA X e t) (i : ∀ σ H Q, t' σ H Q → t σ H Q) : PA X e t' := ⟨fun pos pins s σ H Q I w => h.run pos pins s σ H Q I (i _ _ _ w)⟩
theorem ps_imp {X : Cx} {e : Stmt} {t t' : TS} (h : PS X e t) (i : ∀ D σ H, t' D σ H → t D σ H) : PS X e t' := ⟨fun pins s σ H D I w => h.run pins s σ H D I (i _ _ _ w)⟩
theorem pss_imp {X : Cx} {e : List Stmt} {t t' : TS} (h : PSs X e t) (i : ∀ D σ H, t' D σ H → t D σ H) : PSs X e t' := ⟨fun pins s σ H D I w => h.run pins s σ H D I (i _ _ _ w)⟩

/-! ### names, constants -/
def nameT (i : Nat) : TD := fun ρ k => match ρ[i]? with
  | some (.dat d) => k d
  | _ => False
def cT (d : D) : TD := fun _ k => k d
section
variable {X : Cx} {F : Fr}
theorem d_name (i : Nat) {x : Str} {pos : Pos} (hN : X.N[i]? = some x := by rfl) (hv : Vis X.env.scope x := by first | exact Or.inl rfl | exact Or.inr (Or.inl rfl) | exact Or.inr (Or.inr rfl)) (hd : (x == ("__debug__" : Str)) = false := by decide)
    (hcd : (x == ("__classdict__" : Str)) = false := by decide) : PE X (.Name x pos) (lift F (nameT i)) := by
  refine pe_imp (pe_var hN hv hd hcd) fun σ H Q h => ?_
  obtain ⟨G, ρ, k, r, h, q⟩ := h
  unfold nameT at h
  cases e : ρ[i]? with
  | none => rw [e] at h; exact h.elim
  | some s =>
    cases s with
    | dat d =>
      rw [e] at h
      obtain ⟨o, e1, v, rfl, hv⟩ := r.sl.get e
      exact ⟨v, e1, q d v H h (.refl r.bag) hv⟩
    | _ => rw [e] at h; exact h.elim
theorem d_cst {e : Expr} {d : D} {v : V} (h : PE X e (tC v)) (hd : ∀ G H, Dt F.K G H d v) : PE X e (lift F (cT d)) :=
  pe_imp h fun σ H Q ⟨G, ρ, k, r, h, q⟩ => q d v H h (.refl r.bag) (hd G H)
theorem d_int {i : Int} {j : Nat} {pos : Pos} : PE X (.Constant (.int i) j pos) (lift F (cT (.int i))) := d_cst pe_int fun _ _ => rfl
theorem d_bl {b : Bool} {j : Nat} {pos : Pos} : PE X (.Constant (.bool b) j pos) (lift F (cT (.bl b))) := d_cst pe_bl fun _ _ => rfl
theorem d_non {j : Nat} {pos : Pos} : PE X (.Constant .none j pos) (lift F (cT .non)) := d_cst pe_non fun _ _ => rfl
theorem d_str {x : Str} {j : Nat} {pos : Pos} : PE X (.Constant (.str x) j pos) (lift F (cT (.str x))) := d_cst pe_str fun _ _ => rfl
end

/-! ### argument lists -/
def nilA : TLD := fun _ k => k []
def consA (t : TD) (u : TLD) : TLD := fun ρ k => t ρ fun d => u ρ fun ds => k (d :: ds)
section
variable {X : Cx} {F : Fr} {e : Expr} {es : List Expr} {te : TD} {ta : TLD}
theorem a_nil : PA X [] (liftA F nilA) := pa_imp pa_nil fun σ H Q ⟨G, ρ, k, r, h, q⟩ => q [] [] H h (.refl r.bag) rfl
theorem a_cons (ha : PE X e (lift F te)) (hr : PA X es (liftA F ta)) (hs : starEach (e :: es) X.env = (false, eval e X.env) :: starEach es X.env := by rfl) : PA X (e :: es) (liftA F (consA te ta)) := by
  refine pa_imp (pa_cons ha hr hs) fun σ H Q ⟨G, ρ, k, r, h, q⟩ => ?_
  refine ⟨G, ρ, _, r, h, fun d v H1 h1 e1 d1 => ?_⟩
  refine ⟨G, ρ, _, r.step e1, h1, fun ds vs H2 h2 e2 d2 => ?_⟩
  exact q _ _ H2 h2 (e1.trans e2) ⟨v, vs, rfl, ((r.step e1).evo e2).dt d v d1, d2⟩
end
theorem DtL.len {K : PySem.W.Frag} {G : Gh} {H : Hp} : ∀ {ds : List D} {vs : List V}, DtL K G H ds vs → ds.length = vs.length
  | [], _, h => by
    have h' : _ = [] := h
    rw [h']; rfl
  | d :: ds, _, h => by
    obtain ⟨x, r, rfl, _, h2⟩ := h
    simp [DtL.len h2]
/-- () is no new thing in what it holds: lists, tuples, displays -/
def tupT (t : TLD) : TD := fun ρ k => t ρ fun ds => ds.length ≤ sizeLine ∧ k (.tup ds)
def lstF (t : TLD) : TLD := fun ρ k => t ρ fun ds => ds.length ≤ sizeLine ∧ k ds
def ofF (t : TLD) : TD := fun ρ k => t ρ fun ds => k (.lst ds)
section
variable {X : Cx} {F : Fr} {e : Expr} {es : List Expr} {te : TD} {ta : TLD} {pos : Pos}
theorem d_tup {x1 : Nat} (h : PA X es (liftA F ta)) : PE X (.Tuple es x1 pos) (lift F (tupT ta)) := by
  refine pe_imp (pe_tup h) fun σ H Q ⟨G, ρ, k, r, h, q⟩ => ?_
  refine ⟨G, ρ, _, r, h, fun ds vs H1 ⟨hl, h1⟩ e1 d1 => ⟨by rw [← d1.len]; exact hl, fun p hp => ?_⟩⟩
  have r1 := r.step e1
  have e2 : Ext G H1 (upd H1 p (.tup vs)) := Ext.new r1.bag hp
  exact q _ _ _ h1 (e1.trans e2) ⟨p, vs, rfl, .inl (.inl upd_same), (r1.evo e2).dts ds vs d1⟩
theorem f_lst (h : PA X es (liftA F ta)) : PE X (.List es pos) (liftF F (lstF ta)) := by
  refine pe_imp (pe_lst h) fun σ H Q ⟨G, ρ, k, r, h, q⟩ => ?_
  refine ⟨G, ρ, _, r, h, fun ds vs H1 ⟨hl, h1⟩ e1 d1 => ⟨by rw [← d1.len]; exact hl, fun p hp => ?_⟩⟩
  have r1 := r.step e1
  have e2 : Ext G H1 (upd H1 p (.lst vs)) := Ext.new r1.bag hp
  exact q ds p vs _ h1 (e1.trans e2) (e1.free r.bag hp) upd_same ((r1.evoAdd e2 hp).dts ds vs d1)
/-- a new list as data -/
theorem d_of (h : PE X e (liftF F ta)) : PE X e (lift F (ofF ta)) := by
  refine pe_imp h fun σ H Q ⟨G, ρ, k, r, h, q⟩ => ?_
  refine ⟨G, ρ, _, r, h, fun ds p vs H1 h1 e1 hp hl d1 => q _ _ _ h1 e1 ⟨p, vs, rfl, r.free hp, hl, ?_⟩⟩
  have ev : Evo (G.add p) G H1 H1 := ⟨fun _ _ _ h => h, fun a z => z.elim (Ext.tr' r.obg r.tr e1 a) fun z => by rw [z, hl]; exact True.intro, fun a n _ z => n (.inl z), rfl, rfl⟩
  exact ev.dts ds vs d1
end

/-! ### two-place operations -/
abbrev OD := D → D → (D → Prop) → Prop
def binT (o : OD) (ta tb : TD) : TD := fun ρ k => ta ρ fun x => tb ρ fun y => o x y k
/-- an operation by values does what o says of data -/
def OkOp (F : Fr) (r : R2) (o : OD) : Prop := ∀ (G : Gh) (H : Hp) (x y : D) (v u : V) (k : D → Prop) (Q : VK), GOk G H → o x y k → Dt F.K G H x v → Dt F.K G H y u →
  (∀ d w H', k d → Ext G H H' → Dt F.K G H' d w → Q w H') → r v u H Q
section
variable {X : Cx} {F : Fr} {a b : Expr} {ta tb : TD} {r : R2} {o : OD} {pos : Pos}
theorem opT (hr : OkOp F r o) : ∀ σ H Q, lift F (binT o ta tb) σ H Q → tOp r (lift F ta) (lift F tb) σ H Q := by
  intro σ H Q ⟨G, ρ, k, rl, h, q⟩
  refine ⟨G, ρ, _, rl, h, fun x v H1 h1 e1 d1 => ?_⟩
  have r1 := rl.step e1
  refine ⟨G, ρ, _, r1, h1, fun y u H2 h2 e2 d2 => ?_⟩
  have r2 := r1.step e2
  exact hr G H2 x y v u k Q r2.ok h2 ((r1.evo e2).dt x v d1) d2 fun d w H3 h3 e3 d3 => q d w H3 h3 ((e1.trans e2).trans e3) d3
theorem d_bin {op : Operator} (ho : OpR X (binaryOp op) r) (hr : OkOp F r o) (ha : PE X a (lift F ta)) (hb : PE X b (lift F tb)) : PE X (.BinOp a op b pos) (lift F (binT o ta tb)) :=
  pe_imp (pe_op ho ha hb) (opT hr)
theorem d_cmp {op : CmpOp} (ho : OpR X (compareOp op) r) (hr : OkOp F r o) (ha : PE X a (lift F ta)) (hb : PE X b (lift F tb)) (hm : behindInMarks op b = false) : PE X (.Compare a [op] [b] pos) (lift F (binT o ta tb)) :=
  pe_imp (pe_cmpR ho ha hb hm) (opT hr)
/-- a value that is a bool, as a test -/
def blT (t : TD) : TBD := fun ρ k => t ρ fun d => match d with
  | .bl b => k b
  | _ => False
theorem t_val {e : Expr} {te : TD} (h : PE X e (lift F te)) (he : ∀ whole, isTrue e X.env whole = (do let v ← whole; standAt e.pos; holding [v] (truthy v)) := by intro _; rfl) : PT X e (liftT F (blT te)) := by
  refine pt_imp (pt_val h he) fun σ H Q ⟨G, ρ, k, r, h, q⟩ => ⟨G, ρ, _, r, h, fun d v H1 h1 e1 d1 => ?_⟩
  cases d with
  | bl b => exact ⟨b, d1, q b H1 h1 e1⟩
  | _ => exact h1.elim
theorem t_cmp {op : CmpOp} (ho : OpR X (compareOp op) r) (hr : OkOp F r o) (ha : PE X a (lift F ta)) (hb : PE X b (lift F tb)) (hm : behindInMarks op b = false) : PT X (.Compare a [op] [b] pos) (liftT F (blT (binT o ta tb))) := by
  refine pt_imp (pt_cmpR ho ha hb hm) fun σ H Q ⟨G, ρ, k, r, h, q⟩ => ?_
  refine opT hr σ H _ ⟨G, ρ, _, r, h, fun d v H1 h1 e1 d1 => ?_⟩
  cases d with
  | bl b => exact ⟨b, d1, q b H1 h1 e1⟩
  | _ => exact h1.elim
end

def addD : OD
  | .int i, .int j, k => k (.int (i + j))
  | .int i, .bl b, k => k (.int (i + PyProof.Rows.b2i b))
  | .str x, .str y, k => x.length + y.length ≤ sizeLine ∧ k (.str (x ++ y))
  | .lst x, .lst y, k => x.length + y.length ≤ sizeLine ∧ k (.lst (x ++ y))
  | .tup x, .tup y, k => x.length + y.length ≤ sizeLine ∧ k (.tup (x ++ y))
  | _, _, _ => False
def subD : OD
  | .int i, .int j, k => k (.int (i - j))
  | _, _, _ => False
def mulD : OD
  | .int i, .int j, k => CMul i j ∧ k (.int (i * j))
  | .lst x, .int j, k => (-(2 ^ 63) ≤ j ∧ j < 2 ^ 63) ∧ x.length * j.toNat ≤ sizeLine ∧ k (.lst (List.replicate j.toNat x).flatten)
  | _, _, _ => False
def fdivD : OD
  | .int i, .int j, k => CDiv i j ∧ k (.int (i / j))
  | _, _, _ => False
def modD : OD
  | .int i, .int j, k => 0 < j ∧ k (.int (i % j))
  | _, _, _ => False
def cmpI (f : Int → Int → Bool) : OD
  | .int i, .int j, k => k (.bl (f i j))
  | _, _, _ => False
theorem DtL.app {K : PySem.W.Frag} {G : Gh} {H : Hp} : ∀ {ds es : List D} {vs us : List V}, DtL K G H ds vs → DtL K G H es us → DtL K G H (ds ++ es) (vs ++ us)
  | [], _, _, _, h, h' => by
    have e : _ = [] := h
    subst e; exact h'
  | d :: ds, _, _, _, h, h' => by
    obtain ⟨x, r, rfl, h1, h2⟩ := h
    exact ⟨x, _, rfl, h1, DtL.app h2 h'⟩
theorem DtL.rep {K : PySem.W.Frag} {G : Gh} {H : Hp} {ds : List D} {vs : List V} (h : DtL K G H ds vs) : ∀ n : Nat, DtL K G H (List.replicate n ds).flatten (List.replicate n vs).flatten
  | 0 => rfl
  | n + 1 => by
    rw [List.replicate_succ, List.replicate_succ, List.flatten_cons, List.flatten_cons]
    exact h.app (DtL.rep h n)
section
variable {X : Cx} {F : Fr} {a b : Expr} {ta tb : TD} {pos : Pos}
theorem ok_opI {C : Int → Int → Prop} {g : Int → Int → Int} {o : OD} (ho : ∀ x y k, o x y k → ∃ i j, x = .int i ∧ y = .int j ∧ C i j ∧ k (.int (g i j))) : OkOp F (rI C fun i j => .int (g i j)) o := by
  intro G H x y v u k Q ⟨ob, oi, tr, bg⟩ h hx hy q
  obtain ⟨i, j, rfl, rfl, c, h'⟩ := ho x y k h
  exact ⟨i, j, hx, hy, c, q _ _ _ h' (.refl bg) rfl⟩
theorem ok_opI0 {g : Int → Int → Int} {o : OD} (ho : ∀ x y k, o x y k → ∃ i j, x = .int i ∧ y = .int j ∧ k (.int (g i j))) : OkOp F (rI0 fun i j => .int (g i j)) o := by
  intro G H x y v u k Q ⟨ob, oi, tr, bg⟩ h hx hy q
  obtain ⟨i, j, rfl, rfl, h'⟩ := ho x y k h
  exact ⟨i, j, hx, hy, q _ _ _ h' (.refl bg) rfl⟩
theorem ok_cmpI {g : Int → Int → Bool} : OkOp F (rI0 fun i j => .bl (g i j)) (cmpI g) := by
  intro G H x y v u k Q ⟨ob, oi, tr, bg⟩ h hx hy q
  cases x with
  | int i =>
    cases y with
    | int j => exact ⟨i, j, hx, hy, q _ _ _ h (.refl bg) rfl⟩
    | _ => exact (show False from h).elim
  | _ => exact (show False from h).elim
theorem d_sub (ha : PE X a (lift F ta)) (hb : PE X b (lift F tb)) : PE X (.BinOp a .Sub b pos) (lift F (binT subD ta tb)) :=
  d_bin op_sub (ok_opI0 fun x y k h => by
    cases x <;> try exact (show False from h).elim
    cases y <;> try exact (show False from h).elim
    exact ⟨_, _, rfl, rfl, h⟩) ha hb
theorem d_fdiv (ha : PE X a (lift F ta)) (hb : PE X b (lift F tb)) : PE X (.BinOp a .FloorDiv b pos) (lift F (binT fdivD ta tb)) :=
  d_bin op_fdiv (ok_opI fun x y k h => by
    cases x <;> try exact (show False from h).elim
    cases y <;> try exact (show False from h).elim
    exact ⟨_, _, rfl, rfl, h.1, h.2⟩) ha hb
theorem d_mod (ha : PE X a (lift F ta)) (hb : PE X b (lift F tb)) : PE X (.BinOp a .Mod b pos) (lift F (binT modD ta tb)) :=
  d_bin op_mod (ok_opI fun x y k h => by
    cases x <;> try exact (show False from h).elim
    cases y <;> try exact (show False from h).elim
    exact ⟨_, _, rfl, rfl, h.1, h.2⟩) ha hb
theorem d_mul (ha : PE X a (lift F ta)) (hb : PE X b (lift F tb)) : PE X (.BinOp a .Mult b pos) (lift F (binT mulD ta tb)) := by
  refine d_bin (r := fun x y H Q => rI CMul (fun i j => .int (i * j)) x y H Q ∨ rRep x y H Q) (op_mul.or op_rep) ?_ ha hb
  intro G H x y v u k Q ⟨ob, oi, tr, bg⟩ h hx hy q
  cases x <;> try exact (show False from h).elim
  · cases y <;> try exact (show False from h).elim
    exact .inl ⟨_, _, hx, hy, h.1, q _ _ _ h.2 (.refl bg) rfl⟩
  · cases y <;> try exact (show False from h).elim
    obtain ⟨a, xs, rfl, n, ha, hd⟩ := hx
    obtain ⟨⟨b1, b2⟩, hz, h⟩ := h
    refine .inr ⟨a, _, xs, rfl, hy, ha, b1, b2, by rw [← hd.len]; exact hz, fun p hp => ?_⟩
    have ev : ∀ {o : HO}, Evo G G H (upd H p o) := fun {o} => ⟨fun a o n h => (Ext.new bg hp).keep a o (fun z => n (by rw [z]; exact ob)) h, tr, fun _ n _ => n, rfl, rfl⟩
    exact q _ _ _ h (Ext.new bg hp) ⟨p, _, rfl, fun z => by have m := tr p z; rw [hp] at m; exact m, upd_same, ev.dts _ _ (hd.rep _)⟩
theorem d_add (ha : PE X a (lift F ta)) (hb : PE X b (lift F tb)) (hK : X.K = F.K := by rfl) : PE X (.BinOp a .Add b pos) (lift F (binT addD ta tb)) := by
  refine d_bin (op_add.or (op_add_ib.or (op_add_str.or (op_cat.or op_catA)))) ?_ ha hb
  intro G H x y v u k Q ⟨ob, oi, tr, bg⟩ h hx hy q
  have free : ∀ {p : Addr}, H p = none → ¬ G.own p := fun hp z => by
    have m := tr _ z
    rw [hp] at m; exact m
  have evn : ∀ {p : Addr} {o : HO}, H p = none → Evo G G H (upd H p o) := fun {p o} hp =>
    have e : Ext G H (upd H p o) := Ext.new bg hp
    ⟨fun a o n h => e.keep a o (fun z => n (by rw [z]; exact ob)) h, tr, fun _ n _ => n, rfl, rfl⟩
  cases x <;> try exact (show False from h).elim
  · cases y <;> try exact (show False from h).elim
    · exact .inr (.inl ⟨_, _, hx, hy, q _ _ _ h (.refl bg) rfl⟩)
    · exact .inl ⟨_, _, hx, hy, q _ _ _ h (.refl bg) rfl⟩
  · cases y <;> try exact (show False from h).elim
    exact .inr (.inr (.inl ⟨_, _, hx, hy, h.1, q _ _ _ h.2 (.refl bg) rfl⟩))
  · cases y <;> try exact (show False from h).elim
    obtain ⟨a, xs, rfl, n, ha, hd⟩ := hx
    obtain ⟨a', xs', rfl, n', ha', hd'⟩ := hy
    refine .inr (.inr (.inr (.inl ⟨a, a', xs, xs', rfl, rfl, ha, ha', by rw [← hd.len, ← hd'.len]; exact h.1, fun p hp => ?_⟩)))
    exact q _ _ _ h.2 (Ext.new bg hp) ⟨p, _, rfl, free hp, upd_same, (evn hp).dts _ _ (hd.app hd')⟩
  · cases y <;> try exact (show False from h).elim
    obtain ⟨a, xs, rfl, ha, hd⟩ := hx
    obtain ⟨a', xs', rfl, ha', hd'⟩ := hy
    rw [← hK] at ha ha'
    refine .inr (.inr (.inr (.inr ⟨a, a', xs, xs', rfl, rfl, ha, ha', by rw [← hd.len, ← hd'.len]; exact h.1, fun e => ?_, fun _ e => ?_, fun _ _ p hp => ?_⟩)))
    · have l := hd.len
      rw [e] at l
      obtain rfl := List.length_eq_zero_iff.mp l
      exact q _ _ _ h.2 (.refl bg) ⟨a', xs', rfl, hK ▸ ha', hd'⟩
    · have l := hd'.len
      rw [e] at l
      obtain rfl := List.length_eq_zero_iff.mp l
      exact q _ _ _ h.2 (.refl bg) ⟨a, xs, rfl, hK ▸ ha, by rw [List.append_nil]; exact hd⟩
    · exact q _ _ _ h.2 (Ext.new bg hp) ⟨p, _, rfl, .inl (.inl upd_same), (evn hp).dts _ _ (hd.app hd')⟩
end
end DL

set_option Elab.async false
set_option linter.all false
set_option maxRecDepth 100000
set_option maxHeartbeats 1000000
namespace DL
open PySem PySem.Spec PyProof.Rows L2

/-! ### defs that run where no repr runs -/
structure FnG (P : Program) (w : World) (K : PySem.W.Frag) (mg : Str → Option Value) (base : Heap) (CX : CXT) (k : Nat) (f : Addr) (fd : FuncData) (ps : List Str) (sp : Sp) : Prop where
  len : ∀ (vs : List V) (H : Hp) (Q : VK) (E : XK), sp vs H Q E → vs.length = ps.length
  run : ∀ (A : Around) (outer : List Env) (s : Shared) (H : Hp) (args : Args) (us : List Value) (vs : List V) (Q : VK) (E : XK), Room k A → A.guards = some [] →
    Env0 P w K mg base A outer s H → BindsTo s fd args (ps.zip us) → Vals vs us → sp vs H Q E →
    codeAny (model P w) A (.call (.ref f) args) (CR CX outer P w H s Q E) s
section
variable {P : Program} {w : World} {K : PySem.W.Frag} {mg : Str → Option Value} {base : Heap} {CX : CXT} {j k : Nat} {f : Addr} {fd : FuncData} {ps : List Str} {sp sp' : Sp}
theorem FnG.mono (F : FnG P w K mg base CX j f fd ps sp) (h : j ≤ k) : FnG P w K mg base CX k f fd ps sp :=
  ⟨F.len, fun A outer s H args us vs Q E r => F.run A outer s H args us vs Q E (r.mono h)⟩
theorem FnG.imp (F : FnG P w K mg base CX k f fd ps sp) (h : ∀ vs H Q E, sp' vs H Q E → sp vs H Q E) : FnG P w K mg base CX k f fd ps sp' :=
  ⟨fun vs H Q E q => F.len vs H Q E (h _ _ _ _ q), fun A outer s H args us vs Q E r g e b v q => F.run A outer s H args us vs Q E r g e b v (h _ _ _ _ q)⟩
theorem FnG.of (F : FnOk P w K mg base CX k f fd ps sp) : FnG P w K mg base CX k f fd ps sp :=
  ⟨F.len, fun A outer s H args us vs Q E r _ => F.run A outer s H args us vs Q E r⟩
/-- a def by its body -/
theorem fnG_of {name qual : Str} {params : Arguments} {body : List Stmt} {scope : Scope} {dV kV doc pm cdv ct oc : Value} {an od : Option Addr} {osl : Array (Option Value)} {N : List Str}
    (lk : K.lookup f = some ⟨oc, od, .func (PySem.W.fnOf name qual params body scope dV kV doc pm an cdv ct), osl⟩) (cd : PySem.W.codeIn K cdv qual = true) (S : FnScope N ps scope)
    (len : ∀ vs H Q E, sp vs H Q E → vs.length = ps.length)
    (hb : ∀ (A : Around) (outer : List Env) (s : Shared) (H : Hp) (vs : List V) (Q : VK) (E : XK), Room k (A.deeper (envOfC qual scope s.heap.objs.size f cdv)) → A.guards = some [] → sp vs H Q E →
      ∃ t, PSs (cxOf CX P w K mg base N qual scope f cdv A outer s H E) body t ∧ t { nx := fun _ H1 => Q .non H1, rt := Q } (start N vs) H) :
    FnG P w K mg base CX (k + 1) f (PySem.W.fnOf name qual params body scope dV kV doc pm an cdv ct) ps sp := by
  refine ⟨len, ?_⟩
  intro A outer s H args us vs Q E r g e b v q
  have n := len vs H Q E q
  have kin : K.In s.heap := e.mod.kin.keeps fun c o z => (e.bs c o z).1
  refine codeAny_call_function r.depth (kin _ _ lk) rfl S.co S.gen rfl (PySem.W.codeRec_of kin cd) (b _ _ _ _ ?_)
  refine wpAny_newFunctionEnv_cells S.kind (fun y hy => ?_) fun env he s1 x => ?_
  · obtain ⟨m, u⟩ := y
    rcases S.par m (List.of_mem_zip hy).1 with z | z
    · exact Or.inl z
    · exact Or.inr ⟨z, PySem.W.cellsFrom_some _ _ _ (Or.inl z)⟩
  · subst he
    refine ⟨(e.mod.nolimit.keeps fun c o z => (e.bs c o z).1).keeps x.toInCall.keep, codeAny_func ?_⟩
    obtain ⟨t, ht, hq⟩ := hb A outer s H vs Q E (r.deeper _) g q
    have I := inv_start (CX := CX) (E := E) S r.hd e n v x
    refine wpAny_mono (ht.run [] s1 (start N vs) H _ I hq) (fun fl s2 hs => ?_) fun _ _ z => z
    cases fl with
    | ret u =>
      obtain ⟨v', σ', H', J, rv, q'⟩ := hs
      exact ⟨v', H', J.os, J.bare, J.base, J.hok, rv, q'⟩
    | next =>
      obtain ⟨σ', H', J, q'⟩ := hs
      exact ⟨V.non, H', J.os, J.bare, J.base, J.hok, rfl, q'⟩
    | brk =>
      obtain ⟨_, _, _, z⟩ := hs
      exact False.elim z
    | cont =>
      obtain ⟨_, _, _, z⟩ := hs
      exact False.elim z
end
section
variable {X : Cx} {CX : CXT} {k : Nat} {f C : Addr} {fd : FuncData} {ps : List Str} {sp : Sp} {dvs : List V} {ds : List Value} {E : XK} {x m : Str} {p pos apos : Pos} {e o : Expr} {es : List Expr} {ta : TE} {t : TA}
theorem runG {pins : List (Addr × Obj)} {σ : L2.St} {H : Hp} {s : Shared} {Q : VK} {us : List Value} {vs : List V} (F : FnG X.prog X.w X.K X.mg X.base CX k f fd ps sp) (hr : Room k X.A) (hg : X.A.guards = some []) (hb : Binds X.K fd ps ds) (hd : Vals dvs ds) (hx : Passes CX X E)
    (I : Inv X pins σ H s) (r : Vals vs us) (h : sp (vs ++ dvs) H Q E) : wpAny (model X.prog X.w) X.A (call (.ref f) us) (EP X pins σ Q) X.xe s := by
  have q := r.append hd
  have n : (us ++ ds).length = ps.length := by rw [← q.length]; exact F.len _ _ _ _ h
  refine wpAny_call (codeAny_mono (F.run X.A X.stack s H ⟨us, []⟩ (us ++ ds) (vs ++ dvs) Q E hr hg I.env0 (hb s us I.kIn n) q h) fun z s' hz => ?_)
  cases z with
  | error w => exact hx pins σ H s w s' I hz
  | ok fl =>
    cases fl with
    | ret u => exact I.after hz
    | _ => exact False.elim hz
theorem peG_call (F : FnG X.prog X.w X.K X.mg X.base CX k f fd ps sp) (hr : Room k X.A) (hgd : X.A.guards = some []) (hg : Gl X x) (hm : X.mg x = some (.ref f)) (hk : PySem.W.keepIn X.K (.ref f) = true) (hb : Binds X.K fd ps ds) (hd : Vals dvs ds) (hx : Passes CX X E)
    (ha : PA X (e :: es) t) (hdb : (x == ("__debug__" : Str)) = false := by decide) (he : starEach (e :: es) X.env = (false, eval e X.env) :: starEach es X.env := by rfl) (hpl : (backTo pos (starEach es X.env)).any (·.1) = false := by rfl) :
    PE X (.Call (.Name x p) (e :: es) [] pos) (tCall sp dvs E t) := by
  constructor
  intro pins s σ H Q I h
  refine wpAny_Call_Name_kw (ld_glob I hg hm (PySem.W.callWith_K (h₀ := X.base) I.ok.mod.kin hk (thn (ha.run pos pins s σ H _ I h) fun us s1 q => ?_) he hpl) hdb)
  obtain ⟨vs, H1, I1, r, q⟩ := q
  exact ⟨I1.kIn, runG F hr hgd hb hd hx I1 r q⟩
end

/-! ### a def of data -/
abbrev RD := List D → (D → Prop) → Prop
def spD (K : PySem.W.Frag) (R : RD) : Sp := fun vs H Q _ => ∃ G ds k, GOk G H ∧ DtL K G H ds vs ∧ R ds k ∧ ∀ d v H', k d → Ext G H H' → Dt K G H' d v → Q v H'
def callT (R : RD) (ta : TLD) : TD := fun ρ k => ta ρ fun ds => R ds k
/-- all that is asked of a def to call it -/
structure Cal (X : Cx) (n : Nat) (x : Str) (R : RD) : Prop where
  ex : ∃ (f : Addr) (fd : FuncData) (ps : List Str) (k : Nat), k ≤ n ∧ FnG X.prog X.w X.K X.mg X.base CX0 k f fd ps (spD X.K R) ∧ X.mg x = some (.ref f) ∧ PySem.W.keepIn X.K (.ref f) = true ∧ Binds X.K fd ps []
section
variable {X : Cx} {F : Fr} {n : Nat} {x : Str} {R : RD} {e : Expr} {es : List Expr} {ta : TLD} {p pos : Pos}
theorem d_call (c : Cal X n x R) (hr : Room n X.A) (hgd : X.A.guards = some []) (hg : Gl X x) (ha : PA X (e :: es) (liftA F ta)) (hK : X.K = F.K := by rfl) (hdb : (x == ("__debug__" : Str)) = false := by decide)
    (he : starEach (e :: es) X.env = (false, eval e X.env) :: starEach es X.env := by rfl) (hpl : (backTo pos (starEach es X.env)).any (·.1) = false := by rfl) : PE X (.Call (.Name x p) (e :: es) [] pos) (lift F (callT R ta)) := by
  obtain ⟨f, fd, ps, j, hj, fn, hm, hk, hb⟩ := c.ex
  refine pe_imp (peG_call fn (hr.mono hj) hgd hg hm hk hb .nil pass0 ha hdb he hpl) fun σ H Q ⟨G, ρ, k, r, h, q⟩ => ?_
  refine ⟨G, ρ, _, r, h, fun ds vs H1 h1 e1 d1 => ?_⟩
  have r1 := r.step e1
  show spD X.K R (vs ++ []) H1 Q E0
  rw [List.append_nil, hK]
  exact ⟨G, ds, k, r1.ok, d1, h1, fun d v H2 h2 e2 d2 => q d v H2 h2 (e1.trans e2) d2⟩
end
end DL

set_option Elab.async false
set_option linter.all false
set_option maxRecDepth 100000
set_option maxHeartbeats 1000000
namespace DL
open PySem L2

/-! ### data of the model's own kind -/
mutual
def D.py : D → PyData
  | .non => .none
  | .bl b => .bool b
  | .int i => .int i
  | .str x => .str x
  | .lst ds => .list (D.pys ds)
  | .tup ds => .tuple (D.pys ds)
  | .dic _ _ => .dict []
  | .ins _ _ => .dict []
  | .bag => .dict []
def D.pys : List D → List PyData
  | [] => []
  | d :: ds => D.py d :: D.pys ds
end
theorem pys_map : ∀ ds : List D, D.pys ds = ds.map D.py
  | [] => by simp only [D.pys, List.map_nil]
  | d :: ds => by simp only [D.pys, List.map_cons, pys_map ds]
section
variable {K : PySem.W.Frag} {G : Gh} {H : Hp}
mutual
theorem Dt.dp : ∀ (d : D) (v : V), d.py.canLay0 = true → Dt K G H d v → Dp K H v d.py
  | .non, v, _, h => by
    obtain rfl : v = .non := h
    exact .non
  | .bl b, v, _, h => by
    obtain rfl : v = .bl b := h
    exact .bl b
  | .int b, v, _, h => by
    obtain rfl : v = .int b := h
    exact .int b
  | .str b, v, _, h => by
    obtain rfl : v = .str b := h
    exact .str b
  | .lst ds, v, c, h => by
    obtain ⟨a, xs, rfl, _, h3, h4⟩ := h
    exact .lst (SqL.of h3) (Dt.dps ds xs (by simpa only [D.py, PyData.canLay0] using c) h4)
  | .tup ds, v, c, h => by
    obtain ⟨a, xs, rfl, h3, h4⟩ := h
    exact .tup h3 (Dt.dps ds xs (by simpa only [D.py, PyData.canLay0] using c) h4)
  | .dic t es, v, c, h => by simp [D.py, PyData.canLay0] at c
  | .ins C es, v, c, h => by simp [D.py, PyData.canLay0] at c
  | .bag, v, c, h => by simp [D.py, PyData.canLay0] at c
theorem Dt.dps : ∀ (ds : List D) (vs : List V), PyData.canLayAll0 (D.pys ds) = true → DtL K G H ds vs → DpAll K H vs (D.pys ds)
  | [], v, _, h => by
    obtain rfl : v = [] := h
    exact .nil
  | d :: ds, v, c, h => by
    obtain ⟨x, r, rfl, h1, h2⟩ := h
    simp only [D.pys, PyData.canLayAll0, Bool.and_eq_true] at c
    exact .cons (Dt.dp d x c.1 h1) (Dt.dps ds r c.2 h2)
end
end
/-- data that may be compared -/
def eqOk (x y : D) : Prop := x.py.canLay0 = true ∧ y.py.canLay0 = true ∧ min x.py.depth y.py.depth ≤ 150
def eqB : D → D → (Bool → Prop) → Prop
  | .str a, .str b, k => k (decide (a = b))
  | .int a, .int b, k => k (decide (a = b))
  | .bl a, .bl b, k => k (decide (a = b))
  | x, y, k => eqOk x y ∧ k (PyData.eqv x.py y.py)
def eqD : OD := fun x y k => eqB x y fun b => k (.bl b)
def neD : OD := fun x y k => eqB x y fun b => k (.bl (!b))
theorem eqB_cases {x y : D} {k : Bool → Prop} (h : eqB x y k) : (∃ a b, x = .str a ∧ y = .str b ∧ k (decide (a = b))) ∨ (∃ a b, x = .int a ∧ y = .int b ∧ k (decide (a = b))) ∨ (∃ a b, x = .bl a ∧ y = .bl b ∧ k (decide (a = b))) ∨
    (eqOk x y ∧ k (PyData.eqv x.py y.py)) := by
  cases x <;> cases y <;> first
    | exact .inl ⟨_, _, rfl, rfl, h⟩
    | exact .inr (.inl ⟨_, _, rfl, rfl, h⟩)
    | exact .inr (.inr (.inl ⟨_, _, rfl, rfl, h⟩))
    | exact .inr (.inr (.inr h))
def rEqA (K : PySem.W.Frag) : R2 := fun x y H Q => rEq x y H Q ∨ ∃ d e, Dp K H x d ∧ Dp K H y e ∧ d.canLay0 = true ∧ e.canLay0 = true ∧ min d.depth e.depth ≤ 150 ∧ Q (.bl (PyData.eqv d e)) H
def rNeA (K : PySem.W.Frag) : R2 := fun x y H Q => rNe x y H Q ∨ ∃ d e, Dp K H x d ∧ Dp K H y e ∧ d.canLay0 = true ∧ e.canLay0 = true ∧ min d.depth e.depth ≤ 150 ∧ Q (.bl (!PyData.eqv d e)) H
section
variable {X : Cx} {F : Fr} {n : Nat}
theorem u150 (hr : Room n X.A) : X.A.units + 150 < cLine := by have := hr.un; omega
theorem op_eqA (hr : Room n X.A) : OpR X (compareOp .Eq) (rEqA X.K) := by
  refine op_eq.or ?_
  intro pins s σ H x y v u Q I rx ry h
  obtain ⟨d, e, hd, he, cd, ce, hm, q⟩ := h
  obtain ⟨as, r1⟩ := Dp.reads I d x v hd rx
  obtain ⟨bs, r2⟩ := Dp.reads I e y u he ry
  exact SeqAt.compareEq_reads r1 r2 cd ce (by have := u150 hr; omega) ⟨.bl _, H, I, rfl, q⟩
theorem op_neA (hr : Room n X.A) : OpR X (compareOp .NotEq) (rNeA X.K) := by
  refine op_ne.or ?_
  intro pins s σ H x y v u Q I rx ry h
  obtain ⟨d, e, hd, he, cd, ce, hm, q⟩ := h
  obtain ⟨as, r1⟩ := Dp.reads I d x v hd rx
  obtain ⟨bs, r2⟩ := Dp.reads I e y u he ry
  exact SeqAt.compareNe_reads r1 r2 cd ce (by have := u150 hr; omega) ⟨.bl _, H, I, rfl, q⟩
theorem dec_of {α β : Type} {f : α → β} [DecidableEq α] [DecidableEq β] (hf : ∀ a b, f a = f b → a = b) (a b : α) : decide (f a = f b) = decide (a = b) := by
  by_cases h : a = b
  · subst h; simp
  · rw [decide_eq_false h, decide_eq_false fun z => h (hf a b z)]
theorem ok_eq : OkOp F (rEqA F.K) eqD := by
  intro G H x y v u k Q ⟨ob, oi, tr, bg⟩ h hx hy q
  rcases eqB_cases h with ⟨a, b, rfl, rfl, h⟩ | ⟨a, b, rfl, rfl, h⟩ | ⟨a, b, rfl, rfl, h⟩ | ⟨⟨h1, h2, h3⟩, h⟩
  · obtain rfl : v = .str a := hx
    obtain rfl : u = .str b := hy
    exact .inl ⟨rfl, by rw [dec_of fun _ _ z => V.str.inj z]; exact q _ _ _ h (.refl bg) rfl⟩
  · obtain rfl : v = .int a := hx
    obtain rfl : u = .int b := hy
    exact .inl ⟨rfl, by rw [dec_of fun _ _ z => V.int.inj z]; exact q _ _ _ h (.refl bg) rfl⟩
  · obtain rfl : v = .bl a := hx
    obtain rfl : u = .bl b := hy
    exact .inl ⟨rfl, by rw [dec_of fun _ _ z => V.bl.inj z]; exact q _ _ _ h (.refl bg) rfl⟩
  · exact .inr ⟨_, _, Dt.dp x v h1 hx, Dt.dp y u h2 hy, h1, h2, h3, q _ _ _ h (.refl bg) rfl⟩
theorem ok_ne : OkOp F (rNeA F.K) neD := by
  intro G H x y v u k Q ⟨ob, oi, tr, bg⟩ h hx hy q
  rcases eqB_cases h with ⟨a, b, rfl, rfl, h⟩ | ⟨a, b, rfl, rfl, h⟩ | ⟨a, b, rfl, rfl, h⟩ | ⟨⟨h1, h2, h3⟩, h⟩
  · obtain rfl : v = .str a := hx
    obtain rfl : u = .str b := hy
    exact .inl ⟨rfl, by rw [dec_of fun _ _ z => V.str.inj z]; exact q _ _ _ h (.refl bg) rfl⟩
  · obtain rfl : v = .int a := hx
    obtain rfl : u = .int b := hy
    exact .inl ⟨rfl, by rw [dec_of fun _ _ z => V.int.inj z]; exact q _ _ _ h (.refl bg) rfl⟩
  · obtain rfl : v = .bl a := hx
    obtain rfl : u = .bl b := hy
    exact .inl ⟨rfl, by rw [dec_of fun _ _ z => V.bl.inj z]; exact q _ _ _ h (.refl bg) rfl⟩
  · exact .inr ⟨_, _, Dt.dp x v h1 hx, Dt.dp y u h2 hy, h1, h2, h3, q _ _ _ h (.refl bg) rfl⟩
end
/-! ### x in y: lists, tuples -/
def inOk (x : D) (ys : List D) : Prop := x.py.canLay0 = true ∧ PyData.canLayAll0 (D.pys ys) = true ∧ x.py.depth ≤ 140
def inB (x y : D) (k : Bool → Prop) : Prop := match y with
  | .lst ys => inOk x ys ∧ k (ys.any fun z => PyData.eqv z.py x.py)
  | .tup ys => inOk x ys ∧ k (ys.any fun z => PyData.eqv z.py x.py)
  | _ => False
def inD : OD := fun x y k => inB x y fun b => k (.bl b)
def notInD : OD := fun x y k => inB x y fun b => k (.bl (!b))
def rInA (K : PySem.W.Frag) (neg : Bool) : R2 := fun x y H Q => ∃ d ds, Dp K H x d ∧ (Dp K H y (.list ds) ∨ Dp K H y (.tuple ds)) ∧ d.canLay0 = true ∧ PyData.canLayAll0 ds = true ∧ d.depth ≤ 140 ∧
  Q (.bl (if neg then !ds.any fun z => PyData.eqv z d else ds.any fun z => PyData.eqv z d)) H
section
variable {X : Cx} {F : Fr} {n : Nat}
theorem op_inA (hr : Room n X.A) : OpR X (compareOp .In) (rInA X.K false) := by
  intro pins s σ H x y v u Q I rx ry h
  obtain ⟨d, ds, hd, he, cd, ce, hm, q⟩ := h
  obtain ⟨as, r1⟩ := Dp.reads I d x v hd rx
  have hu : X.A.units + 1 + min (PyData.depthAll ds) d.depth < cLine := by have := u150 hr; omega
  rcases he with he | he
  · obtain ⟨bs, r2⟩ := Dp.reads I _ y u he ry
    exact SeqAt.in_list_reads r2 r1 ce cd hu ⟨.bl _, H, I, rfl, q⟩
  · obtain ⟨bs, r2⟩ := Dp.reads I _ y u he ry
    exact SeqAt.in_tuple_reads r2 r1 ce cd hu ⟨.bl _, H, I, rfl, q⟩
theorem op_notInA (hr : Room n X.A) : OpR X (compareOp .NotIn) (rInA X.K true) := by
  intro pins s σ H x y v u Q I rx ry h
  obtain ⟨d, ds, hd, he, cd, ce, hm, q⟩ := h
  obtain ⟨as, r1⟩ := Dp.reads I d x v hd rx
  have hu : X.A.units + 1 + min (PyData.depthAll ds) d.depth < cLine := by have := u150 hr; omega
  rcases he with he | he
  · obtain ⟨bs, r2⟩ := Dp.reads I _ y u he ry
    exact SeqAt.notIn_list_reads r2 r1 ce cd hu ⟨.bl _, H, I, rfl, q⟩
  · obtain ⟨bs, r2⟩ := Dp.reads I _ y u he ry
    exact SeqAt.notIn_tuple_reads r2 r1 ce cd hu ⟨.bl _, H, I, rfl, q⟩
theorem any_pys (f : PyData → Bool) (ys : List D) : (D.pys ys).any f = ys.any fun z => f z.py := by rw [pys_map, List.any_map]; rfl
theorem ok_in : OkOp F (rInA F.K false) inD := by
  intro G H x y v u k Q ⟨ob, oi, tr, bg⟩ h hx hy q
  cases y with
  | lst ys =>
    obtain ⟨⟨h1, h2, h3⟩, h⟩ := h
    have e := Dt.dp (.lst ys) u (by simpa only [D.py, PyData.canLay0] using h2) hy
    refine ⟨_, _, Dt.dp x v h1 hx, .inl e, h1, h2, h3, ?_⟩
    rw [any_pys]
    exact q _ _ _ h (.refl bg) rfl
  | tup ys =>
    obtain ⟨⟨h1, h2, h3⟩, h⟩ := h
    have e := Dt.dp (.tup ys) u (by simpa only [D.py, PyData.canLay0] using h2) hy
    refine ⟨_, _, Dt.dp x v h1 hx, .inr e, h1, h2, h3, ?_⟩
    rw [any_pys]
    exact q _ _ _ h (.refl bg) rfl
  | _ => exact (show False from h).elim
theorem ok_notIn : OkOp F (rInA F.K true) notInD := by
  intro G H x y v u k Q ⟨ob, oi, tr, bg⟩ h hx hy q
  cases y with
  | lst ys =>
    obtain ⟨⟨h1, h2, h3⟩, h⟩ := h
    have e := Dt.dp (.lst ys) u (by simpa only [D.py, PyData.canLay0] using h2) hy
    refine ⟨_, _, Dt.dp x v h1 hx, .inl e, h1, h2, h3, ?_⟩
    rw [any_pys]
    exact q _ _ _ h (.refl bg) rfl
  | tup ys =>
    obtain ⟨⟨h1, h2, h3⟩, h⟩ := h
    have e := Dt.dp (.tup ys) u (by simpa only [D.py, PyData.canLay0] using h2) hy
    refine ⟨_, _, Dt.dp x v h1 hx, .inr e, h1, h2, h3, ?_⟩
    rw [any_pys]
    exact q _ _ _ h (.refl bg) rfl
  | _ => exact (show False from h).elim
end

theorem of_tt {A B : Prop} (h : if true = true then A else B) : A := (if_pos (c := true = true) rfl).mp h
theorem of_ff {A B : Prop} (h : if false = true then A else B) : B := (if_neg Bool.false_ne_true).mp h
/-! ### truth; and, or, not; a if t else b -/
def truD : D → (Bool → Prop) → Prop
  | .non, k => k false
  | .bl b, k => k b
  | .int i, k => k (i != 0)
  | .str x, k => x.length ≤ sizeLine ∧ k ((x.length : Int) != 0)
  | .lst ds, k => k (!ds.isEmpty)
  | .tup ds, k => k (!ds.isEmpty)
  | _, _ => False
theorem truD_ok {K : PySem.W.Frag} {G : Gh} {H : Hp} {d : D} {v : V} {k : Bool → Prop} (h : truD d k) (hd : Dt K G H d v) : ∃ b, TruV K v H b ∧ k b := by
  cases d with
  | non =>
    obtain rfl : v = .non := hd
    exact ⟨false, rfl, h⟩
  | bl b =>
    obtain rfl : v = .bl b := hd
    exact ⟨b, rfl, h⟩
  | int i =>
    obtain rfl : v = .int i := hd
    exact ⟨_, rfl, h⟩
  | str x =>
    obtain rfl : v = .str x := hd
    exact ⟨_, ⟨h.1, rfl⟩, h.2⟩
  | lst ds =>
    obtain ⟨a, xs, rfl, _, ha, hl⟩ := hd
    refine ⟨_, .inl ⟨xs, SqL.of ha, rfl⟩, ?_⟩
    cases ds <;> cases xs <;> first | exact h | (have := hl.len; simp at this)
  | tup ds =>
    obtain ⟨a, xs, rfl, ha, hl⟩ := hd
    refine ⟨_, .inr (.inl ⟨xs, ha, rfl⟩), ?_⟩
    cases ds <;> cases xs <;> first | exact h | (have := hl.len; simp at this)
  | _ => exact (show False from h).elim
def andT (ta tb : TD) : TD := fun ρ k => ta ρ fun x => truD x fun b => if b = true then tb ρ k else k x
def orT (ta tb : TD) : TD := fun ρ k => ta ρ fun x => truD x fun b => if b = true then k x else tb ρ k
def notT (ta : TD) : TD := fun ρ k => ta ρ fun x => truD x fun b => k (.bl (!b))
def ifT (t : TBD) (ta tb : TD) : TD := fun ρ k => t ρ fun b => if b = true then ta ρ k else tb ρ k
def andB (t u : TBD) : TBD := fun ρ k => t ρ fun b => if b = true then u ρ k else k false
def orB (t u : TBD) : TBD := fun ρ k => t ρ fun b => if b = true then k true else u ρ k
def notB (t : TBD) : TBD := fun ρ k => t ρ fun b => k (!b)
def truT (ta : TD) : TBD := fun ρ k => ta ρ fun x => truD x k
theorem pw_imp {X : Cx} {e : Expr} {t t' : TT} (h : PW X e t) (i : ∀ σ H Q, t' σ H Q → t σ H Q) : PW X e t' := ⟨fun wh pins s σ H Q I w => h.run wh pins s σ H Q I (i _ _ _ w)⟩
section
variable {X : Cx} {F : Fr} {a b c : Expr} {rest : List Expr} {ta tb : TD} {tA tB : TBD} {pos : Pos}
theorem d_one {op : BoolOp} (h : PE X a (lift F ta)) : PE X (.BoolOp op [a] pos) (lift F ta) := pe_one h
theorem d_and (ha : PE X a (lift F ta)) (hb : PE X (.BoolOp .And (b :: rest) pos) (lift F tb)) (hK : X.K = F.K := by rfl) : PE X (.BoolOp .And (a :: b :: rest) pos) (lift F (andT ta tb)) := by
  refine pe_imp (pe_andT ha hb) fun σ H Q ⟨G, ρ, k, r, h, q⟩ => ⟨G, ρ, _, r, h, fun d v H1 h1 e1 d1 => ?_⟩
  obtain ⟨c, hc, h1⟩ := truD_ok h1 d1
  refine ⟨c, hK ▸ hc, ?_⟩
  cases c with
  | true => exact iteT ⟨G, ρ, k, r.step e1, of_tt h1, fun d v H2 h2 e2 d2 => q d v H2 h2 (e1.trans e2) d2⟩
  | false => exact iteF (q d v H1 (of_ff h1) e1 d1)
theorem d_or (ha : PE X a (lift F ta)) (hb : PE X (.BoolOp .Or (b :: rest) pos) (lift F tb)) (hK : X.K = F.K := by rfl) : PE X (.BoolOp .Or (a :: b :: rest) pos) (lift F (orT ta tb)) := by
  refine pe_imp (pe_orT ha hb) fun σ H Q ⟨G, ρ, k, r, h, q⟩ => ⟨G, ρ, _, r, h, fun d v H1 h1 e1 d1 => ?_⟩
  obtain ⟨c, hc, h1⟩ := truD_ok h1 d1
  refine ⟨c, hK ▸ hc, ?_⟩
  cases c with
  | false => exact iteF ⟨G, ρ, k, r.step e1, of_ff h1, fun d v H2 h2 e2 d2 => q d v H2 h2 (e1.trans e2) d2⟩
  | true => exact iteT (q d v H1 (of_tt h1) e1 d1)
theorem d_not (ha : PE X a (lift F ta)) (hK : X.K = F.K := by rfl) : PE X (.UnaryOp .Not a pos) (lift F (notT ta)) := by
  refine pe_imp (pe_notT ha) fun σ H Q ⟨G, ρ, k, r, h, q⟩ => ⟨G, ρ, _, r, h, fun d v H1 h1 e1 d1 => ?_⟩
  obtain ⟨c, hc, h1⟩ := truD_ok h1 d1
  exact ⟨c, hK ▸ hc, q _ _ _ h1 e1 rfl⟩
theorem d_if (hc : PT X c (liftT F tA)) (ha : PE X a (lift F ta)) (hb : PE X b (lift F tb)) : PE X (.IfExp c a b pos) (lift F (ifT tA ta tb)) := by
  refine pe_imp (pe_ifExp hc ha hb) fun σ H Q ⟨G, ρ, k, r, h, q⟩ => ⟨G, ρ, _, r, h, fun d H1 h1 e1 => ?_⟩
  cases d with
  | true => exact iteT ⟨G, ρ, k, r.step e1, of_tt h1, fun d v H2 h2 e2 d2 => q d v H2 h2 (e1.trans e2) d2⟩
  | false => exact iteF ⟨G, ρ, k, r.step e1, of_ff h1, fun d v H2 h2 e2 d2 => q d v H2 h2 (e1.trans e2) d2⟩
theorem t_tru (ha : PE X a (lift F ta)) (he : ∀ whole, isTrue a X.env whole = (do let v ← whole; standAt a.pos; holding [v] (truthy v)) := by intro _; rfl) (hK : X.K = F.K := by rfl) : PT X a (liftT F (truT ta)) := by
  refine pt_imp (pt_truth ha he) fun σ H Q ⟨G, ρ, k, r, h, q⟩ => ⟨G, ρ, _, r, h, fun d v H1 h1 e1 d1 => ?_⟩
  obtain ⟨c, hc, h1⟩ := truD_ok h1 d1
  exact ⟨c, hK ▸ hc, q c H1 h1 e1⟩
theorem w_and1 (ha : PT X a (liftT F tA)) : PW X (.BoolOp .And [a] pos) (liftT F tA) := pw_and1 ha
theorem w_or1 (ha : PT X a (liftT F tA)) : PW X (.BoolOp .Or [a] pos) (liftT F tA) := pw_or1 ha
theorem w_and (ha : PT X a (liftT F tA)) (hb : PW X (.BoolOp .And (b :: rest) pos) (liftT F tB)) : PW X (.BoolOp .And (a :: b :: rest) pos) (liftT F (andB tA tB)) := by
  refine pw_imp (pw_and ha hb) fun σ H Q ⟨G, ρ, k, r, h, q⟩ => ⟨G, ρ, _, r, h, fun d H1 h1 e1 => ?_⟩
  cases d with
  | true => exact iteT ⟨G, ρ, k, r.step e1, of_tt h1, fun d H2 h2 e2 => q d H2 h2 (e1.trans e2)⟩
  | false => exact iteF (q _ H1 (of_ff h1) e1)
theorem w_or (ha : PT X a (liftT F tA)) (hb : PW X (.BoolOp .Or (b :: rest) pos) (liftT F tB)) : PW X (.BoolOp .Or (a :: b :: rest) pos) (liftT F (orB tA tB)) := by
  refine pw_imp (pw_or ha hb) fun σ H Q ⟨G, ρ, k, r, h, q⟩ => ⟨G, ρ, _, r, h, fun d H1 h1 e1 => ?_⟩
  cases d with
  | false => exact iteF ⟨G, ρ, k, r.step e1, of_ff h1, fun d H2 h2 e2 => q d H2 h2 (e1.trans e2)⟩
  | true => exact iteT (q _ H1 (of_tt h1) e1)
theorem t_not (ha : PT X a (liftT F tA)) : PT X (.UnaryOp .Not a pos) (liftT F (notB tA)) :=
  pt_imp (pt_not ha) fun σ H Q ⟨G, ρ, k, r, h, q⟩ => ⟨G, ρ, _, r, h, fun d H1 h1 e1 => q _ H1 h1 e1⟩
end
end DL

set_option Elab.async false
set_option linter.all false
set_option maxRecDepth 100000
set_option maxHeartbeats 1000000
namespace DL
open PySem L2

/-! ### subscripts -/
section
variable {K : PySem.W.Frag} {G : Gh} {H : Hp}
theorem DtL.get : ∀ {ds : List D} {vs : List V} {i : Nat} {d : D}, DtL K G H ds vs → ds[i]? = some d → ∃ v, vs[i]? = some v ∧ Dt K G H d v
  | [], _, i, d, _, e => by simp at e
  | a :: ds, vs, 0, d, h, e => by
    obtain ⟨x, r, rfl, h1, h2⟩ := h
    simp at e; subst e
    exact ⟨x, rfl, h1⟩
  | a :: ds, vs, i + 1, d, h, e => by
    obtain ⟨x, r, rfl, h1, h2⟩ := h
    obtain ⟨v, e1, e2⟩ := DtL.get (i := i) h2 (by simpa using e)
    exact ⟨v, by simpa using e1, e2⟩
theorem DtL.get' {ds : List D} {vs : List V} {i : Nat} {v : V} (h : DtL K G H ds vs) (e : vs[i]? = some v) : ∃ d, ds[i]? = some d ∧ Dt K G H d v := by
  have hi : i < ds.length := by rw [h.len]; exact (List.getElem?_eq_some_iff.mp e).1
  obtain ⟨v', e1, e2⟩ := h.get (List.getElem?_eq_getElem hi)
  rw [e] at e1
  obtain rfl := Option.some.inj e1
  exact ⟨_, List.getElem?_eq_getElem hi, e2⟩
theorem DtL.atI {ds : List D} {vs : List V} {i : Int} {d : D} (h : DtL K G H ds vs) (e : L2.atI ds i = some d) : ∃ v, L2.atI vs i = some v ∧ Dt K G H d v := by
  unfold L2.atI at e ⊢
  rw [← h.len]
  cases q : ixN ds.length i with
  | none => rw [q] at e; cases e
  | some j =>
    rw [q] at e
    exact h.get e
theorem DtL.drop : ∀ {ds : List D} {vs : List V} (n : Nat), DtL K G H ds vs → DtL K G H (ds.drop n) (vs.drop n)
  | ds, vs, 0, h => h
  | [], vs, n + 1, h => by
    obtain rfl : vs = [] := h
    exact rfl
  | d :: ds, vs, n + 1, h => by
    obtain ⟨x, r, rfl, h1, h2⟩ := h
    exact DtL.drop n h2
theorem DtL.take : ∀ {ds : List D} {vs : List V} (n : Nat), DtL K G H ds vs → DtL K G H (ds.take n) (vs.take n)
  | ds, vs, 0, h => rfl
  | [], vs, n + 1, h => by
    obtain rfl : vs = [] := h
    exact rfl
  | d :: ds, vs, n + 1, h => by
    obtain ⟨x, r, rfl, h1, h2⟩ := h
    exact ⟨x, _, rfl, h1, DtL.take n h2⟩
theorem DtL.rev {ds : List D} {vs : List V} (h : DtL K G H ds vs) : DtL K G H ds.reverse vs.reverse := by
  induction ds generalizing vs with
  | nil =>
    obtain rfl : vs = [] := h
    exact rfl
  | cons d ds ih =>
    obtain ⟨x, r, rfl, h1, h2⟩ := h
    rw [List.reverse_cons, List.reverse_cons]
    exact (ih h2).app ⟨x, [], rfl, h1, rfl⟩
end
def optK {α : Type} (o : Option α) (k : α → Prop) : Prop := ∃ a, o = some a ∧ k a
def ixD : OD
  | .lst ds, .int i, k => optK (L2.atI ds i) k
  | .tup ds, .int i, k => optK (L2.atI ds i) k
  | .str z, .int i, k => z.length ≤ sizeLine ∧ optK (L2.atI z.cps.toList i) fun c => k (.str ⟨#[c]⟩)
  | _, _, _ => False
section
variable {X : Cx} {F : Fr} {a b : Expr} {ta tb : TD} {pos : Pos}
theorem ok_ix (hK : X.K = F.K) : OkOp F (rIx X.K) ixD := by
  intro G H x y v u k Q ⟨ob, oi, tr, bg⟩ h hx hy q
  rw [hK]
  cases x <;> try exact (show False from h).elim
  · cases y <;> try exact (show False from h).elim
    obtain ⟨e, h⟩ := h
    obtain rfl := hx
    obtain rfl := hy
    obtain ⟨c, hc, h⟩ := h
    exact .inr (.inr ⟨_, _, c, rfl, rfl, e, hc, q _ _ _ h (.refl bg) rfl⟩)
  · cases y <;> try exact (show False from h).elim
    obtain ⟨p, xs, rfl, n, hp, hl⟩ := hx
    obtain rfl := hy
    obtain ⟨d, hd, h⟩ := h
    obtain ⟨w, e1, e2⟩ := hl.atI hd
    exact .inl ⟨p, xs, _, w, rfl, rfl, SqL.of hp, e1, q _ _ _ h (.refl bg) e2⟩
  · cases y <;> try exact (show False from h).elim
    obtain ⟨p, xs, rfl, hp, hl⟩ := hx
    obtain rfl := hy
    obtain ⟨d, hd, h⟩ := h
    obtain ⟨w, e1, e2⟩ := hl.atI hd
    exact .inr (.inl ⟨p, xs, _, w, rfl, rfl, hp, e1, q _ _ _ h (.refl bg) e2⟩)
theorem d_ix (ha : PE X a (lift F ta)) (hb : PE X b (lift F tb)) (hs : PlainIx b := by intro _ _; rfl) (hK : X.K = F.K := by rfl) : PE X (.Subscript a b pos) (lift F (binT ixD ta tb)) :=
  pe_imp (pe_ix ix_seq ha hb hs) (opT (ok_ix hK))
end
/-! ### slices -/
abbrev TO2 := List Sl → (Option Int → Prop) → Prop
def liftO (F : Fr) (T : TO2) : TO := fun σ H Q => ∃ G ρ k, Rel F G H σ ρ ∧ T ρ k ∧ ∀ o H', k o → Ext G H H' → Q o H'
def noneO : TO2 := fun _ k => k none
def someO (t : TD) : TO2 := fun ρ k => t ρ fun d => match d with
  | .int i => k (some i)
  | _ => False
def cutL {α : Type} (xs : List α) (lo hi : Option Int) : List α := (xs.drop (HT.sIx xs.length 0 lo)).take (HT.sIx xs.length xs.length hi - HT.sIx xs.length 0 lo)
def slT (o : D → Option Int → Option Int → (D → Prop) → Prop) (t : TD) (l u : TO2) : TD := fun ρ k => t ρ fun x => l ρ fun lo => u ρ fun hi => o x lo hi k
def slD : D → Option Int → Option Int → (D → Prop) → Prop
  | .lst ds, lo, hi, k => k (.lst (cutL ds lo hi))
  | .tup ds, lo, hi, k => k (.tup (cutL ds lo hi))
  | .str z, lo, hi, k => z.length ≤ sizeLine ∧ k (.str (cutS z lo hi))
  | _, _, _, _ => False
theorem cutL_all {α : Type} {xs : List α} {lo hi : Option Int} (h : HT.sIx xs.length 0 lo = 0 ∧ HT.sIx xs.length xs.length hi = xs.length) : cutL xs lo hi = xs := by
  unfold cutL
  rw [h.1, h.2]
  simp
section
variable {X : Cx} {F : Fr} {e : Expr} {te : TD} {lo hi : Option Expr} {tl th : TO2} {p2 pos : Pos}
theorem o_none : PO X none (liftO F noneO) := ⟨fun pins s σ H Q I ⟨G, ρ, k, r, h, q⟩ => po_none.run pins s σ H Q I (q none H h (.refl r.bag))⟩
theorem o_some {x : Expr} {tx : TD} (h : PE X x (lift F tx)) : PO X (some x) (liftO F (someO tx)) := by
  refine ⟨fun pins s σ H Q I ⟨G, ρ, k, r, w, q⟩ => (po_some h).run pins s σ H Q I ⟨G, ρ, _, r, w, fun d v H1 h1 e1 d1 => ?_⟩⟩
  cases d with
  | int i => exact ⟨i, d1, q _ H1 h1 e1⟩
  | _ => exact (show False from h1).elim
theorem DtL.cut {K : PySem.W.Frag} {G : Gh} {H : Hp} {ds : List D} {vs : List V} (h : DtL K G H ds vs) : DtL K G H (cutL ds lo' hi') (cutV vs lo' hi') := by
  unfold cutL cutV
  rw [h.len]
  exact (h.drop _).take _
theorem d_slice (he : PE X e (lift F te)) (hl : PO X lo (liftO F tl)) (hu : PO X hi (liftO F th)) (hK : X.K = F.K := by rfl) : PE X (.Subscript e (.Slice lo hi none p2) pos) (lift F (slT slD te tl th)) := by
  refine pe_imp (pe_slice (sl_list.or (sl_tupA.or sl_str)) he hl hu) fun σ H Q ⟨G, ρ, k, r, h, q⟩ => ⟨G, ρ, _, r, h, fun d v H1 h1 e1 d1 => ?_⟩
  refine ⟨G, ρ, _, r.step e1, h1, fun lo' H2 h2 e2 => ?_⟩
  refine ⟨G, ρ, _, (r.step e1).step e2, h2, fun hi' H3 h3 e3 => ?_⟩
  have r2 := r.step e1
  have d3 := (r2.evo (e2.trans e3)).dt d v d1
  have r3 := r2.step (e2.trans e3)
  have e13 := e1.trans (e2.trans e3)
  cases d <;> try exact (show False from h3).elim
  · obtain rfl := d3
    exact .inr (.inr ⟨_, rfl, h3.1, q _ _ _ h3.2 e13 rfl⟩)
  · obtain ⟨a, xs, rfl, n, ha, hl⟩ := d3
    refine .inl ⟨a, xs, rfl, SqL.of ha, fun p hp => ?_⟩
    have e4 : Ext G H3 (upd H3 p (.lst (cutV xs lo' hi'))) := Ext.new r3.bag hp
    exact q _ _ _ h3 (e13.trans e4) ⟨p, _, rfl, r3.free hp, upd_same, (r3.evo e4).dts _ _ hl.cut⟩
  · obtain ⟨a, xs, rfl, ha, hl⟩ := d3
    refine .inr (.inl ⟨a, xs, rfl, hK ▸ ha, fun w => ?_, fun _ p hp => ?_⟩)
    · rw [← hl.len] at w
      refine q _ _ _ h3 e13 ⟨a, xs, rfl, ha, ?_⟩
      rw [cutL_all w]; exact hl
    · have e4 : Ext G H3 (upd H3 p (.tup (cutV xs lo' hi'))) := Ext.new r3.bag hp
      exact q _ _ _ h3 (e13.trans e4) ⟨p, _, rfl, .inl (.inl upd_same), (r3.evo e4).dts _ _ hl.cut⟩
def slF (t : TD) (l u : TO2) : TLD := fun ρ k => t ρ fun x => l ρ fun lo => u ρ fun hi => match x with
  | .lst ds => k (cutL ds lo hi)
  | _ => False
/-- a slice of a list, as a new list -/
theorem f_slice (he : PE X e (lift F te)) (hl : PO X lo (liftO F tl)) (hu : PO X hi (liftO F th)) (hK : X.K = F.K := by rfl) : PE X (.Subscript e (.Slice lo hi none p2) pos) (liftF F (slF te tl th)) := by
  refine pe_imp (pe_slice sl_list he hl hu) fun σ H Q ⟨G, ρ, k, r, h, q⟩ => ⟨G, ρ, _, r, h, fun d v H1 h1 e1 d1 => ?_⟩
  refine ⟨G, ρ, _, r.step e1, h1, fun lo' H2 h2 e2 => ?_⟩
  refine ⟨G, ρ, _, (r.step e1).step e2, h2, fun hi' H3 h3 e3 => ?_⟩
  have r2 := r.step e1
  have d3 := (r2.evo (e2.trans e3)).dt d v d1
  have r3 := r2.step (e2.trans e3)
  have e13 := e1.trans (e2.trans e3)
  cases d <;> try exact (show False from h3).elim
  obtain ⟨a, xs, rfl, n, ha, hl⟩ := d3
  refine ⟨a, xs, rfl, SqL.of ha, fun p hp => ?_⟩
  have e4 : Ext G H3 (upd H3 p (.lst (cutV xs lo' hi'))) := Ext.new r3.bag hp
  exact q _ p _ _ h3 (e13.trans e4) (e13.free r.bag hp) upd_same ((r3.evoAdd e4 hp).dts _ _ hl.cut)
def revF (t : TD) : TLD := fun ρ k => t ρ fun x => match x with
  | .lst ds => k ds.reverse
  | _ => False
/-- xs[::-1] -/
theorem f_rev {k1 : Nat} {p1 p3 p4 : Pos} (he : PE X e (lift F te)) (hK : X.K = F.K := by rfl) : PE X (.Subscript e (.Slice none none (some (.UnaryOp .USub (.Constant (.int 1) k1 p1) p3)) p4) pos) (liftF F (revF te)) := by
  refine pe_imp (pe_revL he) fun σ H Q ⟨G, ρ, k, r, h, q⟩ => ⟨G, ρ, _, r, h, fun d v H1 h1 e1 d1 => ?_⟩
  cases d <;> try exact (show False from h1).elim
  obtain ⟨a, xs, rfl, n, ha, hl⟩ := d1
  refine ⟨a, xs, rfl, SqL.of ha, fun p hp => ?_⟩
  have r3 := r.step e1
  have e4 : Ext G H1 (upd H1 p (.lst xs.reverse)) := Ext.new r3.bag hp
  exact q _ p _ _ h1 (e1.trans e4) (e1.free r.bag hp) upd_same ((r3.evoAdd e4 hp).dts _ _ hl.rev)
end

/-! ### builtins by data -/
def OkCall (F : Fr) (r : List V → Hp → VK → Prop) (o : RD) : Prop := ∀ (G : Gh) (H : Hp) (ds : List D) (vs : List V) (k : D → Prop) (Q : VK), GOk G H → o ds k → DtL F.K G H ds vs →
  (∀ d w H', k d → Ext G H H' → Dt F.K G H' d w → Q w H') → r vs H Q
section
variable {X : Cx} {F : Fr} {x : Str} {p pos : Pos} {e : Expr} {es : List Expr} {ta : TLD} {id T : String} {r : List V → Hp → VK → Prop} {o : RD}
theorem callbT (hr : OkCall F r o) : ∀ σ H Q, lift F (callT o ta) σ H Q → tCB r (liftA F ta) σ H Q := by
  intro σ H Q ⟨G, ρ, k, rl, h, q⟩
  refine ⟨G, ρ, _, rl, h, fun ds vs H1 h1 e1 d1 => ?_⟩
  have r1 := rl.step e1
  exact hr G H1 ds vs k Q r1.ok h1 d1 fun d w H2 h2 e2 d2 => q d w H2 h2 (e1.trans e2) d2
theorem d_callB (hc : CallR X (.builtin id) r) (hr : OkCall F r o) (hg : Gl X x) (hm : X.mg x = none) (hv : bootBuiltins x = some (.builtin id)) (ha : PA X (e :: es) (liftA F ta)) (hn : x ≠ "__name__" := by decide) (hdb : (x == ("__debug__" : Str)) = false := by decide)
    (he : starEach (e :: es) X.env = (false, eval e X.env) :: starEach es X.env := by rfl) (hpl : (backTo pos (starEach es X.env)).any (·.1) = false := by rfl) : PE X (.Call (.Name x p) (e :: es) [] pos) (lift F (callT o ta)) :=
  pe_imp (pe_callB hc hg hm hv ha hn hdb he hpl) (callbT hr)
theorem d_callTy (hc : CallR X (.type T) r) (hr : OkCall F r o) (hg : Gl X x) (hm : X.mg x = none) (hv : bootBuiltins x = some (.type T)) (ha : PA X (e :: es) (liftA F ta)) (hn : x ≠ "__name__" := by decide) (hdb : (x == ("__debug__" : Str)) = false := by decide)
    (he : starEach (e :: es) X.env = (false, eval e X.env) :: starEach es X.env := by rfl) (hpl : (backTo pos (starEach es X.env)).any (·.1) = false := by rfl) : PE X (.Call (.Name x p) (e :: es) [] pos) (lift F (callT o ta)) :=
  pe_imp (pe_callTy hc hg hm hv ha hn hdb he hpl) (callbT hr)
end
theorem dl1 {K : PySem.W.Frag} {G : Gh} {H : Hp} {d : D} {vs : List V} (h : DtL K G H [d] vs) : ∃ v, vs = [v] ∧ Dt K G H d v := by
  obtain ⟨x, r, rfl, h1, h2⟩ := h
  obtain rfl : r = [] := h2
  exact ⟨x, rfl, h1⟩
theorem dl2 {K : PySem.W.Frag} {G : Gh} {H : Hp} {d d' : D} {vs : List V} (h : DtL K G H [d, d'] vs) : ∃ v v', vs = [v, v'] ∧ Dt K G H d v ∧ Dt K G H d' v' := by
  obtain ⟨x, r, rfl, h1, h2⟩ := h
  obtain ⟨v, rfl, h3⟩ := dl1 h2
  exact ⟨x, v, rfl, h1, h3⟩
def lenR : RD
  | [.str x], k => x.length ≤ sizeLine ∧ k (.int x.length)
  | [.lst ds], k => k (.int ds.length)
  | [.tup ds], k => k (.int ds.length)
  | _, _ => False
def intR : RD
  | [.int i], k => k (.int i)
  | [.bl b], k => k (.int (if b then 1 else 0))
  | _, _ => False
def absR : RD
  | [.int i], k => k (.int (if i < 0 then -i else i))
  | _, _ => False
def minR : RD
  | [.int i, .int j], k => k (.int (if j < i then j else i))
  | _, _ => False
def maxR : RD
  | [.int i, .int j], k => k (.int (if j > i then j else i))
  | _, _ => False
def tupR : RD
  | [.lst ds], k => k (.tup ds)
  | [.tup ds], k => k (.tup ds)
  | _, _ => False
def allR : RD := fun ds k => ∃ bs : List Bool, ds = [.lst (bs.map .bl)] ∧ k (.bl (bs.all _root_.id))
def anyR : RD := fun ds k => ∃ bs : List Bool, ds = [.lst (bs.map .bl)] ∧ k (.bl (bs.any _root_.id))
def sumR : RD := fun ds k => ∃ ns : List Int, ds = [.lst (ns.map .int)] ∧ k (.int ns.sum)
section
variable {X : Cx} {F : Fr}
theorem DtL.bls {K : PySem.W.Frag} {G : Gh} {H : Hp} : ∀ {bs : List Bool} {vs : List V}, DtL K G H (bs.map .bl) vs → vs = bs.map .bl
  | [], _, h => h
  | b :: bs, _, h => by
    obtain ⟨x, r, rfl, h1, h2⟩ := h
    obtain rfl := h1
    rw [DtL.bls h2]; rfl
theorem DtL.ints {K : PySem.W.Frag} {G : Gh} {H : Hp} : ∀ {bs : List Int} {vs : List V}, DtL K G H (bs.map .int) vs → vs = bs.map .int
  | [], _, h => h
  | b :: bs, _, h => by
    obtain ⟨x, r, rfl, h1, h2⟩ := h
    obtain rfl := h1
    rw [DtL.ints h2]; rfl
theorem DtL.strs {K : PySem.W.Frag} {G : Gh} {H : Hp} : ∀ {bs : List Str} {vs : List V}, DtL K G H (bs.map .str) vs → vs = bs.map .str
  | [], _, h => h
  | b :: bs, _, h => by
    obtain ⟨x, r, rfl, h1, h2⟩ := h
    obtain rfl := h1
    rw [DtL.strs h2]; rfl
theorem ok_len (hK : X.K = F.K) : OkCall F (fun xs H Q => ∃ x n, xs = [x] ∧ LenV X.K x H n ∧ Q (.int n) H) lenR := by
  intro G H ds vs k Q ⟨ob, oi, tr, bg⟩ h hd q
  unfold lenR at h
  split at h
  · obtain ⟨v, rfl, hv⟩ := dl1 hd
    obtain rfl := hv
    exact ⟨_, _, rfl, ⟨h.1, rfl⟩, q _ _ _ h.2 (.refl bg) rfl⟩
  · obtain ⟨v, rfl, a, xs, rfl, n, ha, hl⟩ := dl1 hd
    exact ⟨_, _, rfl, .inl ⟨xs, SqL.of ha, hl.len⟩, q _ _ _ h (.refl bg) rfl⟩
  · obtain ⟨v, rfl, a, xs, rfl, ha, hl⟩ := dl1 hd
    exact ⟨_, _, rfl, .inr ⟨xs, hK ▸ ha, hl.len⟩, q _ _ _ h (.refl bg) rfl⟩
  · exact h.elim
theorem ok_int : OkCall F (fun xs H Q => (∃ i, xs = [.int i] ∧ Q (.int i) H) ∨ ∃ k, xs = [.bl k] ∧ Q (.int (if k then 1 else 0)) H) intR := by
  intro G H ds vs k Q ⟨ob, oi, tr, bg⟩ h hd q
  unfold intR at h
  split at h
  · obtain ⟨v, rfl, hv⟩ := dl1 hd
    obtain rfl := hv
    exact .inl ⟨_, rfl, q _ _ _ h (.refl bg) rfl⟩
  · obtain ⟨v, rfl, hv⟩ := dl1 hd
    obtain rfl := hv
    exact .inr ⟨_, rfl, q _ _ _ h (.refl bg) rfl⟩
  · exact h.elim
theorem ok_abs : OkCall F (fun xs H Q => ∃ i, xs = [.int i] ∧ Q (.int (if i < 0 then -i else i)) H) absR := by
  intro G H ds vs k Q ⟨ob, oi, tr, bg⟩ h hd q
  unfold absR at h
  split at h
  · obtain ⟨v, rfl, hv⟩ := dl1 hd
    obtain rfl := hv
    exact ⟨_, rfl, q _ _ _ h (.refl bg) rfl⟩
  · exact h.elim
theorem ok_min : OkCall F (fun xs H Q => ∃ i j, xs = [.int i, .int j] ∧ Q (.int (if j < i then j else i)) H) minR := by
  intro G H ds vs k Q ⟨ob, oi, tr, bg⟩ h hd q
  unfold minR at h
  split at h
  · obtain ⟨v, u, rfl, hv, hu⟩ := dl2 hd
    obtain rfl := hv
    obtain rfl := hu
    exact ⟨_, _, rfl, q _ _ _ h (.refl bg) rfl⟩
  · exact h.elim
theorem ok_max : OkCall F (fun xs H Q => ∃ i j, xs = [.int i, .int j] ∧ Q (.int (if j > i then j else i)) H) maxR := by
  intro G H ds vs k Q ⟨ob, oi, tr, bg⟩ h hd q
  unfold maxR at h
  split at h
  · obtain ⟨v, u, rfl, hv, hu⟩ := dl2 hd
    obtain rfl := hv
    obtain rfl := hu
    exact ⟨_, _, rfl, q _ _ _ h (.refl bg) rfl⟩
  · exact h.elim
theorem ok_tup (hK : X.K = F.K) : OkCall F (fun xs H Q => ∃ p ys, xs = [.ref p] ∧ ((SqL X.K H p ys ∧ ∀ l, H l = none → Q (.ref l) (upd H l (.tup ys))) ∨ (SqT X.K H p ys ∧ Q (.ref p) H))) tupR := by
  intro G H ds vs k Q ⟨ob, oi, tr, bg⟩ h hd q
  unfold tupR at h
  split at h
  · obtain ⟨v, rfl, a, xs, rfl, n, ha, hl⟩ := dl1 hd
    refine ⟨_, _, rfl, .inl ⟨SqL.of ha, fun l hl' => ?_⟩⟩
    have e : Ext G H (upd H l (.tup xs)) := Ext.new bg hl'
    have ev : Evo G G H (upd H l (.tup xs)) := ⟨fun a o n h => e.keep a o (fun z => n (by rw [z]; exact ob)) h, tr, fun _ n _ => n, rfl, rfl⟩
    exact q _ _ _ h e ⟨l, xs, rfl, .inl (.inl upd_same), ev.dts _ _ hl⟩
  · obtain ⟨v, rfl, a, xs, rfl, ha, hl⟩ := dl1 hd
    exact ⟨_, _, rfl, .inr ⟨hK ▸ ha, q _ _ _ h (.refl bg) ⟨a, xs, rfl, ha, hl⟩⟩⟩
  · exact h.elim
theorem ok_all (hK : X.K = F.K) : OkCall F (rAll X.K) allR := by
  intro G H ds vs k Q ⟨ob, oi, tr, bg⟩ h hd q
  obtain ⟨bs, rfl, h⟩ := h
  obtain ⟨v, rfl, a, xs, rfl, n, ha, hl⟩ := dl1 hd
  exact ⟨a, bs, rfl, by rw [← hl.bls]; exact SqL.of ha, q _ _ _ h (.refl bg) rfl⟩
theorem ok_any (hK : X.K = F.K) : OkCall F (rAny X.K) anyR := by
  intro G H ds vs k Q ⟨ob, oi, tr, bg⟩ h hd q
  obtain ⟨bs, rfl, h⟩ := h
  obtain ⟨v, rfl, a, xs, rfl, n, ha, hl⟩ := dl1 hd
  exact ⟨a, bs, rfl, by rw [← hl.bls]; exact SqL.of ha, q _ _ _ h (.refl bg) rfl⟩
theorem ok_sum (hK : X.K = F.K) : OkCall F (rSum X.K) sumR := by
  intro G H ds vs k Q ⟨ob, oi, tr, bg⟩ h hd q
  obtain ⟨bs, rfl, h⟩ := h
  obtain ⟨v, rfl, a, xs, rfl, n, ha, hl⟩ := dl1 hd
  exact ⟨a, bs, rfl, by rw [← hl.ints]; exact SqL.of ha, q _ _ _ h (.refl bg) rfl⟩
end
section
variable {X : Cx} {F : Fr} {p pos : Pos} {e : Expr} {ta : TLD}
theorem d_len (hg : Gl X "len") (hm : X.mg "len" = none) (ha : PA X [e] (liftA F ta)) (he : starEach [e] X.env = (false, eval e X.env) :: starEach [] X.env := by rfl) (hK : X.K = F.K := by rfl) :
    PE X (.Call (.Name "len" p) [e] [] pos) (lift F (callT lenR ta)) := d_callB call_len (ok_len hK) hg hm PySem.boot_len ha (by decide) (by decide) he
theorem d_toint (hg : Gl X "int") (hm : X.mg "int" = none) (ha : PA X [e] (liftA F ta)) (he : starEach [e] X.env = (false, eval e X.env) :: starEach [] X.env := by rfl) :
    PE X (.Call (.Name "int" p) [e] [] pos) (lift F (callT intR ta)) := d_callTy call_int1 ok_int hg hm (by decide +kernel) ha (by decide) (by decide) he
theorem d_abs (hg : Gl X "abs") (hm : X.mg "abs" = none) (ha : PA X [e] (liftA F ta)) (he : starEach [e] X.env = (false, eval e X.env) :: starEach [] X.env := by rfl) :
    PE X (.Call (.Name "abs" p) [e] [] pos) (lift F (callT absR ta)) := d_callB call_abs ok_abs hg hm (by decide +kernel) ha (by decide) (by decide) he
theorem d_totup (hg : Gl X "tuple") (hm : X.mg "tuple" = none) (ha : PA X [e] (liftA F ta)) (he : starEach [e] X.env = (false, eval e X.env) :: starEach [] X.env := by rfl) (hK : X.K = F.K := by rfl) :
    PE X (.Call (.Name "tuple" p) [e] [] pos) (lift F (callT tupR ta)) := d_callTy call_tuple_of (ok_tup hK) hg hm (by decide +kernel) ha (by decide) (by decide) he
theorem d_all (hc : X.calm = true) (hg : Gl X "all") (hm : X.mg "all" = none) (ha : PA X [e] (liftA F ta)) (he : starEach [e] X.env = (false, eval e X.env) :: starEach [] X.env := by rfl) (hK : X.K = F.K := by rfl) :
    PE X (.Call (.Name "all" p) [e] [] pos) (lift F (callT allR ta)) := d_callB (cr_all hc) (ok_all hK) hg hm (by decide +kernel) ha (by decide) (by decide) he
theorem d_any (hc : X.calm = true) (hg : Gl X "any") (hm : X.mg "any" = none) (ha : PA X [e] (liftA F ta)) (he : starEach [e] X.env = (false, eval e X.env) :: starEach [] X.env := by rfl) (hK : X.K = F.K := by rfl) :
    PE X (.Call (.Name "any" p) [e] [] pos) (lift F (callT anyR ta)) := d_callB (cr_any hc) (ok_any hK) hg hm (by decide +kernel) ha (by decide) (by decide) he
theorem d_sum (hc : X.calm = true) (hg : Gl X "sum") (hm : X.mg "sum" = none) (ha : PA X [e] (liftA F ta)) (he : starEach [e] X.env = (false, eval e X.env) :: starEach [] X.env := by rfl) (hK : X.K = F.K := by rfl) :
    PE X (.Call (.Name "sum" p) [e] [] pos) (lift F (callT sumR ta)) := d_callB (cr_sum hc) (ok_sum hK) hg hm (by decide +kernel) ha (by decide) (by decide) he
theorem d_min {e2 : Expr} (hc : X.calm = true) (hg : Gl X "min") (hm : X.mg "min" = none) (ha : PA X [e, e2] (liftA F ta)) (he : starEach [e, e2] X.env = (false, eval e X.env) :: starEach [e2] X.env := by rfl) (hpl : (backTo pos (starEach [e2] X.env)).any (·.1) = false := by rfl) :
    PE X (.Call (.Name "min" p) [e, e2] [] pos) (lift F (callT minR ta)) := d_callB (call_min2 hc) ok_min hg hm (by decide +kernel) ha (by decide) (by decide) he hpl
theorem d_max {e2 : Expr} (hc : X.calm = true) (hg : Gl X "max") (hm : X.mg "max" = none) (ha : PA X [e, e2] (liftA F ta)) (he : starEach [e, e2] X.env = (false, eval e X.env) :: starEach [e2] X.env := by rfl) (hpl : (backTo pos (starEach [e2] X.env)).any (·.1) = false := by rfl) :
    PE X (.Call (.Name "max" p) [e, e2] [] pos) (lift F (callT maxR ta)) := d_callB (call_max2 hc) ok_max hg hm (by decide +kernel) ha (by decide) (by decide) he hpl
/-- list(x): a new list -/
def lstR (t : TLD) : TLD := fun ρ k => t ρ fun ds => match ds with
  | [.lst xs] => k xs
  | [.tup xs] => k xs
  | _ => False
theorem f_tolst (hg : Gl X "list") (hm : X.mg "list" = none) (ha : PA X [e] (liftA F ta)) (he : starEach [e] X.env = (false, eval e X.env) :: starEach [] X.env := by rfl) (hK : X.K = F.K := by rfl) :
    PE X (.Call (.Name "list" p) [e] [] pos) (liftF F (lstR ta)) := by
  refine pe_imp (pe_callTy call_list_of hg hm (by decide +kernel) ha (by decide) (by decide) he) fun σ H Q ⟨G, ρ, k, r, h, q⟩ => ⟨G, ρ, _, r, h, fun ds vs H1 h1 e1 d1 => ?_⟩
  have r1 := r.step e1
  have fin : ∀ {xs : List V} {es : List D} (l : Addr), H1 l = none → DtL F.K G H1 es xs → k es → Q (.ref l) (upd H1 l (.lst xs)) := fun {xs es} l hl hd hk =>
    have e4 : Ext G H1 (upd H1 l (.lst xs)) := Ext.new r1.bag hl
    q _ l _ _ hk (e1.trans e4) (e1.free r.bag hl) upd_same ((r1.evoAdd e4 hl).dts _ _ hd)
  split at h1
  · obtain ⟨v, rfl, a, xs, rfl, n, ha, hl⟩ := dl1 d1
    exact ⟨_, _, rfl, .inl (SqL.of ha), fun l hn => fin l hn hl h1⟩
  · obtain ⟨v, rfl, a, xs, rfl, ha, hl⟩ := dl1 d1
    exact ⟨_, _, rfl, .inr (hK ▸ ha), fun l hn => fin l hn hl h1⟩
  · exact h1.elim
end
end DL

set_option Elab.async false
set_option linter.all false
set_option maxRecDepth 100000
set_option maxHeartbeats 1000000
namespace DL
open PySem L2

/-! ### changes of what a def owns -/
theorem Slots.mapI {F F' : Fr} {G G' : Gh} {H H' : Hp} : ∀ {ρ : List Sl} {σ : St}, (∀ (i : Nat) (s : Sl) (o : Option V), ρ[i]? = some s → σ[i]? = some o → SlR F G H s o → SlR F' G' H' s o) → Slots F G H ρ σ → Slots F' G' H' ρ σ
  | [], _, _, h => h
  | a :: ρ, σ, f, h => by
    obtain ⟨q, r, rfl, h1, h2⟩ := h
    exact ⟨q, r, rfl, f 0 _ _ rfl rfl h1, Slots.mapI (fun i s o e1 e2 => f (i + 1) s o (by simpa using e1) (by simpa using e2)) h2⟩
section
variable {F : Fr} {G G' : Gh} {H H' : Hp} {σ : St} {ρ : List Sl}
theorem Rel.own_ne_bg (r : Rel F G H σ ρ) {p : Addr} (n : ¬ F.G.own p) : p ≠ G.bg := fun z => n (by rw [z, r.bg]; exact r.ob)
theorem set_isM {ρ : List Sl} {i j : Nat} {s t : Sl} (h : (ρ.set i s)[j]? = some t) (hs : s.isM = false) (ht : t.isM = true) : j ≠ i ∧ ρ[j]? = some t := by
  have n : j ≠ i := fun e => by
    subst e
    rw [List.getElem?_set_self'] at h
    cases q : ρ[j]? with
    | none => rw [q] at h; cases h
    | some z =>
      rw [q] at h
      have e : s = t := Option.some.inj h
      rw [← e, hs] at ht; cases ht
  rw [List.getElem?_set_ne (Ne.symm n)] at h
  exact ⟨n, h⟩
/-- a slot is forgotten -/
theorem Rel.drop (r : Rel F G H σ ρ) (i : Nat) (o : Option V) : Rel F G H (σ.set i o) (ρ.set i .un) := by
  refine ⟨r.bg, r.bi, r.ob, r.oi, r.sub, r.new, r.tr, r.ext, r.pn, r.sl.set (s := .un) (o := o) True.intro i, fun a b s t p h1 h2 m1 m2 h3 h4 => ?_⟩
  obtain ⟨na, h1⟩ := set_isM h1 rfl m1
  obtain ⟨nb, h2⟩ := set_isM h2 rfl m2
  rw [List.getElem?_set_ne (Ne.symm na)] at h3
  rw [List.getElem?_set_ne (Ne.symm nb)] at h4
  exact r.uniq a b s t p h1 h2 m1 m2 h3 h4
/-- an owned object, in no slot, is changed -/
theorem Rel.mutate (r : Rel F G H σ ρ) {p : Addr} {o : HO} (hp : G.own p) (hn : ¬ F.G.own p) (mo : Mut (some o)) (hno : ∀ (i : Nat) (s : Sl), ρ[i]? = some s → s.isM = true → σ[i]? ≠ some (some (.ref p))) : Rel F G (upd H p o) σ ρ := by
  have nb := r.own_ne_bg hn
  have ev : Evo G G H (upd H p o) := ⟨fun a u n h => by rw [upd_ne (fun z => n (by rw [z]; exact hp))]; exact h, r.tr, fun _ n _ => n, rfl, rfl⟩
  refine ⟨r.bg, r.bi, r.ob, r.oi, r.sub, r.new, fun a h => ?_, ⟨fun a u n h => ?_, ?_⟩, fun q hq => ev.dt _ _ (r.pn q hq), Slots.mapI (fun i s u e1 e2 h => ?_) r.sl, r.uniq⟩
  · by_cases e : a = p
    · subst e; rw [upd_same]; exact mo
    · rw [upd_ne e]; exact r.tr a h
  · have e : a ≠ p := fun z => by
      subst z
      rw [r.new a hp hn] at h; cases h
    rw [upd_ne e]; exact r.ext.keep a u n h
  · obtain ⟨x, y, z, ns, h1, h2, q⟩ := r.ext.bag
    exact ⟨x, y, z, ns, by rw [upd_ne (by rw [← r.bg]; exact Ne.symm nb)]; exact h1, by rw [upd_ne fun z => hn (by rw [← z]; exact r.oi)]; exact h2, q⟩
  · cases s with
    | un => exact True.intro
    | dat d =>
      obtain ⟨v, h1, h2⟩ := h
      exact ⟨v, h1, ev.dt d v h2⟩
    | ml ds =>
      obtain ⟨a, xs, h1, h2, h3, h4, h5⟩ := h
      have ne : a ≠ p := fun z => hno i _ e1 rfl (by rw [e2, h1, z])
      exact ⟨a, xs, h1, h2, h3, by rw [upd_ne ne]; exact h4, ev.dts _ _ h5⟩
    | md es =>
      obtain ⟨a, h1, h2, h3, h4⟩ := h
      have ne : a ≠ p := fun z => hno i _ e1 rfl (by rw [e2, h1, z])
      rcases h4 with ⟨kvs, h4, h5⟩ | ⟨kvs, h4, h5⟩
      · exact ⟨a, h1, h2, h3, .inl ⟨kvs, by rw [upd_ne ne]; exact h4, ev.dtp _ _ _ h5⟩⟩
      · exact ⟨a, h1, h2, h3, .inr ⟨kvs, by rw [upd_ne ne]; exact h4, ev.dtq _ _ _ h5⟩⟩
end
end DL

set_option Elab.async false
set_option linter.all false
set_option maxRecDepth 100000
set_option maxHeartbeats 1000000
namespace DL
open PySem L2

/-! ### statements -/
structure DE where
  nx : List Sl → Prop
  rt : D → Prop
  bk : List Sl → Prop
  ct : List Sl → Prop
abbrev TSD := DE → List Sl → Prop
structure EndsOk (F : Fr) (k : DE) (E : Ends) : Prop where
  nx : ∀ ρ G σ H, k.nx ρ → Rel F G H σ ρ → E.nx σ H
  rt : ∀ d v H, k.rt d → Ext F.G F.H H → Dt F.K F.G H d v → E.rt v H
  bk : ∀ ρ G σ H, k.bk ρ → Rel F G H σ ρ → E.bk σ H
  ct : ∀ ρ G σ H, k.ct ρ → Rel F G H σ ρ → E.ct σ H
def liftS (F : Fr) (S : TSD) : TS := fun E σ H => ∃ G ρ k, Rel F G H σ ρ ∧ S k ρ ∧ EndsOk F k E

def setT (i : Nat) (t : TD) : TSD := fun k ρ => t ρ fun d => k.nx (ρ.set i (.dat d))
def seqT (s u : TSD) : TSD := fun k ρ => s { k with nx := u k } ρ
def nextT : TSD := fun k ρ => k.nx ρ
def retT (t : TD) : TSD := fun k ρ => t ρ k.rt
def retN : TSD := fun k _ => k.rt .non
def iffT (t : TBD) (s u : TSD) : TSD := fun k ρ => t ρ fun b => if b = true then s k ρ else u k ρ
def dropT (t : TD) : TSD := fun k ρ => t ρ fun _ => k.nx ρ
section
variable {X : Cx} {F : Fr} {st : Stmt} {rest : List Stmt} {s u : TSD} {e : Expr} {te : TD} {pos : Pos}
theorem s_nil : PSs X [] (liftS F nextT) := pss_imp pss_nil fun E σ H ⟨G, ρ, k, r, h, o⟩ => o.nx ρ G σ H h r
theorem s_cons (h1 : PS X st (liftS F s)) (h2 : PSs X rest (liftS F u)) : PSs X (st :: rest) (liftS F (seqT s u)) :=
  pss_imp (pss_cons h1 h2) fun E σ H ⟨G, ρ, k, r, h, o⟩ => ⟨G, ρ, _, r, h, ⟨fun ρ' G' σ' H' h' r' => ⟨G', ρ', k, r', h', o⟩, o.rt, o.bk, o.ct⟩⟩
theorem s_one (h1 : PS X st (liftS F s)) : PSs X [st] (liftS F s) := pss_one h1
theorem s_pass : PS X (.Pass pos) (liftS F nextT) := ps_imp ps_pass fun E σ H ⟨G, ρ, k, r, h, o⟩ => o.nx ρ G σ H h r
theorem s_set {i : Nat} {x : Str} {pos' : Pos} (hN : X.N.Nodup) (hi : X.N[i]? = some x) (hx : Loc X.env.scope x) (he : PE X e (lift F te)) (hs : swapsWith e (some (.Name x pos')) pos.line X.env = pure false := by rfl)
    (hf : X.fn x = true ∨ X.env.scope.names.lookup x = some .local := by first | exact .inl rfl | exact .inr rfl | assumption) : PS X (.Assign [.Name x pos'] e pos) (liftS F (setT i te)) :=
  ps_imp (ps_set hN hi hx he hs hf) fun E σ H ⟨G, ρ, k, r, h, o⟩ => ⟨G, ρ, _, r, h, fun d v H1 h1 e1 d1 => o.nx _ G _ H1 h1 ((r.step e1).put d1)⟩
theorem s_ret (he : PE X e (lift F te)) : PS X (.Return (some e) pos) (liftS F (retT te)) :=
  ps_imp (ps_ret he) fun E σ H ⟨G, ρ, k, r, h, o⟩ => ⟨G, ρ, _, r, h, fun d v H1 h1 e1 d1 => o.rt d v H1 h1 (r.step e1).ext ((r.step e1).less.dt d v d1)⟩
theorem s_retN : PS X (.Return none pos) (liftS F retN) := ps_imp ps_retN fun E σ H ⟨G, ρ, k, r, h, o⟩ => o.rt .non .non H h r.ext rfl
theorem s_if {c : Expr} {a b : List Stmt} {tc : TBD} (hc : PT X c (liftT F tc)) (ha : PSs X a (liftS F s)) (hb : PSs X b (liftS F u)) : PS X (.If c a b pos) (liftS F (iffT tc s u)) :=
  ps_imp (ps_if hc ha hb) fun E σ H ⟨G, ρ, k, r, h, o⟩ => ⟨G, ρ, _, r, h, fun d H1 h1 e1 => by
    cases d with
    | true => exact iteT ⟨G, ρ, k, r.step e1, of_tt h1, o⟩
    | false => exact iteF ⟨G, ρ, k, r.step e1, of_ff h1, o⟩⟩
theorem s_expr (he : PE X e (lift F te)) (hs : swapsWith e none pos.line X.env = pure false := by rfl) : PS X (.Expr e pos) (liftS F (dropT te)) :=
  ps_imp (ps_expr he hs) fun E σ H ⟨G, ρ, k, r, h, o⟩ => ⟨G, ρ, _, r, h, fun d v H1 h1 e1 d1 => o.nx _ G _ H1 h1 (r.step e1)⟩
def breakT : TSD := fun k ρ => k.bk ρ
def contT : TSD := fun k ρ => k.ct ρ
theorem s_break : PS X (.Break pos) (liftS F breakT) := ps_imp ps_break fun E σ H ⟨G, ρ, k, r, h, o⟩ => o.bk ρ G σ H h r
theorem s_cont : PS X (.Continue pos) (liftS F contT) := ps_imp ps_continue fun E σ H ⟨G, ρ, k, r, h, o⟩ => o.ct ρ G σ H h r
/-- a, b = e1, e2 -/
def parT (i j : Nat) (ta : TLD) : TSD := fun k ρ => ta ρ fun ds => match ds with
  | [d, d'] => k.nx ((ρ.set i (.dat d)).set j (.dat d'))
  | _ => False
theorem s_par {i j : Nat} {x y : Str} {a b : Expr} {ta : TLD} {px py pt : Pos} {kt k2 : Nat} {pt2 : Pos} (hc : X.calm = true) (hw : swappedStores [.Tuple [.Name x px, .Name y py] kt pt] (.Tuple [a, b] k2 pt2) X.env = pure (some [x, y])) (hN : X.N.Nodup)
    (hi : X.N[i]? = some x) (hj : X.N[j]? = some y) (hij : i ≠ j) (hx : X.env.scope.names.lookup x = some .local) (hy : X.env.scope.names.lookup y = some .local) (ha : PA X [a, b] (liftA F ta))
    (hs : swapsWithSole [.Tuple [.Name x px, .Name y py] kt pt] (.Tuple [a, b] k2 pt2) pos.line X.env = pure false := by rfl) : PS X (.Assign [.Tuple [.Name x px, .Name y py] kt pt] (.Tuple [a, b] k2 pt2) pos) (liftS F (parT i j ta)) := by
  refine ps_imp (ps_par hc hN hi hj hij hx hy ha hw hs) fun E σ H ⟨G, ρ, k, r, h, o⟩ => ⟨G, ρ, _, r, h, fun ds vs H1 h1 e1 d1 => ?_⟩
  split at h1
  · obtain ⟨v, w, rfl, d2, d3⟩ := dl2 d1
    exact ⟨v, w, rfl, o.nx _ G _ H1 h1 (((r.step e1).put d2).put d3)⟩
  · exact h1.elim
/-- code that is not come to -/
theorem s_never {sts : List Stmt} : PSs X sts (liftS F fun _ _ => False) := pss_imp pss_never fun E σ H ⟨G, ρ, k, r, h, o⟩ => h
end

/-! ### targets -/
inductive Tg where
  | nm (i : Nat)
  | tp (is : List Nat)
def gNames : List Nat → TGs
  | [] => gNil
  | i :: is => gCons (gName i) (gNames is)
def gOf (K : PySem.W.Frag) : Tg → TG
  | .nm i => gName i
  | .tp is => gTup K is.length (gNames is)
def putA : List Nat → List D → List Sl → List Sl
  | i :: is, d :: ds, ρ => putA is ds (ρ.set i (.dat d))
  | _, _, ρ => ρ
def tgD : Tg → D → List Sl → (List Sl → Prop) → Prop
  | .nm i, d, ρ, k => k (ρ.set i (.dat d))
  | .tp is, .tup ds, ρ, k => ds.length = is.length ∧ k (putA is ds ρ)
  | _, _, _, _ => False
def setA : List Nat → List V → St → St
  | i :: is, v :: vs, σ => setA is vs (σ.set i (some v))
  | _, _, σ => σ
section
variable {F : Fr} {G : Gh} {H : Hp}
theorem Rel.putA : ∀ {is : List Nat} {ds : List D} {vs : List V} {σ : St} {ρ : List Sl}, Rel F G H σ ρ → DtL F.K G H ds vs → Rel F G H (setA is vs σ) (DL.putA is ds ρ)
  | [], ds, vs, σ, ρ, r, h => by
    cases ds <;> cases vs <;> exact r
  | i :: is, [], vs, σ, ρ, r, h => by
    obtain rfl : vs = [] := h
    exact r
  | i :: is, d :: ds, vs, σ, ρ, r, h => by
    obtain ⟨x, w, rfl, h1, h2⟩ := h
    exact Rel.putA (is := is) (ds := ds) (vs := w) (σ := σ.set i (some x)) (ρ := ρ.set i (.dat d)) (r.put h1) h2
theorem gNames_ok : ∀ {is : List Nat} {vs : List V} {σ : St} {Q : St → Hp → Prop}, vs.length = is.length → Q (setA is vs σ) H → gNames is vs σ H Q
  | [], [], σ, Q, _, q => ⟨rfl, q⟩
  | [], v :: vs, σ, Q, e, q => by cases e
  | i :: is, [], σ, Q, e, q => by cases e
  | i :: is, v :: vs, σ, Q, e, q => ⟨v, vs, rfl, gNames_ok (is := is) (by simpa using e) q⟩
/-- the values that a target stores -/
def tgS : Tg → V → List V → St → St
  | .nm i, v, _, σ => σ.set i (some v)
  | .tp is, _, vs, σ => setA is vs σ
theorem gOf_ok {K : PySem.W.Frag} {σ : St} {ρ : List Sl} {t : Tg} {d : D} {v : V} {k : List Sl → Prop} {Q : St → Hp → Prop} (hK : K = F.K) (r : Rel F G H σ ρ) (hd : Dt F.K G H d v) (h : tgD t d ρ k)
    (q : ∀ ρ' vs, k ρ' → Rel F G H (tgS t v vs σ) ρ' → Q (tgS t v vs σ) H) : gOf K t v σ H Q := by
  cases t with
  | nm i => exact q _ [] h (r.put hd)
  | tp is =>
    cases d <;> try exact (show False from h).elim
    obtain ⟨hl, h⟩ := h
    obtain ⟨a, xs, rfl, ha, hx⟩ := hd
    refine ⟨a, xs, rfl, hK ▸ ha, by rw [← hx.len]; exact hl, gNames_ok (by rw [← hx.len]; exact hl) ?_⟩
    exact q _ xs h (r.putA hx)
end

/-! ### what is walked -/
def Walk (K : PySem.W.Frag) (pn : List (V × D)) (J : It) (ds : List D) : Prop := ∀ (i : Nat) (G : Gh) (H : Hp), GOk G H → (∀ q ∈ pn, Dt K G H q.2 q.1) →
  (i < ds.length → J.go i H ∧ ∀ x H', J.yld i H x H' → (∀ a o, H a = some o → H' a = some o) ∧ ∃ d, ds[i]? = some d ∧ Dt K G H' d x) ∧ (ds.length ≤ i → J.stop i H)
def liftI (F : Fr) (I : TLD) : TI := fun σ H R => ∃ G ρ k, Rel F G H σ ρ ∧ I ρ k ∧ ∀ ds J H1 pn, k ds → Ext G H H1 → Walk F.K pn J ds → (∀ q ∈ pn, Dt F.K G H1 q.2 q.1) → R J H1
theorem pi_imp {X : Cx} {tg it : Expr} {t t' : TI} (h : PI X tg it t) (i : ∀ σ H R, t' σ H R → t σ H R) : PI X tg it t' := ⟨fun pins s σ H R I w => h.run pins s σ H R I (i _ _ _ w)⟩
def loopT (t : Tg) (S : TSD) (k : DE) : List D → List Sl → Prop
  | [], ρ => k.nx ρ
  | d :: ds, ρ => tgD t d ρ fun ρ1 => S { nx := loopT t S k ds, rt := k.rt, bk := k.nx, ct := loopT t S k ds } ρ1
def forT (t : Tg) (I : TLD) (S : TSD) : TSD := fun k ρ => I ρ fun ds => loopT t S k ds ρ
section
variable {X : Cx} {F : Fr} {tg iter : Expr} {body : List Stmt} {t : Tg} {I : TLD} {S : TSD} {pos : Pos}
theorem s_for (hp : PassesOwn (model X.prog X.w) X.A X.env X.xe) (hc : X.calm = true) (hi : PI X tg iter (liftI F I)) (hg : PG X tg (gOf X.K t)) (hb : ∀ pn, PSs X body (liftS (F.pin pn) S)) (hK : X.K = F.K := by rfl)
    (hs : ∀ x, foldedSetIterable iter X.env x = pure x := by intro _; rfl) : PS X (.For tg iter body [] pos) (liftS F (forT t I S)) := by
  have hb' : PSs X body (fun E σ H => ∃ pn, liftS (F.pin pn) S E σ H) := ⟨fun pins s σ H E I ⟨pn, w⟩ => (hb pn).run pins s σ H E I w⟩
  refine ps_imp (ps_for hp hc hi hg hb' hs) fun E σ H ⟨G, ρ, k, r, h, o⟩ => ⟨G, ρ, _, r, h, fun ds J H1 pn h1 e1 wk hpn => ?_⟩
  refine ⟨fun i m σ' H' => m = ds.length - i ∧ i ≤ ds.length ∧ ∃ G' ρ', Rel (F.pin pn) G' H' σ' ρ' ∧ loopT t S k (ds.drop i) ρ', ⟨_, rfl, Nat.zero_le _, G, ρ, (r.step e1).pinned hpn, h1⟩, ?_⟩
  rintro i m σ' H' ⟨rfl, hi, G', ρ', r', h'⟩
  have w := wk i G' H' r'.ok fun q hq => r'.pn q (List.mem_append_left _ hq)
  by_cases hlt : i < ds.length
  · obtain ⟨go, yl⟩ := w.1 hlt
    refine .inr ⟨go, fun σ2 H2 => i + 1 ≤ ds.length ∧ ∃ G' ρ', Rel (F.pin pn) G' H2 σ2 ρ' ∧ loopT t S k (ds.drop (i + 1)) ρ', fun σ2 H2 ⟨hl, q⟩ => ⟨_, by omega, rfl, hl, q⟩, fun x H2 y => ?_⟩
    obtain ⟨kp, d, hd, hx⟩ := yl x H2 y
    rw [List.drop_eq_getElem_cons hlt] at h'
    have ed : ds[i] = d := by rw [List.getElem?_eq_getElem hlt] at hd; exact Option.some.inj hd
    rw [ed] at h'
    have r2 := r'.step (Ext.all r'.bag kp)
    refine gOf_ok (F := F.pin pn) hK r2 hx h' fun ρ1 vs h1 r1 => ?_
    refine ⟨pn, G', ρ1, _, r1, h1, fun ρ2 G2 σ2 H2 h2 r2 => ⟨hlt, G2, ρ2, r2, h2⟩, fun d v H3 q1 q2 q3 => o.rt d v H3 q1 q2 q3, fun ρ2 G2 σ2 H2 h2 r2 => o.nx ρ2 G2 σ2 H2 h2 r2.unpin, fun ρ2 G2 σ2 H2 h2 r2 => ⟨hlt, G2, ρ2, r2, h2⟩⟩
  · have e : i = ds.length := by omega
    subst e
    rw [List.drop_length] at h'
    exact .inl ⟨w.2 (Nat.le_refl _), o.nx _ _ _ _ h' r'.unpin⟩
end
end DL

set_option Elab.async false
set_option linter.all false
set_option maxRecDepth 100000
set_option maxHeartbeats 1000000
namespace DL
open PySem PySem.Spec L2

/-! ### walks over lists, tuples, ranges, texts -/
section
variable {K : PySem.W.Frag}
theorem walk_list {a : Addr} {ds : List D} : Walk K [(.ref a, .lst ds)] (Itl K a) ds := by
  intro i G H ok hp
  obtain ⟨b, xs, e, n, ha, hl⟩ := hp (.ref a, .lst ds) (List.mem_singleton.mpr rfl)
  cases e
  refine ⟨fun hi => ⟨⟨xs, xs[i]'(by rw [← hl.len]; exact hi), SqL.of ha, List.getElem?_eq_getElem _⟩, fun x H' y => ?_⟩, fun hi => ⟨xs, SqL.of ha, by rw [← hl.len]; exact hi⟩⟩
  obtain ⟨e, y⟩ := y
  subst e
  exact ⟨fun _ _ h => h, hl.get' (y xs (SqL.of ha))⟩
theorem walk_tup {a : Addr} {ds : List D} : Walk K [(.ref a, .tup ds)] (Itt K a) ds := by
  intro i G H ok hp
  obtain ⟨b, xs, e, ha, hl⟩ := hp (.ref a, .tup ds) (List.mem_singleton.mpr rfl)
  cases e
  refine ⟨fun hi => ⟨⟨xs, xs[i]'(by rw [← hl.len]; exact hi), ha, List.getElem?_eq_getElem _⟩, fun x H' y => ?_⟩, fun hi => ⟨xs, ha, by rw [← hl.len]; exact hi⟩⟩
  obtain ⟨e, y⟩ := y
  subst e
  exact ⟨fun _ _ h => h, hl.get' (y xs ha)⟩
theorem walk_rng {lo : Int} {n : Nat} : Walk K [] (Itr lo n) ((List.range n).map fun (i : Nat) => D.int (lo + (i : Int))) := by
  intro i G H ok hp
  rw [List.length_map, List.length_range]
  refine ⟨fun hi => ⟨hi, fun x H' ⟨e, y⟩ => ?_⟩, fun hi => hi⟩
  subst e y
  exact ⟨fun _ _ h => h, .int (lo + (i : Int)), by rw [List.getElem?_map, List.getElem?_range hi]; rfl, rfl⟩
theorem walk_str {x : Str} : Walk K [] (Its x) (x.cps.toList.map fun c => .str ⟨#[c]⟩) := by
  intro i G H ok hp
  rw [List.length_map, Array.length_toList]
  refine ⟨fun hi => ⟨hi, fun v H' ⟨e, c, hc, y⟩ => ?_⟩, fun hi => hi⟩
  subst e y
  exact ⟨fun _ _ h => h, .str ⟨#[c]⟩, by rw [List.getElem?_map, Array.getElem?_toList, hc]; rfl, rfl⟩
end
def seqI (t : TD) : TLD := fun ρ k => t ρ fun d => match d with
  | .lst ds => k ds
  | .tup ds => k ds
  | .str x => k (x.cps.toList.map fun c => .str ⟨#[c]⟩)
  | _ => False
section
variable {X : Cx} {F : Fr} {tg : Expr} {l : Expr} {tl : TD}
/-- a list, a tuple, a text, whichever it is -/
def iAny (K : PySem.W.Frag) (tl : TE) : TI := fun σ H R => tl σ H fun x H1 => (∃ a, x = .ref a ∧ (∃ xs, SqL K H1 a xs) ∧ R (Itl K a) H1) ∨ (∃ a, x = .ref a ∧ (∃ xs, SqT K H1 a xs) ∧ R (Itt K a) H1) ∨ ∃ z, x = .str z ∧ R (Its z) H1
theorem pi_any {tl : TE} (hl : PE X l tl) : PI X tg l (iAny X.K tl) := by
  constructor
  intro pins s σ H R I h
  -- each kind by its own rule: the value is told by the expression's run
  have one : ∀ (v : Value) (s1 : Shared) (x : V) (H1 : Hp), Inv X pins σ H1 s1 → RelV x v → ((∃ a, x = .ref a ∧ (∃ xs, SqL X.K H1 a xs) ∧ R (Itl X.K a) H1) ∨ (∃ a, x = .ref a ∧ (∃ xs, SqT X.K H1 a xs) ∧ R (Itt X.K a) H1) ∨ ∃ z, x = .str z ∧ R (Its z) H1) →
      wpAny (model X.prog X.w) X.A (pyIter v) (PIE X pins σ tg R) X.xe s1 := by
    intro v s1 x H1 I1 rv q
    have fresh : ∀ b, b ∈ [s1.heap.objs.size] → FpOk X pins H1 b := fun b hb => by
      obtain rfl : b = s1.heap.objs.size := List.mem_singleton.mp hb
      exact I1.fpOk (Nat.le_refl _) (I1.hok.fresh (Nat.le_refl _))
    rcases q with ⟨a, rfl, ⟨xs, hq⟩, q⟩ | ⟨a, rfl, ⟨xs, hq⟩, q⟩ | ⟨z, rfl, q⟩
    · cases rv
      obtain ⟨its, _, pl, _⟩ := I1.list hq
      exact wpAny_pyIter_list pl.isList ⟨_, [s1.heap.objs.size], _, _, H1, rfl, I1.kept (t' := s1.toks) fun b o e => Heap.get?_push_of_some _ e, turn_list a _, ⟨_, Heap.get?_push_size _ rfl, rfl, rfl⟩, fresh, q⟩
    · cases rv
      obtain ⟨its, _, pl, _⟩ := I1.tuple hq
      exact wpAny_pyIter_tuple (show s1.heap.IsTuple a its.toArray from pl) ⟨_, [s1.heap.objs.size], _, _, H1, rfl, I1.kept (t' := s1.toks) fun b o e => Heap.get?_push_of_some _ e, turn_tuple a _, ⟨_, Heap.get?_push_size _ rfl, rfl, rfl⟩, fresh, q⟩
    · obtain ⟨t, rfl⟩ := rv
      cases hz : z.cps.all (· < 128) with
      | false => exact wpAny_pyIter_wide hz (pi_one (tk := s1.toks) I1 _ (turn_str _ z t "str_iterator" (Or.inr rfl)) ⟨_, Heap.get?_push_size _ rfl, rfl, rfl⟩ q)
      | true => exact wpAny_pyIter_ascii hz (pi_one (tk := s1.toks) I1 _ (turn_str _ z t "str_ascii_iterator" (Or.inl rfl)) ⟨_, Heap.get?_push_size _ rfl, rfl, rfl⟩ q)
  exact thn (hl.run pins s σ H _ I h) fun v s1 ⟨x, H1, I1, r1, q1⟩ => one v s1 x H1 I1 r1 q1
end

section
variable {X : Cx} {F : Fr} {tg : Expr} {l : Expr} {tl : TD}
theorem i_seq (hl : PE X l (lift F tl)) (hK : X.K = F.K := by rfl) : PI X tg l (liftI F (seqI tl)) := by
  refine pi_imp (pi_any hl) fun σ H R ⟨G, ρ, k, r, h, q⟩ => ⟨G, ρ, _, r, h, fun d v H1 h1 e1 d1 => ?_⟩
  rw [hK]
  cases d <;> try exact (show False from h1).elim
  · obtain rfl := d1
    exact .inr (.inr ⟨_, rfl, q _ _ H1 [] h1 e1 walk_str fun _ z => nomatch z⟩)
  · obtain ⟨a, xs, rfl, n, ha, hl⟩ := id d1
    exact .inl ⟨a, rfl, ⟨xs, SqL.of ha⟩, q _ _ H1 _ h1 e1 walk_list fun z hz => by obtain rfl := List.mem_singleton.mp hz; exact d1⟩
  · obtain ⟨a, xs, rfl, ha, hl⟩ := id d1
    exact .inr (.inl ⟨a, rfl, ⟨xs, ha⟩, q _ _ H1 _ h1 e1 walk_tup fun z hz => by obtain rfl := List.mem_singleton.mp hz; exact d1⟩)
def rng1I (t : TLD) : TLD := fun ρ k => t ρ fun ds => match ds with
  | [.int j] => (-(2 ^ 62) ≤ j ∧ j < 2 ^ 62) ∧ k ((List.range j.toNat).map fun (i : Nat) => D.int (i : Int))
  | _ => False
def rng2I (t : TLD) : TLD := fun ρ k => t ρ fun ds => match ds with
  | [.int i, .int j] => (-(2 ^ 62) ≤ i ∧ i < 2 ^ 62 ∧ -(2 ^ 62) ≤ j ∧ j < 2 ^ 62) ∧ k ((List.range (j - i).toNat).map fun (n : Nat) => D.int (i + (n : Int)))
  | _ => False
theorem i_rng1 {a : Expr} {ta : TLD} {p pos : Pos} (hg : Gl X "range") (hm : X.mg "range" = none) (ha : PA X [a] (liftA F ta)) (hs : starEach [a] X.env = [(false, eval a X.env)] := by rfl) (hK : X.K = F.K := by rfl) : PI X tg (.Call (.Name "range" p) [a] [] pos) (liftI F (rng1I ta)) := by
  refine pi_imp (pi_range1 hg hm ha hs) fun σ H R ⟨G, ρ, k, r, h, q⟩ => ⟨G, ρ, _, r, h, fun ds vs H1 h1 e1 d1 => ?_⟩
  split at h1
  · obtain ⟨v, rfl, hv⟩ := dl1 d1
    obtain rfl := hv
    refine ⟨_, rfl, h1.1.1, h1.1.2, q _ _ H1 [] h1.2 e1 ?_ fun _ z => nomatch z⟩
    have w := walk_rng (K := F.K) (lo := 0) (n := Int.toNat ‹Int›)
    have e : (fun (i : Nat) => D.int (0 + (i : Int))) = fun (i : Nat) => D.int (i : Int) := by funext i; rw [Int.zero_add]
    rw [e] at w
    exact w
  · exact h1.elim
theorem i_rng2 {a b : Expr} {ta : TLD} {p pos : Pos} (hg : Gl X "range") (hm : X.mg "range" = none) (ha : PA X [a, b] (liftA F ta)) (hs : starEach [a, b] X.env = [(false, eval a X.env), (false, eval b X.env)] := by rfl) (hs2 : starEach [b] X.env = [(false, eval b X.env)] := by rfl) :
    PI X tg (.Call (.Name "range" p) [a, b] [] pos) (liftI F (rng2I ta)) := by
  refine pi_imp (pi_range2 hg hm ha hs hs2) fun σ H R ⟨G, ρ, k, r, h, q⟩ => ⟨G, ρ, _, r, h, fun ds vs H1 h1 e1 d1 => ?_⟩
  split at h1
  · rename_i i j
    obtain ⟨v, w, rfl, hv, hw⟩ := dl2 d1
    obtain rfl := hv
    obtain rfl := hw
    exact ⟨_, _, rfl, h1.1, q _ _ H1 [] h1.2 e1 walk_rng fun _ z => nomatch z⟩
  · exact h1.elim
end
end DL

set_option Elab.async false
set_option linter.all false
set_option maxRecDepth 100000
set_option maxHeartbeats 1000000
namespace DL
open PySem L2

/-! ### comprehensions -/
def wipeS (ρ : List Sl) : List Nat → List Sl
  | [] => ρ
  | v :: vs => (wipeS ρ vs).set v .un
theorem wipe_get (σ : St) (j : Nat) : ∀ vs : List Nat, (wipe σ vs)[j]? = if j ∈ vs then (σ[j]?).map (fun _ => none) else σ[j]?
  | [] => by simp [wipe]
  | v :: vs => by
    unfold wipe
    by_cases e : v = j
    · subst e
      rw [List.getElem?_set_self', wipe_get σ v vs, if_pos List.mem_cons_self]
      split <;> cases σ[v]? <;> rfl
    · rw [List.getElem?_set_ne e, wipe_get σ j vs]
      simp only [List.mem_cons, Ne.symm e, false_or]
theorem wipe_wipe (σ : St) (vs : List Nat) : wipe (wipe σ vs) vs = wipe σ vs := by
  apply List.ext_getElem?
  intro j
  rw [wipe_get, wipe_get]
  split
  · cases σ[j]? <;> rfl
  · rfl
theorem wipe_set (σ : St) {vs : List Nat} {i : Nat} (o : Option V) (h : i ∈ vs) : wipe (σ.set i o) vs = wipe σ vs := by
  apply List.ext_getElem?
  intro j
  rw [wipe_get, wipe_get]
  by_cases e : i = j
  · subst e
    rw [if_pos h, if_pos h, List.getElem?_set_self']
    cases σ[i]? <;> rfl
  · rw [List.getElem?_set_ne e]
theorem wipe_setA {vs : List Nat} : ∀ (is : List Nat) (us : List V) (σ : St), (∀ i ∈ is, i ∈ vs) → wipe (setA is us σ) vs = wipe σ vs
  | [], us, σ, h => by cases us <;> rfl
  | i :: is, [], σ, h => rfl
  | i :: is, u :: us, σ, h => by
    show wipe (setA is us (σ.set i (some u))) vs = _
    rw [wipe_setA is us _ fun j hj => h j (List.mem_cons_of_mem _ hj), wipe_set _ _ (h i List.mem_cons_self)]
def Tg.ix : Tg → List Nat
  | .nm i => [i]
  | .tp is => is
theorem wipe_tgS {vs : List Nat} (t : Tg) (v : V) (us : List V) (σ : St) (h : ∀ i ∈ t.ix, i ∈ vs) : wipe (tgS t v us σ) vs = wipe σ vs := by
  cases t with
  | nm i => exact wipe_set _ _ (h i (List.mem_singleton.mpr rfl))
  | tp is => exact wipe_setA is us σ h
theorem Rel.wipe {F : Fr} {G : Gh} {H : Hp} {σ : St} {ρ : List Sl} (r : Rel F G H σ ρ) : ∀ vs, Rel F G H (L2.wipe σ vs) (wipeS ρ vs)
  | [] => r
  | v :: vs => (Rel.wipe r vs).drop v none

def compT (t : Tg) (tt : TBD) (te : TD) (ρ : List Sl) : List D → List D → (List D → Prop) → Prop
  | [], acc, k => k acc
  | d :: ds, acc, k => tgD t d ρ fun ρ1 => tt ρ1 fun b => if b = true then te ρ1 fun e => compT t tt te ρ ds (acc ++ [e]) k else compT t tt te ρ ds acc k
def lcF (t : Tg) (I : TLD) (tt : TBD) (te : TD) (vs : List Nat) : TLD := fun ρ k => I ρ fun ds => ds.length ≤ sizeLine ∧ compT t tt te (wipeS ρ vs) ds [] k
def yesT : TBD := fun _ k => k true
def liftTs (F : Fr) (T : TBD) : TT := liftT F T
section
variable {X : Cx} {F : Fr} {t : Tg} {I : TLD} {tt : TBD} {te : TD}
theorem ts_nil : PTs X [] (liftT F yesT) := ⟨fun pins s σ H Q I ⟨G, ρ, k, r, h, q⟩ => pts_nil.run pins s σ H Q I (q true H h (.refl r.bag))⟩
theorem ts_one {c : Expr} {tc : TBD} (h : PT X c (liftT F tc)) : PTs X [c] (liftT F tc) := pts_one h
theorem lcT {K : PySem.W.Frag} (vs : List Nat) (ht : ∀ i ∈ t.ix, i ∈ vs) (hK : K = F.K) (tb : TT) (tv : TE) (h1 : ∀ pn σ H Q, liftT (F.pin pn) tt σ H Q → tb σ H Q) (h2 : ∀ pn σ H Q, lift (F.pin pn) te σ H Q → tv σ H Q) :
    ∀ σ H Q, liftF F (lcF t I tt te vs) σ H Q → tLc (liftI F I) (gOf K t) tb tv vs σ H Q := by
  intro σ H Q ⟨G, ρ, k, r, h, q⟩
  refine ⟨G, ρ, _, r, h, fun ds J H1 pn ⟨hz, hk⟩ e1 wk hpn L hL => ?_⟩
  have r1 := r.step e1
  have e2 : Ext G H1 (upd H1 L (.lst [])) := Ext.new r1.bag hL
  have r2 : Rel (F.pin pn) (G.add L) (upd H1 L (.lst [])) (L2.wipe σ vs) (wipeS ρ vs) := ((r1.pinned hpn).grow e2 hL (by rw [upd_same]; exact True.intro)).wipe vs
  have hnL : ¬ F.G.own L := fun z => r1.free hL (r1.sub L z)
  have hno : ∀ (i : Nat) (s : Sl), (wipeS ρ vs)[i]? = some s → s.isM = true → (L2.wipe σ vs)[i]? ≠ some (some (.ref L)) := by
    have r3 := r1.wipe vs
    intro i s hs hm e
    obtain ⟨o, e3, e4⟩ := r3.sl.get hs
    rw [e] at e3
    obtain rfl := Option.some.inj e3
    cases s with
    | ml ds =>
      obtain ⟨p, xs, h1, _, _, h4, _⟩ := e4
      cases h1
      rw [hL] at h4; cases h4
    | md es =>
      obtain ⟨p, h1, _, _, h4⟩ := e4
      cases h1
      rcases h4 with ⟨_, h4, _⟩ | ⟨_, h4, _⟩ <;> · rw [hL] at h4; cases h4
    | _ => cases hm
  refine ⟨fun i m H' => m = ds.length - i ∧ i ≤ ds.length ∧ ∃ acc xs, H' L = some (.lst xs) ∧ DtL F.K (G.add L) H' acc xs ∧ acc.length ≤ i ∧ Rel (F.pin pn) (G.add L) H' (L2.wipe σ vs) (wipeS ρ vs) ∧ Ext G H1 H' ∧
      compT t tt te (wipeS ρ vs) (ds.drop i) acc k, ⟨_, rfl, Nat.zero_le _, [], [], upd_same, rfl, Nat.le_refl _, r2, e2, hk⟩, ?_⟩
  rintro i m H' ⟨rfl, hi, acc, xs, hx, hd, hl, r', e', h'⟩
  have w := wk i (G.add L) H' r'.ok fun q hq => r'.pn q (List.mem_append_left _ hq)
  by_cases hlt : i < ds.length
  · obtain ⟨go, yl⟩ := w.1 hlt
    refine .inr ⟨go, fun H2 => i + 1 ≤ ds.length ∧ ∃ acc xs, H2 L = some (.lst xs) ∧ DtL F.K (G.add L) H2 acc xs ∧ acc.length ≤ i + 1 ∧ Rel (F.pin pn) (G.add L) H2 (L2.wipe σ vs) (wipeS ρ vs) ∧ Ext G H1 H2 ∧
      compT t tt te (wipeS ρ vs) (ds.drop (i + 1)) acc k, fun H2 ⟨hl, q⟩ => ⟨_, by omega, rfl, hl, q⟩, fun x H2 y => ?_⟩
    obtain ⟨kp, d, hdi, hxd⟩ := yl x H2 y
    rw [List.drop_eq_getElem_cons hlt] at h'
    have ed : ds[i] = d := by rw [List.getElem?_eq_getElem hlt] at hdi; exact Option.some.inj hdi
    rw [ed] at h'
    have x2 : Ext (G.add L) H' H2 := Ext.all r'.bag kp
    have r3 := r'.step x2
    refine gOf_ok (F := F.pin pn) hK r3 hxd h' fun ρ1 us hk1 r4 => ⟨by rw [wipe_tgS t x us _ ht, wipe_wipe], ?_⟩
    refine h1 pn _ _ _ ⟨G.add L, ρ1, _, r4, hk1, fun b H3 hb x3 => ?_⟩
    have nbL : L ≠ G.bg := r1.own_ne_bg hnL
    have up : ∀ {H5 : Hp}, Ext (G.add L) H2 H5 → H5 L = some (.lst xs) ∧ DtL F.K (G.add L) H5 acc xs ∧ Rel (F.pin pn) (G.add L) H5 (L2.wipe σ vs) (wipeS ρ vs) ∧ Ext G H1 H5 := fun {H5} z => by
      have z2 := x2.trans z
      exact ⟨z2.keep L _ nbL hx, (r'.evo z2).dts _ _ hd, r'.step z2, e'.trans ⟨z2.keep, z2.bag⟩⟩
    cases b with
    | true =>
      refine iteT (h2 pn _ _ _ ⟨G.add L, ρ1, _, r4.step x3, of_tt hb, fun d v H4 hd4 x4 dv => ?_⟩)
      obtain ⟨u1, u2, u3, u4⟩ := up (x3.trans x4)
      have lx : xs.length < sizeLine := by rw [← hd.len]; omega
      refine ⟨xs, u1, lx, hlt, acc ++ [d], xs ++ [v], upd_same, ?_, by simp; omega, u3.mutate (o := .lst (xs ++ [v])) (.inr rfl) hnL True.intro hno, ⟨fun a o n z => ?_, ?_⟩, hd4⟩
      · have ev : Evo (G.add L) (G.add L) H4 (upd H4 L (.lst (xs ++ [v]))) := ⟨fun a o n z => by rw [upd_ne fun w => n (.inr w)]; exact z, u3.tr, fun _ n _ => n, rfl, rfl⟩
        exact (ev.dts _ _ u2).app ⟨v, [], rfl, ev.dt _ _ dv, rfl⟩
      · rw [upd_ne (fun w => by rw [w, hL] at z; cases z)]
        exact u4.keep a o n z
      · exact (u3.mutate (o := .lst (xs ++ [v])) (.inr rfl) hnL True.intro hno).bag
    | false =>
      obtain ⟨u1, u2, u3, u4⟩ := up x3
      exact iteF ⟨hlt, acc, xs, u1, u2, by omega, u3, u4, of_ff hb⟩
  · have e : i = ds.length := by omega
    subst e
    rw [List.drop_length] at h'
    exact .inl ⟨w.2 (Nat.le_refl _), q acc L xs H' h' (e1.trans e') (e1.free r.bag hL) hx hd⟩
end
section
variable {X : Cx} {F : Fr} {elt tg iter : Expr} {ifs : List Expr} {scope : Scope} {own : List (Str × Nat)} {pos : Pos} {t : Tg} {I : TLD} {tt : TBD} {te : TD}
/-- [elt for tg in iter if ..], a new list -/
theorem f_lc (t : Tg) (hc : X.calm = true) (hN : X.N.Nodup) (hi : PI X tg iter (liftI F I)) (ok : BlkOk X.N X.env.scope scope own)
    (hg : ∀ (s : Shared) (H : Hp) (C : Addr) (cl : List (Str × Addr)) (fp : List Addr), PG (X.blk s H scope (compEnvC scope cl C X.env) fp) tg (gOf X.K t))
    (hs : ∀ (s : Shared) (H : Hp) (C : Addr) (cl : List (Str × Addr)) (fp : List Addr) (pn : List (V × D)), PTs (X.blk s H scope (compEnvC scope cl C X.env) fp) ifs (liftT (F.pin pn) tt))
    (he : ∀ (s : Shared) (H : Hp) (C : Addr) (cl : List (Str × Addr)) (fp : List Addr) (pn : List (V × D)), PE (X.blk s H scope (compEnvC scope cl C X.env) fp) elt (lift (F.pin pn) te))
    (hx : ∀ i ∈ t.ix, i ∈ own.map (·.2) := by decide) (hf : ∀ x, foldedSetIterable iter X.env x = pure x := by intro _; rfl) (hK : X.K = F.K := by rfl) :
    PE X (.ListComp elt [⟨tg, iter, ifs, 0⟩] scope pos) (liftF F (lcF t I tt te (own.map (·.2)))) :=
  pe_imp (pe_lc (tt := fun σ H Q => ∃ pn, liftT (F.pin pn) tt σ H Q) (te := fun σ H Q => ∃ pn, lift (F.pin pn) te σ H Q) hc hN hi ok hg
    (fun s H C cl fp => ⟨fun pins s1 σ H1 Q I ⟨pn, w⟩ => (hs s H C cl fp pn).run pins s1 σ H1 Q I w⟩) (fun s H C cl fp => ⟨fun pins s1 σ H1 Q I ⟨pn, w⟩ => (he s H C cl fp pn).run pins s1 σ H1 Q I w⟩) hf)
    (lcT _ hx hK _ _ (fun pn _ _ _ w => ⟨pn, w⟩) fun pn _ _ _ w => ⟨pn, w⟩)
/-- y = [..], y a local -/
theorem s_setLc {i : Nat} {y : Str} {py spos : Pos} (t : Tg) (hc : X.calm = true) (hN : X.N.Nodup) (hy : X.N[i]? = some y) (hyl : X.env.scope.names.lookup y = some .local)
    (hsw : swapsWith (.ListComp elt [⟨tg, iter, ifs, 0⟩] scope pos) (some (.Name y py)) spos.line X.env = pure true) (hi : PI X tg iter (liftI F I)) (ok : BlkOk X.N X.env.scope scope own)
    (hg : ∀ (s : Shared) (H : Hp) (C : Addr) (cl : List (Str × Addr)) (fp : List Addr), PG (X.blk s H scope (compEnvC scope cl C X.env) fp) tg (gOf X.K t))
    (hs : ∀ (s : Shared) (H : Hp) (C : Addr) (cl : List (Str × Addr)) (fp : List Addr) (pn : List (V × D)), PTs (X.blk s H scope (compEnvC scope cl C X.env) fp) ifs (liftT (F.pin pn) tt))
    (he : ∀ (s : Shared) (H : Hp) (C : Addr) (cl : List (Str × Addr)) (fp : List Addr) (pn : List (V × D)), PE (X.blk s H scope (compEnvC scope cl C X.env) fp) elt (lift (F.pin pn) te))
    (hx : ∀ i ∈ t.ix, i ∈ own.map (·.2) := by decide) (hf : ∀ x, foldedSetIterable iter X.env x = pure x := by intro _; rfl) (hK : X.K = F.K := by rfl) :
    PS X (.Assign [.Name y py] (.ListComp elt [⟨tg, iter, ifs, 0⟩] scope pos) spos) (liftS F (setT i (ofF (lcF t I tt te (own.map (·.2)))))) := by
  refine ps_imp (ps_setLc (tt := fun σ H Q => ∃ pn, liftT (F.pin pn) tt σ H Q) (te := fun σ H Q => ∃ pn, lift (F.pin pn) te σ H Q) hc hN hy hyl hsw hi ok hg
    (fun s H C cl fp => ⟨fun pins s1 σ H1 Q I ⟨pn, w⟩ => (hs s H C cl fp pn).run pins s1 σ H1 Q I w⟩) (fun s H C cl fp => ⟨fun pins s1 σ H1 Q I ⟨pn, w⟩ => (he s H C cl fp pn).run pins s1 σ H1 Q I w⟩) hf) ?_
  intro E σ H ⟨G, ρ, k, r, h, o⟩
  refine lcT (F := F) _ hx hK _ _ (fun pn _ _ _ w => ⟨pn, w⟩) (fun pn _ _ _ w => ⟨pn, w⟩) σ H _ ⟨G, ρ, _, r, h, fun ds p vs H1 h1 e1 hp hl d1 => ?_⟩
  have ev : Evo (G.add p) G H1 H1 := ⟨fun _ _ _ h => h, fun a z => z.elim (Ext.tr' r.obg r.tr e1 a) fun z => by rw [z, hl]; exact True.intro, fun a n _ z => n (.inl z), rfl, rfl⟩
  exact o.nx _ G _ H1 h1 ((r.step e1).put (v := .ref p) ⟨p, vs, rfl, r.free hp, hl, ev.dts ds vs d1⟩)
end
end DL

set_option Elab.async false
set_option linter.all false
set_option maxRecDepth 100000
set_option maxHeartbeats 1000000
namespace DL
open PySem L2

section
variable {F : Fr} {G : Gh} {H H' : Hp} {σ : St} {ρ : List Sl}
theorem set_same {α : Type} {l : List α} {i : Nat} {x : α} (h : l[i]? = some x) : l.set i x = l := by
  apply List.ext_getElem?
  intro j
  by_cases e : i = j
  · subst e
    rw [List.getElem?_set_self', h]; rfl
  · rw [List.getElem?_set_ne e]
/-- a slot gets a list (a dict) of its own that no other slot has -/
theorem Rel.putM (r : Rel F G H σ ρ) {i : Nat} {p : Addr} {s : Sl} (hi : i < ρ.length) (hs : SlR F G H s (some (.ref p))) (hno : ∀ (j : Nat) (t : Sl), j ≠ i → ρ[j]? = some t → t.isM = true → σ[j]? ≠ some (some (.ref p))) : Rel F G H (σ.set i (some (.ref p))) (ρ.set i s) := by
  have hσ : i < σ.length := by rw [← r.sl.len]; exact hi
  refine ⟨r.bg, r.bi, r.ob, r.oi, r.sub, r.new, r.tr, r.ext, r.pn, r.sl.set hs i, fun a b s1 s2 q h1 h2 m1 m2 h3 h4 => ?_⟩
  by_cases ea : a = i
  · by_cases eb : b = i
    · rw [ea, eb]
    · subst ea
      rw [List.getElem?_set_self hσ] at h3
      rw [List.getElem?_set_ne (Ne.symm eb)] at h2 h4
      cases h3
      exact absurd h4 (hno b s2 eb h2 m2)
  · by_cases eb : b = i
    · subst eb
      rw [List.getElem?_set_self hσ] at h4
      rw [List.getElem?_set_ne (Ne.symm ea)] at h1 h3
      cases h4
      exact absurd h3 (hno a s1 ea h1 m1)
    · rw [List.getElem?_set_ne (Ne.symm ea)] at h1 h3
      rw [List.getElem?_set_ne (Ne.symm eb)] at h2 h4
      exact r.uniq a b s1 s2 q h1 h2 m1 m2 h3 h4
theorem lt_of_get {α : Type} {l : List α} {i : Nat} {x : α} (h : l[i]? = some x) : i < l.length := (List.getElem?_eq_some_iff.mp h).1
/-- what a slot owns is changed -/
theorem Rel.chg (r : Rel F G H σ ρ) {i : Nat} {p : Addr} {s s' : Sl} {o : HO} (hi : ρ[i]? = some s) (hm : s.isM = true) (hσ : σ[i]? = some (some (.ref p))) (hp : G.own p) (hn : ¬ F.G.own p) (mo : Mut (some o))
    (hs : SlR F G (upd H p o) s' (some (.ref p))) : Rel F G (upd H p o) σ (ρ.set i s') := by
  have r1 := r.drop i (some (.ref p))
  rw [set_same hσ] at r1
  have hno : ∀ (j : Nat) (t : Sl), (ρ.set i .un)[j]? = some t → t.isM = true → σ[j]? ≠ some (some (.ref p)) := fun j t h1 h2 h3 => by
    obtain ⟨n, h1⟩ := set_isM h1 rfl h2
    exact n (r.uniq j i t s p h1 hi h2 hm h3 hσ)
  have r2 := (r1.mutate hp hn mo hno).putM (i := i) (by rw [List.length_set]; exact lt_of_get hi) hs fun j t _ => hno j t
  rw [List.set_set, set_same hσ] at r2
  exact r2
def Gh.rem (G : Gh) (p : Addr) : Gh := ⟨G.bg, G.bi, fun a => G.own a ∧ a ≠ p⟩
/-- what a slot owns becomes data -/
theorem Rel.frz (r : Rel F G H σ ρ) {i : Nat} {p : Addr} {s : Sl} {d : D} (hi : ρ[i]? = some s) (hm : s.isM = true) (hσ : σ[i]? = some (some (.ref p))) (hp : G.own p) (hn : ¬ F.G.own p) (hd : Dt F.K (G.rem p) H d (.ref p)) : Rel F (G.rem p) H σ (ρ.set i (.dat d)) := by
  have ev : Evo G (G.rem p) H H := ⟨fun _ _ _ h => h, r.tr, fun a n _ z => n z.1, rfl, rfl⟩
  have r1 := r.drop i (some (.ref p))
  rw [set_same hσ] at r1
  have hno : ∀ (j : Nat) (t : Sl), (ρ.set i .un)[j]? = some t → t.isM = true → σ[j]? ≠ some (some (.ref p)) := fun j t h1 h2 h3 => by
    obtain ⟨n, h1⟩ := set_isM h1 rfl h2
    exact n (r.uniq j i t s p h1 hi h2 hm h3 hσ)
  have r2 : Rel F (G.rem p) H σ (ρ.set i .un) := by
    refine ⟨r1.bg, r1.bi, r1.ob, r1.oi, fun a h => ⟨r1.sub a h, fun z => hn (by rw [← z]; exact h)⟩, fun a h n => r1.new a h.1 n, fun a h => r1.tr a h.1, r1.ext, fun q hq => ev.dt _ _ (r1.pn q hq), Slots.mapI (fun j t u e1 e2 h => ?_) r1.sl, r1.uniq⟩
    cases t with
    | un => exact True.intro
    | dat d =>
      obtain ⟨v, h1, h2⟩ := h
      exact ⟨v, h1, ev.dt d v h2⟩
    | ml ds =>
      obtain ⟨a, xs, h1, h2, h3, h4, h5⟩ := h
      exact ⟨a, xs, h1, ⟨h2, fun z => hno j _ e1 rfl (by rw [e2, h1, z])⟩, h3, h4, ev.dts _ _ h5⟩
    | md es =>
      obtain ⟨a, h1, h2, h3, h4⟩ := h
      have ne : a ≠ p := fun z => hno j _ e1 rfl (by rw [e2, h1, z])
      rcases h4 with ⟨kvs, h4, h5⟩ | ⟨kvs, h4, h5⟩
      · exact ⟨a, h1, ⟨h2, ne⟩, h3, .inl ⟨kvs, h4, ev.dtp _ _ _ h5⟩⟩
      · exact ⟨a, h1, ⟨h2, ne⟩, h3, .inr ⟨kvs, h4, ev.dtq _ _ _ h5⟩⟩
  have r3 := r2.put (i := i) hd
  rw [List.set_set, set_same hσ] at r3
  exact r3
theorem Rel.frzL (r : Rel F G H σ ρ) {i : Nat} {ds : List D} (hi : ρ[i]? = some (.ml ds)) : ∃ p, Rel F (G.rem p) H σ (ρ.set i (.dat (.lst ds))) := by
  obtain ⟨o, e1, p, xs, rfl, h2, h3, h4, h5⟩ := r.sl.get hi
  have ev : Evo G (G.rem p) H H := ⟨fun _ _ _ h => h, r.tr, fun a n _ z => n z.1, rfl, rfl⟩
  exact ⟨p, r.frz hi rfl e1 h2 h3 ⟨p, xs, rfl, fun z => z.2 rfl, h4, ev.dts _ _ h5⟩⟩
theorem Rel.frzD (r : Rel F G H σ ρ) {i : Nat} {t : Bool} {es : List (D × D)} (hi : ρ[i]? = some (.md t es)) : ∃ p, Rel F (G.rem p) H σ (ρ.set i (.dat (.dic t es))) := by
  obtain ⟨o, e1, p, rfl, h2, h3, h4⟩ := r.sl.get hi
  have ev : Evo G (G.rem p) H H := ⟨fun _ _ _ h => h, r.tr, fun a n _ z => n z.1, rfl, rfl⟩
  refine ⟨p, r.frz hi rfl e1 h2 h3 ⟨p, rfl, fun z => z.2 rfl, ?_⟩⟩
  rcases h4 with ⟨kvs, h4, h5⟩ | ⟨kvs, h4, h5⟩
  · exact .inl ⟨kvs, .inl h4, ev.dtp _ _ _ h5⟩
  · exact .inr ⟨kvs, .inl h4, ev.dtq _ _ _ h5⟩
end

def frzT (i : Nat) (S : TSD) : TSD := fun k ρ => match ρ[i]? with
  | some (.ml ds) => S k (ρ.set i (.dat (.lst ds)))
  | some (.md t es) => S k (ρ.set i (.dat (.dic t es)))
  | _ => False
/-- what a def makes anew -/
def newT (i : Nat) (t : TLD) : TSD := fun k ρ => i < ρ.length ∧ t ρ fun ds => k.nx (ρ.set i (.ml ds))
abbrev MD := List D → List D → (List D → Prop) → Prop
/-- x.m(..), x a name that owns its list -/
def mT (i : Nat) (o : MD) (ta : TLD) : TSD := fun k ρ => match ρ[i]? with
  | some (.ml ds) => ta ρ fun args => o ds args fun es => k.nx (ρ.set i (.ml es))
  | _ => False
def appD : MD
  | ds, [d], k => ds.length < sizeLine ∧ k (ds ++ [d])
  | _, _, _ => False
def extD : MD
  | ds, [.lst es], k => ds.length + es.length ≤ sizeLine ∧ k (ds ++ es)
  | _, _, _ => False
def insD : MD
  | ds, [.int j, d], k => ds.length < sizeLine ∧ 0 ≤ j ∧ j < 2 ^ 63 ∧ k (ds.take j.toNat ++ [d] ++ ds.drop j.toNat)
  | _, _, _ => False
def putT (i : Nat) (t u : TD) : TSD := fun k ρ => match ρ[i]? with
  | some (.ml ds) => u ρ fun d => t ρ fun x => match x with
    | .int j => optK (ixN ds.length j) fun n => k.nx (ρ.set i (.ml (ds.set n d)))
    | _ => False
  | _ => False
theorem DtL.one {K : PySem.W.Frag} {G : Gh} {H : Hp} {d : D} {v : V} (h : Dt K G H d v) : DtL K G H [d] [v] := ⟨v, [], rfl, h, rfl⟩
theorem ml_of {i : Nat} {ρ : List Sl} {f : List D → Prop} (h : match ρ[i]? with
  | some (.ml ds) => f ds
  | _ => False) : ∃ ds, ρ[i]? = some (.ml ds) ∧ f ds := by
  split at h
  · exact ⟨_, by assumption, h⟩
  · exact h.elim
section
variable {X : Cx} {F : Fr} {st : List Stmt} {S : TSD} {e : Expr} {te : TD} {pos apos cpos : Pos}
theorem ss_frz (i : Nat) (h : PSs X st (liftS F S)) : PSs X st (liftS F (frzT i S)) := by
  refine pss_imp h fun E σ H ⟨G, ρ, k, r, w, o⟩ => ?_
  unfold frzT at w
  split at w
  · rename_i ds hi
    obtain ⟨p, r'⟩ := r.frzL hi
    exact ⟨_, _, k, r', w, o⟩
  · rename_i es hi
    obtain ⟨p, r'⟩ := r.frzD hi
    exact ⟨_, _, k, r', w, o⟩
  · exact w.elim
theorem s_new {i : Nat} {x : Str} {pos' : Pos} {ta : TLD} (hN : X.N.Nodup) (hi : X.N[i]? = some x) (hx : Loc X.env.scope x) (he : PE X e (liftF F ta)) (hs : swapsWith e (some (.Name x pos')) pos.line X.env = pure false := by rfl)
    (hf : X.fn x = true ∨ X.env.scope.names.lookup x = some .local := by first | exact .inl rfl | exact .inr rfl | assumption) : PS X (.Assign [.Name x pos'] e pos) (liftS F (newT i ta)) := by
  refine ps_imp (ps_set hN hi hx he hs hf) fun E σ H ⟨G, ρ, k, r, ⟨hl, h⟩, o⟩ => ⟨G, ρ, _, r, h, fun ds p vs H1 h1 e1 hp hv hd => ?_⟩
  refine o.nx _ _ _ H1 h1 ((r.grow e1 hp (by rw [hv]; exact True.intro)).putM hl ⟨p, vs, rfl, .inr rfl, fun z => r.free hp (r.sub p z), hv, hd⟩ fun j t _ h1 h2 h3 => ?_)
  obtain ⟨o', e3, e4⟩ := r.sl.get h1
  rw [h3] at e3
  obtain rfl := Option.some.inj e3
  cases t with
  | ml ds =>
    obtain ⟨q, xs, z, _, _, h4, _⟩ := e4
    cases z
    rw [hp] at h4; cases h4
  | md es =>
    obtain ⟨q, z, _, _, h4⟩ := e4
    cases z
    rcases h4 with ⟨_, h4, _⟩ | ⟨_, h4, _⟩ <;> · rw [hp] at h4; cases h4
  | _ => cases h2
theorem s_meth {i : Nat} {r : V → List V → Hp → VK → Prop} {o : MD} {ta : TLD} (hr : ∀ (G : Gh) (H : Hp) (p : Addr) (xs : List V) (ds args : List D) (vs : List V) (k : List D → Prop) (Q : VK), H p = some (.lst xs) → DtL F.K G H ds xs → DtL F.K G H args vs → o ds args k →
      (∀ es ys, k es → DtL F.K G H es ys → Q .non (upd H p (.lst ys))) → r (.ref p) vs H Q)
    (hpe : PE X e (tBM X.K "list" r (tVar i) (liftA F ta))) (hs : swapsWith e none pos.line X.env = pure false := by rfl) : PS X (.Expr e pos) (liftS F (mT i o ta)) := by
  refine ps_imp (ps_expr hpe hs) fun E σ H ⟨G, ρ, k, r, h, o⟩ => ?_
  obtain ⟨ds, hi, h⟩ := ml_of h
  obtain ⟨o', e1, p, xs, rfl, h2, h3, h4, h5⟩ := r.sl.get hi
  refine ⟨_, e1, .inl ⟨rfl, _, SqL.of h4⟩, G, ρ, _, r, h, fun args vs H1 h1 x1 d1 => ?_⟩
  have r1 := r.step x1
  obtain ⟨o', e1, p', xs, e2, h2, h3, h4, h5⟩ := r1.sl.get hi
  rw [‹σ[i]? = some (some (V.ref p))›] at e1
  obtain rfl := Option.some.inj e1
  cases e2
  refine hr G H1 p xs ds args vs _ _ h4 h5 d1 h1 fun es ys hk hd => ?_
  refine o.nx _ G σ _ hk (r1.chg hi rfl ‹σ[i]? = some (some (V.ref p))› h2 h3 True.intro ⟨p, ys, rfl, h2, h3, upd_same, ?_⟩)
  have ev : Evo G G H1 (upd H1 p (.lst ys)) := ⟨fun a u n h => by rw [upd_ne (fun z => n (by rw [z]; exact h2))]; exact h, r1.tr, fun _ n _ => n, rfl, rfl⟩
  exact ev.dts _ _ hd
theorem s_app (i : Nat) {x : Str} {px : Pos} {ta : TLD} (ha : PA X [e] (liftA F ta))
    (hpe : PE X (.Call (.Attribute (.Name x px) "append" apos) [e] [] cpos) (tBM X.K "list" rAppend (tVar i) (liftA F ta))) (hs : swapsWith (.Call (.Attribute (.Name x px) "append" apos) [e] [] cpos) none pos.line X.env = pure false := by rfl) :
    PS X (.Expr (.Call (.Attribute (.Name x px) "append" apos) [e] [] cpos) pos) (liftS F (mT i appD ta)) := by
  refine s_meth (fun G H p xs ds args vs k Q hp hd ha h q => ?_) hpe hs
  unfold appD at h
  split at h
  · obtain ⟨v, rfl, hv⟩ := dl1 ha
    exact ⟨p, xs, v, rfl, rfl, hp, by rw [← hd.len]; exact h.1, q _ _ h.2 (hd.app ⟨v, [], rfl, hv, rfl⟩)⟩
  · exact h.elim
theorem s_ext (i : Nat) {x : Str} {px : Pos} {ta : TLD} (ha : PA X [e] (liftA F ta))
    (hpe : PE X (.Call (.Attribute (.Name x px) "extend" apos) [e] [] cpos) (tBM X.K "list" rExtend (tVar i) (liftA F ta))) (hs : swapsWith (.Call (.Attribute (.Name x px) "extend" apos) [e] [] cpos) none pos.line X.env = pure false := by rfl) :
    PS X (.Expr (.Call (.Attribute (.Name x px) "extend" apos) [e] [] cpos) pos) (liftS F (mT i extD ta)) := by
  refine s_meth (fun G H p xs ds args vs k Q hp hd ha h q => ?_) hpe hs
  unfold extD at h
  split at h
  · obtain ⟨v, rfl, a, zs, rfl, n, hz, hv⟩ := dl1 ha
    exact ⟨p, a, xs, zs, rfl, rfl, hp, hz, by rw [← hd.len, ← hv.len]; exact h.1, q _ _ h.2 (hd.app hv)⟩
  · exact h.elim
theorem s_ins (i : Nat) {x : Str} {px : Pos} {e2 : Expr} {ta : TLD} (ha : PA X [e, e2] (liftA F ta))
    (hpe : PE X (.Call (.Attribute (.Name x px) "insert" apos) [e, e2] [] cpos) (tBM X.K "list" (fun x vs H Q => ∃ (l : Addr) (xs : List V) (i : Int) (y : V), x = .ref l ∧ vs = [.int i, y] ∧ H l = some (.lst xs) ∧ xs.length < sizeLine ∧ 0 ≤ i ∧ i < 2 ^ 63 ∧
      Q .non (upd H l (.lst (xs.take i.toNat ++ [y] ++ xs.drop i.toNat)))) (tVar i) (liftA F ta))) (hs : swapsWith (.Call (.Attribute (.Name x px) "insert" apos) [e, e2] [] cpos) none pos.line X.env = pure false := by rfl) :
    PS X (.Expr (.Call (.Attribute (.Name x px) "insert" apos) [e, e2] [] cpos) pos) (liftS F (mT i insD ta)) := by
  refine s_meth (fun G H p xs ds args vs k Q hp hd ha h q => ?_) hpe hs
  unfold insD at h
  split at h
  · obtain ⟨v, w, rfl, hv, hw⟩ := dl2 ha
    obtain rfl := hv
    exact ⟨p, xs, _, w, rfl, rfl, hp, by rw [← hd.len]; exact h.1, h.2.1, h.2.2.1, q _ _ h.2.2.2 (((hd.take _).app (DtL.one hw)).app (hd.drop _))⟩
  · exact h.elim
/-- x[t] = e, x a name that owns its list -/
theorem s_put (i : Nat) {x : Str} {px tpos : Pos} {t : Expr} {tt : TD} (he : PE X e (lift F te)) (ht : PE X t (lift F tt)) (hN : X.N[i]? = some x := by rfl) (hv : Vis X.env.scope x := by first | exact Or.inl rfl | exact Or.inr (Or.inl rfl) | exact Or.inr (Or.inr rfl)) (hd : (x == ("__debug__" : Str)) = false := by decide)
    (hcd : (x == ("__classdict__" : Str)) = false := by decide)
    (hsub : ∀ v, assign (.Subscript (.Name x px) t tpos) X.env v = (do
      let ov ← holding [v] (eval (.Name x px) X.env)
      let iv ← holding [v, ov] (eval t X.env)
      standAt tpos
      holding [v, ov, iv] (setItem ov iv v)
      release [v, ov, iv] []) := by intro _; rfl)
    (hs : swapsWithSole [.Subscript (.Name x px) t tpos] e pos.line X.env = pure false := by rfl) (hw : swappedStores [.Subscript (.Name x px) t tpos] e X.env = pure none := by rfl) (h1 : (assignEach [.Subscript (.Name x px) t tpos] X.env).map (·.2) = [assign (.Subscript (.Name x px) t tpos) X.env] := by rfl) :
    PS X (.Assign [.Subscript (.Name x px) t tpos] e pos) (liftS F (putT i tt te)) := by
  refine ps_imp (ps_asg he (pg_sub (pe_var hN hv hd hcd) ht set_list hsub) hs hw h1) fun E σ H ⟨G, ρ, k, r, h, o⟩ => ?_
  obtain ⟨ds, hi, h⟩ := ml_of h
  refine ⟨G, ρ, _, r, h, fun d v H1 h1 x1 d1 => ?_⟩
  have r1 := r.step x1
  obtain ⟨o', e1, p, xs, rfl, h2, h3, h4, h5⟩ := r1.sl.get hi
  refine ⟨_, e1, G, ρ, _, r1, h1, fun j u H2 h2' x2 d2 => ?_⟩
  have r2 := r1.step x2
  obtain ⟨o', e1', p', xs, e2, h2, h3, h4, h5⟩ := r2.sl.get hi
  rw [e1] at e1'
  obtain rfl := Option.some.inj e1'
  cases e2
  cases j <;> try exact (show False from h2').elim
  obtain ⟨n, hn, hk⟩ := h2'
  obtain rfl := d2
  rw [h5.len] at hn
  refine ⟨p, xs, _, n, rfl, rfl, h4, hn, ?_⟩
  refine o.nx _ G σ _ hk (r2.chg hi rfl e1 h2 h3 True.intro ⟨p, _, rfl, h2, h3, upd_same, ?_⟩)
  have ev : Evo G G H2 (upd H2 p (.lst (xs.set n v))) := ⟨fun a u n h => by rw [upd_ne (fun z => n (by rw [z]; exact h2))]; exact h, r2.tr, fun _ n _ => n, rfl, rfl⟩
  have d3 := (r1.evo x2).dt _ _ d1
  have : ∀ {ds : List D} {xs : List V} (n : Nat), DtL F.K G H2 ds xs → DtL F.K G H2 (ds.set n d) (xs.set n v) := by
    intro ds
    induction ds with
    | nil => intro xs n h; obtain rfl : xs = [] := h; exact rfl
    | cons a ds ih =>
      intro xs n h
      obtain ⟨y, w, rfl, h1, h2⟩ := h
      cases n with
      | zero => exact ⟨v, w, rfl, d3, h2⟩
      | succ n => exact ⟨y, _, rfl, h1, ih n h2⟩
  exact ev.dts _ _ (this n h5)
end

/-! ### reading what is owned, for a flat result -/
mutual
def D.flat : D → Bool
  | .non => true
  | .bl _ => true
  | .int _ => true
  | .str _ => true
  | .tup ds => D.flats ds
  | _ => false
def D.flats : List D → Bool
  | [] => true
  | d :: ds => d.flat && D.flats ds
end
section
variable {K : PySem.W.Frag} {G G' : Gh} {H : Hp}
mutual
theorem Dt.flat : ∀ (d : D) (v : V), d.flat = true → Dt K G H d v → Dt K G' H d v
  | .non, v, _, h => h
  | .bl b, v, _, h => h
  | .int i, v, _, h => h
  | .str x, v, _, h => h
  | .tup ds, v, f, h => by
    obtain ⟨a, xs, h1, h3, h4⟩ := h
    exact ⟨a, xs, h1, h3, Dt.flats ds xs (by simpa only [D.flat] using f) h4⟩
  | .lst ds, v, f, h => by simp [D.flat] at f
  | .dic t ds, v, f, h => by simp [D.flat] at f
  | .ins C ds, v, f, h => by simp [D.flat] at f
  | .bag, v, f, h => by simp [D.flat] at f
theorem Dt.flats : ∀ (ds : List D) (vs : List V), D.flats ds = true → DtL K G H ds vs → DtL K G' H ds vs
  | [], _, _, h => h
  | d :: ds, vs, f, h => by
    obtain ⟨x, r, h1, h2, h3⟩ := h
    simp only [D.flats, Bool.and_eq_true] at f
    exact ⟨x, r, h1, Dt.flat d x f.1 h2, Dt.flats ds r f.2 h3⟩
end
end
def thruT (i : Nat) (t : TD) : TD := fun ρ k => match ρ[i]? with
  | some (.ml ds) => t (ρ.set i (.dat (.lst ds))) fun d => d.flat = true ∧ k d
  | some (.md b es) => t (ρ.set i (.dat (.dic b es))) fun d => d.flat = true ∧ k d
  | _ => False
def thruB (i : Nat) (t : TBD) : TBD := fun ρ k => match ρ[i]? with
  | some (.ml ds) => t (ρ.set i (.dat (.lst ds))) k
  | some (.md b es) => t (ρ.set i (.dat (.dic b es))) k
  | _ => False
section
variable {X : Cx} {F : Fr} {e : Expr} {te : TD} {tb : TBD}
theorem Ext.rem {G : Gh} {p : Addr} {H H' : Hp} (x : Ext (G.rem p) H H') : Ext G H H' := ⟨x.keep, x.bag⟩
theorem d_thru (i : Nat) (h : PE X e (lift F te)) : PE X e (lift F (thruT i te)) := by
  refine pe_imp h fun σ H Q ⟨G, ρ, k, r, w, q⟩ => ?_
  unfold thruT at w
  split at w
  · rename_i ds hi
    obtain ⟨p, r'⟩ := r.frzL hi
    exact ⟨_, _, _, r', w, fun d v H' ⟨f, h⟩ x hd => q d v H' h x.rem (Dt.flat d v f hd)⟩
  · rename_i es hi
    obtain ⟨p, r'⟩ := r.frzD hi
    exact ⟨_, _, _, r', w, fun d v H' ⟨f, h⟩ x hd => q d v H' h x.rem (Dt.flat d v f hd)⟩
  · exact w.elim
theorem t_thru (i : Nat) (h : PT X e (liftT F tb)) : PT X e (liftT F (thruB i tb)) := by
  refine pt_imp h fun σ H Q ⟨G, ρ, k, r, w, q⟩ => ?_
  unfold thruB at w
  split at w
  · rename_i ds hi
    obtain ⟨p, r'⟩ := r.frzL hi
    exact ⟨_, _, _, r', w, fun b H' h x => q b H' h x.rem⟩
  · rename_i es hi
    obtain ⟨p, r'⟩ := r.frzD hi
    exact ⟨_, _, _, r', w, fun b H' h x => q b H' h x.rem⟩
  · exact w.elim
end

/-! ### a def of data by its body -/
theorem slots_un {F : Fr} {G : Gh} {H : Hp} : ∀ n : Nat, Slots F G H (List.replicate n .un) (List.replicate n none)
  | 0 => rfl
  | n + 1 => ⟨none, _, rfl, True.intro, slots_un n⟩
theorem slots_start {F : Fr} {G : Gh} {H : Hp} (n : Nat) : ∀ {ds : List D} {vs : List V}, DtL F.K G H ds vs → Slots F G H (ds.map .dat ++ List.replicate n .un) (vs.map some ++ List.replicate n none)
  | [], vs, h => by
    obtain rfl : vs = [] := h
    exact slots_un n
  | d :: ds, vs, h => by
    obtain ⟨x, r, rfl, h1, h2⟩ := h
    exact ⟨some x, _, rfl, ⟨x, rfl, h1⟩, slots_start n h2⟩
/-- the entry's slots -/
def enterS (n : Nat) (ds : List D) : List Sl := ds.map .dat ++ List.replicate (n - ds.length) .un
theorem enter_no {n : Nat} {ds : List D} {i : Nat} {s : Sl} (h : (enterS n ds)[i]? = some s) (m : s.isM = true) : False := by
  have h' := List.mem_of_getElem? h
  rcases List.mem_append.mp h' with z | z
  · obtain ⟨d, _, rfl⟩ := List.mem_map.mp z
    cases m
  · obtain rfl := (List.mem_replicate.mp z).2
    cases m
def endD (k : D → Prop) : DE := ⟨fun _ => k .non, k, fun _ => False, fun _ => False⟩
open PySem.Spec PyProof.Rows in
theorem Fun.okD {P : Program} {w : World} {K : PySem.W.Frag} {mg : Str → Option Value} {base : Heap} {x qual : Str} {st : Stmt} {f : Addr} {fd : FuncData} {N ps : List Str} {k : Nat} {R : RD} (Fn : Fun K x qual st f fd) (S : FnScope N ps (defScope st))
    (len : ∀ ds k, R ds k → ds.length = ps.length)
    (hb : ∃ T : TSD, (∀ (cdv : Value) (A : Around) (outer : List Env) (s : Shared) (H : Hp) (E : XK) (G : Gh) (H' : Hp) (pn : List (V × D)), Room k (A.deeper (envOfC qual (defScope st) s.heap.objs.size f cdv)) → A.guards = some [] →
      PSs (cxOf CX0 P w K mg base N qual (defScope st) f cdv A outer s H E).nox (defBody st) (liftS ⟨K, G, H', pn⟩ T)) ∧ ∀ ds κ, R ds κ → T (endD κ) (enterS N.length ds)) : FnG P w K mg base CX0 (k + 1) f fd ps (spD K R) := by
  obtain ⟨oc, od, kV, doc, pm, an, cdv, ct, osl, rfl, lk, hcd⟩ := Fn.ex
  obtain ⟨T, hb, hq⟩ := hb
  refine fnG_of lk hcd S (fun vs H Q E h => ?_) fun A outer s H vs Q E hr hg h => ?_
  · obtain ⟨G, ds, κ, _, hd, hR, _⟩ := h
    rw [← hd.len]; exact len ds κ hR
  · obtain ⟨G, ds, κ, ok, hd, hR, q⟩ := h
    refine ⟨_, (hb cdv A outer s H E G H [] hr hg).nox, G, _, endD κ, ⟨rfl, rfl, ok.ob, ok.oi, fun _ h => h, fun a h n => absurd h n, ok.tr, .refl ok.bag, (fun _ z => nomatch z), ?_, fun i j a b p h1 _ m1 _ _ _ => (enter_no h1 m1).elim⟩, hq ds κ hR,
      ⟨fun ρ G' σ' H' h r => q .non .non H' h r.ext rfl, fun d v H' h x hd => q d v H' h x hd, fun _ _ _ _ h _ => h.elim, fun _ _ _ _ h _ => h.elim⟩⟩
    unfold enterS L2.start
    rw [hd.len]
    exact slots_start _ hd
end DL

set_option Elab.async false
set_option linter.all false
set_option maxRecDepth 100000
set_option maxHeartbeats 4000000
namespace DL
open PySem PySem.Spec PyProof.Rows L2

/-! ### enumerate(v), v a tuple -/
theorem meets_enum1 {v : Value} {o : Obj} {H : Heap → Prop} (B : Begins v o H) :
    Meets (Builtin.«enumerate.__new__» ⟨[.type "enumerate", v], []⟩) (fun _ R s => H s.heap ∧
      R (.ok (.ret (.ref (s.heap.push o).objs.size))) { s with heap := (s.heap.push o).push { cls := .type "enumerate", data := .fields #[.none, .bool false, .ref s.heap.objs.size, rawInt 0, .none, .none] } }) :=
  .of_wp fun prog w A R s h => by
    obtain ⟨hp, g, d, tk, os⟩ := s; obtain ⟨h1, h⟩ := h
    have hsub := sub_enumerate
    have q1 : ∀ {A' : Around} {E : Value → Shared → Prop} {Q : Value → Shared → Prop}, Q (.ref hp.objs.size) ⟨hp.push o, g, d, tk, os⟩ → wpAny (model prog w) A' (pyIter v) Q E ⟨hp, g, d, tk, os⟩ :=
      fun q => B.iter prog w _ _ ⟨hp, g, d, tk, os⟩ _ h1 q
    wp_walk using q1
    refine wpAny_stack_any fun st => wpAny_pure ?_
    split
    · rename_i c _ _ _ _ _
      cases (c == Value.type "enumerate")
      · wp_walk using q1
        exact ⟨_, rfl, h⟩
      · wp_walk using q1
        exact ⟨_, rfl, h⟩
    · wp_walk using q1
      exact ⟨_, rfl, h⟩
theorem enum_tup {prog : Program} {w : World} {A : Around} {E : Value → Shared → Prop} {s : Shared} {v : Value} {o : Obj} {H : Heap → Prop} {Q : Value → Shared → Prop} (B : Begins v o H) (h1 : H s.heap)
    (h : ∀ h', IsEnum h' (s.heap.objs.size + 1) s.heap.objs.size 0 .none → h'.get? s.heap.objs.size = some o → h'.objs.size = s.heap.objs.size + 2 →
      (∀ b o, s.heap.get? b = some o → h'.get? b = some o) → Q (.ref (s.heap.objs.size + 1)) { s with heap := h' }) :
    wpAny (model prog w) A (call (.type "enumerate") [v]) Q E s := by
  refine callType_new F.called_enumerate (by decide) (F.typeCall_enumerate_1 _) (F.newCall_enumerate_1 _) (fun obj => F.args_object_init_2 obj _) F.entry_enumerate_new
    (meets_enum1 B) ⟨h1, ?_⟩
  have hz : (s.heap.push o).objs.size = s.heap.objs.size + 1 := Heap.size_push ..
  show _ ∧ _
  rw [hz]
  have he : IsEnum ((s.heap.push o).push { cls := .type "enumerate", data := .fields #[.none, .bool false, .ref s.heap.objs.size, rawInt 0, .none, .none] }) (s.heap.objs.size + 1) s.heap.objs.size 0 .none := by
    have := Heap.get?_push_size (s.heap.push o) (o := { cls := .type "enumerate", data := .fields #[.none, .bool false, .ref s.heap.objs.size, rawInt 0, .none, .none] }) rfl
    rw [hz] at this; exact this
  refine ⟨⟨_, he, rfl⟩, h _ he (Heap.get?_push_of_some _ (Heap.get?_push_size _ B.free)) (by rw [Heap.size_push, hz]) fun b o x => Heap.get?_push_of_some _ (Heap.get?_push_of_some _ x)⟩

/-- the tuple at a as it stands at each turn, each item in a new pair -/
def IteT (K : PySem.W.Frag) (a : Addr) : It :=
  ⟨fun i H => ∃ (xs : List V) (x : V), SqT K H a xs ∧ xs[i]? = some x, fun i H v H' => ∃ T x, v = .ref T ∧ H T = none ∧ H' = upd H T (.tup [.int (i : Nat), x]) ∧ ∀ xs, SqT K H a xs → xs[i]? = some x, fun i H => ∃ xs : List V, SqT K H a xs ∧ xs.length ≤ i⟩
theorem turn_enumT {P : Program} {w : World} {K : PySem.W.Frag} {elts : List Expr} {kk : Nat} {tpos : Pos} (a e it : Addr) (hai : a ≠ it) (hae : a ≠ e) :
    Turn P w K (.Tuple elts kk tpos) (IteT K a) [e, it] e (fun i h => (∃ old, IsEnum h e it ((i : Nat) : Int) old) ∧ h.IsTupleIter it a i ∧ e ≠ it) where
  mem := by simp
  obj := fun i h st b hb => by
    obtain ⟨⟨old, he⟩, ⟨o, ho, hc, hd⟩, _⟩ := st
    have e' : b = e ∨ b = it := by simpa using hb
    rcases e' with z | z
    · rw [z]; exact ⟨_, he, fun v q => nomatch q⟩
    · rw [z]; exact ⟨o, ho, fun v q => by rw [hd] at q; cases q⟩
  keep := fun i h h' st k => let ⟨⟨old, he⟩, hi, hne⟩ := st; ⟨⟨old, k e (by simp) _ he⟩, hi.at fun o q => k it (by simp) o q, hne⟩
  item := by
    intro X hP hw hK hc i pins s σ H E I hf st hg
    subst hP hw hK
    obtain ⟨⟨old, he⟩, hit, hne⟩ := st
    obtain ⟨xs, x, hq, hx⟩ := hg
    obtain ⟨its, rv, p, hz⟩ := I.tuple hq
    obtain ⟨u, hu, ru⟩ := rv.get hx
    have hel : e < s.heap.objs.size := Heap.lt_size he
    have hil : it < s.heap.objs.size := by obtain ⟨_, q, _⟩ := hit; exact Heap.lt_size q
    have hl : i < its.toArray.size := by
      have := (List.getElem?_eq_some_iff.mp hu).1
      simpa using this
    have pt : s.heap.IsTuple a its.toArray := p
    refine wpAny_pyNext_enum_itemC (c := (i : Int)) (Draws.tuple (A := X.A.in1) (I.ok.hd hc) it a hai its.toArray) he ⟨hit, pt⟩ hl hne (by simp only [List.mem_cons, List.not_mem_nil, or_false, not_or]; exact ⟨hne, Ne.symm hae⟩) fun y h' tk hPx ho hs' hT hsz hk => ?_
    obtain rfl : u = y := by
      have e1 : its.toArray[i]? = some u := by simpa using hu
      rw [e1] at hPx
      exact Option.some.inj hPx
    refine ⟨_, rfl, wpAny_letOwnedTupleGo_enum (s := { s with heap := h', toks := tk + 1 }) ho fun h'' he' sb => ?_⟩
    have hT2 : h''.get? s.heap.objs.size = some { cls := .type "tuple", data := .seq #[.int i tk, u] } := (sb.2 _ (Nat.ne_of_gt hel)).trans hT
    have new : ObjOk X.prog X.w (upd H s.heap.objs.size (.tup [.int (i : Nat), x])) h'' s.heap.objs.size (.tup [.int (i : Nat), x]) :=
      ⟨by show 2 ≤ sizeLine; decide, [.int i tk, u], .cons ⟨_, rfl⟩ (.cons ru .nil), ⟨_, hT2, rfl, _, rfl⟩⟩
    have I1 : Inv X pins σ (upd H s.heap.objs.size (.tup [.int (i : Nat), x])) { s with heap := h'', toks := tk + 1 } :=
      I.turnedNew (ch := [e, it]) (fun b ob hb q => (sb.2 b (fun z => hb (by simp [z]))).trans (hk b ob (fun z => hb (by simp [z])) (fun z => hb (by simp [z])) q)) hf (Nat.le_refl _) new
    refine ⟨.ref s.heap.objs.size, _, I1, rfl, ⟨_, x, rfl, I.hok.fresh (Nat.le_refl _), rfl, fun ys hy => by rw [I.tuple_inj hy hq]; exact hx⟩, ⟨⟨u, ?_⟩, hs'.1.at fun o q => (sb.2 it (Ne.symm hne)).trans q, hne⟩, fun b hb => ?_⟩
    · have e1 : ((i + 1 : Nat) : Int) = (i : Int) + 1 := by omega
      rw [e1]; exact he'
    · have hb' : b < s.heap.objs.size := by
        have e' : b = e ∨ b = it := by simpa using hb
        rcases e' with z | z
        · rw [z]; exact hel
        · rw [z]; exact hil
      rw [upd_ne (Nat.ne_of_lt hb')]
      exact (hf b hb).1
  done := by
    intro X hP hw hK hc i pins s σ H E I hf st hg
    subst hP hw hK
    obtain ⟨⟨old, he⟩, hit, hne⟩ := st
    obtain ⟨xs, hq, hx⟩ := hg
    obtain ⟨its, rv, p, hz⟩ := I.tuple hq
    obtain ⟨f0, f1, f2, f3, f4, f5⟩ := hf it (by simp)
    have hl := rv.length
    have pt : s.heap.IsTuple a its.toArray := p
    have D : Draws X.prog X.w X.A.in1 it [it, a] i (fun i v => its.toArray[i]? = some v) (fun j h => (h.IsTupleIter it a j ∧ h.IsTuple a its.toArray) ∧ j = i) :=
      { live := fun _ _ st => let ⟨o, ho, _⟩ := st.1.1; ⟨o, ho⟩
        frame := fun _ _ _ st hk => ⟨⟨st.1.1.at fun o e => hk it (by simp) o e, st.1.2.at fun o e => hk a (by simp) o e⟩, st.2⟩
        item := fun j s Q E hi st hQ => absurd st.2 (Nat.ne_of_lt hi)
        done := fun s Q E st hE => wpAny_nextOf_tuple_end (I.ok.hd hc) st.1.1 st.1.2 (by simp; omega) hE }
    exact wpAny_pyNext_enum_endD D he ⟨⟨hit, pt⟩, rfl⟩ fun h' eb => ⟨rfl, I.turned (t' := s.toks) (fun b o hb q => eb b o hb q) f0 f1 f3 f4 f5⟩
  self := fun A i s Q E st h => let ⟨⟨_, he⟩, _⟩ := st; wpAny_pyIter_enum he h

def iEnumA (K : PySem.W.Frag) (ta : TA) : TI := fun σ H R => ta σ H fun vs H1 => ∃ a xs, vs = [.ref a] ∧ ((SqL K H1 a xs ∧ R (Ite K a) H1) ∨ (SqT K H1 a xs ∧ R (IteT K a) H1))
theorem pi_enumA {X : Cx} {e : Expr} {ta : TA} {p pos tpos : Pos} {elts : List Expr} {kk : Nat} (hg : Gl X "enumerate") (hm : X.mg "enumerate" = none) (ha : PA X [e] ta) (hs : starEach [e] X.env = [(false, eval e X.env)] := by rfl) :
    PI X (.Tuple elts kk tpos) (.Call (.Name "enumerate" p) [e] [] pos) (iEnumA X.K ta) := by
  refine ⟨fun pins s σ H R I h => ?_⟩
  refine Call_ (ld_blt I hg hm boot_enumerate (PyProof.Rows.callWith_type1 (thn (ha.run pos pins s σ H _ I h) fun us s1 ⟨vs, H1, I1, r1, q1⟩ => ?_) hs rfl))
  obtain ⟨a, xs, ex, q1⟩ := q1
  subst ex
  have fresh2 : ∀ b, b ∈ [s1.heap.objs.size + 1, s1.heap.objs.size] → FpOk X pins H1 b := fun b hb => by
    have e' : b = s1.heap.objs.size + 1 ∨ b = s1.heap.objs.size := by simpa using hb
    have hle : s1.heap.objs.size ≤ b := by
      rcases e' with z | z
      · rw [z]; exact Nat.le_add_right _ _
      · rw [z]; exact Nat.le_refl _
    exact I1.fpOk hle (I1.hok.fresh hle)
  cases r1 with
  | cons r rr =>
    cases rr
    cases r
    rcases q1 with ⟨hq, q⟩ | ⟨hq, q⟩
    · obtain ⟨its, rv, p', hz⟩ := I1.list hq
      refine call_enumerate_list p'.isList fun h' he hit hsz hk => wpAny_pyIter_enum he ?_
      have I2 : Inv X pins σ H1 { s1 with heap := h' } := I1.kept (t' := s1.toks) hk
      exact ⟨s1.heap.objs.size + 1, [s1.heap.objs.size + 1, s1.heap.objs.size], _, _, H1, rfl, I2, turn_enum a (s1.heap.objs.size + 1) s1.heap.objs.size, ⟨⟨.none, he⟩, hit, Nat.succ_ne_self _⟩, fresh2, q⟩
    · obtain ⟨its, rv, p', hz⟩ := I1.tuple hq
      obtain ⟨o1, ho1, _⟩ := id p'
      have hal : a < s1.heap.objs.size := Heap.lt_size ho1
      refine enum_tup (begins_tuple a its.toArray) (show s1.heap.IsTuple a its.toArray from p') fun h' he hit hsz hk => wpAny_pyIter_enum he ?_
      have I2 : Inv X pins σ H1 { s1 with heap := h' } := I1.kept (t' := s1.toks) hk
      exact ⟨s1.heap.objs.size + 1, [s1.heap.objs.size + 1, s1.heap.objs.size], _, _, H1, rfl, I2, turn_enumT a (s1.heap.objs.size + 1) s1.heap.objs.size (Nat.ne_of_lt hal) (Nat.ne_of_lt (Nat.lt_succ_of_lt hal)), ⟨⟨.none, he⟩, ⟨_, hit, rfl, rfl⟩, Nat.succ_ne_self _⟩, fresh2, q⟩

/-! ### walks over pairs -/
section
variable {K : PySem.W.Frag}
theorem dt_pair {G : Gh} {H : Hp} {T : Addr} {d d' : D} {x y : V} (ok : GOk G H) (hT : H T = none) (h1 : Dt K G H d x) (h2 : Dt K G H d' y) : Dt K G (upd H T (.tup [x, y])) (.tup [d, d']) (.ref T) := by
  have e : Ext G H (upd H T (.tup [x, y])) := Ext.new ok.bag hT
  have ev : Evo G G H (upd H T (.tup [x, y])) := ⟨fun a o n h => e.keep a o (fun z => n (by rw [z]; exact ok.ob)) h, ok.tr, fun _ n _ => n, rfl, rfl⟩
  exact ⟨T, [x, y], rfl, .inl (.inl upd_same), x, [y], rfl, ev.dt _ _ h1, y, [], rfl, ev.dt _ _ h2, rfl⟩
def numb (ds : List D) : List D := ds.mapIdx fun i d => .tup [.int (i : Int), d]
theorem numb_len (ds : List D) : (numb ds).length = ds.length := List.length_mapIdx
theorem numb_get {ds : List D} {i : Nat} {d : D} (h : ds[i]? = some d) : (numb ds)[i]? = some (.tup [.int (i : Int), d]) := by
  unfold numb; rw [List.getElem?_mapIdx, h]; rfl
theorem walk_enum {a : Addr} {ds : List D} : Walk K [(.ref a, .lst ds)] (Ite K a) (numb ds) := by
  intro i G H ok hp
  obtain ⟨b, xs, e, n, ha, hl⟩ := hp (.ref a, .lst ds) (List.mem_singleton.mpr rfl)
  cases e
  rw [numb_len]
  refine ⟨fun hi => ⟨⟨xs, xs[i]'(by rw [← hl.len]; exact hi), SqL.of ha, List.getElem?_eq_getElem _⟩, fun v H' y => ?_⟩, fun hi => ⟨xs, SqL.of ha, by rw [← hl.len]; exact hi⟩⟩
  obtain ⟨T, x, rfl, hT, rfl, y⟩ := y
  obtain ⟨d, hd, hx⟩ := hl.get' (y xs (SqL.of ha))
  exact ⟨fun a o h => by rw [upd_ne (ne_of_none h hT)]; exact h, _, numb_get hd, dt_pair (d := .int (i : Int)) ok hT rfl hx⟩
theorem walk_enumT {a : Addr} {ds : List D} : Walk K [(.ref a, .tup ds)] (IteT K a) (numb ds) := by
  intro i G H ok hp
  obtain ⟨b, xs, e, ha, hl⟩ := hp (.ref a, .tup ds) (List.mem_singleton.mpr rfl)
  cases e
  rw [numb_len]
  refine ⟨fun hi => ⟨⟨xs, xs[i]'(by rw [← hl.len]; exact hi), ha, List.getElem?_eq_getElem _⟩, fun v H' y => ?_⟩, fun hi => ⟨xs, ha, by rw [← hl.len]; exact hi⟩⟩
  obtain ⟨T, x, rfl, hT, rfl, y⟩ := y
  obtain ⟨d, hd, hx⟩ := hl.get' (y xs ha)
  exact ⟨fun a o h => by rw [upd_ne (ne_of_none h hT)]; exact h, _, numb_get hd, dt_pair (d := .int (i : Int)) ok hT rfl hx⟩
def pairD (ds es : List D) : List D := (ds.zip es).map fun q => .tup [q.1, q.2]
theorem pairD_len (ds es : List D) : (pairD ds es).length = min ds.length es.length := by unfold pairD; rw [List.length_map, List.length_zip]
theorem pairD_get {ds es : List D} {i : Nat} {d e : D} (h : ds[i]? = some d) (h' : es[i]? = some e) : (pairD ds es)[i]? = some (.tup [d, e]) := by
  unfold pairD; rw [List.getElem?_map, show (ds.zip es)[i]? = some (d, e) from List.getElem?_zip_eq_some.mpr ⟨h, h'⟩]; rfl
theorem walk_zip {a b : Addr} {ds es : List D} : Walk K [(.ref a, .lst ds), (.ref b, .lst es)] (Itz K a b) (pairD ds es) := by
  intro i G H ok hp
  obtain ⟨a', xs, e, n, ha, hl⟩ := hp (.ref a, .lst ds) (by simp)
  cases e
  obtain ⟨b', ys, e, n', hb, hm⟩ := hp (.ref b, .lst es) (by simp)
  cases e
  rw [pairD_len]
  have l1 := hl.len
  have l2 := hm.len
  refine ⟨fun hi => ⟨⟨xs, ys, xs[i]'(by omega), ys[i]'(by omega), SqL.of ha, SqL.of hb, List.getElem?_eq_getElem _, List.getElem?_eq_getElem _⟩, fun v H' y => ?_⟩, fun hi => ⟨xs, ys, SqL.of ha, SqL.of hb, by omega⟩⟩
  obtain ⟨T, x, y, rfl, hT, rfl, y1, y2⟩ := y
  obtain ⟨d, hd, hx⟩ := hl.get' (y1 xs (SqL.of ha))
  obtain ⟨d', hd', hy⟩ := hm.get' (y2 ys (SqL.of hb))
  exact ⟨fun a o h => by rw [upd_ne (ne_of_none h hT)]; exact h, _, pairD_get hd hd', dt_pair ok hT hx hy⟩
theorem walk_zipT {a b : Addr} {ds es : List D} : Walk K [(.ref a, .tup ds), (.ref b, .tup es)] (RZ.ItzT K a b) (pairD ds es) := by
  intro i G H ok hp
  obtain ⟨a', xs, e, ha, hl⟩ := hp (.ref a, .tup ds) (by simp)
  cases e
  obtain ⟨b', ys, e, hb, hm⟩ := hp (.ref b, .tup es) (by simp)
  cases e
  rw [pairD_len]
  have l1 := hl.len
  have l2 := hm.len
  refine ⟨fun hi => ⟨⟨xs, ys, xs[i]'(by omega), ys[i]'(by omega), ha, hb, List.getElem?_eq_getElem _, List.getElem?_eq_getElem _⟩, fun v H' y => ?_⟩, fun hi => ⟨xs, ys, ha, hb, by omega⟩⟩
  obtain ⟨T, x, y, rfl, hT, rfl, y1, y2⟩ := y
  obtain ⟨d, hd, hx⟩ := hl.get' (y1 xs ha)
  obtain ⟨d', hd', hy⟩ := hm.get' (y2 ys hb)
  exact ⟨fun a o h => by rw [upd_ne (ne_of_none h hT)]; exact h, _, pairD_get hd hd', dt_pair ok hT hx hy⟩
end
def enumI (t : TLD) : TLD := fun ρ k => t ρ fun ds => match ds with
  | [.lst xs] => k (numb xs)
  | [.tup xs] => k (numb xs)
  | _ => False
def zipI (t : TLD) : TLD := fun ρ k => t ρ fun ds => match ds with
  | [.lst xs, .lst ys] => k (pairD xs ys)
  | [.tup xs, .tup ys] => k (pairD xs ys)
  | _ => False
section
variable {X : Cx} {F : Fr} {a b : Expr} {ta : TLD} {p pos tpos : Pos} {elts : List Expr} {kk : Nat}
theorem i_enum (hg : Gl X "enumerate") (hm : X.mg "enumerate" = none) (ha : PA X [a] (liftA F ta)) (hs : starEach [a] X.env = [(false, eval a X.env)] := by rfl) (hK : X.K = F.K := by rfl) : PI X (.Tuple elts kk tpos) (.Call (.Name "enumerate" p) [a] [] pos) (liftI F (enumI ta)) := by
  refine pi_imp (pi_enumA hg hm ha hs) fun σ H R ⟨G, ρ, k, r, h, q⟩ => ⟨G, ρ, _, r, h, fun ds vs H1 h1 e1 d1 => ?_⟩
  rw [hK]
  split at h1
  · obtain ⟨v, rfl, hv⟩ := dl1 d1
    obtain ⟨a, xs, rfl, n, ha, hl⟩ := id hv
    exact ⟨a, xs, rfl, .inl ⟨SqL.of ha, q _ _ H1 _ h1 e1 walk_enum fun z hz => by obtain rfl := List.mem_singleton.mp hz; exact hv⟩⟩
  · obtain ⟨v, rfl, hv⟩ := dl1 d1
    obtain ⟨a, xs, rfl, ha, hl⟩ := id hv
    exact ⟨a, xs, rfl, .inr ⟨ha, q _ _ H1 _ h1 e1 walk_enumT fun z hz => by obtain rfl := List.mem_singleton.mp hz; exact hv⟩⟩
  · exact h1.elim
theorem i_zip (hg : Gl X "zip") (hm : X.mg "zip" = none) (ha : PA X [a, b] (liftA F ta)) (hs : starEach [a, b] X.env = (false, eval a X.env) :: starEach [b] X.env := by rfl) (hpl : (backTo pos (starEach [b] X.env)).any (·.1) = false := by rfl) (hK : X.K = F.K := by rfl) :
    PI X (.Tuple elts kk tpos) (.Call (.Name "zip" p) [a, b] [] pos) (liftI F (zipI ta)) := by
  refine pi_imp (RZ.pi_zipA hg hm ha hs hpl) fun σ H R ⟨G, ρ, k, r, h, q⟩ => ⟨G, ρ, _, r, h, fun ds vs H1 h1 e1 d1 => ?_⟩
  rw [hK]
  split at h1
  · obtain ⟨v, u, rfl, hv, hu⟩ := dl2 d1
    obtain ⟨a, xs, rfl, n, ha, hl⟩ := id hv
    obtain ⟨b, ys, rfl, n', hb, hl'⟩ := id hu
    exact ⟨a, b, xs, ys, rfl, .inl ⟨SqL.of ha, SqL.of hb, q _ _ H1 _ h1 e1 walk_zip fun z hz => by
      rcases List.mem_cons.mp hz with rfl | hz
      · exact hv
      · obtain rfl := List.mem_singleton.mp hz; exact hu⟩⟩
  · obtain ⟨v, u, rfl, hv, hu⟩ := dl2 d1
    obtain ⟨a, xs, rfl, ha, hl⟩ := id hv
    obtain ⟨b, ys, rfl, hb, hl'⟩ := id hu
    exact ⟨a, b, xs, ys, rfl, .inr ⟨ha, hb, q _ _ H1 _ h1 e1 walk_zipT fun z hz => by
      rcases List.mem_cons.mp hz with rfl | hz
      · exact hv
      · obtain rfl := List.mem_singleton.mp hz; exact hu⟩⟩
  · exact h1.elim

/-! ### *e in argument lists and displays -/
def starA (t : TD) (u : TLD) : TLD := fun ρ k => t ρ fun d => match d with
  | .lst xs => u ρ fun ds => k (xs ++ ds)
  | .tup xs => u ρ fun ds => k (xs ++ ds)
  | _ => False
theorem a_star {e : Expr} {es : List Expr} {te : TD} (he : PE X e (lift F te)) (hr : PA X es (liftA F ta)) (hs : starEach (.Starred e p :: es) X.env = (true, eval e X.env) :: starEach es X.env := by rfl) (hK : X.K = F.K := by rfl) : PA X (.Starred e p :: es) (liftA F (starA te ta)) := by
  refine pa_imp (StX.pa_star he hr hs) fun σ H Q ⟨G, ρ, k, r, h, q⟩ => ⟨G, ρ, _, r, h, fun d v H1 h1 e1 d1 => ?_⟩
  rw [hK]
  cases d <;> try exact (show False from h1).elim
  · obtain ⟨a, xs, rfl, n, ha, hl⟩ := d1
    refine ⟨a, xs, rfl, .inr (SqL.of ha), G, ρ, _, r.step e1, h1, fun ds vs H2 h2 e2 d2 => q _ _ H2 h2 (e1.trans e2) ((((r.step e1).evo e2).dts _ _ hl).app d2)⟩
  · obtain ⟨a, xs, rfl, ha, hl⟩ := d1
    refine ⟨a, xs, rfl, .inl ha, G, ρ, _, r.step e1, h1, fun ds vs H2 h2 e2 d2 => q _ _ H2 h2 (e1.trans e2) ((((r.step e1).evo e2).dts _ _ hl).app d2)⟩
end
end DL

set_option Elab.async false
set_option linter.all false
set_option maxRecDepth 100000
set_option maxHeartbeats 4000000
namespace DL
open PySem PySem.Spec PyProof.Rows L2

/-! ### methods of data -/
abbrev MDD := D → List D → (D → Prop) → Prop
def methT (o : MDD) (t : TD) (ta : TLD) : TD := fun ρ k => t ρ fun x => ta ρ fun ds => o x ds k
def OkM (F : Fr) (r : V → List V → Hp → VK → Prop) (o : MDD) : Prop := ∀ (G : Gh) (H : Hp) (x : D) (v : V) (ds : List D) (vs : List V) (k : D → Prop) (Q : VK), GOk G H → o x ds k → Dt F.K G H x v → DtL F.K G H ds vs →
  (∀ d w H', k d → Ext G H H' → Dt F.K G H' d w → Q w H') → r v vs H Q
def isStr : D → Prop
  | .str _ => True
  | _ => False
def isLst : D → Prop
  | .lst _ => True
  | _ => False
def onT (P : D → Prop) (t : TD) : TD := fun ρ k => t ρ fun d => P d ∧ k d
section
variable {X : Cx} {F : Fr} {o e : Expr} {to te : TD} {ta : TLD} {apos pos : Pos}
theorem d_m1 {r : V → List V → Hp → VK → Prop} {m : MDD} (hr : OkM F r m) (hpe : PE X e (tM1 r (lift F to) (lift F te))) : PE X e (lift F (methT m (onT isStr to) (consA te nilA))) := by
  refine pe_imp hpe fun σ H Q ⟨G, ρ, k, r, h, q⟩ => ⟨G, ρ, _, r, h, fun x v H1 ⟨hs, h1⟩ e1 d1 => ?_⟩
  cases x <;> try exact (show False from hs).elim
  refine ⟨⟨_, d1⟩, G, ρ, _, r.step e1, h1, fun y u H2 h2 e2 d2 => ?_⟩
  have r2 := (r.step e1).step e2
  exact hr G H2 _ v [y] [u] k Q r2.ok h2 (((r.step e1).evo e2).dt _ _ d1) ⟨u, [], rfl, d2, rfl⟩ fun d w H3 h3 e3 d3 => q d w H3 h3 ((e1.trans e2).trans e3) d3
/-- x.m(..), x a list -/
theorem d_bmL {r : V → List V → Hp → VK → Prop} {m : MDD} (hr : OkM F r m) (hpe : PE X e (tBM X.K "list" r (lift F to) (liftA F ta))) : PE X e (lift F (methT m (onT isLst to) ta)) := by
  refine pe_imp hpe fun σ H Q ⟨G, ρ, k, r, h, q⟩ => ⟨G, ρ, _, r, h, fun x v H1 ⟨hs, h1⟩ e1 d1 => ?_⟩
  cases x <;> try exact (show False from hs).elim
  obtain ⟨a, xs, rfl, n, ha, hl⟩ := id d1
  refine ⟨.inl ⟨rfl, xs, SqL.of ha⟩, G, ρ, _, r.step e1, h1, fun ds vs H2 h2 e2 d2 => ?_⟩
  have r2 := (r.step e1).step e2
  exact hr G H2 _ _ ds vs k Q r2.ok h2 (((r.step e1).evo e2).dt _ _ d1) d2 fun d w H3 h3 e3 d3 => q d w H3 h3 ((e1.trans e2).trans e3) d3
end
def splitM : MDD
  | .str a, [.str b], k => ((b.length == 0) = false ∧ a.length + 2 ≤ sizeLine) ∧ k (.lst ((Txt.split a b).map .str))
  | _, _, _ => False
def joinM : MDD
  | .str a, [x], k => ∃ ys : List Str, (x = .lst (ys.map .str) ∨ x = .tup (ys.map .str)) ∧ (ys.map (·.length)).sum + ys.length * a.length ≤ 16777216 ∧ k (.str (Txt.join a ys))
  | _, _, _ => False
def indexM : MDD
  | .lst xs, [y], k => ∃ (j : Nat) (z : PyData), SeqAt.shaped (.list (D.pys xs)) = true ∧ SeqAt.shaped y.py = true ∧ (D.pys xs)[j]? = some z ∧ PyData.eqv z y.py = true ∧ (∀ (m : Nat) (z' : PyData), m < j → (D.pys xs)[m]? = some z' → PyData.eqv z' y.py = false) ∧ k (.int (j : Nat))
  | _, _, _ => False
theorem dtl_strs {K : PySem.W.Frag} {G : Gh} {H : Hp} : ∀ ys : List Str, DtL K G H (ys.map .str) (ys.map .str)
  | [] => rfl
  | y :: ys => ⟨.str y, _, rfl, rfl, dtl_strs ys⟩
section
variable {X : Cx} {F : Fr} {o e : Expr} {to te : TD} {ta : TLD} {apos pos : Pos}
theorem d_split (ho : PE X o (lift F to)) (he : PE X e (lift F te)) (hs : starEach [e] X.env = [(false, eval e X.env)] := by rfl) (hbase : attributeBase o "split" X.env (eval o X.env) = eval o X.env := by rfl) (hline : (apos.endLine == pos.line) = true := by rfl) :
    PE X (.Call (.Attribute o "split" apos) [e] [] pos) (lift F (methT splitM (onT isStr to) (consA te nilA))) := by
  refine d_m1 (fun G H x v ds vs k Q ok h hx hl q => ?_) (pe_split ho he hs hbase hline)
  unfold splitM at h
  split at h
  · obtain ⟨u, rfl, hu⟩ := dl1 hl
    obtain rfl := hx
    obtain rfl := hu
    refine ⟨_, _, rfl, rfl, h.1.1, h.1.2, fun p hp => ?_⟩
    exact q _ _ _ h.2 (Ext.new ok.bag hp) ⟨p, _, rfl, fun z => by have m := ok.tr p z; rw [hp] at m; exact m, upd_same, dtl_strs _⟩
  · exact h.elim
theorem d_join (ho : PE X o (lift F to)) (he : PE X e (lift F te)) (hK : X.K = F.K := by rfl) (hs : starEach [e] X.env = [(false, eval e X.env)] := by rfl) (hbase : attributeBase o "join" X.env (eval o X.env) = eval o X.env := by rfl) (hline : (apos.endLine == pos.line) = true := by rfl) :
    PE X (.Call (.Attribute o "join" apos) [e] [] pos) (lift F (methT joinM (onT isStr to) (consA te nilA))) := by
  refine d_m1 (fun G H x v ds vs k Q ok h hx hl q => ?_) (pe_join ho he hs hbase hline)
  unfold joinM at h
  split at h
  · obtain ⟨u, rfl, hu⟩ := dl1 hl
    obtain rfl := hx
    obtain ⟨ys, hy, hz, h⟩ := h
    rcases hy with rfl | rfl
    · obtain ⟨a, xs, rfl, n, ha, hd⟩ := hu
      exact ⟨_, a, ys, rfl, rfl, .inl (by rw [← hd.strs]; exact SqL.of ha), hz, q _ _ _ h (.refl ok.bag) rfl⟩
    · obtain ⟨a, xs, rfl, ha, hd⟩ := hu
      exact ⟨_, a, ys, rfl, rfl, .inr (by rw [← hd.strs, hK]; exact ha), hz, q _ _ _ h (.refl ok.bag) rfl⟩
  · exact h.elim
theorem d_index {n : Nat} (hr : Room n X.A) (ho : PE X o (lift F to)) (he : PE X e (lift F te)) (hK : X.K = F.K := by rfl) (hbase : attributeBase o "index" X.env (eval o X.env) = eval o X.env := by rfl)
    (hfew : ((backTo pos (starEach (e :: []) X.env)).all (fun x => !x.1) && (backToKw pos (keywordEach [] X.env)).all (fun x => x.1.isSome)
      && decide ((e :: ([] : List Expr)).length + ([] : List Keyword).length + (if ([] : List Keyword).isEmpty then 0 else 1) < 30)) = true := by rfl)
    (hline : (apos.endLine == pos.line) = true := by rfl) (hs : starEach (e :: []) X.env = (false, eval e X.env) :: starEach [] X.env := by rfl) (hplain : (backTo pos (starEach [] X.env)).any (·.1) = false := by rfl) :
    PE X (.Call (.Attribute o "index" apos) [e] [] pos) (lift F (methT indexM (onT isLst to) (consA te nilA))) := by
  refine d_bmL (fun G H x v ds vs k Q ok h hx hl q => ?_) (pe_bm PySem.F.plainAttrs_list PySem.F.slot_list_index PySem.F.type_list_index (mt_indexD (by have := u150 hr; omega)) ho (a_cons he a_nil hs) hbase hfew hline hs hplain)
  unfold indexM at h
  split at h
  · obtain ⟨u, rfl, hu⟩ := dl1 hl
    obtain ⟨j, z, s1, s2, g1, g2, g3, h⟩ := h
    have c1 := SeqAt.canLay_of_shaped s1
    have dp := Dt.dp (.lst _) v (by simpa only [D.py, PyData.canLay0] using c1) hx
    have hx' := hx
    obtain ⟨a, ys, rfl, n, ha, hd⟩ := hx'
    exact ⟨a, u, _, D.pys _, j, z, rfl, rfl, hK ▸ dp, hK ▸ Dt.dp _ u (SeqAt.canLay_of_shaped s2) hu, s1, s2, g1, g2, g3, q _ _ _ h (.refl ok.bag) rfl⟩
  · exact h.elim
end

/-! ### dicts -/
def keyD : D → Option Key
  | .int i => some (.inl i)
  | .str x => some (.inr x)
  | _ => none
def valD : List (D × D) → Key → Option D
  | [], _ => none
  | (k, d) :: es, j => if keyD k = some j then some d else valD es j
theorem keyD_kD (j : Key) : keyD (kD j) = some j := by cases j <;> rfl
theorem DtP.val {K : PySem.W.Frag} {G : Gh} {H : Hp} {j : Key} {t : Bool} : ∀ {es : List (D × D)} {kvs : List (Key × V)}, DtP K G H t es kvs → (valD es j = none ∧ valV kvs j = none) ∨ ∃ d v, valD es j = some d ∧ valV kvs j = some v ∧ Dt K G H d v
  | [], _, h => by
    obtain ⟨rfl, _⟩ := h
    exact .inl ⟨rfl, rfl⟩
  | (k, d) :: es, _, h => by
    obtain ⟨i, v, r, rfl, rfl, h1, h2⟩ := h
    by_cases e : i = j
    · subst e
      exact .inr ⟨d, v, by simp [valD, keyD_kD], valV_pos rfl, h1⟩
    · have n : ¬ keyD (kD i) = some j := by rw [keyD_kD]; exact fun z => e (Option.some.inj z)
      rw [valV_neg (p := (i, v)) e]
      simp only [valD, if_neg n]
      exact DtP.val h2
theorem DtP.kind {K : PySem.W.Frag} {G : Gh} {H : Hp} {t : Bool} : ∀ {es : List (D × D)} {kvs : List (Key × V)}, DtP K G H t es kvs → t = false
  | [], _, h => h.2
  | (k, d) :: es, _, h => by
    obtain ⟨i, v, r, rfl, rfl, h1, h2⟩ := h
    exact DtP.kind h2
theorem DtQ.kind {K : PySem.W.Frag} {G : Gh} {H : Hp} {t : Bool} : ∀ {es : List (D × D)} {kvs : List (List Key × V)}, DtQ K G H t es kvs → t = true
  | [], _, h => h.2
  | (k, d) :: es, _, h => by
    obtain ⟨i, v, r, rfl, rfl, h1, h2⟩ := h
    exact DtQ.kind h2
theorem dic_K {K : PySem.W.Frag} {G : Gh} {H : Hp} {es : List (D × D)} {v : V} (h : Dt K G H (.dic false es) v) : ∃ a kvs, v = .ref a ∧ ¬ G.own a ∧ Rd H a (.dK kvs) ∧ DtP K G H false es kvs := by
  obtain ⟨a, rfl, n, h⟩ := h
  rcases h with ⟨kvs, h1, h2⟩ | ⟨kvs, h1, h2⟩
  · exact ⟨a, kvs, rfl, n, h1, h2⟩
  · cases h2.kind
theorem keyD_kV {K : PySem.W.Frag} {G : Gh} {H : Hp} {y : D} {v : V} {j : Key} (h : keyD y = some j) (hy : Dt K G H y v) : v = kV j := by
  cases y <;> simp only [keyD, Option.some.injEq, reduceCtorEq] at h
  · subst h; exact hy
  · subst h; exact hy
def getT (t tk td : TD) : TD := fun ρ k => t ρ fun x => (∃ es, x = .dic false es) ∧ tk ρ fun y => td ρ fun z => match x with
  | .dic _ es => optK (keyD y) fun j => k ((valD es j).getD z)
  | _ => False
section
variable {X : Cx} {F : Fr} {o e f : Expr} {to te tf : TD} {ta : TLD} {apos pos : Pos}
theorem d_dict0 : PE X (.Dict [] [] pos) (lift F (cT (.dic false []))) := by
  refine pe_imp pe_dnewK fun σ H Q ⟨G, ρ, k, r, h, q⟩ => fun p hp => ?_
  have e1 : Ext G H (upd H p (.dK [])) := Ext.new r.bag hp
  exact q _ _ _ h e1 ⟨p, rfl, r.free hp, .inl ⟨[], .inl upd_same, rfl, rfl⟩⟩
theorem d_get {n : Nat} (hr : Room n X.A) (ho : PE X o (lift F to)) (he : PE X e (lift F te)) (hf : PE X f (lift F tf))
    (h1 : attributeBase o "get" X.env (eval o X.env) = eval o X.env := by rfl)
    (h2 : ((backTo pos (starEach [e, f] X.env)).all (fun x => !x.1) && (backToKw pos (keywordEach [] X.env)).all (fun x => x.1.isSome)
    && decide (([e, f] : List Expr).length + ([] : List Keyword).length + (if ([] : List Keyword).isEmpty then 0 else 1) < 30)) = true := by rfl)
    (h3 : (apos.endLine == pos.line) = true := by rfl)
    (h4 : backTo pos (starEach [e, f] X.env) = [(false, eval e X.env), (false, eval f X.env)] := by rfl) :
    PE X (.Call (.Attribute o "get" apos) [e, f] [] pos) (lift F (getT to te tf)) := by
  refine pe_imp (pe_dget2 (by have := u150 hr; omega) ho he hf ⟨h1, h2, h3, h4⟩) fun σ H Q ⟨G, ρ, k, r, h, q⟩ => ⟨G, ρ, _, r, h, fun x v H1 ⟨⟨es, hx⟩, h1⟩ e1 d1 => ?_⟩
  subst hx
  obtain ⟨a, kvs, rfl, n, ha, hp⟩ := dic_K d1
  refine ⟨a, rfl, .inl ⟨kvs, ha⟩, G, ρ, _, r.step e1, h1, fun y u H2 h2 e2 d2 => ?_⟩
  refine ⟨G, ρ, _, (r.step e1).step e2, h2, fun z w H3 h3 e3 d3 => ?_⟩
  have r2 := (r.step e1).step e2
  obtain ⟨j, hj, h3⟩ := h3
  have d1' := (r2.evo e3).dt _ _ (((r.step e1).evo e2).dt _ _ d1)
  obtain ⟨a', kvs', e', n', ha', hp'⟩ := dic_K d1'
  cases e'
  obtain rfl := keyD_kV hj d2
  refine ⟨_, .inl ⟨kvs', j, ha', rfl, rfl⟩, ?_⟩
  have e13 := (e1.trans e2).trans e3
  rcases hp'.val (j := j) with ⟨g1, g2⟩ | ⟨d, v, g1, g2, g3⟩
  · rw [g2]; rw [g1] at h3
    exact q _ _ H3 h3 e13 d3
  · rw [g2]; rw [g1] at h3
    exact q _ _ H3 h3 e13 g3
end

/-! ### repr -/
def reprR : RD
  | [d], k => (d.py.canLay0 = true ∧ d.py.showable = true ∧ d.py.depth ≤ 140 ∧ d.py.shown.length ≤ sizeLine) ∧ k (.str d.py.shown)
  | _, _ => False
def rRepr (K : PySem.W.Frag) : List V → Hp → VK → Prop := fun xs H Q => ∃ x d, xs = [x] ∧ Dp K H x d ∧ d.canLay0 = true ∧ d.showable = true ∧ d.depth ≤ 140 ∧ d.shown.length ≤ sizeLine ∧ Q (.str d.shown) H
theorem cr_repr {X : Cx} {n : Nat} (hr : Room n X.A) (hg : X.A.guards = some []) : CallR X (.builtin "repr") (rRepr X.K) := by
  intro pins s σ H xs us Q I r h
  obtain ⟨x, d, rfl, hd, c, hs, hdp, hz, q⟩ := h
  obtain ⟨u, rfl, rx⟩ := vals1 r
  obtain ⟨as, rd⟩ := Dp.reads I d x u hd rx
  have hu := u150 hr
  have fin : ∀ k, EP X pins σ Q (.str d.shown k) { s with toks := s.toks + 1 } := fun k => ⟨.str d.shown, H, I.tok _, ⟨_, rfl⟩, q⟩
  cases hd with
  | non =>
    obtain rfl : u = .none := rx
    simp only [PyData.shown] at fin
    exact P.repr_of_none (fin _)
  | bl b =>
    obtain rfl : u = .bool b := rx
    simp only [PyData.shown] at fin
    exact P.repr_of_bool (fin _)
  | int i =>
    obtain ⟨t, rfl⟩ := rx
    simp only [PyData.shown] at fin
    exact P.repr_of_int (by simpa [PyData.showable] using hs) (fin _)
  | str z =>
    obtain ⟨t, rfl⟩ := rx
    simp only [PyData.shown] at fin hz
    exact P.repr_of_str (fin _) hz
  | _ =>
    cases rx
    refine repr_of_reads' rd hs (PyData.noDict_hsm (PyData.hasDict_of_canLay _ c)) hg (by omega) (fun _ _ e => e) (fun h' u tk hk => ?_) hz
    exact ⟨.str _, H, I.kept hk, ⟨_, rfl⟩, q⟩
theorem ok_repr {F : Fr} : OkCall F (rRepr F.K) reprR := by
  intro G H ds vs k Q ⟨ob, oi, tr, bg⟩ h hd q
  unfold reprR at h
  split at h
  · obtain ⟨v, rfl, hv⟩ := dl1 hd
    exact ⟨v, _, rfl, Dt.dp _ v h.1.1 hv, h.1.1, h.1.2.1, h.1.2.2.1, h.1.2.2.2, q _ _ _ h.2 (.refl bg) rfl⟩
  · exact h.elim
section
variable {X : Cx} {F : Fr} {p pos : Pos} {e : Expr} {ta : TLD}
theorem d_repr {n : Nat} (hr : Room n X.A) (hgd : X.A.guards = some []) (hg : Gl X "repr") (hm : X.mg "repr" = none) (ha : PA X [e] (liftA F ta)) (he : starEach [e] X.env = (false, eval e X.env) :: starEach [] X.env := by rfl) (hK : X.K = F.K := by rfl) :
    PE X (.Call (.Name "repr" p) [e] [] pos) (lift F (callT reprR ta)) := d_callB (cr_repr hr hgd) (hK ▸ ok_repr) hg hm (by decide +kernel) ha (by decide) (by decide) he
end
end DL

set_option Elab.async false
set_option linter.all false
set_option maxRecDepth 100000
set_option maxHeartbeats 4000000
namespace DL
open PySem PySem.Spec PyProof.Rows L2

/-! ### the bag: its numbers are any that are not below 0 -/
theorem BagOk.apart {H : Hp} {bg bi : Addr} (h : BagOk H bg bi) : bi ≠ bg := by
  obtain ⟨x, y, z, ns, h1, h2, _⟩ := h
  intro e
  rw [e, h1] at h2
  cases ns with
  | nil => cases h2
  | cons a ns =>
    cases ns with
    | nil => cases h2
    | cons b ns =>
      cases ns with
      | nil => cases h2
      | cons c ns =>
        cases ns with
        | nil => cases h2
        | cons d ns => cases h2
theorem BagOk.put {H : Hp} {bg bi : Addr} (h : BagOk H bg bi) {x y z : Int} (hx : 0 ≤ x) (hy : 0 ≤ y) (hz : 0 ≤ z) : BagOk (upd H bg (.lst [.int x, .int y, .int z, .ref bi])) bg bi := by
  have n := h.apart
  obtain ⟨x', y', z', ns, h1, h2, q1, q2, q3, q⟩ := h
  exact ⟨x, y, z, ns, upd_same, by rw [upd_ne n]; exact h2, hx, hy, hz, q⟩
theorem Ext.bagput {G : Gh} {H : Hp} (h : BagOk H G.bg G.bi) {x y z : Int} (hx : 0 ≤ x) (hy : 0 ≤ y) (hz : 0 ≤ z) : Ext G H (upd H G.bg (.lst [.int x, .int y, .int z, .ref G.bi])) :=
  ⟨fun a o n e => by rw [upd_ne n]; exact e, h.put hx hy hz⟩
def bagT (c : Int) (t : TD) : TD := fun ρ k => t ρ fun d => d = .bag ∧ (c = 0 ∨ c = 1 ∨ c = 2) ∧ ∀ x : Int, 0 ≤ x → k (.int x)
def cutBT (t : TD) (l : TO2) : TD := fun ρ k => t ρ fun d => d = .bag ∧ l ρ fun _ => ∀ ns : List Int, (∀ n ∈ ns, 0 ≤ n) → ns.length ≤ 63 → k (.lst (ns.map .int))
def putBT (c : Int) (t u : TD) : TSD := fun k ρ => u ρ fun d => t ρ fun b => b = .bag ∧ (c = 0 ∨ c = 1 ∨ c = 2) ∧ ∃ x : Int, 0 ≤ x ∧ d = .int x ∧ k.nx ρ
def augBT (c : Int) (t u : TD) : TSD := fun k ρ => t ρ fun b => b = .bag ∧ (c = 0 ∨ c = 1 ∨ c = 2) ∧ u ρ fun d => ∃ x : Int, 0 ≤ x ∧ d = .int x ∧ k.nx ρ
theorem bag_at {G : Gh} {H : Hp} {c : Int} (h : BagOk H G.bg G.bi) (hc : c = 0 ∨ c = 1 ∨ c = 2) : ∃ (xs : List V) (x : Int), H G.bg = some (.lst xs) ∧ L2.atI xs c = some (.int x) ∧ xs[c.toNat]? = some (.int x) ∧ 0 ≤ x := by
  obtain ⟨x, y, z, ns, h1, h2, p1, p2, p3, _⟩ := h
  rcases hc with rfl | rfl | rfl
  · exact ⟨_, x, h1, rfl, rfl, p1⟩
  · exact ⟨_, y, h1, rfl, rfl, p2⟩
  · exact ⟨_, z, h1, rfl, rfl, p3⟩
theorem bag_put {G : Gh} {H : Hp} {c w : Int} (h : BagOk H G.bg G.bi) (hc : c = 0 ∨ c = 1 ∨ c = 2) (hw : 0 ≤ w) : ∃ (xs : List V) (j : Nat), H G.bg = some (.lst xs) ∧ ixN xs.length c = some j ∧ Ext G H (upd H G.bg (.lst (xs.set j (.int w)))) := by
  have h' := h
  obtain ⟨x, y, z, ns, h1, h2, p1, p2, p3, _⟩ := h'
  rcases hc with rfl | rfl | rfl
  · exact ⟨_, 0, h1, rfl, Ext.bagput h hw p2 p3⟩
  · exact ⟨_, 1, h1, rfl, Ext.bagput h p1 hw p3⟩
  · exact ⟨_, 2, h1, rfl, Ext.bagput h p1 p2 hw⟩
section
variable {X : Cx} {F : Fr} {b e lo : Expr} {tb te : TD} {tl : TO2} {c : Int} {j j3 : Nat} {pos p2 p3 cpos tpos : Pos}
theorem d_bag (he : PE X b (lift F tb)) (hs : PlainIx (.Constant (.int c) j cpos) := by intro _ _; rfl) (hK : X.K = F.K := by rfl) : PE X (.Subscript b (.Constant (.int c) j cpos) pos) (lift F (bagT c tb)) := by
  refine pe_imp (pe_ix ix_list he pe_int hs) fun σ H Q ⟨G, ρ, k, r, h, q⟩ => ⟨G, ρ, _, r, h, fun d v H1 ⟨hd, hc, h1⟩ e1 d1 => ?_⟩
  subst hd
  obtain rfl := d1
  obtain ⟨xs, x, g1, g2, g3, g4⟩ := bag_at (r.step e1).bag hc
  exact ⟨_, xs, c, _, rfl, rfl, SqL.of g1, g2, q _ _ H1 (h1 x g4) e1 rfl⟩
theorem cut_ints {ns : List Int} {lo hi : Option Int} : ∃ ms : List Int, cutV (ns.map V.int) lo hi = ms.map V.int ∧ (∀ m ∈ ms, m ∈ ns) ∧ ms.length ≤ ns.length := by
  refine ⟨(ns.drop (HT.sIx ns.length 0 lo)).take (HT.sIx ns.length ns.length hi - HT.sIx ns.length 0 lo), ?_, fun m hm => List.mem_of_mem_drop (List.mem_of_mem_take hm), ?_⟩
  · unfold cutV
    rw [List.map_take, List.map_drop, List.length_map]
  · rw [List.length_take, List.length_drop]; omega
theorem d_bagcut (he : PE X b (lift F tb)) (hl : PO X (some lo) (liftO F tl)) (hs : PlainIx (.Constant (.int 3) j3 cpos) := by intro _ _; rfl) (hK : X.K = F.K := by rfl) :
    PE X (.Subscript (.Subscript b (.Constant (.int 3) j3 cpos) p3) (.Slice (some lo) none none p2) pos) (lift F (cutBT tb tl)) := by
  refine pe_imp (pe_slice sl_list (pe_ix ix_list he pe_int hs) hl po_none) fun σ H Q ⟨G, ρ, k, r, h, q⟩ => ⟨G, ρ, _, r, h, fun d v H1 ⟨hd, h1⟩ e1 d1 => ?_⟩
  subst hd
  obtain rfl := d1
  have r1 := r.step e1
  obtain ⟨x, y, z, ns, g1, g2, _⟩ := r1.bag
  refine ⟨_, _, 3, .ref G.bi, rfl, rfl, SqL.of g1, rfl, G, ρ, _, r1, h1, fun o H2 h2 e2 => ?_⟩
  have r2 := r1.step e2
  obtain ⟨x, y, z, ns, g1, g2, p1, p2, p3, p4, p5⟩ := r2.bag
  refine ⟨G.bi, _, rfl, SqL.of g2, fun p hp => ?_⟩
  have e3 : ∀ {o : HO}, Ext G H2 (upd H2 p o) := Ext.new r2.bag hp
  obtain ⟨ms, hm, hin, hle⟩ := cut_ints (ns := ns) (lo := o) (hi := none)
  rw [hm]
  refine q _ _ _ (h2 ms (fun n hn => p4 n (hin n hn)) (by omega)) ((e1.trans e2).trans e3) ⟨p, _, rfl, r2.free hp, upd_same, ?_⟩
  have : ∀ (ms : List Int) (H : Hp), DtL F.K G H (ms.map .int) (ms.map .int) := fun ms H => by
    induction ms with
    | nil => rfl
    | cons a ms ih => exact ⟨.int a, _, rfl, rfl, ih⟩
  exact this _ _
theorem s_bagput {x : Str} {px : Pos} {i : Nat} (he : PE X e (lift F te)) (hN : X.N[i]? = some x := by rfl) (hv : Vis X.env.scope x := by first | exact Or.inl rfl | exact Or.inr (Or.inl rfl) | exact Or.inr (Or.inr rfl)) (hd : (x == ("__debug__" : Str)) = false := by decide)
    (hcd : (x == ("__classdict__" : Str)) = false := by decide)
    (hsub : ∀ v, assign (.Subscript (.Name x px) (.Constant (.int c) j cpos) tpos) X.env v = (do
      let ov ← holding [v] (eval (.Name x px) X.env)
      let iv ← holding [v, ov] (eval (.Constant (.int c) j cpos) X.env)
      standAt tpos
      holding [v, ov, iv] (setItem ov iv v)
      release [v, ov, iv] []) := by intro _; rfl)
    (hs : swapsWithSole [.Subscript (.Name x px) (.Constant (.int c) j cpos) tpos] e pos.line X.env = pure false := by rfl) (hw : swappedStores [.Subscript (.Name x px) (.Constant (.int c) j cpos) tpos] e X.env = pure none := by rfl)
    (h1 : (assignEach [.Subscript (.Name x px) (.Constant (.int c) j cpos) tpos] X.env).map (·.2) = [assign (.Subscript (.Name x px) (.Constant (.int c) j cpos) tpos) X.env] := by rfl) :
    PS X (.Assign [.Subscript (.Name x px) (.Constant (.int c) j cpos) tpos] e pos) (liftS F (putBT c (nameT i) te)) := by
  refine ps_imp (ps_asg he (pg_sub (d_name (F := F) i hN hv hd hcd) pe_int set_list hsub) hs hw h1) fun E σ H ⟨G, ρ, k, r, h, o⟩ => ?_
  refine ⟨G, ρ, _, r, h, fun d v H1 h1 x1 d1 => ?_⟩
  have r1 := r.step x1
  refine ⟨G, ρ, _, r1, h1, fun b u H2 ⟨hb, hc, w, hw, hdw, hk⟩ x2 d2 => ?_⟩
  subst hb hdw
  obtain rfl := d2
  obtain rfl := d1
  have r2 := r1.step x2
  obtain ⟨xs, n, g1, g2, g3⟩ := bag_put r2.bag hc hw
  exact ⟨_, xs, c, n, rfl, rfl, g1, g2, o.nx _ G σ _ hk (r2.step g3)⟩
def rGetL0 : V → V → Hp → VK → Prop := fun o i H Q => ∃ p xs k v, o = .ref p ∧ i = .int k ∧ 0 ≤ k ∧ k < 2 ^ 63 ∧ H p = some (.lst xs) ∧ xs[k.toNat]? = some v ∧ Q v H
theorem get_list0 : PGet X rGetL0 := by
  intro pins s σ H o i ov iv Q I ro ri h
  obtain ⟨p, xs, k, v, rfl, rfl, h0, h1, hp, hx, q⟩ := h
  cases ro
  obtain ⟨t, rfl⟩ := ri
  obtain ⟨its, r, pl, hz⟩ := I.list (SqL.of hp)
  obtain ⟨w, ew, rw'⟩ := r.get hx
  exact wpAny_getItem_list pl.isList h0 h1 (by simpa using ew) ⟨v, H, I, rw', q⟩
theorem s_bagaug {x : Str} {px : Pos} {i : Nat} (he : PE X e (lift F (cT (.int 1)))) (hN : X.N[i]? = some x := by rfl) (hv : Vis X.env.scope x := by first | exact Or.inl rfl | exact Or.inr (Or.inl rfl) | exact Or.inr (Or.inr rfl)) (hd : (x == ("__debug__" : Str)) = false := by decide)
    (hcd : (x == ("__classdict__" : Str)) = false := by decide)
    (ha : ∀ ov iv new, augStore (.Constant (.int c) j cpos) ov iv new = (do holding [new, ov, iv] (setItem ov iv new); release [new, ov, iv] []; pure .next) := by intros; rfl) :
    PS X (.AugAssign (.Subscript (.Name x px) (.Constant (.int c) j cpos) tpos) .Add e pos) (liftS F (augBT c (nameT i) (cT (.int 1)))) := by
  refine ps_imp (ps_augS (d_name (F := F) i hN hv hd hcd) pe_int get_list0 he ip_add set_list ha) fun E σ H ⟨G, ρ, k, r, h, o⟩ => ?_
  refine ⟨G, ρ, _, r, h, fun b u H1 ⟨hb, hc, hk⟩ x1 d1 => ?_⟩
  subst hb
  obtain rfl := d1
  obtain ⟨w, hw, hdw, hk⟩ := hk
  cases hdw
  have r1 := r.step x1
  obtain ⟨xs, x, g1, g2, g3, g4⟩ := bag_at r1.bag hc
  refine ⟨_, xs, c, _, rfl, rfl, by omega, by omega, g1, g3, G, ρ, fun d => d = .int 1, r1, rfl, fun d v H2 hd1 x2 d2 => ?_⟩
  subst hd1
  obtain rfl := d2
  have r2 := r1.step x2
  obtain ⟨ys, n, f1, f2, f3⟩ := bag_put r2.bag hc (w := x + 1) (by omega)
  exact ⟨x, 1, rfl, rfl, _, ys, c, n, rfl, rfl, f1, f2, o.nx _ G σ _ hk (r2.step f3)⟩
end
end DL

set_option Elab.async false
set_option linter.all false
set_option maxRecDepth 100000
set_option maxHeartbeats 4000000
namespace DL
open PySem PySem.Spec PyProof.Rows L2

def negT (t : TD) : TD := fun ρ k => t ρ fun d => match d with
  | .int i => k (.int (-i))
  | _ => False
section
variable {X : Cx} {F : Fr} {a : Expr} {ta : TD} {pos : Pos}
theorem d_neg (ha : PE X a (lift F ta)) : PE X (.UnaryOp .USub a pos) (lift F (negT ta)) := by
  refine pe_imp (pe_un un_neg ha) fun σ H Q ⟨G, ρ, k, r, h, q⟩ => ⟨G, ρ, _, r, h, fun d v H1 h1 e1 d1 => ?_⟩
  cases d <;> try exact (show False from h1).elim
  obtain rfl := d1
  exact ⟨_, rfl, q _ _ H1 h1 e1 rfl⟩
end
/-- a, b = e, stored from the left -/
def tgtT (t : Tg) (u : TD) : TSD := fun k ρ => u ρ fun d => tgD t d ρ k.nx
section
variable {X : Cx} {F : Fr} {tg e : Expr} {te : TD} {pos : Pos}
theorem s_tgt (t : Tg) (he : PE X e (lift F te)) (hg : PG X tg (gOf X.K t)) (hs : swapsWithSole [tg] e pos.line X.env = pure false := by rfl) (hw : swappedStores [tg] e X.env = pure none := by rfl)
    (h1 : (assignEach [tg] X.env).map (·.2) = [assign tg X.env] := by rfl) (hK : X.K = F.K := by rfl) : PS X (.Assign [tg] e pos) (liftS F (tgtT t te)) :=
  ps_imp (ps_asg he hg hs hw h1) fun E σ H ⟨G, ρ, k, r, h, o⟩ => ⟨G, ρ, _, r, h, fun d v H1 h1 e1 d1 => gOf_ok (F := F) hK (r.step e1) d1 h1 fun ρ' vs hk r' => o.nx ρ' G _ H1 hk r'⟩
end
/-- all that is asked of a def to call it, where nothing of the frame is told -/
structure CalP (P : Program) (w : World) (K : PySem.W.Frag) (mg : Str → Option Value) (base : Heap) (n : Nat) (x : Str) (R : RD) : Prop where
  ex : ∃ (f : Addr) (fd : FuncData) (ps : List Str) (k : Nat), k ≤ n ∧ FnG P w K mg base CX0 k f fd ps (spD K R) ∧ mg x = some (.ref f) ∧ PySem.W.keepIn K (.ref f) = true ∧ Binds K fd ps []
section
variable {P : Program} {w : World} {K : PySem.W.Frag} {mg : Str → Option Value} {base : Heap} {n m : Nat} {x : Str} {R R' : RD}
theorem FnG.never {f : Addr} {fd : FuncData} {ps : List Str} (h : ∀ ds k, ¬ R ds k) : FnG P w K mg base CX0 n f fd ps (spD K R) :=
  ⟨fun vs H Q E q => by obtain ⟨_, ds, k, _, _, z, _⟩ := q; exact absurd z (h ds k), fun A outer s H args us vs Q E _ _ _ _ _ q => by obtain ⟨_, ds, k, _, _, z, _⟩ := q; exact absurd z (h ds k)⟩
theorem CalP.mono (c : CalP P w K mg base n x R) (h : n ≤ m) : CalP P w K mg base m x R := by
  obtain ⟨f, fd, ps, k, hk, r⟩ := c.ex
  exact ⟨f, fd, ps, k, Nat.le_trans hk h, r⟩
theorem CalP.imp (c : CalP P w K mg base n x R) (h : ∀ ds k, R' ds k → R ds k) : CalP P w K mg base n x R' := by
  obtain ⟨f, fd, ps, k, hk, fn, r⟩ := c.ex
  refine ⟨f, fd, ps, k, hk, fn.imp fun vs H Q E q => ?_, r⟩
  obtain ⟨G, ds, κ, a, b, c, d⟩ := q
  exact ⟨G, ds, κ, a, b, h _ _ c, d⟩
theorem CalP.of {f : Addr} {fd : FuncData} {ps : List Str} {q : Str} {st : Stmt} (fn : FnG P w K mg base CX0 n f fd ps (spD K R)) (hm : mg x = some (.ref f)) (F : Fun K x q st f fd) (hb : Binds K fd ps []) : CalP P w K mg base n x R := ⟨f, fd, ps, n, Nat.le_refl _, fn, hm, F.kp, hb⟩
end
end DL

set_option Elab.async false
set_option linter.all false
set_option maxRecDepth 100000
set_option maxHeartbeats 4000000
namespace DL
open PySem PySem.Spec PyProof.Rows L2

/-! ### the operations, told one by one -/
section
variable {i j : Int} {a b : Bool} {x y : Str} {d e : D} {ds es : List D} {k : D → Prop} {kb : Bool → Prop} {lo hi : Option Int}
theorem addD_ii : addD (.int i) (.int j) k = k (.int (i + j)) := rfl
theorem addD_ib : addD (.int i) (.bl b) k = k (.int (i + PyProof.Rows.b2i b)) := rfl
theorem addD_ss : addD (.str x) (.str y) k = (x.length + y.length ≤ sizeLine ∧ k (.str (x ++ y))) := rfl
theorem addD_ll : addD (.lst ds) (.lst es) k = (ds.length + es.length ≤ sizeLine ∧ k (.lst (ds ++ es))) := rfl
theorem addD_tt : addD (.tup ds) (.tup es) k = (ds.length + es.length ≤ sizeLine ∧ k (.tup (ds ++ es))) := rfl
theorem subD_ii : subD (.int i) (.int j) k = k (.int (i - j)) := rfl
theorem mulD_ii : mulD (.int i) (.int j) k = (CMul i j ∧ k (.int (i * j))) := rfl
theorem mulD_li : mulD (.lst ds) (.int j) k = ((-(2 ^ 63) ≤ j ∧ j < 2 ^ 63) ∧ ds.length * j.toNat ≤ sizeLine ∧ k (.lst (List.replicate j.toNat ds).flatten)) := rfl
theorem fdivD_ii : fdivD (.int i) (.int j) k = (CDiv i j ∧ k (.int (i / j))) := rfl
theorem modD_ii : modD (.int i) (.int j) k = (0 < j ∧ k (.int (i % j))) := rfl
theorem cmpI_ii {f : Int → Int → Bool} : cmpI f (.int i) (.int j) k = k (.bl (f i j)) := rfl
theorem eqB_ss : eqB (.str x) (.str y) kb = kb (decide (x = y)) := rfl
theorem eqB_ii : eqB (.int i) (.int j) kb = kb (decide (i = j)) := rfl
theorem eqB_bb : eqB (.bl a) (.bl b) kb = kb (decide (a = b)) := rfl
theorem eqB_tt : eqB (.tup ds) (.tup es) kb = (eqOk (.tup ds) (.tup es) ∧ kb (PyData.eqv (D.tup ds).py (D.tup es).py)) := rfl
theorem eqB_ll : eqB (.lst ds) (.lst es) kb = (eqOk (.lst ds) (.lst es) ∧ kb (PyData.eqv (D.lst ds).py (D.lst es).py)) := rfl
theorem inB_l : inB d (.lst es) kb = (inOk d es ∧ kb (es.any fun z => PyData.eqv z.py d.py)) := rfl
theorem inB_t : inB d (.tup es) kb = (inOk d es ∧ kb (es.any fun z => PyData.eqv z.py d.py)) := rfl
theorem ixD_l : ixD (.lst ds) (.int i) k = optK (L2.atI ds i) k := rfl
theorem ixD_t : ixD (.tup ds) (.int i) k = optK (L2.atI ds i) k := rfl
theorem ixD_s : ixD (.str x) (.int i) k = (x.length ≤ sizeLine ∧ optK (L2.atI x.cps.toList i) fun c => k (.str ⟨#[c]⟩)) := rfl
theorem slD_l : slD (.lst ds) lo hi k = k (.lst (cutL ds lo hi)) := rfl
theorem slD_t : slD (.tup ds) lo hi k = k (.tup (cutL ds lo hi)) := rfl
theorem truD_b : truD (.bl b) kb = kb b := rfl
theorem truD_i : truD (.int i) kb = kb (i != 0) := rfl
theorem truD_n : truD .non kb = kb false := rfl
theorem truD_s : truD (.str x) kb = (x.length ≤ sizeLine ∧ kb ((x.length : Int) != 0)) := rfl
theorem truD_l : truD (.lst ds) kb = kb (!ds.isEmpty) := rfl
theorem truD_t : truD (.tup ds) kb = kb (!ds.isEmpty) := rfl
theorem intR_i : intR [.int i] k = k (.int i) := rfl
theorem intR_b : intR [.bl b] k = k (.int (if b then 1 else 0)) := rfl
theorem lenR_s : lenR [.str x] k = (x.length ≤ sizeLine ∧ k (.int x.length)) := rfl
theorem lenR_l : lenR [.lst ds] k = k (.int ds.length) := rfl
theorem lenR_t : lenR [.tup ds] k = k (.int ds.length) := rfl
theorem absR_i : absR [.int i] k = k (.int (if i < 0 then -i else i)) := rfl
theorem minR_ii : minR [.int i, .int j] k = k (.int (if j < i then j else i)) := rfl
theorem maxR_ii : maxR [.int i, .int j] k = k (.int (if j > i then j else i)) := rfl
theorem tupR_l : tupR [.lst ds] k = k (.tup ds) := rfl
theorem tupR_t : tupR [.tup ds] k = k (.tup ds) := rfl
theorem appD_1 {kl : List D → Prop} : appD ds [d] kl = (ds.length < sizeLine ∧ kl (ds ++ [d])) := rfl
theorem insD_1 {kl : List D → Prop} : insD ds [.int j, d] kl = (ds.length < sizeLine ∧ 0 ≤ j ∧ j < 2 ^ 63 ∧ kl (ds.take j.toNat ++ [d] ++ ds.drop j.toNat)) := rfl
theorem extD_1 {kl : List D → Prop} : extD ds [.lst es] kl = (ds.length + es.length ≤ sizeLine ∧ kl (ds ++ es)) := rfl
theorem splitM_1 : splitM (.str x) [.str y] k = (((y.length == 0) = false ∧ x.length + 2 ≤ sizeLine) ∧ k (.lst ((Txt.split x y).map .str))) := rfl
theorem optK_some {α : Type} {c : α} {k : α → Prop} : optK (some c) k = k c := propext ⟨fun ⟨_, e, h⟩ => by cases e; exact h, fun h => ⟨_, rfl, h⟩⟩
theorem optK_of {α : Type} {o : Option α} {c : α} {k : α → Prop} (h : o = some c) (hk : k c) : optK o k := ⟨c, h, hk⟩
theorem atI_0 {α : Type} {a : α} {l : List α} : L2.atI (a :: l) 0 = some a := L2.atI_nat (j := 0) rfl
theorem atI_1 {α : Type} {a b : α} {l : List α} : L2.atI (a :: b :: l) 1 = some b := L2.atI_nat (j := 1) rfl
theorem atI_2 {α : Type} {a b c : α} {l : List α} : L2.atI (a :: b :: c :: l) 2 = some c := L2.atI_nat (j := 2) rfl
theorem atI_3 {α : Type} {a b c d : α} {l : List α} : L2.atI (a :: b :: c :: d :: l) 3 = some d := L2.atI_nat (j := 3) rfl
theorem atI_4 {α : Type} {a b c d e : α} {l : List α} : L2.atI (a :: b :: c :: d :: e :: l) 4 = some e := L2.atI_nat (j := 4) rfl
theorem atI_lt {α : Type} {l : List α} {i : Int} (h0 : 0 ≤ i) (h : i < l.length) : ∃ c, L2.atI l i = some c ∧ l[i.toNat]? = some c := by
  have hl : i.toNat < l.length := by omega
  refine ⟨l[i.toNat], ?_, List.getElem?_eq_getElem hl⟩
  have e := L2.atI_nat (List.getElem?_eq_getElem hl)
  rwa [Int.toNat_of_nonneg h0] at e
theorem cutL_from {α : Type} {l : List α} {n : Nat} : cutL l (some (n : Int)) none = l.drop n := by
  unfold cutL
  rw [HT.sIx_nat, HT.sIx_none]
  by_cases h : n ≤ l.length
  · rw [Nat.min_eq_left h, List.take_of_length_le (by rw [List.length_drop]; exact Nat.le_refl _)]
  · rw [Nat.min_eq_right (by omega), List.drop_length, List.drop_of_length_le (by omega)]; simp
theorem cutL_to {α : Type} {l : List α} {n : Nat} : cutL l none (some (n : Int)) = l.take n := by
  unfold cutL
  rw [HT.sIx_nat, HT.sIx_none, List.drop_zero, Nat.sub_zero]
  by_cases h : n ≤ l.length
  · rw [Nat.min_eq_left h]
  · rw [Nat.min_eq_right (by omega), List.take_length, List.take_of_length_le (by omega)]
theorem cutL_1 {α : Type} {l : List α} : cutL l (some 1) none = l.drop 1 := cutL_from (n := 1)
theorem cutL_2 {α : Type} {l : List α} : cutL l (some 2) none = l.drop 2 := cutL_from (n := 2)
theorem cutL_t1 {α : Type} {l : List α} : cutL l none (some 1) = l.take 1 := cutL_to (n := 1)
theorem cutL_t2 {α : Type} {l : List α} : cutL l none (some 2) = l.take 2 := cutL_to (n := 2)
theorem cutL_r {α : Type} {l : List α} {n m : Nat} : cutL l (some (n : Int)) (some (m : Int)) = (l.drop n).take (m - n) := by
  unfold cutL
  rw [HT.sIx_nat, HT.sIx_nat]
  by_cases h : n ≤ l.length
  · rw [Nat.min_eq_left h]
    by_cases h2 : m ≤ l.length
    · rw [Nat.min_eq_left h2]
    · rw [Nat.min_eq_right (by omega : l.length ≤ m), List.take_of_length_le (i := l.length - n) (by simp), List.take_of_length_le (by simp; omega)]
  · rw [Nat.min_eq_right (by omega : l.length ≤ n), List.drop_length, List.drop_of_length_le (by omega : l.length ≤ n)]; simp
end
inductive All2 (R : D → D → Prop) : List D → List D → Prop
  | nil : All2 R [] []
  | cons {a b : D} {as bs : List D} : R a b → All2 R as bs → All2 R (a :: as) (b :: bs)
theorem All2.len {R : D → D → Prop} {as bs : List D} (h : All2 R as bs) : bs.length = as.length := by
  induction h with
  | nil => rfl
  | cons _ _ ih => simp [ih]
theorem All2.out {R : D → D → Prop} {as bs : List D} (h : All2 R as bs) : ∀ b ∈ bs, ∃ a ∈ as, R a b := by
  induction h with
  | nil => intro b hb; cases hb
  | cons hr _ ih =>
    intro b hb
    rcases List.mem_cons.mp hb with rfl | hb
    · exact ⟨_, List.mem_cons_self, hr⟩
    · obtain ⟨a, ha, r⟩ := ih b hb
      exact ⟨a, List.mem_cons_of_mem _ ha, r⟩
theorem All2.map {f : D → D} {as bs : List D} (h : All2 (fun a b => b = f a) as bs) : bs = as.map f := by
  induction h with
  | nil => rfl
  | cons hr _ ih => rw [hr, ih]; rfl
/-! ### comprehensions, loops -/
theorem compT_ind {t : Tg} {te : TD} {ρ : List Sl} {R : D → D → Prop} {k : List D → Prop} : ∀ {ds acc : List D}, (∀ d ∈ ds, ∀ κ : D → Prop, (∀ e, R d e → κ e) → tgD t d ρ fun ρ1 => te ρ1 κ) → (∀ es, All2 R ds es → k (acc ++ es)) → compT t yesT te ρ ds acc k
  | [], acc, _, hk => by
    have h := hk [] .nil
    rw [List.append_nil] at h
    exact h
  | d :: ds, acc, hd, hk => by
    have mono : ∀ {P Q : List Sl → Prop}, (∀ ρ, P ρ → Q ρ) → tgD t d ρ P → tgD t d ρ Q := fun {P Q} f h => by
      cases t with
      | nm i => exact f _ h
      | tp is => cases d <;> first | exact h.elim | exact ⟨h.1, f _ h.2⟩
    show tgD t d ρ fun ρ1 => te ρ1 fun e => compT t yesT te ρ ds (acc ++ [e]) k
    refine hd d List.mem_cons_self _ fun e he => ?_
    refine compT_ind (fun d' h' => hd d' (List.mem_cons_of_mem _ h')) fun es h => ?_
    rw [List.append_assoc]
    exact hk (e :: es) (.cons he h)
theorem loopT_ind {t : Tg} {S : TSD} {k : DE} (I : List D → List Sl → Prop) (hn : ∀ ρ, I [] ρ → k.nx ρ)
    (hs : ∀ d ds ρ (N : List Sl → Prop), (∀ ρ', I ds ρ' → N ρ') → I (d :: ds) ρ → tgD t d ρ fun ρ1 => S { nx := N, rt := k.rt, bk := k.nx, ct := N } ρ1) : ∀ {ds : List D} {ρ : List Sl}, I ds ρ → loopT t S k ds ρ
  | [], ρ, h => hn ρ h
  | d :: ds, ρ, h => hs d ds ρ _ (fun ρ' h' => loopT_ind I hn hs h') h
end DL

set_option Elab.async false
set_option linter.all false
set_option maxRecDepth 100000
set_option maxHeartbeats 4000000
namespace DL
open PySem PySem.Spec L2

/-! ### the bag is made -/
def bagQ (K : PySem.W.Frag) (c : Int) (H : Hp) (Q : VK) : Prop := ∀ (p L : Addr) (H' : Hp) (ms : List Int), (∀ b o, H b = some o → H' b = some o) → H p = none → H L = none → H' p = some (.lst [.int 0, .int c, .int 0, .ref L]) → H' L = some (.lst (ms.map V.int)) →
  (∀ m ∈ ms, 0 ≤ m) → ms.length ≤ 63 → Q (.ref p) H'
def spBag (K : PySem.W.Frag) (c : Int) : Sp := fun vs H Q _ => ∃ (a : Addr) (ns : List Int), vs = [.ref a] ∧ SqL K H a (ns.map V.int) ∧ ns.length ≤ 63 ∧ bagQ K c H Q
def rAbsI : List V → Hp → VK → Prop := fun xs H Q => ∃ i, xs = [.int i] ∧ Q (.int (if i < 0 then -i else i)) H
theorem SqL.kp {K : PySem.W.Frag} {H H' : Hp} {a : Addr} {xs : List V} (k : ∀ o, H a = some o → H' a = some o) (h : SqL K H a xs) : SqL K H' a xs := by
  rcases h with h | h
  · exact .inl (Rd.kp k h)
  · exact .inr h
theorem bag_te {K : PySem.W.Frag} {c : Int} {σ : L2.St} {H : Hp} {Q : VK} {a : Addr} {ns : List Int} (h0 : σ[0]? = some (some (.ref a))) (h2 : σ.length = 2) (hs : SqL K H a (ns.map V.int)) (hl : ns.length ≤ 63) (hq : bagQ K c H Q) :
    tLst (tCons (tC (.int 0)) (tCons (tC (.int c)) (tCons (tC (.int 0)) (tCons (tLc (iList K (tSl (rSlL K) (tVar 0) tNoPart (tPart (tC (.int 63))))) (gName 1) tYes (tCB rAbsI (tCons (tVar 1) tNil)) [1]) tNil)))) σ H Q := by
  have hsl : sizeLine = 16777216 := sizeLine_eq
  obtain ⟨ms, hm, hin, hle⟩ := cut_ints (ns := ns) (lo := none) (hi := some 63)
  refine ⟨_, h0, 63, rfl, a, _, rfl, hs, fun q hq1 => ⟨q, rfl, ⟨_, SqL.of upd_same⟩, ?_⟩⟩
  rw [hm]
  intro D hD
  have qD : D ≠ q := fun e => by rw [e, upd_same] at hD; cases hD
  have HD : H D = none := by rw [upd_ne qD] at hD; exact hD
  let ab : Int → Int := fun i => if i < 0 then -i else i
  refine ⟨fun i m H' => m = ms.length - i ∧ i ≤ ms.length ∧ (∀ b o, b ≠ D → H b = some o → H' b = some o) ∧ H' q = some (.lst (ms.map V.int)) ∧ H' D = some (.lst ((ms.take i).map fun i => V.int (ab i))), ⟨_, rfl, Nat.zero_le _, fun b o n e => ?_, ?_, upd_same⟩, ?_⟩
  · rw [upd_ne n, upd_ne (ne_of_none e hq1)]; exact e
  · rw [upd_ne (Ne.symm qD), upd_same]
  · rintro i m H' ⟨rfl, hi, kp, hq', hD'⟩
    by_cases hlt : i < ms.length
    · refine .inr ⟨⟨_, .int ms[i], SqL.of hq', by rw [List.getElem?_map, List.getElem?_eq_getElem hlt]; rfl⟩, fun H' => i + 1 ≤ ms.length ∧ (∀ b o, b ≠ D → H b = some o → H' b = some o) ∧ H' q = some (.lst (ms.map V.int)) ∧ H' D = some (.lst ((ms.take (i + 1)).map fun i => V.int (ab i))), fun H' ⟨h1, h2⟩ => ⟨_, by omega, rfl, h1, h2⟩, fun x H2 ⟨e, y⟩ => ?_⟩
      subst e
      have hx := y _ (SqL.of hq')
      rw [List.getElem?_map, List.getElem?_eq_getElem hlt] at hx
      obtain rfl : V.int ms[i] = x := Option.some.inj hx
      refine ⟨by simp [wipe], ?_⟩
      change tCB rAbsI (tCons (tVar 1) tNil) _ _ _
      refine ⟨_, by simp [wipe, h2], ms[i], rfl, _, hD', by rw [List.length_map, List.length_take]; omega, by omega, fun b o n e => ?_, ?_, ?_⟩
      · rw [upd_ne n]; exact kp b o n e
      · rw [upd_ne (Ne.symm qD)]; exact hq'
      · rw [upd_same, List.take_succ_eq_append_getElem hlt, List.map_append]; rfl
    · have e : i = ms.length := by omega
      subst e
      rw [List.take_length] at hD'
      refine .inl ⟨⟨_, SqL.of hq', by rw [List.length_map]; exact Nat.le_refl _⟩, by show 4 ≤ sizeLine; omega, fun p hp => ?_⟩
      have np : p ≠ D := fun e => by rw [e, hD'] at hp; cases hp
      have Hp0 : H p = none := by
        cases z : H p with
        | none => rfl
        | some o => rw [kp p o np z] at hp; cases hp
      refine hq p D _ (ms.map ab) (fun b o e => ?_) Hp0 HD upd_same ?_ (fun m hm' => ?_) (by rw [List.length_map]; omega)
      · have nb : b ≠ D := ne_of_none e HD
        rw [upd_ne (ne_of_none (kp b o nb e) hp)]; exact kp b o nb e
      · rw [upd_ne (Ne.symm np), hD', List.map_map]; rfl
      · obtain ⟨z, _, rfl⟩ := List.mem_map.mp hm'
        show 0 ≤ (if z < 0 then -z else z)
        split <;> omega
theorem Fun.okBag {P : Program} {w : World} {K : PySem.W.Frag} {mg : Str → Option Value} {base : Heap} {x y z qual : Str} {st : Stmt} {f : Addr} {fd : FuncData} {k : Nat} {c : Int} (Fn : Fun K x qual st f fd) (S : FnScope [y, z] [y] (defScope st))
    (hb : ∃ T : TS, (∀ (cdv : Value) (A : Around) (outer : List Env) (s : Shared) (H : Hp) (E : XK), PSs (cxOf CX0 P w K mg base [y, z] qual (defScope st) f cdv A outer s H E).nox (defBody st) T) ∧
      ∀ D σ H, (tRet (tLst (tCons (tC (.int 0)) (tCons (tC (.int c)) (tCons (tC (.int 0)) (tCons (tLc (iList K (tSl (rSlL K) (tVar 0) tNoPart (tPart (tC (.int 63))))) (gName 1) tYes (tCB rAbsI (tCons (tVar 1) tNil)) [1]) tNil)))))) D σ H → T D σ H) : FnG P w K mg base CX0 (k + 1) f fd [y] (spBag K c) := by
  obtain ⟨oc, od, kV, doc, pm, an, cdv, ct, osl, rfl, lk, hcd⟩ := Fn.ex
  obtain ⟨T, hb, hT⟩ := hb
  refine fnG_of lk hcd S (fun vs H Q E h => ?_) fun A outer s H vs Q E hr hg h => ?_
  · obtain ⟨a, ns, rfl, _⟩ := h; rfl
  · obtain ⟨a, ns, rfl, hs, hl, hq⟩ := h
    exact ⟨_, (hb cdv A outer s H E).nox, hT _ _ _ (bag_te rfl rfl hs hl hq)⟩
/-- what is needed of the def that makes the bag -/
structure BagP (P : Program) (w : World) (K : PySem.W.Frag) (mg : Str → Option Value) (base : Heap) (n : Nat) (x : Str) : Prop where
  ex : ∃ (f : Addr) (fd : FuncData) (ps : List Str) (k : Nat) (c : Int), 0 ≤ c ∧ k ≤ n ∧ FnG P w K mg base CX0 k f fd ps (spBag K c) ∧ mg x = some (.ref f) ∧ PySem.W.keepIn K (.ref f) = true ∧ Binds K fd ps []
def bagS (K : PySem.W.Frag) : TS := fun E σ H => ∃ (a : Addr) (ns : List Int), σ[0]? = some (some (.ref a)) ∧ SqL K H a (ns.map V.int) ∧ ns.length ≤ 63 ∧ ∀ c : Int, 0 ≤ c → bagQ K c H fun v H' => E.nx (σ.set 1 (some v)) H'
theorem s_bag0 {X : Cx} {n : Nat} {f x y : Str} {px py pf ep pos : Pos} (b : BagP X.prog X.w X.K X.mg X.base n f) (hr : Room n X.A) (hgd : X.A.guards = some []) (hN : X.N.Nodup) (hi : X.N[1]? = some x) (hx : Loc X.env.scope x) (hy : X.N[0]? = some y) (hg : Gl X f)
    (hv : Vis X.env.scope y := by first | exact Or.inl rfl | exact Or.inr (Or.inl rfl) | exact Or.inr (Or.inr rfl)) (hd : (y == ("__debug__" : Str)) = false := by decide) (hcd : (y == ("__classdict__" : Str)) = false := by decide)
    (hdb : (f == ("__debug__" : Str)) = false := by decide) (he : starEach [.Name y py] X.env = (false, eval (.Name y py) X.env) :: starEach [] X.env := by rfl) (hpl : (backTo ep (starEach [] X.env)).any (·.1) = false := by rfl)
    (hs : swapsWith (.Call (.Name f pf) [.Name y py] [] ep) (some (.Name x px)) pos.line X.env = pure false := by rfl) (hf : X.fn x = true ∨ X.env.scope.names.lookup x = some .local := by first | exact .inl rfl | exact .inr rfl | assumption) :
    PS X (.Assign [.Name x px] (.Call (.Name f pf) [.Name y py] [] ep) pos) (bagS X.K) := by
  obtain ⟨fa, fd, ps, k, c, hc, hk, fn, hm, hkp, hb⟩ := b.ex
  have hp := ps_set hN hi hx (peG_call (E := E0) fn (hr.mono hk) hgd hg hm hkp hb .nil pass0 (pa_cons (pe_var hy hv hd hcd) pa_nil he) hdb he hpl) hs hf
  exact ps_imp hp fun D σ H ⟨a, ns, h0, hs, hl, hq⟩ => ⟨_, h0, a, ns, rfl, hs, hl, hq c hc⟩
/-! ### the law's def: a bag, then data -/
def spLaw (K : PySem.W.Frag) : Sp := fun vs H Q _ => ∃ (a : Addr) (ns : List Int), vs = [.ref a] ∧ SqL K H a (ns.map V.int) ∧ ns.length ≤ 63 ∧ ∀ H', Q (.bl true) H'
def endLaw : DE := ⟨fun _ => False, fun d => d = .bl true, fun _ => False, fun _ => False⟩
theorem Fun.okLaw {P : Program} {w : World} {K : PySem.W.Frag} {mg : Str → Option Value} {base : Heap} {x y qual : Str} {st st1 : Stmt} {rest : List Stmt} {f : Addr} {fd : FuncData} {N : List Str} {k n : Nat} (Fn : Fun K x qual st f fd) (S : FnScope N [y] (defScope st)) (hn : N.length = n + 2) (hbody : defBody st = st1 :: rest)
    (hb : ∃ T : TSD, (∀ (cdv : Value) (A : Around) (outer : List Env) (s : Shared) (H : Hp) (E : XK), Room k (A.deeper (PyProof.Rows.envOfC qual (defScope st) s.heap.objs.size f cdv)) → A.guards = some [] →
      PS (cxOf CX0 P w K mg base N qual (defScope st) f cdv A outer s H E).nox st1 (bagS K) ∧ ∀ (G : Gh) (H' : Hp) (pn : List (V × D)), PSs (cxOf CX0 P w K mg base N qual (defScope st) f cdv A outer s H E).nox rest (liftS ⟨K, G, H', pn⟩ T)) ∧
      T endLaw (.un :: .dat .bag :: List.replicate n .un)) : FnG P w K mg base CX0 (k + 1) f fd [y] (spLaw K) := by
  obtain ⟨oc, od, kV, doc, pm, an, cdv, ct, osl, rfl, lk, hcd⟩ := Fn.ex
  obtain ⟨T, hb, hT⟩ := hb
  refine fnG_of lk hcd S (fun vs H Q E h => ?_) fun A outer s H vs Q E hr hg h => ?_
  · obtain ⟨a, ns, rfl, _⟩ := h; rfl
  · obtain ⟨a, ns, rfl, hs, hl, hq⟩ := h
    obtain ⟨h1, h2⟩ := hb cdv A outer s H E hr hg
    have h2' : PSs (cxOf CX0 P w K mg base N qual (defScope st) f cdv A outer s H E).nox rest (fun E σ H => ∃ F : Fr, F.K = K ∧ liftS F T E σ H) := ⟨fun pins s σ H E I ⟨⟨_, G, H', pn⟩, e, w⟩ => by
      cases e
      exact (h2 G H' pn).run pins s σ H E I w⟩
    refine ⟨_, hbody ▸ (pss_cons h1 h2').nox, ?_⟩
    have e0 : L2.start N [V.ref a] = some (.ref a) :: none :: List.replicate n none := by
      unfold L2.start
      rw [hn]
      rfl
    rw [e0]
    refine ⟨a, ns, rfl, hs, hl, fun c hc p L H' ms kp hp hL hp' hL' h0 h63 => ?_⟩
    have np : p ≠ L := fun e => by
      subst e
      rw [hp'] at hL'
      cases ms with
      | nil => cases hL'
      | cons a ms =>
        cases ms with
        | nil => cases hL'
        | cons b ms =>
          cases ms with
          | nil => cases hL'
          | cons c ms =>
            cases ms with
            | nil => cases hL'
            | cons d ms => cases hL'
    let G : Gh := ⟨p, L, fun b => b = p ∨ b = L⟩
    have bag : BagOk H' p L := ⟨0, c, 0, ms, hp', hL', by omega, hc, by omega, h0, h63⟩
    have tr : ∀ a, G.own a → Mut (H' a) := fun a z => by
      rcases z with rfl | rfl
      · rw [hp']; exact True.intro
      · rw [hL']; exact True.intro
    refine ⟨⟨K, G, H', []⟩, rfl, G, .un :: .dat .bag :: List.replicate n .un, endLaw, ⟨rfl, rfl, .inl rfl, .inr rfl, fun _ z => z, fun a z n => absurd z n, tr, .refl bag, (fun _ z => nomatch z), ?_, fun i j s t q e1 e2 m1 m2 _ _ => ?_⟩, hT,
      ⟨fun _ _ _ _ z _ => z.elim, fun d v H2 hd x hv => ?_, fun _ _ _ _ z _ => z.elim, fun _ _ _ _ z _ => z.elim⟩⟩
    · exact ⟨_, _, rfl, True.intro, some (.ref p), _, rfl, ⟨.ref p, rfl, rfl⟩, slots_un n⟩
    · have m := List.mem_of_getElem? e1
      rcases List.mem_cons.mp m with rfl | m
      · cases m1
      · rcases List.mem_cons.mp m with rfl | m
        · cases m1
        · obtain rfl := (List.mem_replicate.mp m).2
          cases m1
    · have hd' : d = .bl true := hd
      subst hd'
      obtain rfl : v = .bl true := hv
      exact hq H2
end DL

set_option Elab.async false
set_option linter.all false
set_option maxRecDepth 100000
set_option maxHeartbeats 4000000
namespace DL
open PySem PySem.Spec PyProof.Rows L2

/-- the heap behind the top as an abstract one: the script alone is tracked, where it is no object of the module -/
def scriptH (K : PySem.W.Frag) (a : Addr) (ob : Obj) (ns : List Int) : Hp := fun b => if b = a ∧ K.lookup a = none then some (.frz ob (.lst (ns.map V.int))) else none
theorem scriptH_at {K : PySem.W.Frag} {a b : Addr} {ob : Obj} {ns : List Int} {u : HO} (h : scriptH K a ob ns b = some u) : b = a ∧ K.lookup a = none ∧ u = .frz ob (.lst (ns.map V.int)) := by
  unfold scriptH at h
  split at h
  · rename_i z
    exact ⟨z.1, z.2, (Option.some.inj h).symm⟩
  · cases h
/-- the head's call, for a def that runs where no repr runs -/
theorem callG {P : Program} {w : World} {K : PySem.W.Frag} {mg mb : Str → Option Value} {k : Nat} {fa a : Addr} {fd : FuncData} {x : Str} {t : Shared} {vs : List Value} {ns : List Int}
    (hK : K.In t.heap) (hG : t.heap.Ns mainGlobals mg) (hB : t.heap.Ns builtinsNs mb) (hBB : ∀ x : Str, x ≠ "__name__" → mb x = bootBuiltins x) (hL : t.heap.NoLimit) (hg : t.gens = #[])
    (ha : t.heap.get? a = some { cls := .type "list", data := .seq vs.toArray }) (hi : IntsAre vs ns) (h63 : ns.length ≤ 63) (hr : Room k callerA)
    (F : ∀ base : Heap, K.In base → base.Ns mainGlobals mg → FnG P w K mg base CX0 k fa fd [x] (spLaw K)) (hbind : ∀ (s : Shared) (u : Value), BindsTo s fd ⟨[u], []⟩ [(x, u)]) :
    codeAny (model P w) callerA (.call (.ref fa) ⟨[.ref a], []⟩) (fun r s' => r = .ok (.ret (.bool true)) ∧ OldK t.heap s'.heap ∧ s'.os = t.os ∧ AllBare s'.gens) t := by
  have rel := vals_ints hi
  have hlen := hi.length
  have hline : ns.length ≤ sizeLine := Nat.le_trans h63 (by decide)
  let ob : Obj := { cls := .type "list", data := .seq vs.toArray }
  let S := scriptH K a ob ns
  have free : ∀ {b : Addr}, b ≠ a → S b = none := fun {b} n => if_neg fun z => n z.1
  have ok : HOk P w S t.heap := fun b u z => by
    obtain ⟨rfl, _, rfl⟩ := scriptH_at z
    exact ⟨ha, by rw [List.length_map]; exact hline, vs, _, rel, ha⟩
  have down : ∀ {b : Addr} {o : Obj}, t.heap.get? b = some o → S b = none → (hidT t.heap S).get? b = some o := fun e n => hidT_get e n
  have dict : ∀ {b : Addr} {o : Obj} {es : Array DictEntry} {ep : Nat}, t.heap.get? b = some o → o.data = .dict es ep → S b = none := fun {b o es ep} e d => by
    by_cases z : b = a
    · subst z
      rw [ha] at e
      cases e
      exact absurd d fun q => (nomatch (show Data.seq vs.toArray _ = Data.dict es ep from q))
    · exact free z
  have spaces : ∀ {b : Addr} {m : Str → Option Value}, t.heap.Ns b m → (hidT t.heap S).Ns b m := fun {b m} ⟨o, es, ep, e, d, r⟩ => ⟨o, es, ep, down e (dict e d), d, r⟩
  have inK : K.In (hidT t.heap S) := fun b o e => down (hK b o e) (by
    cases q : S b with
    | none => rfl
    | some u =>
      obtain ⟨rfl, z, _⟩ := scriptH_at q
      rw [z] at e; cases e)
  have md : Mod K mg (hidT t.heap S) := ⟨inK, spaces hG, ⟨mb, spaces hB, hBB⟩, let ⟨mc, q1, q2⟩ := hL; ⟨mc, spaces q1, q2⟩⟩
  have none_in : ∀ b : Addr, b ∉ ([] : List Addr) := fun b z => nomatch z
  have env : Env0 P w K mg (hidT t.heap S) callerA [] t S := ⟨rfl, md, fun b o e => of_hidT e, Nat.le_of_eq (hidT_size _ _), trivial, fun b z => absurd z (none_in b), ok, .of_eq hg⟩
  have hS : SqL K S a (ns.map V.int) := by
    cases q : K.lookup a with
    | none => exact .inl (.inr ⟨ob, if_pos ⟨rfl, q⟩⟩)
    | some o =>
      have e := hK a o q
      rw [ha] at e
      cases e
      exact .inr ⟨_, vs.toArray, _, q, rfl, rfl, rfl, by rw [List.size_toArray, hlen]; exact hline, by simpa using rel⟩
  refine codeAny_mono ((F _ inK (spaces hG)).run callerA [] t S ⟨[.ref a], []⟩ [.ref a] [.ref a] (fun v _ => v = .bl true) (fun _ _ _ => False) hr rfl env (hbind t (.ref a)) (.cons rfl .nil) ⟨a, ns, rfl, hS, h63, fun _ => rfl⟩) fun r s' z => ?_
  cases r with
  | error e => exact False.elim z
  | ok fl =>
    cases fl with
    | ret u =>
      obtain ⟨v, H', os, bare, un, ok', rv, q⟩ := z
      obtain rfl : v = .bl true := q
      obtain rfl : u = Value.bool true := rv
      refine ⟨rfl, OldK.of_keep fun b o e => ?_, os, bare⟩
      cases q : S b with
      | none => exact un.keep b o e q (none_in b) (by simp)
      | some u =>
        obtain ⟨rfl, _, rfl⟩ := scriptH_at q
        obtain ⟨e2, _⟩ := ok' b _ (un.frzs b ob _ q)
        rw [ha] at e
        cases e
        exact e2
    | _ => exact False.elim z
/-- the goal that the head leaves -/
theorem walkG {l : PySem.W.OpenLaw} {k : Nat} {q : Program} {loose : List Str} {XP : (Str → Option Value) → Heap → Prop} {YP : World → Heap → Prop} {d : DefRec} {K : Params → PySem.W.Frag} {x : Str} (hn : l.most = some 63) (hdf : d.params.defaults = []) (hr : Room k callerA)
    (hY : ∀ (w : World) (h : Heap), YP w h → (K w.params).In h)
    (F : ∀ (w : World) (mg : Str → Option Value) (fa : Addr) (h : Heap), (K w.params).In h → h.Ns mainGlobals mg → mg d.name = some (.ref fa) →
      ∃ fd : FuncData, (∀ (s : Shared) (u : Value), BindsTo s fd ⟨[u], []⟩ [(x, u)]) ∧ ∀ base : Heap, (K w.params).In base → base.Ns mainGlobals mg → FnG l.prog w (K w.params) mg base CX0 k fa fd [x] (spLaw (K w.params))) :
    PySem.W.WalkO q loose XP YP l.row.toRowW d [] (fun f vs => PySem.call f vs) := by
  refine Att.attach_call hn hdf fun w s₀ t mg mb fa o pm cd doc a vs ns G Y ho hd hcd hmg hobj hints hlen hg => ?_
  have inK := hY w _ Y
  obtain ⟨fd, hb, hF⟩ := F w mg fa _ inK G.T.g hmg
  exact callG inK G.T.g G.T.b G.T.builtins G.T.nolimit hg hobj hints hlen hr hF hb
end DL

set_option Elab.async false
set_option linter.all false
set_option maxRecDepth 100000
set_option maxHeartbeats 4000000
namespace K16
open PySem L2 DL
def top (i : Nat) : Stmt := PySem.Challenge.pw_farcatch_k16_same_but_for_bound_names.main.body.getD i (.Pass ⟨0, 0, 0, 0⟩)
section
variable {P : Program} {w : World} {K : PySem.W.Frag} {mg : Str → Option Value} {base : Heap}
abbrev s_codes_within : Stmt := top 1
theorem sc_codes_within : FnScope ["code"] ["code"] (defScope s_codes_within) := ⟨rfl, rfl, rfl, by decide +kernel, rfl, by decide +kernel, by decide +kernel⟩
def t_codes_within : TSD :=
  (seqT (iffT (blT (DL.binT inD (DL.binT ixD (nameT 0) (cT (.int 0))) (tupT (consA (cT (.str "name")) (consA (cT (.str "given")) nilA))))) (retT (tupT nilA)) nextT)
    (seqT (iffT (blT (DL.binT eqD (DL.binT ixD (nameT 0) (cT (.int 0))) (cT (.str "if")))) (retT (slT slD (nameT 0) (someO (cT (.int 1))) noneO)) nextT)
    (retT (ifT (blT (DL.binT eqD (DL.binT ixD (nameT 0) (cT (.int 0))) (cT (.str "with")))) (slT slD (nameT 0) (someO (cT (.int 2))) noneO) (DL.binT ixD (nameT 0) (cT (.int 2)))))))
theorem fn_codes_within {n : Nat} {R : RD} {f : Addr} {fd : FuncData} (Fn : Fun K "codes_within" "codes_within" s_codes_within f fd)
    (hl : ∀ ds k, R ds k → ds.length = 1) (hR : ∀ ds κ, R ds κ → t_codes_within (endD κ) (enterS 1 ds)) : FnG P w K mg base CX0 (n + 1) f fd ["code"] (spD K R) :=
  Fun.okD Fn sc_codes_within hl ⟨_, fun cdv A outer s H E G H' pn hr hg =>
      (s_cons (s_if (t_cmp (op_inA hr) ok_in (d_ix (d_name 0) d_int) (d_tup (a_cons d_str (a_cons d_str a_nil))) (by rfl)) (s_one (s_ret (d_tup a_nil))) s_nil)
      (s_cons (s_if (t_cmp (op_eqA hr) ok_eq (d_ix (d_name 0) d_int) d_str (nomark _)) (s_one (s_ret (d_slice (d_name 0) (o_some d_int) o_none))) s_nil)
      (s_one (s_ret (d_if (t_cmp (op_eqA hr) ok_eq (d_ix (d_name 0) d_int) d_str (nomark _)) (d_slice (d_name 0) (o_some d_int) o_none) (d_ix (d_name 0) d_int)))))), hR⟩

abbrev s_are_like : Stmt := top 3
theorem sc_are_like : FnScope ["one", "other", "bound", "mine", "its", "inside"] ["one", "other", "bound"] (defScope s_are_like) := ⟨rfl, rfl, rfl, by decide +kernel, rfl, by decide +kernel, by decide +kernel⟩
theorem bk_are_like_0 : BlkOk ["one", "other", "bound", "mine", "its", "inside"] (defScope s_are_like) { kind := .function, names := [(".0", .local), ("mine", .local), ("its", .local), ("are_like", .globalImplicit), ("bound", .free)], isGenerator := false, isCoroutine := false, more := [] : Scope } [("mine", 3), ("its", 4)] := blkOk_by (by decide +kernel)
def t_are_like (Rare_like : RD) (Rcodes_within : RD) : TSD :=
  (seqT (iffT (blT (DL.binT neD (DL.binT ixD (nameT 0) (cT (.int 0))) (DL.binT ixD (nameT 1) (cT (.int 0))))) (retT (cT (.bl false))) nextT)
    (seqT (iffT (blT (DL.binT eqD (DL.binT ixD (nameT 0) (cT (.int 0))) (cT (.str "name")))) (seqT (forT (.tp [3, 4]) (seqI (ofF (revF (nameT 2)))) (iffT (orB (blT (DL.binT eqD (nameT 3) (DL.binT ixD (nameT 0) (cT (.int 1))))) (blT (DL.binT eqD (nameT 4) (DL.binT ixD (nameT 1) (cT (.int 1)))))) (retT (andT (DL.binT eqD (nameT 3) (DL.binT ixD (nameT 0) (cT (.int 1)))) (DL.binT eqD (nameT 4) (DL.binT ixD (nameT 1) (cT (.int 1)))))) nextT))
    (retT (DL.binT eqD (DL.binT ixD (nameT 0) (cT (.int 1))) (DL.binT ixD (nameT 1) (cT (.int 1)))))) nextT)
    (seqT (iffT (blT (DL.binT eqD (DL.binT ixD (nameT 0) (cT (.int 0))) (cT (.str "with")))) (seqT (setT 5 (ofF (lstF (starA (nameT 2) (consA (tupT (consA (DL.binT ixD (nameT 0) (cT (.int 1))) (consA (DL.binT ixD (nameT 1) (cT (.int 1))) nilA))) nilA)))))
    (retT (andT (callT Rare_like (consA (DL.binT ixD (nameT 0) (cT (.int 2))) (consA (DL.binT ixD (nameT 1) (cT (.int 2))) (consA (nameT 2) nilA)))) (callT Rare_like (consA (DL.binT ixD (nameT 0) (cT (.int 3))) (consA (DL.binT ixD (nameT 1) (cT (.int 3))) (consA (nameT 5) nilA))))))) nextT)
    (seqT (iffT (blT (DL.binT eqD (DL.binT ixD (nameT 0) (cT (.int 0))) (cT (.str "given")))) (retT (DL.binT eqD (nameT 0) (nameT 1))) nextT)
    (seqT (iffT (orB (andB (blT (DL.binT neD (DL.binT ixD (nameT 0) (cT (.int 0))) (cT (.str "if")))) (blT (DL.binT neD (DL.binT ixD (nameT 0) (cT (.int 1))) (DL.binT ixD (nameT 1) (cT (.int 1)))))) (blT (DL.binT neD (callT lenR (consA (callT Rcodes_within (consA (nameT 0) nilA)) nilA)) (callT lenR (consA (callT Rcodes_within (consA (nameT 1) nilA)) nilA))))) (retT (cT (.bl false))) nextT)
    (retT (callT allR (consA (ofF (lcF (.tp [3, 4]) (zipI (consA (callT Rcodes_within (consA (nameT 0) nilA)) (consA (callT Rcodes_within (consA (nameT 1) nilA)) nilA))) yesT (callT Rare_like (consA (nameT 3) (consA (nameT 4) (consA (nameT 2) nilA)))) [3, 4])) nilA))))))))
theorem fn_are_like {n : Nat} {R : RD} {f : Addr} {fd : FuncData} {Rare_like Rcodes_within : RD} (Fn : Fun K "are_like" "are_like" s_are_like f fd) (z_all : mg "all" = none) (z_len : mg "len" = none) (z_zip : mg "zip" = none) (care_like : CalP P w K mg base n "are_like" Rare_like) (ccodes_within : CalP P w K mg base n "codes_within" Rcodes_within)
    (hl : ∀ ds k, R ds k → ds.length = 3) (hR : ∀ ds κ, R ds κ → t_are_like Rare_like Rcodes_within (endD κ) (enterS 6 ds)) : FnG P w K mg base CX0 (n + 1) f fd ["one", "other", "bound"] (spD K R) :=
  Fun.okD Fn sc_are_like hl ⟨_, fun cdv A outer s H E G H' pn hr hg =>
      (s_cons (s_if (t_cmp (op_neA hr) ok_ne (d_ix (d_name 0) d_int) (d_ix (d_name 1) d_int) (nomark _)) (s_one (s_ret d_bl)) s_nil)
      (s_cons (s_if (t_cmp (op_eqA hr) ok_eq (d_ix (d_name 0) d_int) d_str (nomark _)) (s_cons (s_for (t := (.tp [3, 4])) PassesOwn.never rfl (i_seq (d_of (f_rev (d_name 2)))) (pg_tup rfl (pgs_cons (pg_name (i := 3) sc_are_like.nd rfl (Or.inl rfl)) (pgs_cons (pg_name (i := 4) sc_are_like.nd rfl (Or.inl rfl)) pgs_nil))) (fun _ => (s_one (s_if (PW.pt (w_or (t_cmp (op_eqA hr) ok_eq (d_name 3) (d_ix (d_name 0) d_int) (nomark _)) (w_or1 (t_cmp (op_eqA hr) ok_eq (d_name 4) (d_ix (d_name 1) d_int) (nomark _))))) (s_one (s_ret (d_and (d_cmp (op_eqA hr) ok_eq (d_name 3) (d_ix (d_name 0) d_int) (nomark _)) (d_one (d_cmp (op_eqA hr) ok_eq (d_name 4) (d_ix (d_name 1) d_int) (nomark _)))))) s_nil))))
      (s_one (s_ret (d_cmp (op_eqA hr) ok_eq (d_ix (d_name 0) d_int) (d_ix (d_name 1) d_int) (nomark _))))) s_nil)
      (s_cons (s_if (t_cmp (op_eqA hr) ok_eq (d_ix (d_name 0) d_int) d_str (nomark _)) (s_cons (s_set (i := 5) sc_are_like.nd rfl (Or.inl rfl) (d_of (f_lst (a_star (d_name 2) (a_cons (d_tup (a_cons (d_ix (d_name 0) d_int) (a_cons (d_ix (d_name 1) d_int) a_nil))) a_nil)))))
      (s_one (s_ret (d_and (d_call ⟨care_like.ex⟩ hr hg rfl (a_cons (d_ix (d_name 0) d_int) (a_cons (d_ix (d_name 1) d_int) (a_cons (d_name 2) a_nil)))) (d_one (d_call ⟨care_like.ex⟩ hr hg rfl (a_cons (d_ix (d_name 0) d_int) (a_cons (d_ix (d_name 1) d_int) (a_cons (d_name 5) a_nil))))))))) s_nil)
      (s_cons (s_if (t_cmp (op_eqA hr) ok_eq (d_ix (d_name 0) d_int) d_str (nomark _)) (s_one (s_ret (d_cmp (op_eqA hr) ok_eq (d_name 0) (d_name 1) (nomark _)))) s_nil)
      (s_cons (s_if (PW.pt (w_or (PW.pt (w_and (t_cmp (op_neA hr) ok_ne (d_ix (d_name 0) d_int) d_str (nomark _)) (w_and1 (t_cmp (op_neA hr) ok_ne (d_ix (d_name 0) d_int) (d_ix (d_name 1) d_int) (nomark _))))) (w_or1 (t_cmp (op_neA hr) ok_ne (d_len rfl z_len (a_cons (d_call ⟨ccodes_within.ex⟩ hr hg rfl (a_cons (d_name 0) a_nil)) a_nil)) (d_len rfl z_len (a_cons (d_call ⟨ccodes_within.ex⟩ hr hg rfl (a_cons (d_name 1) a_nil)) a_nil)) (nomark _))))) (s_one (s_ret d_bl)) s_nil)
      (s_one (s_ret (d_all rfl rfl z_all (a_cons (d_of (f_lc (.tp [3, 4]) rfl sc_are_like.nd (i_zip rfl z_zip (a_cons (d_call ⟨ccodes_within.ex⟩ hr hg rfl (a_cons (d_name 0) a_nil)) (a_cons (d_call ⟨ccodes_within.ex⟩ hr hg rfl (a_cons (d_name 1) a_nil)) a_nil))) bk_are_like_0 (fun _ _ _ _ _ => (pg_tup rfl (pgs_cons (pg_name (i := 3) sc_are_like.nd rfl (Or.inl rfl)) (pgs_cons (pg_name (i := 4) sc_are_like.nd rfl (Or.inl rfl)) pgs_nil)))) (fun _ _ _ _ _ _ => ts_nil) (fun _ _ _ _ _ _ => (d_call ⟨care_like.ex⟩ hr hg rfl (a_cons (d_name 3) (a_cons (d_name 4) (a_cons (d_name 2) a_nil))))))) a_nil))))))))), hR⟩

abbrev s_same_but_bound : Stmt := top 4
theorem sc_same_but_bound : FnScope ["one", "other"] ["one", "other"] (defScope s_same_but_bound) := ⟨rfl, rfl, rfl, by decide +kernel, rfl, by decide +kernel, by decide +kernel⟩
def t_same_but_bound (Rare_like : RD) : TSD :=
  (retT (callT Rare_like (consA (nameT 0) (consA (nameT 1) (consA (ofF (lstF nilA)) nilA)))))
theorem fn_same_but_bound {n : Nat} {R : RD} {f : Addr} {fd : FuncData} {Rare_like : RD} (Fn : Fun K "same_but_bound" "same_but_bound" s_same_but_bound f fd) (care_like : CalP P w K mg base n "are_like" Rare_like)
    (hl : ∀ ds k, R ds k → ds.length = 2) (hR : ∀ ds κ, R ds κ → t_same_but_bound Rare_like (endD κ) (enterS 2 ds)) : FnG P w K mg base CX0 (n + 1) f fd ["one", "other"] (spD K R) :=
  Fun.okD Fn sc_same_but_bound hl ⟨_, fun cdv A outer s H E G H' pn hr hg =>
      (s_one (s_ret (d_call ⟨care_like.ex⟩ hr hg rfl (a_cons (d_name 0) (a_cons (d_name 1) (a_cons (d_of (f_lst a_nil)) a_nil)))))), hR⟩

abbrev s_L_bag : Stmt := top 6
theorem sc_L_bag : FnScope ["_law_script", "_law_cell"] ["_law_script"] (defScope s_L_bag) := ⟨rfl, rfl, rfl, by decide +kernel, rfl, by decide +kernel, by decide +kernel⟩
theorem bk_L_bag_0 : BlkOk ["_law_script", "_law_cell"] (defScope s_L_bag) { kind := .function, names := [(".0", .local), ("_law_cell", .local), ("abs", .globalImplicit)], isGenerator := false, isCoroutine := false, more := [] : Scope } [("_law_cell", 1)] := blkOk_by (by decide +kernel)
theorem fn_L_bag {n : Nat} {f : Addr} {fd : FuncData} (Fn : Fun K "_law_bag" "_law_bag" s_L_bag f fd) (z_abs : mg "abs" = none) : FnG P w K mg base CX0 (n + 1) f fd ["_law_script"] (spBag K 1234567891) :=
  Fun.okBag Fn sc_L_bag ⟨_, fun cdv A outer s H E =>
    (pss_one (ps_ret (pe_lst (pa_cons pe_int (pa_cons pe_int (pa_cons pe_int (pa_cons (pe_lc rfl sc_L_bag.nd (pi_list (pe_slice sl_list (pv 0) po_none (po_some pe_int))) bk_L_bag_0 (fun _ _ _ _ _ => (pg_name (i := 1) sc_L_bag.nd rfl (Or.inl rfl))) (fun _ _ _ _ _ => pts_nil) (fun _ _ _ _ _ => (pe_callB call_abs rfl z_abs (by decide +kernel) (pa_cons (pv 1) pa_nil)))) pa_nil))))))), fun _ _ _ h => h⟩

abbrev s_L_take : Stmt := top 7
theorem sc_L_take : FnScope ["_law_bag_here", "_law_many", "_law_cell", "_law_stirred", "_law_value", "_law_begin", "_law_second"] ["_law_bag_here", "_law_many"] (defScope s_L_take) := ⟨rfl, rfl, rfl, by decide +kernel, rfl, by decide +kernel, by decide +kernel⟩
def t_L_take : TSD :=
  (seqT (iffT (blT (DL.binT eqD (bagT 0 (nameT 0)) (cT (.int 0)))) (seqT (setT 2 (DL.binT ixD (DL.binT addD (cutBT (nameT 0) (someO (bagT 2 (nameT 0)))) (ofF (lstF (consA (cT (.int 0)) nilA)))) (cT (.int 0))))
    (seqT (augBT 2 (nameT 0) (cT (.int 1)))
    (seqT (iffT (blT (DL.binT (cmpI fun i j => decide (i ≥ j)) (nameT 2) (cT (.int 1000000000000000000)))) (putBT 0 (nameT 0) (nameT 2)) nextT)
    (seqT (setT 3 (DL.binT addD (DL.binT addD (DL.binT mulD (bagT 1 (nameT 0)) (cT (.int 48271))) (DL.binT modD (callT intR (consA (nameT 2) nilA)) (cT (.int 2147483647)))) (DL.binT mulD (cT (.int 7919)) (bagT 2 (nameT 0)))))
    (putBT 1 (nameT 0) (DL.binT modD (callT intR (consA (nameT 3) nilA)) (cT (.int 2147483647)))))))) nextT)
    (seqT (iffT (blT (DL.binT (cmpI fun i j => decide (i > j)) (bagT 0 (nameT 0)) (cT (.int 0)))) (seqT (setT 4 (DL.binT modD (callT intR (consA (bagT 0 (nameT 0)) nilA)) (nameT 1)))
    (seqT (putBT 0 (nameT 0) (DL.binT fdivD (bagT 0 (nameT 0)) (nameT 1)))
    (retT (nameT 4)))) nextT)
    (seqT (setT 5 (DL.binT modD (callT intR (consA (DL.binT mulD (DL.binT addD (bagT 1 (nameT 0)) (cT (.int 1))) (cT (.int 39373))) nilA)) (cT (.int 1000000007))))
    (seqT (setT 6 (DL.binT modD (callT intR (consA (DL.binT mulD (DL.binT modD (callT intR (consA (DL.binT mulD (nameT 5) (nameT 5)) nilA)) (cT (.int 998244353))) (cT (.int 30011))) nilA)) (cT (.int 998244353))))
    (retT (DL.binT modD (callT intR (consA (DL.binT fdivD (nameT 6) (cT (.int 7))) nilA)) (nameT 1)))))))
theorem fn_L_take {n : Nat} {R : RD} {f : Addr} {fd : FuncData} (Fn : Fun K "_law_take" "_law_take" s_L_take f fd) (z_int : mg "int" = none)
    (hl : ∀ ds k, R ds k → ds.length = 2) (hR : ∀ ds κ, R ds κ → t_L_take (endD κ) (enterS 7 ds)) : FnG P w K mg base CX0 (n + 1) f fd ["_law_bag_here", "_law_many"] (spD K R) :=
  Fun.okD Fn sc_L_take hl ⟨_, fun cdv A outer s H E G H' pn hr hg =>
      (s_cons (s_if (t_cmp (op_eqA hr) ok_eq (d_bag (d_name 0)) d_int (nomark _)) (s_cons (s_set (i := 2) sc_L_take.nd rfl (Or.inl rfl) (d_ix (d_add (d_bagcut (d_name 0) (o_some (d_bag (d_name 0)))) (d_of (f_lst (a_cons d_int a_nil)))) d_int))
      (s_cons (s_bagaug (i := 0) d_int)
      (s_cons (s_if (t_cmp op_ge ok_cmpI (d_name 2) d_int (nomark _)) (s_one (s_bagput (i := 0) (d_name 2))) s_nil)
      (s_cons (s_set (i := 3) sc_L_take.nd rfl (Or.inl rfl) (d_add (d_add (d_mul (d_bag (d_name 0)) d_int) (d_mod (d_toint rfl z_int (a_cons (d_name 2) a_nil)) d_int)) (d_mul d_int (d_bag (d_name 0)))))
      (s_one (s_bagput (i := 0) (d_mod (d_toint rfl z_int (a_cons (d_name 3) a_nil)) d_int))))))) s_nil)
      (s_cons (s_if (t_cmp op_gt ok_cmpI (d_bag (d_name 0)) d_int (nomark _)) (s_cons (s_set (i := 4) sc_L_take.nd rfl (Or.inl rfl) (d_mod (d_toint rfl z_int (a_cons (d_bag (d_name 0)) a_nil)) (d_name 1)))
      (s_cons (s_bagput (i := 0) (d_fdiv (d_bag (d_name 0)) (d_name 1)))
      (s_one (s_ret (d_name 4))))) s_nil)
      (s_cons (s_set (i := 5) sc_L_take.nd rfl (Or.inl rfl) (d_mod (d_toint rfl z_int (a_cons (d_mul (d_add (d_bag (d_name 0)) d_int) d_int) a_nil)) d_int))
      (s_cons (s_set (i := 6) sc_L_take.nd rfl (Or.inl rfl) (d_mod (d_toint rfl z_int (a_cons (d_mul (d_mod (d_toint rfl z_int (a_cons (d_mul (d_name 5) (d_name 5)) a_nil)) d_int) d_int) a_nil)) d_int))
      (s_one (s_ret (d_mod (d_toint rfl z_int (a_cons (d_fdiv (d_name 6) d_int) a_nil)) (d_name 1)))))))), hR⟩

abbrev s_L_alike : Stmt := top 8
theorem sc_L_alike : FnScope ["_law_found", "_law_due"] ["_law_found", "_law_due"] (defScope s_L_alike) := ⟨rfl, rfl, rfl, by decide +kernel, rfl, by decide +kernel, by decide +kernel⟩
def t_L_alike : TSD :=
  (retT (andT (DL.binT eqD (nameT 0) (nameT 1)) (DL.binT eqD (callT reprR (consA (nameT 0) nilA)) (callT reprR (consA (nameT 1) nilA)))))
theorem fn_L_alike {n : Nat} {R : RD} {f : Addr} {fd : FuncData} (Fn : Fun K "_law_alike" "_law_alike" s_L_alike f fd) (z_repr : mg "repr" = none)
    (hl : ∀ ds k, R ds k → ds.length = 2) (hR : ∀ ds κ, R ds κ → t_L_alike (endD κ) (enterS 2 ds)) : FnG P w K mg base CX0 (n + 1) f fd ["_law_found", "_law_due"] (spD K R) :=
  Fun.okD Fn sc_L_alike hl ⟨_, fun cdv A outer s H E G H' pn hr hg =>
      (s_one (s_ret (d_and (d_cmp (op_eqA hr) ok_eq (d_name 0) (d_name 1) (nomark _)) (d_one (d_cmp (op_eqA hr) ok_eq (d_repr hr hg rfl z_repr (a_cons (d_name 0) a_nil)) (d_repr hr hg rfl z_repr (a_cons (d_name 1) a_nil)) (nomark _)))))), hR⟩

abbrev s_L_some : Stmt := top 9
theorem sc_L_some : FnScope ["_law_bag_here", "_law_things"] ["_law_bag_here", "_law_things"] (defScope s_L_some) := ⟨rfl, rfl, rfl, by decide +kernel, rfl, by decide +kernel, by decide +kernel⟩
def t_L_some (R_law_take : RD) : TSD :=
  (retT (DL.binT ixD (nameT 1) (callT R_law_take (consA (nameT 0) (consA (callT lenR (consA (nameT 1) nilA)) nilA)))))
theorem fn_L_some {n : Nat} {R : RD} {f : Addr} {fd : FuncData} {R_law_take : RD} (Fn : Fun K "_law_some" "_law_some" s_L_some f fd) (z_len : mg "len" = none) (c_law_take : CalP P w K mg base n "_law_take" R_law_take)
    (hl : ∀ ds k, R ds k → ds.length = 2) (hR : ∀ ds κ, R ds κ → t_L_some R_law_take (endD κ) (enterS 2 ds)) : FnG P w K mg base CX0 (n + 1) f fd ["_law_bag_here", "_law_things"] (spD K R) :=
  Fun.okD Fn sc_L_some hl ⟨_, fun cdv A outer s H E G H' pn hr hg =>
      (s_one (s_ret (d_ix (d_name 1) (d_call ⟨c_law_take.ex⟩ hr hg rfl (a_cons (d_name 0) (a_cons (d_len rfl z_len (a_cons (d_name 1) a_nil)) a_nil)))))), hR⟩

abbrev s_L_mixed : Stmt := top 10
theorem sc_L_mixed : FnScope ["_law_bag_here", "_law_things", "_law_found", "_law_thing"] ["_law_bag_here", "_law_things"] (defScope s_L_mixed) := ⟨rfl, rfl, rfl, by decide +kernel, rfl, by decide +kernel, by decide +kernel⟩
def t_L_mixed (R_law_take : RD) : TSD :=
  (seqT (newT 2 (lstF nilA))
    (seqT (forT (.nm 3) (seqI (nameT 1)) (mT 2 insD (consA (thruT 2 (callT R_law_take (consA (nameT 0) (consA (DL.binT addD (callT lenR (consA (nameT 2) nilA)) (cT (.int 1))) nilA)))) (consA (nameT 3) nilA))))
    (frzT 2 (retT (nameT 2)))))
theorem fn_L_mixed {n : Nat} {R : RD} {f : Addr} {fd : FuncData} {R_law_take : RD} (Fn : Fun K "_law_mixed" "_law_mixed" s_L_mixed f fd) (z_len : mg "len" = none) (c_law_take : CalP P w K mg base n "_law_take" R_law_take)
    (hl : ∀ ds k, R ds k → ds.length = 2) (hR : ∀ ds κ, R ds κ → t_L_mixed R_law_take (endD κ) (enterS 4 ds)) : FnG P w K mg base CX0 (n + 1) f fd ["_law_bag_here", "_law_things"] (spD K R) :=
  Fun.okD Fn sc_L_mixed hl ⟨_, fun cdv A outer s H E G H' pn hr hg =>
      (s_cons (s_new (i := 2) sc_L_mixed.nd rfl (Or.inl rfl) (f_lst a_nil))
      (s_cons (s_for (t := (.nm 3)) PassesOwn.never rfl (i_seq (d_name 1)) (pg_name (i := 3) sc_L_mixed.nd rfl (Or.inl rfl)) (fun _ => (s_one (s_ins 2 (a_cons (d_thru 2 (d_call ⟨c_law_take.ex⟩ hr hg rfl (a_cons (d_name 0) (a_cons (d_add (d_len rfl z_len (a_cons (d_name 2) a_nil)) d_int) a_nil)))) (a_cons (d_name 3) a_nil)) (pe_bm PySem.F.plainAttrs_list PySem.F.slot_list_insert PySem.F.type_list_insert mt_insert (pv 2) (a_cons (d_thru 2 (d_call ⟨c_law_take.ex⟩ hr hg rfl (a_cons (d_name 0) (a_cons (d_add (d_len rfl z_len (a_cons (d_name 2) a_nil)) d_int) a_nil)))) (a_cons (d_name 3) a_nil)))))))
      (ss_frz 2 (s_one (s_ret (d_name 2)))))), hR⟩

abbrev s_L_words : Stmt := top 11
theorem sc_L_words : FnScope ["_law_bag_here", "_law_many", "_law_menu", "_law_at", "_law_found", "_law_word"] ["_law_bag_here", "_law_many"] (defScope s_L_words) := ⟨rfl, rfl, rfl, by decide +kernel, rfl, by decide +kernel, by decide +kernel⟩
def t_L_words (R_law_take : RD) (R_law_mixed : RD) : TSD :=
  (seqT (setT 2 (methT splitM (onT isStr (cT (.str "name given work if with call leaf test worth place there code up of one a aa b zzzzzzzz"))) (consA (cT (.str " ")) nilA)))
    (seqT (parT 3 4 (consA (callT R_law_take (consA (nameT 0) (consA (cT (.int 19)) nilA))) (consA (ofF (lstF nilA)) nilA)))
    (seqT (forT (.nm 5) (seqI (callT R_law_mixed (consA (nameT 0) (consA (slT slD (DL.binT addD (nameT 2) (nameT 2)) (someO (nameT 3)) (someO (DL.binT addD (DL.binT addD (nameT 3) (nameT 1)) (cT (.int 2))))) nilA)))) (setT 4 (DL.binT addD (nameT 4) (DL.binT mulD (ofF (lstF (consA (nameT 5) nilA))) (callT intR (consA (DL.binT notInD (nameT 5) (nameT 4)) nilA))))))
    (retT (slT slD (nameT 4) noneO (someO (nameT 1)))))))
theorem fn_L_words {n : Nat} {R : RD} {f : Addr} {fd : FuncData} {R_law_take R_law_mixed : RD} (Fn : Fun K "_law_words" "_law_words" s_L_words f fd) (z_int : mg "int" = none) (c_law_take : CalP P w K mg base n "_law_take" R_law_take) (c_law_mixed : CalP P w K mg base n "_law_mixed" R_law_mixed)
    (hl : ∀ ds k, R ds k → ds.length = 2) (hR : ∀ ds κ, R ds κ → t_L_words R_law_take R_law_mixed (endD κ) (enterS 6 ds)) : FnG P w K mg base CX0 (n + 1) f fd ["_law_bag_here", "_law_many"] (spD K R) :=
  Fun.okD Fn sc_L_words hl ⟨_, fun cdv A outer s H E G H' pn hr hg =>
      (s_cons (s_set (i := 2) sc_L_words.nd rfl (Or.inl rfl) (d_split d_str d_str))
      (s_cons (s_par (i := 3) (j := 4) rfl (by rfl) sc_L_words.nd rfl rfl (by decide) rfl rfl (a_cons (d_call ⟨c_law_take.ex⟩ hr hg rfl (a_cons (d_name 0) (a_cons d_int a_nil))) (a_cons (d_of (f_lst a_nil)) a_nil)))
      (s_cons (s_for (t := (.nm 5)) PassesOwn.never rfl (i_seq (d_call ⟨c_law_mixed.ex⟩ hr hg rfl (a_cons (d_name 0) (a_cons (d_slice (d_add (d_name 2) (d_name 2)) (o_some (d_name 3)) (o_some (d_add (d_add (d_name 3) (d_name 1)) d_int))) a_nil)))) (pg_name (i := 5) sc_L_words.nd rfl (Or.inl rfl)) (fun _ => (s_one (s_set (i := 4) sc_L_words.nd rfl (Or.inl rfl) (d_add (d_name 4) (d_mul (d_of (f_lst (a_cons (d_name 5) a_nil))) (d_toint rfl z_int (a_cons (d_cmp (op_notInA hr) ok_notIn (d_name 5) (d_name 4) (by rfl)) a_nil))))))))
      (s_one (s_ret (d_slice (d_name 4) o_none (o_some (d_name 1)))))))), hR⟩

abbrev s_L_inner : Stmt := top 12
theorem sc_L_inner : FnScope ["_law_code"] ["_law_code"] (defScope s_L_inner) := ⟨rfl, rfl, rfl, by decide +kernel, rfl, by decide +kernel, by decide +kernel⟩
def t_L_inner : TSD :=
  (seqT (iffT (blT (DL.binT inD (DL.binT ixD (nameT 0) (cT (.int 0))) (tupT (consA (cT (.str "name")) (consA (cT (.str "given")) nilA))))) (retT (tupT nilA)) nextT)
    (seqT (iffT (blT (DL.binT eqD (DL.binT ixD (nameT 0) (cT (.int 0))) (cT (.str "if")))) (retT (slT slD (nameT 0) (someO (cT (.int 1))) noneO)) nextT)
    (retT (ifT (blT (DL.binT eqD (DL.binT ixD (nameT 0) (cT (.int 0))) (cT (.str "with")))) (slT slD (nameT 0) (someO (cT (.int 2))) noneO) (DL.binT ixD (nameT 0) (cT (.int 2)))))))
theorem fn_L_inner {n : Nat} {R : RD} {f : Addr} {fd : FuncData} (Fn : Fun K "_law_inner" "_law_inner" s_L_inner f fd)
    (hl : ∀ ds k, R ds k → ds.length = 1) (hR : ∀ ds κ, R ds κ → t_L_inner (endD κ) (enterS 1 ds)) : FnG P w K mg base CX0 (n + 1) f fd ["_law_code"] (spD K R) :=
  Fun.okD Fn sc_L_inner hl ⟨_, fun cdv A outer s H E G H' pn hr hg =>
      (s_cons (s_if (t_cmp (op_inA hr) ok_in (d_ix (d_name 0) d_int) (d_tup (a_cons d_str (a_cons d_str a_nil))) (by rfl)) (s_one (s_ret (d_tup a_nil))) s_nil)
      (s_cons (s_if (t_cmp (op_eqA hr) ok_eq (d_ix (d_name 0) d_int) d_str (nomark _)) (s_one (s_ret (d_slice (d_name 0) (o_some d_int) o_none))) s_nil)
      (s_one (s_ret (d_if (t_cmp (op_eqA hr) ok_eq (d_ix (d_name 0) d_int) d_str (nomark _)) (d_slice (d_name 0) (o_some d_int) o_none) (d_ix (d_name 0) d_int)))))), hR⟩

abbrev s_L_any : Stmt := top 13
theorem sc_L_any : FnScope ["_law_bag_here", "_law_names", "_law_room", "_law_way", "_law_name", "_law_many", "_law_some_here", "_law_k"] ["_law_bag_here", "_law_names", "_law_room"] (defScope s_L_any) := ⟨rfl, rfl, rfl, by decide +kernel, rfl, by decide +kernel, by decide +kernel⟩
theorem bk_L_any_0 : BlkOk ["_law_bag_here", "_law_names", "_law_room", "_law_way", "_law_name", "_law_many", "_law_some_here", "_law_k"] (defScope s_L_any) { kind := .function, names := [(".0", .local), ("_law_k", .local), ("_law_any", .globalImplicit), ("_law_bag_here", .free), ("_law_names", .free), ("_law_room", .free)], isGenerator := false, isCoroutine := false, more := [] : Scope } [("_law_k", 7)] := blkOk_by (by decide +kernel)
theorem bk_L_any_1 : BlkOk ["_law_bag_here", "_law_names", "_law_room", "_law_way", "_law_name", "_law_many", "_law_some_here", "_law_k"] (defScope s_L_any) { kind := .function, names := [(".0", .local), ("_law_k", .local), ("_law_any", .globalImplicit), ("int", .globalImplicit), ("_law_bag_here", .free), ("_law_many", .free), ("_law_names", .free), ("_law_room", .free)], isGenerator := false, isCoroutine := false, more := [] : Scope } [("_law_k", 7)] := blkOk_by (by decide +kernel)
def t_L_any (R_law_take : RD) (R_law_some : RD) (R_law_any : RD) : TSD :=
  (seqT (setT 3 (callT R_law_take (consA (nameT 0) (consA (cT (.int 12)) nilA))))
    (seqT (iffT (orB (blT (DL.binT (cmpI fun i j => decide (i < j)) (nameT 2) (cT (.int 2)))) (blT (DL.binT (cmpI fun i j => decide (i < j)) (nameT 3) (cT (.int 2))))) (retT (ifT (blT (DL.binT eqD (nameT 3) (cT (.int 1)))) (tupT (consA (cT (.str "given")) (consA (callT R_law_some (consA (nameT 0) (consA (ofF (lstF (consA (cT (.int 0)) (consA (cT (.int 1)) (consA (cT (.int 2)) (consA (cT (.int 2)) (consA (cT (.int 10)) (consA (cT (.int 11)) nilA)))))))) nilA))) nilA))) (tupT (consA (cT (.str "name")) (consA (callT R_law_some (consA (nameT 0) (consA (nameT 1) nilA))) nilA))))) nextT)
    (seqT (iffT (andB (blT (DL.binT (cmpI fun i j => decide (i < j)) (nameT 3) (cT (.int 5)))) (blT (DL.binT (cmpI fun i j => decide (i > j)) (nameT 2) (cT (.int 4))))) (retT (DL.binT addD (tupT (consA (cT (.str "if")) nilA)) (callT tupR (consA (ofF (lcF (.nm 7) (rng1I (consA (cT (.int 4)) nilA)) yesT (callT R_law_any (consA (nameT 0) (consA (nameT 1) (consA (DL.binT fdivD (DL.binT subD (nameT 2) (cT (.int 1))) (cT (.int 4))) nilA)))) [7])) nilA)))) nextT)
    (seqT (iffT (andB (blT (DL.binT (cmpI fun i j => decide (i < j)) (nameT 3) (cT (.int 8)))) (blT (DL.binT (cmpI fun i j => decide (i > j)) (nameT 2) (cT (.int 2))))) (seqT (setT 4 (callT R_law_some (consA (nameT 0) (consA (nameT 1) nilA))))
    (retT (tupT (consA (cT (.str "with")) (consA (nameT 4) (consA (callT R_law_any (consA (nameT 0) (consA (nameT 1) (consA (DL.binT fdivD (DL.binT subD (nameT 2) (cT (.int 1))) (cT (.int 3))) nilA)))) (consA (callT R_law_any (consA (nameT 0) (consA (nameT 1) (consA (DL.binT fdivD (DL.binT mulD (DL.binT subD (nameT 2) (cT (.int 1))) (cT (.int 2))) (cT (.int 3))) nilA)))) nilA))))))) nextT)
    (seqT (setT 5 (callT minR (consA (callT R_law_take (consA (nameT 0) (consA (ifT (blT (DL.binT eqD (callT R_law_take (consA (nameT 0) (consA (cT (.int 8)) nilA))) (cT (.int 0)))) (cT (.int 13)) (cT (.int 4))) nilA))) (consA (DL.binT subD (nameT 2) (cT (.int 1))) nilA))))
    (seqT (setT 6 (callT tupR (consA (ofF (lcF (.nm 7) (rng1I (consA (nameT 5) nilA)) yesT (callT R_law_any (consA (nameT 0) (consA (nameT 1) (consA (DL.binT fdivD (DL.binT mulD (DL.binT subD (nameT 2) (cT (.int 1))) (cT (.int 3))) (DL.binT addD (DL.binT mulD (cT (.int 3)) (nameT 5)) (callT intR (consA (DL.binT eqD (nameT 5) (cT (.int 1))) nilA)))) nilA)))) [7])) nilA)))
    (retT (tupT (consA (ifT (blT (DL.binT (cmpI fun i j => decide (i < j)) (nameT 3) (cT (.int 10)))) (cT (.str "work")) (cT (.str "call"))) (consA (callT R_law_some (consA (nameT 0) (consA (ofF (lstF (consA (cT (.str "up")) (consA (cT (.str "of")) (consA (cT (.str "one")) nilA))))) nilA))) (consA (nameT 6) nilA)))))))))))
theorem fn_L_any {n : Nat} {R : RD} {f : Addr} {fd : FuncData} {R_law_take R_law_some R_law_any : RD} (Fn : Fun K "_law_any" "_law_any" s_L_any f fd) (z_int : mg "int" = none) (z_min : mg "min" = none) (z_range : mg "range" = none) (z_tuple : mg "tuple" = none) (c_law_take : CalP P w K mg base n "_law_take" R_law_take) (c_law_some : CalP P w K mg base n "_law_some" R_law_some) (c_law_any : CalP P w K mg base n "_law_any" R_law_any)
    (hl : ∀ ds k, R ds k → ds.length = 3) (hR : ∀ ds κ, R ds κ → t_L_any R_law_take R_law_some R_law_any (endD κ) (enterS 8 ds)) : FnG P w K mg base CX0 (n + 1) f fd ["_law_bag_here", "_law_names", "_law_room"] (spD K R) :=
  Fun.okD Fn sc_L_any hl ⟨_, fun cdv A outer s H E G H' pn hr hg =>
      (s_cons (s_set (i := 3) sc_L_any.nd rfl (Or.inl rfl) (d_call ⟨c_law_take.ex⟩ hr hg rfl (a_cons (d_name 0) (a_cons d_int a_nil))))
      (s_cons (s_if (PW.pt (w_or (t_cmp op_lt ok_cmpI (d_name 2) d_int (nomark _)) (w_or1 (t_cmp op_lt ok_cmpI (d_name 3) d_int (nomark _))))) (s_one (s_ret (d_if (t_cmp (op_eqA hr) ok_eq (d_name 3) d_int (nomark _)) (d_tup (a_cons d_str (a_cons (d_call ⟨c_law_some.ex⟩ hr hg rfl (a_cons (d_name 0) (a_cons (d_of (f_lst (a_cons d_int (a_cons d_int (a_cons d_int (a_cons d_int (a_cons d_int (a_cons d_int a_nil)))))))) a_nil))) a_nil))) (d_tup (a_cons d_str (a_cons (d_call ⟨c_law_some.ex⟩ hr hg rfl (a_cons (d_name 0) (a_cons (d_name 1) a_nil))) a_nil)))))) s_nil)
      (s_cons (s_if (PW.pt (w_and (t_cmp op_lt ok_cmpI (d_name 3) d_int (nomark _)) (w_and1 (t_cmp op_gt ok_cmpI (d_name 2) d_int (nomark _))))) (s_one (s_ret (d_add (d_tup (a_cons d_str a_nil)) (d_totup rfl z_tuple (a_cons (d_of (f_lc (.nm 7) rfl sc_L_any.nd (i_rng1 rfl z_range (a_cons d_int a_nil)) bk_L_any_0 (fun _ _ _ _ _ => (pg_name (i := 7) sc_L_any.nd rfl (Or.inl rfl))) (fun _ _ _ _ _ _ => ts_nil) (fun _ _ _ _ _ _ => (d_call ⟨c_law_any.ex⟩ hr hg rfl (a_cons (d_name 0) (a_cons (d_name 1) (a_cons (d_fdiv (d_sub (d_name 2) d_int) d_int) a_nil))))))) a_nil))))) s_nil)
      (s_cons (s_if (PW.pt (w_and (t_cmp op_lt ok_cmpI (d_name 3) d_int (nomark _)) (w_and1 (t_cmp op_gt ok_cmpI (d_name 2) d_int (nomark _))))) (s_cons (s_set (i := 4) sc_L_any.nd rfl (Or.inl rfl) (d_call ⟨c_law_some.ex⟩ hr hg rfl (a_cons (d_name 0) (a_cons (d_name 1) a_nil))))
      (s_one (s_ret (d_tup (a_cons d_str (a_cons (d_name 4) (a_cons (d_call ⟨c_law_any.ex⟩ hr hg rfl (a_cons (d_name 0) (a_cons (d_name 1) (a_cons (d_fdiv (d_sub (d_name 2) d_int) d_int) a_nil)))) (a_cons (d_call ⟨c_law_any.ex⟩ hr hg rfl (a_cons (d_name 0) (a_cons (d_name 1) (a_cons (d_fdiv (d_mul (d_sub (d_name 2) d_int) d_int) d_int) a_nil)))) a_nil)))))))) s_nil)
      (s_cons (s_set (i := 5) sc_L_any.nd rfl (Or.inr rfl) (d_min rfl rfl z_min (a_cons (d_call ⟨c_law_take.ex⟩ hr hg rfl (a_cons (d_name 0) (a_cons (d_if (t_cmp (op_eqA hr) ok_eq (d_call ⟨c_law_take.ex⟩ hr hg rfl (a_cons (d_name 0) (a_cons d_int a_nil))) d_int (nomark _)) d_int d_int) a_nil))) (a_cons (d_sub (d_name 2) d_int) a_nil))))
      (s_cons (s_set (i := 6) sc_L_any.nd rfl (Or.inl rfl) (d_totup rfl z_tuple (a_cons (d_of (f_lc (.nm 7) rfl sc_L_any.nd (i_rng1 rfl z_range (a_cons (d_name 5) a_nil)) bk_L_any_1 (fun _ _ _ _ _ => (pg_name (i := 7) sc_L_any.nd rfl (Or.inl rfl))) (fun _ _ _ _ _ _ => ts_nil) (fun _ _ _ _ _ _ => (d_call ⟨c_law_any.ex⟩ hr hg rfl (a_cons (d_name 0) (a_cons (d_name 1) (a_cons (d_fdiv (d_mul (d_sub (d_name 2) d_int) d_int) (d_add (d_mul d_int (d_name 5)) (d_toint rfl z_int (a_cons (d_cmp (op_eqA hr) ok_eq (d_name 5) d_int (nomark _)) a_nil)))) a_nil))))))) a_nil)))
      (s_one (s_ret (d_tup (a_cons (d_if (t_cmp op_lt ok_cmpI (d_name 3) d_int (nomark _)) d_str d_str) (a_cons (d_call ⟨c_law_some.ex⟩ hr hg rfl (a_cons (d_name 0) (a_cons (d_of (f_lst (a_cons d_str (a_cons d_str (a_cons d_str a_nil))))) a_nil))) (a_cons (d_name 6) a_nil)))))))))))), hR⟩

abbrev s_L_addresses : Stmt := top 14
theorem sc_L_addresses : FnScope ["_law_code", "_law_found", "_law_at", "_law_one", "_law_rest"] ["_law_code"] (defScope s_L_addresses) := ⟨rfl, rfl, rfl, by decide +kernel, rfl, by decide +kernel, by decide +kernel⟩
theorem bk_L_addresses_0 : BlkOk ["_law_code", "_law_found", "_law_at", "_law_one", "_law_rest"] (defScope s_L_addresses) { kind := .function, names := [(".0", .local), ("_law_rest", .local), ("_law_at", .free)], isGenerator := false, isCoroutine := false, more := [] : Scope } [("_law_rest", 4)] := blkOk_by (by decide +kernel)
def t_L_addresses (R_law_inner : RD) (R_law_addresses : RD) : TSD :=
  (seqT (setT 1 (ofF (lstF (consA (tupT nilA) nilA))))
    (seqT (forT (.tp [2, 3]) (enumI (consA (callT R_law_inner (consA (nameT 0) nilA)) nilA)) (setT 1 (DL.binT addD (nameT 1) (ofF (lcF (.nm 4) (seqI (callT R_law_addresses (consA (nameT 3) nilA))) yesT (DL.binT addD (tupT (consA (nameT 2) nilA)) (nameT 4)) [4])))))
    (retT (nameT 1))))
theorem fn_L_addresses {n : Nat} {R : RD} {f : Addr} {fd : FuncData} {R_law_inner R_law_addresses : RD} (Fn : Fun K "_law_addresses" "_law_addresses" s_L_addresses f fd) (z_enumerate : mg "enumerate" = none) (c_law_inner : CalP P w K mg base n "_law_inner" R_law_inner) (c_law_addresses : CalP P w K mg base n "_law_addresses" R_law_addresses)
    (hl : ∀ ds k, R ds k → ds.length = 1) (hR : ∀ ds κ, R ds κ → t_L_addresses R_law_inner R_law_addresses (endD κ) (enterS 5 ds)) : FnG P w K mg base CX0 (n + 1) f fd ["_law_code"] (spD K R) :=
  Fun.okD Fn sc_L_addresses hl ⟨_, fun cdv A outer s H E G H' pn hr hg =>
      (s_cons (s_set (i := 1) sc_L_addresses.nd rfl (Or.inl rfl) (d_of (f_lst (a_cons (d_tup a_nil) a_nil))))
      (s_cons (s_for (t := (.tp [2, 3])) PassesOwn.never rfl (i_enum rfl z_enumerate (a_cons (d_call ⟨c_law_inner.ex⟩ hr hg rfl (a_cons (d_name 0) a_nil)) a_nil)) (pg_tup rfl (pgs_cons (pg_name (i := 2) sc_L_addresses.nd rfl (Or.inr rfl)) (pgs_cons (pg_name (i := 3) sc_L_addresses.nd rfl (Or.inl rfl)) pgs_nil))) (fun _ => (s_one (s_set (i := 1) sc_L_addresses.nd rfl (Or.inl rfl) (d_add (d_name 1) (d_of (f_lc (.nm 4) rfl sc_L_addresses.nd (i_seq (d_call ⟨c_law_addresses.ex⟩ hr hg rfl (a_cons (d_name 3) a_nil))) bk_L_addresses_0 (fun _ _ _ _ _ => (pg_name (i := 4) sc_L_addresses.nd rfl (Or.inl rfl))) (fun _ _ _ _ _ _ => ts_nil) (fun _ _ _ _ _ _ => (d_add (d_tup (a_cons (d_name 2) a_nil)) (d_name 4))))))))))
      (s_one (s_ret (d_name 1))))), hR⟩

abbrev s_L_put : Stmt := top 15
theorem sc_L_put : FnScope ["_law_code", "_law_address", "_law_part", "_law_codes"] ["_law_code", "_law_address", "_law_part"] (defScope s_L_put) := ⟨rfl, rfl, rfl, by decide +kernel, rfl, by decide +kernel, by decide +kernel⟩
def t_L_put (R_law_inner : RD) (R_law_put : RD) : TSD :=
  (seqT (iffT (blT (DL.binT eqD (nameT 1) (tupT nilA))) (retT (nameT 2)) nextT)
    (seqT (newT 3 (lstR (consA (callT R_law_inner (consA (nameT 0) nilA)) nilA)))
    (seqT (putT 3 (DL.binT ixD (nameT 1) (cT (.int 0))) (thruT 3 (callT R_law_put (consA (DL.binT ixD (nameT 3) (DL.binT ixD (nameT 1) (cT (.int 0)))) (consA (slT slD (nameT 1) (someO (cT (.int 1))) noneO) (consA (nameT 2) nilA))))))
    (frzT 3 (seqT (iffT (blT (DL.binT eqD (DL.binT ixD (nameT 0) (cT (.int 0))) (cT (.str "if")))) (retT (DL.binT addD (tupT (consA (cT (.str "if")) nilA)) (callT tupR (consA (nameT 3) nilA)))) nextT)
    (retT (ifT (blT (DL.binT eqD (DL.binT ixD (nameT 0) (cT (.int 0))) (cT (.str "with")))) (DL.binT addD (tupT (consA (cT (.str "with")) (consA (DL.binT ixD (nameT 0) (cT (.int 1))) nilA))) (callT tupR (consA (nameT 3) nilA))) (DL.binT addD (slT slD (nameT 0) noneO (someO (cT (.int 2)))) (tupT (consA (callT tupR (consA (nameT 3) nilA)) nilA))))))))))
theorem fn_L_put {n : Nat} {R : RD} {f : Addr} {fd : FuncData} {R_law_inner R_law_put : RD} (Fn : Fun K "_law_put" "_law_put" s_L_put f fd) (z_list : mg "list" = none) (z_tuple : mg "tuple" = none) (c_law_inner : CalP P w K mg base n "_law_inner" R_law_inner) (c_law_put : CalP P w K mg base n "_law_put" R_law_put)
    (hl : ∀ ds k, R ds k → ds.length = 3) (hR : ∀ ds κ, R ds κ → t_L_put R_law_inner R_law_put (endD κ) (enterS 4 ds)) : FnG P w K mg base CX0 (n + 1) f fd ["_law_code", "_law_address", "_law_part"] (spD K R) :=
  Fun.okD Fn sc_L_put hl ⟨_, fun cdv A outer s H E G H' pn hr hg =>
      (s_cons (s_if (t_cmp (op_eqA hr) ok_eq (d_name 1) (d_tup a_nil) (nomark _)) (s_one (s_ret (d_name 2))) s_nil)
      (s_cons (s_new (i := 3) sc_L_put.nd rfl (Or.inl rfl) (f_tolst rfl z_list (a_cons (d_call ⟨c_law_inner.ex⟩ hr hg rfl (a_cons (d_name 0) a_nil)) a_nil)))
      (s_cons (s_put 3 (d_thru 3 (d_call ⟨c_law_put.ex⟩ hr hg rfl (a_cons (d_ix (d_name 3) (d_ix (d_name 1) d_int)) (a_cons (d_slice (d_name 1) (o_some d_int) o_none) (a_cons (d_name 2) a_nil))))) (d_ix (d_name 1) d_int))
      (ss_frz 3 (s_cons (s_if (t_cmp (op_eqA hr) ok_eq (d_ix (d_name 0) d_int) d_str (nomark _)) (s_one (s_ret (d_add (d_tup (a_cons d_str a_nil)) (d_totup rfl z_tuple (a_cons (d_name 3) a_nil))))) s_nil)
      (s_one (s_ret (d_if (t_cmp (op_eqA hr) ok_eq (d_ix (d_name 0) d_int) d_str (nomark _)) (d_add (d_tup (a_cons d_str (a_cons (d_ix (d_name 0) d_int) a_nil))) (d_totup rfl z_tuple (a_cons (d_name 3) a_nil))) (d_add (d_slice (d_name 0) o_none (o_some d_int)) (d_tup (a_cons (d_totup rfl z_tuple (a_cons (d_name 3) a_nil)) a_nil))))))))))), hR⟩

abbrev s_L_names_of : Stmt := top 16
theorem sc_L_names_of : FnScope ["_law_bag_here", "_law_many", "_law_letters", "_law_found", "_law_k", "_law_word", "_law_j"] ["_law_bag_here", "_law_many"] (defScope s_L_names_of) := ⟨rfl, rfl, rfl, by decide +kernel, rfl, by decide +kernel, by decide +kernel⟩
theorem bk_L_names_of_0 : BlkOk ["_law_bag_here", "_law_many", "_law_letters", "_law_found", "_law_k", "_law_word", "_law_j"] (defScope s_L_names_of) { kind := .function, names := [(".0", .local), ("_law_j", .local), ("_law_some", .globalImplicit), ("_law_bag_here", .free), ("_law_letters", .free)], isGenerator := false, isCoroutine := false, more := [] : Scope } [("_law_j", 6)] := blkOk_by (by decide +kernel)
def t_L_names_of (R_law_take : RD) (R_law_words : RD) (R_law_some : RD) : TSD :=
  (seqT (iffT (blT (DL.binT (cmpI fun i j => decide (i > j)) (callT R_law_take (consA (nameT 0) (consA (cT (.int 3)) nilA))) (cT (.int 0)))) (retT (callT R_law_words (consA (nameT 0) (consA (nameT 1) nilA)))) nextT)
    (seqT (tgtT (.tp [2, 3]) (tupT (consA (cT (.str "abcdefghijklmnopqrstuvwxyz")) (consA (ofF (lstF nilA)) nilA))))
    (seqT (forT (.nm 4) (rng1I (consA (DL.binT addD (nameT 1) (cT (.int 3))) nilA)) (seqT (setT 5 (methT joinM (onT isStr (cT (.str ""))) (consA (ofF (lcF (.nm 6) (rng1I (consA (DL.binT addD (cT (.int 1)) (DL.binT mulD (callT R_law_take (consA (nameT 0) (consA (cT (.int 2)) nilA))) (callT R_law_take (consA (nameT 0) (consA (cT (.int 8)) nilA))))) nilA)) yesT (callT R_law_some (consA (nameT 0) (consA (nameT 2) nilA))) [6])) nilA)))
    (setT 3 (DL.binT addD (nameT 3) (DL.binT mulD (ofF (lstF (consA (nameT 5) nilA))) (callT intR (consA (DL.binT notInD (nameT 5) (nameT 3)) nilA)))))))
    (retT (slT slD (nameT 3) noneO (someO (nameT 1)))))))
theorem fn_L_names_of {n : Nat} {R : RD} {f : Addr} {fd : FuncData} {R_law_take R_law_words R_law_some : RD} (Fn : Fun K "_law_names_of" "_law_names_of" s_L_names_of f fd) (z_int : mg "int" = none) (z_range : mg "range" = none) (c_law_take : CalP P w K mg base n "_law_take" R_law_take) (c_law_words : CalP P w K mg base n "_law_words" R_law_words) (c_law_some : CalP P w K mg base n "_law_some" R_law_some)
    (hl : ∀ ds k, R ds k → ds.length = 2) (hR : ∀ ds κ, R ds κ → t_L_names_of R_law_take R_law_words R_law_some (endD κ) (enterS 7 ds)) : FnG P w K mg base CX0 (n + 1) f fd ["_law_bag_here", "_law_many"] (spD K R) :=
  Fun.okD Fn sc_L_names_of hl ⟨_, fun cdv A outer s H E G H' pn hr hg =>
      (s_cons (s_if (t_cmp op_gt ok_cmpI (d_call ⟨c_law_take.ex⟩ hr hg rfl (a_cons (d_name 0) (a_cons d_int a_nil))) d_int (nomark _)) (s_one (s_ret (d_call ⟨c_law_words.ex⟩ hr hg rfl (a_cons (d_name 0) (a_cons (d_name 1) a_nil))))) s_nil)
      (s_cons (s_tgt (.tp [2, 3]) (d_tup (a_cons d_str (a_cons (d_of (f_lst a_nil)) a_nil))) (pg_tup rfl (pgs_cons (pg_name (i := 2) sc_L_names_of.nd rfl (Or.inr rfl)) (pgs_cons (pg_name (i := 3) sc_L_names_of.nd rfl (Or.inl rfl)) pgs_nil))))
      (s_cons (s_for (t := (.nm 4)) PassesOwn.never rfl (i_rng1 rfl z_range (a_cons (d_add (d_name 1) d_int) a_nil)) (pg_name (i := 4) sc_L_names_of.nd rfl (Or.inl rfl)) (fun _ => (s_cons (s_set (i := 5) sc_L_names_of.nd rfl (Or.inl rfl) (d_join d_str (d_of (f_lc (.nm 6) rfl sc_L_names_of.nd (i_rng1 rfl z_range (a_cons (d_add d_int (d_mul (d_call ⟨c_law_take.ex⟩ hr hg rfl (a_cons (d_name 0) (a_cons d_int a_nil))) (d_call ⟨c_law_take.ex⟩ hr hg rfl (a_cons (d_name 0) (a_cons d_int a_nil))))) a_nil)) bk_L_names_of_0 (fun _ _ _ _ _ => (pg_name (i := 6) sc_L_names_of.nd rfl (Or.inl rfl))) (fun _ _ _ _ _ _ => ts_nil) (fun _ _ _ _ _ _ => (d_call ⟨c_law_some.ex⟩ hr hg rfl (a_cons (d_name 0) (a_cons (d_name 2) a_nil))))))))
      (s_one (s_set (i := 3) sc_L_names_of.nd rfl (Or.inl rfl) (d_add (d_name 3) (d_mul (d_of (f_lst (a_cons (d_name 5) a_nil))) (d_toint rfl z_int (a_cons (d_cmp (op_notInA hr) ok_notIn (d_name 5) (d_name 3) (by rfl)) a_nil)))))))))
      (s_one (s_ret (d_slice (d_name 3) o_none (o_some (d_name 1)))))))), hR⟩

abbrev s_L_numbered : Stmt := top 17
theorem sc_L_numbered : FnScope ["_law_code", "_law_bound", "_law_parts", "_law_outer", "_law_body", "_law_some_here", "_law_one"] ["_law_code", "_law_bound", "_law_parts"] (defScope s_L_numbered) := ⟨rfl, rfl, rfl, by decide +kernel, rfl, by decide +kernel, by decide +kernel⟩
theorem bk_L_numbered_0 : BlkOk ["_law_code", "_law_bound", "_law_parts", "_law_outer", "_law_body", "_law_some_here", "_law_one"] (defScope s_L_numbered) { kind := .function, names := [(".0", .local), ("_law_one", .local), ("_law_numbered", .globalImplicit), ("_law_bound", .free), ("_law_parts", .free)], isGenerator := false, isCoroutine := false, more := [] : Scope } [("_law_one", 6)] := blkOk_by (by decide +kernel)
def t_L_numbered (R_law_numbered : RD) (R_law_inner : RD) : TSD :=
  (seqT (iffT (blT (DL.binT eqD (DL.binT ixD (nameT 0) (cT (.int 0))) (cT (.str "name")))) (seqT (setT 3 (ofF (revF (nameT 1))))
    (retT (ifT (blT (DL.binT inD (DL.binT ixD (nameT 0) (cT (.int 1))) (nameT 3))) (tupT (consA (cT (.str "bound")) (consA (methT indexM (onT isLst (nameT 3)) (consA (DL.binT ixD (nameT 0) (cT (.int 1))) nilA)) nilA))) (getT (nameT 2) (DL.binT ixD (nameT 0) (cT (.int 1))) (nameT 0))))) nextT)
    (seqT (iffT (blT (DL.binT eqD (DL.binT ixD (nameT 0) (cT (.int 0))) (cT (.str "with")))) (seqT (setT 4 (callT R_law_numbered (consA (DL.binT ixD (nameT 0) (cT (.int 3))) (consA (DL.binT addD (nameT 1) (ofF (lstF (consA (DL.binT ixD (nameT 0) (cT (.int 1))) nilA)))) (consA (nameT 2) nilA)))))
    (retT (tupT (consA (cT (.str "with")) (consA (callT R_law_numbered (consA (DL.binT ixD (nameT 0) (cT (.int 2))) (consA (nameT 1) (consA (nameT 2) nilA)))) (consA (nameT 4) nilA)))))) nextT)
    (seqT (setT 5 (callT tupR (consA (ofF (lcF (.nm 6) (seqI (callT R_law_inner (consA (nameT 0) nilA))) yesT (callT R_law_numbered (consA (nameT 6) (consA (nameT 1) (consA (nameT 2) nilA)))) [6])) nilA)))
    (seqT (iffT (blT (DL.binT eqD (DL.binT ixD (nameT 0) (cT (.int 0))) (cT (.str "if")))) (retT (DL.binT addD (tupT (consA (cT (.str "if")) nilA)) (nameT 5))) nextT)
    (retT (ifT (blT (DL.binT eqD (DL.binT ixD (nameT 0) (cT (.int 0))) (cT (.str "given")))) (nameT 0) (DL.binT addD (slT slD (nameT 0) noneO (someO (cT (.int 2)))) (tupT (consA (nameT 5) nilA)))))))))
theorem fn_L_numbered {n : Nat} {R : RD} {f : Addr} {fd : FuncData} {R_law_numbered R_law_inner : RD} (Fn : Fun K "_law_numbered" "_law_numbered" s_L_numbered f fd) (z_tuple : mg "tuple" = none) (c_law_numbered : CalP P w K mg base n "_law_numbered" R_law_numbered) (c_law_inner : CalP P w K mg base n "_law_inner" R_law_inner)
    (hl : ∀ ds k, R ds k → ds.length = 3) (hR : ∀ ds κ, R ds κ → t_L_numbered R_law_numbered R_law_inner (endD κ) (enterS 7 ds)) : FnG P w K mg base CX0 (n + 1) f fd ["_law_code", "_law_bound", "_law_parts"] (spD K R) :=
  Fun.okD Fn sc_L_numbered hl ⟨_, fun cdv A outer s H E G H' pn hr hg =>
      (s_cons (s_if (t_cmp (op_eqA hr) ok_eq (d_ix (d_name 0) d_int) d_str (nomark _)) (s_cons (s_set (i := 3) sc_L_numbered.nd rfl (Or.inl rfl) (d_of (f_rev (d_name 1))))
      (s_one (s_ret (d_if (t_cmp (op_inA hr) ok_in (d_ix (d_name 0) d_int) (d_name 3) (by rfl)) (d_tup (a_cons d_str (a_cons (d_index hr (d_name 3) (d_ix (d_name 0) d_int)) a_nil))) (d_get hr (d_name 2) (d_ix (d_name 0) d_int) (d_name 0)))))) s_nil)
      (s_cons (s_if (t_cmp (op_eqA hr) ok_eq (d_ix (d_name 0) d_int) d_str (nomark _)) (s_cons (s_set (i := 4) sc_L_numbered.nd rfl (Or.inl rfl) (d_call ⟨c_law_numbered.ex⟩ hr hg rfl (a_cons (d_ix (d_name 0) d_int) (a_cons (d_add (d_name 1) (d_of (f_lst (a_cons (d_ix (d_name 0) d_int) a_nil)))) (a_cons (d_name 2) a_nil)))))
      (s_one (s_ret (d_tup (a_cons d_str (a_cons (d_call ⟨c_law_numbered.ex⟩ hr hg rfl (a_cons (d_ix (d_name 0) d_int) (a_cons (d_name 1) (a_cons (d_name 2) a_nil)))) (a_cons (d_name 4) a_nil))))))) s_nil)
      (s_cons (s_set (i := 5) sc_L_numbered.nd rfl (Or.inl rfl) (d_totup rfl z_tuple (a_cons (d_of (f_lc (.nm 6) rfl sc_L_numbered.nd (i_seq (d_call ⟨c_law_inner.ex⟩ hr hg rfl (a_cons (d_name 0) a_nil))) bk_L_numbered_0 (fun _ _ _ _ _ => (pg_name (i := 6) sc_L_numbered.nd rfl (Or.inl rfl))) (fun _ _ _ _ _ _ => ts_nil) (fun _ _ _ _ _ _ => (d_call ⟨c_law_numbered.ex⟩ hr hg rfl (a_cons (d_name 6) (a_cons (d_name 1) (a_cons (d_name 2) a_nil))))))) a_nil)))
      (s_cons (s_if (t_cmp (op_eqA hr) ok_eq (d_ix (d_name 0) d_int) d_str (nomark _)) (s_one (s_ret (d_add (d_tup (a_cons d_str a_nil)) (d_name 5)))) s_nil)
      (s_one (s_ret (d_if (t_cmp (op_eqA hr) ok_eq (d_ix (d_name 0) d_int) d_str (nomark _)) (d_name 0) (d_add (d_slice (d_name 0) o_none (o_some d_int)) (d_tup (a_cons (d_name 5) a_nil)))))))))), hR⟩

abbrev s_L_deepened : Stmt := top 18
theorem sc_L_deepened : FnScope ["_law_bag_here", "_law_names", "_law_code", "_law_k", "_law_way"] ["_law_bag_here", "_law_names", "_law_code"] (defScope s_L_deepened) := ⟨rfl, rfl, rfl, by decide +kernel, rfl, by decide +kernel, by decide +kernel⟩
def t_L_deepened (R_law_take : RD) : TSD :=
  (seqT (forT (.nm 3) (rng1I (consA (DL.binT mulD (callT R_law_take (consA (nameT 0) (consA (cT (.int 13)) nilA))) (callT intR (consA (DL.binT eqD (callT R_law_take (consA (nameT 0) (consA (cT (.int 5)) nilA))) (cT (.int 0))) nilA))) nilA)) (seqT (setT 4 (callT R_law_take (consA (nameT 0) (consA (cT (.int 3)) nilA))))
    (setT 2 (DL.binT ixD (ofF (lstF (consA (tupT (consA (cT (.str "work")) (consA (cT (.str "up")) (consA (tupT (consA (nameT 2) nilA)) nilA)))) (consA (tupT (consA (cT (.str "call")) (consA (cT (.str "of")) (consA (tupT (consA (nameT 2) nilA)) nilA)))) (consA (tupT (consA (cT (.str "with")) (consA (DL.binT ixD (nameT 1) (cT (.int 0))) (consA (nameT 2) (consA (tupT (consA (cT (.str "name")) (consA (DL.binT ixD (nameT 1) (negT (cT (.int 1)))) nilA))) nilA))))) nilA))))) (nameT 4)))))
    (retT (nameT 2)))
theorem fn_L_deepened {n : Nat} {R : RD} {f : Addr} {fd : FuncData} {R_law_take : RD} (Fn : Fun K "_law_deepened" "_law_deepened" s_L_deepened f fd) (z_int : mg "int" = none) (z_range : mg "range" = none) (c_law_take : CalP P w K mg base n "_law_take" R_law_take)
    (hl : ∀ ds k, R ds k → ds.length = 3) (hR : ∀ ds κ, R ds κ → t_L_deepened R_law_take (endD κ) (enterS 5 ds)) : FnG P w K mg base CX0 (n + 1) f fd ["_law_bag_here", "_law_names", "_law_code"] (spD K R) :=
  Fun.okD Fn sc_L_deepened hl ⟨_, fun cdv A outer s H E G H' pn hr hg =>
      (s_cons (s_for (t := (.nm 3)) PassesOwn.never rfl (i_rng1 rfl z_range (a_cons (d_mul (d_call ⟨c_law_take.ex⟩ hr hg rfl (a_cons (d_name 0) (a_cons d_int a_nil))) (d_toint rfl z_int (a_cons (d_cmp (op_eqA hr) ok_eq (d_call ⟨c_law_take.ex⟩ hr hg rfl (a_cons (d_name 0) (a_cons d_int a_nil))) d_int (nomark _)) a_nil))) a_nil)) (pg_name (i := 3) sc_L_deepened.nd rfl (Or.inl rfl)) (fun _ => (s_cons (s_set (i := 4) sc_L_deepened.nd rfl (Or.inl rfl) (d_call ⟨c_law_take.ex⟩ hr hg rfl (a_cons (d_name 0) (a_cons d_int a_nil))))
      (s_one (s_set (i := 2) sc_L_deepened.nd rfl (Or.inl rfl) (d_ix (d_of (f_lst (a_cons (d_tup (a_cons d_str (a_cons d_str (a_cons (d_tup (a_cons (d_name 2) a_nil)) a_nil)))) (a_cons (d_tup (a_cons d_str (a_cons d_str (a_cons (d_tup (a_cons (d_name 2) a_nil)) a_nil)))) (a_cons (d_tup (a_cons d_str (a_cons (d_ix (d_name 1) d_int) (a_cons (d_name 2) (a_cons (d_tup (a_cons d_str (a_cons (d_ix (d_name 1) (d_neg d_int)) a_nil))) a_nil))))) a_nil))))) (d_name 4)))))))
      (s_one (s_ret (d_name 2)))), hR⟩

abbrev s_L_exchanged : Stmt := top 19
theorem sc_L_exchanged : FnScope ["_law_bag_here", "_law_code", "_law_names", "_law_some_here", "_law_word", "_law_one"] ["_law_bag_here", "_law_code", "_law_names"] (defScope s_L_exchanged) := ⟨rfl, rfl, rfl, by decide +kernel, rfl, by decide +kernel, by decide +kernel⟩
theorem bk_L_exchanged_0 : BlkOk ["_law_bag_here", "_law_code", "_law_names", "_law_some_here", "_law_word", "_law_one"] (defScope s_L_exchanged) { kind := .function, names := [(".0", .local), ("_law_one", .local), ("_law_exchanged", .globalImplicit), ("_law_bag_here", .free), ("_law_names", .free)], isGenerator := false, isCoroutine := false, more := [] : Scope } [("_law_one", 5)] := blkOk_by (by decide +kernel)
def t_L_exchanged (R_law_inner : RD) (R_law_exchanged : RD) (R_law_some : RD) (R_law_take : RD) (R_law_swapped : RD) : TSD :=
  (seqT (iffT (blT (DL.binT inD (DL.binT ixD (nameT 1) (cT (.int 0))) (tupT (consA (cT (.str "name")) (consA (cT (.str "given")) nilA))))) (retT (nameT 1)) nextT)
    (seqT (setT 3 (ofF (lcF (.nm 5) (seqI (callT R_law_inner (consA (nameT 1) nilA))) yesT (callT R_law_exchanged (consA (nameT 0) (consA (nameT 5) (consA (nameT 2) nilA)))) [5])))
    (seqT (iffT (blT (DL.binT eqD (DL.binT ixD (nameT 1) (cT (.int 0))) (cT (.str "if")))) (retT (DL.binT addD (tupT (consA (cT (.str "if")) nilA)) (callT tupR (consA (nameT 3) nilA)))) nextT)
    (seqT (iffT (blT (DL.binT neD (DL.binT ixD (nameT 1) (cT (.int 0))) (cT (.str "with")))) (retT (DL.binT addD (slT slD (nameT 1) noneO (someO (cT (.int 2)))) (tupT (consA (callT tupR (consA (nameT 3) nilA)) nilA)))) nextT)
    (seqT (setT 4 (callT R_law_some (consA (nameT 0) (consA (DL.binT addD (nameT 2) (ofF (lstF (consA (cT (.str "fresh")) (consA (cT (.str "other")) (consA (DL.binT ixD (nameT 1) (cT (.int 1))) (consA (DL.binT ixD (nameT 1) (cT (.int 1))) nilA))))))) nilA))))
    (retT (tupT (consA (cT (.str "with")) (consA (nameT 4) (consA (DL.binT ixD (nameT 3) (cT (.int 0))) (consA (ifT (blT (DL.binT (cmpI fun i j => decide (i > j)) (callT R_law_take (consA (nameT 0) (consA (cT (.int 5)) nilA))) (cT (.int 0)))) (callT R_law_swapped (consA (DL.binT ixD (nameT 3) (cT (.int 1))) (consA (DL.binT ixD (nameT 1) (cT (.int 1))) (consA (nameT 4) nilA)))) (DL.binT ixD (nameT 3) (cT (.int 1)))) nilA)))))))))))
theorem fn_L_exchanged {n : Nat} {R : RD} {f : Addr} {fd : FuncData} {R_law_inner R_law_exchanged R_law_some R_law_take R_law_swapped : RD} (Fn : Fun K "_law_exchanged" "_law_exchanged" s_L_exchanged f fd) (z_tuple : mg "tuple" = none) (c_law_inner : CalP P w K mg base n "_law_inner" R_law_inner) (c_law_exchanged : CalP P w K mg base n "_law_exchanged" R_law_exchanged) (c_law_some : CalP P w K mg base n "_law_some" R_law_some) (c_law_take : CalP P w K mg base n "_law_take" R_law_take) (c_law_swapped : CalP P w K mg base n "_law_swapped" R_law_swapped)
    (hl : ∀ ds k, R ds k → ds.length = 3) (hR : ∀ ds κ, R ds κ → t_L_exchanged R_law_inner R_law_exchanged R_law_some R_law_take R_law_swapped (endD κ) (enterS 6 ds)) : FnG P w K mg base CX0 (n + 1) f fd ["_law_bag_here", "_law_code", "_law_names"] (spD K R) :=
  Fun.okD Fn sc_L_exchanged hl ⟨_, fun cdv A outer s H E G H' pn hr hg =>
      (s_cons (s_if (t_cmp (op_inA hr) ok_in (d_ix (d_name 1) d_int) (d_tup (a_cons d_str (a_cons d_str a_nil))) (by rfl)) (s_one (s_ret (d_name 1))) s_nil)
      (s_cons (s_setLc (i := 3) (.nm 5) rfl sc_L_exchanged.nd rfl rfl (by rfl) (i_seq (d_call ⟨c_law_inner.ex⟩ hr hg rfl (a_cons (d_name 1) a_nil))) bk_L_exchanged_0 (fun _ _ _ _ _ => (pg_name (i := 5) sc_L_exchanged.nd rfl (Or.inl rfl))) (fun _ _ _ _ _ _ => ts_nil) (fun _ _ _ _ _ _ => (d_call ⟨c_law_exchanged.ex⟩ hr hg rfl (a_cons (d_name 0) (a_cons (d_name 5) (a_cons (d_name 2) a_nil))))))
      (s_cons (s_if (t_cmp (op_eqA hr) ok_eq (d_ix (d_name 1) d_int) d_str (nomark _)) (s_one (s_ret (d_add (d_tup (a_cons d_str a_nil)) (d_totup rfl z_tuple (a_cons (d_name 3) a_nil))))) s_nil)
      (s_cons (s_if (t_cmp (op_neA hr) ok_ne (d_ix (d_name 1) d_int) d_str (nomark _)) (s_one (s_ret (d_add (d_slice (d_name 1) o_none (o_some d_int)) (d_tup (a_cons (d_totup rfl z_tuple (a_cons (d_name 3) a_nil)) a_nil))))) s_nil)
      (s_cons (s_set (i := 4) sc_L_exchanged.nd rfl (Or.inl rfl) (d_call ⟨c_law_some.ex⟩ hr hg rfl (a_cons (d_name 0) (a_cons (d_add (d_name 2) (d_of (f_lst (a_cons d_str (a_cons d_str (a_cons (d_ix (d_name 1) d_int) (a_cons (d_ix (d_name 1) d_int) a_nil))))))) a_nil))))
      (s_one (s_ret (d_tup (a_cons d_str (a_cons (d_name 4) (a_cons (d_ix (d_name 3) d_int) (a_cons (d_if (t_cmp op_gt ok_cmpI (d_call ⟨c_law_take.ex⟩ hr hg rfl (a_cons (d_name 0) (a_cons d_int a_nil))) d_int (nomark _)) (d_call ⟨c_law_swapped.ex⟩ hr hg rfl (a_cons (d_ix (d_name 3) d_int) (a_cons (d_ix (d_name 1) d_int) (a_cons (d_name 4) a_nil)))) (d_ix (d_name 3) d_int)) a_nil)))))))))))), hR⟩

abbrev s_L_swapped : Stmt := top 20
theorem sc_L_swapped : FnScope ["_law_code", "_law_old", "_law_new", "_law_body", "_law_some_here", "_law_one"] ["_law_code", "_law_old", "_law_new"] (defScope s_L_swapped) := ⟨rfl, rfl, rfl, by decide +kernel, rfl, by decide +kernel, by decide +kernel⟩
theorem bk_L_swapped_0 : BlkOk ["_law_code", "_law_old", "_law_new", "_law_body", "_law_some_here", "_law_one"] (defScope s_L_swapped) { kind := .function, names := [(".0", .local), ("_law_one", .local), ("_law_swapped", .globalImplicit), ("_law_new", .free), ("_law_old", .free)], isGenerator := false, isCoroutine := false, more := [] : Scope } [("_law_one", 5)] := blkOk_by (by decide +kernel)
def t_L_swapped (R_law_swapped : RD) (R_law_inner : RD) : TSD :=
  (seqT (iffT (blT (DL.binT inD (DL.binT ixD (nameT 0) (cT (.int 0))) (tupT (consA (cT (.str "name")) (consA (cT (.str "given")) nilA))))) (retT (ifT (blT (DL.binT eqD (nameT 0) (tupT (consA (cT (.str "name")) (consA (nameT 1) nilA))))) (tupT (consA (cT (.str "name")) (consA (nameT 2) nilA))) (nameT 0))) nextT)
    (seqT (iffT (blT (DL.binT eqD (DL.binT ixD (nameT 0) (cT (.int 0))) (cT (.str "with")))) (seqT (setT 3 (ifT (blT (DL.binT eqD (DL.binT ixD (nameT 0) (cT (.int 1))) (nameT 1))) (DL.binT ixD (nameT 0) (cT (.int 3))) (callT R_law_swapped (consA (DL.binT ixD (nameT 0) (cT (.int 3))) (consA (nameT 1) (consA (nameT 2) nilA))))))
    (retT (tupT (consA (cT (.str "with")) (consA (DL.binT ixD (nameT 0) (cT (.int 1))) (consA (callT R_law_swapped (consA (DL.binT ixD (nameT 0) (cT (.int 2))) (consA (nameT 1) (consA (nameT 2) nilA)))) (consA (nameT 3) nilA))))))) nextT)
    (seqT (setT 4 (callT tupR (consA (ofF (lcF (.nm 5) (seqI (callT R_law_inner (consA (nameT 0) nilA))) yesT (callT R_law_swapped (consA (nameT 5) (consA (nameT 1) (consA (nameT 2) nilA)))) [5])) nilA)))
    (retT (ifT (blT (DL.binT eqD (DL.binT ixD (nameT 0) (cT (.int 0))) (cT (.str "if")))) (DL.binT addD (tupT (consA (cT (.str "if")) nilA)) (nameT 4)) (DL.binT addD (slT slD (nameT 0) noneO (someO (cT (.int 2)))) (tupT (consA (nameT 4) nilA))))))))
theorem fn_L_swapped {n : Nat} {R : RD} {f : Addr} {fd : FuncData} {R_law_swapped R_law_inner : RD} (Fn : Fun K "_law_swapped" "_law_swapped" s_L_swapped f fd) (z_tuple : mg "tuple" = none) (c_law_swapped : CalP P w K mg base n "_law_swapped" R_law_swapped) (c_law_inner : CalP P w K mg base n "_law_inner" R_law_inner)
    (hl : ∀ ds k, R ds k → ds.length = 3) (hR : ∀ ds κ, R ds κ → t_L_swapped R_law_swapped R_law_inner (endD κ) (enterS 6 ds)) : FnG P w K mg base CX0 (n + 1) f fd ["_law_code", "_law_old", "_law_new"] (spD K R) :=
  Fun.okD Fn sc_L_swapped hl ⟨_, fun cdv A outer s H E G H' pn hr hg =>
      (s_cons (s_if (t_cmp (op_inA hr) ok_in (d_ix (d_name 0) d_int) (d_tup (a_cons d_str (a_cons d_str a_nil))) (by rfl)) (s_one (s_ret (d_if (t_cmp (op_eqA hr) ok_eq (d_name 0) (d_tup (a_cons d_str (a_cons (d_name 1) a_nil))) (nomark _)) (d_tup (a_cons d_str (a_cons (d_name 2) a_nil))) (d_name 0)))) s_nil)
      (s_cons (s_if (t_cmp (op_eqA hr) ok_eq (d_ix (d_name 0) d_int) d_str (nomark _)) (s_cons (s_set (i := 3) sc_L_swapped.nd rfl (Or.inl rfl) (d_if (t_cmp (op_eqA hr) ok_eq (d_ix (d_name 0) d_int) (d_name 1) (nomark _)) (d_ix (d_name 0) d_int) (d_call ⟨c_law_swapped.ex⟩ hr hg rfl (a_cons (d_ix (d_name 0) d_int) (a_cons (d_name 1) (a_cons (d_name 2) a_nil))))))
      (s_one (s_ret (d_tup (a_cons d_str (a_cons (d_ix (d_name 0) d_int) (a_cons (d_call ⟨c_law_swapped.ex⟩ hr hg rfl (a_cons (d_ix (d_name 0) d_int) (a_cons (d_name 1) (a_cons (d_name 2) a_nil)))) (a_cons (d_name 3) a_nil)))))))) s_nil)
      (s_cons (s_set (i := 4) sc_L_swapped.nd rfl (Or.inl rfl) (d_totup rfl z_tuple (a_cons (d_of (f_lc (.nm 5) rfl sc_L_swapped.nd (i_seq (d_call ⟨c_law_inner.ex⟩ hr hg rfl (a_cons (d_name 0) a_nil))) bk_L_swapped_0 (fun _ _ _ _ _ => (pg_name (i := 5) sc_L_swapped.nd rfl (Or.inl rfl))) (fun _ _ _ _ _ _ => ts_nil) (fun _ _ _ _ _ _ => (d_call ⟨c_law_swapped.ex⟩ hr hg rfl (a_cons (d_name 5) (a_cons (d_name 1) (a_cons (d_name 2) a_nil))))))) a_nil)))
      (s_one (s_ret (d_if (t_cmp (op_eqA hr) ok_eq (d_ix (d_name 0) d_int) d_str (nomark _)) (d_add (d_tup (a_cons d_str a_nil)) (d_name 4)) (d_add (d_slice (d_name 0) o_none (o_some d_int)) (d_tup (a_cons (d_name 4) a_nil))))))))), hR⟩

abbrev s_law : Stmt := top 21
theorem sc_law : FnScope ["_law_script", "_law_bag_here", "_law_spin", "_law_names", "_law_code", "_law_other", "_law_due", "_law_again", "_law_found"] ["_law_script"] (defScope s_law) := ⟨rfl, rfl, rfl, by decide +kernel, rfl, by decide +kernel, by decide +kernel⟩
def t_law (R_law_take : RD) (R_law_names_of : RD) (R_law_any : RD) (R_law_deepened : RD) (R_law_exchanged : RD) (R_law_addresses : RD) (R_law_some : RD) (R_law_put : RD) (R_law_numbered : RD) (Rsame_but_bound : RD) (R_law_alike : RD) : TSD :=
  (seqT (forT (.nm 2) (rng1I (consA (cT (.int 12)) nilA)) (seqT (setT 3 (callT R_law_names_of (consA (nameT 1) (consA (DL.binT addD (cT (.int 1)) (callT R_law_take (consA (nameT 1) (consA (cT (.int 3)) nilA)))) nilA))))
    (seqT (setT 4 (callT R_law_deepened (consA (nameT 1) (consA (nameT 3) (consA (callT R_law_any (consA (nameT 1) (consA (nameT 3) (consA (DL.binT addD (cT (.int 1)) (callT R_law_take (consA (nameT 1) (consA (cT (.int 30)) nilA)))) nilA)))) nilA)))))
    (seqT (setT 5 (callT R_law_exchanged (consA (nameT 1) (consA (nameT 4) (consA (nameT 3) nilA)))))
    (seqT (iffT (blT (DL.binT eqD (callT R_law_take (consA (nameT 1) (consA (cT (.int 3)) nilA))) (cT (.int 0)))) (setT 5 (callT R_law_put (consA (nameT 5) (consA (callT R_law_some (consA (nameT 1) (consA (callT R_law_addresses (consA (nameT 5) nilA)) nilA))) (consA (callT R_law_any (consA (nameT 1) (consA (nameT 3) (consA (cT (.int 3)) nilA)))) nilA))))) nextT)
    (seqT (iffT (blT (DL.binT eqD (callT R_law_take (consA (nameT 1) (consA (cT (.int 3)) nilA))) (cT (.int 0)))) (setT 5 (callT R_law_exchanged (consA (nameT 1) (consA (nameT 5) (consA (nameT 3) nilA))))) nextT)
    (seqT (setT 6 (DL.binT eqD (callT R_law_numbered (consA (nameT 4) (consA (ofF (lstF nilA)) (consA (cT (.dic false [])) nilA)))) (callT R_law_numbered (consA (nameT 5) (consA (ofF (lstF nilA)) (consA (cT (.dic false [])) nilA))))))
    (forT (.nm 7) (rng1I (consA (cT (.int 2)) nilA)) (seqT (setT 8 (ofF (lstF (consA (callT Rsame_but_bound (consA (nameT 4) (consA (nameT 5) nilA))) (consA (callT Rsame_but_bound (consA (nameT 5) (consA (nameT 4) nilA))) nilA)))))
    (iffT (notB (truT (callT R_law_alike (consA (DL.binT addD (nameT 8) (ofF (lstF (consA (callT Rsame_but_bound (consA (nameT 4) (consA (nameT 4) nilA))) nilA)))) (consA (ofF (lstF (consA (nameT 6) (consA (nameT 6) (consA (cT (.bl true)) nilA))))) nilA))))) (retT (cT (.bl false))) nextT))))))))))
    (retT (cT (.bl true))))
theorem fn_law {n : Nat} {f : Addr} {fd : FuncData} {R_law_take R_law_names_of R_law_any R_law_deepened R_law_exchanged R_law_addresses R_law_some R_law_put R_law_numbered Rsame_but_bound R_law_alike : RD} (Fn : Fun K "law" "law" s_law f fd) (z_range : mg "range" = none) (cbag : BagP P w K mg base n "_law_bag") (c_law_take : CalP P w K mg base n "_law_take" R_law_take) (c_law_names_of : CalP P w K mg base n "_law_names_of" R_law_names_of) (c_law_any : CalP P w K mg base n "_law_any" R_law_any) (c_law_deepened : CalP P w K mg base n "_law_deepened" R_law_deepened) (c_law_exchanged : CalP P w K mg base n "_law_exchanged" R_law_exchanged) (c_law_addresses : CalP P w K mg base n "_law_addresses" R_law_addresses) (c_law_some : CalP P w K mg base n "_law_some" R_law_some) (c_law_put : CalP P w K mg base n "_law_put" R_law_put) (c_law_numbered : CalP P w K mg base n "_law_numbered" R_law_numbered) (csame_but_bound : CalP P w K mg base n "same_but_bound" Rsame_but_bound) (c_law_alike : CalP P w K mg base n "_law_alike" R_law_alike)
    (hR : t_law R_law_take R_law_names_of R_law_any R_law_deepened R_law_exchanged R_law_addresses R_law_some R_law_put R_law_numbered Rsame_but_bound R_law_alike endLaw (.un :: .dat .bag :: List.replicate 7 .un)) : FnG P w K mg base CX0 (n + 1) f fd ["_law_script"] (spLaw K) :=
  Fun.okLaw Fn sc_law rfl rfl ⟨_, fun cdv A outer s H E hr hg => ⟨s_bag0 ⟨cbag.ex⟩ hr hg sc_law.nd rfl (Or.inl rfl) rfl rfl, fun G H' pn =>
      (s_cons (s_for (t := (.nm 2)) PassesOwn.never rfl (i_rng1 rfl z_range (a_cons d_int a_nil)) (pg_name (i := 2) sc_law.nd rfl (Or.inl rfl)) (fun _ => (s_cons (s_set (i := 3) sc_law.nd rfl (Or.inl rfl) (d_call ⟨c_law_names_of.ex⟩ hr hg rfl (a_cons (d_name 1) (a_cons (d_add d_int (d_call ⟨c_law_take.ex⟩ hr hg rfl (a_cons (d_name 1) (a_cons d_int a_nil)))) a_nil))))
      (s_cons (s_set (i := 4) sc_law.nd rfl (Or.inl rfl) (d_call ⟨c_law_deepened.ex⟩ hr hg rfl (a_cons (d_name 1) (a_cons (d_name 3) (a_cons (d_call ⟨c_law_any.ex⟩ hr hg rfl (a_cons (d_name 1) (a_cons (d_name 3) (a_cons (d_add d_int (d_call ⟨c_law_take.ex⟩ hr hg rfl (a_cons (d_name 1) (a_cons d_int a_nil)))) a_nil)))) a_nil)))))
      (s_cons (s_set (i := 5) sc_law.nd rfl (Or.inl rfl) (d_call ⟨c_law_exchanged.ex⟩ hr hg rfl (a_cons (d_name 1) (a_cons (d_name 4) (a_cons (d_name 3) a_nil)))))
      (s_cons (s_if (t_cmp (op_eqA hr) ok_eq (d_call ⟨c_law_take.ex⟩ hr hg rfl (a_cons (d_name 1) (a_cons d_int a_nil))) d_int (nomark _)) (s_one (s_set (i := 5) sc_law.nd rfl (Or.inl rfl) (d_call ⟨c_law_put.ex⟩ hr hg rfl (a_cons (d_name 5) (a_cons (d_call ⟨c_law_some.ex⟩ hr hg rfl (a_cons (d_name 1) (a_cons (d_call ⟨c_law_addresses.ex⟩ hr hg rfl (a_cons (d_name 5) a_nil)) a_nil))) (a_cons (d_call ⟨c_law_any.ex⟩ hr hg rfl (a_cons (d_name 1) (a_cons (d_name 3) (a_cons d_int a_nil)))) a_nil)))))) s_nil)
      (s_cons (s_if (t_cmp (op_eqA hr) ok_eq (d_call ⟨c_law_take.ex⟩ hr hg rfl (a_cons (d_name 1) (a_cons d_int a_nil))) d_int (nomark _)) (s_one (s_set (i := 5) sc_law.nd rfl (Or.inl rfl) (d_call ⟨c_law_exchanged.ex⟩ hr hg rfl (a_cons (d_name 1) (a_cons (d_name 5) (a_cons (d_name 3) a_nil)))))) s_nil)
      (s_cons (s_set (i := 6) sc_law.nd rfl (Or.inl rfl) (d_cmp (op_eqA hr) ok_eq (d_call ⟨c_law_numbered.ex⟩ hr hg rfl (a_cons (d_name 4) (a_cons (d_of (f_lst a_nil)) (a_cons d_dict0 a_nil)))) (d_call ⟨c_law_numbered.ex⟩ hr hg rfl (a_cons (d_name 5) (a_cons (d_of (f_lst a_nil)) (a_cons d_dict0 a_nil)))) (nomark _)))
      (s_one (s_for (t := (.nm 7)) PassesOwn.never rfl (i_rng1 rfl z_range (a_cons d_int a_nil)) (pg_name (i := 7) sc_law.nd rfl (Or.inl rfl)) (fun _ => (s_cons (s_set (i := 8) sc_law.nd rfl (Or.inl rfl) (d_of (f_lst (a_cons (d_call ⟨csame_but_bound.ex⟩ hr hg rfl (a_cons (d_name 4) (a_cons (d_name 5) a_nil))) (a_cons (d_call ⟨csame_but_bound.ex⟩ hr hg rfl (a_cons (d_name 5) (a_cons (d_name 4) a_nil))) a_nil)))))
      (s_one (s_if (t_not (t_tru (d_call ⟨c_law_alike.ex⟩ hr hg rfl (a_cons (d_add (d_name 8) (d_of (f_lst (a_cons (d_call ⟨csame_but_bound.ex⟩ hr hg rfl (a_cons (d_name 4) (a_cons (d_name 4) a_nil))) a_nil)))) (a_cons (d_of (f_lst (a_cons (d_name 6) (a_cons (d_name 6) (a_cons d_bl a_nil))))) a_nil))))) (s_one (s_ret d_bl)) s_nil))))))))))))))
      (s_one (s_ret d_bl)))⟩, hR⟩

end
end K16

set_option Elab.async false
set_option linter.all false
set_option maxRecDepth 100000
set_option maxHeartbeats 4000000
namespace K16
open PySem L2 DL
local macro_rules | `(tactic| walk_at "dl") => `(tactic| simp only [seqT, iffT, setT, retT, nextT, retN, blT, DL.binT, nameT, cT, bagT, cutBT, putBT, augBT, consA, nilA, callT, ofF, lstF, lstR, tupT, eqD, neD, inD, notInD, someO, noneO, slT, revF, endD, enterS, ifT, andT, orT, notT, andB, orB, notB, truT, newT, mT, thruT, thruB, frzT, putT, parT, tgtT, methT, onT, isStr, isLst, getT, starA, negT, dropT, breakT, contT, tgD, putA, seqI, rng1I, enumI, zipI, forT, lcF, wipeS,
  addD_ii, addD_ib, addD_ss, addD_ll, addD_tt, subD_ii, mulD_ii, mulD_li, fdivD_ii, modD_ii, cmpI_ii, eqB_ss, eqB_ii, eqB_bb, eqB_tt, eqB_ll, inB_l, inB_t, ixD_l, ixD_t, ixD_s, slD_l, slD_t, truD_b, truD_i, truD_n, truD_s, truD_l, truD_t, intR_i, intR_b, lenR_s, lenR_l, lenR_t, absR_i, minR_ii, maxR_ii, tupR_l, tupR_t, appD_1, insD_1, extD_1, splitM_1, optK_some, atI_0, atI_1, atI_2, atI_3, atI_4, cutL_1, cutL_2, cutL_t1, cutL_t2,
  List.map_cons, List.map_nil, List.replicate_succ, List.replicate_zero, List.cons_append, List.nil_append, List.length_cons, List.length_nil, List.set_cons_zero, List.set_cons_succ, List.getElem?_cons_zero, List.getElem?_cons_succ, List.drop_succ_cons, List.drop_zero, List.take_succ_cons, List.take_zero, true_and, and_true, true_or, or_true, decide_eq_true_eq, reduceCtorEq, if_true, if_false, ite_true, ite_false, D.int.injEq, Nat.reduceAdd, Nat.reduceSub, Int.reduceSub, Int.reduceAdd, Int.reduceNeg, Bool.false_eq_true, Bool.true_eq_false, decide_true, decide_false, Bool.not_true, Bool.not_false, Bool.not_eq_true', decide_eq_false_iff_not])
def R_take : RD := fun ds k => ∃ m : Int, ds = [.bag, .int m] ∧ 0 < m ∧ m < 2 ^ 30 ∧ ∀ i : Int, 0 ≤ i → i < m → k (.int i)
theorem p_take : ∀ ds κ, R_take ds κ → t_L_take (endD κ) (enterS 7 ds) := by
  rintro ds κ ⟨m, rfl, h0, h1, h⟩
  unfold t_L_take
  walk_at "dl"
  have hm : ∀ i : Int, κ (.int (i % m)) := fun i => h _ (Int.emod_nonneg _ (by omega)) (Int.emod_lt_of_pos _ h0)
  have cm : ∀ {a b : Int}, 0 ≤ b → b < 2 ^ 64 → CMul a b := fun h1 h2 => .inr ⟨by omega, h2⟩
  have cd : ∀ {a b c : Int}, 0 ≤ a → a < 2 ^ 64 → CMul a c := fun h1 h2 => .inl ⟨by omega, h2⟩
  have em : ∀ {a b : Int}, 0 < b → 0 ≤ a % b ∧ a % b < b := fun hb => ⟨Int.emod_nonneg _ (by omega), Int.emod_lt_of_pos _ hb⟩
  intro x hx
  split
  · intro y hy ns hns hl
    have hs : sizeLine = 16777216 := sizeLine_eq
    refine ⟨by omega, by rw [List.length_map]; omega, ?_⟩
    have hc : ∃ c : Int, 0 ≤ c ∧ L2.atI (List.map D.int ns ++ [D.int 0]) 0 = some (D.int c) := by
      cases ns with
      | nil => exact ⟨0, by omega, atI_0⟩
      | cons a ns => exact ⟨a, hns a List.mem_cons_self, atI_0⟩
    obtain ⟨c, hc, e⟩ := hc
    refine optK_of e ⟨1, by omega, rfl, ?_⟩
    walk_at "dl"
    have tl : ∀ (z u : Int), 0 ≤ z → (0 ≤ u) → CMul z 48271 ∧ CMul 7919 u := fun z u _ _ => ⟨cm (by omega) (by omega), .inl ⟨by omega, by omega⟩⟩
    split
    · refine ⟨c, hc, rfl, fun z hz => ⟨cm (by omega) (by omega), by omega, fun u hu => ⟨.inl ⟨by omega, by omega⟩, by omega, _, (em (by omega)).1, rfl, fun v hv => ?_⟩⟩⟩
      split
      · exact fun a ha => ⟨h0, fun b hb => ⟨⟨h0, by omega⟩, _, Int.ediv_nonneg hb (by omega), rfl, hm _⟩⟩
      · exact fun a ha => ⟨cm (by omega) (by omega), by omega, .inl ⟨by have := (em (a := (a + 1) * 39373) (b := 1000000007) (by omega)).1; omega, by have := (em (a := (a + 1) * 39373) (b := 1000000007) (by omega)).2; omega⟩, by omega, cm (by omega) (by omega), by omega, ⟨by omega, by omega⟩, h0, hm _⟩
    · refine fun z hz => ⟨cm (by omega) (by omega), by omega, fun u hu => ⟨.inl ⟨by omega, by omega⟩, by omega, _, (em (by omega)).1, rfl, fun v hv => ?_⟩⟩
      split
      · exact fun a ha => ⟨h0, fun b hb => ⟨⟨h0, by omega⟩, _, Int.ediv_nonneg hb (by omega), rfl, hm _⟩⟩
      · exact fun a ha => ⟨cm (by omega) (by omega), by omega, .inl ⟨by have := (em (a := (a + 1) * 39373) (b := 1000000007) (by omega)).1; omega, by have := (em (a := (a + 1) * 39373) (b := 1000000007) (by omega)).2; omega⟩, by omega, cm (by omega) (by omega), by omega, ⟨by omega, by omega⟩, h0, hm _⟩
  · intro v hv
    split
    · exact fun a ha => ⟨h0, fun b hb => ⟨⟨h0, by omega⟩, _, Int.ediv_nonneg hb (by omega), rfl, hm _⟩⟩
    · exact fun a ha => ⟨cm (by omega) (by omega), by omega, .inl ⟨by have := (em (a := (a + 1) * 39373) (b := 1000000007) (by omega)).1; omega, by have := (em (a := (a + 1) * 39373) (b := 1000000007) (by omega)).2; omega⟩, by omega, cm (by omega) (by omega), by omega, ⟨by omega, by omega⟩, h0, hm _⟩
end K16

set_option Elab.async false
set_option linter.all false
set_option maxRecDepth 100000
set_option maxHeartbeats 4000000
namespace K16
open PySem L2 DL
local macro_rules | `(tactic| walk_at "dl") => `(tactic| simp only [seqT, iffT, setT, retT, nextT, retN, blT, DL.binT, nameT, cT, bagT, cutBT, putBT, augBT, consA, nilA, callT, ofF, lstF, lstR, tupT, eqD, neD, inD, notInD, someO, noneO, slT, revF, endD, enterS, ifT, andT, orT, notT, andB, orB, notB, truT, newT, mT, thruT, thruB, frzT, putT, parT, tgtT, methT, onT, isStr, isLst, getT, starA, negT, dropT, breakT, contT, tgD, putA, seqI, rng1I, enumI, zipI, forT, lcF, wipeS,
  addD_ii, addD_ib, addD_ss, addD_ll, addD_tt, subD_ii, mulD_ii, mulD_li, fdivD_ii, modD_ii, cmpI_ii, eqB_ss, eqB_ii, eqB_bb, eqB_tt, eqB_ll, inB_l, inB_t, ixD_l, ixD_t, ixD_s, slD_l, slD_t, truD_b, truD_i, truD_n, truD_s, truD_l, truD_t, intR_i, intR_b, lenR_s, lenR_l, lenR_t, absR_i, minR_ii, maxR_ii, tupR_l, tupR_t, appD_1, insD_1, extD_1, splitM_1, optK_some, atI_0, atI_1, atI_2, atI_3, atI_4, cutL_1, cutL_2, cutL_t1, cutL_t2,
  List.map_cons, List.map_nil, List.replicate_succ, List.replicate_zero, List.cons_append, List.nil_append, List.length_cons, List.length_nil, List.set_cons_zero, List.set_cons_succ, List.getElem?_cons_zero, List.getElem?_cons_succ, List.drop_succ_cons, List.drop_zero, List.take_succ_cons, List.take_zero, true_and, and_true, true_or, or_true, decide_eq_true_eq, reduceCtorEq, if_true, if_false, ite_true, ite_false, D.int.injEq, Nat.reduceAdd, Nat.reduceSub, Int.reduceSub, Int.reduceAdd, Int.reduceNeg, Bool.false_eq_true, Bool.true_eq_false, decide_true, decide_false, Bool.not_true, Bool.not_false, Bool.not_eq_true', decide_eq_false_iff_not])
/-! ### draws -/
def R_some : RD := fun ds k => (∃ xs, ds = [.bag, .lst xs] ∧ xs ≠ [] ∧ xs.length < 2 ^ 20 ∧ ∀ x ∈ xs, k x) ∨ ∃ z : Str, ds = [.bag, .str z] ∧ 0 < z.length ∧ z.length < 2 ^ 20 ∧ ∀ c ∈ z.cps.toList, k (.str ⟨#[c]⟩)
theorem p_some : ∀ ds κ, R_some ds κ → t_L_some R_take (endD κ) (enterS 2 ds) := by
  have hs : sizeLine = 16777216 := sizeLine_eq
  rintro ds κ (⟨xs, rfl, hn, hl, h⟩ | ⟨z, rfl, hn, hl, h⟩)
  · unfold t_L_some
    walk_at "dl"
    have hp : 0 < xs.length := List.length_pos_iff.mpr hn
    refine ⟨_, rfl, by omega, by omega, fun i h0 h1 => ?_⟩
    walk_at "dl"
    obtain ⟨c, e1, e2⟩ := atI_lt h0 h1
    exact optK_of e1 (h c (List.mem_of_getElem? e2))
  · unfold t_L_some
    walk_at "dl"
    refine ⟨by omega, _, rfl, by omega, by omega, fun i h0 h1 => ?_⟩
    walk_at "dl"
    have h2 : i < z.cps.toList.length := h1
    obtain ⟨c, e1, e2⟩ := atI_lt h0 h2
    exact ⟨by omega, optK_of e1 (h c (List.mem_of_getElem? e2))⟩
/-- some order of what is there -/
def R_mixed (n : Nat) : RD := fun ds k => ∃ xs, (ds = [.bag, .lst xs] ∨ ds = [.bag, .tup xs]) ∧ xs.length ≤ n ∧ ∀ ys : List D, (∀ y, y ∈ ys ↔ y ∈ xs) → ys.length = xs.length → k (.lst ys)
theorem p_mixed {n : Nat} (hn : n < 2 ^ 20) : ∀ ds κ, R_mixed n ds κ → t_L_mixed R_take (endD κ) (enterS 4 ds) := by
  have hs : sizeLine = 16777216 := sizeLine_eq
  rintro ds κ ⟨xs, hd, hl, h⟩
  have go : ∀ s0 : D, (s0 = .lst xs ∨ s0 = .tup xs) → t_L_mixed R_take (endD κ) (enterS 4 [.bag, s0]) := by
    intro s0 hs0
    unfold t_L_mixed
    walk_at "dl"
    refine ⟨by omega, by omega, ?_⟩
    have main : loopT (.nm 3) (mT 2 insD (consA (thruT 2 (callT R_take (consA (nameT 0) (consA (DL.binT addD (callT lenR (consA (nameT 2) nilA)) (cT (.int 1))) nilA)))) (consA (nameT 3) nilA)))
        { nx := frzT 2 (retT (nameT 2)) (endD κ), rt := (endD κ).rt, bk := (endD κ).bk, ct := (endD κ).ct } xs [.dat .bag, .dat s0, .ml [], .un] := by
      refine loopT_ind (I := fun rest ρ => ∃ ys u, ρ = [.dat .bag, .dat s0, .ml ys, u] ∧ (∀ y, (y ∈ ys ∨ y ∈ rest) ↔ y ∈ xs) ∧ ys.length + rest.length = xs.length) ?_ ?_ ⟨[], .un, rfl, fun y => by simp, by simp⟩
      · rintro ρ ⟨ys, u, rfl, h1, h2⟩
        walk_at "dl"
        exact h ys (fun y => by rw [← h1 y]; simp) (by simpa using h2)
      · rintro d rest ρ N hN ⟨ys, u, rfl, h1, h2⟩
        rw [List.length_cons] at h2
        walk_at "dl"
        refine ⟨_, rfl, by omega, by omega, fun i h3 h4 => ⟨rfl, ?_⟩⟩
        walk_at "dl"
        refine ⟨by omega, h3, by omega, hN _ ⟨_, _, rfl, fun y => ?_, by simp [List.length_take, List.length_drop]; omega⟩⟩
        rw [← h1 y]
        have e : ys = ys.take i.toNat ++ ys.drop i.toNat := (List.take_append_drop _ _).symm
        have e2 : y ∈ ys ↔ y ∈ ys.take i.toNat ∨ y ∈ ys.drop i.toNat := by
          constructor
          · intro hy; rw [e] at hy; exact List.mem_append.mp hy
          · intro hy; rw [e]; exact List.mem_append.mpr hy
        rw [e2]
        simp only [List.mem_append, List.mem_cons, List.not_mem_nil, or_false]
        constructor
        · rintro (((a | b) | c) | d)
          · exact .inl (.inl a)
          · exact .inr (.inl b)
          · exact .inl (.inr c)
          · exact .inr (.inr d)
        · rintro ((a | b) | (c | d))
          · exact .inl (.inl (.inl a))
          · exact .inl (.inr b)
          · exact .inl (.inl (.inr c))
          · exact .inr d
    rcases hs0 with rfl | rfl <;> exact main
  rcases hd with rfl | rfl
  · exact go _ (.inl rfl)
  · exact go _ (.inr rfl)
/-- lists of bools compared -/
def R_alike : RD := fun ds k => ∃ as bs : List Bool, ds = [.lst (as.map .bl), .lst (bs.map .bl)] ∧ as = bs ∧ as.length ≤ 10 ∧ k (.bl true)
end K16

set_option Elab.async false
set_option linter.all false
set_option maxRecDepth 100000
set_option maxHeartbeats 4000000
namespace K16
open PySem L2 DL
local macro_rules | `(tactic| walk_at "dl") => `(tactic| simp only [seqT, iffT, setT, retT, nextT, retN, blT, DL.binT, nameT, cT, bagT, cutBT, putBT, augBT, consA, nilA, callT, ofF, lstF, lstR, tupT, eqD, neD, inD, notInD, someO, noneO, slT, revF, endD, enterS, ifT, andT, orT, notT, andB, orB, notB, truT, newT, mT, thruT, thruB, frzT, putT, parT, tgtT, methT, onT, isStr, isLst, getT, starA, negT, dropT, breakT, contT, tgD, putA, seqI, rng1I, enumI, zipI, forT, lcF, wipeS,
  addD_ii, addD_ib, addD_ss, addD_ll, addD_tt, subD_ii, mulD_ii, mulD_li, fdivD_ii, modD_ii, cmpI_ii, eqB_ss, eqB_ii, eqB_bb, eqB_tt, eqB_ll, inB_l, inB_t, ixD_l, ixD_t, ixD_s, slD_l, slD_t, truD_b, truD_i, truD_n, truD_s, truD_l, truD_t, intR_i, intR_b, lenR_s, lenR_l, lenR_t, absR_i, minR_ii, maxR_ii, tupR_l, tupR_t, appD_1, insD_1, extD_1, splitM_1, optK_some, atI_0, atI_1, atI_2, atI_3, atI_4, cutL_1, cutL_2, cutL_t1, cutL_t2,
  List.map_cons, List.map_nil, List.replicate_succ, List.replicate_zero, List.cons_append, List.nil_append, List.length_cons, List.length_nil, List.set_cons_zero, List.set_cons_succ, List.getElem?_cons_zero, List.getElem?_cons_succ, List.drop_succ_cons, List.drop_zero, List.take_succ_cons, List.take_zero, true_and, and_true, true_or, or_true, decide_eq_true_eq, reduceCtorEq, if_true, if_false, ite_true, ite_false, D.int.injEq, Nat.reduceAdd, Nat.reduceSub, Int.reduceSub, Int.reduceAdd, Int.reduceNeg, Bool.false_eq_true, Bool.true_eq_false, decide_true, decide_false, Bool.not_true, Bool.not_false, Bool.not_eq_true', decide_eq_false_iff_not])
/-! ### words -/
abbrev Good (ws : List Str) : Prop := ∀ w ∈ ws, PyData.strOk w = true
theorem lay_strs : ∀ ws : List Str, Good ws → PyData.canLayAll0 (D.pys (ws.map .str)) = true
  | [], _ => by simp [D.pys, PyData.canLayAll0]
  | w :: ws, h => by simp [D.pys, D.py, PyData.canLayAll0, PyData.canLay0, lay_strs ws fun z hz => h z (List.mem_cons_of_mem _ hz), h w List.mem_cons_self]
theorem in_strs {x : Str} {ws : List Str} (hx : PyData.strOk x = true) (h : Good ws) : inOk (.str x) (ws.map .str) := ⟨by simp [D.py, PyData.canLay0, hx], lay_strs ws h, by simp [D.py, PyData.depth]⟩
/-- found + [word] * int(word not in found) -/
theorem grows {x : Str} {ws : List Str} {κ : D → Prop} (B : Bool) (hB : B = true → ws ≠ []) (hx : PyData.strOk x = true) (hw : Good ws) (h : ∀ ws' : List Str, Good ws' → ws' ≠ [] → ws'.length ≤ ws.length + 1 → κ (.lst (ws'.map .str))) (hl : ws.length < 2 ^ 20) :
    ((-2 ^ 63 ≤ if B = false then (1 : Int) else 0) ∧ (if B = false then (1 : Int) else 0) < 2 ^ 63) ∧ 1 * (if B = false then (1 : Int) else 0).toNat ≤ sizeLine ∧
      (ws.map D.str).length + (List.replicate (if B = false then (1 : Int) else 0).toNat [D.str x]).flatten.length ≤ sizeLine ∧ κ (.lst (ws.map .str ++ (List.replicate (if B = false then (1 : Int) else 0).toNat [D.str x]).flatten)) := by
  have hs : sizeLine = 16777216 := sizeLine_eq
  cases B with
  | true =>
    have e : ws.map D.str ++ (List.replicate (if true = false then (1 : Int) else 0).toNat [D.str x]).flatten = ws.map .str := by simp
    rw [e]
    exact ⟨by simp, by simp, by simp; omega, h ws hw (hB rfl) (by omega)⟩
  | false =>
    have e : ws.map D.str ++ (List.replicate (if false = false then (1 : Int) else 0).toNat [D.str x]).flatten = (ws ++ [x]).map .str := by rw [List.map_append]; rfl
    rw [e]
    exact ⟨by simp, by simp; omega, by simp; omega, h (ws ++ [x]) (fun z hz => by rcases List.mem_append.mp hz with q | q; exact hw z q; rw [List.mem_singleton.mp q]; exact hx) (by simp) (by simp)⟩
theorem any_ne {ws : List Str} {f : D → Bool} (h : (ws.map D.str).any f = true) : ws ≠ [] := fun e => by rw [e] at h; simp at h
def R_words : RD := fun ds k => ∃ m : Int, ds = [.bag, .int m] ∧ 1 ≤ m ∧ m ≤ 3 ∧ ∀ ws : List Str, Good ws → ws ≠ [] → ws.length ≤ 3 → k (.lst (ws.map .str))
abbrev wordsText : Str := "name given work if with call leaf test worth place there code up of one a aa b zzzzzzzz"
theorem words_len : (Txt.split wordsText " ").length = 19 := by decide +kernel
theorem words_ok : (Txt.split wordsText " ").all PyData.strOk = true := by decide +kernel
theorem p_words : ∀ ds κ, R_words ds κ → t_L_words R_take (R_mixed 5) (endD κ) (enterS 6 ds) := by
  have hs : sizeLine = 16777216 := sizeLine_eq
  rintro ds κ ⟨m, rfl, h1, h3, h⟩
  unfold t_L_words
  walk_at "dl"
  refine ⟨⟨by decide +kernel, by decide +kernel⟩, _, rfl, by omega, by omega, fun i i0 i1 => ⟨by omega, ?_⟩⟩
  have wl := words_len
  have wo : Good (Txt.split wordsText " ") := List.all_eq_true.mp words_ok
  generalize hW : Txt.split _ _ = W at wl wo ⊢
  refine ⟨by simp only [List.length_map, wl]; omega, ?_⟩
  walk_at "dl"
  obtain ⟨a, rfl⟩ : ∃ a : Nat, i = a := ⟨i.toNat, by omega⟩
  obtain ⟨b, rfl⟩ : ∃ b : Nat, m = b := ⟨m.toNat, by omega⟩
  have e2 : ((a : Int) + (b : Int) + 2) = ((a + b + 2 : Nat) : Int) := by omega
  rw [e2, cutL_r, ← List.map_append, ← List.map_drop, ← List.map_take]
  generalize hV : List.take _ _ = V
  have hl : V.length = b + 2 := by
    rw [← hV, List.length_take, List.length_drop, List.length_append, wl]; omega
  have vo : Good V := fun v hv => by
    rw [← hV] at hv
    rcases List.mem_append.mp (List.mem_of_mem_drop (List.mem_of_mem_take hv)) with q | q <;> exact wo v q
  refine ⟨_, .inl rfl, by rw [List.length_map, hl]; omega, fun ys hy hyl => ?_⟩
  have hys : ∃ us : List Str, ys = us.map .str ∧ Good us := by
    have : ∀ ys : List D, (∀ y ∈ ys, y ∈ V.map D.str) → ∃ us : List Str, ys = us.map .str ∧ Good us := by
      intro ys
      induction ys with
      | nil => exact fun _ => ⟨[], rfl, fun _ z => nomatch z⟩
      | cons y ys ih =>
        intro h
        obtain ⟨us, e, g⟩ := ih fun z hz => h z (List.mem_cons_of_mem _ hz)
        obtain ⟨x, hx, e'⟩ := List.mem_map.mp (h y List.mem_cons_self)
        refine ⟨x :: us, by rw [e, ← e']; rfl, fun z hz => ?_⟩
        rcases List.mem_cons.mp hz with rfl | hz
        · exact vo _ hx
        · exact g z hz
    exact this ys fun y h => (hy y).mp h
  obtain ⟨us, rfl, uo⟩ := hys
  rw [List.length_map, List.length_map, hl] at hyl
  walk_at "dl"
  refine loopT_ind (I := fun rest ρ => ∃ (ws us : List Str) (p q u : Sl), rest = us.map .str ∧ ρ = [.dat .bag, .dat (.int b), p, q, .dat (.lst (ws.map .str)), u] ∧ Good ws ∧ Good us ∧ (ws ≠ [] ∨ us ≠ []) ∧ ws.length + us.length ≤ 5) ?_ ?_ ⟨[], us, _, _, _, rfl, rfl, (fun _ z => nomatch z), uo, .inr (fun e => by rw [e] at hyl; simp at hyl), by simp; omega⟩
  · rintro ρ ⟨ws, us, p, q, u, e1, rfl, g1, g2, hne, hle⟩
    walk_at "dl"
    rw [cutL_to, ← List.map_take]
    have hu : us = [] := by cases us with
      | nil => rfl
      | cons a l => cases e1
    subst hu
    have hw : ws ≠ [] := hne.resolve_right fun z => z rfl
    refine h _ (fun z hz => g1 z (List.mem_of_mem_take hz)) (fun e => ?_) (by rw [List.length_take]; omega)
    have := congrArg List.length e
    rw [List.length_take] at this
    have h0 : 0 < ws.length := List.length_pos_iff.mpr hw
    rw [List.length_nil] at this
    omega
  · rintro d rest ρ N hN ⟨ws, us, p, q, u, e1, rfl, g1, g2, hne, hle⟩
    cases us with
    | nil => cases e1
    | cons x us =>
      obtain ⟨rfl, rfl⟩ := List.cons.inj e1
      rw [List.length_cons] at hle
      walk_at "dl"
      refine ⟨by omega, in_strs (g2 x List.mem_cons_self) g1, grows (κ := fun d => N [.dat .bag, .dat (.int b), p, q, .dat d, .dat (.str x)]) _ any_ne (g2 x List.mem_cons_self) g1 (fun ws' g3 n3 l3 => ?_) (by omega)⟩
      exact hN _ ⟨ws', us, p, q, _, rfl, rfl, g3, fun z hz => g2 z (List.mem_cons_of_mem _ hz), .inl n3, by omega⟩
end K16

set_option Elab.async false
set_option linter.all false
set_option maxRecDepth 100000
set_option maxHeartbeats 4000000
namespace K16
open PySem L2 DL
local macro_rules | `(tactic| walk_at "dl") => `(tactic| simp only [seqT, iffT, setT, retT, nextT, retN, blT, DL.binT, nameT, cT, bagT, cutBT, putBT, augBT, consA, nilA, callT, ofF, lstF, lstR, tupT, eqD, neD, inD, notInD, someO, noneO, slT, revF, endD, enterS, ifT, andT, orT, notT, andB, orB, notB, truT, newT, mT, thruT, thruB, frzT, putT, parT, tgtT, methT, onT, isStr, isLst, getT, starA, negT, dropT, breakT, contT, tgD, putA, seqI, rng1I, enumI, zipI, forT, lcF, wipeS,
  addD_ii, addD_ib, addD_ss, addD_ll, addD_tt, subD_ii, mulD_ii, mulD_li, fdivD_ii, modD_ii, cmpI_ii, eqB_ss, eqB_ii, eqB_bb, eqB_tt, eqB_ll, inB_l, inB_t, ixD_l, ixD_t, ixD_s, slD_l, slD_t, truD_b, truD_i, truD_n, truD_s, truD_l, truD_t, intR_i, intR_b, lenR_s, lenR_l, lenR_t, absR_i, minR_ii, maxR_ii, tupR_l, tupR_t, appD_1, insD_1, extD_1, splitM_1, optK_some, atI_0, atI_1, atI_2, atI_3, atI_4, cutL_1, cutL_2, cutL_t1, cutL_t2,
  List.map_cons, List.map_nil, List.replicate_succ, List.replicate_zero, List.cons_append, List.nil_append, List.length_cons, List.length_nil, List.set_cons_zero, List.set_cons_succ, List.getElem?_cons_zero, List.getElem?_cons_succ, List.drop_succ_cons, List.drop_zero, List.take_succ_cons, List.take_zero, true_and, and_true, true_or, or_true, decide_eq_true_eq, reduceCtorEq, if_true, if_false, ite_true, ite_false, D.int.injEq, Nat.reduceAdd, Nat.reduceSub, Int.reduceSub, Int.reduceAdd, Int.reduceNeg, Bool.false_eq_true, Bool.true_eq_false, decide_true, decide_false, Bool.not_true, Bool.not_false, Bool.not_eq_true', decide_eq_false_iff_not])
/-! ### codes -/
inductive Code where
  | nm (x : Str) | gv (i : Int) | ite (a b c d : Code) | wth (x : Str) (a b : Code) | app (w : Bool) (f : Str) (cs : List Code)
mutual
def Code.toD : Code → D
  | .nm x => .tup [.str "name", .str x]
  | .gv i => .tup [.str "given", .int i]
  | .ite a b c d => .tup [.str "if", a.toD, b.toD, c.toD, d.toD]
  | .wth x a b => .tup [.str "with", .str x, a.toD, b.toD]
  | .app w f cs => .tup [.str (if w = true then "work" else "call"), .str f, .tup (Code.toDs cs)]
def Code.toDs : List Code → List D
  | [] => []
  | c :: cs => c.toD :: Code.toDs cs
end
mutual
def Code.size : Code → Nat
  | .nm _ => 1
  | .gv _ => 1
  | .ite a b c d => 1 + a.size + b.size + c.size + d.size
  | .wth _ a b => 1 + a.size + b.size
  | .app _ _ cs => 1 + Code.sizes cs
def Code.sizes : List Code → Nat
  | [] => 0
  | c :: cs => c.size + Code.sizes cs
end
mutual
/-- its texts are good -/
def Code.ok : Code → Prop
  | .nm x => PyData.strOk x = true
  | .gv _ => True
  | .ite a b c d => a.ok ∧ b.ok ∧ c.ok ∧ d.ok
  | .wth x a b => PyData.strOk x = true ∧ a.ok ∧ b.ok
  | .app _ f cs => PyData.strOk f = true ∧ Code.oks cs
def Code.oks : List Code → Prop
  | [] => True
  | c :: cs => c.ok ∧ Code.oks cs
end
def Code.kids : Code → List Code
  | .nm _ => []
  | .gv _ => []
  | .ite a b c d => [a, b, c, d]
  | .wth _ a b => [a, b]
  | .app _ _ cs => cs
theorem toDs_map : ∀ cs : List Code, Code.toDs cs = cs.map Code.toD
  | [] => by simp only [Code.toDs, List.map_nil]
  | c :: cs => by simp only [Code.toDs, List.map_cons, toDs_map cs]
theorem Code.size_pos (c : Code) : 0 < c.size := by cases c <;> simp only [Code.size] <;> omega
theorem sizes_mem : ∀ {cs : List Code} {c : Code}, c ∈ cs → c.size ≤ Code.sizes cs
  | d :: cs, c, h => by
    simp only [Code.sizes]
    rcases List.mem_cons.mp h with rfl | h
    · omega
    · have := sizes_mem h; omega
theorem sizes_len : ∀ cs : List Code, cs.length ≤ Code.sizes cs
  | [] => Nat.le_refl _
  | c :: cs => by
    have := sizes_len cs
    have := c.size_pos
    simp only [Code.sizes, List.length_cons]; omega
theorem kids_sizes (c : Code) : Code.sizes c.kids < c.size := by cases c <;> simp only [Code.kids, Code.sizes, Code.size] <;> omega
theorem oks_mem : ∀ {cs : List Code}, Code.oks cs → ∀ c ∈ cs, c.ok
  | d :: cs, h, c, hc => by
    simp only [Code.oks] at h
    rcases List.mem_cons.mp hc with rfl | hc
    · exact h.1
    · exact oks_mem h.2 c hc
theorem kids_ok {c : Code} (h : c.ok) : Code.oks c.kids := by
  cases c <;> simp only [Code.kids, Code.oks, Code.ok] at h ⊢ <;> simp_all
mutual
theorem Code.flat : ∀ c : Code, c.toD.flat = true
  | .nm _ => by simp [Code.toD, D.flat, D.flats]
  | .gv _ => by simp [Code.toD, D.flat, D.flats]
  | .ite a b c d => by simp [Code.toD, D.flat, D.flats, a.flat, b.flat, c.flat, d.flat]
  | .wth x a b => by simp [Code.toD, D.flat, D.flats, a.flat, b.flat]
  | .app w f cs => by simp [Code.toD, D.flat, D.flats, Code.flats cs]
theorem Code.flats : ∀ cs : List Code, D.flats (Code.toDs cs) = true
  | [] => by simp [Code.toDs, D.flats]
  | c :: cs => by simp [Code.toDs, D.flats, c.flat, Code.flats cs]
end
mutual
theorem Code.lay : ∀ c : Code, c.ok → c.toD.py.canLay0 = true
  | .nm x, h => by simp only [Code.ok] at h; simp [Code.toD, D.py, D.pys, PyData.canLay0, PyData.canLayAll0, h]; decide +kernel
  | .gv _, h => by simp [Code.toD, D.py, D.pys, PyData.canLay0, PyData.canLayAll0]; decide +kernel
  | .ite a b c d, h => by
    simp only [Code.ok] at h
    simp [Code.toD, D.py, D.pys, PyData.canLay0, PyData.canLayAll0, a.lay h.1, b.lay h.2.1, c.lay h.2.2.1, d.lay h.2.2.2]; decide +kernel
  | .wth x a b, h => by
    simp only [Code.ok] at h
    simp [Code.toD, D.py, D.pys, PyData.canLay0, PyData.canLayAll0, a.lay h.2.1, b.lay h.2.2, h.1]; decide +kernel
  | .app w f cs, h => by
    simp only [Code.ok] at h
    cases w <;> simp [Code.toD, D.py, D.pys, PyData.canLay0, PyData.canLayAll0, h.1, Code.lays cs h.2] <;> decide +kernel
theorem Code.lays : ∀ cs : List Code, Code.oks cs → PyData.canLayAll0 (D.pys (Code.toDs cs)) = true
  | [], _ => by simp [Code.toDs, D.pys, PyData.canLayAll0]
  | c :: cs, h => by
    simp only [Code.oks] at h
    simp [Code.toDs, D.pys, PyData.canLayAll0, c.lay h.1, Code.lays cs h.2]
end
mutual
theorem Code.deep : ∀ c : Code, c.toD.py.depth ≤ 2 * c.size
  | .nm x => by simp [Code.toD, D.py, D.pys, PyData.depth, PyData.depthAll, Code.size]
  | .gv _ => by simp [Code.toD, D.py, D.pys, PyData.depth, PyData.depthAll, Code.size]
  | .ite a b c d => by
    have := a.deep; have := b.deep; have := c.deep; have := d.deep
    simp [Code.toD, D.py, D.pys, PyData.depth, PyData.depthAll, Code.size]; omega
  | .wth x a b => by
    have := a.deep; have := b.deep
    simp [Code.toD, D.py, D.pys, PyData.depth, PyData.depthAll, Code.size]; omega
  | .app w f cs => by
    have := Code.deeps cs
    simp [Code.toD, D.py, D.pys, PyData.depth, PyData.depthAll, Code.size]; omega
theorem Code.deeps : ∀ cs : List Code, PyData.depthAll (D.pys (Code.toDs cs)) ≤ 2 * Code.sizes cs
  | [] => by simp [Code.toDs, D.pys, PyData.depthAll]
  | c :: cs => by
    have := c.deep; have := Code.deeps cs
    simp [Code.toDs, D.pys, PyData.depthAll, Code.sizes]; omega
end
theorem q_name_given : ((("name" : Str) = ("given" : Str)) = False) := eq_false (by decide +kernel)
theorem q_name_if : ((("name" : Str) = ("if" : Str)) = False) := eq_false (by decide +kernel)
theorem q_name_with : ((("name" : Str) = ("with" : Str)) = False) := eq_false (by decide +kernel)
theorem q_name_work : ((("name" : Str) = ("work" : Str)) = False) := eq_false (by decide +kernel)
theorem q_name_call : ((("name" : Str) = ("call" : Str)) = False) := eq_false (by decide +kernel)
theorem q_name_bound : ((("name" : Str) = ("bound" : Str)) = False) := eq_false (by decide +kernel)
theorem q_given_name : ((("given" : Str) = ("name" : Str)) = False) := eq_false (by decide +kernel)
theorem q_given_if : ((("given" : Str) = ("if" : Str)) = False) := eq_false (by decide +kernel)
theorem q_given_with : ((("given" : Str) = ("with" : Str)) = False) := eq_false (by decide +kernel)
theorem q_given_work : ((("given" : Str) = ("work" : Str)) = False) := eq_false (by decide +kernel)
theorem q_given_call : ((("given" : Str) = ("call" : Str)) = False) := eq_false (by decide +kernel)
theorem q_given_bound : ((("given" : Str) = ("bound" : Str)) = False) := eq_false (by decide +kernel)
theorem q_if_name : ((("if" : Str) = ("name" : Str)) = False) := eq_false (by decide +kernel)
theorem q_if_given : ((("if" : Str) = ("given" : Str)) = False) := eq_false (by decide +kernel)
theorem q_if_with : ((("if" : Str) = ("with" : Str)) = False) := eq_false (by decide +kernel)
theorem q_if_work : ((("if" : Str) = ("work" : Str)) = False) := eq_false (by decide +kernel)
theorem q_if_call : ((("if" : Str) = ("call" : Str)) = False) := eq_false (by decide +kernel)
theorem q_if_bound : ((("if" : Str) = ("bound" : Str)) = False) := eq_false (by decide +kernel)
theorem q_with_name : ((("with" : Str) = ("name" : Str)) = False) := eq_false (by decide +kernel)
theorem q_with_given : ((("with" : Str) = ("given" : Str)) = False) := eq_false (by decide +kernel)
theorem q_with_if : ((("with" : Str) = ("if" : Str)) = False) := eq_false (by decide +kernel)
theorem q_with_work : ((("with" : Str) = ("work" : Str)) = False) := eq_false (by decide +kernel)
theorem q_with_call : ((("with" : Str) = ("call" : Str)) = False) := eq_false (by decide +kernel)
theorem q_with_bound : ((("with" : Str) = ("bound" : Str)) = False) := eq_false (by decide +kernel)
theorem q_work_name : ((("work" : Str) = ("name" : Str)) = False) := eq_false (by decide +kernel)
theorem q_work_given : ((("work" : Str) = ("given" : Str)) = False) := eq_false (by decide +kernel)
theorem q_work_if : ((("work" : Str) = ("if" : Str)) = False) := eq_false (by decide +kernel)
theorem q_work_with : ((("work" : Str) = ("with" : Str)) = False) := eq_false (by decide +kernel)
theorem q_work_call : ((("work" : Str) = ("call" : Str)) = False) := eq_false (by decide +kernel)
theorem q_work_bound : ((("work" : Str) = ("bound" : Str)) = False) := eq_false (by decide +kernel)
theorem q_call_name : ((("call" : Str) = ("name" : Str)) = False) := eq_false (by decide +kernel)
theorem q_call_given : ((("call" : Str) = ("given" : Str)) = False) := eq_false (by decide +kernel)
theorem q_call_if : ((("call" : Str) = ("if" : Str)) = False) := eq_false (by decide +kernel)
theorem q_call_with : ((("call" : Str) = ("with" : Str)) = False) := eq_false (by decide +kernel)
theorem q_call_work : ((("call" : Str) = ("work" : Str)) = False) := eq_false (by decide +kernel)
theorem q_call_bound : ((("call" : Str) = ("bound" : Str)) = False) := eq_false (by decide +kernel)
theorem q_bound_name : ((("bound" : Str) = ("name" : Str)) = False) := eq_false (by decide +kernel)
theorem q_bound_given : ((("bound" : Str) = ("given" : Str)) = False) := eq_false (by decide +kernel)
theorem q_bound_if : ((("bound" : Str) = ("if" : Str)) = False) := eq_false (by decide +kernel)
theorem q_bound_with : ((("bound" : Str) = ("with" : Str)) = False) := eq_false (by decide +kernel)
theorem q_bound_work : ((("bound" : Str) = ("work" : Str)) = False) := eq_false (by decide +kernel)
theorem q_bound_call : ((("bound" : Str) = ("call" : Str)) = False) := eq_false (by decide +kernel)
theorem good2 : Good ["name", "given"] := List.all_eq_true.mp (by decide +kernel : (["name", "given"] : List Str).all PyData.strOk = true)
theorem in_name : inOk (.str "name") [.str "name", .str "given"] = True := eq_true (in_strs (ws := ["name", "given"]) (by decide +kernel) good2)
theorem in_given : inOk (.str "given") [.str "name", .str "given"] = True := eq_true (in_strs (ws := ["name", "given"]) (by decide +kernel) good2)
theorem in_if : inOk (.str "if") [.str "name", .str "given"] = True := eq_true (in_strs (ws := ["name", "given"]) (by decide +kernel) good2)
theorem in_with : inOk (.str "with") [.str "name", .str "given"] = True := eq_true (in_strs (ws := ["name", "given"]) (by decide +kernel) good2)
theorem in_work : inOk (.str "work") [.str "name", .str "given"] = True := eq_true (in_strs (ws := ["name", "given"]) (by decide +kernel) good2)
theorem in_call : inOk (.str "call") [.str "name", .str "given"] = True := eq_true (in_strs (ws := ["name", "given"]) (by decide +kernel) good2)
local macro_rules | `(tactic| walk_at "cd") => `(tactic| simp only [Code.toD, Code.toDs, Code.kids, List.any_cons, List.any_nil, D.py, PyData.eqv, beq_iff_eq, Bool.or_false, Bool.or_eq_true, Bool.or_eq_false_iff, or_false, false_or, q_name_given, q_name_if, q_name_with, q_name_work, q_name_call, q_name_bound, q_given_name, q_given_if, q_given_with, q_given_work, q_given_call, q_given_bound, q_if_name, q_if_given, q_if_with, q_if_work, q_if_call, q_if_bound, q_with_name, q_with_given, q_with_if, q_with_work, q_with_call, q_with_bound, q_work_name, q_work_given, q_work_if, q_work_with, q_work_call, q_work_bound, q_call_name, q_call_given, q_call_if, q_call_with, q_call_work, q_call_bound, q_bound_name, q_bound_given, q_bound_if, q_bound_with, q_bound_work, q_bound_call, in_name, in_given, in_if, in_with, in_work, in_call])
def R_in : RD := fun ds k => ∃ c : Code, ds = [c.toD] ∧ k (.tup (Code.toDs c.kids))
theorem p_in (t : TSD) (ht : t = t_codes_within ∨ t = t_L_inner) : ∀ ds κ, R_in ds κ → t (endD κ) (enterS 1 ds) := by
  have hs : sizeLine = 16777216 := sizeLine_eq
  have main : ∀ ds κ, R_in ds κ → t_codes_within (endD κ) (enterS 1 ds) := by
    rintro ds κ ⟨c, rfl, h⟩
    unfold t_codes_within
    have h2 : 2 ≤ sizeLine := by omega
    have h0 : 0 ≤ sizeLine := by omega
    cases c with
    | app w f cs => cases w <;> (walk_at "cd"; walk_at "dl"; walk_at "cd"; simp only [Code.kids] at h; simpa [h2, h0] using h)
    | _ => walk_at "cd"; walk_at "dl"; walk_at "cd"; (simp only [Code.kids, Code.toDs] at h); simpa [h2, h0] using h
  rcases ht with rfl | rfl
  · exact main
  · exact main
end K16

set_option Elab.async false
set_option linter.all false
set_option maxRecDepth 100000
set_option maxHeartbeats 4000000
namespace K16
open PySem L2 DL
local macro_rules | `(tactic| walk_at "dl") => `(tactic| simp only [seqT, iffT, setT, retT, nextT, retN, blT, DL.binT, nameT, cT, bagT, cutBT, putBT, augBT, consA, nilA, callT, ofF, lstF, lstR, tupT, eqD, neD, inD, notInD, someO, noneO, slT, revF, endD, enterS, ifT, andT, orT, notT, andB, orB, notB, truT, newT, mT, thruT, thruB, frzT, putT, parT, tgtT, methT, onT, isStr, isLst, getT, starA, negT, dropT, breakT, contT, tgD, putA, seqI, rng1I, enumI, zipI, forT, lcF, wipeS,
  addD_ii, addD_ib, addD_ss, addD_ll, addD_tt, subD_ii, mulD_ii, mulD_li, fdivD_ii, modD_ii, cmpI_ii, eqB_ss, eqB_ii, eqB_bb, eqB_tt, eqB_ll, inB_l, inB_t, ixD_l, ixD_t, ixD_s, slD_l, slD_t, truD_b, truD_i, truD_n, truD_s, truD_l, truD_t, intR_i, intR_b, lenR_s, lenR_l, lenR_t, absR_i, minR_ii, maxR_ii, tupR_l, tupR_t, appD_1, insD_1, extD_1, splitM_1, optK_some, atI_0, atI_1, atI_2, atI_3, atI_4, cutL_1, cutL_2, cutL_t1, cutL_t2,
  List.map_cons, List.map_nil, List.replicate_succ, List.replicate_zero, List.cons_append, List.nil_append, List.length_cons, List.length_nil, List.set_cons_zero, List.set_cons_succ, List.getElem?_cons_zero, List.getElem?_cons_succ, List.drop_succ_cons, List.drop_zero, List.take_succ_cons, List.take_zero, true_and, and_true, true_or, or_true, decide_eq_true_eq, reduceCtorEq, if_true, if_false, ite_true, ite_false, D.int.injEq, Nat.reduceAdd, Nat.reduceSub, Int.reduceSub, Int.reduceAdd, Int.reduceNeg, Bool.false_eq_true, Bool.true_eq_false, decide_true, decide_false, Bool.not_true, Bool.not_false, Bool.not_eq_true', decide_eq_false_iff_not])
local macro_rules | `(tactic| walk_at "cd") => `(tactic| simp only [Code.toD, Code.toDs, Code.kids, List.any_cons, List.any_nil, D.py, PyData.eqv, beq_iff_eq, Bool.or_false, Bool.or_eq_true, Bool.or_eq_false_iff, or_false, false_or, q_name_given, q_name_if, q_name_with, q_name_work, q_name_call, q_name_bound, q_given_name, q_given_if, q_given_with, q_given_work, q_given_call, q_given_bound, q_if_name, q_if_given, q_if_with, q_if_work, q_if_call, q_if_bound, q_with_name, q_with_given, q_with_if, q_with_work, q_with_call, q_with_bound, q_work_name, q_work_given, q_work_if, q_work_with, q_work_call, q_work_bound, q_call_name, q_call_given, q_call_if, q_call_with, q_call_work, q_call_bound, q_bound_name, q_bound_given, q_bound_if, q_bound_with, q_bound_work, q_bound_call, in_name, in_given, in_if, in_with, in_work, in_call])
local macro_rules | `(tactic| walk_at "ce") => `(tactic| (walk_at "cd"; walk_at "dl"; (try walk_at "cd"); (try walk_at "dl"); (try walk_at "cd")))
/-! ### alike -/
def look : List (Str × Str) → Str → Str → Bool
  | [], x, y => decide (x = y)
  | (m, i) :: r, x, y => if m = x ∨ i = y then decide (m = x) && decide (i = y) else look r x y
mutual
def alike : Code → Code → List (Str × Str) → Bool
  | .nm x, .nm y, bs => look bs.reverse x y
  | .gv i, .gv j, _ => decide (i = j)
  | .ite a b c d, .ite a' b' c' d', bs => alike a a' bs && (alike b b' bs && (alike c c' bs && (alike d d' bs && true)))
  | .wth x a b, .wth y a' b', bs => alike a a' bs && alike b b' (bs ++ [(x, y)])
  | .app w f cs, .app w' f' cs', bs => decide (w = w') && (decide (f = f') && alikes cs cs' bs)
  | _, _, _ => false
def alikes : List Code → List Code → List (Str × Str) → Bool
  | [], [], _ => true
  | c :: cs, c' :: cs', bs => alike c c' bs && alikes cs cs' bs
  | _, _, _ => false
end
def pr (q : Str × Str) : D := .tup [.str q.1, .str q.2]
def R_al (n : Nat) : RD := fun ds k => ∃ (a b : Code) (bs : List (Str × Str)), ds = [a.toD, b.toD, .lst (bs.map pr)] ∧ a.size ≤ n ∧ b.size ≤ 100 ∧ a.size + bs.length ≤ 200 ∧ k (.bl (alike a b bs))
theorem alikes_kids {bs : List (Str × Str)} : ∀ {cs cs' : List Code}, cs.length = cs'.length → alikes cs cs' bs = ((cs.zip cs').map fun q => alike q.1 q.2 bs).all id
  | [], [], _ => by simp [alikes]
  | c :: cs, c' :: cs', h => by
    simp only [alikes, List.zip_cons_cons, List.map_cons, List.all_cons, id_eq]
    rw [alikes_kids (by simpa using h)]
  | [], _ :: _, h => by simp at h
  | _ :: _, [], h => by simp at h
theorem alikes_ne {bs : List (Str × Str)} : ∀ {cs cs' : List Code}, cs.length ≠ cs'.length → alikes cs cs' bs = false
  | [], [], h => absurd rfl h
  | c :: cs, c' :: cs', h => by
    simp only [alikes]
    rw [alikes_ne (cs := cs) (cs' := cs') (by simpa using h), Bool.and_false]
  | [], _ :: _, _ => by simp only [alikes]
  | _ :: _, [], _ => by simp only [alikes]
theorem toDs_len (cs : List Code) : (Code.toDs cs).length = cs.length := by rw [toDs_map, List.length_map]
/-- the loop over the pairs of the kids -/
theorem kids_al {n : Nat} {cs cs' : List Code} {bs : List (Str × Str)} {ρ : List Sl} {k : List D → Prop} (h2 : ρ[2]? = some (.dat (.lst (bs.map pr)))) (hl : 5 ≤ ρ.length)
    (hc : ∀ c ∈ cs, c.size ≤ n ∧ c.size + bs.length ≤ 200) (hc' : ∀ c ∈ cs', c.size ≤ 100) (hk : k (((cs.zip cs').map fun q => alike q.1 q.2 bs).map .bl)) :
    compT (.tp [3, 4]) yesT (callT (R_al n) (consA (nameT 3) (consA (nameT 4) (consA (nameT 2) nilA)))) ρ (pairD (Code.toDs cs) (Code.toDs cs')) [] k := by
  have e : pairD (Code.toDs cs) (Code.toDs cs') = (cs.zip cs').map fun q => .tup [q.1.toD, q.2.toD] := by
    unfold pairD
    rw [toDs_map, toDs_map, List.zip_map, List.map_map]; rfl
  rw [e]
  obtain ⟨s0, s1, s2, s3, s4, r, rfl⟩ : ∃ s0 s1 s2 s3 s4 r, ρ = s0 :: s1 :: s2 :: s3 :: s4 :: r := by
    match ρ, hl with
    | s0 :: s1 :: s2 :: s3 :: s4 :: r, _ => exact ⟨_, _, _, _, _, _, rfl⟩
  simp only [List.getElem?_cons_succ, List.getElem?_cons_zero, Option.some.injEq] at h2
  subst h2
  have main : ∀ (qs : List (Code × Code)) (acc : List Bool), (∀ q ∈ qs, q.1.size ≤ n ∧ q.1.size + bs.length ≤ 200 ∧ q.2.size ≤ 100) → k ((acc ++ qs.map fun q => alike q.1 q.2 bs).map .bl) →
      compT (.tp [3, 4]) yesT (callT (R_al n) (consA (nameT 3) (consA (nameT 4) (consA (nameT 2) nilA)))) (s0 :: s1 :: .dat (.lst (bs.map pr)) :: s3 :: s4 :: r) (qs.map fun q => .tup [q.1.toD, q.2.toD]) (acc.map .bl) k := by
    intro qs
    induction qs with
    | nil =>
      intro acc _ hk
      rw [List.map_nil, List.append_nil] at hk
      exact hk
    | cons q qs ih =>
      intro acc hq hk
      rw [List.map_cons]
      unfold compT
      unfold yesT
      walk_at "dl"
      obtain ⟨q1, q2, q3⟩ := hq q List.mem_cons_self
      refine ⟨q.1, q.2, bs, rfl, q1, q3, q2, ?_⟩
      have e : acc.map D.bl ++ [D.bl (alike q.1 q.2 bs)] = (acc ++ [alike q.1 q.2 bs]).map .bl := by rw [List.map_append]; rfl
      show compT (.tp [3, 4]) yesT _ _ _ (acc.map D.bl ++ [D.bl (alike q.1 q.2 bs)]) k
      rw [e]
      refine ih _ (fun z hz => hq z (List.mem_cons_of_mem _ hz)) ?_
      rw [List.append_assoc]
      exact hk
  refine main (cs.zip cs') [] (fun q hq => ?_) hk
  obtain ⟨u, v⟩ := q
  have hz := List.of_mem_zip hq
  exact ⟨(hc u hz.1).1, (hc u hz.1).2, hc' v hz.2⟩
theorem tail_al {n : Nat} {a b : Code} {bs : List (Str × Str)} {κ : D → Prop} {ρ : List Sl} (h2 : ρ[2]? = some (.dat (.lst (bs.map pr)))) (hl : 5 ≤ ρ.length) (hn : a.size ≤ n + 1) (hb : b.size ≤ 100) (hz : a.size + bs.length ≤ 200)
    (h : κ (.bl (alikes a.kids b.kids bs))) : R_in [a.toD] fun d => lenR [d] fun x => R_in [b.toD] fun d => lenR [d] fun y => eqB x y fun c => if c = false then κ (.bl false) else R_in [a.toD] fun d => R_in [b.toD] fun d1 =>
      zipI (fun _ k => k [d, d1]) [] fun ps => ps.length ≤ sizeLine ∧ compT (.tp [3, 4]) yesT (callT (R_al n) (consA (nameT 3) (consA (nameT 4) (consA (nameT 2) nilA)))) ρ ps [] fun ds => allR [.lst ds] κ := by
  have hs : sizeLine = 16777216 := sizeLine_eq
  refine ⟨a, rfl, b, rfl, ?_⟩
  have la := toDs_len a.kids
  have lb := toDs_len b.kids
  have ka := kids_sizes a
  have kb := kids_sizes b
  have sa := sizes_len a.kids
  have sb := sizes_len b.kids
  show if decide (((Code.toDs a.kids).length : Int) = ((Code.toDs b.kids).length : Int)) = false then _ else _
  by_cases e : a.kids.length = b.kids.length
  · have e' : ((Code.toDs a.kids).length : Int) = ((Code.toDs b.kids).length : Int) := by omega
    rw [if_neg (by rw [decide_eq_true e']; exact Bool.noConfusion)]
    refine ⟨a, rfl, b, rfl, by rw [pairD_len]; omega, ?_⟩
    refine kids_al h2 hl (fun c hc => ?_) (fun c hc => ?_) ⟨_, rfl, ?_⟩
    · have := sizes_mem hc; omega
    · have := sizes_mem hc; omega
    · rw [← alikes_kids e]; exact h
  · have e' : ¬ ((Code.toDs a.kids).length : Int) = ((Code.toDs b.kids).length : Int) := by omega
    rw [if_pos (decide_eq_false e')]
    rw [alikes_ne e] at h
    exact h
theorem p_al (n : Nat) : ∀ ds κ, R_al (n + 1) ds κ → t_are_like (R_al n) R_in (endD κ) (enterS 6 ds) := by
  have hs : sizeLine = 16777216 := sizeLine_eq
  rintro ds κ ⟨a, b, bs, rfl, hn, hb, hz, h⟩
  unfold t_are_like
  cases a with
  | nm x =>
    cases b with
    | nm y =>
      walk_at "ce"
      simp only [alike] at h
      have main : ∀ (rs : List (Str × Str)) (ρ : List Sl), (∃ u v, ρ = [.dat (Code.nm x).toD, .dat (Code.nm y).toD, .dat (.lst (bs.map pr)), u, v, .un]) → κ (.bl (look rs x y)) → loopT (.tp [3, 4]) (iffT (orB (blT (DL.binT eqD (nameT 3) (DL.binT ixD (nameT 0) (cT (.int 1))))) (blT (DL.binT eqD (nameT 4) (DL.binT ixD (nameT 1) (cT (.int 1)))))) (retT (andT (DL.binT eqD (nameT 3) (DL.binT ixD (nameT 0) (cT (.int 1)))) (DL.binT eqD (nameT 4) (DL.binT ixD (nameT 1) (cT (.int 1)))))) nextT)
          { nx := retT (DL.binT eqD (DL.binT ixD (nameT 0) (cT (.int 1))) (DL.binT ixD (nameT 1) (cT (.int 1)))) (endD κ), rt := κ, bk := fun _ => False, ct := fun _ => False } (rs.map pr) ρ := by
        intro rs
        induction rs with
        | nil =>
          rintro ρ ⟨u, v, rfl⟩ h
          unfold loopT
          walk_at "ce"
          exact h
        | cons q rs ih =>
          rintro ρ ⟨u, v, rfl⟩ h
          obtain ⟨m, i⟩ := q
          rw [List.map_cons]
          unfold loopT
          rw [show pr (m, i) = .tup [.str m, .str i] from rfl]
          walk_at "ce"
          have ih' := ih _ ⟨.dat (.str m), .dat (.str i), rfl⟩
          simp only [Code.toD] at ih'
          by_cases e1 : m = x
          · rw [if_pos e1, if_pos e1]
            simpa [look, e1] using h
          · rw [if_neg e1]
            by_cases e2 : i = y
            · rw [if_pos e2, if_neg e1]
              simpa [look, e1, e2] using h
            · rw [if_neg e2]
              exact ih' (by simpa [look, e1, e2] using h)
      have e : (bs.map pr).reverse = bs.reverse.map pr := List.map_reverse.symm
      rw [e]
      exact main bs.reverse _ ⟨.un, .un, by simp only [Code.toD]⟩ h
    | app w f cs => cases w <;> (walk_at "ce"; simpa [alike] using h)
    | _ => walk_at "ce"; simpa [alike] using h
  | gv i =>
    cases b with
    | gv j =>
      walk_at "ce"
      refine ⟨⟨by simp [D.py, D.pys, PyData.canLay0, PyData.canLayAll0]; decide +kernel, by simp [D.py, D.pys, PyData.canLay0, PyData.canLayAll0]; decide +kernel, by simp [D.py, D.pys, PyData.depth, PyData.depthAll]⟩, ?_⟩
      simp only [alike] at h
      have e : PyData.eqvAll (D.pys [.str "given", .int i]) (D.pys [.str "given", .int j]) = decide (i = j) := by
        simp [D.pys, D.py, PyData.eqv, PyData.eqvAll]
        by_cases e : i = j <;> simp [e]
      rw [e]
      exact h
    | app w f cs => cases w <;> (walk_at "ce"; simpa [alike] using h)
    | _ => walk_at "ce"; simpa [alike] using h
  | wth x a1 a2 =>
    cases b with
    | wth y b1 b2 =>
      simp only [Code.size] at hn hb hz
      walk_at "ce"
      simp only [alike] at h
      refine ⟨by omega, by simp; omega, ?_⟩
      refine ⟨a1, b1, bs, rfl, by omega, by omega, by omega, ?_⟩
      walk_at "dl"
      cases e : alike a1 b1 bs with
      | true =>
        rw [e] at h
        simp only [if_true]
        exact ⟨a2, b2, bs ++ [(x, y)], by rw [List.map_append]; rfl, by omega, by omega, by simp; omega, by simpa using h⟩
      | false =>
        rw [e] at h
        simpa using h
    | app w f cs => cases w <;> (walk_at "ce"; simpa [alike] using h)
    | _ => walk_at "ce"; simpa [alike] using h
  | ite a1 a2 a3 a4 =>
    cases b with
    | ite b1 b2 b3 b4 =>
      walk_at "ce"
      exact tail_al (a := .ite a1 a2 a3 a4) (b := .ite b1 b2 b3 b4) rfl (by simp) hn hb hz (by simpa [Code.kids, alikes, alike] using h)
    | app w f cs => cases w <;> (walk_at "ce"; simpa [alike] using h)
    | _ => walk_at "ce"; simpa [alike] using h
  | app w f cs =>
    cases b with
    | app w' f' cs' =>
      cases w <;> cases w'
      · by_cases ef : f = f'
        · subst ef
          walk_at "ce"
          exact tail_al (a := .app false f cs) (b := .app false f cs') rfl (by simp) hn hb hz (by simpa [alike, Code.kids] using h)
        · walk_at "ce"
          rw [if_pos ef]
          simpa [alike, ef] using h
      · walk_at "ce"; simpa [alike] using h
      · walk_at "ce"; simpa [alike] using h
      · by_cases ef : f = f'
        · subst ef
          walk_at "ce"
          exact tail_al (a := .app true f cs) (b := .app true f cs') rfl (by simp) hn hb hz (by simpa [alike, Code.kids] using h)
        · walk_at "ce"
          rw [if_pos ef]
          simpa [alike, ef] using h
    | _ => cases w <;> (walk_at "ce"; simpa [alike] using h)
end K16

set_option Elab.async false
set_option linter.all false
set_option maxRecDepth 100000
set_option maxHeartbeats 4000000
namespace K16
open PySem L2 DL
local macro_rules | `(tactic| walk_at "dl") => `(tactic| simp only [seqT, iffT, setT, retT, nextT, retN, blT, DL.binT, nameT, cT, bagT, cutBT, putBT, augBT, consA, nilA, callT, ofF, lstF, lstR, tupT, eqD, neD, inD, notInD, someO, noneO, slT, revF, endD, enterS, ifT, andT, orT, notT, andB, orB, notB, truT, newT, mT, thruT, thruB, frzT, putT, parT, tgtT, methT, onT, isStr, isLst, getT, starA, negT, dropT, breakT, contT, tgD, putA, seqI, rng1I, enumI, zipI, forT, lcF, wipeS,
  addD_ii, addD_ib, addD_ss, addD_ll, addD_tt, subD_ii, mulD_ii, mulD_li, fdivD_ii, modD_ii, cmpI_ii, eqB_ss, eqB_ii, eqB_bb, eqB_tt, eqB_ll, inB_l, inB_t, ixD_l, ixD_t, ixD_s, slD_l, slD_t, truD_b, truD_i, truD_n, truD_s, truD_l, truD_t, intR_i, intR_b, lenR_s, lenR_l, lenR_t, absR_i, minR_ii, maxR_ii, tupR_l, tupR_t, appD_1, insD_1, extD_1, splitM_1, optK_some, atI_0, atI_1, atI_2, atI_3, atI_4, cutL_1, cutL_2, cutL_t1, cutL_t2,
  List.map_cons, List.map_nil, List.replicate_succ, List.replicate_zero, List.cons_append, List.nil_append, List.length_cons, List.length_nil, List.set_cons_zero, List.set_cons_succ, List.getElem?_cons_zero, List.getElem?_cons_succ, List.drop_succ_cons, List.drop_zero, List.take_succ_cons, List.take_zero, true_and, and_true, true_or, or_true, decide_eq_true_eq, reduceCtorEq, if_true, if_false, ite_true, ite_false, D.int.injEq, Nat.reduceAdd, Nat.reduceSub, Int.reduceSub, Int.reduceAdd, Int.reduceNeg, Bool.false_eq_true, Bool.true_eq_false, decide_true, decide_false, Bool.not_true, Bool.not_false, Bool.not_eq_true', decide_eq_false_iff_not])
local macro_rules | `(tactic| walk_at "cd") => `(tactic| simp only [Code.toD, Code.toDs, Code.kids, List.any_cons, List.any_nil, D.py, PyData.eqv, beq_iff_eq, Bool.or_false, Bool.or_eq_true, Bool.or_eq_false_iff, or_false, false_or, q_name_given, q_name_if, q_name_with, q_name_work, q_name_call, q_name_bound, q_given_name, q_given_if, q_given_with, q_given_work, q_given_call, q_given_bound, q_if_name, q_if_given, q_if_with, q_if_work, q_if_call, q_if_bound, q_with_name, q_with_given, q_with_if, q_with_work, q_with_call, q_with_bound, q_work_name, q_work_given, q_work_if, q_work_with, q_work_call, q_work_bound, q_call_name, q_call_given, q_call_if, q_call_with, q_call_work, q_call_bound, q_bound_name, q_bound_given, q_bound_if, q_bound_with, q_bound_work, q_bound_call, in_name, in_given, in_if, in_with, in_work, in_call])
local macro_rules | `(tactic| walk_at "ce") => `(tactic| (walk_at "cd"; walk_at "dl"; (try walk_at "cd"); (try walk_at "dl"); (try walk_at "cd")))
/-! ### numbered -/
def place (rs : List Str) (x : Str) : D := if x ∈ rs then .tup [.str "bound", .int (rs.idxOf x : Nat)] else .tup [.str "name", .str x]
mutual
def num : Code → List Str → D
  | .nm x, bs => place bs.reverse x
  | .gv i, _ => .tup [.str "given", .int i]
  | .ite a b c d, bs => .tup [.str "if", num a bs, num b bs, num c bs, num d bs]
  | .wth x a b, bs => .tup [.str "with", num a bs, num b (bs ++ [x])]
  | .app w f cs, bs => .tup [.str (if w = true then "work" else "call"), .str f, .tup (nums cs bs)]
def nums : List Code → List Str → List D
  | [], _ => []
  | c :: cs, bs => num c bs :: nums cs bs
end
theorem nums_map (bs : List Str) : ∀ cs : List Code, nums cs bs = cs.map fun c => num c bs
  | [] => by simp only [nums, List.map_nil]
  | c :: cs => by simp only [nums, List.map_cons, nums_map bs cs]
theorem place_tup (rs : List Str) (x : Str) : ∃ ds, place rs x = .tup ds := by unfold place; split <;> exact ⟨_, rfl⟩
theorem num_tup (c : Code) (bs : List Str) : ∃ ds, num c bs = .tup ds := by
  cases c <;> simp only [num] <;> first | exact place_tup _ _ | exact ⟨_, rfl⟩
theorem eqv_place : ∀ (rs : List (Str × Str)) (x y : Str), PyData.eqv (place (rs.map (·.1)) x).py (place (rs.map (·.2)) y).py = look rs x y
  | [], x, y => by
    simp only [place, List.map_nil, List.not_mem_nil, if_false, look, D.py, D.pys, PyData.eqv, PyData.eqvAll, beq_self_eq_true, Bool.true_and, Bool.and_true]
    by_cases e : x = y <;> simp [e]
  | (m, i) :: r, x, y => by
    have ih := eqv_place r x y
    simp only [look, List.map_cons]
    have nb : (("bound" : Str) == ("name" : Str)) = false := by decide +kernel
    have bn : (("name" : Str) == ("bound" : Str)) = false := by decide +kernel
    by_cases e1 : m = x
    · by_cases e2 : i = y
      · subst e1 e2
        simp [place, List.idxOf_cons, D.py, D.pys, PyData.eqv, PyData.eqvAll]
      · subst e1
        rw [if_pos (Or.inl rfl)]
        unfold place
        rw [if_pos List.mem_cons_self]
        split
        · rename_i h
          have h' : y ∈ r.map (·.2) := (List.mem_cons.mp h).resolve_left fun z => e2 z.symm
          have e3 : (i == y) = false := by simpa using e2
          simp [List.idxOf_cons, e3, D.py, D.pys, PyData.eqv, PyData.eqvAll, e2]
          omega
        · simp [D.py, D.pys, PyData.eqv, PyData.eqvAll, nb, e2]
    · by_cases e2 : i = y
      · subst e2
        rw [if_pos (Or.inr rfl)]
        unfold place
        rw [if_pos (List.mem_cons_self (a := i))]
        split
        · have e3 : (m == x) = false := by simpa using e1
          simp [List.idxOf_cons, e3, D.py, D.pys, PyData.eqv, PyData.eqvAll, e1]
          omega
        · simp [D.py, D.pys, PyData.eqv, PyData.eqvAll, bn, e1]
      · rw [if_neg (by simp [e1, e2]), ← ih]
        have s1 : ∀ {l : List Str} {m x : Str}, ¬ m = x → place (m :: l) x = if x ∈ l then .tup [.str "bound", .int ((l.idxOf x + 1 : Nat) : Int)] else .tup [.str "name", .str x] := fun {l m x} e => by
          unfold place
          have e3 : (m == x) = false := by simpa using e
          have e4 : x ∈ m :: l ↔ x ∈ l := by simp [Ne.symm e]
          simp only [e4, List.idxOf_cons, e3]
          rfl
        rw [s1 e1, s1 e2]
        unfold place
        split <;> split
        · simp only [D.py, D.pys, PyData.eqv, PyData.eqvAll, beq_self_eq_true, Bool.true_and, Bool.and_true]
          rw [Bool.eq_iff_iff, beq_iff_eq, beq_iff_eq]
          omega
        · simp [D.py, D.pys, PyData.eqv, PyData.eqvAll, nb]
        · simp [D.py, D.pys, PyData.eqv, PyData.eqvAll, bn]
        · simp [D.py, D.pys, PyData.eqv, PyData.eqvAll]
/-- the first word of a numbered code -/
def tg : Code → List Str → Str
  | .nm x, bs => if x ∈ bs.reverse then "bound" else "name"
  | .gv _, _ => "given"
  | .ite _ _ _ _, _ => "if"
  | .wth _ _ _, _ => "with"
  | .app w _ _, _ => if w = true then "work" else "call"
theorem tg_hd (c : Code) (bs : List Str) : ∃ xs, (num c bs).py = .tuple (.str (tg c bs) :: xs) := by
  cases c with
  | nm x =>
    simp only [num, tg]; unfold place; split
    · exact ⟨[.int (bs.reverse.idxOf x : Nat)], by simp only [D.py, D.pys]⟩
    · exact ⟨[.str x], by simp only [D.py, D.pys]⟩
  | _ => simp only [num, tg, D.py, D.pys]; exact ⟨_, rfl⟩
theorem mis {a b : Code} {bs bs' : List Str} (h : (tg a bs == tg b bs') = false) : PyData.eqv (num a bs).py (num b bs').py = false := by
  obtain ⟨xs, e1⟩ := tg_hd a bs
  obtain ⟨ys, e2⟩ := tg_hd b bs'
  rw [e1, e2]
  simp only [PyData.eqv, PyData.eqvAll, h, Bool.false_and]
local macro_rules | `(tactic| walk_at "mm") => `(tactic| (rw [mis (by unfold tg; (repeat' split) <;> first | decide +kernel | contradiction)]; simp only [alike]))
theorem eqv_nums_of {qs : List (Str × Str)} : ∀ {as bs : List Code}, (∀ a ∈ as, ∀ b, PyData.eqv (num a (qs.map (·.1))).py (num b (qs.map (·.2))).py = alike a b qs) → PyData.eqvAll (D.pys (nums as (qs.map (·.1)))) (D.pys (nums bs (qs.map (·.2)))) = alikes as bs qs
  | [], [], _ => by simp only [nums, alikes, D.pys, PyData.eqvAll]
  | [], _ :: _, _ => by simp only [nums, alikes, D.pys, PyData.eqvAll]
  | _ :: _, [], _ => by simp only [nums, alikes, D.pys, PyData.eqvAll]
  | a :: as, b :: bs, h => by
    simp only [nums, alikes, D.pys, PyData.eqvAll]
    rw [h a List.mem_cons_self b, eqv_nums_of fun c hc => h c (List.mem_cons_of_mem _ hc)]
theorem eqv_num : ∀ (n : Nat) (a b : Code) (bs : List (Str × Str)), a.size ≤ n → PyData.eqv (num a (bs.map (·.1))).py (num b (bs.map (·.2))).py = alike a b bs
  | 0, a, b, bs, h => absurd a.size_pos (by omega)
  | n + 1, a, b, bs, hn => by
    cases a with
    | nm x =>
      cases b with
      | nm y =>
        simp only [num, alike]
        rw [← List.map_reverse, ← List.map_reverse]
        exact eqv_place bs.reverse x y
      | _ => walk_at "mm"
    | gv i =>
      cases b with
      | gv j =>
        simp only [num, alike, D.py, D.pys, PyData.eqv, PyData.eqvAll, beq_self_eq_true, Bool.true_and, Bool.and_true]
        by_cases e : i = j <;> simp [e]
      | _ => walk_at "mm"
    | ite a1 a2 a3 a4 =>
      simp only [Code.size] at hn
      cases b with
      | ite b1 b2 b3 b4 =>
        have h1 := eqv_num n a1 b1 bs (by omega)
        have h2 := eqv_num n a2 b2 bs (by omega)
        have h3 := eqv_num n a3 b3 bs (by omega)
        have h4 := eqv_num n a4 b4 bs (by omega)
        simp only [num, alike, D.py, D.pys, PyData.eqvAll]
        show (("if" : Str) == "if" && (PyData.eqv _ _ && (PyData.eqv _ _ && (PyData.eqv _ _ && (PyData.eqv _ _ && true))))) = _
        rw [h1, h2, h3, h4, beq_self_eq_true, Bool.true_and]
      | _ => walk_at "mm"
    | wth x a1 a2 =>
      simp only [Code.size] at hn
      cases b with
      | wth y b1 b2 =>
        have h1 := eqv_num n a1 b1 bs (by omega)
        have h2 := eqv_num n a2 b2 (bs ++ [(x, y)]) (by omega)
        rw [List.map_append, List.map_append] at h2
        simp only [num, alike, D.py, D.pys, PyData.eqvAll]
        show (("with" : Str) == "with" && (PyData.eqv _ _ && (PyData.eqv _ _ && true))) = _
        rw [h1, beq_self_eq_true, Bool.true_and, Bool.and_true]
        exact congrArg _ h2
      | _ => walk_at "mm"
    | app w f cs =>
      simp only [Code.size] at hn
      cases b with
      | app w' f' cs' =>
        have h := eqv_nums_of (qs := bs) (as := cs) (bs := cs') fun a ha b => eqv_num n a b bs (by have := sizes_mem ha; omega)
        by_cases ew : w = w'
        · subst ew
          simp only [num, alike, D.py, D.pys, PyData.eqvAll]
          show ((_ : Str) == _ && ((_ : Str) == _ && (PyData.eqvAll _ _ && true))) = _
          rw [h, beq_self_eq_true, Bool.true_and, Bool.and_true, decide_true, Bool.true_and]
          by_cases e : f = f' <;> simp [e]
        · cases w <;> cases w' <;> first | exact absurd rfl ew | (rw [mis (by simp only [tg]; decide +kernel)]; simp [alike])
      | _ => cases w <;> walk_at "mm"
theorem place_lay {rs : List Str} {x : Str} (h : PyData.strOk x = true) : (place rs x).py.canLay0 = true := by
  unfold place
  split <;> simp [D.py, D.pys, PyData.canLay0, PyData.canLayAll0, h] <;> decide +kernel
theorem place_deep {rs : List Str} {x : Str} : (place rs x).py.depth ≤ 1 := by
  unfold place
  split <;> simp [D.py, D.pys, PyData.depth, PyData.depthAll]
mutual
theorem num_lay : ∀ (c : Code) (bs : List Str), c.ok → (num c bs).py.canLay0 = true
  | .nm x, bs, h => by simp only [Code.ok] at h; simp only [num]; exact place_lay h
  | .gv _, _, h => by simp [num, D.py, D.pys, PyData.canLay0, PyData.canLayAll0]; decide +kernel
  | .ite a b c d, bs, h => by
    simp only [Code.ok] at h
    simp [num, D.py, D.pys, PyData.canLay0, PyData.canLayAll0, num_lay a bs h.1, num_lay b bs h.2.1, num_lay c bs h.2.2.1, num_lay d bs h.2.2.2]; decide +kernel
  | .wth x a b, bs, h => by
    simp only [Code.ok] at h
    simp [num, D.py, D.pys, PyData.canLay0, PyData.canLayAll0, num_lay a bs h.2.1, num_lay b (bs ++ [x]) h.2.2]; decide +kernel
  | .app w f cs, bs, h => by
    simp only [Code.ok] at h
    cases w <;> simp [num, D.py, D.pys, PyData.canLay0, PyData.canLayAll0, h.1, nums_lay cs bs h.2] <;> decide +kernel
theorem nums_lay : ∀ (cs : List Code) (bs : List Str), Code.oks cs → PyData.canLayAll0 (D.pys (nums cs bs)) = true
  | [], _, _ => by simp [nums, D.pys, PyData.canLayAll0]
  | c :: cs, bs, h => by
    simp only [Code.oks] at h
    simp [nums, D.pys, PyData.canLayAll0, num_lay c bs h.1, nums_lay cs bs h.2]
end
mutual
theorem num_deep : ∀ (c : Code) (bs : List Str), (num c bs).py.depth ≤ 2 * c.size
  | .nm x, bs => by simp only [num, Code.size]; have := place_deep (rs := bs.reverse) (x := x); omega
  | .gv _, _ => by simp [num, D.py, D.pys, PyData.depth, PyData.depthAll, Code.size]
  | .ite a b c d, bs => by
    have := num_deep a bs; have := num_deep b bs; have := num_deep c bs; have := num_deep d bs
    simp [num, D.py, D.pys, PyData.depth, PyData.depthAll, Code.size]; omega
  | .wth x a b, bs => by
    have := num_deep a bs; have := num_deep b (bs ++ [x])
    simp [num, D.py, D.pys, PyData.depth, PyData.depthAll, Code.size]; omega
  | .app w f cs, bs => by
    have := nums_deep cs bs
    simp [num, D.py, D.pys, PyData.depth, PyData.depthAll, Code.size]; omega
theorem nums_deep : ∀ (cs : List Code) (bs : List Str), PyData.depthAll (D.pys (nums cs bs)) ≤ 2 * Code.sizes cs
  | [], _ => by simp [nums, D.pys, PyData.depthAll]
  | c :: cs, bs => by
    have := num_deep c bs; have := nums_deep cs bs
    simp [nums, D.pys, PyData.depthAll, Code.sizes]; omega
end
/-! ### comprehensions over the parts of a code -/
theorem comp_kids {i : Nat} {te : TD} {ρ : List Sl} {P : Code → D → Prop} {k : List D → Prop} : ∀ {cs : List Code} {acc : List D}, (∀ c ∈ cs, ∀ κ : D → Prop, (∀ e, P c e → κ e) → te (ρ.set i (.dat c.toD)) κ) →
    (∀ es : List D, es.length = cs.length → (∀ (j : Nat) (c : Code), cs[j]? = some c → ∃ e, es[j]? = some e ∧ P c e) → k (acc ++ es)) → compT (.nm i) yesT te ρ (Code.toDs cs) acc k
  | [], acc, _, hk => by
    have h := hk [] rfl (fun j c h => nomatch (show (none : Option Code) = some c by simpa using h))
    rw [List.append_nil] at h
    simp only [Code.toDs]
    exact h
  | c :: cs, acc, hd, hk => by
    simp only [Code.toDs]
    show te (ρ.set i (.dat c.toD)) fun e => compT (.nm i) yesT te ρ (Code.toDs cs) (acc ++ [e]) k
    refine hd c List.mem_cons_self _ fun e he => ?_
    refine comp_kids (P := P) (fun d h => hd d (List.mem_cons_of_mem _ h)) fun es hl h => ?_
    rw [List.append_assoc]
    refine hk (e :: es) (by simp [hl]) fun j d hj => ?_
    cases j with
    | zero =>
      obtain rfl : c = d := by simpa using hj
      exact ⟨e, rfl, he⟩
    | succ j => exact h j d (by simpa using hj)
theorem comp_kids_fn {i : Nat} {te : TD} {ρ : List Sl} {f : Code → D} {k : List D → Prop} {cs : List Code} (h : ∀ c ∈ cs, ∀ κ : D → Prop, κ (f c) → te (ρ.set i (.dat c.toD)) κ) (hk : k (cs.map f)) : compT (.nm i) yesT te ρ (Code.toDs cs) [] k := by
  refine comp_kids (P := fun c e => e = f c) (fun c hc κ q => h c hc κ (q _ rfl)) fun es hl hj => ?_
  have e : es = cs.map f := by
    apply List.ext_getElem?
    intro j
    rw [List.getElem?_map]
    cases q : cs[j]? with
    | none =>
      have : cs.length ≤ j := by simpa using q
      simp; omega
    | some c =>
      obtain ⟨e, h1, h2⟩ := hj j c q
      rw [h1, h2]; rfl
  rw [e]
  exact hk
theorem pys_strs (l : List Str) : D.pys (l.map .str) = l.map PyData.str := by rw [pys_map, List.map_map]; exact List.map_congr_left fun x _ => by simp only [Function.comp, D.py]
theorem any_strs (x : Str) : ∀ l : List Str, ((l.map D.str).any fun z => z.py.eqv (.str x)) = decide (x ∈ l)
  | [] => by simp
  | y :: l => by
    rw [List.map_cons, List.any_cons, any_strs x l]
    simp only [D.py, PyData.eqv, List.mem_cons]
    by_cases e : y = x
    · subst e; simp
    · have e' : (y == x) = false := by simpa using e
      simp [e', Ne.symm e]
theorem depth_strs : ∀ l : List Str, PyData.depthAll (l.map PyData.str) = 0
  | [] => by simp [PyData.depthAll]
  | x :: l => by simp [PyData.depthAll, PyData.depth, depth_strs l]
theorem idx_first {x : Str} : ∀ {l : List Str} {m : Nat} {y : Str}, m < l.idxOf x → l[m]? = some y → y ≠ x
  | [], m, y, h, e => by simp at e
  | z :: l, m, y, h, e => by
    rw [List.idxOf_cons] at h
    by_cases ez : z = x
    · simp [ez] at h
    · have ez' : (z == x) = false := by simpa using ez
      simp only [ez', cond_false] at h
      cases m with
      | zero =>
        obtain rfl : z = y := by simpa using e
        exact ez
      | succ m =>
        have h' : m + 1 < l.idxOf x + 1 := h
        exact idx_first (l := l) (m := m) (by omega) (by simpa using e)
theorem index_strs {l : List Str} {x : Str} {k : D → Prop} (hg : Good l) (ho : PyData.strOk x = true) (hx : x ∈ l) (h : k (.int (l.idxOf x : Nat))) : indexM (.lst (l.map .str)) [.str x] k := by
  have hj : l.idxOf x < l.length := List.idxOf_lt_length_iff.mpr hx
  have g : (l.map PyData.str)[l.idxOf x]? = some (.str x) := by
    rw [List.getElem?_map, List.getElem?_eq_getElem hj, List.getElem_idxOf]; rfl
  refine ⟨l.idxOf x, .str x, ?_, ?_, by rw [pys_strs]; exact g, by simp [D.py, PyData.eqv], fun m z' hm hz => ?_, h⟩
  · unfold SeqAt.shaped
    rw [pys_strs]
    have e := lay_strs l hg
    rw [pys_strs] at e
    simp [PyData.canLay0, e, PyData.depth, depth_strs]
  · simp [SeqAt.shaped, D.py, PyData.canLay0, ho, PyData.depth]
  · rw [pys_strs, List.getElem?_map] at hz
    cases q : l[m]? with
    | none => rw [q] at hz; cases hz
    | some y =>
      rw [q] at hz
      cases hz
      have := idx_first hm q
      simp only [D.py, PyData.eqv]
      simpa using this
def R_num (n : Nat) : RD := fun ds k => ∃ (c : Code) (bs : List Str), ds = [c.toD, .lst (bs.map .str), .dic false []] ∧ c.ok ∧ Good bs ∧ c.size ≤ n ∧ c.size + bs.length ≤ 200 ∧ k (num c bs)
theorem ite_t {c : Prop} {i : Decidable c} {A B : Prop} (h : c) (a : A) : @ite Prop c i A B := by rw [if_pos h]; exact a
theorem ite_f {c : Prop} {i : Decidable c} {A B : Prop} (h : ¬ c) (b : B) : @ite Prop c i A B := by rw [if_neg h]; exact b
theorem kids_num {n : Nat} {cs : List Code} {bs : List Str} {ρ : List Sl} {k : List D → Prop} (h1 : ρ[1]? = some (.dat (.lst (bs.map .str)))) (h2 : ρ[2]? = some (.dat (.dic false []))) (hl : ρ.length = 7)
    (ho : ∀ c ∈ cs, c.ok) (hg : Good bs) (hs : ∀ c ∈ cs, c.size ≤ n ∧ c.size + bs.length ≤ 200) (hk : k (nums cs bs)) : compT (.nm 6) yesT (callT (R_num n) (consA (nameT 6) (consA (nameT 1) (consA (nameT 2) nilA)))) ρ (Code.toDs cs) [] k := by
  match ρ, hl with
  | [s0, s1, s2, s3, s4, s5, s6], _ =>
    simp only [List.getElem?_cons_succ, List.getElem?_cons_zero, Option.some.injEq] at h1 h2
    subst h1 h2
    refine comp_kids_fn (f := fun c => num c bs) (fun c hc κ q => ?_) (by rw [← nums_map]; exact hk)
    walk_at "dl"
    exact ⟨c, bs, rfl, ho c hc, hg, (hs c hc).1, (hs c hc).2, q⟩
theorem p_num (n : Nat) : ∀ ds κ, R_num (n + 1) ds κ → t_L_numbered (R_num n) R_in (endD κ) (enterS 7 ds) := by
  have hs : sizeLine = 16777216 := sizeLine_eq
  rintro ds κ ⟨c, bs, rfl, ho, hg, hn, hz, h⟩
  unfold t_L_numbered
  cases c with
  | nm x =>
    simp only [Code.ok] at ho
    simp only [num] at h
    unfold place at h
    have gr : Good bs.reverse := fun w hw => hg w (List.mem_reverse.mp hw)
    walk_at "ce"
    rw [← List.map_reverse]
    refine ⟨in_strs ho gr, ?_⟩
    have ha := any_strs x bs.reverse
    by_cases hx : x ∈ bs.reverse
    · rw [decide_eq_true hx] at ha
      rw [if_pos hx] at h
      exact ite_t ha (index_strs gr ho hx ⟨by omega, h⟩)
    · rw [decide_eq_false hx] at ha
      rw [if_neg hx] at h
      exact ite_f (fun z => Bool.noConfusion (ha.symm.trans z)) ⟨⟨_, rfl⟩, _, rfl, h⟩
  | gv i =>
    walk_at "ce"
    simp only [num] at h
    exact ⟨.gv i, rfl, Nat.zero_le _, h⟩
  | wth x a b =>
    simp only [Code.ok] at ho
    simp only [Code.size] at hn hz
    simp only [num] at h
    walk_at "ce"
    refine ⟨by omega, by rw [List.length_map]; omega, ?_⟩
    refine ⟨b, bs ++ [x], by rw [List.map_append]; rfl, ho.2.2, fun w hw => ?_, by omega, by simp; omega, a, bs, rfl, ho.2.1, hg, by omega, by omega, by omega, h⟩
    rcases List.mem_append.mp hw with q | q
    · exact hg w q
    · rw [List.mem_singleton.mp q]; exact ho.1
  | ite a b c d =>
    have ko := kids_ok ho
    have ks := kids_sizes (.ite a b c d)
    simp only [num] at h
    walk_at "ce"
    refine ⟨.ite a b c d, rfl, by rw [toDs_len]; simp [Code.kids]; omega, ?_⟩
    exact kids_num (ρ := [_, _, _, _, _, _, _]) rfl rfl rfl (oks_mem ko) hg (fun e he => by have := sizes_mem he; omega) ⟨by omega, by rw [nums_map, List.length_map]; simp [Code.kids]; omega, by simpa only [Code.kids, nums] using h⟩
  | app w f cs =>
    have ko := kids_ok ho
    have ks := kids_sizes (.app w f cs)
    have kl := sizes_len cs
    simp only [Code.kids] at ks ko
    simp only [num] at h
    cases w
    · walk_at "ce"
      refine ⟨.app false f cs, rfl, by rw [toDs_len]; show cs.length ≤ _; omega, ?_⟩
      exact kids_num (cs := cs) (ρ := [_, _, _, _, _, _, _]) rfl rfl rfl (oks_mem ko) hg (fun e he => by have := sizes_mem he; omega) ⟨by omega, by omega, h⟩
    · walk_at "ce"
      refine ⟨.app true f cs, rfl, by rw [toDs_len]; show cs.length ≤ _; omega, ?_⟩
      exact kids_num (cs := cs) (ρ := [_, _, _, _, _, _, _]) rfl rfl rfl (oks_mem ko) hg (fun e he => by have := sizes_mem he; omega) ⟨by omega, by omega, h⟩
end K16

set_option Elab.async false
set_option linter.all false
set_option maxRecDepth 100000
set_option maxHeartbeats 4000000
namespace K16
open PySem L2 DL
local macro_rules | `(tactic| walk_at "dl") => `(tactic| simp only [seqT, iffT, setT, retT, nextT, retN, blT, DL.binT, nameT, cT, bagT, cutBT, putBT, augBT, consA, nilA, callT, ofF, lstF, lstR, tupT, eqD, neD, inD, notInD, someO, noneO, slT, revF, endD, enterS, ifT, andT, orT, notT, andB, orB, notB, truT, newT, mT, thruT, thruB, frzT, putT, parT, tgtT, methT, onT, isStr, isLst, getT, starA, negT, dropT, breakT, contT, tgD, putA, seqI, rng1I, enumI, zipI, forT, lcF, wipeS,
  addD_ii, addD_ib, addD_ss, addD_ll, addD_tt, subD_ii, mulD_ii, mulD_li, fdivD_ii, modD_ii, cmpI_ii, eqB_ss, eqB_ii, eqB_bb, eqB_tt, eqB_ll, inB_l, inB_t, ixD_l, ixD_t, ixD_s, slD_l, slD_t, truD_b, truD_i, truD_n, truD_s, truD_l, truD_t, intR_i, intR_b, lenR_s, lenR_l, lenR_t, absR_i, minR_ii, maxR_ii, tupR_l, tupR_t, appD_1, insD_1, extD_1, splitM_1, optK_some, atI_0, atI_1, atI_2, atI_3, atI_4, cutL_1, cutL_2, cutL_t1, cutL_t2,
  List.map_cons, List.map_nil, List.replicate_succ, List.replicate_zero, List.cons_append, List.nil_append, List.length_cons, List.length_nil, List.set_cons_zero, List.set_cons_succ, List.getElem?_cons_zero, List.getElem?_cons_succ, List.drop_succ_cons, List.drop_zero, List.take_succ_cons, List.take_zero, true_and, and_true, true_or, or_true, decide_eq_true_eq, reduceCtorEq, if_true, if_false, ite_true, ite_false, D.int.injEq, Nat.reduceAdd, Nat.reduceSub, Int.reduceSub, Int.reduceAdd, Int.reduceNeg, Bool.false_eq_true, Bool.true_eq_false, decide_true, decide_false, Bool.not_true, Bool.not_false, Bool.not_eq_true', decide_eq_false_iff_not])
local macro_rules | `(tactic| walk_at "cd") => `(tactic| simp only [Code.toD, Code.toDs, Code.kids, List.any_cons, List.any_nil, D.py, PyData.eqv, beq_iff_eq, Bool.or_false, Bool.or_eq_true, Bool.or_eq_false_iff, or_false, false_or, q_name_given, q_name_if, q_name_with, q_name_work, q_name_call, q_name_bound, q_given_name, q_given_if, q_given_with, q_given_work, q_given_call, q_given_bound, q_if_name, q_if_given, q_if_with, q_if_work, q_if_call, q_if_bound, q_with_name, q_with_given, q_with_if, q_with_work, q_with_call, q_with_bound, q_work_name, q_work_given, q_work_if, q_work_with, q_work_call, q_work_bound, q_call_name, q_call_given, q_call_if, q_call_with, q_call_work, q_call_bound, q_bound_name, q_bound_given, q_bound_if, q_bound_with, q_bound_work, q_bound_call, in_name, in_given, in_if, in_with, in_work, in_call])
local macro_rules | `(tactic| walk_at "ce") => `(tactic| (walk_at "cd"; walk_at "dl"; (try walk_at "cd"); (try walk_at "dl"); (try walk_at "cd")))
/-! ### swapped, exchanged: the size stays -/
theorem oks_of : ∀ {cs : List Code}, (∀ c ∈ cs, c.ok) → Code.oks cs
  | [], _ => by simp only [Code.oks]
  | c :: cs, h => by simp only [Code.oks]; exact ⟨h c List.mem_cons_self, oks_of fun d hd => h d (List.mem_cons_of_mem _ hd)⟩
theorem kids_out {P : Code → Code → Prop} : ∀ {cs : List Code} {es : List D}, es.length = cs.length → (∀ (j : Nat) (c : Code), cs[j]? = some c → ∃ e, es[j]? = some e ∧ ∃ c' : Code, e = c'.toD ∧ c'.ok ∧ c'.size = c.size) →
    ∃ cs', es = Code.toDs cs' ∧ Code.oks cs' ∧ Code.sizes cs' = Code.sizes cs ∧ cs'.length = cs.length
  | [], [], _, _ => ⟨[], by simp only [Code.toDs], by simp only [Code.oks], rfl, rfl⟩
  | c :: cs, e :: es, hl, h => by
    obtain ⟨cs', e1, e2, e3, e4⟩ := kids_out (P := P) (cs := cs) (es := es) (by simpa using hl) fun j d hj => h (j + 1) d (by simpa using hj)
    obtain ⟨e', h1, c', rfl, h2, h3⟩ := h 0 c rfl
    obtain rfl : e = c'.toD := by simpa using h1
    exact ⟨c' :: cs', by simp only [Code.toDs, e1], by simp only [Code.oks]; exact ⟨h2, e2⟩, by simp only [Code.sizes]; omega, by simp [e4]⟩
  | [], e :: es, hl, _ => by simp at hl
  | c :: cs, [], hl, _ => by simp at hl
def R_swap (n : Nat) : RD := fun ds k => ∃ (c : Code) (x y : Str), ds = [c.toD, .str x, .str y] ∧ c.ok ∧ PyData.strOk x = true ∧ PyData.strOk y = true ∧ c.size ≤ n ∧ c.size ≤ 100 ∧ ∀ c' : Code, c'.ok → c'.size = c.size → k c'.toD
theorem kids_swap {n : Nat} {cs : List Code} {x y : Str} {ρ : List Sl} {k : List D → Prop} (h1 : ρ[1]? = some (.dat (.str x))) (h2 : ρ[2]? = some (.dat (.str y))) (hl : ρ.length = 6) (hx : PyData.strOk x = true) (hy : PyData.strOk y = true)
    (ho : ∀ c ∈ cs, c.ok) (hs : ∀ c ∈ cs, c.size ≤ n ∧ c.size ≤ 100) (hk : ∀ cs', Code.oks cs' → Code.sizes cs' = Code.sizes cs → cs'.length = cs.length → k (Code.toDs cs')) : compT (.nm 5) yesT (callT (R_swap n) (consA (nameT 5) (consA (nameT 1) (consA (nameT 2) nilA)))) ρ (Code.toDs cs) [] k := by
  match ρ, hl with
  | [s0, s1, s2, s3, s4, s5], _ =>
    simp only [List.getElem?_cons_succ, List.getElem?_cons_zero, Option.some.injEq] at h1 h2
    subst h1 h2
    refine comp_kids (P := fun c e => ∃ c' : Code, e = c'.toD ∧ c'.ok ∧ c'.size = c.size) (fun c hc κ q => ?_) fun es hl h => ?_
    · walk_at "dl"
      exact ⟨c, x, y, rfl, ho c hc, hx, hy, (hs c hc).1, (hs c hc).2, fun c' o s => q _ ⟨c', rfl, o, s⟩⟩
    · obtain ⟨cs', rfl, o, s, l⟩ := kids_out (P := fun _ _ => True) hl h
      exact hk cs' o s l
theorem four {cs : List Code} {k : List Code → Prop} (h : cs.length = 4) (q : ∀ a b c d, cs = [a, b, c, d] → k [a, b, c, d]) : k cs := by
  match cs, h with
  | [a, b, c, d], _ => exact q a b c d rfl
theorem p_swap (n : Nat) : ∀ ds κ, R_swap (n + 1) ds κ → t_L_swapped (R_swap n) R_in (endD κ) (enterS 6 ds) := by
  have hs : sizeLine = 16777216 := sizeLine_eq
  rintro ds κ ⟨c, x, y, rfl, ho, hx, hy, hn, hz, h⟩
  unfold t_L_swapped
  cases c with
  | nm z =>
    simp only [Code.ok] at ho
    walk_at "ce"
    refine ⟨by omega, by omega, ⟨by simp [D.py, D.pys, PyData.canLay0, PyData.canLayAll0, ho]; decide +kernel, by simp [D.py, D.pys, PyData.canLay0, PyData.canLayAll0, hx]; decide +kernel, by simp [D.py, D.pys, PyData.depth, PyData.depthAll]⟩, ?_⟩
    split
    · exact ⟨by omega, h (.nm y) hy rfl⟩
    · exact h (.nm z) ho rfl
  | gv i =>
    walk_at "ce"
    refine ⟨by omega, by omega, ⟨by simp [D.py, D.pys, PyData.canLay0, PyData.canLayAll0]; decide +kernel, by simp [D.py, D.pys, PyData.canLay0, PyData.canLayAll0, hx]; decide +kernel, by simp [D.py, D.pys, PyData.depth, PyData.depthAll]⟩, ?_⟩
    split
    · exact ⟨by omega, h (.nm y) hy rfl⟩
    · exact h (.gv i) ho rfl
  | wth z a b =>
    simp only [Code.ok] at ho
    simp only [Code.size] at hn hz h
    walk_at "ce"
    refine ⟨by omega, ?_⟩
    have go : ∀ b' : Code, b'.ok → b'.size = b.size → R_swap n [a.toD, D.str x, D.str y] fun d => 4 ≤ sizeLine ∧ κ (D.tup [D.str "with", D.str z, d, b'.toD]) := fun b' o s =>
      ⟨a, x, y, rfl, ho.2.1, hx, hy, by omega, by omega, fun a' o' s' => ⟨by omega, h (.wth z a' b') (by simp only [Code.ok]; exact ⟨ho.1, o', o⟩) (by simp only [Code.size]; omega)⟩⟩
    split
    · exact go b ho.2.2 rfl
    · exact ⟨b, x, y, rfl, ho.2.2, hx, hy, by omega, by omega, fun b' o s => go b' o s⟩
  | ite a b c d =>
    have ko := kids_ok ho
    have ks := kids_sizes (.ite a b c d)
    walk_at "ce"
    refine ⟨by omega, .ite a b c d, rfl, by rw [toDs_len]; simp [Code.kids]; omega, ?_⟩
    refine kids_swap (ρ := [_, _, _, _, _, _]) rfl rfl rfl hx hy (oks_mem ko) (fun e he => by have := sizes_mem he; omega) fun cs' o s l => ?_
    refine four (k := fun cs' => _) l fun a' b' c' d' e => ?_
    subst e
    simp only [Code.oks, and_true] at o
    simp only [Code.kids, Code.sizes] at s
    refine ⟨by omega, by simp only [Code.toDs, List.length_cons, List.length_nil]; omega, ?_⟩
    exact h (.ite a' b' c' d') (by simp only [Code.ok]; exact o) (by simp only [Code.size]; omega)
  | app w f cs =>
    have ko := kids_ok ho
    have ks := kids_sizes (.app w f cs)
    have kl := sizes_len cs
    simp only [Code.ok] at ho
    simp only [Code.kids] at ks ko
    simp only [Code.size] at h
    cases w
    · walk_at "ce"
      refine ⟨by omega, .app false f cs, rfl, by rw [toDs_len]; show cs.length ≤ _; omega, ?_⟩
      refine kids_swap (cs := cs) (ρ := [_, _, _, _, _, _]) rfl rfl rfl hx hy (oks_mem ko) (fun e he => by have := sizes_mem he; omega) fun cs' o s l => ?_
      exact ⟨by omega, by omega, h (.app false f cs') (by simp only [Code.ok]; exact ⟨ho.1, o⟩) (by simp only [Code.size]; omega)⟩
    · walk_at "ce"
      refine ⟨by omega, .app true f cs, rfl, by rw [toDs_len]; show cs.length ≤ _; omega, ?_⟩
      refine kids_swap (cs := cs) (ρ := [_, _, _, _, _, _]) rfl rfl rfl hx hy (oks_mem ko) (fun e he => by have := sizes_mem he; omega) fun cs' o s l => ?_
      exact ⟨by omega, by omega, h (.app true f cs') (by simp only [Code.ok]; exact ⟨ho.1, o⟩) (by simp only [Code.size]; omega)⟩
end K16

set_option Elab.async false
set_option linter.all false
set_option maxRecDepth 100000
set_option maxHeartbeats 4000000
namespace K16
open PySem L2 DL
local macro_rules | `(tactic| walk_at "dl") => `(tactic| simp only [seqT, iffT, setT, retT, nextT, retN, blT, DL.binT, nameT, cT, bagT, cutBT, putBT, augBT, consA, nilA, callT, ofF, lstF, lstR, tupT, eqD, neD, inD, notInD, someO, noneO, slT, revF, endD, enterS, ifT, andT, orT, notT, andB, orB, notB, truT, newT, mT, thruT, thruB, frzT, putT, parT, tgtT, methT, onT, isStr, isLst, getT, starA, negT, dropT, breakT, contT, tgD, putA, seqI, rng1I, enumI, zipI, forT, lcF, wipeS,
  addD_ii, addD_ib, addD_ss, addD_ll, addD_tt, subD_ii, mulD_ii, mulD_li, fdivD_ii, modD_ii, cmpI_ii, eqB_ss, eqB_ii, eqB_bb, eqB_tt, eqB_ll, inB_l, inB_t, ixD_l, ixD_t, ixD_s, slD_l, slD_t, truD_b, truD_i, truD_n, truD_s, truD_l, truD_t, intR_i, intR_b, lenR_s, lenR_l, lenR_t, absR_i, minR_ii, maxR_ii, tupR_l, tupR_t, appD_1, insD_1, extD_1, splitM_1, optK_some, atI_0, atI_1, atI_2, atI_3, atI_4, cutL_1, cutL_2, cutL_t1, cutL_t2,
  List.map_cons, List.map_nil, List.replicate_succ, List.replicate_zero, List.cons_append, List.nil_append, List.length_cons, List.length_nil, List.set_cons_zero, List.set_cons_succ, List.getElem?_cons_zero, List.getElem?_cons_succ, List.drop_succ_cons, List.drop_zero, List.take_succ_cons, List.take_zero, true_and, and_true, true_or, or_true, decide_eq_true_eq, reduceCtorEq, if_true, if_false, ite_true, ite_false, D.int.injEq, Nat.reduceAdd, Nat.reduceSub, Int.reduceSub, Int.reduceAdd, Int.reduceNeg, Bool.false_eq_true, Bool.true_eq_false, decide_true, decide_false, Bool.not_true, Bool.not_false, Bool.not_eq_true', decide_eq_false_iff_not])
local macro_rules | `(tactic| walk_at "cd") => `(tactic| simp only [Code.toD, Code.toDs, Code.kids, List.any_cons, List.any_nil, D.py, PyData.eqv, beq_iff_eq, Bool.or_false, Bool.or_eq_true, Bool.or_eq_false_iff, or_false, false_or, q_name_given, q_name_if, q_name_with, q_name_work, q_name_call, q_name_bound, q_given_name, q_given_if, q_given_with, q_given_work, q_given_call, q_given_bound, q_if_name, q_if_given, q_if_with, q_if_work, q_if_call, q_if_bound, q_with_name, q_with_given, q_with_if, q_with_work, q_with_call, q_with_bound, q_work_name, q_work_given, q_work_if, q_work_with, q_work_call, q_work_bound, q_call_name, q_call_given, q_call_if, q_call_with, q_call_work, q_call_bound, q_bound_name, q_bound_given, q_bound_if, q_bound_with, q_bound_work, q_bound_call, in_name, in_given, in_if, in_with, in_work, in_call])
local macro_rules | `(tactic| walk_at "ce") => `(tactic| (walk_at "cd"; walk_at "dl"; (try walk_at "cd"); (try walk_at "dl"); (try walk_at "cd")))
def R_exch (n : Nat) : RD := fun ds k => ∃ (c : Code) (ws : List Str), ds = [.bag, c.toD, .lst (ws.map .str)] ∧ c.ok ∧ Good ws ∧ ws.length ≤ 10 ∧ c.size ≤ n ∧ c.size ≤ 100 ∧ ∀ c' : Code, c'.ok → c'.size = c.size → k c'.toD
theorem kids_exch {n : Nat} {cs : List Code} {ws : List Str} {ρ : List Sl} {k : List D → Prop} (h1 : ρ[0]? = some (.dat .bag)) (h2 : ρ[2]? = some (.dat (.lst (ws.map .str)))) (hl : ρ.length = 6) (hw : Good ws) (hwl : ws.length ≤ 10)
    (ho : ∀ c ∈ cs, c.ok) (hs : ∀ c ∈ cs, c.size ≤ n ∧ c.size ≤ 100) (hk : ∀ cs', Code.oks cs' → Code.sizes cs' = Code.sizes cs → cs'.length = cs.length → k (Code.toDs cs')) : compT (.nm 5) yesT (callT (R_exch n) (consA (nameT 0) (consA (nameT 5) (consA (nameT 2) nilA)))) ρ (Code.toDs cs) [] k := by
  match ρ, hl with
  | [s0, s1, s2, s3, s4, s5], _ =>
    simp only [List.getElem?_cons_succ, List.getElem?_cons_zero, Option.some.injEq] at h1 h2
    subst h1 h2
    refine comp_kids (P := fun c e => ∃ c' : Code, e = c'.toD ∧ c'.ok ∧ c'.size = c.size) (fun c hc κ q => ?_) fun es hl h => ?_
    · walk_at "dl"
      exact ⟨c, ws, rfl, ho c hc, hw, hwl, (hs c hc).1, (hs c hc).2, fun c' o s => q _ ⟨c', rfl, o, s⟩⟩
    · obtain ⟨cs', rfl, o, s, l⟩ := kids_out (P := fun _ _ => True) hl h
      exact hk cs' o s l
theorem two {cs : List Code} {k : List Code → Prop} (h : cs.length = 2) (q : ∀ a b, cs = [a, b] → k [a, b]) : k cs := by
  match cs, h with
  | [a, b], _ => exact q a b rfl
theorem p_exch (n : Nat) : ∀ ds κ, R_exch (n + 1) ds κ → t_L_exchanged R_in (R_exch n) R_some R_take (R_swap 100) (endD κ) (enterS 6 ds) := by
  have hs : sizeLine = 16777216 := sizeLine_eq
  rintro ds κ ⟨c, ws, rfl, ho, hw, hwl, hn, hz, h⟩
  unfold t_L_exchanged
  cases c with
  | nm z =>
    walk_at "ce"
    exact ⟨by omega, h (.nm z) ho rfl⟩
  | gv i =>
    walk_at "ce"
    exact ⟨by omega, h (.gv i) ho rfl⟩
  | wth z a b =>
    have ko := kids_ok ho
    have ks := kids_sizes (.wth z a b)
    simp only [Code.ok] at ho
    walk_at "ce"
    refine ⟨by omega, .wth z a b, rfl, by rw [toDs_len]; simp [Code.kids]; omega, ?_⟩
    refine kids_exch (ρ := [_, _, _, _, _, _]) rfl rfl rfl hw hwl (oks_mem ko) (fun e he => by have := sizes_mem he; omega) fun cs' o s l => ?_
    refine two (k := fun cs' => _) l fun a' b' e => ?_
    subst e
    simp only [Code.oks, and_true] at o
    simp only [Code.kids, Code.sizes] at s
    simp only [Code.size] at h hz
    walk_at "ce"
    refine ⟨by omega, by simp only [List.length_map]; omega, ?_⟩
    have e : ws.map D.str ++ [D.str "fresh", D.str "other", D.str z, D.str z] = (ws ++ [("fresh" : Str), "other", z, z]).map .str := by rw [List.map_append]; rfl
    rw [e]
    have hg : Good (ws ++ [("fresh" : Str), "other", z, z]) := fun w hm => by
      rcases List.mem_append.mp hm with q | q
      · exact hw w q
      · rcases List.mem_cons.mp q with rfl | q
        · decide +kernel
        · rcases List.mem_cons.mp q with rfl | q
          · decide +kernel
          · rcases List.mem_cons.mp q with rfl | q
            · exact ho.1
            · rw [List.mem_singleton.mp q]; exact ho.1
    refine .inl ⟨_, rfl, by simp, by simp; omega, fun d hd => ?_⟩
    obtain ⟨v, hv, rfl⟩ := List.mem_map.mp hd
    have gv := hg v hv
    have fin : ∀ b2 : Code, b2.ok → b2.size = b'.size → κ (D.tup [D.str "with", D.str v, a'.toD, b2.toD]) := fun b2 o2 s2 => h (.wth v a' b2) (by simp only [Code.ok]; exact ⟨gv, o.1, o2⟩) (by simp only [Code.size]; omega)
    refine ⟨_, rfl, by omega, by omega, fun i i0 i1 => ?_⟩
    walk_at "dl"
    split
    · exact ⟨b', z, v, rfl, o.2, ho.1, gv, by omega, by omega, fun b2 o2 s2 => ⟨by omega, fin b2 o2 s2⟩⟩
    · exact ⟨by omega, fin b' o.2 rfl⟩
  | ite a b c d =>
    have ko := kids_ok ho
    have ks := kids_sizes (.ite a b c d)
    walk_at "ce"
    refine ⟨by omega, .ite a b c d, rfl, by rw [toDs_len]; simp [Code.kids]; omega, ?_⟩
    refine kids_exch (ρ := [_, _, _, _, _, _]) rfl rfl rfl hw hwl (oks_mem ko) (fun e he => by have := sizes_mem he; omega) fun cs' o s l => ?_
    refine four (k := fun cs' => _) l fun a' b' c' d' e => ?_
    subst e
    simp only [Code.oks, and_true] at o
    simp only [Code.kids, Code.sizes] at s
    refine ⟨by omega, by simp only [Code.toDs, List.length_cons, List.length_nil]; omega, ?_⟩
    exact h (.ite a' b' c' d') (by simp only [Code.ok]; exact o) (by simp only [Code.size]; omega)
  | app w f cs =>
    have ko := kids_ok ho
    have ks := kids_sizes (.app w f cs)
    have kl := sizes_len cs
    simp only [Code.ok] at ho
    simp only [Code.kids] at ks ko
    simp only [Code.size] at h
    cases w
    · walk_at "ce"
      refine ⟨by omega, .app false f cs, rfl, by rw [toDs_len]; show cs.length ≤ _; omega, ?_⟩
      refine kids_exch (cs := cs) (ρ := [_, _, _, _, _, _]) rfl rfl rfl hw hwl (oks_mem ko) (fun e he => by have := sizes_mem he; omega) fun cs' o s l => ?_
      exact ⟨by omega, by omega, h (.app false f cs') (by simp only [Code.ok]; exact ⟨ho.1, o⟩) (by simp only [Code.size]; omega)⟩
    · walk_at "ce"
      refine ⟨by omega, .app true f cs, rfl, by rw [toDs_len]; show cs.length ≤ _; omega, ?_⟩
      refine kids_exch (cs := cs) (ρ := [_, _, _, _, _, _]) rfl rfl rfl hw hwl (oks_mem ko) (fun e he => by have := sizes_mem he; omega) fun cs' o s l => ?_
      exact ⟨by omega, by omega, h (.app true f cs') (by simp only [Code.ok]; exact ⟨ho.1, o⟩) (by simp only [Code.size]; omega)⟩
end K16

set_option Elab.async false
set_option linter.all false
set_option maxRecDepth 100000
set_option maxHeartbeats 4000000
namespace K16
open PySem L2 DL
local macro_rules | `(tactic| walk_at "dl") => `(tactic| simp only [seqT, iffT, setT, retT, nextT, retN, blT, DL.binT, nameT, cT, bagT, cutBT, putBT, augBT, consA, nilA, callT, ofF, lstF, lstR, tupT, eqD, neD, inD, notInD, someO, noneO, slT, revF, endD, enterS, ifT, andT, orT, notT, andB, orB, notB, truT, newT, mT, thruT, thruB, frzT, putT, parT, tgtT, methT, onT, isStr, isLst, getT, starA, negT, dropT, breakT, contT, tgD, putA, seqI, rng1I, enumI, zipI, forT, lcF, wipeS,
  addD_ii, addD_ib, addD_ss, addD_ll, addD_tt, subD_ii, mulD_ii, mulD_li, fdivD_ii, modD_ii, cmpI_ii, eqB_ss, eqB_ii, eqB_bb, eqB_tt, eqB_ll, inB_l, inB_t, ixD_l, ixD_t, ixD_s, slD_l, slD_t, truD_b, truD_i, truD_n, truD_s, truD_l, truD_t, intR_i, intR_b, lenR_s, lenR_l, lenR_t, absR_i, minR_ii, maxR_ii, tupR_l, tupR_t, appD_1, insD_1, extD_1, splitM_1, optK_some, atI_0, atI_1, atI_2, atI_3, atI_4, cutL_1, cutL_2, cutL_t1, cutL_t2,
  List.map_cons, List.map_nil, List.replicate_succ, List.replicate_zero, List.cons_append, List.nil_append, List.length_cons, List.length_nil, List.set_cons_zero, List.set_cons_succ, List.getElem?_cons_zero, List.getElem?_cons_succ, List.drop_succ_cons, List.drop_zero, List.take_succ_cons, List.take_zero, true_and, and_true, true_or, or_true, decide_eq_true_eq, reduceCtorEq, if_true, if_false, ite_true, ite_false, D.int.injEq, Nat.reduceAdd, Nat.reduceSub, Int.reduceSub, Int.reduceAdd, Int.reduceNeg, Bool.false_eq_true, Bool.true_eq_false, decide_true, decide_false, Bool.not_true, Bool.not_false, Bool.not_eq_true', decide_eq_false_iff_not])
local macro_rules | `(tactic| walk_at "cd") => `(tactic| simp only [Code.toD, Code.toDs, Code.kids, List.any_cons, List.any_nil, D.py, PyData.eqv, beq_iff_eq, Bool.or_false, Bool.or_eq_true, Bool.or_eq_false_iff, or_false, false_or, q_name_given, q_name_if, q_name_with, q_name_work, q_name_call, q_name_bound, q_given_name, q_given_if, q_given_with, q_given_work, q_given_call, q_given_bound, q_if_name, q_if_given, q_if_with, q_if_work, q_if_call, q_if_bound, q_with_name, q_with_given, q_with_if, q_with_work, q_with_call, q_with_bound, q_work_name, q_work_given, q_work_if, q_work_with, q_work_call, q_work_bound, q_call_name, q_call_given, q_call_if, q_call_with, q_call_work, q_call_bound, q_bound_name, q_bound_given, q_bound_if, q_bound_with, q_bound_work, q_bound_call, in_name, in_given, in_if, in_with, in_work, in_call])
local macro_rules | `(tactic| walk_at "ce") => `(tactic| (walk_at "cd"; walk_at "dl"; (try walk_at "cd"); (try walk_at "dl"); (try walk_at "cd")))
/-! ### a code -/
def R_any (n : Nat) : RD := fun ds k => ∃ (ws : List Str) (r : Int), ds = [.bag, .lst (ws.map .str), .int r] ∧ Good ws ∧ ws ≠ [] ∧ ws.length ≤ 10 ∧ 0 ≤ r ∧ r < n ∧ r ≤ 60 ∧ ∀ c : Code, c.ok → (c.size : Int) ≤ max r 1 → k c.toD
theorem sizes_le {b : Nat} : ∀ {cs : List Code}, (∀ c ∈ cs, c.size ≤ b) → Code.sizes cs ≤ cs.length * b
  | [], _ => by simp [Code.sizes]
  | c :: cs, h => by
    have h1 := sizes_le (cs := cs) fun d hd => h d (List.mem_cons_of_mem _ hd)
    have h2 := h c List.mem_cons_self
    simp only [Code.sizes, List.length_cons, Nat.succ_mul]
    omega
theorem codes_out {P : Code → Prop} {ds es : List D} (h : All2 (fun _ e => ∃ c : Code, e = c.toD ∧ P c) ds es) : ∃ cs, es = Code.toDs cs ∧ cs.length = ds.length ∧ ∀ c ∈ cs, P c := by
  induction h with
  | nil => exact ⟨[], by simp only [Code.toDs], rfl, fun _ z => nomatch z⟩
  | cons hr _ ih =>
    obtain ⟨c, rfl, hc⟩ := hr
    obtain ⟨cs, rfl, hl, hp⟩ := ih
    refine ⟨c :: cs, by simp only [Code.toDs], by simp [hl], fun d hd => ?_⟩
    rcases List.mem_cons.mp hd with rfl | hd
    · exact hc
    · exact hp d hd
/-- a call's result for each i in range(m) -/
theorem comp_any {n m : Nat} {te : TD} {P : Code → Prop} {ρ : List Sl} {i : Nat} {k : List D → Prop} (h : ∀ d κ', (∀ c : Code, P c → κ' c.toD) → te (ρ.set i (.dat d)) κ') (hk : ∀ cs : List Code, cs.length = m → (∀ c ∈ cs, P c) → k (Code.toDs cs)) :
    compT (.nm i) yesT te ρ ((List.range m).map fun i => D.int (i : Nat)) [] k := by
  refine compT_ind (R := fun _ e => ∃ c : Code, e = c.toD ∧ P c) (fun d _ κ' q => h d κ' fun c hc => q _ ⟨c, rfl, hc⟩) fun es he => ?_
  obtain ⟨cs, rfl, hl, hp⟩ := codes_out he
  exact hk cs (by simpa using hl) hp
theorem some_words {l : List Str} {κ : D → Prop} (hl : l.length < 2 ^ 20) (hn : l ≠ []) (h : ∀ w ∈ l, κ (.str w)) : R_some [.bag, .lst (l.map .str)] κ :=
  .inl ⟨_, rfl, by simpa using hn, by rw [List.length_map]; exact hl, fun d hd => by obtain ⟨w, hw', rfl⟩ := List.mem_map.mp hd; exact h w hw'⟩
theorem up_good : Good ["up", "of", "one"] := List.all_eq_true.mp (by decide +kernel : (["up", "of", "one"] : List Str).all PyData.strOk = true)
theorem p_any (n : Nat) : ∀ ds κ, R_any (n + 1) ds κ → t_L_any R_take R_some (R_any n) (endD κ) (enterS 8 ds) := by
  have hs : sizeLine = 16777216 := sizeLine_eq
  rintro ds κ ⟨ws, r, rfl, hw, hne, hwl, r0, rn, rz, h⟩
  unfold t_L_any
  have leaf : ∀ c : Code, c.ok → c.size = 1 → κ c.toD := fun c o s => h c o (by omega)
  have h1 : (6 ≤ sizeLine ∧ R_some [D.bag, D.lst [D.int 0, D.int 1, D.int 2, D.int 2, D.int 10, D.int 11]] fun d => 2 ≤ sizeLine ∧ κ (D.tup [D.str "given", d])) := by
    refine ⟨by omega, .inl ⟨_, rfl, by simp, by simp, fun d hd => ⟨by omega, ?_⟩⟩⟩
    simp only [List.mem_cons, List.not_mem_nil, or_false] at hd
    rcases hd with rfl | rfl | rfl | rfl | rfl | rfl <;> exact leaf (.gv _) True.intro rfl
  have h2 : R_some [D.bag, D.lst (List.map D.str ws)] fun d => 2 ≤ sizeLine ∧ κ (D.tup [D.str "name", d]) :=
    some_words (by omega) hne fun w hw' => ⟨by omega, leaf (.nm w) (hw w hw') rfl⟩
  generalize hT : (seqT (setT 5 (callT minR _)) _ : TSD) = tl
  walk_at "dl"
  refine ⟨_, rfl, by omega, by omega, fun way w0 w1 => ?_⟩
  have h3 : ∀ ρ : List Sl, (∃ s, ρ = [.dat .bag, .dat (.lst (ws.map .str)), .dat (.int r), .dat (.int way), s, .un, .un, .un]) → 2 ≤ r → tl { nx := fun _ => κ .non, rt := κ, bk := fun _ => False, ct := fun _ => False } ρ := by
    rintro ρ ⟨s, rfl⟩ hr
    subst hT
    walk_at "dl"
    refine ⟨_, rfl, by omega, by omega, fun z z0 z1 => ?_⟩
    walk_at "dl"
    have go : ∀ m : Int, 0 < m → m < 2 ^ 10 → R_take [D.bag, D.int m] fun d => minR [d, D.int (r - 1)] fun d => (rng1I (fun _ k => k [d]) [] fun ds => ds.length ≤ sizeLine ∧
        compT (Tg.nm 7) yesT (callT (R_any n) (consA (nameT 0) (consA (nameT 1) (consA (DL.binT fdivD (DL.binT mulD (DL.binT subD (nameT 2) (cT (D.int 1))) (cT (D.int 3))) (DL.binT addD (DL.binT mulD (cT (D.int 3)) (nameT 5)) (callT intR (consA (DL.binT eqD (nameT 5) (cT (D.int 1))) nilA)))) nilA))))
          [.dat .bag, .dat (.lst (ws.map .str)), .dat (.int r), .dat (.int way), s, .dat d, .un, .un] ds [] fun ds => if way < 10 then
            3 ≤ sizeLine ∧ R_some [D.bag, D.lst [D.str "up", D.str "of", D.str "one"]] fun d => 3 ≤ sizeLine ∧ κ (D.tup [D.str "work", d, D.tup ds])
          else 3 ≤ sizeLine ∧ R_some [D.bag, D.lst [D.str "up", D.str "of", D.str "one"]] fun d => 3 ≤ sizeLine ∧ κ (D.tup [D.str "call", d, D.tup ds])) := by
      intro m m0 m1
      refine ⟨m, rfl, m0, by omega, fun j j0 j1 => ?_⟩
      walk_at "dl"
      generalize hq : (if r - 1 < j then r - 1 else j) = q
      have q0 : 0 ≤ q := by rw [← hq]; split <;> omega
      have q1 : q ≤ r - 1 := by rw [← hq]; split <;> omega
      have q2 : q < 2 ^ 10 := by rw [← hq]; split <;> omega
      obtain ⟨a, rfl⟩ : ∃ a : Nat, q = a := ⟨q.toNat, by omega⟩
      refine ⟨by omega, by simp; omega, ?_⟩
      rw [Int.toNat_natCast]
      -- the room of each
      have fin : ∀ cs : List Code, Code.oks cs → (Code.sizes cs : Int) ≤ r - 1 → cs.length = a → if way < 10 then
            3 ≤ sizeLine ∧ R_some [D.bag, D.lst [D.str "up", D.str "of", D.str "one"]] fun d => 3 ≤ sizeLine ∧ κ (D.tup [D.str "work", d, D.tup (Code.toDs cs)])
          else 3 ≤ sizeLine ∧ R_some [D.bag, D.lst [D.str "up", D.str "of", D.str "one"]] fun d => 3 ≤ sizeLine ∧ κ (D.tup [D.str "call", d, D.tup (Code.toDs cs)]) := by
        intro cs o sz l
        split
        · exact ⟨by omega, some_words (l := ["up", "of", "one"]) (by simp) (by simp) fun w hw' => ⟨by omega, h (.app true w cs) (by simp only [Code.ok]; exact ⟨up_good w hw', o⟩) (by simp only [Code.size]; omega)⟩⟩
        · exact ⟨by omega, some_words (l := ["up", "of", "one"]) (by simp) (by simp) fun w hw' => ⟨by omega, h (.app false w cs) (by simp only [Code.ok]; exact ⟨up_good w hw', o⟩) (by simp only [Code.size]; omega)⟩⟩
      by_cases a0 : a = 0
      · subst a0
        exact fin [] (by simp only [Code.oks]) (by simp only [Code.sizes]; omega) rfl
      · have bnd : ∃ x : Int, (r - 1) * 3 / (3 * (a : Int) + if ((a : Int) = 1) then 1 else 0) = x ∧ 0 ≤ x ∧ x < n ∧ x ≤ 60 ∧ ((a : Int) * max x 1 ≤ r - 1) := by
          by_cases a1 : a = 1
          · subst a1
            refine ⟨_, rfl, ?_⟩
            simp only [Int.cast_ofNat_Int, if_true]
            omega
          · rw [if_neg (by omega)]
            have ha : (0 : Int) < 3 * (a : Int) + 0 := by omega
            have e1 := Int.ediv_mul_le ((r - 1) * 3) (b := 3 * (a : Int) + 0) (by omega)
            have e2 : 0 ≤ (r - 1) * 3 / (3 * (a : Int) + 0) := Int.ediv_nonneg (by omega) (by omega)
            generalize (r - 1) * 3 / (3 * (a : Int) + 0) = x at e1 e2
            have e3 : x * (3 * (a : Int) + 0) = 3 * ((a : Int) * x) := by rw [Int.add_zero, Int.mul_left_comm, Int.mul_comm x]
            rw [e3] at e1
            have e4 : (a : Int) * x ≤ r - 1 := by omega
            have e5 : x ≤ (a : Int) * x := by
              have : (1 : Int) * x ≤ (a : Int) * x := Int.mul_le_mul_of_nonneg_right (by omega) e2
              omega
            refine ⟨x, rfl, e2, by omega, by omega, ?_⟩
            rcases Int.le_total x 1 with hx | hx
            · rw [Int.max_eq_right hx]; omega
            · rw [Int.max_eq_left hx]; exact e4
        obtain ⟨x, hx, x0, xn, x60, hsz⟩ := bnd
        refine comp_any (n := 0) (P := fun c => c.ok ∧ (c.size : Int) ≤ max x 1) (fun d κ' q => ?_) fun cs l p => fin cs (oks_of fun c hc => (p c hc).1) ?_ l
        · walk_at "dl"
          refine ⟨.inr ⟨by omega, by omega⟩, .inl ⟨by omega, by omega⟩, ⟨by split <;> omega, by split <;> omega⟩, ?_⟩
          rw [hx]
          exact ⟨ws, x, rfl, hw, hne, hwl, x0, xn, x60, fun c o sz => q c ⟨o, sz⟩⟩
        · obtain ⟨y, hy⟩ : ∃ y : Nat, max x 1 = y := ⟨(max x 1).toNat, by omega⟩
          rw [hy] at hsz p
          have := sizes_le (b := y) fun c hc => by have := (p c hc).2; omega
          rw [l] at this
          have e : ((a * y : Nat) : Int) = (a : Int) * (y : Int) := Int.natCast_mul a y
          omega
    split
    · exact go 13 (by omega) (by omega)
    · exact go 4 (by omega) (by omega)
  have h4 : r > 4 → (1 ≤ sizeLine ∧ (-2 ^ 62 ≤ (4 : Int) ∧ (4 : Int) < 2 ^ 62) ∧ (List.map (fun i => D.int (i : Nat)) (List.range (Int.toNat 4))).length ≤ sizeLine ∧
      compT (Tg.nm 7) yesT (callT (R_any n) (consA (nameT 0) (consA (nameT 1) (consA (DL.binT fdivD (DL.binT subD (nameT 2) (cT (D.int 1))) (cT (D.int 4))) nilA))))
        [Sl.dat D.bag, Sl.dat (D.lst (List.map D.str ws)), Sl.dat (D.int r), Sl.dat (D.int way), Sl.un, Sl.un, Sl.un, Sl.un]
        (List.map (fun i => D.int (i : Nat)) (List.range (Int.toNat 4))) [] fun ds => 1 + ds.length ≤ sizeLine ∧ κ (D.tup (D.str "if" :: ds))) := by
    intro hr
    refine ⟨by omega, by omega, by simp; omega, comp_any (n := 0) (m := 4) (P := fun c => c.ok ∧ (c.size : Int) ≤ (r - 1) / 4) (fun d κ' q => ?_) fun cs l p => ?_⟩
    · walk_at "dl"
      exact ⟨⟨by omega, by omega⟩, ws, _, rfl, hw, hne, hwl, by omega, by omega, by omega, fun c o sz => q c ⟨o, by omega⟩⟩
    · refine four (k := fun cs => 1 + (Code.toDs cs).length ≤ sizeLine ∧ κ (D.tup (D.str "if" :: Code.toDs cs))) l fun a b c d e => ?_
      subst e
      have pa := p a (by simp)
      have pb := p b (by simp)
      have pc := p c (by simp)
      have pd := p d (by simp)
      exact ⟨by simp only [Code.toDs, List.length_cons, List.length_nil]; omega, h (.ite a b c d) (by simp only [Code.ok]; exact ⟨pa.1, pb.1, pc.1, pd.1⟩) (by simp only [Code.size]; omega)⟩
  have h5 : r > 2 → R_some [D.bag, D.lst (List.map D.str ws)] fun d => CDiv (r - 1) 3 ∧ R_any n [D.bag, D.lst (List.map D.str ws), D.int ((r - 1) / 3)] fun d_1 => CMul (r - 1) 2 ∧ CDiv ((r - 1) * 2) 3 ∧
      R_any n [D.bag, D.lst (List.map D.str ws), D.int ((r - 1) * 2 / 3)] fun d_2 => 4 ≤ sizeLine ∧ κ (D.tup [D.str "with", d, d_1, d_2]) := by
    intro hr
    refine some_words (by omega) hne fun w hw' => ⟨⟨by omega, by omega⟩, ws, _, rfl, hw, hne, hwl, by omega, by omega, by omega, fun c o sz => ⟨.inr ⟨by omega, by omega⟩, ⟨by omega, by omega⟩, ws, _, rfl, hw, hne, hwl, by omega, by omega, by omega, fun c' o' sz' => ⟨by omega, ?_⟩⟩⟩
    exact h (.wth w c c') (by simp only [Code.ok]; exact ⟨hw w hw', o, o'⟩) (by simp only [Code.size]; omega)
  walk_at "dl"
  repeat' split
  all_goals first | exact h1 | exact h2 | exact h4 (by omega) | exact h5 (by omega) | exact h3 _ ⟨_, rfl⟩ (by omega)
end K16

set_option Elab.async false
set_option linter.all false
set_option maxRecDepth 100000
set_option maxHeartbeats 4000000
namespace K16
open PySem L2 DL
local macro_rules | `(tactic| walk_at "dl") => `(tactic| simp only [seqT, iffT, setT, retT, nextT, retN, blT, DL.binT, nameT, cT, bagT, cutBT, putBT, augBT, consA, nilA, callT, ofF, lstF, lstR, tupT, eqD, neD, inD, notInD, someO, noneO, slT, revF, endD, enterS, ifT, andT, orT, notT, andB, orB, notB, truT, newT, mT, thruT, thruB, frzT, putT, parT, tgtT, methT, onT, isStr, isLst, getT, starA, negT, dropT, breakT, contT, tgD, putA, seqI, rng1I, enumI, zipI, forT, lcF, wipeS,
  addD_ii, addD_ib, addD_ss, addD_ll, addD_tt, subD_ii, mulD_ii, mulD_li, fdivD_ii, modD_ii, cmpI_ii, eqB_ss, eqB_ii, eqB_bb, eqB_tt, eqB_ll, inB_l, inB_t, ixD_l, ixD_t, ixD_s, slD_l, slD_t, truD_b, truD_i, truD_n, truD_s, truD_l, truD_t, intR_i, intR_b, lenR_s, lenR_l, lenR_t, absR_i, minR_ii, maxR_ii, tupR_l, tupR_t, appD_1, insD_1, extD_1, splitM_1, optK_some, atI_0, atI_1, atI_2, atI_3, atI_4, cutL_1, cutL_2, cutL_t1, cutL_t2,
  List.map_cons, List.map_nil, List.replicate_succ, List.replicate_zero, List.cons_append, List.nil_append, List.length_cons, List.length_nil, List.set_cons_zero, List.set_cons_succ, List.getElem?_cons_zero, List.getElem?_cons_succ, List.drop_succ_cons, List.drop_zero, List.take_succ_cons, List.take_zero, true_and, and_true, true_or, or_true, decide_eq_true_eq, reduceCtorEq, if_true, if_false, ite_true, ite_false, D.int.injEq, Nat.reduceAdd, Nat.reduceSub, Int.reduceSub, Int.reduceAdd, Int.reduceNeg, Bool.false_eq_true, Bool.true_eq_false, decide_true, decide_false, Bool.not_true, Bool.not_false, Bool.not_eq_true', decide_eq_false_iff_not])
local macro_rules | `(tactic| walk_at "cd") => `(tactic| simp only [Code.toD, Code.toDs, Code.kids, List.any_cons, List.any_nil, D.py, PyData.eqv, beq_iff_eq, Bool.or_false, Bool.or_eq_true, Bool.or_eq_false_iff, or_false, false_or, q_name_given, q_name_if, q_name_with, q_name_work, q_name_call, q_name_bound, q_given_name, q_given_if, q_given_with, q_given_work, q_given_call, q_given_bound, q_if_name, q_if_given, q_if_with, q_if_work, q_if_call, q_if_bound, q_with_name, q_with_given, q_with_if, q_with_work, q_with_call, q_with_bound, q_work_name, q_work_given, q_work_if, q_work_with, q_work_call, q_work_bound, q_call_name, q_call_given, q_call_if, q_call_with, q_call_work, q_call_bound, q_bound_name, q_bound_given, q_bound_if, q_bound_with, q_bound_work, q_bound_call, in_name, in_given, in_if, in_with, in_work, in_call])
local macro_rules | `(tactic| walk_at "ce") => `(tactic| (walk_at "cd"; walk_at "dl"; (try walk_at "cd"); (try walk_at "dl"); (try walk_at "cd")))
/-! ### names -/
theorem strOk_app {x y : Str} (hx : PyData.strOk x = true) (hy : PyData.strOk y = true) : PyData.strOk (x ++ y) = true := by
  unfold PyData.strOk at *
  show (x.cps ++ y.cps).all _ = true
  rw [Array.all_append, hx, hy]; rfl
theorem strOk_join : ∀ ys : List Str, Good ys → PyData.strOk (Str.join "" ys) = true
  | [], _ => by decide +kernel
  | [x], h => h x List.mem_cons_self
  | x :: y :: rest, h => by
    show PyData.strOk (x ++ ("" : Str) ++ Str.join "" (y :: rest)) = true
    exact strOk_app (strOk_app (h x List.mem_cons_self) (by decide +kernel)) (strOk_join (y :: rest) fun z hz => h z (List.mem_cons_of_mem _ hz))
theorem strs_out {P : Str → Prop} {ds es : List D} (h : All2 (fun _ e => ∃ c : Str, e = .str c ∧ P c) ds es) : ∃ cs : List Str, es = cs.map .str ∧ cs.length = ds.length ∧ ∀ c ∈ cs, P c := by
  induction h with
  | nil => exact ⟨[], rfl, rfl, fun _ z => nomatch z⟩
  | cons hr _ ih =>
    obtain ⟨c, rfl, hc⟩ := hr
    obtain ⟨cs, rfl, hl, hp⟩ := ih
    refine ⟨c :: cs, rfl, by simp [hl], fun d hd => ?_⟩
    rcases List.mem_cons.mp hd with rfl | hd
    · exact hc
    · exact hp d hd
abbrev letters : Str := "abcdefghijklmnopqrstuvwxyz"
theorem letters_ok : letters.cps.toList.all (· < 0x110000) = true := by decide +kernel
theorem letters_len : letters.length = 26 := by decide +kernel
theorem p_names : ∀ ds κ, R_words ds κ → t_L_names_of R_take R_words R_some (endD κ) (enterS 7 ds) := by
  have hs : sizeLine = 16777216 := sizeLine_eq
  rintro ds κ ⟨m, rfl, h1, h3, h⟩
  unfold t_L_names_of
  generalize hB : (seqT (setT 5 (methT joinM _ _)) _ : TSD) = body
  walk_at "dl"
  refine ⟨_, rfl, by omega, by omega, fun i i0 i1 => ?_⟩
  walk_at "dl"
  split
  · exact ⟨m, rfl, h1, h3, h⟩
  · refine ⟨by omega, by omega, ⟨by omega, by omega⟩, ?_⟩
    obtain ⟨b, rfl⟩ : ∃ b : Nat, m = b := ⟨m.toNat, by omega⟩
    refine loopT_ind (I := fun rest ρ => ∃ (ws : List Str) (u v w : Sl), ρ = [.dat .bag, .dat (.int b), .dat (.str letters), .dat (.lst (ws.map .str)), u, v, w] ∧ Good ws ∧ (rest.length < 6 → rest.length < b + 3 → ws ≠ []) ∧ ws.length + rest.length ≤ 6 ∧ rest.length ≤ b + 3) ?_ ?_ ⟨[], _, _, _, rfl, (fun _ z => nomatch z), (fun h h' => ?_), ?_, ?_⟩
    · rintro ρ ⟨ws, u, v, w, rfl, g, hne, hle, _⟩
      walk_at "dl"
      rw [cutL_to, ← List.map_take]
      have hn := hne (by simp) (by simp)
      refine h _ (fun z hz => g z (List.mem_of_mem_take hz)) (fun e => ?_) (by rw [List.length_take]; omega)
      have := congrArg List.length e
      rw [List.length_take] at this
      have h0 : 0 < ws.length := List.length_pos_iff.mpr hn
      rw [List.length_nil] at this
      omega
    · rintro d rest ρ N hN ⟨ws, u, v, w, rfl, g, hne, hle, hb⟩
      rw [List.length_cons] at hle hb
      subst hB
      walk_at "dl"
      refine ⟨_, rfl, by omega, by omega, fun p p0 p1 => ⟨_, rfl, by omega, by omega, fun q q0 q1 => ?_⟩⟩
      walk_at "dl"
      have pq : p * q ≤ 7 := by
        have : p = 0 ∨ p = 1 := by omega
        rcases this with rfl | rfl <;> omega
      have pq0 : 0 ≤ p * q := Int.mul_nonneg p0 q0
      refine ⟨.inr ⟨by omega, by omega⟩, ⟨by omega, by omega⟩, by rw [List.length_map, List.length_range]; omega, ?_⟩
      refine compT_ind (R := fun _ e => ∃ c : Str, e = .str c ∧ (PyData.strOk c = true ∧ c.length = 1)) (fun d' _ κ' k => ?_) fun es he => ?_
      · walk_at "dl"
        refine .inr ⟨letters, rfl, by rw [letters_len]; omega, by rw [letters_len]; omega, fun c hc => k _ ⟨_, rfl, ?_, rfl⟩⟩
        have := List.all_eq_true.mp letters_ok c hc
        unfold PyData.strOk
        simpa using this
      · obtain ⟨cs, rfl, cl, cp⟩ := strs_out he
        have cs1 : (cs.map (·.length)).sum = cs.length := by
          have : ∀ cs : List Str, (∀ c ∈ cs, c.length = 1) → (cs.map (·.length)).sum = cs.length := by
            intro cs
            induction cs with
            | nil => intro _; rfl
            | cons a l ih => intro h; rw [List.map_cons, List.sum_cons, ih fun c hc => h c (List.mem_cons_of_mem _ hc), h a List.mem_cons_self, List.length_cons]; omega
          exact this cs fun c hc => (cp c hc).2
        rw [List.length_map, List.length_range] at cl
        rw [List.nil_append]
        refine ⟨cs, .inl rfl, ?_, by omega, ?_⟩
        · have e0 : ("" : Str).length = 0 := by decide +kernel
          rw [cs1, e0]; omega
        · have ok : PyData.strOk (Txt.join "" cs) = true := by rw [TL.join_eq]; exact strOk_join cs fun c hc => (cp c hc).1
          refine ⟨in_strs ok g, grows (κ := fun d' => N [.dat .bag, .dat (.int b), .dat (.str letters), .dat d', .dat d, .dat (.str (Txt.join "" cs)), w]) _ any_ne ok g (fun ws' g3 n3 l3 => ?_) (by omega)⟩
          exact hN _ ⟨ws', _, _, _, rfl, g3, fun _ _ => n3, by omega, by omega⟩
    · rw [List.length_map, List.length_range] at h'; omega
    · rw [List.length_map, List.length_range, List.length_nil]; omega
    · rw [List.length_map, List.length_range]; omega

/-! ### deepened -/
theorem last_name {ws : List Str} (h : ws ≠ []) : ∃ w ∈ ws, L2.atI (ws.map D.str) (-1) = some (.str w) := by
  obtain ⟨l, w, rfl⟩ : ∃ l w, ws = l ++ [w] := ⟨ws.dropLast, ws.getLast h, (List.dropLast_concat_getLast h).symm⟩
  exact ⟨w, by simp, by rw [List.map_append]; exact L2.atI_last _ _⟩
theorem first_name {ws : List Str} (h : ws ≠ []) : ∃ w ∈ ws, L2.atI (ws.map D.str) 0 = some (.str w) := by
  cases ws with
  | nil => exact absurd rfl h
  | cons w l => exact ⟨w, List.mem_cons_self, atI_0⟩
def R_deep : RD := fun ds k => ∃ (ws : List Str) (c : Code), ds = [.bag, .lst (ws.map .str), c.toD] ∧ Good ws ∧ ws ≠ [] ∧ c.ok ∧ c.size ≤ 31 ∧ ∀ c' : Code, c'.ok → c'.size ≤ 60 → k c'.toD
theorem p_deep : ∀ ds κ, R_deep ds κ → t_L_deepened R_take (endD κ) (enterS 5 ds) := by
  have hs : sizeLine = 16777216 := sizeLine_eq
  rintro ds κ ⟨ws, c, rfl, hw, hne, ho, hz, h⟩
  obtain ⟨w0, m0, e0⟩ := first_name hne
  obtain ⟨w1, m1, e1⟩ := last_name hne
  unfold t_L_deepened
  generalize hB : (seqT (setT 4 _) _ : TSD) = body
  walk_at "dl"
  refine ⟨_, rfl, by omega, by omega, fun p p0 p1 => ⟨_, rfl, by omega, by omega, fun q q0 q1 => ?_⟩⟩
  walk_at "dl"
  generalize ht : (if q = 0 then (1 : Int) else 0) = t
  have pq : 0 ≤ p * t ∧ p * t ≤ 12 := by rw [← ht]; split <;> omega
  refine ⟨.inl ⟨by omega, by omega⟩, ⟨by omega, by omega⟩, ?_⟩
  refine loopT_ind (I := fun rest ρ => ∃ (c : Code) (u v : Sl), ρ = [.dat .bag, .dat (.lst (ws.map .str)), .dat c.toD, u, v] ∧ c.ok ∧ c.size + 2 * rest.length ≤ 31 + 24) ?_ ?_ ⟨c, _, _, rfl, ho, by rw [List.length_map, List.length_range]; omega⟩
  · rintro ρ ⟨c', u, v, rfl, o, sz⟩
    walk_at "dl"
    exact h c' o (by omega)
  · rintro d rest ρ N hN ⟨c', u, v, rfl, o, sz⟩
    rw [List.length_cons] at sz
    subst hB
    walk_at "dl"
    refine ⟨_, rfl, by omega, by omega, fun a a0 a1 => ?_⟩
    walk_at "dl"
    refine ⟨by omega, by omega, by omega, by omega, optK_of e0 (optK_of e1 ⟨by omega, by omega, by omega, ?_⟩)⟩
    have cs3 : a = 0 ∨ a = 1 ∨ a = 2 := by omega
    rcases cs3 with rfl | rfl | rfl
    · exact optK_of atI_0 (hN _ ⟨.app true "up" [c'], .dat d, .dat (.int 0), by simp only [Code.toD, Code.toDs, if_true], by simp only [Code.ok, Code.oks]; exact ⟨by decide +kernel, o, True.intro⟩, by simp only [Code.size, Code.sizes]; omega⟩)
    · exact optK_of atI_1 (hN _ ⟨.app false "of" [c'], .dat d, .dat (.int 1), by simp [Code.toD, Code.toDs], by simp only [Code.ok, Code.oks]; exact ⟨by decide +kernel, o, True.intro⟩, by simp only [Code.size, Code.sizes]; omega⟩)
    · exact optK_of atI_2 (hN _ ⟨.wth w0 c' (.nm w1), .dat d, .dat (.int 2), by simp only [Code.toD], by simp only [Code.ok]; exact ⟨hw w0 m0, o, hw w1 m1⟩, by simp only [Code.size]; omega⟩)
end K16

set_option Elab.async false
set_option linter.all false
set_option maxRecDepth 100000
set_option maxHeartbeats 4000000
namespace K16
open PySem L2 DL
local macro_rules | `(tactic| walk_at "dl") => `(tactic| simp only [seqT, iffT, setT, retT, nextT, retN, blT, DL.binT, nameT, cT, bagT, cutBT, putBT, augBT, consA, nilA, callT, ofF, lstF, lstR, tupT, eqD, neD, inD, notInD, someO, noneO, slT, revF, endD, enterS, ifT, andT, orT, notT, andB, orB, notB, truT, newT, mT, thruT, thruB, frzT, putT, parT, tgtT, methT, onT, isStr, isLst, getT, starA, negT, dropT, breakT, contT, tgD, putA, seqI, rng1I, enumI, zipI, forT, lcF, wipeS,
  addD_ii, addD_ib, addD_ss, addD_ll, addD_tt, subD_ii, mulD_ii, mulD_li, fdivD_ii, modD_ii, cmpI_ii, eqB_ss, eqB_ii, eqB_bb, eqB_tt, eqB_ll, inB_l, inB_t, ixD_l, ixD_t, ixD_s, slD_l, slD_t, truD_b, truD_i, truD_n, truD_s, truD_l, truD_t, intR_i, intR_b, lenR_s, lenR_l, lenR_t, absR_i, minR_ii, maxR_ii, tupR_l, tupR_t, appD_1, insD_1, extD_1, splitM_1, optK_some, atI_0, atI_1, atI_2, atI_3, atI_4, cutL_1, cutL_2, cutL_t1, cutL_t2,
  List.map_cons, List.map_nil, List.replicate_succ, List.replicate_zero, List.cons_append, List.nil_append, List.length_cons, List.length_nil, List.set_cons_zero, List.set_cons_succ, List.getElem?_cons_zero, List.getElem?_cons_succ, List.drop_succ_cons, List.drop_zero, List.take_succ_cons, List.take_zero, true_and, and_true, true_or, or_true, decide_eq_true_eq, reduceCtorEq, if_true, if_false, ite_true, ite_false, D.int.injEq, Nat.reduceAdd, Nat.reduceSub, Int.reduceSub, Int.reduceAdd, Int.reduceNeg, Bool.false_eq_true, Bool.true_eq_false, decide_true, decide_false, Bool.not_true, Bool.not_false, Bool.not_eq_true', decide_eq_false_iff_not])
local macro_rules | `(tactic| walk_at "cd") => `(tactic| simp only [Code.toD, Code.toDs, Code.kids, List.any_cons, List.any_nil, D.py, PyData.eqv, beq_iff_eq, Bool.or_false, Bool.or_eq_true, Bool.or_eq_false_iff, or_false, false_or, q_name_given, q_name_if, q_name_with, q_name_work, q_name_call, q_name_bound, q_given_name, q_given_if, q_given_with, q_given_work, q_given_call, q_given_bound, q_if_name, q_if_given, q_if_with, q_if_work, q_if_call, q_if_bound, q_with_name, q_with_given, q_with_if, q_with_work, q_with_call, q_with_bound, q_work_name, q_work_given, q_work_if, q_work_with, q_work_call, q_work_bound, q_call_name, q_call_given, q_call_if, q_call_with, q_call_work, q_call_bound, q_bound_name, q_bound_given, q_bound_if, q_bound_with, q_bound_work, q_bound_call, in_name, in_given, in_if, in_with, in_work, in_call])
local macro_rules | `(tactic| walk_at "ce") => `(tactic| (walk_at "cd"; walk_at "dl"; (try walk_at "cd"); (try walk_at "dl"); (try walk_at "cd")))
/-! ### addresses, put -/
def valid : List Nat → Code → Prop
  | [], _ => True
  | i :: r, c => ∃ c', c.kids[i]? = some c' ∧ valid r c'
def adr (a : List Nat) : D := .tup (a.map fun (i : Nat) => D.int (i : Int))
theorem valid_len : ∀ {a : List Nat} {c : Code}, valid a c → a.length < c.size
  | [], c, _ => c.size_pos
  | i :: r, c, h => by
    obtain ⟨c', h1, h2⟩ := h
    have := valid_len h2
    have := sizes_mem (List.mem_of_getElem? h1)
    have := kids_sizes c
    rw [List.length_cons]; omega
theorem sizes_take_succ {cs : List Code} {j : Nat} {c : Code} (h : cs[j]? = some c) : Code.sizes (cs.take (j + 1)) = Code.sizes (cs.take j) + c.size := by
  induction cs generalizing j with
  | nil => simp at h
  | cons a cs ih =>
    cases j with
    | zero =>
      obtain rfl : a = c := by simpa using h
      simp [Code.sizes]
    | succ j =>
      have := ih (j := j) (by simpa using h)
      simp only [List.take_succ_cons, Code.sizes, this]; omega
theorem sizes_take_le : ∀ (cs : List Code) (j : Nat), Code.sizes (cs.take j) ≤ Code.sizes cs
  | [], j => by simp
  | c :: cs, 0 => by simp [Code.sizes]
  | c :: cs, j + 1 => by have := sizes_take_le cs j; simp only [List.take_succ_cons, Code.sizes]; omega
def R_adr (n : Nat) : RD := fun ds k => ∃ c : Code, ds = [c.toD] ∧ c.size ≤ n ∧ c.size ≤ 100 ∧ ∀ as : List (List Nat), as ≠ [] → as.length ≤ c.size → (∀ a ∈ as, valid a c) → k (.lst (as.map adr))
theorem p_adr (n : Nat) : ∀ ds κ, R_adr (n + 1) ds κ → t_L_addresses R_in (R_adr n) (endD κ) (enterS 5 ds) := by
  have hs : sizeLine = 16777216 := sizeLine_eq
  rintro ds κ ⟨c, rfl, hn, hz, h⟩
  unfold t_L_addresses
  generalize hB : (setT 1 (DL.binT addD _ _) : TSD) = body
  walk_at "dl"
  refine ⟨by omega, by omega, c, rfl, ?_⟩
  walk_at "dl"
  have ks := kids_sizes c
  have key : ∀ j : Nat, (numb (Code.toDs c.kids)).drop j = [] ∨ ∃ d : Code, c.kids[j]? = some d ∧ (numb (Code.toDs c.kids)).drop j = .tup [.int (j : Int), d.toD] :: (numb (Code.toDs c.kids)).drop (j + 1) := by
    intro j
    cases q : c.kids[j]? with
    | none =>
      left
      have : c.kids.length ≤ j := by simpa using q
      rw [List.drop_eq_nil_iff, numb_len, toDs_len]; exact this
    | some d =>
      right
      have hj : j < (numb (Code.toDs c.kids)).length := by rw [numb_len, toDs_len]; exact (List.getElem?_eq_some_iff.mp q).1
      refine ⟨d, rfl, ?_⟩
      have e : (Code.toDs c.kids)[j]? = some d.toD := by rw [toDs_map, List.getElem?_map, q]; rfl
      have e2 := numb_get e
      rw [List.drop_eq_getElem_cons hj]
      rw [List.getElem?_eq_getElem hj] at e2
      rw [Option.some.inj e2]
  refine loopT_ind (I := fun rest ρ => ∃ (j : Nat) (as : List (List Nat)) (u v w : Sl), rest = (numb (Code.toDs c.kids)).drop j ∧ ρ = [.dat c.toD, .dat (.lst (as.map adr)), u, v, w] ∧ as ≠ [] ∧ as.length ≤ 1 + Code.sizes (c.kids.take j) ∧ ∀ a ∈ as, valid a c) ?_ ?_
    ⟨0, [[]], _, _, _, by rw [List.drop_zero], rfl, by simp, by simp [Code.sizes], fun a ha => by rw [List.mem_singleton.mp ha]; exact True.intro⟩
  · rintro ρ ⟨j, as, u, v, w, -, rfl, hne, hl, hv⟩
    walk_at "dl"
    have := sizes_take_le c.kids j
    exact h as hne (by omega) hv
  · rintro d rest ρ N hN ⟨j, as, u, v, w, e, rfl, hne, hl, hv⟩
    rcases key j with k0 | ⟨x, hx, k1⟩
    · rw [k0] at e; cases e
    · rw [k1] at e
      obtain ⟨rfl, rfl⟩ := List.cons.inj e
      subst hB
      have sx := sizes_mem (List.mem_of_getElem? hx)
      have st := sizes_take_succ hx
      have sl := sizes_take_le c.kids (j + 1)
      walk_at "dl"
      refine ⟨x, rfl, by omega, by omega, fun as' ne' l' v' => ?_⟩
      walk_at "dl"
      refine ⟨by rw [List.length_map]; omega, ?_⟩
      refine compT_ind (R := fun d e => ∃ a ∈ as', d = adr a ∧ e = adr (j :: a)) (fun d hd κ' q => ?_) fun es he => ?_
      · obtain ⟨a, ha, rfl⟩ := List.mem_map.mp hd
        have la := valid_len (v' a ha)
        unfold adr
        walk_at "dl"
        refine ⟨by omega, by rw [List.length_map]; omega, q _ ⟨a, ha, rfl, rfl⟩⟩
      · have out : ∀ {ds es : List D}, All2 (fun d e => ∃ a ∈ as', d = adr a ∧ e = adr (j :: a)) ds es → ∃ bs : List (List Nat), es = bs.map adr ∧ bs.length = ds.length ∧ ∀ b ∈ bs, ∃ a ∈ as', b = j :: a := by
          intro ds es he
          induction he with
          | nil => exact ⟨[], rfl, rfl, fun _ z => nomatch z⟩
          | cons hr _ ih =>
            obtain ⟨a, ha, _, rfl⟩ := hr
            obtain ⟨bs, rfl, hl, hp⟩ := ih
            refine ⟨(j :: a) :: bs, rfl, by simp [hl], fun b hb => ?_⟩
            rcases List.mem_cons.mp hb with rfl | hb
            · exact ⟨a, ha, rfl⟩
            · exact hp b hb
        obtain ⟨bs, rfl, bl, bp⟩ := out he
        rw [List.length_map] at bl
        rw [List.nil_append]
        refine ⟨by rw [List.length_map, List.length_map]; omega, hN _ ⟨j + 1, as ++ bs, _, _, _, rfl, by rw [List.map_append], by simp [hne], by rw [List.length_append]; omega, fun a ha => ?_⟩⟩
        rcases List.mem_append.mp ha with q | q
        · exact hv a q
        · obtain ⟨a', ha', rfl⟩ := bp a q
          exact ⟨x, hx, v' a' ha'⟩

theorem toDs_set : ∀ (cs : List Code) (i : Nat) (c : Code), (Code.toDs cs).set i c.toD = Code.toDs (cs.set i c) := fun cs i c => by rw [toDs_map, toDs_map, List.map_set]
theorem sizes_set : ∀ {cs : List Code} {i : Nat} {c d : Code}, cs[i]? = some d → Code.sizes (cs.set i c) + d.size = Code.sizes cs + c.size
  | [], i, c, d, h => by simp at h
  | a :: cs, 0, c, d, h => by
    obtain rfl : a = d := by simpa using h
    simp only [List.set_cons_zero, Code.sizes]; omega
  | a :: cs, i + 1, c, d, h => by
    have := sizes_set (cs := cs) (i := i) (c := c) (d := d) (by simpa using h)
    simp only [List.set_cons_succ, Code.sizes]; omega
theorem oks_set {cs : List Code} {i : Nat} {c : Code} (h : Code.oks cs) (hc : c.ok) : Code.oks (cs.set i c) := oks_of fun d hd => by
  rcases List.mem_or_eq_of_mem_set hd with q | q
  · exact oks_mem h d q
  · rw [q]; exact hc
theorem lay_adr : ∀ a : List Nat, PyData.canLayAll0 (D.pys (a.map fun (i : Nat) => D.int (i : Int))) = true
  | [] => by simp [D.pys, PyData.canLayAll0]
  | i :: a => by simp [D.pys, D.py, PyData.canLayAll0, PyData.canLay0, lay_adr a]
theorem deep_adr : ∀ a : List Nat, PyData.depthAll (D.pys (a.map fun (i : Nat) => D.int (i : Int))) = 0
  | [] => by simp [D.pys, PyData.depthAll]
  | i :: a => by simp [D.pys, D.py, PyData.depthAll, PyData.depth, deep_adr a]
def R_put (n : Nat) : RD := fun ds k => ∃ (c : Code) (a : List Nat) (p : Code), ds = [c.toD, adr a, p.toD] ∧ valid a c ∧ c.ok ∧ p.ok ∧ c.size ≤ n ∧ c.size ≤ 100 ∧ ∀ c' : Code, c'.ok → c'.size ≤ c.size + p.size → k c'.toD
theorem p_put (n : Nat) : ∀ ds κ, R_put (n + 1) ds κ → t_L_put R_in (R_put n) (endD κ) (enterS 4 ds) := by
  have hs : sizeLine = 16777216 := sizeLine_eq
  rintro ds κ ⟨c, a, p, rfl, hv, ho, hp, hn, hz, h⟩
  unfold t_L_put adr
  have hq : eqOk (.tup (a.map fun (i : Nat) => D.int (i : Int))) (.tup []) := ⟨by simp [D.py, PyData.canLay0, lay_adr], by simp [D.py, D.pys, PyData.canLay0, PyData.canLayAll0], by simp [D.py, D.pys, PyData.depth, PyData.depthAll]⟩
  generalize hB : (frzT 3 _ : TSD) = body
  walk_at "dl"
  refine ⟨by omega, hq, ?_⟩
  cases a with
  | nil =>
    refine ite_t (by simp [D.py, D.pys, PyData.eqv, PyData.eqvAll]) (h p hp (by omega))
  | cons i r =>
    obtain ⟨d, hd, hv⟩ := hv
    have ks := kids_sizes c
    have sd := sizes_mem (List.mem_of_getElem? hd)
    have hi := (List.getElem?_eq_some_iff.mp hd).1
    have kl := sizes_len c.kids
    have okd := oks_mem (kids_ok ho) d (List.mem_of_getElem? hd)
    refine ite_f (by simp [D.py, D.pys, PyData.eqv, PyData.eqvAll]) ?_
    walk_at "dl"
    refine ⟨by omega, c, rfl, ?_⟩
    walk_at "dl"
    have e1 : L2.atI (Code.toDs c.kids) (i : Int) = some d.toD := L2.atI_nat (by rw [toDs_map, List.getElem?_map, hd]; rfl)
    refine optK_of e1 ⟨d, r, p, rfl, hv, okd, hp, by omega, by omega, fun d' o' s' => ⟨d'.flat, ?_⟩⟩
    have e2 : ixN (Code.toDs c.kids).length (i : Int) = some i := by
      unfold ixN
      rw [if_pos (by omega), if_pos (by rw [toDs_len]; omega), Int.toNat_natCast]
    refine ⟨i, e2, ?_⟩
    show body _ [_, _, _, .ml ((Code.toDs c.kids).set i d'.toD)]
    rw [toDs_set]
    have ss := sizes_set (c := d') hd
    have so := oks_set (i := i) (kids_ok ho) o'
    have sl : (c.kids.set i d').length = c.kids.length := List.length_set
    subst hB
    generalize c.kids.set i d' = cs at ss so sl
    cases c with
    | nm x => simp [Code.kids] at hi
    | gv x => simp [Code.kids] at hi
    | wth x a b =>
      simp only [Code.kids, Code.sizes] at ss sl
      simp only [Code.ok] at ho
      refine two (k := fun cs => _) sl fun a' b' e => ?_
      subst e
      simp only [Code.oks, and_true] at so
      simp only [Code.sizes] at ss
      simp only [Code.size] at h
      walk_at "ce"
      exact ⟨by omega, by omega, h (.wth x a' b') (by simp only [Code.ok]; exact ⟨ho.1, so⟩) (by simp only [Code.size]; omega)⟩
    | ite a b c e =>
      simp only [Code.kids, Code.sizes] at ss sl
      refine four (k := fun cs => _) sl fun a' b' c' e' e => ?_
      subst e
      simp only [Code.oks, and_true] at so
      simp only [Code.sizes] at ss
      simp only [Code.size] at h
      walk_at "ce"
      exact ⟨by omega, by omega, h (.ite a' b' c' e') (by simp only [Code.ok]; exact so) (by simp only [Code.size]; omega)⟩
    | app w f ks =>
      simp only [Code.kids] at ss sl
      simp only [Code.ok] at ho
      simp only [Code.size] at h
      cases w
      · walk_at "ce"
        exact ⟨by omega, by omega, h (.app false f cs) (by simp only [Code.ok]; exact ⟨ho.1, so⟩) (by simp only [Code.size]; omega)⟩
      · walk_at "ce"
        exact ⟨by omega, by omega, h (.app true f cs) (by simp only [Code.ok]; exact ⟨ho.1, so⟩) (by simp only [Code.size]; omega)⟩
end K16

set_option Elab.async false
set_option linter.all false
set_option maxRecDepth 100000
set_option maxHeartbeats 4000000
namespace K16
open PySem L2 DL
local macro_rules | `(tactic| walk_at "dl") => `(tactic| simp only [seqT, iffT, setT, retT, nextT, retN, blT, DL.binT, nameT, cT, bagT, cutBT, putBT, augBT, consA, nilA, callT, ofF, lstF, lstR, tupT, eqD, neD, inD, notInD, someO, noneO, slT, revF, endD, enterS, ifT, andT, orT, notT, andB, orB, notB, truT, newT, mT, thruT, thruB, frzT, putT, parT, tgtT, methT, onT, isStr, isLst, getT, starA, negT, dropT, breakT, contT, tgD, putA, seqI, rng1I, enumI, zipI, forT, lcF, wipeS,
  addD_ii, addD_ib, addD_ss, addD_ll, addD_tt, subD_ii, mulD_ii, mulD_li, fdivD_ii, modD_ii, cmpI_ii, eqB_ss, eqB_ii, eqB_bb, eqB_tt, eqB_ll, inB_l, inB_t, ixD_l, ixD_t, ixD_s, slD_l, slD_t, truD_b, truD_i, truD_n, truD_s, truD_l, truD_t, intR_i, intR_b, lenR_s, lenR_l, lenR_t, absR_i, minR_ii, maxR_ii, tupR_l, tupR_t, appD_1, insD_1, extD_1, splitM_1, optK_some, atI_0, atI_1, atI_2, atI_3, atI_4, cutL_1, cutL_2, cutL_t1, cutL_t2,
  List.map_cons, List.map_nil, List.replicate_succ, List.replicate_zero, List.cons_append, List.nil_append, List.length_cons, List.length_nil, List.set_cons_zero, List.set_cons_succ, List.getElem?_cons_zero, List.getElem?_cons_succ, List.drop_succ_cons, List.drop_zero, List.take_succ_cons, List.take_zero, true_and, and_true, true_or, or_true, decide_eq_true_eq, reduceCtorEq, if_true, if_false, ite_true, ite_false, D.int.injEq, Nat.reduceAdd, Nat.reduceSub, Int.reduceSub, Int.reduceAdd, Int.reduceNeg, Bool.false_eq_true, Bool.true_eq_false, decide_true, decide_false, Bool.not_true, Bool.not_false, Bool.not_eq_true', decide_eq_false_iff_not])
local macro_rules | `(tactic| walk_at "cd") => `(tactic| simp only [Code.toD, Code.toDs, Code.kids, List.any_cons, List.any_nil, D.py, PyData.eqv, beq_iff_eq, Bool.or_false, Bool.or_eq_true, Bool.or_eq_false_iff, or_false, false_or, q_name_given, q_name_if, q_name_with, q_name_work, q_name_call, q_name_bound, q_given_name, q_given_if, q_given_with, q_given_work, q_given_call, q_given_bound, q_if_name, q_if_given, q_if_with, q_if_work, q_if_call, q_if_bound, q_with_name, q_with_given, q_with_if, q_with_work, q_with_call, q_with_bound, q_work_name, q_work_given, q_work_if, q_work_with, q_work_call, q_work_bound, q_call_name, q_call_given, q_call_if, q_call_with, q_call_work, q_call_bound, q_bound_name, q_bound_given, q_bound_if, q_bound_with, q_bound_work, q_bound_call, in_name, in_given, in_if, in_with, in_work, in_call])
local macro_rules | `(tactic| walk_at "ce") => `(tactic| (walk_at "cd"; walk_at "dl"; (try walk_at "cd"); (try walk_at "dl"); (try walk_at "cd")))
/-! ### alike is even-handed -/
theorem look_comm : ∀ (rs : List (Str × Str)) (x y : Str), look rs x y = look (rs.map Prod.swap) y x
  | [], x, y => by simp only [look, List.map_nil]; exact decide_eq_decide.mpr ⟨Eq.symm, Eq.symm⟩
  | (m, i) :: r, x, y => by
    simp only [look, List.map_cons, Prod.swap]
    rw [look_comm r x y]
    by_cases e1 : m = x <;> by_cases e2 : i = y <;> simp [e1, e2]
theorem alikes_comm {qs qs' : List (Str × Str)} : ∀ {as bs : List Code}, (∀ a ∈ as, ∀ b, alike a b qs = alike b a qs') → alikes as bs qs = alikes bs as qs'
  | [], [], _ => by simp only [alikes]
  | [], _ :: _, _ => by simp only [alikes]
  | _ :: _, [], _ => by simp only [alikes]
  | a :: as, b :: bs, h => by
    simp only [alikes]
    rw [h a List.mem_cons_self b, alikes_comm fun c hc => h c (List.mem_cons_of_mem _ hc)]
theorem alike_comm : ∀ (n : Nat) (a b : Code) (bs : List (Str × Str)), a.size ≤ n → alike a b bs = alike b a (bs.map Prod.swap)
  | 0, a, b, bs, h => absurd a.size_pos (by omega)
  | n + 1, a, b, bs, hn => by
    cases a with
    | nm x =>
      cases b with
      | nm y =>
        simp only [alike]
        rw [look_comm, List.map_reverse]
      | _ => simp only [alike]
    | gv i =>
      cases b with
      | gv j => simp only [alike]; exact decide_eq_decide.mpr ⟨Eq.symm, Eq.symm⟩
      | _ => simp only [alike]
    | ite a1 a2 a3 a4 =>
      simp only [Code.size] at hn
      cases b with
      | ite b1 b2 b3 b4 =>
        simp only [alike]
        rw [alike_comm n a1 b1 bs (by omega), alike_comm n a2 b2 bs (by omega), alike_comm n a3 b3 bs (by omega), alike_comm n a4 b4 bs (by omega)]
      | _ => simp only [alike]
    | wth x a1 a2 =>
      simp only [Code.size] at hn
      cases b with
      | wth y b1 b2 =>
        simp only [alike]
        rw [alike_comm n a1 b1 bs (by omega), alike_comm n a2 b2 (bs ++ [(x, y)]) (by omega), List.map_append]
        rfl
      | _ => simp only [alike]
    | app w f cs =>
      simp only [Code.size] at hn
      cases b with
      | app w' f' cs' =>
        simp only [alike]
        rw [alikes_comm (qs' := bs.map Prod.swap) fun a ha b => alike_comm n a b bs (by have := sizes_mem ha; omega)]
        have e1 : decide (w = w') = decide (w' = w) := decide_eq_decide.mpr ⟨Eq.symm, Eq.symm⟩
        have e2 : decide (f = f') = decide (f' = f) := decide_eq_decide.mpr ⟨Eq.symm, Eq.symm⟩
        rw [e1, e2]
      | _ => simp only [alike]
theorem look_refl : ∀ (rs : List (Str × Str)) (x : Str), (∀ q ∈ rs, q.1 = q.2) → look rs x x = true
  | [], x, _ => by simp [look]
  | (m, i) :: r, x, h => by
    have e : m = i := h (m, i) List.mem_cons_self
    subst e
    simp only [look, or_self]
    split
    · rename_i e; simp [e]
    · exact look_refl r x fun q hq => h q (List.mem_cons_of_mem _ hq)
theorem alikes_refl {qs : List (Str × Str)} : ∀ {as : List Code}, (∀ a ∈ as, alike a a qs = true) → alikes as as qs = true
  | [], _ => by simp only [alikes]
  | a :: as, h => by
    simp only [alikes]
    rw [h a List.mem_cons_self, alikes_refl fun c hc => h c (List.mem_cons_of_mem _ hc)]; rfl
theorem alike_refl : ∀ (n : Nat) (a : Code) (bs : List (Str × Str)), a.size ≤ n → (∀ q ∈ bs, q.1 = q.2) → alike a a bs = true
  | 0, a, bs, h, _ => absurd a.size_pos (by omega)
  | n + 1, a, bs, hn, hb => by
    cases a with
    | nm x => simp only [alike]; exact look_refl _ _ fun q hq => hb q (List.mem_reverse.mp hq)
    | gv i => simp [alike]
    | ite a1 a2 a3 a4 =>
      simp only [Code.size] at hn
      simp only [alike]
      rw [alike_refl n a1 bs (by omega) hb, alike_refl n a2 bs (by omega) hb, alike_refl n a3 bs (by omega) hb, alike_refl n a4 bs (by omega) hb]; rfl
    | wth x a1 a2 =>
      simp only [Code.size] at hn
      simp only [alike]
      rw [alike_refl n a1 bs (by omega) hb, alike_refl n a2 (bs ++ [(x, x)]) (by omega) fun q hq => ?_]
      · rfl
      · rcases List.mem_append.mp hq with z | z
        · exact hb q z
        · rw [List.mem_singleton.mp z]
    | app w f cs =>
      simp only [Code.size] at hn
      simp only [alike]
      rw [alikes_refl fun a ha => alike_refl n a bs (by have := sizes_mem ha; omega) hb]; simp
/-! ### the law -/
def R_same : RD := fun ds k => ∃ a b : Code, ds = [a.toD, b.toD] ∧ a.size ≤ 100 ∧ b.size ≤ 100 ∧ k (.bl (alike a b []))
theorem p_same : ∀ ds κ, R_same ds κ → t_same_but_bound (R_al 101) (endD κ) (enterS 2 ds) := by
  rintro ds κ ⟨a, b, rfl, ha, hb, h⟩
  unfold t_same_but_bound
  walk_at "dl"
  exact ⟨Nat.zero_le _, a, b, [], rfl, by omega, hb, by simp; omega, h⟩
def R_like : RD := fun ds k => ∃ b : Bool, ds = [.lst [.bl b, .bl b, .bl true], .lst [.bl b, .bl b, .bl true]] ∧ k (.bl true)
theorem p_like : ∀ ds κ, R_like ds κ → t_L_alike (endD κ) (enterS 2 ds) := by
  rintro ds κ ⟨b, rfl, h⟩
  unfold t_L_alike
  have e : ∀ b : Bool, eqOk (.lst [.bl b, .bl b, .bl true]) (.lst [.bl b, .bl b, .bl true]) := fun b => ⟨by simp [D.py, D.pys, PyData.canLay0, PyData.canLayAll0], by simp [D.py, D.pys, PyData.canLay0, PyData.canLayAll0], by simp [D.py, D.pys, PyData.depth, PyData.depthAll]⟩
  have s : ∀ b : Bool, (D.lst [.bl b, .bl b, .bl true]).py.shown.length ≤ sizeLine := by
    intro b
    cases b <;> decide +kernel
  have r : ∀ b : Bool, ((D.lst [.bl b, .bl b, .bl true]).py.canLay0 = true ∧ (D.lst [.bl b, .bl b, .bl true]).py.showable = true ∧ (D.lst [.bl b, .bl b, .bl true]).py.depth ≤ 140 ∧ (D.lst [.bl b, .bl b, .bl true]).py.shown.length ≤ sizeLine) := fun b =>
    ⟨by simp [D.py, D.pys, PyData.canLay0, PyData.canLayAll0], by simp [D.py, D.pys, PyData.showable, PyData.showableAll], by simp [D.py, D.pys, PyData.depth, PyData.depthAll], s b⟩
  walk_at "dl"
  refine ⟨e b, ?_⟩
  refine ite_t (by simp [D.py, D.pys, PyData.eqv, PyData.eqvAll]) ⟨r b, r b, ?_⟩
  show κ (.bl (decide (_ = _)))
  rw [decide_eq_true rfl]
  exact h
theorem p_law : t_law R_take R_words (R_any 61) R_deep (R_exch 101) (R_adr 101) R_some (R_put 101) (R_num 101) R_same R_like endLaw (.un :: .dat .bag :: List.replicate 7 .un) := by
  have hs : sizeLine = 16777216 := sizeLine_eq
  unfold t_law endLaw
  generalize hB : (seqT (setT 3 _) _ : TSD) = body
  walk_at "dl"
  refine ⟨by omega, ?_⟩
  refine loopT_ind (I := fun rest ρ => ∃ a b c d e f g : Sl, ρ = [.un, .dat .bag, a, b, c, d, e, f, g]) ?_ ?_ ⟨_, _, _, _, _, _, _, rfl⟩
  · rintro ρ ⟨a, b, c, d, e, f, g, rfl⟩
    walk_at "dl"
  · rintro dd rest ρ N hN ⟨a, b, c, d, e, f, g, rfl⟩
    subst hB
    generalize hI : (forT (.nm 7) _ _ : TSD) = inner
    generalize hP : (iffT _ (setT 5 (callT (R_put 101) _)) nextT : TSD) = sput
    generalize hE : (iffT _ (setT 5 (callT (R_exch 101) _)) nextT : TSD) = sexc
    generalize hM : (seqT (setT 6 _) inner : TSD) = sdue
    let E : DE := { nx := N, rt := fun d => d = D.bl true, bk := endLaw.bk, ct := N }
    -- the codes compared
    have last : ∀ (k : DE) (c1 c2 : Code) (s2 s3 s6 s7 s8 : Sl), k.nx = N → k.rt = (fun d => d = D.bl true) → c1.ok → c2.ok → c1.size ≤ 70 → c2.size ≤ 70 → sdue k [.un, .dat .bag, s2, s3, .dat c1.toD, .dat c2.toD, s6, s7, s8] := by
      intro k c1 c2 s2 s3 s6 s7 s8 hkn hkr o1 o2 z1 z2
      subst hM hI
      walk_at "dl"
      refine ⟨by omega, c1, [], rfl, o1, (fun _ z => nomatch z), by omega, by simp; omega, by omega, c2, [], rfl, o2, (fun _ z => nomatch z), by omega, by simp; omega, ?_⟩
      have key : PyData.eqv (num c1 []).py (num c2 []).py = alike c1 c2 [] := eqv_num c1.size c1 c2 [] (Nat.le_refl _)
      have eb : ∀ kb : Bool → Prop, kb (alike c1 c2 []) → eqB (num c1 []) (num c2 []) kb := fun kb hk => by
        have l1 := num_lay c1 [] o1
        have l2 := num_lay c2 [] o2
        have d1 := num_deep c1 []
        obtain ⟨xs, e1⟩ := num_tup c1 []
        obtain ⟨ys, e2⟩ := num_tup c2 []
        rw [← key] at hk
        rw [e1] at hk l1 d1 ⊢
        rw [e2] at hk l2 ⊢
        exact ⟨⟨l1, l2, by omega⟩, hk⟩
      refine eb _ ?_
      refine ⟨by omega, ?_⟩
      refine loopT_ind (I := fun rest ρ => ∃ u v : Sl, ρ = [.un, .dat .bag, s2, s3, .dat c1.toD, .dat c2.toD, .dat (.bl (alike c1 c2 [])), u, v]) ?_ ?_ ⟨_, _, rfl⟩
      · rintro ρ ⟨u, v, rfl⟩
        rw [hkn]
        exact hN _ ⟨_, _, _, _, _, _, _, rfl⟩
      · rintro d2 rest2 ρ N2 hN2 ⟨u, v, rfl⟩
        walk_at "dl"
        refine ⟨c1, c2, rfl, by omega, by omega, c2, c1, rfl, by omega, by omega, by omega, c1, c1, rfl, by omega, by omega, by omega, by omega, by omega, ?_⟩
        have e1 : alike c2 c1 [] = alike c1 c2 [] := alike_comm c2.size c2 c1 [] (Nat.le_refl _)
        have e2 : alike c1 c1 [] = true := alike_refl c1.size c1 [] (Nat.le_refl _) fun _ z => nomatch z
        rw [e1, e2]
        refine ⟨alike c1 c2 [], rfl, ?_⟩
        walk_at "dl"
        exact hN2 _ ⟨_, _, rfl⟩
    have exch : ∀ (k : DE) (c1 c2 : Code) (s2 s6 s7 s8 : Sl) (ws : List Str), Good ws → ws.length ≤ 3 → (∀ (c2 : Code), c2.ok → c2.size ≤ 70 → k.nx [.un, .dat .bag, s2, .dat (.lst (ws.map .str)), .dat c1.toD, .dat c2.toD, s6, s7, s8]) → c2.ok → c2.size ≤ 70 →
        sexc k [.un, .dat .bag, s2, .dat (.lst (ws.map .str)), .dat c1.toD, .dat c2.toD, s6, s7, s8] := by
      intro k c1 c2 s2 s6 s7 s8 ws gw lw hk o2 z2
      subst hE
      walk_at "dl"
      refine ⟨_, rfl, by omega, by omega, fun i i0 i1 => ?_⟩
      walk_at "dl"
      split
      · exact ⟨c2, ws, rfl, o2, gw, by omega, by omega, by omega, fun c' o' z' => hk c' o' (by omega)⟩
      · exact hk c2 o2 z2
    have put : ∀ (k : DE) (c1 c2 : Code) (s2 s6 s7 s8 : Sl) (ws : List Str), Good ws → ws ≠ [] → ws.length ≤ 3 → (∀ (c2 : Code), c2.ok → c2.size ≤ 70 → k.nx [.un, .dat .bag, s2, .dat (.lst (ws.map .str)), .dat c1.toD, .dat c2.toD, s6, s7, s8]) → c2.ok → c2.size ≤ 60 →
        sput k [.un, .dat .bag, s2, .dat (.lst (ws.map .str)), .dat c1.toD, .dat c2.toD, s6, s7, s8] := by
      intro k c1 c2 s2 s6 s7 s8 ws gw nw lw hk o2 z2
      subst hP
      walk_at "dl"
      refine ⟨_, rfl, by omega, by omega, fun i i0 i1 => ?_⟩
      walk_at "dl"
      split
      · refine ⟨c2, rfl, by omega, by omega, fun as na la va => .inl ⟨_, rfl, by simpa using na, by rw [List.length_map]; omega, fun d hd => ?_⟩⟩
        obtain ⟨a, ha, rfl⟩ := List.mem_map.mp hd
        exact ⟨ws, 3, rfl, gw, nw, by omega, by omega, by omega, by omega, fun p op zp => ⟨c2, a, p, rfl, va a ha, o2, op, by omega, by omega, fun c' o' z' => hk c' o' (by omega)⟩⟩
      · exact hk c2 o2 (by omega)
    walk_at "dl"
    refine ⟨_, rfl, by omega, by omega, fun i i0 i1 => ⟨_, rfl, by omega, by omega, fun ws gw nw lw => ⟨_, rfl, by omega, by omega, fun r r0 r1 => ?_⟩⟩⟩
    walk_at "dl"
    refine ⟨ws, _, rfl, gw, nw, by omega, by omega, by omega, by omega, fun c oc zc => ⟨ws, c, rfl, gw, nw, oc, by omega, fun c1 o1 z1 => ⟨c1, ws, rfl, o1, gw, by omega, by omega, by omega, fun c2 o2 z2 => ?_⟩⟩⟩
    refine put _ c1 c2 _ _ _ _ ws gw nw lw (fun c3 o3 z3 => ?_) o2 (by omega)
    refine exch _ c1 c3 _ _ _ _ ws gw lw (fun c4 o4 z4 => ?_) o3 z3
    exact last _ c1 c4 _ _ _ _ _ rfl rfl o1 o4 (by omega) z4
end K16

set_option Elab.async false
set_option linter.all false
set_option maxRecDepth 100000
set_option maxHeartbeats 4000000
namespace K16
open PySem L2 DL
theorem all_mk {l : PySem.W.OpenLaw} {w : World} {K : PySem.W.Frag} {h : Heap} {mg : Str → Option Value} {fa f1 f2 f3 f4 f5 f6 f7 f8 f9 f10 f11 f12 f13 f14 f15 f16 f17 f18 f19 : Addr} (X : K.In h) (G : h.Ns mainGlobals mg) (hfa : mg "law" = some (.ref fa))
    {od1 an1 od2 an2 od3 an3 od4 an4 od5 an5 od6 an6 od7 an7 od8 an8 od9 an9 od10 an10 od11 an11 od12 an12 od13 an13 od14 an14 od15 an15 od16 an16 od17 an17 od18 an18 od19 an19 : Option Addr} {sl1 sl2 sl3 sl4 sl5 sl6 sl7 sl8 sl9 sl10 sl11 sl12 sl13 sl14 sl15 sl16 sl17 sl18 sl19 : Array (Option Value)} {oc1 kV1 dc1 pm1 cd1 ct1 oc2 kV2 dc2 pm2 cd2 ct2 oc3 kV3 dc3 pm3 cd3 ct3 oc4 kV4 dc4 pm4 cd4 ct4 oc5 kV5 dc5 pm5 cd5 ct5 oc6 kV6 dc6 pm6 cd6 ct6 oc7 kV7 dc7 pm7 cd7 ct7 oc8 kV8 dc8 pm8 cd8 ct8 oc9 kV9 dc9 pm9 cd9 ct9 oc10 kV10 dc10 pm10 cd10 ct10 oc11 kV11 dc11 pm11 cd11 ct11 oc12 kV12 dc12 pm12 cd12 ct12 oc13 kV13 dc13 pm13 cd13 ct13 oc14 kV14 dc14 pm14 cd14 ct14 oc15 kV15 dc15 pm15 cd15 ct15 oc16 kV16 dc16 pm16 cd16 ct16 oc17 kV17 dc17 pm17 cd17 ct17 oc18 kV18 dc18 pm18 cd18 ct18 oc19 kV19 dc19 pm19 cd19 ct19 : Value}
    (a1 : PySem.W.nsIn K mainGlobals "codes_within" = some (some (.ref f1))) (l1 : K.lookup f1 = some ⟨oc1, od1, .func (PySem.W.fnOf "codes_within" "codes_within" (defArgs s_codes_within) (defBody s_codes_within) (defScope s_codes_within) .none kV1 dc1 pm1 an1 cd1 ct1), sl1⟩) (c1 : PySem.W.codeIn K cd1 "codes_within" = true) (k1 : PySem.W.keepIn K (.ref f1) = true)
    (a2 : PySem.W.nsIn K mainGlobals "are_like" = some (some (.ref f2))) (l2 : K.lookup f2 = some ⟨oc2, od2, .func (PySem.W.fnOf "are_like" "are_like" (defArgs s_are_like) (defBody s_are_like) (defScope s_are_like) .none kV2 dc2 pm2 an2 cd2 ct2), sl2⟩) (c2 : PySem.W.codeIn K cd2 "are_like" = true) (k2 : PySem.W.keepIn K (.ref f2) = true)
    (a3 : PySem.W.nsIn K mainGlobals "same_but_bound" = some (some (.ref f3))) (l3 : K.lookup f3 = some ⟨oc3, od3, .func (PySem.W.fnOf "same_but_bound" "same_but_bound" (defArgs s_same_but_bound) (defBody s_same_but_bound) (defScope s_same_but_bound) .none kV3 dc3 pm3 an3 cd3 ct3), sl3⟩) (c3 : PySem.W.codeIn K cd3 "same_but_bound" = true) (k3 : PySem.W.keepIn K (.ref f3) = true)
    (a4 : PySem.W.nsIn K mainGlobals "_law_bag" = some (some (.ref f4))) (l4 : K.lookup f4 = some ⟨oc4, od4, .func (PySem.W.fnOf "_law_bag" "_law_bag" (defArgs s_L_bag) (defBody s_L_bag) (defScope s_L_bag) .none kV4 dc4 pm4 an4 cd4 ct4), sl4⟩) (c4 : PySem.W.codeIn K cd4 "_law_bag" = true) (k4 : PySem.W.keepIn K (.ref f4) = true)
    (a5 : PySem.W.nsIn K mainGlobals "_law_take" = some (some (.ref f5))) (l5 : K.lookup f5 = some ⟨oc5, od5, .func (PySem.W.fnOf "_law_take" "_law_take" (defArgs s_L_take) (defBody s_L_take) (defScope s_L_take) .none kV5 dc5 pm5 an5 cd5 ct5), sl5⟩) (c5 : PySem.W.codeIn K cd5 "_law_take" = true) (k5 : PySem.W.keepIn K (.ref f5) = true)
    (a6 : PySem.W.nsIn K mainGlobals "_law_alike" = some (some (.ref f6))) (l6 : K.lookup f6 = some ⟨oc6, od6, .func (PySem.W.fnOf "_law_alike" "_law_alike" (defArgs s_L_alike) (defBody s_L_alike) (defScope s_L_alike) .none kV6 dc6 pm6 an6 cd6 ct6), sl6⟩) (c6 : PySem.W.codeIn K cd6 "_law_alike" = true) (k6 : PySem.W.keepIn K (.ref f6) = true)
    (a7 : PySem.W.nsIn K mainGlobals "_law_some" = some (some (.ref f7))) (l7 : K.lookup f7 = some ⟨oc7, od7, .func (PySem.W.fnOf "_law_some" "_law_some" (defArgs s_L_some) (defBody s_L_some) (defScope s_L_some) .none kV7 dc7 pm7 an7 cd7 ct7), sl7⟩) (c7 : PySem.W.codeIn K cd7 "_law_some" = true) (k7 : PySem.W.keepIn K (.ref f7) = true)
    (a8 : PySem.W.nsIn K mainGlobals "_law_mixed" = some (some (.ref f8))) (l8 : K.lookup f8 = some ⟨oc8, od8, .func (PySem.W.fnOf "_law_mixed" "_law_mixed" (defArgs s_L_mixed) (defBody s_L_mixed) (defScope s_L_mixed) .none kV8 dc8 pm8 an8 cd8 ct8), sl8⟩) (c8 : PySem.W.codeIn K cd8 "_law_mixed" = true) (k8 : PySem.W.keepIn K (.ref f8) = true)
    (a9 : PySem.W.nsIn K mainGlobals "_law_words" = some (some (.ref f9))) (l9 : K.lookup f9 = some ⟨oc9, od9, .func (PySem.W.fnOf "_law_words" "_law_words" (defArgs s_L_words) (defBody s_L_words) (defScope s_L_words) .none kV9 dc9 pm9 an9 cd9 ct9), sl9⟩) (c9 : PySem.W.codeIn K cd9 "_law_words" = true) (k9 : PySem.W.keepIn K (.ref f9) = true)
    (a10 : PySem.W.nsIn K mainGlobals "_law_inner" = some (some (.ref f10))) (l10 : K.lookup f10 = some ⟨oc10, od10, .func (PySem.W.fnOf "_law_inner" "_law_inner" (defArgs s_L_inner) (defBody s_L_inner) (defScope s_L_inner) .none kV10 dc10 pm10 an10 cd10 ct10), sl10⟩) (c10 : PySem.W.codeIn K cd10 "_law_inner" = true) (k10 : PySem.W.keepIn K (.ref f10) = true)
    (a11 : PySem.W.nsIn K mainGlobals "_law_any" = some (some (.ref f11))) (l11 : K.lookup f11 = some ⟨oc11, od11, .func (PySem.W.fnOf "_law_any" "_law_any" (defArgs s_L_any) (defBody s_L_any) (defScope s_L_any) .none kV11 dc11 pm11 an11 cd11 ct11), sl11⟩) (c11 : PySem.W.codeIn K cd11 "_law_any" = true) (k11 : PySem.W.keepIn K (.ref f11) = true)
    (a12 : PySem.W.nsIn K mainGlobals "_law_addresses" = some (some (.ref f12))) (l12 : K.lookup f12 = some ⟨oc12, od12, .func (PySem.W.fnOf "_law_addresses" "_law_addresses" (defArgs s_L_addresses) (defBody s_L_addresses) (defScope s_L_addresses) .none kV12 dc12 pm12 an12 cd12 ct12), sl12⟩) (c12 : PySem.W.codeIn K cd12 "_law_addresses" = true) (k12 : PySem.W.keepIn K (.ref f12) = true)
    (a13 : PySem.W.nsIn K mainGlobals "_law_put" = some (some (.ref f13))) (l13 : K.lookup f13 = some ⟨oc13, od13, .func (PySem.W.fnOf "_law_put" "_law_put" (defArgs s_L_put) (defBody s_L_put) (defScope s_L_put) .none kV13 dc13 pm13 an13 cd13 ct13), sl13⟩) (c13 : PySem.W.codeIn K cd13 "_law_put" = true) (k13 : PySem.W.keepIn K (.ref f13) = true)
    (a14 : PySem.W.nsIn K mainGlobals "_law_names_of" = some (some (.ref f14))) (l14 : K.lookup f14 = some ⟨oc14, od14, .func (PySem.W.fnOf "_law_names_of" "_law_names_of" (defArgs s_L_names_of) (defBody s_L_names_of) (defScope s_L_names_of) .none kV14 dc14 pm14 an14 cd14 ct14), sl14⟩) (c14 : PySem.W.codeIn K cd14 "_law_names_of" = true) (k14 : PySem.W.keepIn K (.ref f14) = true)
    (a15 : PySem.W.nsIn K mainGlobals "_law_numbered" = some (some (.ref f15))) (l15 : K.lookup f15 = some ⟨oc15, od15, .func (PySem.W.fnOf "_law_numbered" "_law_numbered" (defArgs s_L_numbered) (defBody s_L_numbered) (defScope s_L_numbered) .none kV15 dc15 pm15 an15 cd15 ct15), sl15⟩) (c15 : PySem.W.codeIn K cd15 "_law_numbered" = true) (k15 : PySem.W.keepIn K (.ref f15) = true)
    (a16 : PySem.W.nsIn K mainGlobals "_law_deepened" = some (some (.ref f16))) (l16 : K.lookup f16 = some ⟨oc16, od16, .func (PySem.W.fnOf "_law_deepened" "_law_deepened" (defArgs s_L_deepened) (defBody s_L_deepened) (defScope s_L_deepened) .none kV16 dc16 pm16 an16 cd16 ct16), sl16⟩) (c16 : PySem.W.codeIn K cd16 "_law_deepened" = true) (k16 : PySem.W.keepIn K (.ref f16) = true)
    (a17 : PySem.W.nsIn K mainGlobals "_law_exchanged" = some (some (.ref f17))) (l17 : K.lookup f17 = some ⟨oc17, od17, .func (PySem.W.fnOf "_law_exchanged" "_law_exchanged" (defArgs s_L_exchanged) (defBody s_L_exchanged) (defScope s_L_exchanged) .none kV17 dc17 pm17 an17 cd17 ct17), sl17⟩) (c17 : PySem.W.codeIn K cd17 "_law_exchanged" = true) (k17 : PySem.W.keepIn K (.ref f17) = true)
    (a18 : PySem.W.nsIn K mainGlobals "_law_swapped" = some (some (.ref f18))) (l18 : K.lookup f18 = some ⟨oc18, od18, .func (PySem.W.fnOf "_law_swapped" "_law_swapped" (defArgs s_L_swapped) (defBody s_L_swapped) (defScope s_L_swapped) .none kV18 dc18 pm18 an18 cd18 ct18), sl18⟩) (c18 : PySem.W.codeIn K cd18 "_law_swapped" = true) (k18 : PySem.W.keepIn K (.ref f18) = true)
    (a19 : PySem.W.nsIn K mainGlobals "law" = some (some (.ref f19))) (l19 : K.lookup f19 = some ⟨oc19, od19, .func (PySem.W.fnOf "law" "law" (defArgs s_law) (defBody s_law) (defScope s_law) .none kV19 dc19 pm19 an19 cd19 ct19), sl19⟩) (c19 : PySem.W.codeIn K cd19 "law" = true) (k19 : PySem.W.keepIn K (.ref f19) = true)
    (y_abs : PySem.W.nsIn K mainGlobals "abs" = some none)
    (y_all : PySem.W.nsIn K mainGlobals "all" = some none)
    (y_enumerate : PySem.W.nsIn K mainGlobals "enumerate" = some none)
    (y_int : PySem.W.nsIn K mainGlobals "int" = some none)
    (y_len : PySem.W.nsIn K mainGlobals "len" = some none)
    (y_list : PySem.W.nsIn K mainGlobals "list" = some none)
    (y_min : PySem.W.nsIn K mainGlobals "min" = some none)
    (y_range : PySem.W.nsIn K mainGlobals "range" = some none)
    (y_repr : PySem.W.nsIn K mainGlobals "repr" = some none)
    (y_tuple : PySem.W.nsIn K mainGlobals "tuple" = some none)
    (y_zip : PySem.W.nsIn K mainGlobals "zip" = some none)
    : ∃ fd : FuncData, (∀ (s : Shared) (v : Value), BindsTo s fd ⟨[v], []⟩ [("_law_script", v)]) ∧ ∀ base : Heap, K.In base → base.Ns mainGlobals mg → FnG l.prog w K mg base CX0 204 fa fd ["_law_script"] (spLaw K) := by
  have e := hfa.symm.trans (PySem.W.mg_of X G a19)
  cases e
  have z_abs := PySem.W.mg_none_of X G y_abs
  have z_all := PySem.W.mg_none_of X G y_all
  have z_enumerate := PySem.W.mg_none_of X G y_enumerate
  have z_int := PySem.W.mg_none_of X G y_int
  have z_len := PySem.W.mg_none_of X G y_len
  have z_list := PySem.W.mg_none_of X G y_list
  have z_min := PySem.W.mg_none_of X G y_min
  have z_range := PySem.W.mg_none_of X G y_range
  have z_repr := PySem.W.mg_none_of X G y_repr
  have z_tuple := PySem.W.mg_none_of X G y_tuple
  have z_zip := PySem.W.mg_none_of X G y_zip
  have F_codes_within := fun_mk (st := s_codes_within) l1 c1 k1
  have m_codes_within := PySem.W.mg_of X G a1
  have b_codes_within := F_codes_within.binds (ps := ["code"]) fun _ _ _ _ _ _ us hl => match us, hl with | [_], _ => rfl
  have F_are_like := fun_mk (st := s_are_like) l2 c2 k2
  have m_are_like := PySem.W.mg_of X G a2
  have b_are_like := F_are_like.binds (ps := ["one", "other", "bound"]) fun _ _ _ _ _ _ us hl => match us, hl with | [_, _, _], _ => rfl
  have F_same_but_bound := fun_mk (st := s_same_but_bound) l3 c3 k3
  have m_same_but_bound := PySem.W.mg_of X G a3
  have b_same_but_bound := F_same_but_bound.binds (ps := ["one", "other"]) fun _ _ _ _ _ _ us hl => match us, hl with | [_, _], _ => rfl
  have F_L_bag := fun_mk (st := s_L_bag) l4 c4 k4
  have m_L_bag := PySem.W.mg_of X G a4
  have b_L_bag := F_L_bag.binds (ps := ["_law_script"]) fun _ _ _ _ _ _ us hl => match us, hl with | [_], _ => rfl
  have F_L_take := fun_mk (st := s_L_take) l5 c5 k5
  have m_L_take := PySem.W.mg_of X G a5
  have b_L_take := F_L_take.binds (ps := ["_law_bag_here", "_law_many"]) fun _ _ _ _ _ _ us hl => match us, hl with | [_, _], _ => rfl
  have F_L_alike := fun_mk (st := s_L_alike) l6 c6 k6
  have m_L_alike := PySem.W.mg_of X G a6
  have b_L_alike := F_L_alike.binds (ps := ["_law_found", "_law_due"]) fun _ _ _ _ _ _ us hl => match us, hl with | [_, _], _ => rfl
  have F_L_some := fun_mk (st := s_L_some) l7 c7 k7
  have m_L_some := PySem.W.mg_of X G a7
  have b_L_some := F_L_some.binds (ps := ["_law_bag_here", "_law_things"]) fun _ _ _ _ _ _ us hl => match us, hl with | [_, _], _ => rfl
  have F_L_mixed := fun_mk (st := s_L_mixed) l8 c8 k8
  have m_L_mixed := PySem.W.mg_of X G a8
  have b_L_mixed := F_L_mixed.binds (ps := ["_law_bag_here", "_law_things"]) fun _ _ _ _ _ _ us hl => match us, hl with | [_, _], _ => rfl
  have F_L_words := fun_mk (st := s_L_words) l9 c9 k9
  have m_L_words := PySem.W.mg_of X G a9
  have b_L_words := F_L_words.binds (ps := ["_law_bag_here", "_law_many"]) fun _ _ _ _ _ _ us hl => match us, hl with | [_, _], _ => rfl
  have F_L_inner := fun_mk (st := s_L_inner) l10 c10 k10
  have m_L_inner := PySem.W.mg_of X G a10
  have b_L_inner := F_L_inner.binds (ps := ["_law_code"]) fun _ _ _ _ _ _ us hl => match us, hl with | [_], _ => rfl
  have F_L_any := fun_mk (st := s_L_any) l11 c11 k11
  have m_L_any := PySem.W.mg_of X G a11
  have b_L_any := F_L_any.binds (ps := ["_law_bag_here", "_law_names", "_law_room"]) fun _ _ _ _ _ _ us hl => match us, hl with | [_, _, _], _ => rfl
  have F_L_addresses := fun_mk (st := s_L_addresses) l12 c12 k12
  have m_L_addresses := PySem.W.mg_of X G a12
  have b_L_addresses := F_L_addresses.binds (ps := ["_law_code"]) fun _ _ _ _ _ _ us hl => match us, hl with | [_], _ => rfl
  have F_L_put := fun_mk (st := s_L_put) l13 c13 k13
  have m_L_put := PySem.W.mg_of X G a13
  have b_L_put := F_L_put.binds (ps := ["_law_code", "_law_address", "_law_part"]) fun _ _ _ _ _ _ us hl => match us, hl with | [_, _, _], _ => rfl
  have F_L_names_of := fun_mk (st := s_L_names_of) l14 c14 k14
  have m_L_names_of := PySem.W.mg_of X G a14
  have b_L_names_of := F_L_names_of.binds (ps := ["_law_bag_here", "_law_many"]) fun _ _ _ _ _ _ us hl => match us, hl with | [_, _], _ => rfl
  have F_L_numbered := fun_mk (st := s_L_numbered) l15 c15 k15
  have m_L_numbered := PySem.W.mg_of X G a15
  have b_L_numbered := F_L_numbered.binds (ps := ["_law_code", "_law_bound", "_law_parts"]) fun _ _ _ _ _ _ us hl => match us, hl with | [_, _, _], _ => rfl
  have F_L_deepened := fun_mk (st := s_L_deepened) l16 c16 k16
  have m_L_deepened := PySem.W.mg_of X G a16
  have b_L_deepened := F_L_deepened.binds (ps := ["_law_bag_here", "_law_names", "_law_code"]) fun _ _ _ _ _ _ us hl => match us, hl with | [_, _, _], _ => rfl
  have F_L_exchanged := fun_mk (st := s_L_exchanged) l17 c17 k17
  have m_L_exchanged := PySem.W.mg_of X G a17
  have b_L_exchanged := F_L_exchanged.binds (ps := ["_law_bag_here", "_law_code", "_law_names"]) fun _ _ _ _ _ _ us hl => match us, hl with | [_, _, _], _ => rfl
  have F_L_swapped := fun_mk (st := s_L_swapped) l18 c18 k18
  have m_L_swapped := PySem.W.mg_of X G a18
  have b_L_swapped := F_L_swapped.binds (ps := ["_law_code", "_law_old", "_law_new"]) fun _ _ _ _ _ _ us hl => match us, hl with | [_, _, _], _ => rfl
  have F_law := fun_mk (st := s_law) l19 c19 k19
  have m_law := PySem.W.mg_of X G a19
  refine ⟨PySem.W.fnOf "law" "law" (defArgs s_law) (defBody s_law) (defScope s_law) .none kV19 dc19 pm19 an19 cd19 ct19, fun s v => .of_eq rfl, fun base _ _ => ?_⟩
  -- LEVEL 204
  have c_in : CalP l.prog w K mg base 1 "codes_within" R_in := CalP.of (fn_codes_within F_codes_within (fun _ _ h => by obtain ⟨_, rfl, _⟩ := h; rfl) (p_in _ (.inl rfl))) m_codes_within F_codes_within b_codes_within
  have c_inner : CalP l.prog w K mg base 1 "_law_inner" R_in := CalP.of (fn_L_inner F_L_inner (fun _ _ h => by obtain ⟨_, rfl, _⟩ := h; rfl) (p_in _ (.inr rfl))) m_L_inner F_L_inner b_L_inner
  have c_take : CalP l.prog w K mg base 1 "_law_take" R_take := CalP.of (fn_L_take F_L_take z_int (fun _ _ h => by obtain ⟨_, rfl, _⟩ := h; rfl) p_take) m_L_take F_L_take b_L_take
  have c_like : CalP l.prog w K mg base 1 "_law_alike" R_like := CalP.of (fn_L_alike F_L_alike z_repr (fun _ _ h => by obtain ⟨_, rfl, _⟩ := h; rfl) p_like) m_L_alike F_L_alike b_L_alike
  have c_bag : BagP l.prog w K mg base 1 "_law_bag" := ⟨_, _, _, 1, _, by decide, Nat.le_refl _, fn_L_bag F_L_bag z_abs, m_L_bag, F_L_bag.kp, b_L_bag⟩
  have c_some : CalP l.prog w K mg base 2 "_law_some" R_some := CalP.of (fn_L_some F_L_some z_len c_take (fun _ _ h => by rcases h with ⟨_, rfl, _⟩ | ⟨_, rfl, _⟩ <;> rfl) p_some) m_L_some F_L_some b_L_some
  have c_mixed : CalP l.prog w K mg base 2 "_law_mixed" (R_mixed 5) := CalP.of (fn_L_mixed F_L_mixed z_len c_take (fun _ _ h => by obtain ⟨_, h | h, _⟩ := h <;> (subst h; rfl)) (p_mixed (by decide))) m_L_mixed F_L_mixed b_L_mixed
  have c_words : CalP l.prog w K mg base 3 "_law_words" R_words := CalP.of (fn_L_words F_L_words z_int (c_take.mono (by decide)) c_mixed (fun _ _ h => by obtain ⟨_, rfl, _⟩ := h; rfl) p_words) m_L_words F_L_words b_L_words
  have c_names : CalP l.prog w K mg base 4 "_law_names_of" R_words := CalP.of (fn_L_names_of F_L_names_of z_int z_range (c_take.mono (by decide)) c_words (c_some.mono (by decide)) (fun _ _ h => by obtain ⟨_, rfl, _⟩ := h; rfl) p_names) m_L_names_of F_L_names_of b_L_names_of
  have c_any : ∀ n, CalP l.prog w K mg base (n + 2) "_law_any" (R_any n) := fun n => by
    induction n with
    | zero => exact CalP.of (FnG.never fun _ _ h => by obtain ⟨_, _, _, _, _, _, h0, h1, _⟩ := h; omega) m_L_any F_L_any b_L_any
    | succ n ih => exact CalP.of (fn_L_any F_L_any z_int z_min z_range z_tuple (c_take.mono (by omega)) (c_some.mono (by omega)) ih (fun _ _ h => by obtain ⟨_, _, rfl, _⟩ := h; rfl) (p_any n)) m_L_any F_L_any b_L_any
  have c_deep : CalP l.prog w K mg base 2 "_law_deepened" R_deep := CalP.of (fn_L_deepened F_L_deepened z_int z_range c_take (fun _ _ h => by obtain ⟨_, _, rfl, _⟩ := h; rfl) p_deep) m_L_deepened F_L_deepened b_L_deepened
  have c_swap : ∀ n, CalP l.prog w K mg base (n + 1) "_law_swapped" (R_swap n) := fun n => by
    induction n with
    | zero => exact CalP.of (FnG.never fun _ _ h => by obtain ⟨c, _, _, _, _, _, _, h0, _⟩ := h; exact absurd c.size_pos (by omega)) m_L_swapped F_L_swapped b_L_swapped
    | succ n ih => exact CalP.of (fn_L_swapped F_L_swapped z_tuple ih (c_inner.mono (by omega)) (fun _ _ h => by obtain ⟨_, _, _, rfl, _⟩ := h; rfl) (p_swap n)) m_L_swapped F_L_swapped b_L_swapped
  have c_exch : ∀ n, CalP l.prog w K mg base (n + 101) "_law_exchanged" (R_exch n) := fun n => by
    induction n with
    | zero => exact CalP.of (FnG.never fun _ _ h => by obtain ⟨c, _, _, _, _, _, h0, _⟩ := h; exact absurd c.size_pos (by omega)) m_L_exchanged F_L_exchanged b_L_exchanged
    | succ n ih => exact CalP.of (fn_L_exchanged F_L_exchanged z_tuple (c_inner.mono (by omega)) ih (c_some.mono (by omega)) (c_take.mono (by omega)) ((c_swap 100).mono (by omega)) (fun _ _ h => by obtain ⟨_, _, rfl, _⟩ := h; rfl) (p_exch n)) m_L_exchanged F_L_exchanged b_L_exchanged
  have c_adr : ∀ n, CalP l.prog w K mg base (n + 1) "_law_addresses" (R_adr n) := fun n => by
    induction n with
    | zero => exact CalP.of (FnG.never fun _ _ h => by obtain ⟨c, _, h0, _⟩ := h; exact absurd c.size_pos (by omega)) m_L_addresses F_L_addresses b_L_addresses
    | succ n ih => exact CalP.of (fn_L_addresses F_L_addresses z_enumerate (c_inner.mono (by omega)) ih (fun _ _ h => by obtain ⟨_, rfl, _⟩ := h; rfl) (p_adr n)) m_L_addresses F_L_addresses b_L_addresses
  have c_put : ∀ n, CalP l.prog w K mg base (n + 1) "_law_put" (R_put n) := fun n => by
    induction n with
    | zero => exact CalP.of (FnG.never fun _ _ h => by obtain ⟨c, _, _, _, _, _, _, h0, _⟩ := h; exact absurd c.size_pos (by omega)) m_L_put F_L_put b_L_put
    | succ n ih => exact CalP.of (fn_L_put F_L_put z_list z_tuple (c_inner.mono (by omega)) ih (fun _ _ h => by obtain ⟨_, _, _, rfl, _⟩ := h; rfl) (p_put n)) m_L_put F_L_put b_L_put
  have c_num : ∀ n, CalP l.prog w K mg base (n + 1) "_law_numbered" (R_num n) := fun n => by
    induction n with
    | zero => exact CalP.of (FnG.never fun _ _ h => by obtain ⟨c, _, _, _, _, h0, _⟩ := h; exact absurd c.size_pos (by omega)) m_L_numbered F_L_numbered b_L_numbered
    | succ n ih => exact CalP.of (fn_L_numbered F_L_numbered z_tuple ih (c_inner.mono (by omega)) (fun _ _ h => by obtain ⟨_, _, rfl, _⟩ := h; rfl) (p_num n)) m_L_numbered F_L_numbered b_L_numbered
  have c_al : ∀ n, CalP l.prog w K mg base (n + 1) "are_like" (R_al n) := fun n => by
    induction n with
    | zero => exact CalP.of (FnG.never fun _ _ h => by obtain ⟨c, _, _, _, h0, _⟩ := h; exact absurd c.size_pos (by omega)) m_are_like F_are_like b_are_like
    | succ n ih => exact CalP.of (fn_are_like F_are_like z_all z_len z_zip ih (c_in.mono (by omega)) (fun _ _ h => by obtain ⟨_, _, _, rfl, _⟩ := h; rfl) (p_al n)) m_are_like F_are_like b_are_like
  have c_same : CalP l.prog w K mg base 103 "same_but_bound" R_same := CalP.of (fn_same_but_bound F_same_but_bound (c_al 101) (fun _ _ h => by obtain ⟨_, _, rfl, _⟩ := h; rfl) p_same) m_same_but_bound F_same_but_bound b_same_but_bound
  exact fn_law (n := 203) F_law z_range ⟨let ⟨f, fd, ps, k, c, h0, h1, r⟩ := c_bag.ex; ⟨f, fd, ps, k, c, h0, by omega, r⟩⟩ (c_take.mono (by decide)) (c_names.mono (by decide)) ((c_any 61).mono (by decide)) (c_deep.mono (by decide)) ((c_exch 101).mono (by decide)) ((c_adr 101).mono (by decide)) (c_some.mono (by decide)) ((c_put 101).mono (by decide)) ((c_num 101).mono (by decide)) (c_same.mono (by decide)) (c_like.mono (by decide)) p_law

end K16

open PySem PySem.W PyProof.Rows in
set_option maxRecDepth 100000 in
set_option maxHeartbeats 0 in
theorem PySem.Challenge.cw_farcatch_k16_same_but_for_bound_names_holds : PySem.Challenge.rw_farcatch_k16_same_but_for_bound_names.Holds := by
  w_on; o_law; k_head; (case hw => w_witness2)
  k_fill
  refine DL.walkG (l := PySem.Challenge.rw_farcatch_k16_same_but_for_bound_names) (k := 204) (x := "_law_script") rfl rfl ⟨rfl, by decide, by decide⟩ (fun w h Y => PySem.W.kIn_of Y) ?F
  case F =>
    intro w mg fa h KX G hmg
    refine' K16.all_mk KX G hmg ?a1 ?l1 ?c1 ?k1 ?a2 ?l2 ?c2 ?k2 ?a3 ?l3 ?c3 ?k3 ?a4 ?l4 ?c4 ?k4 ?a5 ?l5 ?c5 ?k5 ?a6 ?l6 ?c6 ?k6 ?a7 ?l7 ?c7 ?k7 ?a8 ?l8 ?c8 ?k8 ?a9 ?l9 ?c9 ?k9 ?a10 ?l10 ?c10 ?k10 ?a11 ?l11 ?c11 ?k11 ?a12 ?l12 ?c12 ?k12 ?a13 ?l13 ?c13 ?k13 ?a14 ?l14 ?c14 ?k14 ?a15 ?l15 ?c15 ?k15 ?a16 ?l16 ?c16 ?k16 ?a17 ?l17 ?c17 ?k17 ?a18 ?l18 ?c18 ?k18 ?a19 ?l19 ?c19 ?k19 ?y_abs ?y_all ?y_enumerate ?y_int ?y_len ?y_list ?y_min ?y_range ?y_repr ?y_tuple ?y_zip
    (case a1 => k_is)
    (case l1 => k_is)
    (case c1 => k_is)
    (case k1 => k_is)
    (case a2 => k_is)
    (case l2 => k_is)
    (case c2 => k_is)
    (case k2 => k_is)
    (case a3 => k_is)
    (case l3 => k_is)
    (case c3 => k_is)
    (case k3 => k_is)
    (case a4 => k_is)
    (case l4 => k_is)
    (case c4 => k_is)
    (case k4 => k_is)
    (case a5 => k_is)
    (case l5 => k_is)
    (case c5 => k_is)
    (case k5 => k_is)
    (case a6 => k_is)
    (case l6 => k_is)
    (case c6 => k_is)
    (case k6 => k_is)
    (case a7 => k_is)
    (case l7 => k_is)
    (case c7 => k_is)
    (case k7 => k_is)
    (case a8 => k_is)
    (case l8 => k_is)
    (case c8 => k_is)
    (case k8 => k_is)
    (case a9 => k_is)
    (case l9 => k_is)
    (case c9 => k_is)
    (case k9 => k_is)
    (case a10 => k_is)
    (case l10 => k_is)
    (case c10 => k_is)
    (case k10 => k_is)
    (case a11 => k_is)
    (case l11 => k_is)
    (case c11 => k_is)
    (case k11 => k_is)
    (case a12 => k_is)
    (case l12 => k_is)
    (case c12 => k_is)
    (case k12 => k_is)
    (case a13 => k_is)
    (case l13 => k_is)
    (case c13 => k_is)
    (case k13 => k_is)
    (case a14 => k_is)
    (case l14 => k_is)
    (case c14 => k_is)
    (case k14 => k_is)
    (case a15 => k_is)
    (case l15 => k_is)
    (case c15 => k_is)
    (case k15 => k_is)
    (case a16 => k_is)
    (case l16 => k_is)
    (case c16 => k_is)
    (case k16 => k_is)
    (case a17 => k_is)
    (case l17 => k_is)
    (case c17 => k_is)
    (case k17 => k_is)
    (case a18 => k_is)
    (case l18 => k_is)
    (case c18 => k_is)
    (case k18 => k_is)
    (case a19 => k_is)
    (case l19 => k_is)
    (case c19 => k_is)
    (case k19 => k_is)
    (case y_abs => k_is)
    (case y_all => k_is)
    (case y_enumerate => k_is)
    (case y_int => k_is)
    (case y_len => k_is)
    (case y_list => k_is)
    (case y_min => k_is)
    (case y_range => k_is)
    (case y_repr => k_is)
    (case y_tuple => k_is)
    (case y_zip => k_is)
