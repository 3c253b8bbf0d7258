import PyProof.Rows.All
import HandS.ForMost
import HandS.ForExc
import HandS.ExcInit
import HandS.IsInst
import HandS.Deep
import HandS.Flow
import HandS.Style
import HandS.Walk
import HandS.Rev
import HandS.RevRange
import HandS.TupLe
import HandS.Text
import HandS.SortInts
import KE.DataEq
import HandS.Conv
import HandS.More
import HandS.SortKw
import PySem.Challenge.RW_daybooktold_k70_judges_of_ranks_and_ring
set_option Elab.async false
set_option linter.all false
set_option maxRecDepth 100000
set_option autoImplicit false
/-! DvA: a layer of values over HandS: data (PyData) stand in a region of the heap that is never written; a slot holds data, a list of its own, or the law's feed. -/
namespace Dv
open PySem PySem.Spec L2
open PyProof.Rows hiding St

abbrev D := PyData

/-! ### data in a region -/
mutual
inductive Dt (B : Hp) : V → D → Prop
  | non : Dt B .non .none
  | bl (b : Bool) : Dt B (.bl b) (.bool b)
  | int (i : Int) : Dt B (.int i) (.int i)
  | str (x : Str) : Dt B (.str x) (.str x)
  | lst {a : Addr} {vs : List V} {ds : List D} : B a = some (.lst vs) → DtA B vs ds → Dt B (.ref a) (.list ds)
  | tup {a : Addr} {vs : List V} {ds : List D} : B a = some (.tup vs) → DtA B vs ds → Dt B (.ref a) (.tuple ds)
inductive DtA (B : Hp) : List V → List D → Prop
  | nil : DtA B [] []
  | cons {v : V} {vs : List V} {d : D} {ds : List D} : Dt B v d → DtA B vs ds → DtA B (v :: vs) (d :: ds)
end

mutual
theorem Dt.mono {B B' : Hp} (e : Same B B') : ∀ {v : V} {d : D}, Dt B v d → Dt B' v d
  | _, _, .non => .non
  | _, _, .bl b => .bl b
  | _, _, .int i => .int i
  | _, _, .str x => .str x
  | _, _, .lst h t => .lst (e _ _ h) (DtA.mono e t)
  | _, _, .tup h t => .tup (e _ _ h) (DtA.mono e t)
theorem DtA.mono {B B' : Hp} (e : Same B B') : ∀ {vs : List V} {ds : List D}, DtA B vs ds → DtA B' vs ds
  | _, _, .nil => .nil
  | _, _, .cons h t => .cons (Dt.mono e h) (DtA.mono e t)
end
mutual
theorem Dt.toDp {B H : Hp} {K : PySem.W.Frag} (e : Same B H) : ∀ {v : V} {d : D}, Dt B v d → Dp K H v d
  | _, _, .non => .non
  | _, _, .bl b => .bl b
  | _, _, .int i => .int i
  | _, _, .str x => .str x
  | _, _, .lst h t => .lst (SqL.of (e _ _ h)) (DtA.toDp e t)
  | _, _, .tup h t => .tup (SqT.of (e _ _ h)) (DtA.toDp e t)
theorem DtA.toDp {B H : Hp} {K : PySem.W.Frag} (e : Same B H) : ∀ {vs : List V} {ds : List D}, DtA B vs ds → DpAll K H vs ds
  | _, _, .nil => .nil
  | _, _, .cons h t => .cons (Dt.toDp e h) (DtA.toDp e t)
end
theorem DtA.length {B : Hp} : ∀ {vs : List V} {ds : List D}, DtA B vs ds → vs.length = ds.length
  | _, _, .nil => rfl
  | _, _, .cons _ t => by simp [DtA.length t]
theorem DtA.get {B : Hp} : ∀ {vs : List V} {ds : List D} {i : Nat} {d : D}, DtA B vs ds → ds[i]? = some d → ∃ v, vs[i]? = some v ∧ Dt B v d
  | _, _, _, _, .nil, e => by simp at e
  | _, _, 0, _, .cons h _, e => by simp at e; subst e; exact ⟨_, rfl, h⟩
  | _, _, i + 1, _, .cons _ t, e => by
    obtain ⟨v, h1, h2⟩ := DtA.get (i := i) t (by simpa using e)
    exact ⟨v, by simpa using h1, h2⟩
theorem DtA.get' {B : Hp} : ∀ {vs : List V} {ds : List D} {i : Nat} {v : V}, DtA B vs ds → vs[i]? = some v → ∃ d, ds[i]? = some d ∧ Dt B v d
  | _, _, _, _, .nil, e => by simp at e
  | _, _, 0, _, .cons h _, e => by simp at e; subst e; exact ⟨_, rfl, h⟩
  | _, _, i + 1, _, .cons _ t, e => by
    obtain ⟨v, h1, h2⟩ := DtA.get' (i := i) t (by simpa using e)
    exact ⟨v, by simpa using h1, h2⟩
theorem DtA.append {B : Hp} : ∀ {vs ws : List V} {ds es : List D}, DtA B vs ds → DtA B ws es → DtA B (vs ++ ws) (ds ++ es)
  | _, _, _, _, .nil, s => s
  | _, _, _, _, .cons h t, s => .cons h (DtA.append t s)
theorem DtA.take {B : Hp} : ∀ {vs : List V} {ds : List D} (n : Nat), DtA B vs ds → DtA B (vs.take n) (ds.take n)
  | _, _, 0, _ => .nil
  | _, _, _ + 1, .nil => .nil
  | _, _, n + 1, .cons h t => .cons h (DtA.take n t)
theorem DtA.drop {B : Hp} : ∀ {vs : List V} {ds : List D} (n : Nat), DtA B vs ds → DtA B (vs.drop n) (ds.drop n)
  | _, _, 0, r => r
  | _, _, _ + 1, .nil => .nil
  | _, _, n + 1, .cons _ t => DtA.drop n t
theorem DtA.set {B : Hp} {v : V} {d : D} (h : Dt B v d) : ∀ {vs : List V} {ds : List D} (i : Nat), DtA B vs ds → DtA B (vs.set i v) (ds.set i d)
  | _, _, _, .nil => .nil
  | _, _, 0, .cons _ t => .cons h t
  | _, _, i + 1, .cons q t => .cons q (DtA.set h i t)
theorem DtA.eraseIdx {B : Hp} : ∀ {vs : List V} {ds : List D} (i : Nat), DtA B vs ds → DtA B (vs.eraseIdx i) (ds.eraseIdx i)
  | _, _, _, .nil => .nil
  | _, _, 0, .cons _ t => t
  | _, _, i + 1, .cons h t => .cons h (DtA.eraseIdx i t)
theorem DtA.dropLast {B : Hp} {vs : List V} {ds : List D} (h : DtA B vs ds) : DtA B vs.dropLast ds.dropLast := by
  rw [List.dropLast_eq_take, List.dropLast_eq_take, h.length]
  exact h.take _
theorem DtA.ints {B : Hp} : ∀ {vs : List V} {ns : List Int}, DtA B vs (ns.map .int) → vs = ns.map V.int
  | _, [], h => by cases h; rfl
  | _, n :: ns, h => by
    cases h with
    | cons h t =>
      cases h
      rw [DtA.ints t]
      rfl
theorem DtA.of_ints {B : Hp} : ∀ (ns : List Int), DtA B (ns.map V.int) (ns.map .int)
  | [] => .nil
  | n :: ns => .cons (.int n) (DtA.of_ints ns)
theorem DtA.bls {B : Hp} : ∀ {vs : List V} {bs : List Bool}, DtA B vs (bs.map .bool) → vs = bs.map V.bl
  | _, [], h => by cases h; rfl
  | _, n :: ns, h => by
    cases h with
    | cons h t =>
      cases h
      rw [DtA.bls t]
      rfl
theorem DtA.strs {B : Hp} : ∀ {vs : List V} {bs : List Str}, DtA B vs (bs.map .str) → vs = bs.map V.str
  | _, [], h => by cases h; rfl
  | _, n :: ns, h => by
    cases h with
    | cons h t =>
      cases h
      rw [DtA.strs t]
      rfl

/-! ### the ghost state -/
/-- what a slot holds: not known; data; a list of its own; the feed -/
inductive Cell where
  | un | im (d : D) | mu (ds : List D) | fd
/-- what an expression hands on: data; a new list that nobody else holds; the feed -/
inductive Vl where
  | im (d : D) | fr (ds : List D) | fd
/-- an exception: its class by name, its one field by name -/
inductive Xn where
  | mk (cls : Str) (field : Option (Str × D))
structure Rho where
  c : List Cell
  x : Xn → Prop
/-- B0, H0: region and heap at the entry; B: the region now; fa: where the feed stands; pr: objects in the making, known as they stand -/
structure Gs where
  B0 : Hp
  H0 : Hp
  B : Hp
  fa0 : Option Addr
  fa : Option Addr
  pr : List (Addr × HO)
structure Gs.le (G G' : Gs) : Prop where
  b0 : G'.B0 = G.B0
  h0 : G'.H0 = G.H0
  same : Same G.B G'.B
  fa : ∀ p, G.fa = some p → G'.fa = some p
  pr : G'.pr = G.pr
  fa0 : G'.fa0 = G.fa0
theorem Gs.le.refl (G : Gs) : G.le G := ⟨rfl, rfl, Same.refl _, fun _ h => h, rfl, rfl⟩
theorem Gs.le.trans {G G1 G2 : Gs} (a : G.le G1) (b : G1.le G2) : G.le G2 := ⟨b.b0.trans a.b0, b.h0.trans a.h0, a.same.trans b.same, fun p h => b.fa p (a.fa p h), b.pr.trans a.pr, b.fa0.trans a.fa0⟩

/-- the feed: a list of the script's ints, a place, a rest, a state -/
def FeedOk (B H : Hp) (p : Addr) : Prop := ∃ (sp : Addr) (ns : List Int) (c a b : Int), H p = some (.lst [.ref sp, .int c, .int a, .int b]) ∧ B sp = some (.lst (ns.map V.int)) ∧ 0 ≤ c ∧ 0 ≤ a ∧ 0 ≤ b ∧ b < 2147483648 ∧ ns.length ≤ 63

def CellOk (G : Gs) (H : Hp) : Cell → Option V → Prop
  | .un, _ => True
  | .im d, o => ∃ v, o = some v ∧ Dt G.B v d
  | .mu ds, o => ∃ p vs, o = some (.ref p) ∧ G.B p = none ∧ G.H0 p = none ∧ G.fa ≠ some p ∧ H p = some (.lst vs) ∧ DtA G.B vs ds
  | .fd, o => ∃ p, o = some (.ref p) ∧ G.fa = some p

/-- no slot's own list stands at p -/
def NoMu (ρ : List Cell) (σ : St) (p : Addr) : Prop := ∀ (i : Nat) (ds : List D), ρ[i]? = some (.mu ds) → σ[i]? ≠ some (some (.ref p))

structure RelC (G : Gs) (ρ : List Cell) (σ : St) (H : Hp) : Prop where
  same : Same G.B H
  same0 : Same G.B0 G.B
  old : ∀ q o, G.H0 q = some o → H q = some o ∨ G.fa = some q
  newB : ∀ q o, G.B q = some o → G.H0 q = none ∨ G.B0 q = some o
  len : ρ.length = σ.length
  cells : ∀ (i : Nat) (c : Cell) (o : Option V), ρ[i]? = some c → σ[i]? = some o → CellOk G H c o
  dist : ∀ (i j : Nat) (p : Addr) (ds es : List D), i ≠ j → ρ[i]? = some (.mu ds) → ρ[j]? = some (.mu es) → σ[i]? = some (some (.ref p)) → σ[j]? = some (some (.ref p)) → False
  feed : ∀ p, G.fa = some p → G.B p = none ∧ FeedOk G.B H p
  priv : ∀ p o, (p, o) ∈ G.pr → H p = some o ∧ G.B p = none ∧ G.H0 p = none ∧ G.fa ≠ some p ∧ NoMu ρ σ p
  fa0 : ∀ p, G.fa = some p → G.fa0 = some p ∨ G.H0 p = none

def NoPr (G : Gs) (p : Addr) : Prop := ∀ o, (p, o) ∉ G.pr
def VlOk (G : Gs) (H : Hp) (ρ : List Cell) (σ : St) : Vl → V → Prop
  | .im d, v => Dt G.B v d
  | .fr ds, v => ∃ p vs, v = .ref p ∧ G.B p = none ∧ G.H0 p = none ∧ G.fa ≠ some p ∧ H p = some (.lst vs) ∧ DtA G.B vs ds ∧ NoMu ρ σ p ∧ NoPr G p
  | .fd, v => ∃ p, v = .ref p ∧ G.fa = some p

/-- what is wanted of an exception, in the words of HandS; how it lies is told by a Prop of ours -/
abbrev XW := Xn → Value → Option Addr → Hp → Prop

structure Zx where
  W : WX
  XL : XW
structure Rel (Z : Zx) (G : Gs) (ρ : Rho) (σ : St) (H : Hp) : Prop where
  rc : RelC G ρ.c σ H
  ex : ∀ (xn : Xn) (G' : Gs) (ρ' : List Cell) (σ' : St) (H' : Hp) (cls : Value) (d : Option Addr), G.le G' → RelC G' ρ' σ' H' → Z.XL xn cls d H' → ρ.x xn → Z.W cls d σ' H'

theorem FeedOk.some {B H : Hp} {p : Addr} (h : FeedOk B H p) : ∃ o, H p = some o := by
  obtain ⟨_, _, _, _, _, e, _⟩ := h
  exact ⟨_, e⟩
theorem FeedOk.mono {B B' H H' : Hp} {p : Addr} (h : FeedOk B H p) (e : Same B B') (hp : H' p = H p) : FeedOk B' H' p := by
  obtain ⟨sp, ns, c, a, b, h1, h2, h3⟩ := h
  exact ⟨sp, ns, c, a, b, hp.trans h1, e _ _ h2, h3⟩

section
variable {G G' : Gs} {ρ ρ' : List Cell} {σ : St} {H H' : Hp} {p : Addr} {o : HO} {W : WX}

theorem CellOk.mono {c : Cell} {x : Option V} (h : CellOk G H c x) (le : G.le G') (hm : ∀ p vs, x = some (.ref p) → G.B p = none → H p = some (.lst vs) → H' p = some (.lst vs) ∧ G'.B p = none ∧ G'.fa ≠ some p ∨ (∀ ds, c ≠ .mu ds)) : CellOk G' H' c x := by
  cases c with
  | un => trivial
  | im d =>
    obtain ⟨v, e, t⟩ := h
    exact ⟨v, e, t.mono le.same⟩
  | mu ds =>
    obtain ⟨q, vs, e, b, h0, f, hq, t⟩ := h
    rcases hm q vs e b hq with ⟨a1, a2, a3⟩ | z
    · exact ⟨q, vs, e, a2, le.h0 ▸ h0, a3, a1, t.mono le.same⟩
    · exact absurd rfl (z ds)
  | fd =>
    obtain ⟨q, e, f⟩ := h
    exact ⟨q, e, le.fa q f⟩

/-- a free address is neither the feed nor in the region nor at the entry -/
theorem RelC.free (R : RelC G ρ σ H) (h : H p = none) : G.B p = none ∧ G.H0 p = none ∧ G.fa ≠ some p ∧ NoMu ρ σ p ∧ NoPr G p := by
  have hf : G.fa ≠ some p := fun e => by
    obtain ⟨o, q⟩ := (R.feed p e).2.some
    rw [h] at q
    cases q
  refine ⟨R.same.free h, ?_, hf, fun i ds e1 e2 => ?_, fun o e => ?_⟩
  · cases q : G.H0 p with
    | none => rfl
    | some u =>
      rcases R.old p u q with z | z
      · rw [h] at z
        cases z
      · exact absurd z hf
  · obtain ⟨q, vs, e, _, _, _, hq, _⟩ := R.cells i _ _ e1 e2
    cases e
    rw [h] at hq
    cases hq
  · have := (R.priv p o e).1
    rw [h] at this
    cases this

/-- an object that no slot knows of is laid or changed -/
theorem RelC.put (R : RelC G ρ σ H) (hB : G.B p = none) (h0 : G.H0 p = none) (hf : G.fa ≠ some p) (hm : NoMu ρ σ p) (hr : NoPr G p) : RelC G ρ σ (upd H p o) := by
  have ne : ∀ q u, G.B q = some u → q ≠ p := fun q u e => ne_of_none e hB
  refine ⟨fun q u e => by rw [upd_ne (ne q u e)]; exact R.same q u e, R.same0, fun q u e => ?_, R.newB, R.len, fun i c x e1 e2 => ?_, R.dist, fun q e => ?_, fun q u e => ?_, R.fa0⟩
  · rw [upd_ne (ne_of_none e h0)]
    exact R.old q u e
  · cases c with
    | mu ds =>
      obtain ⟨q, vs, e, b, h0', f, hq, t⟩ := R.cells i _ _ e1 e2
      refine ⟨q, vs, e, b, h0', f, ?_, t⟩
      have : q ≠ p := fun z => hm i ds e1 (by rw [e2, e, z])
      rw [upd_ne this]
      exact hq
    | un => trivial
    | im d => exact R.cells i _ _ e1 e2
    | fd => exact R.cells i _ _ e1 e2
  · have : q ≠ p := fun z => hf (z ▸ e)
    exact ⟨(R.feed q e).1, (R.feed q e).2.mono (Same.refl _) (upd_ne this)⟩
  · have : q ≠ p := fun z => hr u (z ▸ e)
    obtain ⟨h1, h2⟩ := R.priv q u e
    exact ⟨(upd_ne this).trans h1, h2⟩
theorem RelC.alloc (R : RelC G ρ σ H) (h : H p = none) : RelC G ρ σ (upd H p o) :=
  let ⟨a, b, c, d, e⟩ := R.free h
  R.put a b c d e

/-- an object joins the region -/
theorem RelC.join (R : RelC G ρ σ H) (hB : G.B p = none) (h0 : G.H0 p = none) (hf : G.fa ≠ some p) (hm : NoMu ρ σ p) (hr : NoPr G p) (hp : H p = some o) : RelC { G with B := upd G.B p o } ρ σ H ∧ G.le { G with B := upd G.B p o } := by
  have sm : Same G.B (upd G.B p o) := fun q u e => by rw [upd_ne (ne_of_none e hB)]; exact e
  have le : G.le { G with B := upd G.B p o } := ⟨rfl, rfl, sm, fun _ e => e, rfl, rfl⟩
  refine ⟨⟨fun q u e => ?_, R.same0.trans sm, R.old, fun q u e => ?_, R.len, fun i c x e1 e2 => ?_, R.dist, fun q e => ?_, fun q u e => ?_, R.fa0⟩, le⟩
  · by_cases z : q = p
    · subst z
      have e : upd G.B q o q = some u := e
      rw [upd_same] at e
      cases e
      exact hp
    · have e : upd G.B p o q = some u := e
      rw [upd_ne z] at e
      exact R.same q u e
  · by_cases z : q = p
    · subst z
      exact .inl h0
    · have e : upd G.B p o q = some u := e
      rw [upd_ne z] at e
      exact R.newB q u e
  · cases c with
    | mu ds =>
      obtain ⟨q, vs, e, b, h0', f, hq, t⟩ := R.cells i _ _ e1 e2
      refine ⟨q, vs, e, ?_, h0', f, hq, t.mono sm⟩
      have : q ≠ p := fun z => hm i ds e1 (by rw [e2, e, z])
      show upd G.B p o q = none
      rw [upd_ne this]
      exact b
    | un => trivial
    | im d =>
      obtain ⟨v, e, t⟩ := R.cells i _ _ e1 e2
      exact ⟨v, e, t.mono sm⟩
    | fd => exact R.cells i _ _ e1 e2
  · have : q ≠ p := fun z => hf (z ▸ e)
    refine ⟨?_, (R.feed q e).2.mono sm rfl⟩
    show upd G.B p o q = none
    rw [upd_ne this]
    exact (R.feed q e).1
  · have : q ≠ p := fun z => hr u (z ▸ e)
    obtain ⟨h1, h2, h3⟩ := R.priv q u e
    exact ⟨h1, (upd_ne this).trans h2, h3⟩

/-- a new object of data -/
theorem RelC.new (R : RelC G ρ σ H) (h : H p = none) : RelC { G with B := upd G.B p o } ρ σ (upd H p o) ∧ G.le { G with B := upd G.B p o } :=
  let ⟨a, b, c, d, e⟩ := R.free h
  (R.alloc h).join a b c d e upd_same

/-- slots forgotten, data forgotten -/
theorem RelC.weak (R : RelC G ρ σ H) (hl : ρ'.length = ρ.length) (h : ∀ (i : Nat) (c' : Cell), ρ'[i]? = some c' → c' = .un ∨ ρ[i]? = some c') : RelC G ρ' σ H where
  same := R.same
  same0 := R.same0
  old := R.old
  newB := R.newB
  len := hl.trans R.len
  cells := fun i c x e1 e2 => by
    rcases h i c e1 with z | z
    · subst z
      trivial
    · exact R.cells i c x z e2
  dist := fun i j p ds es ne e1 e2 => by
    rcases h i _ e1 with z | z
    · cases z
    · rcases h j _ e2 with y | y
      · cases y
      · exact R.dist i j p ds es ne z y
  feed := R.feed
  priv := fun p o e => by
    obtain ⟨h1, h2, h3, h4, h5⟩ := R.priv p o e
    refine ⟨h1, h2, h3, h4, fun i ds e1 => ?_⟩
    rcases h i _ e1 with z | z
    · cases z
    · exact h5 i ds z
  fa0 := R.fa0
end
end Dv

/-! DvB: readings by data: expressions. -/
namespace Dv
open PySem PySem.Spec L2
open PyProof.Rows hiding St

variable {Z : Zx} {X : Cx}

theorem Rel.up {G G' : Gs} {ρ : Rho} {c : List Cell} {σ σ' : St} {H H' : Hp} (R : Rel Z G ρ σ H) (le : G.le G') (R' : RelC G' c σ' H') : Rel Z G' ⟨c, ρ.x⟩ σ' H' :=
  ⟨R', fun xn G2 ρ' σ2 H2 cls d le2 R2 l h => R.ex xn G2 ρ' σ2 H2 cls d (le.trans le2) R2 l h⟩
theorem Rel.put {G : Gs} {ρ : Rho} {σ : St} {H : Hp} {p : Addr} {o : HO} (R : Rel Z G ρ σ H) (h : H p = none) : Rel Z G ρ σ (upd H p o) := R.up (Gs.le.refl G) (R.rc.alloc h)
theorem Rel.new {G : Gs} {ρ : Rho} {σ : St} {H : Hp} {p : Addr} {o : HO} (R : Rel Z G ρ σ H) (h : H p = none) : ∃ G', G.le G' ∧ Rel Z G' ρ σ (upd H p o) ∧ G'.B p = some o := by
  obtain ⟨R', le⟩ := R.rc.new (o := o) h
  exact ⟨_, le, R.up le R', upd_same⟩
/-- a new list is data from now on -/
theorem Rel.freeze {G : Gs} {ρ : Rho} {σ : St} {H : Hp} {ds : List D} {v : V} (R : Rel Z G ρ σ H) (h : VlOk G H ρ.c σ (.fr ds) v) : ∃ G', G.le G' ∧ Rel Z G' ρ σ H ∧ Dt G'.B v (.list ds) := by
  obtain ⟨p, vs, rfl, hB, h0, hf, hp, t, hm, hr⟩ := h
  obtain ⟨R', le⟩ := R.rc.join hB h0 hf hm hr hp
  exact ⟨_, le, R.up le R', .lst upd_same (t.mono le.same)⟩
/-- a new list, not yet data -/
theorem Rel.frNew {G : Gs} {ρ : Rho} {σ : St} {H : Hp} {p : Addr} {vs : List V} {ds : List D} (R : Rel Z G ρ σ H) (h : H p = none) (t : DtA G.B vs ds) : Rel Z G ρ σ (upd H p (.lst vs)) ∧ VlOk G (upd H p (.lst vs)) ρ.c σ (.fr ds) (.ref p) := by
  obtain ⟨a, b, c, d, e⟩ := R.rc.free h
  exact ⟨R.put h, p, vs, rfl, a, b, c, upd_same, t, d, e⟩

/-- data of a value -/
def fz (v : Vl) (k : D → Prop) : Prop := match v with
  | .im d => k d
  | .fr ds => k (.list ds)
  | .fd => False
theorem Rel.fz {G : Gs} {ρ : Rho} {σ : St} {H : Hp} {val : Vl} {v : V} {k : D → Prop} (R : Rel Z G ρ σ H) (h : VlOk G H ρ.c σ val v) (hk : Dv.fz val k) : ∃ G' d, G.le G' ∧ Rel Z G' ρ σ H ∧ Dt G'.B v d ∧ k d := by
  cases val with
  | im d => exact ⟨G, d, .refl G, R, h, hk⟩
  | fr ds =>
    obtain ⟨G', le, R', t⟩ := R.freeze h
    exact ⟨G', _, le, R', t, hk⟩
  | fd => exact hk.elim

/-! ### the readings -/
abbrev SE := Rho → (Vl → Rho → Prop) → Prop
abbrev ST := Rho → (Bool → Rho → Prop) → Prop
/-- an operand that is only read: data, or what stands in a slot -/
inductive Op where
  | d (d : D) | s (i : Nat)
abbrev SR := Rho → (Op → Rho → Prop) → Prop
/-- an argument: data or the feed -/
inductive Ar where
  | d (d : D) | fd
abbrev SA := Rho → (List Ar → Rho → Prop) → Prop
abbrev SDs := Rho → (List D → Rho → Prop) → Prop

def tE (Z : Zx) (f : SE) : TE := fun σ H Q => ∃ G ρ Q', Rel Z G ρ σ H ∧ f ρ Q' ∧ ∀ v G' ρ' H' val, G.le G' → Rel Z G' ρ' σ H' → VlOk G' H' ρ'.c σ val v → Q' val ρ' → Q v H'
def tT (Z : Zx) (f : ST) : TT := fun σ H Q => ∃ G ρ Q', Rel Z G ρ σ H ∧ f ρ Q' ∧ ∀ b G' ρ' H', G.le G' → Rel Z G' ρ' σ H' → Q' b ρ' → Q b H'
def OpOk (G : Gs) (σ : St) : Op → V → Prop
  | .d d, v => Dt G.B v d
  | .s i, v => σ[i]? = some (some v)
def tR (Z : Zx) (f : SR) : TE := fun σ H Q => ∃ G ρ Q', Rel Z G ρ σ H ∧ f ρ Q' ∧ ∀ v G' ρ' H' op, G.le G' → Rel Z G' ρ' σ H' → OpOk G' σ op v → Q' op ρ' → Q v H'
def ArOk (G : Gs) : Ar → V → Prop
  | .d d, v => Dt G.B v d
  | .fd, v => ∃ p, v = .ref p ∧ G.fa = some p
inductive ArsOk (G : Gs) : List Ar → List V → Prop
  | nil : ArsOk G [] []
  | cons {a : Ar} {v : V} {as : List Ar} {vs : List V} : ArOk G a v → ArsOk G as vs → ArsOk G (a :: as) (v :: vs)
def tA (Z : Zx) (f : SA) : TA := fun σ H Q => ∃ G ρ Q', Rel Z G ρ σ H ∧ f ρ Q' ∧ ∀ vs G' ρ' H' as, G.le G' → Rel Z G' ρ' σ H' → ArsOk G' as vs → Q' as ρ' → Q vs H'
def tDs (Z : Zx) (f : SDs) : TA := fun σ H Q => ∃ G ρ Q', Rel Z G ρ σ H ∧ f ρ Q' ∧ ∀ vs G' ρ' H' ds, G.le G' → Rel Z G' ρ' σ H' → DtA G'.B vs ds → Q' ds ρ' → Q vs H'

theorem PE.imp {e : Expr} {t t' : TE} (h : PE X e t) (i : ∀ σ H Q, t' σ H Q → t σ H Q) : PE X e t' := ⟨fun pins s σ H Q I q => h.run pins s σ H Q I (i σ H Q q)⟩
theorem PT.imp {e : Expr} {t t' : TT} (h : PT X e t) (i : ∀ σ H Q, t' σ H Q → t σ H Q) : PT X e t' := ⟨fun pins s σ H Q I q => h.run pins s σ H Q I (i σ H Q q)⟩
theorem PW.imp {e : Expr} {t t' : TT} (h : PW X e t) (i : ∀ σ H Q, t' σ H Q → t σ H Q) : PW X e t' := ⟨fun wh pins s σ H Q I q => h.run wh pins s σ H Q I (i σ H Q q)⟩
theorem PA.imp {e : List Expr} {t t' : TA} (h : PA X e t) (i : ∀ σ H Q, t' σ H Q → t σ H Q) : PA X e t' := ⟨fun pos pins s σ H Q I q => h.run pos pins s σ H Q I (i σ H Q q)⟩

theorem ArOk.mono {G G' : Gs} (le : G.le G') {a : Ar} {v : V} (h : ArOk G a v) : ArOk G' a v := by
  cases a with
  | d d => exact Dt.mono le.same h
  | fd =>
    obtain ⟨p, e, f⟩ := h
    exact ⟨p, e, le.fa p f⟩
theorem ArsOk.mono {G G' : Gs} (le : G.le G') : ∀ {as : List Ar} {vs : List V}, ArsOk G as vs → ArsOk G' as vs
  | _, _, .nil => .nil
  | _, _, .cons h t => .cons (h.mono le) (ArsOk.mono le t)
theorem OpOk.mono {G G' : Gs} (le : G.le G') {σ : St} {a : Op} {v : V} (h : OpOk G σ a v) : OpOk G' σ a v := by
  cases a with
  | d d => exact Dt.mono le.same h
  | s i => exact h

/-! ### what an operand stands for, when it is used -/
def rs (o : Op) (ρ : Rho) (k : D → Prop) : Prop := match o with
  | .d d => k d
  | .s i => match ρ.c[i]? with
    | some (.im d) => k d
    | some (.mu ds) => k (.list ds)
    | _ => False
/-- v is d in the heap H: if a list, then of data in B -/
def Tp (B H : Hp) (v : V) : D → Prop
  | .list ds => ∃ p vs, v = .ref p ∧ H p = some (.lst vs) ∧ DtA B vs ds
  | d => Dt B v d
theorem Tp.of {B H : Hp} (e : Same B H) {v : V} {d : D} (h : Dt B v d) : Tp B H v d := by
  cases d with
  | list ds =>
    cases h with
    | lst h t => exact ⟨_, _, rfl, e _ _ h, t⟩
  | none => exact h
  | bool b => exact h
  | int i => exact h
  | str x => exact h
  | tuple ds => exact h
  | dict k => cases h
theorem Rel.rs {G : Gs} {ρ : Rho} {σ : St} {H : Hp} {o : Op} {v : V} {k : D → Prop} (R : Rel Z G ρ σ H) (h : OpOk G σ o v) (hk : Dv.rs o ρ k) : ∃ d, Tp G.B H v d ∧ k d := by
  cases o with
  | d d => exact ⟨d, .of R.rc.same h, hk⟩
  | s i =>
    have h : σ[i]? = some (some v) := h
    simp only [Dv.rs] at hk
    split at hk
    · rename_i d e
      obtain ⟨w, e2, t⟩ := R.rc.cells i _ _ e h
      cases e2
      exact ⟨d, .of R.rc.same t, hk⟩
    · rename_i ds e
      obtain ⟨p, vs, e2, _, _, _, hp, t⟩ := R.rc.cells i _ _ e h
      cases e2
      exact ⟨.list ds, ⟨p, vs, rfl, hp, t⟩, hk⟩
    · exact hk.elim
theorem Tp.dp {B H : Hp} {K : PySem.W.Frag} (e : Same B H) {v : V} {d : D} (h : Tp B H v d) : Dp K H v d := by
  cases d with
  | list ds =>
    obtain ⟨p, vs, rfl, hp, t⟩ := h
    exact .lst (SqL.of hp) (t.toDp e)
  | none => exact Dt.toDp e h
  | bool b => exact Dt.toDp e h
  | int i => exact Dt.toDp e h
  | str x => exact Dt.toDp e h
  | tuple ds => exact Dt.toDp e h
  | dict k => cases h
theorem Tp.int {B H : Hp} {v : V} {i : Int} (h : Tp B H v (.int i)) : v = .int i := by cases h; rfl
theorem Tp.str {B H : Hp} {v : V} {i : Str} (h : Tp B H v (.str i)) : v = .str i := by cases h; rfl
theorem Tp.bool {B H : Hp} {v : V} {i : Bool} (h : Tp B H v (.bool i)) : v = .bl i := by cases h; rfl
theorem Tp.tup {B H : Hp} {v : V} {ds : List D} (h : Tp B H v (.tuple ds)) : ∃ p vs, v = .ref p ∧ B p = some (.tup vs) ∧ DtA B vs ds := by
  cases h with
  | tup a b => exact ⟨_, _, rfl, a, b⟩

/-! ### names, constants -/
def sVar (i : Nat) : SE := fun ρ Q => match ρ.c[i]? with
  | some (.im d) => Q (.im d) ρ
  | some (.mu ds) => Q (.im (.list ds)) ⟨ρ.c.set i (.im (.list ds)), ρ.x⟩
  | some .fd => Q .fd ρ
  | _ => False
theorem getElem?_set_cases {α : Type} {l : List α} {i j : Nat} {a c : α} (h : (l.set i a)[j]? = some c) : (i = j ∧ a = c) ∨ (i ≠ j ∧ l[j]? = some c) := by
  by_cases e : i = j
  · subst e
    by_cases hi : i < l.length
    · rw [List.getElem?_set_self hi] at h
      exact .inl ⟨rfl, Option.some.inj h⟩
    · rw [List.getElem?_eq_none (by simpa using hi)] at h
      cases h
  · rw [List.getElem?_set_ne e] at h
    exact .inr ⟨e, h⟩
/-- the list of a slot becomes data -/
theorem RelC.slot {G : Gs} {ρ : List Cell} {σ : St} {H : Hp} {i : Nat} {ds : List D} {v : V} (R : RelC G ρ σ H) (h : ρ[i]? = some (.mu ds)) (hv : σ[i]? = some (some v)) :
    ∃ G', G.le G' ∧ RelC G' (ρ.set i (.im (.list ds))) σ H ∧ Dt G'.B v (.list ds) := by
  obtain ⟨p, vs, e, hB, h0, hf, hp, t⟩ := R.cells i _ _ h hv
  cases e
  have hr : NoPr G p := fun o e => (R.priv p o e).2.2.2.2 i ds h hv
  -- the slot forgotten
  have R1 : RelC G (ρ.set i .un) σ H := R.weak (by simp) fun j c' e => by
    rcases getElem?_set_cases e with ⟨_, e2⟩ | ⟨_, e2⟩
    · exact .inl e2.symm
    · exact .inr e2
  have hm : NoMu (ρ.set i .un) σ p := fun j es e1 e2 => by
    rcases getElem?_set_cases e1 with ⟨_, e3⟩ | ⟨ne, e3⟩
    · cases e3
    · exact R.dist i j p ds es ne h e3 hv e2
  obtain ⟨R2, le⟩ := R1.join hB h0 hf hm hr hp
  refine ⟨_, le, ⟨R2.same, R2.same0, R2.old, R2.newB, by rw [← R2.len]; simp, fun j c x e1 e2 => ?_, fun j k q d1 d2 ne e1 e2 e3 e4 => ?_, R2.feed, fun q o e => ?_, R2.fa0⟩, .lst upd_same (t.mono le.same)⟩
  · rcases getElem?_set_cases e1 with ⟨e3, e4⟩ | ⟨ne, e3⟩
    · subst e3 e4
      rw [hv] at e2
      cases e2
      exact ⟨_, rfl, .lst upd_same (t.mono le.same)⟩
    · exact R2.cells j c x (by rw [List.getElem?_set_ne ne]; exact e3) e2
  · rcases getElem?_set_cases e1 with ⟨_, e5⟩ | ⟨n1, e5⟩
    · cases e5
    · rcases getElem?_set_cases e2 with ⟨_, e6⟩ | ⟨n2, e6⟩
      · cases e6
      · exact R.dist j k q d1 d2 ne e5 e6 e3 e4
  · obtain ⟨h1, h2, h3, h4, h5⟩ := R2.priv q o e
    refine ⟨h1, h2, h3, h4, fun j es e1 => ?_⟩
    rcases getElem?_set_cases e1 with ⟨_, e5⟩ | ⟨n1, e5⟩
    · cases e5
    · exact h5 j es (by rw [List.getElem?_set_ne n1]; exact e5)

theorem ev_var (i : Nat) {x : Str} {pos : Pos} (hN : X.N[i]? = some x := by rfl) (hv : Vis X.env.scope x := by first | exact Or.inl rfl | exact Or.inr (Or.inl rfl) | exact Or.inr (Or.inr rfl)) (hd : (x == ("__debug__" : Str)) = false := by decide)
    (hcd : (x == ("__classdict__" : Str)) = false := by decide) : PE X (.Name x pos) (tE Z (sVar i)) := by
  refine PE.imp (pe_var hN hv hd hcd) fun σ H Q h => ?_
  obtain ⟨G, ρ, Q', R, h, q⟩ := h
  have hl : ∀ {c : Cell}, ρ.c[i]? = some c → ∃ o, σ[i]? = some o := fun {c} e => by
    have h1 : i < ρ.c.length := (List.getElem?_eq_some_iff.mp e).1
    rw [R.rc.len] at h1
    exact ⟨_, List.getElem?_eq_getElem h1⟩
  unfold sVar at h
  split at h
  · rename_i d e
    obtain ⟨o, eo⟩ := hl e
    obtain ⟨v, e2, t⟩ := R.rc.cells i _ _ e eo
    subst e2
    exact ⟨v, eo, q v G ρ H (.im d) (.refl G) R t h⟩
  · rename_i ds e
    obtain ⟨o, eo⟩ := hl e
    obtain ⟨p, vs, e2, _⟩ := R.rc.cells i _ _ e eo
    subst e2
    obtain ⟨G', le, R', t⟩ := R.rc.slot e eo
    exact ⟨_, eo, q _ G' _ H (.im (.list ds)) le (R.up le R') t h⟩
  · rename_i e
    obtain ⟨o, eo⟩ := hl e
    obtain ⟨p, e2, f⟩ := R.rc.cells i _ _ e eo
    subst e2
    exact ⟨_, eo, q _ G ρ H .fd (.refl G) R ⟨p, rfl, f⟩ h⟩
  · exact h.elim
/-- a slot that is only read -/
def sRV (i : Nat) : SR := fun ρ Q => (match ρ.c[i]? with | some (.im _) => True | some (.mu _) => True | _ => False) ∧ Q (.s i) ρ
theorem er_var (i : Nat) {x : Str} {pos : Pos} (hN : X.N[i]? = some x := by rfl) (hv : Vis X.env.scope x := by first | exact Or.inl rfl | exact Or.inr (Or.inl rfl) | exact Or.inr (Or.inr rfl)) (hd : (x == ("__debug__" : Str)) = false := by decide)
    (hcd : (x == ("__classdict__" : Str)) = false := by decide) : PE X (.Name x pos) (tR Z (sRV i)) := by
  refine PE.imp (pe_var hN hv hd hcd) fun σ H Q h => ?_
  obtain ⟨G, ρ, Q', R, ⟨h0, h⟩, q⟩ := h
  have hl : ∀ {c : Cell}, ρ.c[i]? = some c → ∃ o, σ[i]? = some o := fun {c} e => by
    have h1 : i < ρ.c.length := (List.getElem?_eq_some_iff.mp e).1
    rw [R.rc.len] at h1
    exact ⟨_, List.getElem?_eq_getElem h1⟩
  split at h0
  · rename_i d e
    obtain ⟨o, eo⟩ := hl e
    obtain ⟨v, e2, t⟩ := R.rc.cells i _ _ e eo
    subst e2
    exact ⟨v, eo, q v G ρ H (.s i) (.refl G) R eo h⟩
  · rename_i ds e
    obtain ⟨o, eo⟩ := hl e
    obtain ⟨p, vs, e2, _⟩ := R.rc.cells i _ _ e eo
    subst e2
    exact ⟨_, eo, q _ G ρ H (.s i) (.refl G) R eo h⟩
  · exact h0.elim
/-- an operand that is made on the way -/
def sRE (f : SE) : SR := fun ρ Q => f ρ fun v ρ' => fz v fun d => Q (.d d) ρ'
theorem er_of {e : Expr} {f : SE} (h : PE X e (tE Z f)) : PE X e (tR Z (sRE f)) := by
  refine PE.imp h fun σ H Q h => ?_
  obtain ⟨G, ρ, Q', R, h, q⟩ := h
  refine ⟨G, ρ, _, R, h, fun v G' ρ' H' val le R' vo hq => ?_⟩
  obtain ⟨G2, d, le2, R2, t, hk⟩ := R'.fz vo hq
  exact q v G2 ρ' H' (.d d) (le.trans le2) R2 t hk
def sC (d : D) : SE := fun ρ Q => Q (.im d) ρ
theorem tE_c {v : V} {d : D} (h : ∀ B, Dt B v d) : ∀ σ H Q, tE Z (sC d) σ H Q → tC v σ H Q := fun σ H Q ⟨G, ρ, Q', R, hq, q⟩ => q v G ρ H (.im d) (.refl G) R (h G.B) hq
theorem ev_int {i : Int} {j : Nat} {pos : Pos} : PE X (.Constant (.int i) j pos) (tE Z (sC (.int i))) := PE.imp pe_int (tE_c fun _ => .int i)
theorem ev_str {x : Str} {j : Nat} {pos : Pos} : PE X (.Constant (.str x) j pos) (tE Z (sC (.str x))) := PE.imp pe_str (tE_c fun _ => .str x)
theorem ev_bl {b : Bool} {j : Nat} {pos : Pos} : PE X (.Constant (.bool b) j pos) (tE Z (sC (.bool b))) := PE.imp pe_bl (tE_c fun _ => .bl b)
theorem ev_non {j : Nat} {pos : Pos} : PE X (.Constant .none j pos) (tE Z (sC .none)) := PE.imp pe_non (tE_c fun _ => .non)
/-- a module's constant -/
theorem ev_glob {x : Str} {v : V} {d : D} {u : Value} {pos : Pos} (hg : Gl X x) (hm : X.mg x = some u) (r : RelV v u) (h : ∀ B, Dt B v d) (hd : (x == ("__debug__" : Str)) = false := by decide) : PE X (.Name x pos) (tE Z (sC d)) :=
  PE.imp (pe_glob hg hm r hd) (tE_c h)

/-! ### argument lists, displays -/
def ar (v : Vl) (k : Ar → Prop) : Prop := match v with
  | .im d => k (.d d)
  | .fr ds => k (.d (.list ds))
  | .fd => k .fd
theorem Rel.ar {G : Gs} {ρ : Rho} {σ : St} {H : Hp} {val : Vl} {v : V} {k : Ar → Prop} (R : Rel Z G ρ σ H) (h : VlOk G H ρ.c σ val v) (hk : Dv.ar val k) : ∃ G' a, G.le G' ∧ Rel Z G' ρ σ H ∧ ArOk G' a v ∧ k a := by
  cases val with
  | im d => exact ⟨G, .d d, .refl G, R, h, hk⟩
  | fr ds =>
    obtain ⟨G', le, R', t⟩ := R.freeze h
    exact ⟨G', .d _, le, R', t, hk⟩
  | fd => exact ⟨G, .fd, .refl G, R, h, hk⟩
def aNil : SA := fun ρ Q => Q [] ρ
def aCons (f : SE) (t : SA) : SA := fun ρ Q => f ρ fun v ρ1 => ar v fun a => t ρ1 fun as ρ2 => Q (a :: as) ρ2
theorem ea_nil : PA X [] (tA Z aNil) := PA.imp pa_nil fun σ H Q ⟨G, ρ, Q', R, h, q⟩ => q [] G ρ H [] (.refl G) R .nil h
theorem ea_cons {e : Expr} {es : List Expr} {f : SE} {t : SA} (ha : PE X e (tE Z f)) (hr : PA X es (tA Z t)) (hs : starEach (e :: es) X.env = (false, eval e X.env) :: starEach es X.env := by rfl) : PA X (e :: es) (tA Z (aCons f t)) := by
  refine PA.imp (pa_cons ha hr hs) fun σ H Q ⟨G, ρ, Q', R, h, q⟩ => ?_
  refine ⟨G, ρ, _, R, h, fun v G1 ρ1 H1 val le1 R1 vo hq => ?_⟩
  obtain ⟨G2, a, le2, R2, t, hk⟩ := R1.ar vo hq
  refine ⟨G2, ρ1, _, R2, hk, fun vs G3 ρ3 H3 as le3 R3 ao hq3 => ?_⟩
  exact q (v :: vs) G3 ρ3 H3 (a :: as) ((le1.trans le2).trans le3) R3 (.cons (t.mono le3) ao) hq3
def dNil : SDs := fun ρ Q => Q [] ρ
def dCons (f : SE) (t : SDs) : SDs := fun ρ Q => f ρ fun v ρ1 => fz v fun a => t ρ1 fun as ρ2 => Q (a :: as) ρ2
theorem ed_nil : PA X [] (tDs Z dNil) := PA.imp pa_nil fun σ H Q ⟨G, ρ, Q', R, h, q⟩ => q [] G ρ H [] (.refl G) R .nil h
theorem ed_cons {e : Expr} {es : List Expr} {f : SE} {t : SDs} (ha : PE X e (tE Z f)) (hr : PA X es (tDs Z t)) (hs : starEach (e :: es) X.env = (false, eval e X.env) :: starEach es X.env := by rfl) : PA X (e :: es) (tDs Z (dCons f t)) := by
  refine PA.imp (pa_cons ha hr hs) fun σ H Q ⟨G, ρ, Q', R, h, q⟩ => ?_
  refine ⟨G, ρ, _, R, h, fun v G1 ρ1 H1 val le1 R1 vo hq => ?_⟩
  obtain ⟨G2, a, le2, R2, t, hk⟩ := R1.fz vo hq
  refine ⟨G2, ρ1, _, R2, hk, fun vs G3 ρ3 H3 as le3 R3 ao hq3 => ?_⟩
  exact q (v :: vs) G3 ρ3 H3 (a :: as) ((le1.trans le2).trans le3) R3 (.cons (t.mono le3.same) ao) hq3
def sLst (t : SDs) : SE := fun ρ Q => t ρ fun ds ρ' => ds.length ≤ 1000 ∧ Q (.fr ds) ρ'
def sTup (t : SDs) : SE := fun ρ Q => t ρ fun ds ρ' => ds.length ≤ 1000 ∧ Q (.im (.tuple ds)) ρ'
theorem le1000 {n : Nat} (h : n ≤ 1000) : n ≤ sizeLine := Nat.le_trans h (by decide)
theorem ev_lst {es : List Expr} {t : SDs} {pos : Pos} (h : PA X es (tDs Z t)) : PE X (.List es pos) (tE Z (sLst t)) := by
  refine PE.imp (pe_lst h) fun σ H Q ⟨G, ρ, Q', R, h, q⟩ => ?_
  refine ⟨G, ρ, _, R, h, fun vs G1 ρ1 H1 ds le1 R1 t hq => ⟨?_, fun p hp => ?_⟩⟩
  · rw [t.length]
    exact le1000 hq.1
  · obtain ⟨R2, v⟩ := R1.frNew hp t
    exact q _ G1 ρ1 _ (.fr ds) le1 R2 v hq.2
theorem ev_tup {es : List Expr} {t : SDs} {pos : Pos} {x1 : Nat} (h : PA X es (tDs Z t)) : PE X (.Tuple es x1 pos) (tE Z (sTup t)) := by
  refine PE.imp (pe_tup h) fun σ H Q ⟨G, ρ, Q', R, h, q⟩ => ?_
  refine ⟨G, ρ, _, R, h, fun vs G1 ρ1 H1 ds le1 R1 t hq => ⟨?_, fun p hp => ?_⟩⟩
  · rw [t.length]
    exact le1000 hq.1
  · obtain ⟨G2, le2, R2, e⟩ := R1.new (o := .tup vs) hp
    exact q _ G2 ρ1 _ (.im (.tuple ds)) (le1.trans le2) R2 (.tup e (t.mono le2.same)) hq.2

/-! ### operations by values -/
abbrev O1 := D → (Vl → Prop) → Prop
abbrev O2 := D → D → (Vl → Prop) → Prop
/-- what a rule r of HandS must do for the operation o of ours -/
def Ok1 (r : V → Hp → VK → Prop) (o : O1) : Prop := ∀ (Z : Zx) (G : Gs) (ρ : Rho) (σ : St) (H : Hp) (v : V) (d : D) (k : Vl → Prop) (Q : VK), Rel Z G ρ σ H → Tp G.B H v d → o d k →
  (∀ val v' G' H', G.le G' → Rel Z G' ρ σ H' → VlOk G' H' ρ.c σ val v' → k val → Q v' H') → r v H Q
def Ok2 (r : R2) (o : O2) : Prop := ∀ (Z : Zx) (G : Gs) (ρ : Rho) (σ : St) (H : Hp) (v w : V) (d e : D) (k : Vl → Prop) (Q : VK), Rel Z G ρ σ H → Tp G.B H v d → Tp G.B H w e → o d e k →
  (∀ val v' G' H', G.le G' → Rel Z G' ρ σ H' → VlOk G' H' ρ.c σ val v' → k val → Q v' H') → r v w H Q
def s1 (o : O1) (g : SR) : SE := fun ρ Q => g ρ fun x ρ1 => rs x ρ1 fun d => o d fun v => Q v ρ1
def s2 (o : O2) (g h : SR) : SE := fun ρ Q => g ρ fun x ρ1 => h ρ1 fun y ρ2 => rs x ρ2 fun d => rs y ρ2 fun e => o d e fun v => Q v ρ2
theorem t_un {r : V → Hp → VK → Prop} {o : O1} (ok : Ok1 r o) {g : SR} : ∀ σ H Q, tE Z (s1 o g) σ H Q → tUn r (tR Z g) σ H Q := fun σ H Q ⟨G, ρ, Q', R, h, q⟩ => by
  refine ⟨G, ρ, _, R, h, fun v G1 ρ1 H1 op le1 R1 oo hq => ?_⟩
  obtain ⟨d, t, hk⟩ := R1.rs oo hq
  exact ok Z G1 ρ1 σ H1 v d _ Q R1 t hk fun val v' G' H' le R' vo hv => q v' G' ρ1 H' val (le1.trans le) R' vo hv
theorem t_op {r : R2} {o : O2} (ok : Ok2 r o) {g h : SR} : ∀ σ H Q, tE Z (s2 o g h) σ H Q → tOp r (tR Z g) (tR Z h) σ H Q := fun σ H Q ⟨G, ρ, Q', R, hh, q⟩ => by
  refine ⟨G, ρ, _, R, hh, fun v G1 ρ1 H1 op1 le1 R1 oo1 hq1 => ?_⟩
  refine ⟨G1, ρ1, _, R1, hq1, fun w G2 ρ2 H2 op2 le2 R2 oo2 hq2 => ?_⟩
  obtain ⟨d, t1, hk⟩ := R2.rs (oo1.mono le2) hq2
  obtain ⟨e, t2, hk⟩ := R2.rs oo2 hk
  exact ok Z G2 ρ2 σ H2 v w d e _ Q R2 t1 t2 hk fun val v' G' H' le R' vo hv => q v' G' ρ2 H' val ((le1.trans le2).trans le) R' vo hv
/-- a value as a test -/
def sT (f : SE) : ST := fun ρ Q => f ρ fun v ρ' => match v with | .im (.bool b) => Q b ρ' | _ => False
theorem t_test {f : SE} : ∀ σ H Q, tT Z (sT f) σ H Q → tE Z f σ H fun x H' => ∃ k, x = .bl k ∧ Q k H' := fun σ H Q ⟨G, ρ, Q', R, h, q⟩ => by
  refine ⟨G, ρ, _, R, h, fun v G1 ρ1 H1 val le1 R1 vo hq => ?_⟩
  split at hq
  · rename_i b
    have t : Dt G1.B v (.bool b) := vo
    cases t
    exact ⟨b, rfl, q b G1 ρ1 H1 le1 R1 hq⟩
  · exact hq.elim
theorem et_val {e : Expr} {f : SE} (h : PE X e (tE Z f)) (he : ∀ whole, isTrue e X.env whole = (do let v ← whole; standAt e.pos; holding [v] (truthy v)) := by intro _; rfl) : PT X e (tT Z (sT f)) :=
  PT.imp (pt_val h he) t_test

section
variable {a b c : Expr} {g h l : SR} {pos : Pos}
theorem ev_bin {op : Operator} {r : R2} {o : O2} (ho : OpR X (binaryOp op) r) (ok : Ok2 r o) (ha : PE X a (tR Z g)) (hb : PE X b (tR Z h)) : PE X (.BinOp a op b pos) (tE Z (s2 o g h)) := PE.imp (pe_op ho ha hb) (t_op ok)
theorem ev_un {op : UnaryOp} {r : V → Hp → VK → Prop} {o : O1} (ho : UnR X (unaryOp op) r) (ok : Ok1 r o) (ha : PE X a (tR Z g)) : PE X (.UnaryOp op a pos) (tE Z (s1 o g)) := PE.imp (pe_un ho ha) (t_un ok)
theorem ev_cmp {op : CmpOp} {r : R2} {o : O2} (ho : OpR X (compareOp op) r) (ok : Ok2 r o) (ha : PE X a (tR Z g)) (hb : PE X b (tR Z h)) (hm : behindInMarks op b = false) : PE X (.Compare a [op] [b] pos) (tE Z (s2 o g h)) := PE.imp (pe_cmpR ho ha hb hm) (t_op ok)
theorem et_cmp {op : CmpOp} {r : R2} {o : O2} (ho : OpR X (compareOp op) r) (ok : Ok2 r o) (ha : PE X a (tR Z g)) (hb : PE X b (tR Z h)) (hm : behindInMarks op b = false) : PT X (.Compare a [op] [b] pos) (tT Z (sT (s2 o g h))) :=
  PT.imp (pt_cmpR ho ha hb hm) fun σ H Q q => t_op ok σ H _ (t_test σ H Q q)
theorem ev_ix {r : R2} {o : O2} (ho : IxR X r) (ok : Ok2 r o) (ha : PE X a (tR Z g)) (hb : PE X b (tR Z h)) (hs : PlainIx b) : PE X (.Subscript a b pos) (tE Z (s2 o g h)) := PE.imp (pe_ix ho ha hb hs) (t_op ok)
/-- a op b op' c -/
def s3 (o o' : O2) (g h l : SR) : SE := fun ρ Q => g ρ fun x ρ1 => h ρ1 fun y ρ2 => rs x ρ2 fun d => rs y ρ2 fun e => o d e fun v => match v with
  | .im (.bool true) => l ρ2 fun z ρ3 => rs y ρ3 fun e' => rs z ρ3 fun f => o' e' f fun v => Q v ρ3
  | .im (.bool false) => Q (.im (.bool false)) ρ2
  | _ => False
theorem t_chain {r r' : R2} {o o' : O2} (ok : Ok2 r o) (ok' : Ok2 r' o') {g h l : SR} : ∀ σ H Q, tE Z (s3 o o' g h l) σ H Q → tChain r r' (tR Z g) (tR Z h) (tR Z l) σ H Q := fun σ H Q ⟨G, ρ, Q', R, hh, q⟩ => by
  refine ⟨G, ρ, _, R, hh, fun v G1 ρ1 H1 op1 le1 R1 oo1 hq1 => ?_⟩
  refine ⟨G1, ρ1, _, R1, hq1, fun w G2 ρ2 H2 op2 le2 R2 oo2 hq2 => ?_⟩
  obtain ⟨d, t1, hk⟩ := R2.rs (oo1.mono le2) hq2
  obtain ⟨e, t2, hk⟩ := R2.rs oo2 hk
  refine ok Z G2 ρ2 σ H2 v w d e _ _ R2 t1 t2 hk fun val v' G' H' le R' vo hv => ?_
  split at hv
  · have t : Dt G'.B v' (.bool true) := vo
    cases t
    refine ⟨true, rfl, iteT ⟨G', ρ2, _, R', hv, fun z G3 ρ3 H3 op3 le3 R3 oo3 hq3 => ?_⟩⟩
    obtain ⟨e', t3, hk⟩ := R3.rs ((oo2.mono le).mono le3) hq3
    obtain ⟨f, t4, hk⟩ := R3.rs oo3 hk
    exact ok' Z G3 ρ3 σ H3 w z e' f _ Q R3 t3 t4 hk fun val v' G' H' le4 R' vo hv => q v' G' ρ3 H' val ((((le1.trans le2).trans le).trans le3).trans le4) R' vo hv
  · have t : Dt G'.B v' (.bool false) := vo
    cases t
    exact ⟨false, rfl, iteF (q _ G' ρ2 H' (.im (.bool false)) ((le1.trans le2).trans le) R' (.bl false) hv)⟩
  · exact hv.elim
theorem ev_chain {op op' : CmpOp} {r r' : R2} {o o' : O2} (ho : OpR X (compareOp op) r) (ok : Ok2 r o) (ho' : OpR X (compareOp op') r') (ok' : Ok2 r' o') (ha : PE X a (tR Z g)) (hb : PE X b (tR Z h)) (hc : PE X c (tR Z l))
    (hm : lastMarks [op, op'] [b, c] = false := by with_unfolding_all rfl) : PE X (.Compare a [op, op'] [b, c] pos) (tE Z (s3 o o' g h l)) := PE.imp (pe_chain ho ho' ha hb hc hm) (t_chain ok ok')
theorem et_chain {op op' : CmpOp} {r r' : R2} {o o' : O2} (ho : OpR X (compareOp op) r) (ok : Ok2 r o) (ho' : OpR X (compareOp op') r') (ok' : Ok2 r' o') (ha : PE X a (tR Z g)) (hb : PE X b (tR Z h)) (hc : PE X c (tR Z l))
    (hm : lastMarks [op, op'] [b, c] = false := by with_unfolding_all rfl) : PT X (.Compare a [op, op'] [b, c] pos) (tT Z (sT (s3 o o' g h l))) :=
  PT.imp (pt_chain ho ho' ha hb hc hm) fun σ H Q q => t_chain ok ok' σ H _ (t_test σ H Q q)
end

/-! ### and, or, not, if -/
section
variable {a b c : Expr} {rest : List Expr} {pos : Pos} {t u : ST} {f g : SE}
def sAnd (t u : ST) : ST := fun ρ Q => t ρ fun c ρ1 => if c = true then u ρ1 Q else Q false ρ1
def sOr (t u : ST) : ST := fun ρ Q => t ρ fun c ρ1 => if c = true then Q true ρ1 else u ρ1 Q
def sNot (t : ST) : ST := fun ρ Q => t ρ fun c ρ1 => Q (!c) ρ1
theorem ew_and1 (ha : PT X a (tT Z t)) : PW X (.BoolOp .And [a] pos) (tT Z t) := pw_and1 ha
theorem ew_or1 (ha : PT X a (tT Z t)) : PW X (.BoolOp .Or [a] pos) (tT Z t) := pw_or1 ha
theorem ew_and (ha : PT X a (tT Z t)) (hb : PW X (.BoolOp .And (b :: rest) pos) (tT Z u)) : PW X (.BoolOp .And (a :: b :: rest) pos) (tT Z (sAnd t u)) := by
  refine PW.imp (pw_and ha hb) fun σ H Q ⟨G, ρ, Q', R, h, q⟩ => ⟨G, ρ, _, R, h, fun c G1 ρ1 H1 le1 R1 hq => ?_⟩
  cases c with
  | true => exact iteT ⟨G1, ρ1, Q', R1, by simpa using hq, fun d G2 ρ2 H2 le2 R2 hq2 => q d G2 ρ2 H2 (le1.trans le2) R2 hq2⟩
  | false => exact iteF (q false G1 ρ1 H1 le1 R1 (by simpa using hq))
theorem ew_or (ha : PT X a (tT Z t)) (hb : PW X (.BoolOp .Or (b :: rest) pos) (tT Z u)) : PW X (.BoolOp .Or (a :: b :: rest) pos) (tT Z (sOr t u)) := by
  refine PW.imp (pw_or ha hb) fun σ H Q ⟨G, ρ, Q', R, h, q⟩ => ⟨G, ρ, _, R, h, fun c G1 ρ1 H1 le1 R1 hq => ?_⟩
  cases c with
  | false => exact iteF ⟨G1, ρ1, Q', R1, by simpa using hq, fun d G2 ρ2 H2 le2 R2 hq2 => q d G2 ρ2 H2 (le1.trans le2) R2 hq2⟩
  | true => exact iteT (q true G1 ρ1 H1 le1 R1 (by simpa using hq))
theorem et_not (ha : PT X a (tT Z t)) : PT X (.UnaryOp .Not a pos) (tT Z (sNot t)) := by
  refine PT.imp (pt_not ha) fun σ H Q ⟨G, ρ, Q', R, h, q⟩ => ⟨G, ρ, _, R, h, fun c G1 ρ1 H1 le1 R1 hq => q (!c) G1 ρ1 H1 le1 R1 hq⟩
/-- as values: all bools -/
def vB (f : SE) (k : Rho → Bool → (Vl → Rho → Prop) → Prop) : SE := fun ρ Q => f ρ fun v ρ1 => match v with | .im (.bool c) => k ρ1 c Q | _ => False
def sAndV (f g : SE) : SE := vB f fun ρ c Q => if c = true then g ρ Q else Q (.im (.bool false)) ρ
def sOrV (f g : SE) : SE := vB f fun ρ c Q => if c = true then Q (.im (.bool true)) ρ else g ρ Q
def sNotV (f : SE) : SE := vB f fun ρ c Q => Q (.im (.bool (!c))) ρ
theorem vB_ok {k : Rho → Bool → (Vl → Rho → Prop) → Prop} {kk : Bool → St → Hp → VK → Prop}
    (h : ∀ (G : Gs) (ρ : Rho) (c : Bool) (σ : St) (H : Hp) (Q : VK) (Q' : Vl → Rho → Prop), Rel Z G ρ σ H → k ρ c Q' → (∀ v G' ρ' H' val, G.le G' → Rel Z G' ρ' σ H' → VlOk G' H' ρ'.c σ val v → Q' val ρ' → Q v H') → kk c σ H Q) :
    ∀ σ H Q, tE Z (vB f k) σ H Q → tE Z f σ H fun x H1 => ∃ c, x = .bl c ∧ kk c σ H1 Q := fun σ H Q ⟨G, ρ, Q', R, hh, q⟩ => by
  refine ⟨G, ρ, _, R, hh, fun v G1 ρ1 H1 val le1 R1 vo hq => ?_⟩
  split at hq
  · rename_i c
    have t : Dt G1.B v (.bool c) := vo
    cases t
    exact ⟨c, rfl, h G1 ρ1 c σ H1 Q Q' R1 hq fun v G' ρ' H' val le R' vo hv => q v G' ρ' H' val (le1.trans le) R' vo hv⟩
  · exact hq.elim
theorem ev_one {op : BoolOp} (h : PE X a (tE Z f)) : PE X (.BoolOp op [a] pos) (tE Z f) := pe_one h
theorem ev_and (ha : PE X a (tE Z f)) (hb : PE X (.BoolOp .And (b :: rest) pos) (tE Z g)) : PE X (.BoolOp .And (a :: b :: rest) pos) (tE Z (sAndV f g)) := by
  refine PE.imp (pe_and ha hb) (vB_ok (kk := fun c σ H Q => if c = true then tE Z g σ H Q else Q (.bl false) H) fun G ρ c σ H Q Q' R h q => ?_)
  cases c with
  | true => exact iteT ⟨G, ρ, Q', R, by simpa using h, q⟩
  | false => exact iteF (q _ G ρ H (.im (.bool false)) (.refl G) R (.bl false) (by simpa using h))
theorem ev_or (ha : PE X a (tE Z f)) (hb : PE X (.BoolOp .Or (b :: rest) pos) (tE Z g)) : PE X (.BoolOp .Or (a :: b :: rest) pos) (tE Z (sOrV f g)) := by
  refine PE.imp (pe_or ha hb) (vB_ok (kk := fun c σ H Q => if c = true then Q (.bl true) H else tE Z g σ H Q) fun G ρ c σ H Q Q' R h q => ?_)
  cases c with
  | false => exact iteF ⟨G, ρ, Q', R, by simpa using h, q⟩
  | true => exact iteT (q _ G ρ H (.im (.bool true)) (.refl G) R (.bl true) (by simpa using h))
theorem ev_not (ha : PE X a (tE Z f)) : PE X (.UnaryOp .Not a pos) (tE Z (sNotV f)) := by
  refine PE.imp (pe_not ha) (vB_ok (kk := fun c σ H Q => Q (.bl (!c)) H) fun G ρ c σ H Q Q' R h q => ?_)
  exact q _ G ρ H (.im (.bool (!c))) (.refl G) R (.bl _) h
def sIf (t : ST) (f g : SE) : SE := fun ρ Q => t ρ fun c ρ1 => if c = true then f ρ1 Q else g ρ1 Q
theorem ev_ifExp (hc : PT X c (tT Z t)) (ha : PE X a (tE Z f)) (hb : PE X b (tE Z g)) : PE X (.IfExp c a b pos) (tE Z (sIf t f g)) := by
  refine PE.imp (pe_ifExp hc ha hb) fun σ H Q ⟨G, ρ, Q', R, h, q⟩ => ⟨G, ρ, _, R, h, fun c G1 ρ1 H1 le1 R1 hq => ?_⟩
  cases c with
  | true => exact iteT ⟨G1, ρ1, Q', R1, by simpa using hq, fun v G2 ρ2 H2 val le2 R2 vo hq2 => q v G2 ρ2 H2 val (le1.trans le2) R2 vo hq2⟩
  | false => exact iteF ⟨G1, ρ1, Q', R1, by simpa using hq, fun v G2 ρ2 H2 val le2 R2 vo hq2 => q v G2 ρ2 H2 val (le1.trans le2) R2 vo hq2⟩
end
end Dv

/-! DvC: readings by data: targets, statements, loops. -/
namespace Dv
open PySem PySem.Spec L2
open PyProof.Rows hiding St

variable {Z : Zx} {X : Cx}

/-! ### targets -/
abbrev SG := Vl → Rho → (Rho → Prop) → Prop
abbrev SGs := List D → Rho → (Rho → Prop) → Prop
def tG (Z : Zx) (g : SG) : TG := fun v σ H Q => ∃ G ρ val Q', Rel Z G ρ σ H ∧ VlOk G H ρ.c σ val v ∧ g val ρ Q' ∧ ∀ G' ρ' σ' H', G.le G' → Rel Z G' ρ' σ' H' → Q' ρ' → Q σ' H'
def tGs (Z : Zx) (g : SGs) : TGs := fun vs σ H Q => ∃ G ρ ds Q', Rel Z G ρ σ H ∧ DtA G.B vs ds ∧ g ds ρ Q' ∧ ∀ G' ρ' σ' H', G.le G' → Rel Z G' ρ' σ' H' → Q' ρ' → Q σ' H'
theorem PG.imp {e : Expr} {t t' : TG} (h : PG X e t) (i : ∀ v σ H Q, t' v σ H Q → t v σ H Q) : PG X e t' := ⟨fun pins s σ H v u Q I r q => h.run pins s σ H v u Q I r (i v σ H Q q)⟩

def cellOf (v : Vl) : Cell := match v with
  | .im d => .im d
  | .fr ds => .mu ds
  | .fd => .fd
/-- a slot takes a value -/
theorem RelC.store {G : Gs} {ρ : List Cell} {σ : St} {H : Hp} {val : Vl} {v : V} (i : Nat) (R : RelC G ρ σ H) (h : VlOk G H ρ σ val v) : RelC G (ρ.set i (cellOf val)) (σ.set i (some v)) H where
  same := R.same
  same0 := R.same0
  old := R.old
  newB := R.newB
  len := by simp [R.len]
  cells := fun j c o e1 e2 => by
    rcases getElem?_set_cases e1 with ⟨e3, e4⟩ | ⟨ne, e3⟩
    · subst e3
      rcases getElem?_set_cases e2 with ⟨_, e5⟩ | ⟨ne, _⟩
      · subst e4 e5
        cases val with
        | im d => exact ⟨v, rfl, h⟩
        | fr ds =>
          obtain ⟨p, vs, rfl, a, b, c, d, e, _⟩ := h
          exact ⟨p, vs, rfl, a, b, c, d, e⟩
        | fd =>
          obtain ⟨p, rfl, f⟩ := h
          exact ⟨p, rfl, f⟩
      · exact absurd rfl ne
    · rcases getElem?_set_cases e2 with ⟨e5, _⟩ | ⟨_, e5⟩
      · exact absurd e5 ne
      · exact R.cells j c o e3 e5
  dist := fun j k p ds es ne e1 e2 e3 e4 => by
    have key : ∀ (a b : Nat) (d1 d2 : List D), a ≠ b → i = a → cellOf val = .mu d1 → (ρ.set i (cellOf val))[b]? = some (.mu d2) → (σ.set i (some v))[a]? = some (some (.ref p)) → (σ.set i (some v))[b]? = some (some (.ref p)) → False := fun a b d1 d2 nab ia hc hb ha hb2 => by
      subst ia
      rcases getElem?_set_cases hb with ⟨z, _⟩ | ⟨_, hb'⟩
      · exact nab z
      rcases getElem?_set_cases hb2 with ⟨z, _⟩ | ⟨_, hb2'⟩
      · exact nab z
      rcases getElem?_set_cases ha with ⟨_, ev⟩ | ⟨z, _⟩
      · cases val with
        | im d => cases hc
        | fd => cases hc
        | fr xs =>
          obtain ⟨q, vs, e, _, _, _, _, _, hm, _⟩ := h
          subst e
          cases ev
          exact hm b d2 hb' hb2'
      · exact z rfl
    rcases getElem?_set_cases e1 with ⟨ij, c1⟩ | ⟨nij, e1'⟩
    · exact key j k ds es ne ij c1 e2 e3 e4
    · rcases getElem?_set_cases e2 with ⟨ik, c2⟩ | ⟨nik, e2'⟩
      · exact key k j es ds (Ne.symm ne) ik c2 e1 e4 e3
      · rw [List.getElem?_set_ne nij] at e3
        rw [List.getElem?_set_ne nik] at e4
        exact R.dist j k p ds es ne e1' e2' e3 e4
  feed := R.feed
  priv := fun p o e => by
    obtain ⟨h1, h2, h3, h4, h5⟩ := R.priv p o e
    refine ⟨h1, h2, h3, h4, fun j es e1 e2 => ?_⟩
    rcases getElem?_set_cases e1 with ⟨ij, c1⟩ | ⟨nij, e1'⟩
    · subst ij
      rcases getElem?_set_cases e2 with ⟨_, ev⟩ | ⟨z, _⟩
      · cases val with
        | im d => cases c1
        | fd => cases c1
        | fr xs =>
          obtain ⟨q, vs, e3, _, _, _, _, _, _, hr⟩ := h
          subst e3
          cases ev
          exact hr o e
      · exact z rfl
    · rw [List.getElem?_set_ne nij] at e2
      exact h5 j es e1' e2
  fa0 := R.fa0

def sgName (i : Nat) : SG := fun v ρ Q => Q ⟨ρ.c.set i (cellOf v), ρ.x⟩
def sgNil : SGs := fun ds ρ Q => match ds with | [] => Q ρ | _ => False
def sgCons (g : SG) (gs : SGs) : SGs := fun ds ρ Q => match ds with | d :: r => g (.im d) ρ fun ρ' => gs r ρ' Q | _ => False
def sgTup (n : Nat) (gs : SGs) : SG := fun v ρ Q => fz v fun d => match d with | .tuple ds => ds.length = n ∧ gs ds ρ Q | _ => False
/-- our target's words for the target g0 of HandS; nothing but the slots own is stored -/
structure GTok (own : List Nat) (g0 : TG) (sg : SG) : Prop where
  imp : ∀ (Z : Zx) v σ H Q, tG Z sg v σ H Q → g0 v σ H Q
  keep : ∀ v σ H Q, g0 v σ H Q → g0 v σ H fun σ' H' => Q σ' H' ∧ wipe σ' own = wipe σ own
  mono : ∀ v σ H (Q Q' : St → Hp → Prop), (∀ σ H, Q σ H → Q' σ H) → g0 v σ H Q → g0 v σ H Q'
structure GTsok (own : List Nat) (g0 : TGs) (sg : SGs) : Prop where
  imp : ∀ (Z : Zx) v σ H Q, tGs Z sg v σ H Q → g0 v σ H Q
  keep : ∀ v σ H Q, g0 v σ H Q → g0 v σ H fun σ' H' => Q σ' H' ∧ wipe σ' own = wipe σ own
  mono : ∀ v σ H (Q Q' : St → Hp → Prop), (∀ σ H, Q σ H → Q' σ H) → g0 v σ H Q → g0 v σ H Q'
theorem wipe_set_own {σ : St} {i : Nat} {v : Option V} : ∀ {own : List Nat}, i ∈ own → wipe (σ.set i v) own = wipe σ own
  | j :: own, h => by
    unfold wipe
    rcases List.mem_cons.mp h with rfl | h
    · by_cases hi : i ∈ own
      · rw [wipe_set_own hi]
      · have : wipe (σ.set i v) own = (wipe σ own).set i v := by
          clear h
          induction own with
          | nil => rfl
          | cons k r ih =>
            simp only [List.mem_cons, not_or] at hi
            unfold wipe
            rw [ih hi.2, List.set_comm _ _ hi.1]
        rw [this, List.set_set]
    · rw [wipe_set_own h]
theorem GTok.name {own : List Nat} (i : Nat) (h : i ∈ own := by decide) : GTok own (gName i) (sgName i) where
  imp := fun Z v σ H Q ⟨G, ρ, val, Q', R, vo, g, q⟩ => q G _ _ H (.refl G) (R.up (.refl G) (R.rc.store i vo)) g
  keep := fun v σ H Q q => ⟨q, wipe_set_own h⟩
  mono := fun v σ H Q Q' i q => i _ _ q
theorem GTsok.nil {own : List Nat} : GTsok own gNil sgNil where
  imp := fun Z vs σ H Q ⟨G, ρ, ds, Q', R, t, g, q⟩ => by
    cases t with
    | nil => exact ⟨rfl, q G ρ σ H (.refl G) R g⟩
    | cons a b => exact g.elim
  keep := fun v σ H Q ⟨e, q⟩ => ⟨e, q, rfl⟩
  mono := fun v σ H Q Q' i ⟨e, q⟩ => ⟨e, i _ _ q⟩
theorem GTsok.cons {own : List Nat} {g0 : TG} {gs0 : TGs} {sg : SG} {sgs : SGs} (a : GTok own g0 sg) (b : GTsok own gs0 sgs) : GTsok own (gCons g0 gs0) (sgCons sg sgs) where
  imp := fun Z vs σ H Q ⟨G, ρ, ds, Q', R, t, g, q⟩ => by
    cases t with
    | nil => exact g.elim
    | @cons v vs d ds h t =>
      refine ⟨v, vs, rfl, a.imp Z v σ H _ ⟨G, ρ, .im d, _, R, h, g, fun G1 ρ1 σ1 H1 le1 R1 h1 => ?_⟩⟩
      exact b.imp Z vs σ1 H1 Q ⟨G1, ρ1, ds, Q', R1, t.mono le1.same, h1, fun G2 ρ2 σ2 H2 le2 R2 h2 => q G2 ρ2 σ2 H2 (le1.trans le2) R2 h2⟩
  keep := fun vs σ H Q ⟨v, r, e, h⟩ => by
    refine ⟨v, r, e, a.mono v σ H _ _ (fun σ1 H1 q => ?_) (a.keep v σ H _ h)⟩
    exact b.mono r σ1 H1 _ _ (fun σ2 H2 q2 => ⟨q2.1, q2.2.trans q.2⟩) (b.keep r σ1 H1 _ q.1)
  mono := fun vs σ H Q Q' i ⟨v, r, e, h⟩ => ⟨v, r, e, a.mono v σ H _ _ (fun σ1 H1 q => b.mono r σ1 H1 _ _ i q) h⟩
theorem GTok.tup {own : List Nat} {K : PySem.W.Frag} {n : Nat} {gs0 : TGs} {sgs : SGs} (b : GTsok own gs0 sgs) : GTok own (gTup K n gs0) (sgTup n sgs) where
  imp := fun Z v σ H Q ⟨G, ρ, val, Q', R, vo, g, q⟩ => by
    obtain ⟨G1, d, le1, R1, t, hk⟩ := R.fz vo g
    cases t with
    | @tup a vs ds e ta =>
      exact ⟨a, vs, rfl, SqT.of (R1.rc.same _ _ e), ta.length.trans hk.1, b.imp Z vs σ H Q ⟨G1, ρ, ds, Q', R1, ta, hk.2, fun G2 ρ2 σ2 H2 le2 R2 h2 => q G2 ρ2 σ2 H2 (le1.trans le2) R2 h2⟩⟩
    | _ => exact hk.elim
  keep := fun v σ H Q ⟨a, xs, e, h1, h2, h⟩ => ⟨a, xs, e, h1, h2, b.keep xs σ H _ h⟩
  mono := fun v σ H Q Q' i ⟨a, xs, e, h1, h2, h⟩ => ⟨a, xs, e, h1, h2, b.mono xs σ H _ _ i h⟩
theorem eg_of {tg : Expr} {g0 : TG} {own : List Nat} {sg : SG} (h : PG X tg g0) (ok : GTok own g0 sg) : PG X tg (tG Z sg) := PG.imp h fun v σ H Q q => ok.imp Z v σ H Q q

/-! ### statements -/
structure DE where
  nx : Rho → Prop
  rt : Vl → Rho → Prop
  bk : Rho → Prop := fun _ => False
  ct : Rho → Prop := fun _ => False
abbrev SS := Rho → DE → Prop
structure Lnk (Z : Zx) (G : Gs) (E : DE) (D : Ends) : Prop where
  nx : ∀ G' ρ' σ' H', G.le G' → Rel Z G' ρ' σ' H' → E.nx ρ' → D.nx σ' H'
  rt : ∀ G' ρ' σ' H' v val, G.le G' → Rel Z G' ρ' σ' H' → VlOk G' H' ρ'.c σ' val v → E.rt val ρ' → D.rt v H'
  bk : ∀ G' ρ' σ' H', G.le G' → Rel Z G' ρ' σ' H' → E.bk ρ' → D.bk σ' H'
  ct : ∀ G' ρ' σ' H', G.le G' → Rel Z G' ρ' σ' H' → E.ct ρ' → D.ct σ' H'
theorem Lnk.up {G G' : Gs} {E : DE} {D : Ends} (l : Lnk Z G E D) (le : G.le G') : Lnk Z G' E D :=
  ⟨fun G2 ρ σ H le2 => l.nx G2 ρ σ H (le.trans le2), fun G2 ρ σ H v val le2 => l.rt G2 ρ σ H v val (le.trans le2), fun G2 ρ σ H le2 => l.bk G2 ρ σ H (le.trans le2), fun G2 ρ σ H le2 => l.ct G2 ρ σ H (le.trans le2)⟩
def tS (Z : Zx) (f : SS) : TS := fun D σ H => ∃ G ρ E, Rel Z G ρ σ H ∧ f ρ E ∧ Lnk Z G E D
theorem PS.imp {st : Stmt} {t t' : TS} (h : PS X st t) (i : ∀ D σ H, t' D σ H → t D σ H) : PS X st t' := ⟨fun pins s σ H D I q => h.run pins s σ H D I (i D σ H q)⟩
theorem PSs.imp {st : List Stmt} {t t' : TS} (h : PSs X st t) (i : ∀ D σ H, t' D σ H → t D σ H) : PSs X st t' := ⟨fun pins s σ H D I q => h.run pins s σ H D I (i D σ H q)⟩

section
variable {st : Stmt} {rest : List Stmt} {e : Expr} {pos : Pos} {f : SE} {a b : SS} {t : ST}
def sNext : SS := fun ρ E => E.nx ρ
def sSeq (a b : SS) : SS := fun ρ E => a ρ { E with nx := fun ρ' => b ρ' E }
theorem es_nil : PSs X [] (tS Z sNext) := PSs.imp pss_nil fun D σ H ⟨G, ρ, E, R, h, l⟩ => l.nx G ρ σ H (.refl G) R h
theorem es_cons (h1 : PS X st (tS Z a)) (h2 : PSs X rest (tS Z b)) : PSs X (st :: rest) (tS Z (sSeq a b)) :=
  PSs.imp (pss_cons h1 h2) fun D σ H ⟨G, ρ, E, R, h, l⟩ => ⟨G, ρ, _, R, h, ⟨fun G' ρ' σ' H' le R' h' => ⟨G', ρ', E, R', h', l.up le⟩, l.rt, l.bk, l.ct⟩⟩
theorem es_one (h1 : PS X st (tS Z a)) : PSs X [st] (tS Z a) := pss_one h1
def sBreak : SS := fun ρ E => E.bk ρ
def sCont : SS := fun ρ E => E.ct ρ
theorem es_pass : PS X (.Pass pos) (tS Z sNext) := PS.imp ps_pass fun D σ H ⟨G, ρ, E, R, h, l⟩ => l.nx G ρ σ H (.refl G) R h
theorem es_break : PS X (.Break pos) (tS Z sBreak) := PS.imp ps_break fun D σ H ⟨G, ρ, E, R, h, l⟩ => l.bk G ρ σ H (.refl G) R h
theorem es_continue : PS X (.Continue pos) (tS Z sCont) := PS.imp ps_continue fun D σ H ⟨G, ρ, E, R, h, l⟩ => l.ct G ρ σ H (.refl G) R h
def sDrop (f : SE) : SS := fun ρ E => f ρ fun _ ρ1 => E.nx ρ1
theorem es_expr (he : PE X e (tE Z f)) (hs : swapsWith e none pos.line X.env = pure false := by rfl) : PS X (.Expr e pos) (tS Z (sDrop f)) :=
  PS.imp (ps_expr he hs) fun D σ H ⟨G, ρ, E, R, h, l⟩ => ⟨G, ρ, _, R, h, fun v G' ρ' H' val le R' vo hq => l.nx G' ρ' σ H' le R' hq⟩
def sRet (f : SE) : SS := fun ρ E => f ρ fun v ρ' => E.rt v ρ'
theorem es_ret (he : PE X e (tE Z f)) : PS X (.Return (some e) pos) (tS Z (sRet f)) :=
  PS.imp (ps_ret he) fun D σ H ⟨G, ρ, E, R, h, l⟩ => ⟨G, ρ, _, R, h, fun v G' ρ' H' val le R' vo hq => l.rt G' ρ' σ H' v val le R' vo hq⟩
/-- return of a name: its list is handed on as a new one -/
def sRetV (i : Nat) : SS := fun ρ E => match ρ.c[i]? with
  | some (.im d) => E.rt (.im d) ρ
  | some (.mu ds) => E.rt (.fr ds) ⟨ρ.c.set i .un, ρ.x⟩
  | _ => False
theorem es_retV (i : Nat) {x : Str} {p : Pos} (hN : X.N[i]? = some x := by rfl) (hv : Vis X.env.scope x := by first | exact Or.inl rfl | exact Or.inr (Or.inl rfl) | exact Or.inr (Or.inr rfl)) (hd : (x == ("__debug__" : Str)) = false := by decide)
    (hcd : (x == ("__classdict__" : Str)) = false := by decide) : PS X (.Return (some (.Name x p)) pos) (tS Z (sRetV i)) := by
  refine PS.imp (ps_ret (pe_var hN hv hd hcd)) fun D σ H ⟨G, ρ, E, R, h, l⟩ => ?_
  have hl : ∀ {c : Cell}, ρ.c[i]? = some c → ∃ o, σ[i]? = some o := fun {c} e => by
    have h1 : i < ρ.c.length := (List.getElem?_eq_some_iff.mp e).1
    rw [R.rc.len] at h1
    exact ⟨_, List.getElem?_eq_getElem h1⟩
  unfold sRetV at h
  split at h
  · rename_i d e
    obtain ⟨o, eo⟩ := hl e
    obtain ⟨v, e2, t⟩ := R.rc.cells i _ _ e eo
    subst e2
    exact ⟨v, eo, l.rt G ρ σ H v (.im d) (.refl G) R t h⟩
  · rename_i ds e
    obtain ⟨o, eo⟩ := hl e
    obtain ⟨p, vs, e2, hB, h0, hf, hp, t⟩ := R.rc.cells i _ _ e eo
    subst e2
    have hr : NoPr G p := fun o e' => (R.rc.priv p o e').2.2.2.2 i ds e eo
    have R1 : RelC G (ρ.c.set i .un) σ H := R.rc.weak (by simp) fun j c' e => by
      rcases getElem?_set_cases e with ⟨_, e2⟩ | ⟨_, e2⟩
      · exact .inl e2.symm
      · exact .inr e2
    have hm : NoMu (ρ.c.set i .un) σ p := fun j es e1 e2 => by
      rcases getElem?_set_cases e1 with ⟨_, e3⟩ | ⟨ne, e3⟩
      · cases e3
      · exact R.rc.dist i j p ds es ne e e3 eo e2
    exact ⟨_, eo, l.rt G ⟨ρ.c.set i .un, ρ.x⟩ σ H _ (.fr ds) (.refl G) (R.up (.refl G) R1) ⟨p, vs, rfl, hB, h0, hf, hp, t, hm, hr⟩ h⟩
  · exact h.elim
def sRetN : SS := fun ρ E => E.rt (.im .none) ρ
theorem es_retN : PS X (.Return none pos) (tS Z sRetN) := PS.imp ps_retN fun D σ H ⟨G, ρ, E, R, h, l⟩ => l.rt G ρ σ H .non (.im .none) (.refl G) R .non h
def sIfS (t : ST) (a b : SS) : SS := fun ρ E => t ρ fun c ρ1 => if c = true then a ρ1 E else b ρ1 E
theorem es_if {c : Expr} {xs ys : List Stmt} (hc : PT X c (tT Z t)) (ha : PSs X xs (tS Z a)) (hb : PSs X ys (tS Z b)) : PS X (.If c xs ys pos) (tS Z (sIfS t a b)) := by
  refine PS.imp (ps_if hc ha hb) fun D σ H ⟨G, ρ, E, R, h, l⟩ => ⟨G, ρ, _, R, h, fun c G1 ρ1 H1 le1 R1 hq => ?_⟩
  cases c with
  | true => exact iteT ⟨G1, ρ1, E, R1, by simpa using hq, l.up le1⟩
  | false => exact iteF ⟨G1, ρ1, E, R1, by simpa using hq, l.up le1⟩
def sAsg (f : SE) (g : SG) : SS := fun ρ E => f ρ fun v ρ1 => g v ρ1 E.nx
theorem t_asg {g0 : TG} {own : List Nat} {g : SG} (ok : GTok own g0 g) {te : TE} (he : ∀ σ H Q, tE Z f σ H Q → te σ H Q) : ∀ D σ H, tS Z (sAsg f g) D σ H → tAsg te g0 D σ H := fun D σ H ⟨G, ρ, E, R, h, l⟩ =>
  he σ H _ ⟨G, ρ, _, R, h, fun v G1 ρ1 H1 val le1 R1 vo hq => ok.imp Z v σ H1 _ ⟨G1, ρ1, val, _, R1, vo, hq, fun G2 ρ2 σ2 H2 le2 R2 h2 => l.nx G2 ρ2 σ2 H2 (le1.trans le2) R2 h2⟩⟩
theorem es_asg {tg : Expr} {g0 : TG} {own : List Nat} {g : SG} (he : PE X e (tE Z f)) (hg : PG X tg g0) (ok : GTok own g0 g) (hs : swapsWithSole [tg] e pos.line X.env = pure false := by rfl) (hw : swappedStores [tg] e X.env = pure none := by rfl)
    (h1 : (assignEach [tg] X.env).map (·.2) = [assign tg X.env] := by rfl) : PS X (.Assign [tg] e pos) (tS Z (sAsg f g)) :=
  PS.imp (ps_asg he hg hs hw h1) (t_asg ok fun σ H Q q => q)
theorem es_set {x : Str} {pos' : Pos} (i : Nat) (hN : X.N.Nodup) (he : PE X e (tE Z f)) (hi : X.N[i]? = some x := by rfl) (hx : Loc X.env.scope x := by first | exact Or.inl rfl | exact Or.inr rfl) (hs : swapsWith e (some (.Name x pos')) pos.line X.env = pure false := by rfl)
    (hf : X.fn x = true ∨ X.env.scope.names.lookup x = some .local := by first | exact .inl rfl | exact .inr rfl) : PS X (.Assign [.Name x pos'] e pos) (tS Z (sAsg f (sgName i))) :=
  PS.imp (ps_set (i := i) hN hi hx he hs hf) (t_asg (GTok.name (own := [i]) i (by simp)) fun σ H Q q => q)
end

/-! ### loops -/
abbrev SI := Rho → (List D → Rho → Prop) → Prop
/-- an iterator of HandS gives the data ds -/
structure Src (Z : Zx) (G : Gs) (J : It) (ds : List D) : Prop where
  ok : ∃ (Gp : Hp → Prop) (Y : Nat → Hp → V → Hp → Prop), Walk J ds.length Gp Y ∧ (∀ G' ρ σ H, Same G.B G'.B → Rel Z G' ρ σ H → Gp H) ∧
    ∀ i x G' ρ σ H H', Same G.B G'.B → Rel Z G' ρ σ H → i < ds.length → Y i H x H' → ∃ G'' d, G'.le G'' ∧ Rel Z G'' ρ σ H' ∧ ds[i]? = some d ∧ Dt G''.B x d
def tI (Z : Zx) (f : SI) : TI := fun σ H Rx => ∃ G ρ Q', Rel Z G ρ σ H ∧ f ρ Q' ∧ ∀ J G' ρ' H' ds, G.le G' → Rel Z G' ρ' σ H' → Src Z G' J ds → Q' ds ρ' → Rx J H'
theorem PI.imp {tg e : Expr} {t t' : TI} (h : PI X tg e t) (i : ∀ σ H Q, t' σ H Q → t σ H Q) : PI X tg e t' := ⟨fun pins s σ H Q I q => h.run pins s σ H Q I (i σ H Q q)⟩
def wLoop (step : D → SS) : List D → SS
  | [], ρ, E => E.nx ρ
  | d :: ds, ρ, E => step d ρ { E with nx := fun ρ' => wLoop step ds ρ' E, ct := fun ρ' => wLoop step ds ρ' E, bk := E.nx }
def sStep (g : SG) (b : SS) : D → SS := fun d ρ E => g (.im d) ρ fun ρ' => b ρ' E
def sFor (si : SI) (g : SG) (b : SS) : SS := fun ρ E => si ρ fun ds ρ1 => wLoop (sStep g b) ds ρ1 E
theorem drop_cons {α : Type} {l : List α} {i : Nat} {d : α} (h : l[i]? = some d) : l.drop i = d :: l.drop (i + 1) := by
  obtain ⟨h1, h2⟩ := List.getElem?_eq_some_iff.mp h
  rw [List.drop_eq_getElem_cons h1, h2]
theorem es_for {tg iter : Expr} {body : List Stmt} {si : SI} {g0 : TG} {own : List Nat} {g : SG} {b : SS} {pos : Pos} (hp : PassesOwn (model X.prog X.w) X.A X.env X.xe) (hc : X.calm = true) (hi : PI X tg iter (tI Z si)) (hg : PG X tg g0) (ok : GTok own g0 g) (hb : PSs X body (tS Z b))
    (hs : ∀ x, foldedSetIterable iter X.env x = pure x := by intro _; rfl) : PS X (.For tg iter body [] pos) (tS Z (sFor si g b)) := by
  refine PS.imp (ps_for hp hc hi hg hb hs) fun D σ H ⟨G, ρ, E, R, h, l⟩ => ?_
  refine ⟨G, ρ, _, R, h, fun J G1 ρ1 H1 ds le1 R1 src hq => ?_⟩
  obtain ⟨Gp, Y, wk, hG, hY⟩ := src.ok
  refine for_it wk (fun i σ H => ∃ G' ρ', G1.le G' ∧ Rel Z G' ρ' σ H ∧ wLoop (sStep g b) (ds.drop i) ρ' E) ⟨G1, ρ1, .refl G1, R1, hq⟩ (fun i σ H _ ⟨G', ρ', le, R', _⟩ => hG G' ρ' σ H le.same R') (fun i x σ H H' hi ⟨G', ρ', le, R', hw⟩ y => ?_) (fun σ H ⟨G', ρ', le, R', hw⟩ => ?_)
  · obtain ⟨G2, d, le2, R2, ed, t⟩ := hY i x G' ρ' σ H H' le.same R' hi y
    rw [drop_cons ed] at hw
    have hw : sStep g b d ρ' _ := hw
    refine ok.imp Z x σ H' _ ⟨G2, ρ', .im d, _, R2, t, hw, fun G3 ρ3 σ3 H3 le3 R3 h3 => ?_⟩
    refine ⟨G3, ρ3, _, R3, h3, ?_, ?_, ?_, ?_⟩
    · exact fun G4 ρ4 σ4 H4 le4 R4 h4 => ⟨G4, ρ4, ((le.trans le2).trans le3).trans le4, R4, h4⟩
    · exact fun G4 ρ4 σ4 H4 v val le4 R4 vo h4 => l.rt G4 ρ4 σ4 H4 v val ((((le1.trans le).trans le2).trans le3).trans le4) R4 vo h4
    · exact fun G4 ρ4 σ4 H4 le4 R4 h4 => l.nx G4 ρ4 σ4 H4 ((((le1.trans le).trans le2).trans le3).trans le4) R4 h4
    · exact fun G4 ρ4 σ4 H4 le4 R4 h4 => ⟨G4, ρ4, ((le.trans le2).trans le3).trans le4, R4, h4⟩
  · rw [List.drop_length] at hw
    exact l.nx G' ρ' σ H (le1.trans le) R' hw
/-- while: a word by a measure -/
def sWhile (t : ST) (b : SS) : SS := fun ρ E => ∃ Iv : Nat → Rho → Prop, (∃ m, Iv m ρ) ∧ ∀ m ρ, Iv m ρ → t ρ fun c ρ1 =>
  if c = true then b ρ1 { E with nx := fun ρ' => ∃ m', m' < m ∧ Iv m' ρ', ct := fun ρ' => ∃ m', m' < m ∧ Iv m' ρ', bk := E.nx } else E.nx ρ1
theorem es_while {c : Expr} {body : List Stmt} {t : ST} {b : SS} {pos : Pos} (hp : PassesOwn (model X.prog X.w) X.A X.env X.xe) (hc : PT X c (tT Z t)) (hb : PSs X body (tS Z b)) : PS X (.While c body [] pos) (tS Z (sWhile t b)) := by
  refine PS.imp (ps_while hp hc hb) fun D σ H ⟨G, ρ, E, R, ⟨Iv, ⟨m0, h0⟩, hs⟩, l⟩ => ?_
  refine ⟨fun m σ H => ∃ G' ρ', G.le G' ∧ Rel Z G' ρ' σ H ∧ Iv m ρ', ⟨m0, G, ρ, .refl G, R, h0⟩, fun m σ H ⟨G', ρ', le, R', hi⟩ => ?_⟩
  have h1 := hs m ρ' hi
  refine ⟨G', ρ', _, R', h1, fun c G1 ρ1 H1 le1 R1 hq => ?_⟩
  cases c with
  | true =>
    rw [if_pos rfl] at hq
    refine iteT ⟨fun σ H => ∃ m', m' < m ∧ ∃ G' ρ', G.le G' ∧ Rel Z G' ρ' σ H ∧ Iv m' ρ', fun σ' H' q => q, G1, ρ1, _, R1, hq, ?_, ?_, ?_, ?_⟩
    · exact fun G4 ρ4 σ4 H4 le4 R4 ⟨m', hm, h4⟩ => ⟨m', hm, G4, ρ4, (le.trans le1).trans le4, R4, h4⟩
    · exact fun G4 ρ4 σ4 H4 v val le4 R4 vo h4 => l.rt G4 ρ4 σ4 H4 v val ((le.trans le1).trans le4) R4 vo h4
    · exact fun G4 ρ4 σ4 H4 le4 R4 h4 => l.nx G4 ρ4 σ4 H4 ((le.trans le1).trans le4) R4 h4
    · exact fun G4 ρ4 σ4 H4 le4 R4 ⟨m', hm, h4⟩ => ⟨m', hm, G4, ρ4, (le.trans le1).trans le4, R4, h4⟩
  | false => exact iteF (l.nx G1 ρ1 σ H1 (le.trans le1) R1 (by simpa using hq))
end Dv

/-! DvD: readings by data: comprehensions, what is walked, calls, promises. -/
namespace Dv
open PySem PySem.Spec L2
open PyProof.Rows hiding St

variable {Z : Zx} {X : Cx}

/-! ### list comprehensions -/
def wipC (ρ : List Cell) : List Nat → List Cell
  | [] => ρ
  | v :: vs => (wipC ρ vs).set v .un
theorem wipC_length (ρ : List Cell) : ∀ vs, (wipC ρ vs).length = ρ.length
  | [] => rfl
  | v :: vs => by unfold wipC; rw [List.length_set, wipC_length ρ vs]
theorem wipC_cases {ρ : List Cell} {j : Nat} {c : Cell} : ∀ {vs : List Nat}, (wipC ρ vs)[j]? = some c → (j ∈ vs ∧ c = .un) ∨ (j ∉ vs ∧ ρ[j]? = some c)
  | [], h => .inr ⟨by simp, h⟩
  | v :: vs, h => by
    unfold wipC at h
    rcases getElem?_set_cases h with ⟨e1, e2⟩ | ⟨ne, h⟩
    · subst e1
      exact .inl ⟨by simp, e2.symm⟩
    · rcases wipC_cases h with ⟨a, b⟩ | ⟨a, b⟩
      · exact .inl ⟨List.mem_cons_of_mem _ a, b⟩
      · exact .inr ⟨by simp only [List.mem_cons, not_or]; exact ⟨fun e => ne e.symm, a⟩, b⟩
theorem wipe_out' {σ : St} {i : Nat} : ∀ {vs : List Nat}, i ∉ vs → (wipe σ vs)[i]? = σ[i]?
  | [], _ => rfl
  | v :: vs, h => by
    simp only [List.mem_cons, not_or] at h
    unfold wipe
    rw [List.getElem?_set_ne (fun e => h.1 e.symm), wipe_out' h.2]
theorem RelC.wipe {G : Gs} {ρ : List Cell} {σ : St} {H : Hp} (R : RelC G ρ σ H) (vs : List Nat) : RelC G (wipC ρ vs) (L2.wipe σ vs) H where
  same := R.same
  same0 := R.same0
  old := R.old
  newB := R.newB
  len := by rw [wipC_length, wipe_length, R.len]
  cells := fun i c o e1 e2 => by
    rcases wipC_cases e1 with ⟨_, b⟩ | ⟨a, b⟩
    · subst b
      trivial
    · rw [wipe_out' a] at e2
      exact R.cells i c o b e2
  dist := fun i j p ds es ne e1 e2 e3 e4 => by
    rcases wipC_cases e1 with ⟨_, b⟩ | ⟨a, b⟩
    · cases b
    · rcases wipC_cases e2 with ⟨_, b'⟩ | ⟨a', b'⟩
      · cases b'
      · rw [wipe_out' a] at e3
        rw [wipe_out' a'] at e4
        exact R.dist i j p ds es ne b b' e3 e4
  feed := R.feed
  priv := fun p o e => by
    obtain ⟨h1, h2, h3, h4, h5⟩ := R.priv p o e
    refine ⟨h1, h2, h3, h4, fun i ds e1 e2 => ?_⟩
    rcases wipC_cases e1 with ⟨_, b⟩ | ⟨a, b⟩
    · cases b
    · rw [wipe_out' a] at e2
      exact h5 i ds b e2
  fa0 := R.fa0
/-- behind a turn: the block's own slots as they were ahead (own lists there are forgotten) -/
def unw (ρ ρ' : List Cell) : List Nat → List Cell
  | [] => ρ'
  | v :: vs => (unw ρ ρ' vs).set v (match ρ[v]? with | some (.im d) => .im d | some .fd => .fd | _ => .un)
theorem unw_length (ρ ρ' : List Cell) : ∀ vs, (unw ρ ρ' vs).length = ρ'.length
  | [] => rfl
  | v :: vs => by unfold unw; rw [List.length_set, unw_length ρ ρ' vs]
theorem unw_cases {ρ ρ' : List Cell} {j : Nat} {c : Cell} : ∀ {vs : List Nat}, (unw ρ ρ' vs)[j]? = some c → (j ∈ vs ∧ (c = .un ∨ (ρ[j]? = some c ∧ ∀ ds, c ≠ .mu ds))) ∨ (j ∉ vs ∧ ρ'[j]? = some c)
  | [], h => .inr ⟨by simp, h⟩
  | v :: vs, h => by
    unfold unw at h
    rcases getElem?_set_cases h with ⟨e1, e2⟩ | ⟨ne, h⟩
    · subst e1
      refine .inl ⟨by simp, ?_⟩
      split at e2
      · rename_i d e
        exact .inr ⟨by rw [e, e2], fun ds z => by rw [← e2] at z; cases z⟩
      · rename_i e
        exact .inr ⟨by rw [e, e2], fun ds z => by rw [← e2] at z; cases z⟩
      · exact .inl e2.symm
    · rcases unw_cases h with ⟨a, b⟩ | ⟨a, b⟩
      · exact .inl ⟨List.mem_cons_of_mem _ a, b⟩
      · exact .inr ⟨by simp only [List.mem_cons, not_or]; exact ⟨fun e => ne e.symm, a⟩, b⟩
theorem RelC.unwipe {G G' : Gs} {ρ ρ' : List Cell} {σ σ' : St} {H H' : Hp} {vs : List Nat} (R : RelC G ρ σ H) (R' : RelC G' ρ' σ' H') (le : G.le G') (e : L2.wipe σ' vs = L2.wipe σ vs) (hl : σ'.length = σ.length) : RelC G' (unw ρ ρ' vs) σ H' where
  same := R'.same
  same0 := R'.same0
  old := R'.old
  newB := R'.newB
  len := by rw [unw_length, R'.len, hl]
  cells := fun i c o e1 e2 => by
    rcases unw_cases e1 with ⟨_, b | ⟨b, nm⟩⟩ | ⟨a, b⟩
    · subst b
      trivial
    · have := R.cells i c o b e2
      cases c with
      | un => trivial
      | im d =>
        obtain ⟨v, e, t⟩ := this
        exact ⟨v, e, t.mono le.same⟩
      | mu ds => exact absurd rfl (nm ds)
      | fd =>
        obtain ⟨p, e, f⟩ := this
        exact ⟨p, e, le.fa p f⟩
    · have e3 : σ'[i]? = σ[i]? := by rw [← wipe_out' a, e, wipe_out' a]
      exact R'.cells i c o b (e3.trans e2)
  dist := fun i j p ds es ne e1 e2 e3 e4 => by
    rcases unw_cases e1 with ⟨_, b | ⟨b, nm⟩⟩ | ⟨a, b⟩
    · cases b
    · exact nm ds rfl
    · rcases unw_cases e2 with ⟨_, b' | ⟨b', nm'⟩⟩ | ⟨a', b'⟩
      · cases b'
      · exact nm' es rfl
      · have e5 : σ'[i]? = σ[i]? := by rw [← wipe_out' a, e, wipe_out' a]
        have e6 : σ'[j]? = σ[j]? := by rw [← wipe_out' a', e, wipe_out' a']
        exact R'.dist i j p ds es ne b b' (e5.trans e3) (e6.trans e4)
  feed := R'.feed
  priv := fun p o he => by
    obtain ⟨h1, h2, h3, h4, h5⟩ := R'.priv p o he
    refine ⟨h1, h2, h3, h4, fun i ds e1 e2 => ?_⟩
    rcases unw_cases e1 with ⟨_, b | ⟨b, nm⟩⟩ | ⟨a, b⟩
    · cases b
    · exact nm ds rfl
    · have e5 : σ'[i]? = σ[i]? := by rw [← wipe_out' a, e, wipe_out' a]
      exact h5 i ds b (e5.trans e2)
  fa0 := R'.fa0
def wComp (own : List Nat) (turn : D → Rho → (Option D → Rho → Prop) → Prop) : List D → Rho → (List D → Rho → Prop) → Prop
  | [], ρ, Q => Q [] ρ
  | d :: ds, ρ, Q => turn d ⟨wipC ρ.c own, ρ.x⟩ fun r ρ' => match r with
    | some y => wComp own turn ds ⟨unw ρ.c ρ'.c own, ρ.x⟩ fun out ρ3 => Q (y :: out) ρ3
    | none => wComp own turn ds ⟨unw ρ.c ρ'.c own, ρ.x⟩ Q
def sYes : ST := fun ρ Q => Q true ρ
def sTurn (g : SG) (t : ST) (f : SE) : D → Rho → (Option D → Rho → Prop) → Prop := fun d ρ k => g (.im d) ρ fun ρ2 => t ρ2 fun b ρ3 => if b = true then f ρ3 fun v ρ4 => fz v fun y => k (some y) ρ4 else k none ρ3
def sLc (own : List Nat) (si : SI) (g : SG) (t : ST) (f : SE) : SE := fun ρ Q => si ρ fun ds ρ1 => ds.length ≤ 16777216 ∧ wComp own (sTurn g t f) ds ρ1 fun out ρ2 => Q (.fr out) ρ2

abbrev Gs.pri (G : Gs) (l : List (Addr × HO)) : Gs := { G with pr := l }
theorem RelC.addPr {G : Gs} {ρ : List Cell} {σ : St} {H : Hp} {p : Addr} {o : HO} (R : RelC G ρ σ H) (h : H p = none) : RelC (G.pri ((p, o) :: G.pr)) ρ σ (upd H p o) := by
  obtain ⟨a, b, c, d, e⟩ := R.free h
  have R1 := R.alloc (o := o) h
  refine ⟨R1.same, R1.same0, R1.old, R1.newB, R1.len, R1.cells, R1.dist, R1.feed, fun q u hq => ?_, R1.fa0⟩
  rcases List.mem_cons.mp hq with z | z
  · cases z
    exact ⟨upd_same, a, b, c, d⟩
  · exact R1.priv q u z
theorem RelC.putPr {G : Gs} {ρ : List Cell} {σ : St} {H : Hp} {p : Addr} {o o' : HO} {l : List (Addr × HO)} (R : RelC G ρ σ H) (e : G.pr = (p, o) :: l) (hr : ∀ o, (p, o) ∉ l) : RelC (G.pri ((p, o') :: l)) ρ σ (upd H p o') := by
  obtain ⟨h1, h2, h3, h4, h5⟩ := R.priv p o (by rw [e]; exact List.mem_cons_self ..)
  have R1 : RelC (G.pri l) ρ σ H := ⟨R.same, R.same0, R.old, R.newB, R.len, R.cells, R.dist, R.feed, fun q u hq => R.priv q u (by rw [e]; exact List.mem_cons_of_mem _ hq), R.fa0⟩
  have R2 := R1.put (o := o') h2 h3 h4 h5 hr
  refine ⟨R2.same, R2.same0, R2.old, R2.newB, R2.len, R2.cells, R2.dist, R2.feed, fun q u hq => ?_, R2.fa0⟩
  rcases List.mem_cons.mp hq with z | z
  · cases z
    exact ⟨upd_same, h2, h3, h4, h5⟩
  · exact R2.priv q u z
theorem RelC.outPr {G : Gs} {ρ : List Cell} {σ : St} {H : Hp} {p : Addr} {vs : List V} {ds : List D} {l : List (Addr × HO)} (R : RelC G ρ σ H) (e : G.pr = (p, .lst vs) :: l) (t : DtA G.B vs ds) (hr : ∀ o, (p, o) ∉ l) :
    RelC (G.pri l) ρ σ H ∧ VlOk (G.pri l) H ρ σ (.fr ds) (.ref p) := by
  obtain ⟨h1, h2, h3, h4, h5⟩ := R.priv p _ (by rw [e]; exact List.mem_cons_self ..)
  exact ⟨⟨R.same, R.same0, R.old, R.newB, R.len, R.cells, R.dist, R.feed, fun q u hq => R.priv q u (by rw [e]; exact List.mem_cons_of_mem _ hq), R.fa0⟩, p, vs, rfl, h2, h3, h4, h1, t, h5, hr⟩
/-- with an object in the making -/
theorem Rel.inPr {G0 G : Gs} {ρ0 : Rho} {ρ : List Cell} {σ0 σ : St} {H0 H : Hp} {x : Addr × HO} (R0 : Rel Z G0 ρ0 σ0 H0) (le : G0.le (G.pri G0.pr)) (e : G.pr = x :: G0.pr) (R : RelC G ρ σ H) : Rel Z G ⟨ρ, ρ0.x⟩ σ H :=
  ⟨R, fun xn G2 ρ' σ2 H2 cls d le2 R2 l hx => R0.ex xn (G2.pri G0.pr) ρ' σ2 H2 cls d (le.trans ⟨le2.b0, le2.h0, le2.same, le2.fa, rfl, le2.fa0⟩)
    ⟨R2.same, R2.same0, R2.old, R2.newB, R2.len, R2.cells, R2.dist, R2.feed, fun q u hq => R2.priv q u (by rw [le2.pr, e]; exact List.mem_cons_of_mem _ hq), R2.fa0⟩ l hx⟩
theorem wipe_in {i : Nat} (τ : St) : ∀ {own : List Nat}, i ∈ own → (L2.wipe τ own)[i]? = if i < τ.length then some none else none
  | v :: r, h => by
    unfold L2.wipe
    by_cases e : v = i
    · subst e
      by_cases hv : v < τ.length
      · rw [List.getElem?_set_self (by rw [wipe_length]; exact hv), if_pos hv]
      · rw [List.getElem?_eq_none (by rw [List.length_set, wipe_length]; omega), if_neg hv]
    · rw [List.getElem?_set_ne e]
      exact wipe_in τ ((List.mem_cons.mp h).resolve_left fun z => e z.symm)
theorem wipe_wipe (σ : St) (own : List Nat) : L2.wipe (L2.wipe σ own) own = L2.wipe σ own := by
  apply List.ext_getElem?
  intro i
  by_cases h : i ∈ own
  · rw [wipe_in _ h, wipe_in _ h, wipe_length]
  · rw [wipe_out' h]
/-- a comprehension's reading, from ours -/
theorem t_lc {own : List Nat} {si : SI} {g0 : TG} {g : SG} {t : ST} {f : SE} {tt : TT} (ok : GTok own g0 g) (ht : ∀ σ H Q, tT Z t σ H Q → tt σ H Q) :
    ∀ σ H Q, tE Z (sLc own si g t f) σ H Q → tLc (tI Z si) g0 tt (tE Z f) own σ H Q := fun σ H Q ⟨G, ρ, Q', R, h, q⟩ => by
  refine ⟨G, ρ, _, R, h, fun J G1 ρ1 H1 ds le1 R1 src ⟨hlen, hq⟩ D hD => ?_⟩
  obtain ⟨Gp, Y, wk, hG, hY⟩ := src.ok
  obtain ⟨fB, f0, ff, fm, fr⟩ := R1.rc.free hD
  refine lc_it wk (fun i H => ∃ (G' : Gs) (ρ' : List Cell) (vs : List V) (acc : List PyData), G1.le (G'.pri G1.pr) ∧ G'.pr = (D, .lst vs) :: G1.pr ∧ RelC G' ρ' σ H ∧ DtA G'.B vs acc ∧ acc.length ≤ i ∧
    wComp own (sTurn g t f) (ds.drop i) ⟨ρ', ρ1.x⟩ fun out ρ2 => Q' (.fr (acc ++ out)) ρ2) ?_ ?_ ?_ ?_
  · exact ⟨G1.pri ((D, .lst []) :: G1.pr), ρ1.c, [], [], .refl _, rfl, R1.rc.addPr hD, .nil, Nat.zero_le _, by simpa using hq⟩
  · rintro i H _ ⟨G', ρ', vs, acc, le, e, R', _⟩
    exact hG G' ⟨ρ', ρ1.x⟩ σ H le.same (R1.inPr le e R')
  · rintro i x H H' hi ⟨G', ρ', vs, acc, le, e, R', ta, hacc, hw⟩ y
    have RR := R1.inPr le e R'
    obtain ⟨G2, d, le2, R2, ed, td⟩ := hY i x G' _ σ H H' le.same RR hi y
    rw [drop_cons ed] at hw
    have hw : sTurn g t f d ⟨wipC ρ' own, ρ1.x⟩ _ := hw
    have R2w : Rel Z G2 ⟨wipC ρ' own, ρ1.x⟩ (L2.wipe σ own) H' := R2.up (.refl G2) (R2.rc.wipe own)
    have hacc' : acc.length < sizeLine := by
      have : (sizeLine : Nat) = 16777216 := rfl
      omega
    refine ok.mono _ _ _ _ _ (fun σ2 H2 q2 => have e2 := q2.2.trans (wipe_wipe σ own); ⟨e2, q2.1 e2⟩) (ok.keep x _ H' _ (ok.imp Z x _ H' (fun σ2 H2 => L2.wipe σ2 own = L2.wipe σ own → tt σ2 H2 _) ⟨G2, _, .im d, _, R2w, td, hw, fun G3 ρ3 σ3 H3 le3 R3 h3 e3 => ?_⟩))
    have hl3 : σ3.length = σ.length := by rw [← wipe_length σ3 own, e3, wipe_length]
    refine ht σ3 H3 _ ⟨G3, ρ3, _, R3, h3, fun b G4 ρ4 H4 le4 R4 h4 => ?_⟩
    have leP : ∀ {G5 : Gs}, G4.le G5 → G'.le G5 := fun le5 => ((le2.trans le3).trans le4).trans le5
    cases b with
    | false =>
      refine iteF ?_
      rw [if_neg (by decide)] at h4
      have R5 := R'.unwipe (vs := own) R4.rc (leP (.refl G4)) e3 hl3
      exact ⟨G4, _, vs, acc, le.trans ⟨(leP (.refl G4)).b0, (leP (.refl G4)).h0, (leP (.refl G4)).same, (leP (.refl G4)).fa, rfl, (leP (.refl G4)).fa0⟩, (leP (.refl G4)).pr.trans e, R5, ta.mono (leP (.refl G4)).same, by omega, h4⟩
    | true =>
      refine iteT ?_
      rw [if_pos rfl] at h4
      refine ⟨G4, ρ4, _, R4, h4, fun v G5 ρ5 H5 val le5 R5 vo hv => ?_⟩
      obtain ⟨G6, yd, le6, R6, ty, hy⟩ := R5.fz vo hv
      have leQ : G'.le G6 := (leP le5).trans le6
      have R7 := R'.unwipe (vs := own) R6.rc leQ e3 hl3
      have e7 := leQ.pr.trans e
      refine ⟨vs, (R6.rc.priv D _ (by rw [e7]; exact List.mem_cons_self ..)).1, by rw [ta.length]; exact hacc', ?_⟩
      refine ⟨G6.pri ((D, .lst (vs ++ [v])) :: G1.pr), _, vs ++ [v], acc ++ [yd], le.trans ⟨leQ.b0, leQ.h0, leQ.same, leQ.fa, rfl, leQ.fa0⟩, rfl, R7.putPr e7 fr, (ta.mono leQ.same).append (.cons ty .nil), by simp; omega, ?_⟩
      simpa using hy
  · rintro H ⟨G', ρ', vs, acc, le, e, R', ta, hacc, hw⟩
    rw [List.drop_length] at hw
    have hw : Q' (.fr (acc ++ [])) ⟨ρ', ρ1.x⟩ := hw
    rw [List.append_nil] at hw
    obtain ⟨Ro, vo⟩ := R'.outPr e ta fr
    exact q _ (G'.pri G1.pr) ⟨ρ', ρ1.x⟩ H _ (le1.trans le) (R1.up le Ro) vo hw

section
variable {elt tg iter : Expr} {ifs : List Expr} {scope : Scope} {ownl : List (Str × Nat)} {pos : Pos} {si : SI} {g0 : TG} {g : SG} {t : ST} {f : SE} {tt : TT}
theorem tyes_imp : ∀ σ H Q, tT Z sYes σ H Q → tYes σ H Q := fun σ H Q ⟨G, ρ, Q', R, h, q⟩ => q true G ρ H (.refl G) R h
theorem ev_lc {own : List Nat} (hc : X.calm = true) (hN : X.N.Nodup) (hi : PI X tg iter (tI Z si)) (okb : BlkOk X.N X.env.scope scope ownl) (ok : GTok own g0 g) (himp : ∀ σ H Q, tT Z t σ H Q → tt σ H Q)
    (hg : ∀ (s : Shared) (H : Hp) (C : Addr) (cl : List (Str × Addr)) (fp : List Addr), PG (X.blk s H scope (compEnvC scope cl C X.env) fp) tg g0) (ht : ∀ (s : Shared) (H : Hp) (C : Addr) (cl : List (Str × Addr)) (fp : List Addr), PTs (X.blk s H scope (compEnvC scope cl C X.env) fp) ifs tt)
    (he : ∀ (s : Shared) (H : Hp) (C : Addr) (cl : List (Str × Addr)) (fp : List Addr), PE (X.blk s H scope (compEnvC scope cl C X.env) fp) elt (tE Z f)) (how : ownl.map (·.2) = own := by rfl) (hs : ∀ x, foldedSetIterable iter X.env x = pure x := by intro _; rfl) :
    PE X (.ListComp elt [⟨tg, iter, ifs, 0⟩] scope pos) (tE Z (sLc own si g t f)) := by
  subst how
  exact PE.imp (pe_lc hc hN hi okb hg ht he hs) (t_lc ok himp)
theorem es_setLc {own : List Nat} {y : Str} {py : Pos} {spos : Pos} (i : Nat) (hc : X.calm = true) (hN : X.N.Nodup) (hi : PI X tg iter (tI Z si)) (okb : BlkOk X.N X.env.scope scope ownl) (ok : GTok own g0 g) (himp : ∀ σ H Q, tT Z t σ H Q → tt σ H Q)
    (hg : ∀ (s : Shared) (H : Hp) (C : Addr) (cl : List (Str × Addr)) (fp : List Addr), PG (X.blk s H scope (compEnvC scope cl C X.env) fp) tg g0) (ht : ∀ (s : Shared) (H : Hp) (C : Addr) (cl : List (Str × Addr)) (fp : List Addr), PTs (X.blk s H scope (compEnvC scope cl C X.env) fp) ifs tt)
    (he : ∀ (s : Shared) (H : Hp) (C : Addr) (cl : List (Str × Addr)) (fp : List Addr), PE (X.blk s H scope (compEnvC scope cl C X.env) fp) elt (tE Z f))
    (hsw : swapsWith (.ListComp elt [⟨tg, iter, ifs, 0⟩] scope pos) (some (.Name y py)) spos.line X.env = pure true) (hy : X.N[i]? = some y := by rfl) (hyl : X.env.scope.names.lookup y = some .local := by rfl)
    (how : ownl.map (·.2) = own := by rfl) (hs : ∀ x, foldedSetIterable iter X.env x = pure x := by intro _; rfl) :
    PS X (.Assign [.Name y py] (.ListComp elt [⟨tg, iter, ifs, 0⟩] scope pos) spos) (tS Z (sAsg (sLc own si g t f) (sgName i))) := by
  subst how
  exact PS.imp (ps_setLc hc hN hy hyl hsw hi okb hg ht he hs) (t_asg (GTok.name (own := [i]) i (by simp)) (t_lc ok himp))
end

/-! ### what is walked -/
def rngD (lo : Int) (n : Nat) : List D := (List.range n).map fun i => .int (lo + (i : Nat))
theorem rngD_length (lo : Int) (n : Nat) : (rngD lo n).length = n := by simp [rngD]
theorem rngD_get {lo : Int} {n i : Nat} (h : i < n) : (rngD lo n)[i]? = some (.int (lo + (i : Nat))) := by simp [rngD, h]
def chrD (x : Str) : List D := x.cps.toList.map fun c => .str ⟨#[c]⟩
theorem Src.mk' {G : Gs} {J : It} {ds : List D} {n : Nat} {Gp : Hp → Prop} {Y : Nat → Hp → V → Hp → Prop} (w : Walk J n Gp Y) (hn : ds.length = n) (h1 : ∀ G' ρ σ H, Same G.B G'.B → Rel Z G' ρ σ H → Gp H)
    (h2 : ∀ i x G' ρ σ H H', Same G.B G'.B → Rel Z G' ρ σ H → i < ds.length → Y i H x H' → ∃ G'' d, G'.le G'' ∧ Rel Z G'' ρ σ H' ∧ ds[i]? = some d ∧ Dt G''.B x d) : Src Z G J ds := ⟨Gp, Y, hn ▸ w, h1, h2⟩
theorem src_list {G : Gs} {K : PySem.W.Frag} {a : Addr} {vs : List V} {ds : List D} (hB : G.B a = some (.lst vs)) (t : DtA G.B vs ds) : Src Z G (Itl K a) ds := by
  refine Src.mk' walk_list t.length.symm (fun G' ρ σ H sm R => SqL.of (R.rc.same _ _ (sm _ _ hB))) (fun i x G' ρ σ H H' sm R hi ⟨e, y⟩ => ?_)
  subst e
  obtain ⟨d, e1, e2⟩ := t.get' y
  exact ⟨G', d, .refl G', R, e1, e2.mono sm⟩
theorem src_tup {G : Gs} {K : PySem.W.Frag} {a : Addr} {vs : List V} {ds : List D} (hB : G.B a = some (.tup vs)) (t : DtA G.B vs ds) : Src Z G (Itt K a) ds := by
  refine Src.mk' walk_tup t.length.symm (fun G' ρ σ H sm R => SqT.of (R.rc.same _ _ (sm _ _ hB))) (fun i x G' ρ σ H H' sm R hi ⟨e, y⟩ => ?_)
  subst e
  obtain ⟨d, e1, e2⟩ := t.get' y
  exact ⟨G', d, .refl G', R, e1, e2.mono sm⟩
theorem src_str {G : Gs} {x : Str} : Src Z G (Its x) (chrD x) := by
  refine Src.mk' walk_str (by simp [chrD]) (fun _ _ _ _ _ _ => trivial) (fun i v G' ρ σ H H' sm R hi ⟨e, c, e1, e2⟩ => ?_)
  subst e e2
  exact ⟨G', .str ⟨#[c]⟩, .refl G', R, by simp [chrD, ← e1], .str _⟩
theorem src_rng {G : Gs} {lo : Int} {n : Nat} : Src Z G (Itr lo n) (rngD lo n) := by
  refine Src.mk' walk_range (rngD_length _ _) (fun _ _ _ _ _ _ => trivial) (fun i v G' ρ σ H H' sm R hi ⟨e, e2⟩ => ?_)
  subst e e2
  rw [rngD_length] at hi
  exact ⟨G', _, .refl G', R, rngD_get hi, .int _⟩
def rngCD (lo c : Int) (n : Nat) : List D := (List.range n).map fun i => .int (lo + (i : Nat) * c)
theorem src_rngC {G : Gs} {lo c : Int} {n : Nat} : Src Z G (Itc lo c n) (rngCD lo c n) := by
  refine Src.mk' walk_rangeC (by simp [rngCD]) (fun _ _ _ _ _ _ => trivial) (fun i v G' ρ σ H H' sm R hi ⟨e, e2⟩ => ?_)
  subst e e2
  have hi' : i < n := by simpa [rngCD] using hi
  exact ⟨G', _, .refl G', R, by simp [rngCD, hi'], .int _⟩
def enumD (ds : List D) : List D := ds.zipIdx.map fun p => .tuple [.int (p.2 : Nat), p.1]
theorem src_enum {G : Gs} {K : PySem.W.Frag} {a : Addr} {vs : List V} {ds : List D} (hB : G.B a = some (.lst vs)) (t : DtA G.B vs ds) : Src Z G (Ite K a) (enumD ds) := by
  refine Src.mk' walk_enum (by simp [enumD, t.length]) (fun G' ρ σ H sm R => SqL.of (R.rc.same _ _ (sm _ _ hB))) (fun i v G' ρ σ H H' sm R hi ⟨T, x, y, e1, e2, e3, e4, e5⟩ => ?_)
  subst e1 e3
  cases e4
  obtain ⟨d, ed, td⟩ := t.get' e5
  obtain ⟨G2, le, R2, eB⟩ := R.new (o := .tup [.int (i : Nat), y]) e2
  exact ⟨G2, .tuple [.int (i : Nat), d], le, R2, by simp [enumD, ed], .tup eB (.cons (.int _) (.cons ((td.mono sm).mono le.same) .nil))⟩
def zipD (ds es : List D) : List D := (ds.zip es).map fun p => .tuple [p.1, p.2]
theorem src_zip {G : Gs} {K : PySem.W.Frag} {a b : Addr} {vs ws : List V} {ds es : List D} (hB : G.B a = some (.lst vs)) (t : DtA G.B vs ds) (hB2 : G.B b = some (.lst ws)) (t2 : DtA G.B ws es) : Src Z G (Itz K a b) (zipD ds es) := by
  refine Src.mk' (walk_zip rfl) (by simp [zipD, t.length, t2.length]) (fun G' ρ σ H sm R => ⟨SqL.of (R.rc.same _ _ (sm _ _ hB)), SqL.of (R.rc.same _ _ (sm _ _ hB2))⟩) (fun i v G' ρ σ H H' sm R hi ⟨T, x, y, e1, e2, e3, e4, e5⟩ => ?_)
  subst e1 e3
  obtain ⟨d, ed, td⟩ := t.get' e4
  obtain ⟨d2, ed2, td2⟩ := t2.get' e5
  obtain ⟨G2, le, R2, eB⟩ := R.new (o := .tup [x, y]) e2
  exact ⟨G2, .tuple [d, d2], le, R2, by simp [zipD, (List.getElem?_zip_eq_some (z := (d, d2))).mpr ⟨ed, ed2⟩], .tup eB (.cons ((td.mono sm).mono le.same) (.cons ((td2.mono sm).mono le.same) .nil))⟩
theorem src_rev {G : Gs} {K : PySem.W.Frag} {a : Addr} {vs : List V} {ds : List D} (hB : G.B a = some (.lst vs)) (t : DtA G.B vs ds) : Src Z G (Itv K a vs.length) ds.reverse := by
  refine Src.mk' walk_rev (by rw [List.length_reverse, ← t.length]) (fun G' ρ σ H sm R => SqL.of (R.rc.same _ _ (sm _ _ hB))) (fun i x G' ρ σ H H' sm R hi ⟨e, y⟩ => ?_)
  subst e
  obtain ⟨d, e1, e2⟩ := t.get' y
  have hi' : i < ds.length := by simpa using hi
  exact ⟨G', d, .refl G', R, by rw [List.getElem?_reverse hi', ← t.length]; exact e1, e2.mono sm⟩

/-- a list, a tuple or a text -/
def iAny (K : PySem.W.Frag) (te : TE) : TI := fun σ H R => te σ H fun x H1 => (∃ a xs, x = .ref a ∧ SqL K H1 a xs ∧ R (Itl K a) H1) ∨ (∃ a xs, x = .ref a ∧ SqT K H1 a xs ∧ R (Itt K a) H1) ∨ ∃ z, x = .str z ∧ R (Its z) H1
theorem pi_any {tg l : Expr} {tl : TE} (hl : PE X l tl) : PI X tg l (iAny X.K tl) := by
  refine ⟨fun pins s σ H R I h => ?_⟩
  refine thn (hl.run pins s σ H _ I h) fun v s1 ⟨x, H1, I1, r1, q1⟩ => ?_
  rcases q1 with ⟨a, xs, e, hq, q⟩ | ⟨a, xs, e, hq, q⟩ | ⟨z, e, q⟩
  · subst e
    cases r1
    obtain ⟨its, rv, p, hz⟩ := I1.list hq
    refine wpAny_pyIter_list p.isList ?_
    refine ⟨s1.heap.objs.size, [s1.heap.objs.size], _, _, H1, rfl, I1.kept (t' := s1.toks) fun b o e => Heap.get?_push_of_some _ e, turn_list a _, ⟨_, Heap.get?_push_size _ rfl, rfl, rfl⟩, fun b hb => ?_, q⟩
    have e : b = s1.heap.objs.size := by simpa using hb
    subst e
    exact I1.fpOk (Nat.le_refl _) (I1.hok.fresh (Nat.le_refl _))
  · subst e
    cases r1
    obtain ⟨its, rv, p, hz⟩ := I1.tuple hq
    refine wpAny_pyIter_tuple (show s1.heap.IsTuple a its.toArray from p) ?_
    refine ⟨s1.heap.objs.size, [s1.heap.objs.size], _, _, H1, rfl, I1.kept (t' := s1.toks) fun b o e => Heap.get?_push_of_some _ e, turn_tuple a _, ⟨_, Heap.get?_push_size _ rfl, rfl, rfl⟩, fun b hb => ?_, q⟩
    have e : b = s1.heap.objs.size := by simpa using hb
    subst e
    exact I1.fpOk (Nat.le_refl _) (I1.hok.fresh (Nat.le_refl _))
  · subst e
    obtain ⟨t, rfl⟩ := r1
    cases ha : z.cps.all (· < 128)
    · exact wpAny_pyIter_wide ha (pi_one (tk := s1.toks) I1 _ (turn_str _ z t "str_iterator" (.inr rfl)) ⟨_, Heap.get?_push_size _ rfl, rfl, rfl⟩ q)
    · exact wpAny_pyIter_ascii ha (pi_one (tk := s1.toks) I1 _ (turn_str _ z t "str_ascii_iterator" (.inl rfl)) ⟨_, Heap.get?_push_size _ rfl, rfl, rfl⟩ q)
def sIt (f : SE) : SI := fun ρ Q => f ρ fun v ρ1 => fz v fun d => match d with
  | .list ds => Q ds ρ1
  | .tuple ds => Q ds ρ1
  | .str x => Q (chrD x) ρ1
  | _ => False
theorem ei_any {tg l : Expr} {f : SE} (hl : PE X l (tE Z f)) : PI X tg l (tI Z (sIt f)) := by
  refine PI.imp (pi_any hl) fun σ H Rx ⟨G, ρ, Q', R, h, q⟩ => ⟨G, ρ, _, R, h, fun v G1 ρ1 H1 val le1 R1 vo hv => ?_⟩
  obtain ⟨G2, d, le2, R2, t, hk⟩ := R1.fz vo hv
  cases t with
  | lst e ta => exact .inl ⟨_, _, rfl, SqL.of (R2.rc.same _ _ e), q _ G2 ρ1 H1 _ (le1.trans le2) R2 (src_list e ta) hk⟩
  | tup e ta => exact .inr (.inl ⟨_, _, rfl, SqT.of (R2.rc.same _ _ e), q _ G2 ρ1 H1 _ (le1.trans le2) R2 (src_tup e ta) hk⟩)
  | str x => exact .inr (.inr ⟨x, rfl, q _ G2 ρ1 H1 _ (le1.trans le2) R2 src_str hk⟩)
  | non => exact hk.elim
  | bl b => exact hk.elim
  | int i => exact hk.elim
def sRng1 (t : SDs) : SI := fun ρ Q => t ρ fun ds ρ1 => match ds with | [.int j] => -(2 ^ 62) ≤ j ∧ j < 2 ^ 62 ∧ Q (rngD 0 j.toNat) ρ1 | _ => False
def sRng2 (t : SDs) : SI := fun ρ Q => t ρ fun ds ρ1 => match ds with | [.int i, .int j] => (-(2 ^ 62) ≤ i ∧ i < 2 ^ 62 ∧ -(2 ^ 62) ≤ j ∧ j < 2 ^ 62) ∧ Q (rngD i (j - i).toNat) ρ1 | _ => False
theorem ei_range1 {tg a : Expr} {t : SDs} {p pos : Pos} (hg : Gl X "range") (hm : X.mg "range" = none) (ha : PA X [a] (tDs Z t)) (hs : starEach [a] X.env = [(false, eval a X.env)] := by rfl) : PI X tg (.Call (.Name "range" p) [a] [] pos) (tI Z (sRng1 t)) := by
  refine PI.imp (pi_range1 hg hm ha hs) fun σ H Rx ⟨G, ρ, Q', R, h, q⟩ => ⟨G, ρ, _, R, h, fun vs G1 ρ1 H1 ds le1 R1 t hv => ?_⟩
  split at hv
  · rename_i j
    cases t with
    | cons a b =>
      cases a
      cases b
      exact ⟨j, rfl, hv.1, hv.2.1, q _ G1 ρ1 H1 _ le1 R1 src_rng hv.2.2⟩
  · exact hv.elim
theorem ei_range2 {tg a b : Expr} {t : SDs} {p pos : Pos} (hg : Gl X "range") (hm : X.mg "range" = none) (ha : PA X [a, b] (tDs Z t)) (hs : starEach [a, b] X.env = [(false, eval a X.env), (false, eval b X.env)] := by rfl) (hs2 : starEach [b] X.env = [(false, eval b X.env)] := by rfl) :
    PI X tg (.Call (.Name "range" p) [a, b] [] pos) (tI Z (sRng2 t)) := by
  refine PI.imp (pi_range2 hg hm ha hs hs2) fun σ H Rx ⟨G, ρ, Q', R, h, q⟩ => ⟨G, ρ, _, R, h, fun vs G1 ρ1 H1 ds le1 R1 t hv => ?_⟩
  split at hv
  · rename_i i j
    cases t with
    | cons a b =>
      cases a
      cases b with
      | cons a b =>
        cases a
        cases b
        exact ⟨i, j, rfl, hv.1, q _ G1 ρ1 H1 _ le1 R1 src_rng hv.2⟩
  · exact hv.elim
def sEnum (t : SDs) : SI := fun ρ Q => t ρ fun ds ρ1 => match ds with | [.list xs] => Q (enumD xs) ρ1 | _ => False
theorem ei_enum {e : Expr} {t : SDs} {p pos tpos : Pos} {elts : List Expr} {kk : Nat} (hg : Gl X "enumerate") (hm : X.mg "enumerate" = none) (ha : PA X [e] (tDs Z t)) (hs : starEach [e] X.env = [(false, eval e X.env)] := by rfl) :
    PI X (.Tuple elts kk tpos) (.Call (.Name "enumerate" p) [e] [] pos) (tI Z (sEnum t)) := by
  refine PI.imp (pi_enum hg hm ha hs) fun σ H Rx ⟨G, ρ, Q', R, h, q⟩ => ⟨G, ρ, _, R, h, fun vs G1 ρ1 H1 ds le1 R1 t hv => ?_⟩
  split at hv
  · cases t with
    | cons a b =>
      cases b
      cases a with
      | lst eB ta => exact ⟨_, _, rfl, SqL.of (R1.rc.same _ _ eB), q _ G1 ρ1 H1 _ le1 R1 (src_enum eB ta) hv⟩
  · exact hv.elim
def sZip (t : SDs) : SI := fun ρ Q => t ρ fun ds ρ1 => match ds with | [.list xs, .list ys] => Q (zipD xs ys) ρ1 | _ => False
theorem ei_zip {e e2 : Expr} {t : SDs} {p pos tpos : Pos} {elts : List Expr} {kk : Nat} (hg : Gl X "zip") (hm : X.mg "zip" = none) (ha : PA X [e, e2] (tDs Z t))
    (hs : starEach [e, e2] X.env = (false, eval e X.env) :: starEach [e2] X.env := by rfl) (hpl : (backTo pos (starEach [e2] X.env)).any (·.1) = false := by rfl) :
    PI X (.Tuple elts kk tpos) (.Call (.Name "zip" p) [e, e2] [] pos) (tI Z (sZip t)) := by
  refine PI.imp (pi_zip hg hm ha hs hpl) fun σ H Rx ⟨G, ρ, Q', R, h, q⟩ => ⟨G, ρ, _, R, h, fun vs G1 ρ1 H1 ds le1 R1 t hv => ?_⟩
  split at hv
  · cases t with
    | cons a b =>
      cases b with
      | cons a2 b =>
        cases b
        cases a with
        | lst eB ta =>
          cases a2 with
          | lst eB2 ta2 => exact ⟨_, _, _, _, rfl, SqL.of (R1.rc.same _ _ eB), SqL.of (R1.rc.same _ _ eB2), q _ G1 ρ1 H1 _ le1 R1 (src_zip eB ta eB2 ta2) hv⟩
  · exact hv.elim
def sRev (f : SE) : SI := fun ρ Q => f ρ fun v ρ1 => fz v fun d => match d with | .list xs => Q xs.reverse ρ1 | _ => False
theorem ei_rev {tg e : Expr} {f : SE} {p pos : Pos} (hg : Gl X "reversed") (hm : X.mg "reversed" = none) (he : PE X e (tE Z f)) (hs : starEach [e] X.env = (false, eval e X.env) :: starEach [] X.env := by rfl) : PI X tg (.Call (.Name "reversed" p) [e] [] pos) (tI Z (sRev f)) := by
  refine PI.imp (RT.pi_revA hg hm he hs) fun σ H Rx ⟨G, ρ, Q', R, h, q⟩ => ⟨G, ρ, _, R, h, fun v G1 ρ1 H1 val le1 R1 vo hv => ?_⟩
  obtain ⟨G2, d, le2, R2, t, hk⟩ := R1.fz vo hv
  cases t with
  | lst e ta => exact ⟨_, _, rfl, .inl ⟨SqL.of (R2.rc.same _ _ e), q _ G2 ρ1 H1 _ (le1.trans le2) R2 (src_rev e ta) hk⟩⟩
  | tup e ta => exact hk.elim
  | str x => exact hk.elim
  | non => exact hk.elim
  | bl b => exact hk.elim
  | int i => exact hk.elim

/-! ### promises and calls -/
/-- what a def's run leaves: B, H ahead, B', H' behind -/
structure Post (B : Hp) (fa : Option Addr) (H B' H' : Hp) : Prop where
  sb : Same B B'
  sh : Same B' H'
  old : ∀ q o, H q = some o → H' q = some o ∨ fa = some q
  new : ∀ q o, B' q = some o → H q = none ∨ B q = some o
  feed : ∀ p, fa = some p → B' p = none ∧ FeedOk B' H' p
def PVal (fa : Option Addr) (H B' H' : Hp) : Vl → V → Prop
  | .im d, v => Dt B' v d
  | .fr ds, v => ∃ p vs, v = .ref p ∧ H p = none ∧ B' p = none ∧ H' p = some (.lst vs) ∧ DtA B' vs ds
  | .fd, v => ∃ p, v = .ref p ∧ fa = none ∧ H p = none ∧ B' p = none ∧ FeedOk B' H' p
abbrev Fn := List Ar → (Vl → Prop) → (Xn → Prop) → Prop
abbrev gs0 (B H : Hp) (fa : Option Addr) : Gs := { B0 := B, H0 := H, B := B, fa0 := fa, fa := fa, pr := [] }
/-- a def's promise, by its words F over data -/
def spD (XL : XW) (F : Fn) : Sp := fun vs H Q E => ∃ (B : Hp) (fa : Option Addr) (args : List Ar) (k : Vl → Prop) (kx : Xn → Prop), Same B H ∧ (∀ p, fa = some p → B p = none ∧ FeedOk B H p) ∧ ArsOk (gs0 B H fa) args vs ∧ F args k kx ∧
  (∀ v H' B' val, Post B fa H B' H' → PVal fa H B' H' val v → k val → Q v H') ∧
  ∀ xn cls d H' B', Post B fa H B' H' → XL xn cls d H' → kx xn → E cls d H'
theorem ArsOk.length {G : Gs} : ∀ {as : List Ar} {vs : List V}, ArsOk G as vs → vs.length = as.length
  | _, _, .nil => rfl
  | _, _, .cons _ t => by simp [ArsOk.length t]
def arCell : Ar → Cell
  | .d d => .im d
  | .fd => .fd
def cells0 (n : Nat) (args : List Ar) : List Cell := args.map arCell ++ List.replicate (n - args.length) .un
theorem ArsOk.get {G : Gs} : ∀ {as : List Ar} {vs : List V} {i : Nat} {a : Ar}, ArsOk G as vs → as[i]? = some a → ∃ v, vs[i]? = some v ∧ ArOk G a v
  | _, _, _, _, .nil, e => by simp at e
  | _, _, 0, _, .cons h _, e => by simp at e; subst e; exact ⟨_, rfl, h⟩
  | _, _, i + 1, _, .cons _ t, e => by
    obtain ⟨v, h1, h2⟩ := ArsOk.get (i := i) t (by simpa using e)
    exact ⟨v, by simpa using h1, h2⟩
theorem rel0 {XL : XW} {W : WX} {B H : Hp} {fa : Option Addr} {args : List Ar} {vs : List V} {N : List Str} {kx : Xn → Prop} (sm : Same B H) (hf : ∀ p, fa = some p → B p = none ∧ FeedOk B H p) (ha : ArsOk (gs0 B H fa) args vs) (hl : args.length ≤ N.length)
    (hx : ∀ (xn : Xn) (G' : Gs) (ρ' : List Cell) (σ' : St) (H' : Hp) (cls : Value) (d : Option Addr), (gs0 B H fa).le G' → RelC G' ρ' σ' H' → XL xn cls d H' → kx xn → W cls d σ' H') :
    Rel ⟨W, XL⟩ (gs0 B H fa) ⟨cells0 N.length args, kx⟩ (L2.start N vs) H := by
  refine ⟨⟨sm, Same.refl _, fun q o e => .inl e, fun q o e => .inr e, ?_, fun i c o e1 e2 => ?_, fun i j p ds es ne e1 _ => ?_, hf, fun p o e => (nomatch e), fun p e => .inl e⟩, hx⟩
  · unfold cells0 L2.start
    have := ha.length
    simp
    omega
  · unfold cells0 at e1
    unfold L2.start at e2
    by_cases hi : i < args.length
    · rw [List.getElem?_append_left (by simpa using hi)] at e1
      rw [List.getElem?_append_left (by simp [ha.length]; exact hi)] at e2
      rw [List.getElem?_map] at e1 e2
      cases ea : args[i]? with
      | none => rw [ea] at e1; cases e1
      | some a =>
        rw [ea] at e1
        cases e1
        obtain ⟨v, ev, ho⟩ := ha.get ea
        rw [ev] at e2
        cases e2
        cases a with
        | d d => exact ⟨v, rfl, ho⟩
        | fd =>
          obtain ⟨p, e, f⟩ := ho
          exact ⟨p, by rw [e], f⟩
    · rw [List.getElem?_append_right (by simpa using hi)] at e1
      rw [List.getElem?_replicate] at e1
      split at e1
      · cases e1
        trivial
      · cases e1
  · unfold cells0 at e1
    by_cases hi : i < args.length
    · rw [List.getElem?_append_left (by simpa using hi), List.getElem?_map] at e1
      cases ea : args[i]? with
      | none => rw [ea] at e1; cases e1
      | some a =>
        rw [ea] at e1
        cases a <;> cases e1
    · rw [List.getElem?_append_right (by simpa using hi), List.getElem?_replicate] at e1
      split at e1
      · cases e1
      · cases e1
theorem post_of {B H : Hp} {fa : Option Addr} {G' : Gs} {ρ : List Cell} {σ : St} {H' : Hp} (le : (gs0 B H fa).le G') (R : RelC G' ρ σ H') : Post B fa H G'.B H' := by
  have hb : G'.B0 = B := le.b0
  have hh : G'.H0 = H := le.h0
  have hf : G'.fa0 = fa := le.fa0
  refine ⟨le.same, R.same, fun q o e => ?_, fun q o e => ?_, fun p e => R.feed p (le.fa p e)⟩
  · rcases R.old q o (by rw [hh]; exact e) with z | z
    · exact .inl z
    · rcases R.fa0 q z with y | y
      · rw [hf] at y
        exact .inr y
      · rw [hh, e] at y
        cases y
  · rcases R.newB q o e with z | z
    · rw [hh] at z
      exact .inl z
    · rw [hb] at z
      exact .inr z
def noFd (k : Vl → Prop) (v : Vl) : Prop := match v with
  | .im d => k (.im d)
  | .fr ds => k (.fr ds)
  | .fd => False
section
variable {P : Program} {w : World} {K : PySem.W.Frag} {mg : Str → Option Value} {base : Heap}
/-- a def that raises nothing: its body's reading is ours, and does what F says -/
theorem fn_dv {x qual : Str} {st : Stmt} {f : Addr} {fd : FuncData} {N ps : List Str} {k : Nat} {XL : XW} {F : Fn} {sem : SS} (Fu : Fun K x qual st f fd) (S : FnScope N ps (defScope st)) (len : ∀ as k kx, F as k kx → as.length = ps.length)
    (der : ∀ (cdv : Value) (A : Around) (outer : List Env) (s : Shared) (H : Hp) (E : XK) (Z : Zx), Room k (A.deeper (envOfC qual (defScope st) s.heap.objs.size f cdv)) → PSs (cxOf CX0 P w K mg base N qual (defScope st) f cdv A outer s H E).nox (defBody st) (tS Z sem))
    (hs : ∀ as k kx, F as k kx → sem ⟨cells0 N.length as, kx⟩ { nx := fun _ => k (.im .none), rt := fun v _ => noFd k v }) : FnOk P w K mg base CX0 (k + 1) f fd ps (spD XL F) := by
  refine Fu.ok S (fun vs H Q E ⟨B, fa, as, k, kx, _, _, ha, hF, _⟩ => ha.length.trans (len as k kx hF)) fun cdv A outer s H vs Q E hr ⟨B, fa, as, k, kx, sm, hf, ha, hF, hq, hx⟩ => ?_
  have hN : as.length ≤ N.length := by
    rw [len as k kx hF]
    have := congrArg List.length S.pre
    rw [List.length_take] at this
    omega
  refine ⟨_, der cdv A outer s H E ⟨fun cls d _ H' => E cls d H', XL⟩ hr, gs0 B H fa, _, _, rel0 sm hf ha hN fun xn G' ρ' σ' H' cls d le R l h => ?_, hs as k kx hF, ?_, ?_, ?_, ?_⟩
  · exact hx xn cls d H' G'.B (post_of le R) l h
  · exact fun G' ρ' σ' H' le R h => hq .non H' G'.B (.im .none) (post_of le R.rc) .non h
  · intro G' ρ' σ' H' v val le R vo h
    have h2 : k val := by cases val <;> first | exact h | exact h.elim
    refine hq v H' G'.B val (post_of le R.rc) ?_ h2
    have hh : G'.H0 = H := le.h0
    cases val with
    | im d => exact vo
    | fr ds =>
      obtain ⟨p, vs, e, a, b, _, c, d, _⟩ := vo
      rw [hh] at b
      exact ⟨p, vs, e, b, a, c, d⟩
    | fd => exact h.elim
  · exact fun G' ρ' σ' H' le R h => h.elim
  · exact fun G' ρ' σ' H' le R h => h.elim

/-- a def that may raise -/
theorem fn_dvX {x qual : Str} {st : Stmt} {f : Addr} {fd : FuncData} {N ps : List Str} {k : Nat} {XL : XW} {F : Fn} {sem : SS} (Fu : Fun K x qual st f fd) (S : FnScope N ps (defScope st)) (len : ∀ as k kx, F as k kx → as.length = ps.length)
    (der : ∀ (cdv : Value) (A : Around) (outer : List Env) (s : Shared) (H : Hp) (E : XK), Room k (A.deeper (envOfC qual (defScope st) s.heap.objs.size f cdv)) → PSs (cxOf (L2.CX P w) P w K mg base N qual (defScope st) f cdv A outer s H E) (defBody st) (tS ⟨fun cls d _ H' => E cls d H', XL⟩ sem))
    (hs : ∀ as k kx, F as k kx → sem ⟨cells0 N.length as, kx⟩ { nx := fun _ => k (.im .none), rt := fun v _ => noFd k v }) : FnOk P w K mg base (L2.CX P w) (k + 1) f fd ps (spD XL F) := by
  refine Fu.okX S (fun vs H Q E ⟨B, fa, as, k, kx, _, _, ha, hF, _⟩ => ha.length.trans (len as k kx hF)) fun cdv A outer s H vs Q E hr ⟨B, fa, as, k, kx, sm, hf, ha, hF, hq, hx⟩ => ?_
  have hN : as.length ≤ N.length := by
    rw [len as k kx hF]
    have := congrArg List.length S.pre
    rw [List.length_take] at this
    omega
  refine ⟨_, der cdv A outer s H E hr, gs0 B H fa, _, _, rel0 sm hf ha hN fun xn G' ρ' σ' H' cls d le R l h => ?_, hs as k kx hF, ?_, ?_, ?_, ?_⟩
  · exact hx xn cls d H' G'.B (post_of le R) l h
  · exact fun G' ρ' σ' H' le R h => hq .non H' G'.B (.im .none) (post_of le R.rc) .non h
  · intro G' ρ' σ' H' v val le R vo h
    have h2 : k val := by cases val <;> first | exact h | exact h.elim
    refine hq v H' G'.B val (post_of le R.rc) ?_ h2
    have hh : G'.H0 = H := le.h0
    cases val with
    | im d => exact vo
    | fr ds =>
      obtain ⟨p, vs, e, a, b, _, c, d, _⟩ := vo
      rw [hh] at b
      exact ⟨p, vs, e, b, a, c, d⟩
    | fd => exact h.elim
  · exact fun G' ρ' σ' H' le R h => h.elim
  · exact fun G' ρ' σ' H' le R h => h.elim
end

/-- behind a call -/
theorem Rel.called {G : Gs} {ρ : Rho} {σ : St} {H H' B' : Hp} (R : Rel Z G ρ σ H) (p : Post G.B G.fa H B' H') : G.le { G with B := B' } ∧ Rel Z { G with B := B' } ρ σ H' := by
  have le : G.le { G with B := B' } := ⟨rfl, rfl, p.sb, fun _ e => e, rfl, rfl⟩
  have nB : ∀ q u, H q = some u → G.B q = none → B' q = none := fun q u e n => by
    cases h : B' q with
    | none => rfl
    | some o =>
      rcases p.new q o h with z | z
      · rw [e] at z
        cases z
      · rw [n] at z
        cases z
  refine ⟨le, ⟨⟨p.sh, R.rc.same0.trans p.sb, fun q o e => ?_, fun q o e => ?_, R.rc.len, fun i c o e1 e2 => ?_, R.rc.dist, fun q e => p.feed q e, fun q o e => ?_, R.rc.fa0⟩, fun xn G' ρ' σ' H' cls d le2 => R.ex xn G' ρ' σ' H' cls d (le.trans le2)⟩⟩
  · rcases R.rc.old q o e with z | z
    · exact p.old q o z
    · exact .inr z
  · rcases p.new q o e with z | z
    · refine .inl ?_
      cases h : G.H0 q with
      | none => rfl
      | some u =>
        rcases R.rc.old q u h with y | y
        · rw [z] at y
          cases y
        · obtain ⟨_, y⟩ := (R.rc.feed q y).2.some
          rw [z] at y
          cases y
    · exact R.rc.newB q o z
  · cases c with
    | un => trivial
    | im d =>
      obtain ⟨v, e, t⟩ := R.rc.cells i _ _ e1 e2
      exact ⟨v, e, t.mono p.sb⟩
    | mu ds =>
      obtain ⟨q, vs, e, b, h0, f, hq, t⟩ := R.rc.cells i _ _ e1 e2
      exact ⟨q, vs, e, nB q _ hq b, h0, f, (p.old q _ hq).resolve_right f, t.mono p.sb⟩
    | fd =>
      obtain ⟨q, e, f⟩ := R.rc.cells i _ _ e1 e2
      exact ⟨q, e, f⟩
  · obtain ⟨h1, h2, h3, h4, h5⟩ := R.rc.priv q o e
    exact ⟨(p.old q _ h1).resolve_right h4, nB q _ h1 h2, h3, h4, h5⟩
theorem Rel.calledV {G : Gs} {ρ : Rho} {σ : St} {H H' B' : Hp} {v : V} {val : Vl} (R : Rel Z G ρ σ H) (p : Post G.B G.fa H B' H') (pv : PVal G.fa H B' H' val v) : ∃ G', G.le G' ∧ Rel Z G' ρ σ H' ∧ VlOk G' H' ρ.c σ val v := by
  obtain ⟨le, R'⟩ := R.called p
  cases val with
  | im d => exact ⟨_, le, R', pv⟩
  | fr ds =>
    obtain ⟨q, vs, e, a, b, c, d⟩ := pv
    obtain ⟨_, f0, ff, fm, fr⟩ := R.rc.free a
    exact ⟨_, le, R', q, vs, e, b, f0, ff, c, d, fm, fr⟩
  | fd =>
    obtain ⟨q, e, fn, a, b, c⟩ := pv
    obtain ⟨_, f0, ff, fm, fr⟩ := R.rc.free a
    have le2 : ({ G with B := B' } : Gs).le { G with B := B', fa := some q } := ⟨rfl, rfl, Same.refl _, fun p z => (nomatch (fn.symm.trans z)), rfl, rfl⟩
    refine ⟨{ G with B := B', fa := some q }, le.trans le2, ⟨⟨R'.rc.same, R'.rc.same0, fun x o z => ?_, R'.rc.newB, R'.rc.len, fun i c o e1 e2 => ?_, R'.rc.dist, fun x z => ?_, fun x o z => ?_, fun x z => ?_⟩, fun xn G' ρ' σ' H' cls d le3 => R'.ex xn G' ρ' σ' H' cls d (le2.trans le3)⟩, q, e, rfl⟩
    · rcases R'.rc.old x o z with y | y
      · exact .inl y
      · exact (nomatch (fn.symm.trans y))
    · cases c with
      | un => trivial
      | im d => exact R'.rc.cells i _ _ e1 e2
      | mu ds =>
        obtain ⟨y, vs, h1, h2, h3, h4, h5, h6⟩ := R'.rc.cells i _ _ e1 e2
        refine ⟨y, vs, h1, h2, h3, fun z => ?_, h5, h6⟩
        cases z
        exact fm i ds e1 (by rw [e2, h1])
      | fd =>
        obtain ⟨y, h1, h2⟩ := R'.rc.cells i _ _ e1 e2
        exact (nomatch (fn.symm.trans h2))
    · cases z
      exact ⟨b, c⟩
    · obtain ⟨h1, h2, h3, h4, h5⟩ := R'.rc.priv x o z
      refine ⟨h1, h2, h3, fun y => ?_, h5⟩
      cases y
      exact fr o z
    · cases z
      exact .inr f0
def sCall (F : Fn) (a : SA) : SE := fun ρ Q => a ρ fun as ρ1 => F as (fun v => Q v ρ1) fun _ => False
/-- a call that may raise: the wish of exceptions is the state's -/
def sCallX (F : Fn) (a : SA) : SE := fun ρ Q => a ρ fun as ρ1 => F as (fun v => Q v ρ1) ρ1.x
section
variable {XL : XW} {F : Fn} {k : Nat} {f : Addr} {fd : FuncData} {ps : List Str} {x : Str} {p pos : Pos} {e : Expr} {es : List Expr} {a : SA}
theorem ev_call (Fk : FnOk X.prog X.w X.K X.mg X.base CX0 k f fd ps (spD XL F)) (hr : Room k X.A) (hg : Gl X x) (hm : X.mg x = some (.ref f)) (hk : PySem.W.keepIn X.K (.ref f) = true) (hb : Binds X.K fd ps [])
    (ha : PA X (e :: es) (tA Z a)) (hdb : (x == ("__debug__" : Str)) = false := by decide) (he : starEach (e :: es) X.env = (false, eval e X.env) :: starEach es X.env := by rfl) (hpl : (backTo pos (starEach es X.env)).any (·.1) = false := by rfl) :
    PE X (.Call (.Name x p) (e :: es) [] pos) (tE Z (sCall F a)) := by
  refine PE.imp (pe_call Fk hr hg hm hk hb .nil pass0 ha hdb he hpl) fun σ H Q ⟨G, ρ, Q', R, h, q⟩ => ⟨G, ρ, _, R, h, fun vs G1 ρ1 H1 as le1 R1 ao hF => ?_⟩
  show spD XL F (vs ++ []) H1 Q E0
  rw [List.append_nil]
  refine ⟨G1.B, G1.fa, as, _, _, R1.rc.same, R1.rc.feed, ?_, hF, fun v H' B' val po pv hv => ?_, fun _ _ _ _ _ _ _ z => z.elim⟩
  · have mk : ∀ {as : List Ar} {vs : List V}, ArsOk G1 as vs → ArsOk (gs0 G1.B H1 G1.fa) as vs := fun {as vs} h => by
      induction h with
      | nil => exact .nil
      | @cons a v as vs h t ih =>
        refine .cons ?_ ih
        cases a <;> exact h
    exact mk ao
  · obtain ⟨G2, le2, R2, vo⟩ := R1.calledV po pv
    exact q v G2 ρ1 H' val (le1.trans le2) R2 vo hv
end
end Dv

/-! DvE: readings by data: operators, subscripts, slices, built-ins, methods. -/
namespace Dv
open PySem PySem.Spec L2
open PyProof.Rows hiding St

variable {Z : Zx} {X : Cx}

/-! ### arithmetic -/
def oAdd : O2 := fun d e k => match d, e with
  | .int i, .int j => k (.im (.int (i + j)))
  | .str a, .str b => a.length + b.length ≤ 16777216 ∧ k (.im (.str (a ++ b)))
  | .list xs, .list ys => xs.length + ys.length ≤ 16777216 ∧ k (.fr (xs ++ ys))
  | _, _ => False
def rStrAdd : R2 := fun x y H Q => ∃ i j, x = .str i ∧ y = .str j ∧ i.length + j.length ≤ sizeLine ∧ Q (.str (i ++ j)) H
theorem op_addD : OpR X (binaryOp .Add) (fun x y H Q => rI0 (fun i j => .int (i + j)) x y H Q ∨ rStrAdd x y H Q ∨ rCat x y H Q) := op_add.or (op_add_str.or op_cat)
theorem ok_add : Ok2 (fun x y H Q => rI0 (fun i j => .int (i + j)) x y H Q ∨ rStrAdd x y H Q ∨ rCat x y H Q) oAdd := fun Z G ρ σ H v w d e k Q R t u h q => by
  unfold oAdd at h
  split at h
  · rename_i i j
    exact .inl ⟨i, j, t.int, u.int, q (.im (.int (i + j))) _ G H (.refl G) R (.int _) h⟩
  · rename_i a b
    exact .inr (.inl ⟨a, b, t.str, u.str, h.1, q (.im (.str (a ++ b))) _ G H (.refl G) R (.str _) h.2⟩)
  · rename_i xs ys
    obtain ⟨p, vs, rfl, hp, ta⟩ := t
    obtain ⟨p2, vs2, rfl, hp2, ta2⟩ := u
    refine .inr (.inr ⟨p, p2, vs, vs2, rfl, rfl, hp, hp2, by rw [ta.length, ta2.length]; exact h.1, fun p3 h3 => ?_⟩)
    obtain ⟨R2, vo⟩ := R.frNew h3 (ta.append ta2)
    exact q _ _ G _ (.refl G) R2 vo h.2
  · exact h.elim
/-- ints in, a value out -/
def oI (C : Int → Int → Prop) (g : Int → Int → D) : O2 := fun d e k => match d, e with
  | .int i, .int j => C i j ∧ k (.im (g i j))
  | _, _ => False
def oI0 (g : Int → Int → D) : O2 := fun d e k => match d, e with
  | .int i, .int j => k (.im (g i j))
  | _, _ => False
theorem ok_I {C : Int → Int → Prop} {g : Int → Int → V} {gd : Int → Int → D} (hg : ∀ i j B, Dt B (g i j) (gd i j)) : Ok2 (rI C g) (oI C gd) := fun Z G ρ σ H v w d e k Q R t u h q => by
  unfold oI at h
  split at h
  · rename_i i j
    exact ⟨i, j, t.int, u.int, h.1, q (.im (gd i j)) _ G H (.refl G) R (hg i j G.B) h.2⟩
  · exact h.elim
theorem ok_I0 {g : Int → Int → V} {gd : Int → Int → D} (hg : ∀ i j B, Dt B (g i j) (gd i j)) : Ok2 (rI0 g) (oI0 gd) := fun Z G ρ σ H v w d e k Q R t u h q => by
  unfold oI0 at h
  split at h
  · rename_i i j
    exact ⟨i, j, t.int, u.int, q (.im (gd i j)) _ G H (.refl G) R (hg i j G.B) h⟩
  · exact h.elim
abbrev oSub : O2 := oI0 fun i j => .int (i - j)
theorem ok_sub : Ok2 (rI0 fun i j => .int (i - j)) oSub := ok_I0 fun _ _ _ => .int _
/-- a product of ints, or a list so many times -/
def oMul : O2 := fun d e k => match d, e with
  | .int i, .int j => CMul i j ∧ k (.im (.int (i * j)))
  | .list xs, .int n => (-(2 ^ 63) ≤ n ∧ n < 2 ^ 63 ∧ xs.length * n.toNat ≤ 16777216) ∧ k (.fr (List.replicate n.toNat xs).flatten)
  | _, _ => False
theorem DtA.rep {B : Hp} {vs : List V} {ds : List D} (h : DtA B vs ds) : ∀ n : Nat, DtA B (List.replicate n vs).flatten (List.replicate n ds).flatten
  | 0 => .nil
  | n + 1 => by
    rw [List.replicate_succ, List.replicate_succ, List.flatten_cons, List.flatten_cons]
    exact h.append (h.rep n)
theorem op_mulD : OpR X (binaryOp .Mult) (fun x y H Q => rI CMul (fun i j => .int (i * j)) x y H Q ∨ rRep x y H Q) := op_mul.or op_rep
theorem ok_mul : Ok2 (fun x y H Q => rI CMul (fun i j => .int (i * j)) x y H Q ∨ rRep x y H Q) oMul := fun Z G ρ σ H v w d e k Q R t u h q => by
  unfold oMul at h
  split at h
  · rename_i i j
    exact .inl ⟨i, j, t.int, u.int, h.1, q (.im (.int (i * j))) _ G H (.refl G) R (.int _) h.2⟩
  · rename_i xs n
    obtain ⟨p, vs, rfl, hp, ta⟩ := t
    refine .inr ⟨p, n, vs, rfl, u.int, hp, h.1.1, h.1.2.1, by rw [ta.length]; exact h.1.2.2, fun p3 h3 => ?_⟩
    obtain ⟨R2, vo⟩ := R.frNew h3 (ta.rep n.toNat)
    exact q _ _ G _ (.refl G) R2 vo h.2
  · exact h.elim
abbrev oFdiv : O2 := oI CDiv fun i j => .int (i / j)
theorem ok_fdiv : Ok2 (rI CDiv fun i j => .int (i / j)) oFdiv := ok_I fun _ _ _ => .int _
abbrev oMod : O2 := oI (fun _ j => 0 < j) fun i j => .int (i % j)
theorem ok_mod : Ok2 (rI (fun _ j => 0 < j) fun i j => .int (i % j)) oMod := ok_I fun _ _ _ => .int _
abbrev oPow : O2 := oI CPow fun i j => .int (i ^ j.toNat)
theorem ok_pow : Ok2 (rI CPow fun i j => .int (i ^ j.toNat)) oPow := ok_I fun _ _ _ => .int _
abbrev oShl : O2 := oI CPow fun i j => .int (i * 2 ^ j.toNat)
theorem ok_shl : Ok2 (rI CPow fun i j => .int (i * 2 ^ j.toNat)) oShl := ok_I fun _ _ _ => .int _
abbrev oShr : O2 := oI (fun _ j => 0 ≤ j) fun i j => .int (i / 2 ^ j.toNat)
theorem ok_shr : Ok2 (rI (fun _ j => 0 ≤ j) fun i j => .int (i / 2 ^ j.toNat)) oShr := ok_I fun _ _ _ => .int _
abbrev oBand : O2 := oI0 fun i j => .int (Builtin.bitAnd i j)
theorem ok_band : Ok2 (rI0 fun i j => .int (Builtin.bitAnd i j)) oBand := ok_I0 fun _ _ _ => .int _
def oNeg : O1 := fun d k => match d with | .int i => k (.im (.int (-i))) | _ => False
theorem ok_neg : Ok1 (rU fun i => .int (-i)) oNeg := fun Z G ρ σ H v d k Q R t h q => by
  unfold oNeg at h
  split at h
  · rename_i i
    exact ⟨i, t.int, q (.im (.int (-i))) _ G H (.refl G) R (.int _) h⟩
  · exact h.elim

/-! ### comparisons -/
theorem vo_bl {G : Gs} {H : Hp} {ρ : List Cell} {σ : St} (b : Bool) : VlOk G H ρ σ (.im (.bool b)) (.bl b) := Dt.bl b
def ng : Bool → Bool → Bool
  | true, b => !b
  | false, b => b
mutual
theorem Dp.plain {K : PySem.W.Frag} {H : Hp} : ∀ {v : V} {d : D}, Dp K H v d → d.plain = true
  | _, _, .non => rfl
  | _, _, .bl _ => rfl
  | _, _, .int _ => rfl
  | _, _, .str _ => rfl
  | _, _, .lst _ t => by
    simp only [PyData.plain]
    exact DpAll.plain t
  | _, _, .tup _ t => by
    simp only [PyData.plain]
    exact DpAll.plain t
theorem DpAll.plain {K : PySem.W.Frag} {H : Hp} : ∀ {vs : List V} {ds : List D}, DpAll K H vs ds → PyData.plainAll ds = true
  | _, _, .nil => rfl
  | _, _, .cons h t => by
    rw [PyData.plainAll, Dp.plain h, DpAll.plain t]
    rfl
end
def rEqP (K : PySem.W.Frag) : R2 := fun x y H Q => ∃ d e, Dp K H x d ∧ Dp K H y e ∧ min d.depth e.depth ≤ 60 ∧ Q (.bl (PyData.eqv d e)) H
def rNeP (K : PySem.W.Frag) : R2 := fun x y H Q => ∃ d e, Dp K H x d ∧ Dp K H y e ∧ min d.depth e.depth ≤ 60 ∧ Q (.bl (!PyData.eqv d e)) H
theorem op_eqP (hu : X.A.units + 64 < cLine) : OpR X (compareOp .Eq) (rEqP X.K) := by
  intro pins s σ H x y v u Q I rx ry h
  obtain ⟨d, e, hd, he, hm, q⟩ := h
  obtain ⟨as, r1⟩ := Dp.reads I d x v hd rx
  obtain ⟨bs, r2⟩ := Dp.reads I e y u he ry
  exact SeqAt.eq_plain r1 r2 (Dp.plain hd) (Dp.plain he) (by omega) ⟨.bl _, H, I, rfl, q⟩
theorem op_neP (hu : X.A.units + 64 < cLine) : OpR X (compareOp .NotEq) (rNeP X.K) := by
  intro pins s σ H x y v u Q I rx ry h
  obtain ⟨d, e, hd, he, hm, q⟩ := h
  obtain ⟨as, r1⟩ := Dp.reads I d x v hd rx
  obtain ⟨bs, r2⟩ := Dp.reads I e y u he ry
  exact SeqAt.ne_plain r1 r2 (Dp.plain hd) (Dp.plain he) (by omega) ⟨.bl _, H, I, rfl, q⟩
/-- ==: scalars, or data that is not too deep -/
def oEq : O2 := fun d e k => match d, e with
  | .int i, .int j => k (.im (.bool (decide (i = j))))
  | .str i, .str j => k (.im (.bool (decide (i = j))))
  | .bool i, .bool j => k (.im (.bool (decide (i = j))))
  | d, e => min d.depth e.depth ≤ 60 ∧ k (.im (.bool (PyData.eqv d e)))
def oNe : O2 := fun d e k => match d, e with
  | .int i, .int j => k (.im (.bool (!decide (i = j))))
  | .str i, .str j => k (.im (.bool (!decide (i = j))))
  | .bool i, .bool j => k (.im (.bool (!decide (i = j))))
  | d, e => min d.depth e.depth ≤ 60 ∧ k (.im (.bool (!PyData.eqv d e)))
theorem op_eqX (hu : X.A.units + 64 < cLine) : OpR X (compareOp .Eq) (fun x y H Q => rEq x y H Q ∨ rEqP X.K x y H Q) := op_eq.or (op_eqP hu)
theorem op_neX (hu : X.A.units + 64 < cLine) : OpR X (compareOp .NotEq) (fun x y H Q => rNe x y H Q ∨ rNeP X.K x y H Q) := op_ne.or (op_neP hu)
theorem ok_eq {K : PySem.W.Frag} : Ok2 (fun x y H Q => rEq x y H Q ∨ rEqP K x y H Q) oEq := fun Z G ρ σ H v w d e k Q R t u h q => by
  unfold oEq at h
  split at h
  · rename_i i j
    cases t.int
    cases u.int
    refine .inl ⟨rfl, ?_⟩
    rw [show decide (V.int i = V.int j) = decide (i = j) by simp]
    exact q _ _ G H (.refl G) R (vo_bl _) h
  · rename_i i j
    cases t.str
    cases u.str
    refine .inl ⟨rfl, ?_⟩
    rw [show decide (V.str i = V.str j) = decide (i = j) by simp]
    exact q _ _ G H (.refl G) R (vo_bl _) h
  · rename_i i j
    cases t.bool
    cases u.bool
    refine .inl ⟨rfl, ?_⟩
    rw [show decide (V.bl i = V.bl j) = decide (i = j) by simp]
    exact q _ _ G H (.refl G) R (vo_bl _) h
  · exact .inr ⟨d, e, t.dp R.rc.same, u.dp R.rc.same, h.1, q _ _ G H (.refl G) R (vo_bl _) h.2⟩
theorem ok_ne {K : PySem.W.Frag} : Ok2 (fun x y H Q => rNe x y H Q ∨ rNeP K x y H Q) oNe := fun Z G ρ σ H v w d e k Q R t u h q => by
  unfold oNe at h
  split at h
  · rename_i i j
    cases t.int
    cases u.int
    refine .inl ⟨rfl, ?_⟩
    rw [show decide (V.int i = V.int j) = decide (i = j) by simp]
    exact q _ _ G H (.refl G) R (vo_bl _) h
  · rename_i i j
    cases t.str
    cases u.str
    refine .inl ⟨rfl, ?_⟩
    rw [show decide (V.str i = V.str j) = decide (i = j) by simp]
    exact q _ _ G H (.refl G) R (vo_bl _) h
  · rename_i i j
    cases t.bool
    cases u.bool
    refine .inl ⟨rfl, ?_⟩
    rw [show decide (V.bl i = V.bl j) = decide (i = j) by simp]
    exact q _ _ G H (.refl G) R (vo_bl _) h
  · exact .inr ⟨d, e, t.dp R.rc.same, u.dp R.rc.same, h.1, q _ _ G H (.refl G) R (vo_bl _) h.2⟩
abbrev oLtI : O2 := oI0 fun i j => .bool (decide (i < j))
abbrev oLeI : O2 := oI0 fun i j => .bool (decide (i ≤ j))
abbrev oGtI : O2 := oI0 fun i j => .bool (decide (j < i))
abbrev oGeI : O2 := oI0 fun i j => .bool (decide (j ≤ i))
theorem ok_ltI : Ok2 (rI0 fun i j => .bl (decide (i < j))) oLtI := ok_I0 fun _ _ _ => .bl _
theorem ok_leI : Ok2 (rI0 fun i j => .bl (decide (i ≤ j))) oLeI := ok_I0 fun _ _ _ => .bl _
theorem ok_gtI : Ok2 (rI0 fun i j => .bl (decide (j < i))) oGtI := ok_I0 fun _ _ _ => .bl _
theorem ok_geI : Ok2 (rI0 fun i j => .bl (decide (j ≤ i))) oGeI := ok_I0 fun _ _ _ => .bl _
/-- is None, is True -/
def isNone : D → Bool
  | .none => true
  | _ => false
theorem Tp.non_iff {B H : Hp} {v : V} {d : D} (t : Tp B H v d) : decide (v = .non) = isNone d := by
  cases d with
  | none => cases t; rfl
  | bool b => cases t; rfl
  | int b => cases t; rfl
  | str b => cases t; rfl
  | list b => obtain ⟨p, vs, rfl, _⟩ := t; rfl
  | tuple b => obtain ⟨p, vs, rfl, _⟩ := t.tup; rfl
  | dict b => cases t
def oIs (neg : Bool) : O2 := fun d e k => match e with
  | .none => k (.im (.bool (ng neg (isNone d))))
  | .bool b => match d with
    | .bool a => k (.im (.bool (ng neg (decide (a = b)))))
    | _ => False
  | _ => False
def rIsN : R2 := fun x y H Q => y = .non ∧ Q (.bl (decide (x = .non))) H
def rNotN : R2 := fun x y H Q => y = .non ∧ Q (.bl (!decide (x = .non))) H
theorem op_isX : OpR X (compareOp .Is) (fun x y H Q => rIsN x y H Q ∨ rIsB x y H Q) := op_isN.or op_isBl
theorem op_notX : OpR X (compareOp .IsNot) (fun x y H Q => rNotN x y H Q ∨ rNotB x y H Q) := op_notN.or op_notBl
theorem ok_is : Ok2 (fun x y H Q => rIsN x y H Q ∨ rIsB x y H Q) (oIs false) := fun Z G ρ σ H v w d e k Q R t u h q => by
  unfold oIs at h
  split at h
  · cases u
    refine .inl ⟨rfl, ?_⟩
    rw [t.non_iff]
    exact q (.im (.bool (ng false (isNone d)))) _ G H (.refl G) R (vo_bl _) h
  · split at h
    · cases t.bool
      cases u.bool
      rename_i b _ a
      exact .inr ⟨a, b, rfl, rfl, q (.im (.bool (ng false (decide (a = b))))) _ G H (.refl G) R (vo_bl _) h⟩
    · exact h.elim
  · exact h.elim
theorem ok_isnot : Ok2 (fun x y H Q => rNotN x y H Q ∨ rNotB x y H Q) (oIs true) := fun Z G ρ σ H v w d e k Q R t u h q => by
  unfold oIs at h
  split at h
  · cases u
    refine .inl ⟨rfl, ?_⟩
    rw [t.non_iff]
    exact q (.im (.bool (ng true (isNone d)))) _ G H (.refl G) R (vo_bl _) h
  · split at h
    · cases t.bool
      cases u.bool
      rename_i b _ a
      exact .inr ⟨a, b, rfl, rfl, q (.im (.bool (ng true (decide (a = b))))) _ G H (.refl G) R (vo_bl _) h⟩
    · exact h.elim
  · exact h.elim
/-- in a list or a tuple; one sign in a text -/
def oIn (neg : Bool) : O2 := fun d e k => match e with
  | .list ds => min (PyData.depthAll ds) d.depth ≤ 60 ∧ k (.im (.bool (ng neg (ds.any fun z => PyData.eqv z d))))
  | .tuple ds => min (PyData.depthAll ds) d.depth ≤ 60 ∧ k (.im (.bool (ng neg (ds.any fun z => PyData.eqv z d))))
  | .str z => match d with
    | .str x => match x.cps.toList with
      | [c] => k (.im (.bool (ng neg (decide (c ∈ z.cps.toList)))))
      | _ => False
    | _ => False
  | _ => False
def rInP (K : PySem.W.Frag) (neg : Bool) : R2 := fun x y H Q => (∃ d ds, Dp K H x d ∧ (Dp K H y (.list ds) ∨ Dp K H y (.tuple ds)) ∧ min (PyData.depthAll ds) d.depth ≤ 60 ∧ Q (.bl (ng neg (ds.any fun z => PyData.eqv z d))) H) ∨
  ∃ (c : Nat) (z : Str), x = .str ⟨#[c]⟩ ∧ y = .str z ∧ Q (.bl (ng neg (decide (c ∈ z.cps.toList)))) H
theorem op_inP (hu : X.A.units + 64 < cLine) : OpR X (compareOp .In) (rInP X.K false) := by
  intro pins s σ H x y v u Q I rx ry h
  rcases h with ⟨d, ds, hd, he, hm, q⟩ | h
  · obtain ⟨as, r1⟩ := Dp.reads I d x v hd rx
    rcases he with he | he
    · obtain ⟨bs, r2⟩ := Dp.reads I (.list ds) y u he ry
      exact SeqAt.in_list_data r2 r1 (by simpa [PyData.plain] using Dp.plain he) (Dp.plain hd) (by omega) ⟨.bl _, H, I, rfl, q⟩
    · obtain ⟨bs, r2⟩ := Dp.reads I (.tuple ds) y u he ry
      exact SeqAt.in_tuple_data r2 r1 (by simpa [PyData.plain] using Dp.plain he) (Dp.plain hd) (by omega) ⟨.bl _, H, I, rfl, q⟩
  · exact op_in_sign pins s σ H x y v u Q I rx ry h
theorem op_notinP (hu : X.A.units + 64 < cLine) : OpR X (compareOp .NotIn) (rInP X.K true) := by
  intro pins s σ H x y v u Q I rx ry h
  rcases h with ⟨d, ds, hd, he, hm, q⟩ | h
  · obtain ⟨as, r1⟩ := Dp.reads I d x v hd rx
    rcases he with he | he
    · obtain ⟨bs, r2⟩ := Dp.reads I (.list ds) y u he ry
      exact SeqAt.notIn_list_data r2 r1 (by simpa [PyData.plain] using Dp.plain he) (Dp.plain hd) (by omega) ⟨.bl _, H, I, rfl, q⟩
    · obtain ⟨bs, r2⟩ := Dp.reads I (.tuple ds) y u he ry
      exact SeqAt.notIn_tuple_data r2 r1 (by simpa [PyData.plain] using Dp.plain he) (Dp.plain hd) (by omega) ⟨.bl _, H, I, rfl, q⟩
  · exact op_notIn_sign pins s σ H x y v u Q I rx ry h
theorem ok_inP {K : PySem.W.Frag} {neg : Bool} : Ok2 (rInP K neg) (oIn neg) := fun Z G ρ σ H v w d e k Q R t u h q => by
  unfold oIn at h
  split at h
  · rename_i ds
    exact .inl ⟨d, ds, t.dp R.rc.same, .inl (u.dp R.rc.same), h.1, q _ _ G H (.refl G) R (vo_bl _) h.2⟩
  · rename_i ds
    exact .inl ⟨d, ds, t.dp R.rc.same, .inr (u.dp R.rc.same), h.1, q _ _ G H (.refl G) R (vo_bl _) h.2⟩
  · rename_i z
    split at h
    · rename_i x
      split at h
      · rename_i c ec
        have ex : x = ⟨#[c]⟩ := by
          obtain ⟨⟨l⟩⟩ := x
          have : l = [c] := ec
          rw [this]
        exact .inr ⟨c, z, by rw [t.str, ex], u.str, q _ _ G H (.refl G) R (vo_bl _) h⟩
      · exact h.elim
    · exact h.elim
  · exact h.elim
abbrev ok_in {K : PySem.W.Frag} := @ok_inP K false
abbrev ok_notin {K : PySem.W.Frag} := @ok_inP K true

/-! ### subscripts, slices -/
def oIx : O2 := fun d e k => match e with
  | .int i => match d with
    | .list ds => match atI ds i with | some x => k (.im x) | none => False
    | .tuple ds => match atI ds i with | some x => k (.im x) | none => False
    | .str z => z.length ≤ 16777216 ∧ match atI z.cps.toList i with | some c => k (.im (.str ⟨#[c]⟩)) | none => False
    | _ => False
  | _ => False
theorem DtA.atI {B : Hp} {vs : List V} {ds : List D} {i : Int} {d : D} (t : DtA B vs ds) (h : L2.atI ds i = some d) : ∃ v, L2.atI vs i = some v ∧ Dt B v d := by
  unfold L2.atI at h ⊢
  rw [t.length]
  cases e : ixN ds.length i with
  | none => rw [e] at h; cases h
  | some j =>
    rw [e] at h
    exact t.get h
theorem ok_ix {K : PySem.W.Frag} : Ok2 (rIx K) oIx := fun Z G ρ σ H v w d e k Q R t u h q => by
  unfold oIx at h
  split at h
  · rename_i i
    have eu := u.int
    split at h
    · rename_i ds
      obtain ⟨p, vs, rfl, hp, ta⟩ := t
      split at h
      · rename_i x ex
        obtain ⟨y, ey, ty⟩ := ta.atI ex
        exact .inl ⟨p, vs, i, y, rfl, eu, SqL.of hp, ey, q (.im x) _ G H (.refl G) R ty h⟩
      · exact h.elim
    · rename_i ds
      obtain ⟨p, vs, rfl, hp, ta⟩ := t.tup
      split at h
      · rename_i x ex
        obtain ⟨y, ey, ty⟩ := ta.atI ex
        exact .inr (.inl ⟨p, vs, i, y, rfl, eu, SqT.of (R.rc.same _ _ hp), ey, q (.im x) _ G H (.refl G) R ty h⟩)
      · exact h.elim
    · rename_i z
      obtain ⟨h1, h⟩ := h
      split at h
      · rename_i c ec
        exact .inr (.inr ⟨z, i, c, t.str, eu, h1, ec, q (.im (.str ⟨#[c]⟩)) _ G H (.refl G) R (.str _) h⟩)
      · exact h.elim
    · exact h.elim
  · exact h.elim
abbrev SO := Rho → (Option Int → Rho → Prop) → Prop
def tO (Z : Zx) (f : SO) : TO := fun σ H Q => ∃ G ρ Q', Rel Z G ρ σ H ∧ f ρ Q' ∧ ∀ o G' ρ' H', G.le G' → Rel Z G' ρ' σ H' → Q' o ρ' → Q o H'
def pNo : SO := fun ρ Q => Q none ρ
def pSome (f : SR) : SO := fun ρ Q => f ρ fun x ρ1 => rs x ρ1 fun d => match d with | .int i => Q (some i) ρ1 | _ => False
theorem PO.imp {e : Option Expr} {t t' : TO} (h : PO X e t) (i : ∀ σ H Q, t' σ H Q → t σ H Q) : PO X e t' := ⟨fun pins s σ H Q I q => h.run pins s σ H Q I (i σ H Q q)⟩
theorem eo_none : PO X none (tO Z pNo) := PO.imp po_none fun σ H Q ⟨G, ρ, Q', R, h, q⟩ => q none G ρ H (.refl G) R h
theorem eo_some {e : Expr} {f : SR} (he : PE X e (tR Z f)) : PO X (some e) (tO Z (pSome f)) := by
  refine PO.imp (po_some he) fun σ H Q ⟨G, ρ, Q', R, h, q⟩ => ⟨G, ρ, _, R, h, fun v G1 ρ1 H1 op le1 R1 oo hq => ?_⟩
  obtain ⟨d, t, hk⟩ := R1.rs oo hq
  split at hk
  · rename_i i
    exact ⟨i, t.int, q (some i) G1 ρ1 H1 le1 R1 hk⟩
  · exact hk.elim
/-- a cut by Python's bounds -/
def cutD {α : Type} (xs : List α) (lo hi : Option Int) : List α := (xs.drop (HT.sIx xs.length 0 lo)).take (HT.sIx xs.length xs.length hi - HT.sIx xs.length 0 lo)
def oSl (lo hi : Option Int) : O1 := fun d k => match d with
  | .list ds => k (.fr (cutD ds lo hi))
  | .tuple ds => ¬ (HT.sIx ds.length 0 lo = 0 ∧ HT.sIx ds.length ds.length hi = ds.length) ∧ k (.im (.tuple (cutD ds lo hi)))
  | .str z => z.length ≤ 16777216 ∧ k (.im (.str (cutS z lo hi)))
  | _ => False
def sSl (g : SR) (lo hi : SO) : SE := fun ρ Q => g ρ fun x ρ1 => lo ρ1 fun l ρ2 => hi ρ2 fun u ρ3 => rs x ρ3 fun d => oSl l u d fun v => Q v ρ3
theorem DtA.cut {B : Hp} {vs : List V} {ds : List D} (t : DtA B vs ds) (lo hi : Option Int) : DtA B (cutV vs lo hi) (cutD ds lo hi) := by
  unfold cutV cutD
  rw [t.length]
  exact (t.drop _).take _
theorem sl_any : SlR X (fun x lo hi H Q => rSlL X.K x lo hi H Q ∨ rSlT X.K x lo hi H Q ∨ rSlS x lo hi H Q) := sl_list.or (sl_tup.or sl_str)
theorem ev_slice {e : Expr} {lo hi : Option Expr} {g : SR} {sl sh : SO} {p2 pos : Pos} (he : PE X e (tR Z g)) (hl : PO X lo (tO Z sl)) (hu : PO X hi (tO Z sh)) : PE X (.Subscript e (.Slice lo hi none p2) pos) (tE Z (sSl g sl sh)) := by
  refine PE.imp (pe_slice sl_any he hl hu) fun σ H Q ⟨G, ρ, Q', R, h, q⟩ => ⟨G, ρ, _, R, h, fun v G1 ρ1 H1 op le1 R1 oo hq => ?_⟩
  refine ⟨G1, ρ1, _, R1, hq, fun l G2 ρ2 H2 le2 R2 hq2 => ⟨G2, ρ2, _, R2, hq2, fun u G3 ρ3 H3 le3 R3 hq3 => ?_⟩⟩
  obtain ⟨d, t, hk⟩ := R3.rs ((oo.mono le2).mono le3) hq3
  have le : G.le G3 := (le1.trans le2).trans le3
  unfold oSl at hk
  split at hk
  · rename_i ds
    obtain ⟨p, vs, rfl, hp, ta⟩ := t
    refine .inl ⟨p, vs, rfl, SqL.of hp, fun p3 h3 => ?_⟩
    obtain ⟨R4, vo⟩ := R3.frNew h3 (ta.cut l u)
    exact q _ G3 ρ3 _ _ le R4 vo hk
  · rename_i ds
    obtain ⟨p, vs, rfl, hp, ta⟩ := t.tup
    refine .inr (.inl ⟨p, vs, rfl, SqT.of (R3.rc.same _ _ hp), by rw [ta.length]; exact hk.1, fun p3 h3 => ?_⟩)
    obtain ⟨G4, le4, R4, e⟩ := R3.new (o := .tup (cutV vs l u)) h3
    exact q _ G4 ρ3 _ (.im (.tuple (cutD ds l u))) (le.trans le4) R4 (.tup e ((ta.cut l u).mono le4.same)) hk.2
  · rename_i z
    exact .inr (.inr ⟨z, t.str, hk.1, q _ G3 ρ3 H3 (.im (.str (cutS z l u))) le R3 (.str _) hk.2⟩)
  · exact hk.elim
end Dv

/-! DvF: readings by data: built-ins, methods, own lists changed. -/
namespace Dv
open PySem PySem.Spec L2
open PyProof.Rows hiding St

variable {Z : Zx} {X : Cx}

/-! ### built-ins of one and of two operands -/
section
variable {e e2 : Expr} {g h : SR} {x : Str} {p pos : Pos} {id T : String} {r : List V → Hp → VK → Prop}
theorem t_cb1 {o : O1} (ok : Ok1 (fun v H Q => r [v] H Q) o) : ∀ σ H Q, tE Z (s1 o g) σ H Q → tCB r (tCons (tR Z g) tNil) σ H Q := fun σ H Q q => t_un ok σ H Q q
theorem t_cb2 {o : O2} (ok : Ok2 (fun v w H Q => r [v, w] H Q) o) : ∀ σ H Q, tE Z (s2 o g h) σ H Q → tCB r (tCons (tR Z g) (tCons (tR Z h) tNil)) σ H Q := fun σ H Q q => t_op ok σ H Q q
theorem ev_b1 {o : O1} (hc : CallR X (.builtin id) r) (ok : Ok1 (fun v H Q => r [v] H Q) o) (hg : Gl X x) (hm : X.mg x = none) (hv : bootBuiltins x = some (.builtin id)) (he : PE X e (tR Z g)) (hn : x ≠ "__name__" := by decide) (hdb : (x == ("__debug__" : Str)) = false := by decide)
    (hs : starEach (e :: []) X.env = (false, eval e X.env) :: starEach [] X.env := by rfl) (hpl : (backTo pos (starEach [] X.env)).any (·.1) = false := by rfl) : PE X (.Call (.Name x p) [e] [] pos) (tE Z (s1 o g)) :=
  PE.imp (pe_callB hc hg hm hv (pa_cons he pa_nil hs) hn hdb hs hpl) (t_cb1 ok)
theorem ev_t1 {o : O1} (hc : CallR X (.type T) r) (ok : Ok1 (fun v H Q => r [v] H Q) o) (hg : Gl X x) (hm : X.mg x = none) (hv : bootBuiltins x = some (.type T)) (he : PE X e (tR Z g)) (hn : x ≠ "__name__" := by decide) (hdb : (x == ("__debug__" : Str)) = false := by decide)
    (hs : starEach (e :: []) X.env = (false, eval e X.env) :: starEach [] X.env := by rfl) (hpl : (backTo pos (starEach [] X.env)).any (·.1) = false := by rfl) : PE X (.Call (.Name x p) [e] [] pos) (tE Z (s1 o g)) :=
  PE.imp (pe_callTy hc hg hm hv (pa_cons he pa_nil hs) hn hdb hs hpl) (t_cb1 ok)
theorem ev_b2 {o : O2} (hc : CallR X (.builtin id) r) (ok : Ok2 (fun v w H Q => r [v, w] H Q) o) (hg : Gl X x) (hm : X.mg x = none) (hv : bootBuiltins x = some (.builtin id)) (he : PE X e (tR Z g)) (he2 : PE X e2 (tR Z h)) (hn : x ≠ "__name__" := by decide) (hdb : (x == ("__debug__" : Str)) = false := by decide)
    (hs : starEach (e :: [e2]) X.env = (false, eval e X.env) :: starEach [e2] X.env := by rfl) (hs2 : starEach (e2 :: []) X.env = (false, eval e2 X.env) :: starEach [] X.env := by rfl) (hpl : (backTo pos (starEach [e2] X.env)).any (·.1) = false := by rfl) : PE X (.Call (.Name x p) [e, e2] [] pos) (tE Z (s2 o g h)) :=
  PE.imp (pe_callB hc hg hm hv (pa_cons he (pa_cons he2 pa_nil hs2) hs) hn hdb hs hpl) (t_cb2 ok)
end
def oLen : O1 := fun d k => match d with
  | .list ds => k (.im (.int ds.length))
  | .tuple ds => k (.im (.int ds.length))
  | .str z => z.length ≤ 16777216 ∧ k (.im (.int z.length))
  | _ => False
theorem ok_len {K : PySem.W.Frag} : Ok1 (fun v H Q => (fun xs H Q => ∃ x n, xs = [x] ∧ LenV K x H n ∧ Q (.int n) H) [v] H Q) oLen := fun Z G ρ σ H v d k Q R t h q => by
  unfold oLen at h
  split at h
  · rename_i ds
    obtain ⟨p, vs, rfl, hp, ta⟩ := t
    exact ⟨_, ds.length, rfl, .inl ⟨vs, SqL.of hp, ta.length.symm⟩, q (.im (.int ds.length)) _ G H (.refl G) R (.int _) h⟩
  · rename_i ds
    obtain ⟨p, vs, rfl, hp, ta⟩ := t.tup
    exact ⟨_, ds.length, rfl, .inr ⟨vs, SqT.of (R.rc.same _ _ hp), ta.length.symm⟩, q (.im (.int ds.length)) _ G H (.refl G) R (.int _) h⟩
  · rename_i z
    cases t.str
    exact ⟨_, z.length, rfl, ⟨h.1, rfl⟩, q (.im (.int z.length)) _ G H (.refl G) R (.int _) h.2⟩
  · exact h.elim
def oAbs : O1 := fun d k => match d with | .int i => k (.im (.int (if i < 0 then -i else i))) | _ => False
theorem ok_abs : Ok1 (fun v H Q => (fun (xs : List V) (H : Hp) (Q : VK) => ∃ i, xs = [.int i] ∧ Q (.int (if i < 0 then -i else i)) H) [v] H Q) oAbs := fun Z G ρ σ H v d k Q R t h q => by
  unfold oAbs at h
  split at h
  · rename_i i
    cases t.int
    exact ⟨i, rfl, q (.im (.int (if i < 0 then -i else i))) _ G H (.refl G) R (.int _) h⟩
  · exact h.elim
def oInt : O1 := fun d k => match d with
  | .int i => k (.im (.int i))
  | .bool b => k (.im (.int (if b then 1 else 0)))
  | _ => False
theorem ok_int : Ok1 (fun v H Q => (fun (xs : List V) (H : Hp) (Q : VK) => (∃ i, xs = [.int i] ∧ Q (.int i) H) ∨ ∃ k, xs = [.bl k] ∧ Q (.int (if k then 1 else 0)) H) [v] H Q) oInt := fun Z G ρ σ H v d k Q R t h q => by
  unfold oInt at h
  split at h
  · rename_i i
    cases t.int
    exact .inl ⟨i, rfl, q (.im (.int i)) _ G H (.refl G) R (.int _) h⟩
  · rename_i b
    cases t.bool
    exact .inr ⟨b, rfl, q (.im (.int (if b then 1 else 0))) _ G H (.refl G) R (.int _) h⟩
  · exact h.elim
abbrev oMax2 : O2 := oI0 fun i j => .int (if j > i then j else i)
abbrev oMin2 : O2 := oI0 fun i j => .int (if j < i then j else i)
theorem ok_max2 : Ok2 (fun v w H Q => (fun (xs : List V) (H : Hp) (Q : VK) => ∃ i j, xs = [.int i, .int j] ∧ Q (.int (if j > i then j else i)) H) [v, w] H Q) oMax2 := fun Z G ρ σ H v w d e k Q R t u h q => by
  unfold oMax2 oI0 at h
  split at h
  · rename_i i j
    cases t.int
    cases u.int
    exact ⟨i, j, rfl, q (.im (.int (if j > i then j else i))) _ G H (.refl G) R (.int _) h⟩
  · exact h.elim
theorem ok_min2 : Ok2 (fun v w H Q => (fun (xs : List V) (H : Hp) (Q : VK) => ∃ i j, xs = [.int i, .int j] ∧ Q (.int (if j < i then j else i)) H) [v, w] H Q) oMin2 := fun Z G ρ σ H v w d e k Q R t u h q => by
  unfold oMin2 oI0 at h
  split at h
  · rename_i i j
    cases t.int
    cases u.int
    exact ⟨i, j, rfl, q (.im (.int (if j < i then j else i))) _ G H (.refl G) R (.int _) h⟩
  · exact h.elim
/-- a list of ints -/
abbrev dI (ns : List Int) : D := .list (ns.map .int)
theorem Tp.ints {B H : Hp} {v : V} {ns : List Int} (t : Tp B H v (dI ns)) : ∃ p, v = .ref p ∧ H p = some (.lst (ns.map V.int)) := by
  obtain ⟨p, vs, rfl, hp, ta⟩ := t
  rw [ta.ints] at hp
  exact ⟨p, rfl, hp⟩
def oSum : O1 := fun d k => ∃ ns : List Int, d = dI ns ∧ k (.im (.int ns.sum))
theorem ok_sum {K : PySem.W.Frag} : Ok1 (fun v H Q => rSum K [v] H Q) oSum := fun Z G ρ σ H v d k Q R t ⟨ns, e, h⟩ q => by
  subst e
  obtain ⟨p, rfl, hp⟩ := t.ints
  exact ⟨p, ns, rfl, SqL.of hp, q (.im (.int ns.sum)) _ G H (.refl G) R (.int _) h⟩
def oMax1 : O1 := fun d k => ∃ ns : List Int, d = dI ns ∧ 0 < ns.length ∧ ∀ m, m ∈ ns → (∀ y, y ∈ ns → y ≤ m) → k (.im (.int m))
theorem ok_max1 {K : PySem.W.Frag} : Ok1 (fun v H Q => rMax K [v] H Q) oMax1 := fun Z G ρ σ H v d k Q R t ⟨ns, e, h0, h⟩ q => by
  subst e
  obtain ⟨p, rfl, hp⟩ := t.ints
  exact ⟨p, ns, rfl, SqL.of hp, h0, fun m h1 h2 => q (.im (.int m)) _ G H (.refl G) R (.int _) (h m h1 h2)⟩
def oMin1 : O1 := fun d k => ∃ ns : List Int, d = dI ns ∧ 0 < ns.length ∧ ∀ m, m ∈ ns → (∀ y, y ∈ ns → m ≤ y) → k (.im (.int m))
theorem ok_min1 {K : PySem.W.Frag} : Ok1 (fun v H Q => rMin K [v] H Q) oMin1 := fun Z G ρ σ H v d k Q R t ⟨ns, e, h0, h⟩ q => by
  subst e
  obtain ⟨p, rfl, hp⟩ := t.ints
  exact ⟨p, ns, rfl, SqL.of hp, h0, fun m h1 h2 => q (.im (.int m)) _ G H (.refl G) R (.int _) (h m h1 h2)⟩
def oAll : O1 := fun d k => ∃ bs : List Bool, d = .list (bs.map .bool) ∧ k (.im (.bool (bs.all id)))
def oAny : O1 := fun d k => ∃ bs : List Bool, d = .list (bs.map .bool) ∧ k (.im (.bool (bs.any id)))
theorem ok_all {K : PySem.W.Frag} : Ok1 (fun v H Q => rAll K [v] H Q) oAll := fun Z G ρ σ H v d k Q R t ⟨bs, e, h⟩ q => by
  subst e
  obtain ⟨p, vs, rfl, hp, ta⟩ := t
  rw [ta.bls] at hp
  exact ⟨p, bs, rfl, SqL.of hp, q _ _ G H (.refl G) R (vo_bl _) h⟩
theorem ok_any {K : PySem.W.Frag} : Ok1 (fun v H Q => rAny K [v] H Q) oAny := fun Z G ρ σ H v d k Q R t ⟨bs, e, h⟩ q => by
  subst e
  obtain ⟨p, vs, rfl, hp, ta⟩ := t
  rw [ta.bls] at hp
  exact ⟨p, bs, rfl, SqL.of hp, q _ _ G H (.refl G) R (vo_bl _) h⟩
/-- sorted ints -/
def srt (ns : List Int) : List Int := ns.mergeSort fun a b => decide (a ≤ b)
theorem srt_perm (ns : List Int) : (srt ns).Perm ns := List.mergeSort_perm ns _
theorem srt_pw (ns : List Int) : (srt ns).Pairwise (· ≤ ·) := by
  have := List.pairwise_mergeSort (le := fun a b : Int => decide (a ≤ b)) (fun a b c h1 h2 => by simp at *; omega) (fun a b => by simp; omega) ns
  exact this.imp fun h => by simpa using h
theorem srt_eq {ns ms : List Int} (h1 : ms.Perm ns) (h2 : ms.Pairwise (· ≤ ·)) : ms = srt ns :=
  List.Perm.eq_of_pairwise (le := (· ≤ ·)) (fun a b _ _ h1 h2 => Int.le_antisymm h1 h2) h2 (srt_pw ns) (h1.trans (srt_perm ns).symm)
def oSorted : O1 := fun d k => ∃ ns : List Int, d = dI ns ∧ k (.fr ((srt ns).map .int))
theorem ok_sorted {K : PySem.W.Frag} : Ok1 (fun v H Q => rSortedI K [v] H Q) oSorted := fun Z G ρ σ H v d k Q R t ⟨ns, e, h⟩ q => by
  subst e
  obtain ⟨p, rfl, hp⟩ := t.ints
  refine ⟨p, ns, rfl, SqL.of hp, fun ns' p2 h1 h2 h3 => ?_⟩
  rw [srt_eq h1 h2]
  obtain ⟨R2, vo⟩ := R.frNew h3 (DtA.of_ints (B := G.B) (srt ns))
  exact q _ _ G _ (.refl G) R2 vo h
def oList : O1 := fun d k => match d with
  | .list ds => k (.fr ds)
  | .tuple ds => k (.fr ds)
  | _ => False
theorem ok_list {K : PySem.W.Frag} : Ok1 (fun v H Q => (fun xs H Q => ∃ p ys, xs = [.ref p] ∧ (SqL K H p ys ∨ SqT K H p ys) ∧ ∀ l, H l = none → Q (.ref l) (upd H l (.lst ys))) [v] H Q) oList := fun Z G ρ σ H v d k Q R t h q => by
  unfold oList at h
  split at h
  · rename_i ds
    obtain ⟨p, vs, rfl, hp, ta⟩ := t
    refine ⟨p, vs, rfl, .inl (SqL.of hp), fun l hl => ?_⟩
    obtain ⟨R2, vo⟩ := R.frNew hl ta
    exact q _ _ G _ (.refl G) R2 vo h
  · rename_i ds
    obtain ⟨p, vs, rfl, hp, ta⟩ := t.tup
    refine ⟨p, vs, rfl, .inr (SqT.of (R.rc.same _ _ hp)), fun l hl => ?_⟩
    obtain ⟨R2, vo⟩ := R.frNew hl ta
    exact q _ _ G _ (.refl G) R2 vo h
  · exact h.elim
def oTuple : O1 := fun d k => match d with
  | .list ds => k (.im (.tuple ds))
  | .tuple ds => k (.im (.tuple ds))
  | _ => False
theorem ok_tuple {K : PySem.W.Frag} : Ok1 (fun v H Q => (fun xs H Q => ∃ p ys, xs = [.ref p] ∧ ((SqL K H p ys ∧ ∀ l, H l = none → Q (.ref l) (upd H l (.tup ys))) ∨ (SqT K H p ys ∧ Q (.ref p) H))) [v] H Q) oTuple := fun Z G ρ σ H v d k Q R t h q => by
  unfold oTuple at h
  split at h
  · rename_i ds
    obtain ⟨p, vs, rfl, hp, ta⟩ := t
    refine ⟨p, vs, rfl, .inl ⟨SqL.of hp, fun l hl => ?_⟩⟩
    obtain ⟨G2, le, R2, e⟩ := R.new (o := .tup vs) hl
    exact q (.im (.tuple ds)) _ G2 _ le R2 (.tup e (ta.mono le.same)) h
  · rename_i ds
    obtain ⟨p, vs, rfl, hp, ta⟩ := t.tup
    exact ⟨p, vs, rfl, .inr ⟨SqT.of (R.rc.same _ _ hp), q (.im (.tuple ds)) _ G H (.refl G) R (.tup hp ta) h⟩⟩
  · exact h.elim
/-- list(range(..)) -/
def sLstRg (t : SDs) : SE := fun ρ Q => t ρ fun ds ρ1 => match ds with
  | [.int n] => RgOk 0 n ∧ Q (.fr (rngD 0 n.toNat)) ρ1
  | [.int i, .int j] => RgOk i j ∧ Q (.fr (rngD i (j - i).toNat)) ρ1
  | _ => False

/-! ### isinstance -/
def tyName : D → String
  | .none => "NoneType"
  | .bool _ => "bool"
  | .int _ => "int"
  | .str _ => "str"
  | .list _ => "list"
  | .tuple _ => "tuple"
  | .dict _ => "dict"
def isiT (n T : String) : Bool := decide (n = T) || (decide (n = "bool") && decide (T = "int"))
abbrev isiD (d : D) (T : String) : Bool := isiT (tyName d) T
theorem Tp.ty {K : PySem.W.Frag} {B H : Hp} (sm : Same B H) {v : V} {d : D} (t : Tp B H v d) : TyX K H v (.type (tyName d)) := by
  cases d with
  | none => cases t; exact .base .non
  | bool b => cases t; exact .base (.bl b)
  | int b => cases t; exact .base (.int b)
  | str b => cases t; exact .base (.str b)
  | list b =>
    obtain ⟨p, vs, rfl, hp, _⟩ := t
    exact .base (.lst hp)
  | tuple b =>
    obtain ⟨p, vs, rfl, hp, _⟩ := t.tup
    exact .base (.tup (sm _ _ hp))
  | dict b => cases t
def oIsi (T : String) : O1 := fun d k => k (.im (.bool (isiD d T)))
theorem kit_isi : ∀ n ∈ ["NoneType", "bool", "int", "str", "list", "tuple"], ∀ T ∈ ["int", "bool", "list", "tuple", "str"], kitB n T = some (isiT n T) := by decide +kernel
theorem ev_isi {e : Expr} {g : SR} {p p2 pos : Pos} (T : String) (hT : T ∈ ["int", "bool", "list", "tuple", "str"]) (hg : Gl X "isinstance") (hm : X.mg "isinstance" = none) (hg2 : Gl X (Str.ofString T)) (hm2 : X.mg (Str.ofString T) = none) (hv2 : bootBuiltins (Str.ofString T) = some (.type T)) (he : PE X e (tR Z g))
    (hn : (Str.ofString T) ≠ "__name__" := by decide) (hd : ((Str.ofString T) == ("__debug__" : Str)) = false := by decide)
    (hs : starEach (e :: [.Name (Str.ofString T) p2]) X.env = (false, eval e X.env) :: starEach [.Name (Str.ofString T) p2] X.env := by rfl) : PE X (.Call (.Name "isinstance" p) [e, .Name (Str.ofString T) p2] [] pos) (tE Z (s1 (oIsi T) g)) := by
  refine PE.imp (pe_callB call_isi hg hm (by decide +kernel) (pa_cons he (pa_cons (pe_bltn (v := .ty T) hg2 hm2 hv2 rfl hn hd) pa_nil (by rfl)) hs) (by decide) (by decide) hs (by rfl)) fun σ H Q ⟨G, ρ, Q', R, h, q⟩ => ⟨G, ρ, _, R, h, fun v G1 ρ1 H1 op le1 R1 oo hq => ?_⟩
  obtain ⟨d, t, hk⟩ := R1.rs oo hq
  refine ⟨v, .ty T, .type (tyName d), .type T, isiD d T, rfl, .ty T, t.ty R1.rc.same, kit_ty (kit_isi _ ?_ T hT), q _ G1 ρ1 H1 _ le1 R1 (vo_bl _) hk⟩
  cases d with
  | dict k => cases t
  | _ => simp [tyName]

/-! ### own lists changed -/
section
variable {G : Gs} {ρ : List Cell} {σ : St} {H : Hp} {i : Nat} {ds ds' : List D} {v : V}
/-- what is known of a slot's own list -/
theorem RelC.own (R : RelC G ρ σ H) (h : ρ[i]? = some (.mu ds)) (hv : σ[i]? = some (some v)) : ∃ p vs, v = .ref p ∧ H p = some (.lst vs) ∧ DtA G.B vs ds := by
  obtain ⟨p, vs, e, _, _, _, hp, t⟩ := R.cells i _ _ h hv
  cases e
  exact ⟨p, vs, rfl, hp, t⟩
theorem RelC.mut {p : Addr} {vs' : List V} (R : RelC G ρ σ H) (h : ρ[i]? = some (.mu ds)) (hv : σ[i]? = some (some (.ref p))) (t : DtA G.B vs' ds') : RelC G (ρ.set i (.mu ds')) σ (upd H p (.lst vs')) := by
  obtain ⟨p', vs, e, hB, h0, hf, hp, _⟩ := R.cells i _ _ h hv
  cases e
  have hr : NoPr G p := fun o e => (R.priv p o e).2.2.2.2 i ds h hv
  have R1 : RelC G (ρ.set i .un) σ H := R.weak (by simp) fun j c' e => by
    rcases getElem?_set_cases e with ⟨_, e2⟩ | ⟨_, e2⟩
    · exact .inl e2.symm
    · exact .inr e2
  have hm : NoMu (ρ.set i .un) σ p := fun j es e1 e2 => by
    rcases getElem?_set_cases e1 with ⟨_, e3⟩ | ⟨ne, e3⟩
    · cases e3
    · exact R.dist i j p ds es ne h e3 hv e2
  have R2 := R1.put (o := .lst vs') hB h0 hf hm hr
  refine ⟨R2.same, R2.same0, R2.old, R2.newB, by rw [← R2.len]; simp, fun j c x e1 e2 => ?_, fun j k q d1 d2 ne e1 e2 e3 e4 => ?_, R2.feed, fun q o e => ?_, R2.fa0⟩
  · rcases getElem?_set_cases e1 with ⟨e3, e4⟩ | ⟨ne, e3⟩
    · subst e3 e4
      rw [hv] at e2
      cases e2
      exact ⟨p, vs', rfl, hB, h0, hf, upd_same, t⟩
    · exact R2.cells j c x (by rw [List.getElem?_set_ne ne]; exact e3) e2
  · have key : ∀ a b d1, a ≠ b → i = a → (ρ.set i (.mu ds'))[b]? = some (.mu d1) → σ[a]? = some (some (.ref q)) → σ[b]? = some (some (.ref q)) → False := fun a b d1 nab ia hb ha hb2 => by
      subst ia
      rw [hv] at ha
      cases ha
      rcases getElem?_set_cases hb with ⟨z, _⟩ | ⟨_, hb'⟩
      · exact nab z
      · exact R.dist i b p ds d1 nab h hb' hv hb2
    rcases getElem?_set_cases e1 with ⟨e5, _⟩ | ⟨n1, e5⟩
    · exact key j k d2 ne e5 e2 e3 e4
    · rcases getElem?_set_cases e2 with ⟨e6, _⟩ | ⟨n2, e6⟩
      · exact key k j d1 (Ne.symm ne) e6 e1 e4 e3
      · exact R.dist j k q d1 d2 ne e5 e6 e3 e4
  · obtain ⟨h1, h2, h3, h4, h5⟩ := R2.priv q o e
    refine ⟨h1, h2, h3, h4, fun j es e1 => ?_⟩
    rcases getElem?_set_cases e1 with ⟨e5, e6⟩ | ⟨n1, e5⟩
    · subst e5
      intro z
      rw [hv] at z
      cases z
      exact hr o e
    · exact h5 j es (by rw [List.getElem?_set_ne n1]; exact e5)
end
/-- a method of a slot's own list: what becomes of the list, what is handed back -/
abbrev OM := List D → List D → (List D → Vl → Prop) → Prop
def sMeth (i : Nat) (t : SDs) (o : OM) : SE := fun ρ Q => (match ρ.c[i]? with | some (.mu _) => True | _ => False) ∧ t ρ fun as ρ1 => match ρ1.c[i]? with
  | some (.mu ds) => o ds as fun ds' r => Q r ⟨ρ1.c.set i (.mu ds'), ρ1.x⟩
  | _ => False
/-- what a method's rule of HandS must do -/
def OkM (r : V → List V → Hp → VK → Prop) (o : OM) : Prop := ∀ (B H : Hp) (p : Addr) (vs ws : List V) (ds as : List D) (k : List D → Vl → Prop) (Q : VK), Same B H → H p = some (.lst vs) → DtA B vs ds → DtA B ws as → o ds as k →
  (∀ vs' ds' v d, DtA B vs' ds' → Dt B v d → k ds' (.im d) → Q v (upd H p (.lst vs'))) → r (.ref p) ws H Q
theorem t_meth {i : Nat} {t : SDs} {o : OM} {r : V → List V → Hp → VK → Prop} {K : PySem.W.Frag} (ok : OkM r o) {ta : TA} (ha : ∀ σ H Q, tDs Z t σ H Q → ta σ H Q) :
    ∀ σ H Q, tE Z (sMeth i t o) σ H Q → tBM K "list" r (tVar i) ta σ H Q := fun σ H Q ⟨G, ρ, Q', R, ⟨h0, h⟩, q⟩ => by
  split at h0
  · rename_i ds0 e0
    have hi : i < σ.length := by rw [← R.rc.len]; exact (List.getElem?_eq_some_iff.mp e0).1
    obtain ⟨p, vs, e, _, _, _, hp, _⟩ := R.rc.cells i _ _ e0 (List.getElem?_eq_getElem hi)
    have hv : σ[i]? = some (some (.ref p)) := by rw [List.getElem?_eq_getElem hi, e]
    refine ⟨.ref p, hv, .inl ⟨rfl, vs, SqL.of hp⟩, ha σ H _ ⟨G, ρ, _, R, h, fun ws G1 ρ1 H1 as le1 R1 ta hq => ?_⟩⟩
    split at hq
    · rename_i ds e1
      obtain ⟨p', vs', e', hp', t'⟩ := R1.rc.own e1 hv
      cases e'
      exact ok G1.B H1 p vs' ws ds as _ Q R1.rc.same hp' t' ta hq fun vs2 ds2 v d t2 td hk => q v G1 _ _ (.im d) le1 (R1.up (.refl G1) (R1.rc.mut e1 hv t2)) td hk
    · exact hq.elim
  · exact h0.elim
section
variable {e : Expr} {es : List Expr} {name x : Str} {apos cpos p : Pos} {id : String} {r : V → List V → Hp → VK → Prop} {o : OM} {t : SDs}
theorem ev_meth (i : Nat) (pa : PlainAttrs "list") (slot : Slot "list" name id) (hty : typeOf (.builtin id) = pure (.type "method_descriptor")) (hm : MtR X id r) (ok : OkM r o) (ho : PE X (.Name x p) (tVar i)) (ha : PA X (e :: es) (tDs Z t))
    (hbase : attributeBase (.Name x p) name X.env (eval (.Name x p) X.env) = eval (.Name x p) X.env := by rfl)
    (hfew : ((backTo cpos (starEach (e :: es) X.env)).all (fun x => !x.1) && (backToKw cpos (keywordEach [] X.env)).all (fun x => x.1.isSome)
      && decide ((e :: es).length + ([] : List Keyword).length + (if ([] : List Keyword).isEmpty then 0 else 1) < 30)) = true := by rfl)
    (hline : (apos.endLine == cpos.line) = true := by rfl) (hs : starEach (e :: es) X.env = (false, eval e X.env) :: starEach es X.env := by rfl) (hplain : (backTo cpos (starEach es X.env)).any (·.1) = false := by rfl) :
    PE X (.Call (.Attribute (.Name x p) name apos) (e :: es) [] cpos) (tE Z (sMeth i t o)) :=
  PE.imp (pe_bm pa slot hty hm ho ha hbase hfew hline hs hplain) (t_meth ok fun σ H Q q => q)
theorem ev_meth0 (i : Nat) (pa : PlainAttrs "list") (slot : Slot "list" name id) (hty : typeOf (.builtin id) = pure (.type "method_descriptor")) (hm : MtR X id r) (ok : OkM r o) (ho : PE X (.Name x p) (tVar i))
    (hbase : attributeBase (.Name x p) name X.env (eval (.Name x p) X.env) = eval (.Name x p) X.env := by rfl) (hline : (apos.endLine == cpos.line) = true := by rfl) :
    PE X (.Call (.Attribute (.Name x p) name apos) [] [] cpos) (tE Z (sMeth i dNil o)) :=
  PE.imp (pe_bm0 pa slot hty hm ho hbase hline) fun σ H Q h => t_meth (K := X.K) (ta := tNil) ok (fun σ H Q ⟨G, ρ, Q', R, h, q⟩ => q [] G ρ H [] (.refl G) R .nil h) σ H Q h
end
def mAppend : OM := fun ds as k => match as with | [d] => ds.length < 16777216 ∧ k (ds ++ [d]) (.im .none) | _ => False
theorem ok_append : OkM rAppend mAppend := fun B H p vs ws ds as k Q sm hp t ta h q => by
  unfold mAppend at h
  split at h
  · cases ta with
    | cons h1 h2 =>
      cases h2
      exact ⟨p, vs, _, rfl, rfl, hp, by rw [t.length]; exact h.1, q _ _ _ .none (t.append (.cons h1 .nil)) .non h.2⟩
  · exact h.elim
def mExtend : OM := fun ds as k => match as with | [.list es] => ds.length + es.length ≤ 16777216 ∧ k (ds ++ es) (.im .none) | _ => False
theorem ok_extend : OkM rExtend mExtend := fun B H p vs ws ds as k Q sm hp t ta h q => by
  unfold mExtend at h
  split at h
  · cases ta with
    | cons h1 h2 =>
      cases h2
      cases h1 with
      | lst eB t1 => exact ⟨p, _, vs, _, rfl, rfl, hp, sm _ _ eB, by rw [t.length, t1.length]; exact h.1, q _ _ _ .none (t.append t1) .non h.2⟩
  · exact h.elim
def mPop : OM := fun ds as k => match as with | [] => (match ds[ds.length - 1]? with | some d => k ds.dropLast (.im d) | none => False) | _ => False
theorem ok_pop : OkM rPop mPop := fun B H p vs ws ds as k Q sm hp t ta h q => by
  unfold mPop at h
  split at h
  · cases ta
    split at h
    · rename_i d e
      obtain ⟨v, ev, tv⟩ := t.get e
      exact ⟨p, vs, v, rfl, rfl, hp, by rw [t.length]; exact ev, q _ _ v d t.dropLast tv h⟩
    · exact h.elim
  · exact h.elim
def mPopAt : OM := fun ds as k => match as with | [.int i] => (-(2 ^ 63) ≤ i ∧ i < 2 ^ 63) ∧ (match seqIndex? i ds.length with | some j => (match ds[j]? with | some d => k (ds.eraseIdx j) (.im d) | none => False) | none => False) | _ => False
theorem ok_popAt : OkM rPopAt mPopAt := fun B H p vs ws ds as k Q sm hp t ta h q => by
  unfold mPopAt at h
  split at h
  · cases ta with
    | cons h1 h2 =>
      cases h2
      cases h1
      obtain ⟨hb, h⟩ := h
      split at h
      · rename_i j ej
        split at h
        · rename_i d e
          obtain ⟨v, ev, tv⟩ := t.get e
          exact ⟨p, vs, _, j, v, rfl, rfl, hp, hb.1, hb.2, by rw [t.length]; exact ej, ev, q _ _ v d (t.eraseIdx j) tv h⟩
        · exact h.elim
      · exact h.elim
  · exact h.elim
def rInsert : V → List V → Hp → VK → Prop := fun x vs H Q => ∃ (l : Addr) (xs : List V) (i : Int) (y : V), x = .ref l ∧ vs = [.int i, y] ∧ H l = some (.lst xs) ∧ xs.length < sizeLine ∧ 0 ≤ i ∧ i < 2 ^ 63 ∧
    Q .non (upd H l (.lst (xs.take i.toNat ++ [y] ++ xs.drop i.toNat)))
theorem mt_insertD : MtR X "list.insert" rInsert := mt_insert
def mInsert : OM := fun ds as k => match as with | [.int i, d] => (ds.length < 16777216 ∧ 0 ≤ i ∧ i < 2 ^ 63) ∧ k (ds.take i.toNat ++ [d] ++ ds.drop i.toNat) (.im .none) | _ => False
theorem ok_insert : OkM rInsert mInsert := fun B H p vs ws ds as k Q sm hp t ta h q => by
  unfold mInsert at h
  split at h
  · cases ta with
    | cons h1 h2 =>
      cases h1
      cases h2 with
      | cons h3 h4 =>
        cases h4
        exact ⟨p, vs, _, _, rfl, rfl, hp, by rw [t.length]; exact h.1.1, h.1.2.1, h.1.2.2, q _ _ _ .none (((t.take _).append (.cons h3 .nil)).append (t.drop _)) .non h.2⟩
  · exact h.elim
end Dv

/-! DvG: readings by data: stores into own lists, op=, ranges as values. -/
namespace Dv
open PySem PySem.Spec L2
open PyProof.Rows hiding St

variable {Z : Zx} {X : Cx}

theorem RelC.slotV {G : Gs} {ρ : List Cell} {σ : St} {H : Hp} {i : Nat} {c : Cell} (R : RelC G ρ σ H) (h : ρ[i]? = some c) (hc : c ≠ .un) : ∃ v, σ[i]? = some (some v) := by
  have hi : i < σ.length := by rw [← R.len]; exact (List.getElem?_eq_some_iff.mp h).1
  have := R.cells i _ _ h (List.getElem?_eq_getElem hi)
  rw [List.getElem?_eq_getElem hi]
  cases c with
  | un => exact absurd rfl hc
  | im d => obtain ⟨v, e, _⟩ := this; exact ⟨v, by rw [e]⟩
  | mu d => obtain ⟨p, vs, e, _⟩ := this; exact ⟨_, by rw [e]⟩
  | fd => obtain ⟨p, e, _⟩ := this; exact ⟨_, by rw [e]⟩

/-! ### xs[k] = e -/
def sSetIx (i : Nat) (f : SE) (g : SR) : SS := fun ρ E => f ρ fun v ρ1 => fz v fun d => (match ρ1.c[i]? with | some (.mu _) => True | _ => False) ∧ g ρ1 fun x ρ2 => rs x ρ2 fun e => match e with
  | .int k => match ρ2.c[i]? with
    | some (.mu ds) => match ixN ds.length k with
      | some j => E.nx ⟨ρ2.c.set i (.mu (ds.set j d)), ρ2.x⟩
      | none => False
    | _ => False
  | _ => False
theorem es_setIx {e ix : Expr} {x : Str} {p pos pos' : Pos} {f : SE} {g : SR} (i : Nat) (he : PE X e (tE Z f)) (ho : PE X (.Name x p) (tVar i)) (hi : PE X ix (tR Z g))
    (ha : ∀ v, assign (.Subscript (.Name x p) ix pos') X.env v = (do
      let ov ← holding [v] (eval (.Name x p) X.env)
      let iv ← holding [v, ov] (eval ix X.env)
      standAt pos'
      holding [v, ov, iv] (setItem ov iv v)
      release [v, ov, iv] []) := by intro _; rfl)
    (hs : swapsWithSole [.Subscript (.Name x p) ix pos'] e pos.line X.env = pure false := by rfl) (hw : swappedStores [.Subscript (.Name x p) ix pos'] e X.env = pure none := by rfl)
    (h1 : (assignEach [.Subscript (.Name x p) ix pos'] X.env).map (·.2) = [assign (.Subscript (.Name x p) ix pos') X.env] := by rfl) :
    PS X (.Assign [.Subscript (.Name x p) ix pos'] e pos) (tS Z (sSetIx i f g)) := by
  refine PS.imp (ps_asg he (pg_sub ho hi set_list ha) hs hw h1) fun D σ H ⟨G, ρ, E, R, h, l⟩ => ⟨G, ρ, _, R, h, fun v G1 ρ1 H1 val le1 R1 vo hq => ?_⟩
  obtain ⟨G2, d, le2, R2, td, h0, hq⟩ := R1.fz vo hq
  split at h0
  · rename_i ds0 e0
    obtain ⟨u, hu⟩ := R2.rc.slotV e0 (by simp)
    refine ⟨u, hu, G2, ρ1, _, R2, hq, fun w G3 ρ3 H3 op le3 R3 oo hk => ?_⟩
    obtain ⟨ek, tk, hk⟩ := R3.rs oo hk
    split at hk
    · rename_i k
      split at hk
      · rename_i ds e1
        obtain ⟨p', vs, e', hp, t⟩ := R3.rc.own e1 hu
        subst e'
        split at hk
        · rename_i j ej
          exact ⟨p', vs, k, j, rfl, tk.int, hp, by rw [t.length]; exact ej, l.nx G3 _ σ _ ((le1.trans le2).trans le3) (R3.up (.refl G3) (R3.rc.mut e1 hu (DtA.set (td.mono le3.same) j t))) hk⟩
        · exact hk.elim
      · exact hk.elim
    · exact hk.elim
  · exact h0.elim

/-! ### xs[k] op= e -/
def rGetL (K : PySem.W.Frag) : V → V → Hp → VK → Prop := fun o i H Q => ∃ p xs k v, o = .ref p ∧ i = .int k ∧ SqL K H p xs ∧ atI xs k = some v ∧ Q v H
theorem get_list : PGet X (rGetL X.K) := by
  intro pins s σ H o i ov iv Q I ro ri h
  obtain ⟨p, xs, k, z, rfl, rfl, hq, he, q⟩ := h
  cases ro
  obtain ⟨t, rfl⟩ := ri
  obtain ⟨its, r, pl, hz⟩ := I.list hq
  obtain ⟨j, h1, h2, h3, h4, h5⟩ := atI_get he
  obtain ⟨w, ew, rw'⟩ := r.get h2
  have hl := r.length
  have hn := line63
  have fin : EP X pins σ Q w s := ⟨z, H, I, rw', q⟩
  by_cases h0 : 0 ≤ k
  · have hj : k.toNat = j := by
      rw [seqIndex_of h0 h5] at h1
      exact Option.some.inj h1
    exact wpAny_getItem_list pl.isList h0 (by omega) (by rw [hj]; simpa using ew) fin
  · have hj : (k + (its.toArray.size : Int)).toNat = j := by
      rw [seqIndex_neg (by omega) h4] at h1
      rw [List.size_toArray, ← hl]
      exact Option.some.inj h1
    exact wpAny_getItem_list_neg pl.isList (by omega) (by rw [List.size_toArray] <;> omega) (by omega) (by rw [hj]; simpa using ew) fin
def sAugIx (i : Nat) (g : SR) (f : SE) (o : Int → Int → Int) : SS := fun ρ E => (match ρ.c[i]? with | some (.mu _) => True | _ => False) ∧ g ρ fun x ρ1 => rs x ρ1 fun e => match e with
  | .int k => match ρ1.c[i]? with
    | some (.mu ds) => match atI ds k with
      | some (.int a) => f ρ1 fun v ρ2 => fz v fun b => match b with
        | .int b => match ρ2.c[i]? with
          | some (.mu ds) => match ixN ds.length k with
            | some j => E.nx ⟨ρ2.c.set i (.mu (ds.set j (.int (o a b)))), ρ2.x⟩
            | none => False
          | _ => False
        | _ => False
      | _ => False
    | _ => False
  | _ => False
theorem es_augIx {e ix : Expr} {x : Str} {p pos pos' : Pos} {f : SE} {g : SR} {op : Operator} {o : Int → Int → Int} (i : Nat) (hp : PIp X op (ipI o)) (ho : PE X (.Name x p) (tVar i)) (hi : PE X ix (tR Z g)) (he : PE X e (tE Z f))
    (ha : ∀ ov iv new, augStore ix ov iv new = (do holding [new, ov, iv] (setItem ov iv new); release [new, ov, iv] []; pure .next) := by intros; rfl) :
    PS X (.AugAssign (.Subscript (.Name x p) ix pos') op e pos) (tS Z (sAugIx i g f o)) := by
  refine PS.imp (ps_augS ho hi get_list he hp set_list ha) fun D σ H ⟨G, ρ, E, R, ⟨h0, h⟩, l⟩ => ?_
  split at h0
  · rename_i ds0 e0
    obtain ⟨u, hu⟩ := R.rc.slotV e0 (by simp)
    refine ⟨u, hu, G, ρ, _, R, h, fun w G1 ρ1 H1 opd le1 R1 oo hk => ?_⟩
    obtain ⟨ek, tk, hk⟩ := R1.rs oo hk
    split at hk
    · rename_i k
      split at hk
      · rename_i ds e1
        obtain ⟨p', vs, e', hp', t⟩ := R1.rc.own e1 hu
        subst e'
        split at hk
        · rename_i a ea
          obtain ⟨av, eav, ta⟩ := t.atI ea
          cases ta
          refine ⟨p', vs, k, _, rfl, tk.int, SqL.of hp', eav, G1, ρ1, _, R1, hk, fun v G2 ρ2 H2 val le2 R2 vo hq => ?_⟩
          obtain ⟨G3, b, le3, R3, tb, hq⟩ := R2.fz vo hq
          split at hq
          · rename_i b
            cases tb
            split at hq
            · rename_i ds2 e2
              obtain ⟨p2, vs2, e', hp2, t2⟩ := R3.rc.own e2 hu
              cases e'
              split at hq
              · rename_i j ej
                refine ⟨a, b, rfl, rfl, p', vs2, k, j, rfl, tk.int, hp2, by rw [t2.length]; exact ej, ?_⟩
                exact l.nx G3 _ σ _ ((le1.trans le2).trans le3) (R3.up (.refl G3) (R3.rc.mut e2 hu (DtA.set (.int _) j t2))) hq
              · exact hq.elim
            · exact hq.elim
          · exact hq.elim
        · exact hk.elim
      · exact hk.elim
    · exact hk.elim
  · exact h0.elim

/-! ### name op= e -/
def sAug (i : Nat) (o : O2) (f : SE) : SS := fun ρ E => match ρ.c[i]? with
  | some (.im d) => f ρ fun v ρ1 => fz v fun e => o d e fun r => E.nx ⟨ρ1.c.set i (cellOf r), ρ1.x⟩
  | _ => False
theorem es_aug {e : Expr} {x : Str} {pos pos' : Pos} {f : SE} {op : Operator} {o : O2} {r : R2} (i : Nat) (hN : X.N.Nodup) (hop : OpR X (inplaceOp op) r) (ok : Ok2 r o) (he : PE X e (tE Z f)) (hi : X.N[i]? = some x := by rfl) (hx : Loc X.env.scope x := by first | exact Or.inl rfl | exact Or.inr rfl)
    (hf : X.fn x = true ∨ X.env.scope.names.lookup x = some .local := by first | exact .inl rfl | exact .inr rfl) : PS X (.AugAssign (.Name x pos') op e pos) (tS Z (sAug i o f)) := by
  refine PS.imp (ps_aug (i := i) hN hi hx he (ti := r) hop hf) fun D σ H ⟨G, ρ, E, R, h, l⟩ => ?_
  unfold sAug at h
  split at h
  · rename_i d e0
    have hi : i < σ.length := by rw [← R.rc.len]; exact (List.getElem?_eq_some_iff.mp e0).1
    obtain ⟨v, ev, td⟩ := R.rc.cells i _ _ e0 (List.getElem?_eq_getElem hi)
    refine ⟨v, by rw [List.getElem?_eq_getElem hi, ev], G, ρ, _, R, h, fun w G1 ρ1 H1 val le1 R1 vo hq => ?_⟩
    obtain ⟨G2, e', le2, R2, te, hq⟩ := R1.fz vo hq
    refine ok Z G2 ρ1 σ H1 v w d e' _ _ R2 (.of R2.rc.same ((td.mono le1.same).mono le2.same)) (.of R2.rc.same te) hq fun val v' G' H' le R' vo hv => ?_
    exact l.nx G' _ _ H' ((le1.trans le2).trans le) (R'.up (.refl G') (R'.rc.store i vo)) hv
  · exact h.elim
def oAddI : O2 := fun d e k => match d, e with
  | .int i, .int j => k (.im (.int (i + j)))
  | .str a, .str b => a.length + b.length ≤ 16777216 ∧ k (.im (.str (a ++ b)))
  | _, _ => False
theorem iop_addD : OpR X (inplaceOp .Add) (fun x y H Q => rI0 (fun i j => .int (i + j)) x y H Q ∨ rStrAdd x y H Q) := iop_add.or iop_add_str
theorem ok_addI : Ok2 (fun x y H Q => rI0 (fun i j => .int (i + j)) x y H Q ∨ rStrAdd x y H Q) oAddI := fun Z G ρ σ H v w d e k Q R t u h q => by
  unfold oAddI at h
  split at h
  · rename_i i j
    exact .inl ⟨i, j, t.int, u.int, q (.im (.int (i + j))) _ G H (.refl G) R (.int _) h⟩
  · rename_i a b
    exact .inr ⟨a, b, t.str, u.str, h.1, q (.im (.str (a ++ b))) _ G H (.refl G) R (.str _) h.2⟩
  · exact h.elim

/-! ### ranges as values -/
abbrev SRg := Rho → (Int → Int → Rho → Prop) → Prop
def tRgD (Z : Zx) (f : SRg) : St → Hp → (Int → Int → Hp → Prop) → Prop := fun σ H Q => ∃ G ρ Q', Rel Z G ρ σ H ∧ f ρ Q' ∧ ∀ a b G' ρ' H', G.le G' → Rel Z G' ρ' σ H' → Q' a b ρ' → Q a b H'
def sI (f : SE) (k : Int → Rho → Prop) : Rho → Prop := fun ρ => f ρ fun v ρ1 => fz v fun d => match d with | .int i => k i ρ1 | _ => False
def sRg1 (f : SE) : SRg := fun ρ Q => sI f (fun i ρ1 => Q 0 i ρ1) ρ
def sRg2 (f g : SE) : SRg := fun ρ Q => sI f (fun i ρ1 => sI g (fun j ρ2 => Q i j ρ2) ρ1) ρ
theorem PRg.imp {e : Expr} {t t' : St → Hp → (Int → Int → Hp → Prop) → Prop} (h : PRg X e t) (i : ∀ σ H Q, t' σ H Q → t σ H Q) : PRg X e t' := fun pins s σ H Q I q => h pins s σ H Q I (i σ H Q q)
theorem sI_ok {f : SE} {G : Gs} {ρ : Rho} {σ : St} {H : Hp} {k : Int → Rho → Prop} {Q : VK} (R : Rel Z G ρ σ H) (h : sI f k ρ) (q : ∀ i G' ρ' H', G.le G' → Rel Z G' ρ' σ H' → k i ρ' → Q (.int i) H') : tE Z f σ H Q := by
  refine ⟨G, ρ, _, R, h, fun v G1 ρ1 H1 val le1 R1 vo hq => ?_⟩
  obtain ⟨G2, d, le2, R2, td, hq⟩ := R1.fz vo hq
  split at hq
  · cases td
    exact q _ G2 ρ1 H1 (le1.trans le2) R2 hq
  · exact hq.elim
theorem eg_1 {a : Expr} {f : SE} {p pos : Pos} (hg : Gl X "range") (hm : X.mg "range" = none) (ha : PE X a (tE Z f)) (na : starEach [a] X.env = (false, eval a X.env) :: starEach [] X.env := by rfl) : PRg X (.Call (.Name "range" p) [a] [] pos) (tRgD Z (sRg1 f)) :=
  PRg.imp (prg_1 hg hm ha na) fun σ H Q ⟨G, ρ, Q', R, h, q⟩ => sI_ok R h fun i G' ρ' H' le R' hk => ⟨i, rfl, q 0 i G' ρ' H' le R' hk⟩
theorem eg_2 {a b : Expr} {f g : SE} {p pos : Pos} (hg : Gl X "range") (hm : X.mg "range" = none) (ha : PE X a (tE Z f)) (hb : PE X b (tE Z g)) (na : starEach [a, b] X.env = (false, eval a X.env) :: starEach [b] X.env := by rfl) (nb : starEach [b] X.env = (false, eval b X.env) :: starEach [] X.env := by rfl) (hp : (backTo pos (starEach [b] X.env)).any (·.1) = false := by rfl) :
    PRg X (.Call (.Name "range" p) [a, b] [] pos) (tRgD Z (sRg2 f g)) :=
  PRg.imp (prg_2 hg hm ha hb na nb hp) fun σ H Q ⟨G, ρ, Q', R, h, q⟩ => sI_ok R h fun i G' ρ' H' le R' hk => sI_ok R' hk fun j G2 ρ2 H2 le2 R2 hk2 => ⟨i, j, rfl, rfl, q i j G2 ρ2 H2 (le.trans le2) R2 hk2⟩
theorem rgV_dt {B : Hp} (a : Int) (n : Nat) : DtA B ((List.range n).map fun i => V.int (a + (i : Nat))) (rngD a n) := by
  unfold rngD
  generalize List.range n = l
  induction l with
  | nil => exact .nil
  | cons x r ih => exact .cons (.int _) ih
def sLstR (f : SRg) : SE := fun ρ Q => f ρ fun a b ρ1 => RgOk a b ∧ Q (.fr (rngD a (b - a).toNat)) ρ1
theorem ev_listRg {e : Expr} {f : SRg} {p pos : Pos} (hc : X.calm = true) (hg : Gl X "list") (hm : X.mg "list" = none) (he : PRg X e (tRgD Z f)) (na : starEach [e] X.env = (false, eval e X.env) :: starEach [] X.env := by rfl) : PE X (.Call (.Name "list" p) [e] [] pos) (tE Z (sLstR f)) := by
  refine PE.imp (pe_listRg hc hg hm he na) fun σ H Q ⟨G, ρ, Q', R, h, q⟩ => ⟨G, ρ, _, R, h, fun a b G1 ρ1 H1 le1 R1 ⟨ok, hq⟩ => ⟨ok, fun p hp => ?_⟩⟩
  obtain ⟨R2, vo⟩ := R1.frNew hp (rgV_dt (B := G1.B) a (b - a).toNat)
  exact q _ G1 ρ1 _ _ le1 R2 vo hq
def sRevR (f : SRg) : SI := fun ρ Q => f ρ fun a b ρ1 => (-(2 ^ 62) ≤ a ∧ a < 2 ^ 62 ∧ -(2 ^ 62) ≤ b ∧ b < 2 ^ 62) ∧ Q (rngCD (a + (((b - a).toNat : Nat) : Int) - 1) (-1) (b - a).toNat) ρ1
theorem ei_revR {tg e : Expr} {f : SRg} {p pos : Pos} (hg : Gl X "reversed") (hm : X.mg "reversed" = none) (he : PRg X e (tRgD Z f)) (hs : starEach [e] X.env = (false, eval e X.env) :: starEach [] X.env := by rfl) : PI X tg (.Call (.Name "reversed" p) [e] [] pos) (tI Z (sRevR f)) :=
  PI.imp (pi_revR hg hm he hs) fun σ H Rx ⟨G, ρ, Q', R, h, q⟩ => ⟨G, ρ, _, R, h, fun a b G1 ρ1 H1 le1 R1 ⟨⟨h1, h2, h3, h4⟩, hq⟩ => ⟨h1, h2, h3, h4, q _ G1 ρ1 H1 _ le1 R1 src_rngC hq⟩⟩

/-! ### a def of the text, for its callers -/
def Cal (P : Program) (w : World) (K : PySem.W.Frag) (mg : Str → Option Value) (base : Heap) (CX : CXT) (k : Nat) (x : Str) (ps : List Str) (XL : XW) (F : Fn) : Prop :=
  ∃ (f : Addr) (fd : FuncData), FnOk P w K mg base CX k f fd ps (spD XL F) ∧ mg x = some (.ref f) ∧ PySem.W.keepIn K (.ref f) = true ∧ Binds K fd ps []
theorem ev_callC {XL : XW} {F : Fn} {k j : Nat} {ps : List Str} {x : Str} {p pos : Pos} {e : Expr} {es : List Expr} {a : SA} (C : Cal X.prog X.w X.K X.mg X.base CX0 k x ps XL F) (hr : Room j X.A) (hg : Gl X x)
    (ha : PA X (e :: es) (tA Z a)) (hj : k ≤ j := by decide) (hdb : (x == ("__debug__" : Str)) = false := by decide) (he : starEach (e :: es) X.env = (false, eval e X.env) :: starEach es X.env := by rfl) (hpl : (backTo pos (starEach es X.env)).any (·.1) = false := by rfl) :
    PE X (.Call (.Name x p) (e :: es) [] pos) (tE Z (sCall F a)) := by
  obtain ⟨f, fd, G, m, kp, b⟩ := C
  exact ev_call G (hr.mono hj) hg m kp b ha hdb he hpl
/-- a module's int -/
def GInt (mg : Str → Option Value) (x : Str) (i : Int) : Prop := ∃ t, mg x = some (.int i t)
theorem ev_gi {x : Str} {i : Int} {pos : Pos} (hg : Gl X x) (h : GInt X.mg x i) (hd : (x == ("__debug__" : Str)) = false := by decide) : PE X (.Name x pos) (tE Z (sC (.int i))) := by
  obtain ⟨t, h⟩ := h
  exact ev_glob (v := .int i) hg h ⟨t, rfl⟩ (fun _ => .int i) hd
end Dv

/-! DvH: three comparisons in a row; the feed. -/
namespace Dv
open PySem PySem.Spec L2
open PyProof.Rows hiding St

variable {Z : Zx} {X : Cx}
theorem hu65_of {A : Around} {k : Nat} (hr : Room k A) : A.units + 65 < cLine := by have := hr.un; omega
section
variable {a b c d : Expr} {ta tb tc td : TE} {pos : Pos} {g h l m : SR}
def tChain3 (r r' r'' : R2) (ta tb tc td : TE) : TE := fun σ H Q => ta σ H fun x H1 => tb σ H1 fun y H2 => r x y H2 fun z H3 => ∃ k, z = .bl k ∧
  (if k = true then tc σ H3 fun w' H4 => r' y w' H4 fun z2 H5 => ∃ k2, z2 = .bl k2 ∧ (if k2 = true then td σ H5 fun w2 H6 => r'' w' w2 H6 Q else Q (.bl false) H5) else Q (.bl false) H3)
theorem pt_chain3 {op op' op'' : CmpOp} {r r' r'' : R2} (ho : OpR X (compareOp op) r) (ho' : OpR X (compareOp op') r') (ho'' : OpR X (compareOp op'') r'') (ha : PE X a ta) (hb : PE X b tb) (hc : PE X c tc) (hd : PE X d td)
    (hm : lastMarks [op, op', op''] [b, c, d] = false := by with_unfolding_all rfl) : PT X (.Compare a [op, op', op''] [b, c, d] pos) (tTest (tChain3 r r' r'' ta tb tc td)) := by
  refine ⟨fun pins s σ H Q I h => ?_⟩
  refine isTrue_chain (thn (ha.run pins s σ H _ I h) fun v s1 ⟨x, H1, I1, r1, q1⟩ => test_link (thn (hb.run pins s1 σ H1 _ I1 q1) fun u s2 ⟨y, H2, I2, r2, q2⟩ =>
    thn (ho pins s2 σ H2 x y v u _ I2 r1 r2 q2) fun d s3 ⟨z, H3, I3, r3, k, e, q3⟩ => ?_)) hm
  subst e
  cases r3
  refine wpAny_truthy_bool ?_
  cases k with
  | false =>
    obtain ⟨k', e', q'⟩ := q3
    cases e'
    exact ite_ff ⟨H3, I3, q'⟩
  | true =>
    refine ite_tt (test_link (thn (hc.run pins s3 σ H3 _ I3 q3) fun w' s4 ⟨z', H4, I4, r4, q4⟩ => thn (ho' pins s4 σ H4 y z' u w' _ I4 r2 r4 q4) fun d' s5 ⟨z2, H5, I5, r5, k2, e2, q5⟩ => ?_))
    subst e2
    cases r5
    refine wpAny_truthy_bool ?_
    cases k2 with
    | false =>
      obtain ⟨k', e', q'⟩ := q5
      cases e'
      exact ite_ff ⟨H5, I5, q'⟩
    | true =>
      refine ite_tt (test_last (thn (hd.run pins s5 σ H5 _ I5 q5) fun w2 s6 ⟨z3, H6, I6, r6, q6⟩ => thn (ho'' pins s6 σ H6 z' z3 w' w2 _ I6 r4 r6 q6) fun d2 s7 ⟨z4, H7, I7, r7, k3, e3, q7⟩ => ?_))
      subst e3
      cases r7
      exact wpAny_truthy_bool ⟨H7, I7, q7⟩
def s4 (o o' o'' : O2) (g h l m : SR) : SE := fun ρ Q => g ρ fun x ρ1 => h ρ1 fun y ρ2 => rs x ρ2 fun d => rs y ρ2 fun e => o d e fun v => match v with
  | .im (.bool true) => l ρ2 fun z ρ3 => rs y ρ3 fun e' => rs z ρ3 fun f => o' e' f fun v => (match v with
    | .im (.bool true) => m ρ3 fun u ρ4 => rs z ρ4 fun f' => rs u ρ4 fun g' => o'' f' g' fun v => Q v ρ4
    | .im (.bool false) => Q (.im (.bool false)) ρ3
    | _ => False)
  | .im (.bool false) => Q (.im (.bool false)) ρ2
  | _ => False
theorem t_chain3 {r r' r'' : R2} {o o' o'' : O2} (ok : Ok2 r o) (ok' : Ok2 r' o') (ok'' : Ok2 r'' o'') {g h l m : SR} : ∀ σ H Q, tE Z (s4 o o' o'' g h l m) σ H Q → tChain3 r r' r'' (tR Z g) (tR Z h) (tR Z l) (tR Z m) σ H Q := fun σ H Q ⟨G, ρ, Q', R, hh, q⟩ => by
  refine ⟨G, ρ, _, R, hh, fun v G1 ρ1 H1 op1 le1 R1 oo1 hq1 => ?_⟩
  refine ⟨G1, ρ1, _, R1, hq1, fun w G2 ρ2 H2 op2 le2 R2 oo2 hq2 => ?_⟩
  obtain ⟨d, t1, hk⟩ := R2.rs (oo1.mono le2) hq2
  obtain ⟨e, t2, hk⟩ := R2.rs oo2 hk
  refine ok Z G2 ρ2 σ H2 v w d e _ _ R2 t1 t2 hk fun val v' G' H' le R' vo hv => ?_
  split at hv
  · have t : Dt G'.B v' (.bool true) := vo
    cases t
    refine ⟨true, rfl, iteT ⟨G', ρ2, _, R', hv, fun z G3 ρ3 H3 op3 le3 R3 oo3 hq3 => ?_⟩⟩
    obtain ⟨e', t3, hk⟩ := R3.rs ((oo2.mono le).mono le3) hq3
    obtain ⟨f, t4, hk⟩ := R3.rs oo3 hk
    have leA := ((le1.trans le2).trans le).trans le3
    refine ok' Z G3 ρ3 σ H3 w z e' f _ _ R3 t3 t4 hk fun val v' G4 H4 le4 R4 vo hv => ?_
    split at hv
    · have t : Dt G4.B v' (.bool true) := vo
      cases t
      refine ⟨true, rfl, iteT ⟨G4, ρ3, _, R4, hv, fun z2 G5 ρ5 H5 op5 le5 R5 oo5 hq5 => ?_⟩⟩
      obtain ⟨f', t5, hk⟩ := R5.rs ((oo3.mono le4).mono le5) hq5
      obtain ⟨g', t6, hk⟩ := R5.rs oo5 hk
      exact ok'' Z G5 ρ5 σ H5 z z2 f' g' _ Q R5 t5 t6 hk fun val v' G' H' le6 R' vo hv => q v' G' ρ5 H' val (((leA.trans le4).trans le5).trans le6) R' vo hv
    · have t : Dt G4.B v' (.bool false) := vo
      cases t
      exact ⟨false, rfl, iteF (q _ G4 ρ3 H4 (.im (.bool false)) (leA.trans le4) R4 (.bl false) hv)⟩
    · exact hv.elim
  · have t : Dt G'.B v' (.bool false) := vo
    cases t
    exact ⟨false, rfl, iteF (q _ G' ρ2 H' (.im (.bool false)) ((le1.trans le2).trans le) R' (.bl false) hv)⟩
  · exact hv.elim
theorem et_chain3 {op op' op'' : CmpOp} {r r' r'' : R2} {o o' o'' : O2} (ho : OpR X (compareOp op) r) (ok : Ok2 r o) (ho' : OpR X (compareOp op') r') (ok' : Ok2 r' o') (ho'' : OpR X (compareOp op'') r'') (ok'' : Ok2 r'' o'')
    (ha : PE X a (tR Z g)) (hb : PE X b (tR Z h)) (hc : PE X c (tR Z l)) (hd : PE X d (tR Z m)) (hm : lastMarks [op, op', op''] [b, c, d] = false := by with_unfolding_all rfl) : PT X (.Compare a [op, op', op''] [b, c, d] pos) (tT Z (sT (s4 o o' o'' g h l m))) :=
  PT.imp (pt_chain3 ho ho' ho'' ha hb hc hd hm) fun σ H Q q => t_chain3 ok ok' ok'' σ H _ (t_test σ H Q q)
end

/-! ### the feed -/
/-- what a draw promises: any number from 0 to below many -/
def F_draw : Fn := fun as k _ => ∃ m : Int, as = [.fd, .d (.int m)] ∧ 0 < m ∧ m < 1073741824 ∧ ∀ r : Int, 0 ≤ r → r < m → k (.im (.int r))
def spFeed (K : PySem.W.Frag) : Sp := fun vs H Q _ => ∃ (a : Addr) (ns : List Int), vs = [.ref a] ∧ SqL K H a (ns.map V.int) ∧ ns.length ≤ 63 ∧
  ∀ sp fp H', Same H H' → sp ≠ fp → H' sp = some (.lst (ns.map V.int)) → H' fp = some (.lst [.ref sp, .int 0, .int 0, .int 1]) → Q (.ref fp) H'

/-- the promise of _law_feed: a new feed -/
theorem fn_feed {P : Program} {w : World} {K : PySem.W.Frag} {mg : Str → Option Value} {base : Heap} {st : Stmt} {f : Addr} {fd : FuncData} {N : List Str} (Fu : Fun K "_law_feed" "_law_feed" st f fd) (S : FnScope N ["script"] (defScope st))
    (der : ∀ (cdv : Value) (A : Around) (outer : List Env) (s : Shared) (H : Hp) (E : XK), PSs (cxOf CX0 P w K mg base N "_law_feed" (defScope st) f cdv A outer s H E).nox (defBody st)
      (tRet (tLst (tCons (tCB (fun xs H Q => ∃ p ys, xs = [.ref p] ∧ (SqL K H p ys ∨ SqT K H p ys) ∧ ∀ l, H l = none → Q (.ref l) (upd H l (.lst ys))) (tCons (tVar 0) tNil)) (tCons (tC (.int 0)) (tCons (tC (.int 0)) (tCons (tC (.int 1)) tNil))))))) : FnOk P w K mg base CX0 1 f fd ["script"] (spFeed K) := by
  refine Fu.ok S (fun vs H Q E ⟨a, ns, e, _⟩ => by rw [e]; rfl) fun cdv A outer s H vs Q E hr ⟨a, ns, e, hq, hl, q⟩ => ?_
  subst e
  refine ⟨_, der cdv A outer s H E, ?_⟩
  have hN : (L2.start N [V.ref a])[0]? = some (some (.ref a)) := by
    unfold L2.start
    simp
  refine ⟨.ref a, hN, a, ns.map V.int, rfl, .inl hq, fun sp hsp => ?_⟩
  refine ⟨by show 4 ≤ sizeLine; decide, fun fp hfp => ?_⟩
  have hne : sp ≠ fp := fun z => by
    rw [← z, upd_same] at hfp
    cases hfp
  refine q sp fp _ (fun b o eb => ?_) hne ?_ upd_same
  · have nb : b ≠ sp := ne_of_none eb hsp
    have nb2 : b ≠ fp := fun z => by
      rw [← z, upd_ne nb, eb] at hfp
      cases hfp
    rw [upd_ne nb2, upd_ne nb]
    exact eb
  · rw [upd_ne hne, upd_same]

/-! ### _law_draw, by hand -/
section
variable (K : PySem.W.Frag)
abbrev xF (k : Int) : TE := tOp (rIxL K) (tVar 0) (tC (.int k))
def rLenX : List V → Hp → VK → Prop := fun xs H Q => ∃ x n, xs = [x] ∧ LenV K x H n ∧ Q (.int n) H
def rAbs : List V → Hp → VK → Prop := fun xs H Q => ∃ i, xs = [.int i] ∧ Q (.int (if i < 0 then -i else i)) H
def rInt1 : List V → Hp → VK → Prop := fun xs H Q => (∃ i, xs = [.int i] ∧ Q (.int i) H) ∨ ∃ k, xs = [.bl k] ∧ Q (.int (if k then 1 else 0)) H
abbrev tInt (t : TE) : TE := tCB rInt1 (tCons t tNil)
abbrev rEqS : R2 := rEq
abbrev tMulI : TE → TE → TE := tOp (rI CMul fun i j => .int (i * j))
abbrev tAddI : TE → TE → TE := tOp (rI0 fun i j => .int (i + j))
abbrev tModI : TE → TE → TE := tOp (rI (fun _ j => 0 < j) fun i j => .int (i % j))
abbrev tDivI : TE → TE → TE := tOp (rI CDiv fun i j => .int (i / j))
abbrev gF (k : Int) : TG := gSub (tVar 0) (tC (.int k)) rSetL
def tDraw1 : TS := tIfS (tAnd (tTest (tOp rEq (xF K 2) (tC (.int 0)))) (tTest (tOp (rI0 fun i j => .bl (decide (i < j))) (xF K 1) (tCB (rLenX K) (tCons (xF K 0) tNil)))))
  (tSeq (tAsg (tCB rAbs (tCons (tInt (tOp (rIxL K) (xF K 0) (xF K 1))) tNil)) (gName 2))
    (tSeq (tAugS (tVar 0) (tC (.int 1)) (tC (.int 1)) (rGetL K) (ipI fun i j => i + j) rSetL)
      (tIfS (tTest (tOp (rI0 fun i j => .bl (decide (j ≤ i))) (tVar 2) (tOp (rI CPow fun i j => .int (i ^ j.toNat)) (tC (.int 10)) (tC (.int 18)))))
        (tAsg (tVar 2) (gF 2))
        (tAsg (tModI (tInt (tAddI (tAddI (tMulI (xF K 3) (tC (.int 48271))) (tMulI (tVar 2) (tC (.int 69621)))) (xF K 1))) (tC (.int 2147483647))) (gF 3)))))
  tNext
def tDraw2 : TS := tIfS (tTest (tOp (rI0 fun i j => .bl (decide (j < i))) (xF K 2) (tC (.int 0))))
  (tSeq (tAsg (tModI (tInt (xF K 2)) (tVar 1)) (gName 3)) (tSeq (tAsg (tDivI (xF K 2) (tVar 1)) (gF 2)) (tRet (tVar 3)))) tNext
def tDraw3 : TS := tSeq (tAsg (tModI (tInt (tAddI (tMulI (xF K 3) (tC (.int 16807))) (tC (.int 12345)))) (tC (.int 2147483647))) (gF 3))
  (tSeq (tAsg (tModI (tInt (tAddI (tMulI (xF K 3) (xF K 3)) (xF K 3))) (tC (.int 2147483629))) (gName 4)) (tRet (tModI (tDivI (tVar 4) (tC (.int 11))) (tVar 1))))
def tDraw : TS := tSeq (tDraw1 K) (tSeq (tDraw2 K) (tDraw3 K))
end
section
variable {K : PySem.W.Frag} {fp sp : Addr} {ns : List Int} {m : Int} {H0 : Hp}
abbrev feedL (sp : Addr) (c a b : Int) : HO := .lst [.ref sp, .int c, .int a, .int b]
/-- the heap with the feed in its state -/
structure FS (fp sp : Addr) (H0 : Hp) (c a b : Int) (H : Hp) : Prop where
  at_ : H fp = some (feedL sp c a b)
  rest : ∀ q, q ≠ fp → H q = H0 q
theorem FS.upd {c a b c' a' b' : Int} {H : Hp} (h : FS fp sp H0 c a b H) : FS fp sp H0 c' a' b' (L2.upd H fp (feedL sp c' a' b')) := ⟨upd_same, fun q hq => by rw [upd_ne hq]; exact h.rest q hq⟩
theorem rd_F {σ : St} {H : Hp} {Q : VK} {c a b : Int} {k : Nat} {v : V} (hs : σ[0]? = some (some (.ref fp))) (h : FS fp sp H0 c a b H) (hv : [V.ref sp, .int c, .int a, .int b][k]? = some v) (q : Q v H) : xF K (k : Int) σ H Q :=
  ⟨.ref fp, hs, fp, _, _, v, rfl, rfl, SqL.of h.at_, atI_nat hv, q⟩
theorem rd_int {t : TE} {σ : St} {H : Hp} {Q : VK} (h : t σ H fun x H1 => ∃ i, x = .int i ∧ Q (.int i) H1) (mono : ∀ Q Q', (∀ v H1, Q v H1 → Q' v H1) → t σ H Q → t σ H Q') : tInt t σ H Q :=
  mono _ _ (fun v H1 ⟨i, e, q⟩ => .inl ⟨i, by rw [e], q⟩) h

structure FeedNs (c a b : Int) : Prop where
  c : 0 ≤ c
  a : 0 ≤ a
  b0 : 0 ≤ b
  b1 : b < 2147483648
abbrev sgm (fp : Addr) (m : Int) (x2 x3 x4 : Option V) : St := [some (.ref fp), some (.int m), x2, x3, x4]
theorem rd_draw3 (m0 : 0 < m) (m1 : m < 1073741824) {D : Ends} (hrt : ∀ r H c a b, FS fp sp H0 c a b H → FeedNs c a b → 0 ≤ r → r < m → D.rt (.int r) H) {c a b : Int} {H : Hp} {x2 x3 x4 : Option V} (h : FS fp sp H0 c a b H) (hn : FeedNs c a b) :
    tDraw3 K D (sgm fp m x2 x3 x4) H := by
  obtain ⟨c0, a0, b0, b1⟩ := hn
  have h1 : 0 ≤ (b * 16807 + 12345) % 2147483647 := Int.emod_nonneg _ (by decide)
  have h2 : (b * 16807 + 12345) % 2147483647 < 2147483647 := Int.emod_lt_of_pos _ (by decide)
  refine rd_F (k := 3) rfl h rfl ⟨b, 16807, rfl, rfl, .inl ⟨by omega, by omega⟩, _, 12345, rfl, rfl, .inl ⟨_, rfl, _, 2147483647, rfl, rfl, (show (0 : Int) < 2147483647 by decide), ?_⟩⟩
  refine ⟨.ref fp, rfl, fp, _, 3, 3, rfl, rfl, h.at_, rfl, ?_⟩
  have h' : FS fp sp H0 c a ((b * 16807 + 12345) % 2147483647) (upd H fp (feedL sp c a ((b * 16807 + 12345) % 2147483647))) := h.upd
  refine rd_F (k := 3) rfl h' rfl (rd_F (k := 3) rfl h' rfl ⟨_, _, rfl, rfl, .inl ⟨by omega, by omega⟩, rd_F (k := 3) rfl h' rfl ⟨_, _, rfl, rfl, .inl ⟨_, rfl, _, 2147483629, rfl, rfl, (show (0 : Int) < 2147483629 by decide), ?_⟩⟩⟩)
  refine ⟨_, rfl, _, 11, rfl, rfl, ⟨by decide, by decide⟩, _, rfl, _, m, rfl, rfl, m0, ?_⟩
  exact hrt _ _ _ _ _ h' ⟨c0, a0, h1, by omega⟩ (Int.emod_nonneg _ (by omega)) (Int.emod_lt_of_pos _ m0)
theorem rd_draw2 (m0 : 0 < m) (m1 : m < 1073741824) {D : Ends} (hrt : ∀ r H c a b, FS fp sp H0 c a b H → FeedNs c a b → 0 ≤ r → r < m → D.rt (.int r) H) {c a b : Int} {H : Hp} {x2 x3 x4 : Option V} (h : FS fp sp H0 c a b H) (hn : FeedNs c a b) :
    tSeq (tDraw2 K) (tDraw3 K) D (sgm fp m x2 x3 x4) H := by
  refine rd_F (k := 2) rfl h rfl ⟨a, 0, rfl, rfl, _, rfl, ite2 (fun e => ?_) (fun e => rd_draw3 m0 m1 hrt h hn)⟩
  obtain ⟨c0, a0, b0, b1⟩ := hn
  refine rd_F (k := 2) rfl h rfl (.inl ⟨a, rfl, _, rfl, a, m, rfl, rfl, m0, ?_⟩)
  refine rd_F (k := 2) rfl h rfl ⟨_, rfl, a, m, rfl, rfl, ⟨m0, m1⟩, .ref fp, rfl, fp, _, 2, 2, rfl, rfl, h.at_, rfl, ?_⟩
  have h' : FS fp sp H0 c (a / m) b (upd H fp (feedL sp c (a / m) b)) := h.upd
  exact ⟨_, rfl, hrt _ _ _ _ _ h' ⟨c0, Int.ediv_nonneg a0 (by omega), b0, b1⟩ (Int.emod_nonneg _ (by omega)) (Int.emod_lt_of_pos _ m0)⟩
theorem rd_draw (hsp : H0 sp = some (.lst (ns.map V.int))) (hne : sp ≠ fp) (m0 : 0 < m) (m1 : m < 1073741824) {D : Ends} (hrt : ∀ r H c a b, FS fp sp H0 c a b H → FeedNs c a b → 0 ≤ r → r < m → D.rt (.int r) H) {c a b : Int} {H : Hp} {x2 x3 x4 : Option V} (h : FS fp sp H0 c a b H) (hn : FeedNs c a b) :
    tDraw K D (sgm fp m x2 x3 x4) H := by
  have go : ∀ {H' : Hp} {c' a' b' : Int} {y2 : Option V}, FS fp sp H0 c' a' b' H' → FeedNs c' a' b' → tSeq (tDraw2 K) (tDraw3 K) D (sgm fp m y2 x3 x4) H' := fun h hn => rd_draw2 m0 m1 hrt h hn
  obtain ⟨c0, a0, b0, b1⟩ := hn
  have hl : ∀ {H' : Hp} {c' a' b' : Int}, FS fp sp H0 c' a' b' H' → SqL K H' sp (ns.map V.int) := fun h => SqL.of (by rw [h.rest sp hne]; exact hsp)
  refine rd_F (k := 2) rfl h rfl ⟨rfl, _, rfl, ?_⟩
  refine ite2 (fun _ => ?_) (fun _ => iteF (go h ⟨c0, a0, b0, b1⟩))
  refine rd_F (k := 1) rfl h rfl (rd_F (k := 0) rfl h rfl ⟨_, ns.length, rfl, .inl ⟨_, hl h, by simp⟩, c, _, rfl, rfl, _, rfl, ite2 (fun e => ?_) (fun _ => go h ⟨c0, a0, b0, b1⟩)⟩)
  have hc : c < ns.length := of_decide_eq_true e
  obtain ⟨n, rfl⟩ : ∃ n : Nat, c = n := ⟨c.toNat, by omega⟩
  have hn : n < ns.length := by omega
  refine rd_F (k := 0) rfl h rfl (rd_F (k := 1) rfl h rfl ⟨sp, _, (n : Int), .int ns[n], rfl, rfl, hl h, atI_nat (by simp [hn]), .inl ⟨_, rfl, _, rfl, ?_⟩⟩)
  generalize hx : (if ns[n] < 0 then -ns[n] else ns[n]) = x
  have x0 : 0 ≤ x := by
    rw [← hx]
    split <;> omega
  refine ⟨.ref fp, rfl, fp, _, 1, .int n, rfl, rfl, SqL.of h.at_, rfl, (n : Int), 1, rfl, rfl, fp, _, 1, 1, rfl, rfl, h.at_, rfl, ?_⟩
  have h' : FS fp sp H0 ((n : Int) + 1) a b (upd H fp (feedL sp ((n : Int) + 1) a b)) := h.upd
  refine ⟨_, rfl, 10, 18, rfl, rfl, ⟨by decide, by decide, by decide⟩, x, _, rfl, rfl, _, rfl, ite2 (fun e => ?_) (fun e => ?_)⟩
  · exact ⟨_, rfl, .ref fp, rfl, fp, _, 2, 2, rfl, rfl, h'.at_, rfl, go h'.upd ⟨by omega, x0, b0, b1⟩⟩
  · refine rd_F (k := 3) rfl h' rfl ⟨b, 48271, rfl, rfl, .inr ⟨by decide, by decide⟩, _, rfl, x, 69621, rfl, rfl, .inr ⟨by decide, by decide⟩, _, _, rfl, rfl, rd_F (k := 1) rfl h' rfl ⟨_, _, rfl, rfl, .inl ⟨_, rfl, _, 2147483647, rfl, rfl, (show (0 : Int) < 2147483647 by decide), ?_⟩⟩⟩
    refine ⟨.ref fp, rfl, fp, _, 3, 3, rfl, rfl, h'.at_, rfl, go h'.upd ⟨by omega, a0, Int.emod_nonneg _ (by decide), ?_⟩⟩
    have := Int.emod_lt_of_pos (b * 48271 + x * 69621 + ((n : Int) + 1)) (show (0 : Int) < 2147483647 by decide)
    omega
end
/-- the promise of _law_draw -/
theorem fn_draw {P : Program} {w : World} {K : PySem.W.Frag} {mg : Str → Option Value} {base : Heap} {st : Stmt} {f : Addr} {fd : FuncData} {XL : XW} (Fu : Fun K "_law_draw" "_law_draw" st f fd) (S : FnScope ["feed", "many", "cell", "told", "mixed"] ["feed", "many"] (defScope st))
    (der : ∀ (cdv : Value) (A : Around) (outer : List Env) (s : Shared) (H : Hp) (E : XK), PSs (cxOf CX0 P w K mg base ["feed", "many", "cell", "told", "mixed"] "_law_draw" (defScope st) f cdv A outer s H E).nox (defBody st) (tDraw K)) :
    FnOk P w K mg base CX0 1 f fd ["feed", "many"] (spD XL F_draw) := by
  refine Fu.ok S (fun vs H Q E ⟨B, fa, as, k, kx, _, _, ha, ⟨m, e, _⟩, _⟩ => by rw [ha.length, e]; rfl) fun cdv A outer s H vs Q E hr ⟨B, fa, as, k, kx, sm, hf, ha, ⟨m, e, m0, m1, hk⟩, hq, hx⟩ => ?_
  subst e
  refine ⟨_, der cdv A outer s H E, ?_⟩
  cases ha with
  | @cons a1 v1 as1 vs1 hfd ha =>
    cases ha with
    | @cons a2 v2 as2 vs2 hm ha =>
      cases ha
      obtain ⟨p, rfl, hfa⟩ := hfd
      have hfa : fa = some p := hfa
      subst hfa
      have hm : Dt B v2 (.int m) := hm
      cases hm
      obtain ⟨hBp, sp, ns, c, a, b, hp, hsp, c0, a0, b0, b1, hl⟩ := hf p rfl
      have hne : sp ≠ p := fun z => by
        rw [z, hBp] at hsp
        cases hsp
      refine rd_draw (H0 := H) (sm _ _ hsp) hne m0 m1 (fun r H' c' a' b' h hn r0 r1 => ?_) ⟨hp, fun _ _ => rfl⟩ ⟨c0, a0, b0, b1⟩
      refine hq (.int r) H' B (.im (.int r)) ⟨Same.refl _, fun q o e => ?_, fun q o e => ?_, fun q o e => .inr e, fun q e => ?_⟩ (.int r) (hk r r0 r1)
      · have : q ≠ p := ne_of_none e hBp
        rw [h.rest q this]
        exact sm _ _ e
      · by_cases z : q = p
        · exact .inr (by rw [z])
        · exact .inl (by rw [h.rest q z]; exact e)
      · cases e
        exact ⟨hBp, sp, ns, c', a', b', h.at_, hsp, hn.c, hn.a, hn.b0, hn.b1, hl⟩

/-! ### the law -/
def spLaw (K : PySem.W.Frag) : Sp := fun vs H Q _ => ∃ (a : Addr) (ns : List Int), vs = [.ref a] ∧ SqL K H a (ns.map V.int) ∧ ns.length ≤ 63 ∧ ∀ H', Q (.bl true) H'
theorem fn_law {P : Program} {w : World} {K : PySem.W.Frag} {mg : Str → Option Value} {base : Heap} {st : Stmt} {f : Addr} {fd : FuncData} {N : List Str} {k : Nat} {XL : XW} {sem : SS} {st1 : Stmt} {rest : List Stmt} (Fu : Fun K "law" "law" st f fd) (S : FnScope N ["script"] (defScope st)) (hb : defBody st = st1 :: rest) (hN : 2 ≤ N.length)
    (der1 : ∀ (cdv : Value) (A : Around) (outer : List Env) (s : Shared) (H : Hp) (E : XK), Room k (A.deeper (envOfC "law" (defScope st) s.heap.objs.size f cdv)) → PS (cxOf CX0 P w K mg base N "law" (defScope st) f cdv A outer s H E).nox st1 (tAsg (tCall (spFeed K) [] E0 (tCons (tVar 0) tNil)) (gName 1)))
    (der : ∀ (cdv : Value) (A : Around) (outer : List Env) (s : Shared) (H : Hp) (E : XK) (Z : Zx), Room k (A.deeper (envOfC "law" (defScope st) s.heap.objs.size f cdv)) → PSs (cxOf CX0 P w K mg base N "law" (defScope st) f cdv A outer s H E).nox rest (tS Z sem))
    (hs : ∀ x, sem ⟨.un :: .fd :: List.replicate (N.length - 2) .un, x⟩ { nx := fun _ => False, rt := fun v _ => v = .im (.bool true) }) : FnOk P w K mg base CX0 (k + 1) f fd ["script"] (spLaw K) := by
  refine Fu.ok S (fun vs H Q E ⟨a, ns, e, _⟩ => by rw [e]; rfl) fun cdv A outer s H vs Q E hr ⟨a, ns, e, hq, hl, q⟩ => ?_
  subst e
  rw [hb]
  refine ⟨_, pss_cons (der1 cdv A outer s H E hr) (der cdv A outer s H E ⟨fun _ _ _ _ => True, XL⟩ hr), ?_⟩
  have h0 : (L2.start N [V.ref a])[0]? = some (some (.ref a)) := by
    unfold L2.start
    simp
  refine ⟨.ref a, h0, a, ns, rfl, hq, hl, fun sp fp H' sm hne h1 h2 => ?_⟩
  let B : Hp := fun x => if x = sp then some (.lst (ns.map V.int)) else none
  have hB : ∀ x o, B x = some o → x = sp ∧ o = .lst (ns.map V.int) := fun x o e => by
    have e : (if x = sp then some (HO.lst (ns.map V.int)) else none) = some o := e
    split at e
    · cases e
      exact ⟨by assumption, rfl⟩
    · cases e
  have hBf : B fp = none := by
    show (if fp = sp then _ else none) = none
    rw [if_neg (fun e => hne e.symm)]
  have hBs : B sp = some (.lst (ns.map V.int)) := if_pos rfl
  let G : Gs := { B0 := B, H0 := fun _ => none, B := B, fa0 := some fp, fa := some fp, pr := [] }
  refine ⟨G, ⟨.un :: .fd :: List.replicate (N.length - 2) .un, fun _ => False⟩, _, ⟨⟨fun x o e => ?_, Same.refl _, fun _ _ e => (nomatch e), fun _ _ _ => .inl rfl, ?_, fun i c o e1 e2 => ?_, fun i j p ds es ne e1 => ?_, fun p e => ?_, fun p o e => (nomatch e), fun p e => .inl e⟩, fun _ _ _ _ _ _ _ _ _ _ _ => trivial⟩, hs _, ?_, ?_, ?_, ?_⟩
  · obtain ⟨e1, e2⟩ := hB x o e
    rw [e1, e2]
    exact h1
  · unfold L2.start
    simp
    omega
  · match i with
    | 0 =>
      simp at e1
      subst e1
      trivial
    | 1 =>
      simp at e1
      subst e1
      refine ⟨fp, ?_, rfl⟩
      rw [List.getElem?_set_self (by unfold L2.start; simp; omega)] at e2
      exact (Option.some.inj e2).symm
    | n + 2 =>
      simp [List.getElem?_replicate] at e1
      obtain ⟨_, e1⟩ := e1
      subst e1
      trivial
  · match i with
    | 0 => simp at e1
    | 1 => simp at e1
    | n + 2 => simp [List.getElem?_replicate] at e1
  · cases e
    exact ⟨hBf, sp, ns, 0, 0, 1, h2, hBs, by decide, by decide, by decide, by decide, hl⟩
  · exact fun G' ρ' σ' H' le R h => h.elim
  · intro G' ρ' σ' H' v val le R vo h
    have h : val = .im (.bool true) := h
    subst h
    have t : Dt G'.B v (.bool true) := vo
    cases t
    exact q H'
  · exact fun G' ρ' σ' H' le R h => h.elim
  · exact fun G' ρ' σ' H' le R h => h.elim
end Dv

/-! DvI: a module's dict with int keys and text values. -/
namespace Dv
open PySem PySem.Spec L2
open PyProof.Rows hiding St

variable {Z : Zx} {X : Cx}
def IntsLit : List DictEntry → Prop
  | [] => True
  | e :: r => (∃ i t, e.key = .int i t ∧ e.hash = hashInt i) ∧ IntsLit r
theorem IntsLit.all : ∀ {l : List DictEntry}, IntsLit l → ∀ e ∈ l, ∃ i t, e.key = .int i t ∧ e.hash = hashInt i
  | _ :: _, ⟨h, _⟩, _, .head _ => h
  | _ :: _, ⟨_, r⟩, _, .tail _ m => r.all _ m
theorem mapOf_KI {prog : Program} {w : World} {h : Heap} {K : PySem.W.Frag} {a : Addr} {es : Array DictEntry} {n : Nat} (X : K.In h) (hl : K.lookup a = some ⟨.type "dict", none, .dict es n, #[]⟩) (hk : IntsLit es.toList) : h.MapOf (intKind prog w) a (fun k => findBy Value.isInt es k) :=
  ⟨_, es, n, X _ _ hl, ⟨rfl, rfl, rfl⟩, rfl, fun e he => by
    obtain ⟨x, t, e1, e2⟩ := hk.all e (Array.mem_toList_iff.mpr he)
    exact ⟨x, by rw [e1]; exact intKind_is prog w x t, e2⟩, fun _ => rfl⟩
def IntDictK (K : PySem.W.Frag) (a : Addr) (kvs : List (Int × Str)) : Prop :=
  ∃ es n, K.lookup a = some ⟨.type "dict", none, .dict es n, #[]⟩ ∧ IntsLit es.toList ∧ ∀ k v, kvs.lookup k = some v → ∃ t, findBy Value.isInt es k = some (.str v t)
def rIxKI (K : PySem.W.Frag) (kvs : List (Int × Str)) : R2 := fun x y H Q => ∃ a i v, x = .ref a ∧ y = .int i ∧ IntDictK K a kvs ∧ kvs.lookup i = some v ∧ Q (.str v) H
theorem ix_KI {kvs : List (Int × Str)} : IxR X (rIxKI X.K kvs) := by
  intro value slice pins s σ H x y v u Q I rx ry h hs
  obtain ⟨p, i, z, rfl, rfl, ⟨es, n, hl, hk, hf⟩, e, q⟩ := h
  obtain rfl : v = Value.ref p := rx
  obtain ⟨t, rfl⟩ := ry
  have hm := mapOf_KI (prog := X.prog) (w := X.w) I.kIn hl hk
  obtain ⟨t2, ef⟩ := hf i z e
  exact tail_any hm.typeIs slot_dict_getitem.lookup (wpAny_getItem_of (intKind_is X.prog X.w i t) hm ef ⟨.str z, H, I.tok _, ⟨_, rfl⟩, q⟩) hs
def GDictI (K : PySem.W.Frag) (mg : Str → Option Value) (x : Str) (kvs : List (Int × Str)) : Prop := ∃ a, mg x = some (.ref a) ∧ IntDictK K a kvs
def sIxG (kvs : List (Int × Str)) (g : SR) : SE := fun ρ Q => g ρ fun o ρ1 => rs o ρ1 fun d => match d with
  | .int i => match kvs.lookup i with | some v => Q (.im (.str v)) ρ1 | none => False
  | _ => False
theorem ev_ixG {kvs : List (Int × Str)} {x : Str} {b : Expr} {g : SR} {p pos : Pos} (hg : Gl X x) (h : GDictI X.K X.mg x kvs) (hb : PE X b (tR Z g)) (hs : PlainIx b) (hd : (x == ("__debug__" : Str)) = false := by decide) : PE X (.Subscript (.Name x p) b pos) (tE Z (sIxG kvs g)) := by
  obtain ⟨a, hm, hk⟩ := h
  refine PE.imp (pe_ix (ix_KI (kvs := kvs)) (pe_glob (v := .ref a) hg hm rfl hd) hb hs) fun σ H Q ⟨G, ρ, Q', R, h, q⟩ => ⟨G, ρ, _, R, h, fun v G1 ρ1 H1 op le1 R1 oo hq => ?_⟩
  obtain ⟨d, t, hk2⟩ := R1.rs oo hq
  split at hk2
  · rename_i i
    split at hk2
    · rename_i v ev
      exact ⟨a, i, v, rfl, t.int, hk, ev, q (.str v) G1 ρ1 H1 (.im (.str v)) le1 R1 (.str _) hk2⟩
    · exact hk2.elim
  · exact hk2.elim
end Dv

/-! DvJ: loops by index; plain facts of data. -/
namespace Dv
open PySem PySem.Spec L2
open PyProof.Rows hiding St

theorem wLoop_ix {step : D → SS} {ds : List D} {E : DE} {ρ : Rho} (I : Nat → Rho → Prop) (h0 : I 0 ρ) (hn : ∀ ρ, I ds.length ρ → E.nx ρ)
    (hs : ∀ i d ρ (k : Rho → Prop), ds[i]? = some d → I i ρ → (∀ ρ', I (i + 1) ρ' → k ρ') → step d ρ { E with nx := k, ct := k, bk := E.nx }) : wLoop step ds ρ E := by
  have key : ∀ n i ρ, i + n = ds.length → I i ρ → wLoop step (ds.drop i) ρ E := by
    intro n
    induction n with
    | zero => intro i ρ e h; rw [List.drop_eq_nil_of_le (by omega)]; exact hn ρ (by rwa [← e, Nat.add_zero])
    | succ n ih =>
      intro i ρ e h
      have hi : i < ds.length := by omega
      rw [List.drop_eq_getElem_cons hi]
      exact hs i ds[i] ρ _ (List.getElem?_eq_getElem hi) h fun ρ' h' => ih (i + 1) ρ' (by omega) h'
  exact key ds.length 0 ρ (by omega) h0
theorem rngD_of {lo : Int} {n i : Nat} {d : D} (h : (rngD lo n)[i]? = some d) : i < n ∧ d = .int (lo + (i : Int)) := by
  unfold rngD at h
  rw [List.getElem?_map, Option.map_eq_some_iff] at h
  obtain ⟨j, h1, rfl⟩ := h
  obtain ⟨h2, h3⟩ := List.getElem?_eq_some_iff.mp h1
  rw [List.getElem_range] at h3
  subst h3
  exact ⟨by simpa using h2, rfl⟩
theorem wLoop_rng {step : D → SS} {lo : Int} {n : Nat} {E : DE} {ρ : Rho} (I : Nat → Rho → Prop) (h0 : I 0 ρ) (hn : ∀ ρ, I n ρ → E.nx ρ)
    (hs : ∀ (i : Nat) ρ (k : Rho → Prop), i < n → I i ρ → (∀ ρ', I (i + 1) ρ' → k ρ') → step (.int (lo + (i : Int))) ρ { E with nx := k, ct := k, bk := E.nx }) : wLoop step (rngD lo n) ρ E :=
  wLoop_ix I h0 (fun ρ h => hn ρ (by rwa [rngD_length] at h)) fun i d ρ k hd h hk => by
    obtain ⟨h1, rfl⟩ := rngD_of hd
    exact hs i ρ k h1 h hk
theorem enumD_length (ds : List D) : (enumD ds).length = ds.length := by simp [enumD]
theorem enumD_of {ds : List D} {i : Nat} {d : D} (h : (enumD ds)[i]? = some d) : ∃ x, ds[i]? = some x ∧ d = .tuple [.int (i : Int), x] := by
  unfold enumD at h
  rw [List.getElem?_map, Option.map_eq_some_iff] at h
  obtain ⟨j, h1, rfl⟩ := h
  rw [List.getElem?_zipIdx, Option.map_eq_some_iff] at h1
  obtain ⟨x, h2, rfl⟩ := h1
  exact ⟨x, h2, by simp⟩
theorem wLoop_enum {step : D → SS} {ds : List D} {E : DE} {ρ : Rho} (I : Nat → Rho → Prop) (h0 : I 0 ρ) (hn : ∀ ρ, I ds.length ρ → E.nx ρ)
    (hs : ∀ (i : Nat) x ρ (k : Rho → Prop), ds[i]? = some x → I i ρ → (∀ ρ', I (i + 1) ρ' → k ρ') → step (.tuple [.int (i : Int), x]) ρ { E with nx := k, ct := k, bk := E.nx }) : wLoop step (enumD ds) ρ E :=
  wLoop_ix I h0 (fun ρ h => hn ρ (by rwa [enumD_length] at h)) fun i d ρ k hd h hk => by
    obtain ⟨x, h1, rfl⟩ := enumD_of hd
    exact hs i x ρ k h1 h hk
theorem wLoop_map {α : Type} {f : α → D} {step : D → SS} {xs : List α} {E : DE} {ρ : Rho} (I : Nat → Rho → Prop) (h0 : I 0 ρ) (hn : ∀ ρ, I xs.length ρ → E.nx ρ)
    (hs : ∀ (i : Nat) x ρ (k : Rho → Prop), xs[i]? = some x → I i ρ → (∀ ρ', I (i + 1) ρ' → k ρ') → step (f x) ρ { E with nx := k, ct := k, bk := E.nx }) : wLoop step (xs.map f) ρ E :=
  wLoop_ix I h0 (fun ρ h => hn ρ (by rwa [List.length_map] at h)) fun i d ρ k hd h hk => by
    rw [List.getElem?_map, Option.map_eq_some_iff] at hd
    obtain ⟨x, h1, rfl⟩ := hd
    exact hs i x ρ k h1 h hk
theorem wLoop_nil {step : D → SS} {ρ : Rho} {E : DE} : wLoop step [] ρ E = E.nx ρ := rfl
theorem wLoop_cons {step : D → SS} {d : D} {ds : List D} {ρ : Rho} {E : DE} : wLoop step (d :: ds) ρ E = step d ρ { E with nx := fun ρ' => wLoop step ds ρ' E, ct := fun ρ' => wLoop step ds ρ' E, bk := E.nx } := rfl
/-- a statement ahead of others, what follows it out of sight -/
theorem seq_step {A B : SS} {ρ : Rho} {E : DE} (h : ∀ K : Rho → Prop, (∀ ρ', B ρ' E → K ρ') → A ρ { E with nx := K }) : sSeq A B ρ E := h _ fun _ h => h
theorem atI_lastD {α : Type} (xs : List α) (v : α) : L2.atI (xs ++ [v]) (-1) = some v := L2.atI_last xs v
theorem atI_nn {α : Type} (xs : List α) (i : Int) (h : 0 ≤ i) : L2.atI xs i = xs[i.toNat]? := by
  unfold L2.atI L2.ixN
  rw [if_pos h]
  split
  · rfl
  · rw [List.getElem?_eq_none (by omega)]; rfl
theorem atI_m1 {α : Type} (xs : List α) : L2.atI xs (-1) = xs.getLast? := by
  rcases List.eq_nil_or_concat xs with rfl | ⟨l, v, rfl⟩
  · rfl
  · rw [List.concat_eq_append, L2.atI_last, List.getLast?_concat]
theorem cutD_to {α : Type} (xs : List α) (i : Int) (h : 0 ≤ i) : cutD xs none (some i) = xs.take i.toNat := by
  unfold cutD HT.sIx
  simp only [if_neg (show ¬ i < 0 by omega), Nat.sub_zero, List.drop_zero]
  by_cases h2 : i.toNat ≤ xs.length
  · rw [Nat.min_eq_left h2]
  · rw [Nat.min_eq_right (by omega), List.take_of_length_le (Nat.le_refl _), List.take_of_length_le (by omega)]
theorem cutD_from {α : Type} (xs : List α) (i : Int) (h : 0 ≤ i) : cutD xs (some i) none = xs.drop i.toNat := by
  unfold cutD HT.sIx
  simp only [if_neg (show ¬ i < 0 by omega)]
  by_cases h2 : i.toNat ≤ xs.length
  · rw [Nat.min_eq_left h2]; exact List.take_of_length_le (by simp)
  · rw [Nat.min_eq_right (by omega), List.drop_eq_nil_of_le (Nat.le_refl _), List.drop_eq_nil_of_le (by omega), List.take_nil]
theorem atI0 {α : Type} (x : α) (xs : List α) : L2.atI (x :: xs) 0 = some x := by rw [atI_nn _ _ (by decide)]; rfl
theorem atI1 {α : Type} (x y : α) (xs : List α) : L2.atI (x :: y :: xs) 1 = some y := by rw [atI_nn _ _ (by decide)]; rfl
theorem atI2 {α : Type} (x y z : α) (xs : List α) : L2.atI (x :: y :: z :: xs) 2 = some z := by rw [atI_nn _ _ (by decide)]; rfl
theorem cutN_to {α : Type} (xs : List α) (i : Nat) : cutD xs none (some (i : Int)) = xs.take i := by rw [cutD_to _ _ (by omega), Int.toNat_natCast]
theorem cutN_from {α : Type} (xs : List α) (i : Nat) : cutD xs (some (i : Int)) none = xs.drop i := by rw [cutD_from _ _ (by omega), Int.toNat_natCast]
theorem cutN_from1 {α : Type} (xs : List α) (i : Nat) : cutD xs (some ((i : Int) + 1)) none = xs.drop (i + 1) := by rw [cutD_from _ _ (by omega)]; congr 1
theorem isi_tuple (ds : List D) (T : String) : isiD (.tuple ds) T = isiT "tuple" T := rfl
theorem isi_list (ds : List D) (T : String) : isiD (.list ds) T = isiT "list" T := rfl
theorem isi_int (i : Int) (T : String) : isiD (.int i) T = isiT "int" T := rfl
theorem isi_bool (b : Bool) (T : String) : isiD (.bool b) T = isiT "bool" T := rfl
theorem isi_str (x : Str) (T : String) : isiD (.str x) T = isiT "str" T := rfl
theorem isi_none (T : String) : isiD .none T = isiT "NoneType" T := rfl
end Dv

/-! DvK: what each word says, as equations that simp takes as such (not by unfolding). Written by gene.py. -/
namespace Dv
open PySem PySem.Spec L2
open PyProof.Rows hiding St
theorem e_sSeq (a b : SS) (ρ : Rho) (E : DE) : sSeq a b ρ E = (a ρ { E with nx := fun ρ' => b ρ' E }) := Eq.trans rfl rfl
theorem e_sNext (ρ : Rho) (E : DE) : sNext ρ E = (E.nx ρ) := Eq.trans rfl rfl
theorem e_sBreak (ρ : Rho) (E : DE) : sBreak ρ E = (E.bk ρ) := Eq.trans rfl rfl
theorem e_sCont (ρ : Rho) (E : DE) : sCont ρ E = (E.ct ρ) := Eq.trans rfl rfl
theorem e_sDrop (f : SE) (ρ : Rho) (E : DE) : sDrop f ρ E = (f ρ fun _ ρ1 => E.nx ρ1) := Eq.trans rfl rfl
theorem e_sRet (f : SE) (ρ : Rho) (E : DE) : sRet f ρ E = (f ρ fun v ρ' => E.rt v ρ') := Eq.trans rfl rfl
theorem e_sRetV (i : Nat) (ρ : Rho) (E : DE) : sRetV i ρ E = (match ρ.c[i]? with
  | some (.im d) => E.rt (.im d) ρ
  | some (.mu ds) => E.rt (.fr ds) ⟨ρ.c.set i .un, ρ.x⟩
  | _ => False) := Eq.trans rfl rfl
theorem e_sRetN (ρ : Rho) (E : DE) : sRetN ρ E = (E.rt (.im .none) ρ) := Eq.trans rfl rfl
theorem e_sIfS (t : ST) (a b : SS) (ρ : Rho) (E : DE) : sIfS t a b ρ E = (t ρ fun c ρ1 => if c = true then a ρ1 E else b ρ1 E) := Eq.trans rfl rfl
theorem e_sAsg (f : SE) (g : SG) (ρ : Rho) (E : DE) : sAsg f g ρ E = (f ρ fun v ρ1 => g v ρ1 E.nx) := Eq.trans rfl rfl
theorem e_sFor (si : SI) (g : SG) (b : SS) (ρ : Rho) (E : DE) : sFor si g b ρ E = (si ρ fun ds ρ1 => wLoop (sStep g b) ds ρ1 E) := Eq.trans rfl rfl
theorem e_sVar (i : Nat) (ρ : Rho) (Q : Vl → Rho → Prop) : sVar i ρ Q = (match ρ.c[i]? with
  | some (.im d) => Q (.im d) ρ
  | some (.mu ds) => Q (.im (.list ds)) ⟨ρ.c.set i (.im (.list ds)), ρ.x⟩
  | some .fd => Q .fd ρ
  | _ => False) := Eq.trans rfl rfl
theorem e_sRV (i : Nat) (ρ : Rho) (Q : Op → Rho → Prop) : sRV i ρ Q = ((match ρ.c[i]? with | some (.im _) => True | some (.mu _) => True | _ => False) ∧ Q (.s i) ρ) := Eq.trans rfl rfl
theorem e_sRE (f : SE) (ρ : Rho) (Q : Op → Rho → Prop) : sRE f ρ Q = (f ρ fun v ρ' => fz v fun d => Q (.d d) ρ') := Eq.trans rfl rfl
theorem e_sC (d : D) (ρ : Rho) (Q : Vl → Rho → Prop) : sC d ρ Q = (Q (.im d) ρ) := Eq.trans rfl rfl
theorem e_aNil (ρ : Rho) (Q : List Ar → Rho → Prop) : aNil ρ Q = (Q [] ρ) := Eq.trans rfl rfl
theorem e_aCons (f : SE) (t : SA) (ρ : Rho) (Q : List Ar → Rho → Prop) : aCons f t ρ Q = (f ρ fun v ρ1 => ar v fun a => t ρ1 fun as ρ2 => Q (a :: as) ρ2) := Eq.trans rfl rfl
theorem e_ar (v : Vl) (k : Ar → Prop) : ar v k = (match v with
  | .im d => k (.d d)
  | .fr ds => k (.d (.list ds))
  | .fd => k .fd) := Eq.trans rfl rfl
theorem e_dNil (ρ : Rho) (Q : List D → Rho → Prop) : dNil ρ Q = (Q [] ρ) := Eq.trans rfl rfl
theorem e_dCons (f : SE) (t : SDs) (ρ : Rho) (Q : List D → Rho → Prop) : dCons f t ρ Q = (f ρ fun v ρ1 => fz v fun a => t ρ1 fun as ρ2 => Q (a :: as) ρ2) := Eq.trans rfl rfl
theorem e_fz (v : Vl) (k : D → Prop) : fz v k = (match v with
  | .im d => k d
  | .fr ds => k (.list ds)
  | .fd => False) := Eq.trans rfl rfl
theorem e_sLst (t : SDs) (ρ : Rho) (Q : Vl → Rho → Prop) : sLst t ρ Q = (t ρ fun ds ρ' => ds.length ≤ 1000 ∧ Q (.fr ds) ρ') := Eq.trans rfl rfl
theorem e_sTup (t : SDs) (ρ : Rho) (Q : Vl → Rho → Prop) : sTup t ρ Q = (t ρ fun ds ρ' => ds.length ≤ 1000 ∧ Q (.im (.tuple ds)) ρ') := Eq.trans rfl rfl
theorem e_s1 (o : O1) (g : SR) (ρ : Rho) (Q : Vl → Rho → Prop) : s1 o g ρ Q = (g ρ fun x ρ1 => rs x ρ1 fun d => o d fun v => Q v ρ1) := Eq.trans rfl rfl
theorem e_s2 (o : O2) (g h : SR) (ρ : Rho) (Q : Vl → Rho → Prop) : s2 o g h ρ Q = (g ρ fun x ρ1 => h ρ1 fun y ρ2 => rs x ρ2 fun d => rs y ρ2 fun e => o d e fun v => Q v ρ2) := Eq.trans rfl rfl
theorem e_s3 (o o' : O2) (g h l : SR) (ρ : Rho) (Q : Vl → Rho → Prop) : s3 o o' g h l ρ Q = (g ρ fun x ρ1 => h ρ1 fun y ρ2 => rs x ρ2 fun d => rs y ρ2 fun e => o d e fun v => match v with
  | .im (.bool true) => l ρ2 fun z ρ3 => rs y ρ3 fun e' => rs z ρ3 fun f => o' e' f fun v => Q v ρ3
  | .im (.bool false) => Q (.im (.bool false)) ρ2
  | _ => False) := Eq.trans rfl rfl
theorem e_s4 (o o' o'' : O2) (g h l m : SR) (ρ : Rho) (Q : Vl → Rho → Prop) : s4 o o' o'' g h l m ρ Q = (g ρ fun x ρ1 => h ρ1 fun y ρ2 => rs x ρ2 fun d => rs y ρ2 fun e => o d e fun v => match v with
  | .im (.bool true) => l ρ2 fun z ρ3 => rs y ρ3 fun e' => rs z ρ3 fun f => o' e' f fun v => (match v with
    | .im (.bool true) => m ρ3 fun u ρ4 => rs z ρ4 fun f' => rs u ρ4 fun g' => o'' f' g' fun v => Q v ρ4
    | .im (.bool false) => Q (.im (.bool false)) ρ3
    | _ => False)
  | .im (.bool false) => Q (.im (.bool false)) ρ2
  | _ => False) := Eq.trans rfl rfl
theorem e_rs (o : Op) (ρ : Rho) (k : D → Prop) : rs o ρ k = (match o with
  | .d d => k d
  | .s i => match ρ.c[i]? with
    | some (.im d) => k d
    | some (.mu ds) => k (.list ds)
    | _ => False) := Eq.trans rfl rfl
theorem e_sT (f : SE) (ρ : Rho) (Q : Bool → Rho → Prop) : sT f ρ Q = (f ρ fun v ρ' => match v with | .im (.bool b) => Q b ρ' | _ => False) := Eq.trans rfl rfl
theorem e_sAnd (t u : ST) (ρ : Rho) (Q : Bool → Rho → Prop) : sAnd t u ρ Q = (t ρ fun c ρ1 => if c = true then u ρ1 Q else Q false ρ1) := Eq.trans rfl rfl
theorem e_sOr (t u : ST) (ρ : Rho) (Q : Bool → Rho → Prop) : sOr t u ρ Q = (t ρ fun c ρ1 => if c = true then Q true ρ1 else u ρ1 Q) := Eq.trans rfl rfl
theorem e_sNot (t : ST) (ρ : Rho) (Q : Bool → Rho → Prop) : sNot t ρ Q = (t ρ fun c ρ1 => Q (!c) ρ1) := Eq.trans rfl rfl
theorem e_vB (f : SE) (k : Rho → Bool → (Vl → Rho → Prop) → Prop) (ρ : Rho) (Q : Vl → Rho → Prop) : vB f k ρ Q = (f ρ fun v ρ1 => match v with | .im (.bool c) => k ρ1 c Q | _ => False) := Eq.trans rfl rfl
theorem e_sAndV (f g : SE) (ρ : Rho) (Q : Vl → Rho → Prop) : sAndV f g ρ Q = ((vB f fun ρ c Q => if c = true then g ρ Q else Q (.im (.bool false)) ρ) ρ Q) := Eq.trans rfl rfl
theorem e_sOrV (f g : SE) (ρ : Rho) (Q : Vl → Rho → Prop) : sOrV f g ρ Q = ((vB f fun ρ c Q => if c = true then Q (.im (.bool true)) ρ else g ρ Q) ρ Q) := Eq.trans rfl rfl
theorem e_sNotV (f : SE) (ρ : Rho) (Q : Vl → Rho → Prop) : sNotV f ρ Q = ((vB f fun ρ c Q => Q (.im (.bool (!c))) ρ) ρ Q) := Eq.trans rfl rfl
theorem e_sIf (t : ST) (f g : SE) (ρ : Rho) (Q : Vl → Rho → Prop) : sIf t f g ρ Q = (t ρ fun c ρ1 => if c = true then f ρ1 Q else g ρ1 Q) := Eq.trans rfl rfl
theorem e_sgName (i : Nat) (v : Vl) (ρ : Rho) (Q : Rho → Prop) : sgName i v ρ Q = (Q ⟨ρ.c.set i (cellOf v), ρ.x⟩) := Eq.trans rfl rfl
theorem e_cellOf (v : Vl) : Dv.cellOf v = (match v with
  | .im d => .im d
  | .fr ds => .mu ds
  | .fd => .fd) := Eq.trans rfl rfl
theorem e_sgNil (ds : List D) (ρ : Rho) (Q : Rho → Prop) : sgNil ds ρ Q = (match ds with | [] => Q ρ | _ => False) := Eq.trans rfl rfl
theorem e_sgCons (g : SG) (gs : SGs) (ds : List D) (ρ : Rho) (Q : Rho → Prop) : sgCons g gs ds ρ Q = (match ds with | d :: r => g (.im d) ρ fun ρ' => gs r ρ' Q | _ => False) := Eq.trans rfl rfl
theorem e_sgTup (n : Nat) (gs : SGs) (v : Vl) (ρ : Rho) (Q : Rho → Prop) : sgTup n gs v ρ Q = (fz v fun d => match d with | .tuple ds => ds.length = n ∧ gs ds ρ Q | _ => False) := Eq.trans rfl rfl
theorem e_sIt (f : SE) (ρ : Rho) (Q : List D → Rho → Prop) : sIt f ρ Q = (f ρ fun v ρ1 => fz v fun d => match d with
  | .list ds => Q ds ρ1
  | .tuple ds => Q ds ρ1
  | .str x => Q (chrD x) ρ1
  | _ => False) := Eq.trans rfl rfl
theorem e_sRng1 (t : SDs) (ρ : Rho) (Q : List D → Rho → Prop) : sRng1 t ρ Q = (t ρ fun ds ρ1 => match ds with | [.int j] => -(2 ^ 62) ≤ j ∧ j < 2 ^ 62 ∧ Q (rngD 0 j.toNat) ρ1 | _ => False) := Eq.trans rfl rfl
theorem e_sRng2 (t : SDs) (ρ : Rho) (Q : List D → Rho → Prop) : sRng2 t ρ Q = (t ρ fun ds ρ1 => match ds with | [.int i, .int j] => (-(2 ^ 62) ≤ i ∧ i < 2 ^ 62 ∧ -(2 ^ 62) ≤ j ∧ j < 2 ^ 62) ∧ Q (rngD i (j - i).toNat) ρ1 | _ => False) := Eq.trans rfl rfl
theorem e_sEnum (t : SDs) (ρ : Rho) (Q : List D → Rho → Prop) : sEnum t ρ Q = (t ρ fun ds ρ1 => match ds with | [.list xs] => Q (enumD xs) ρ1 | _ => False) := Eq.trans rfl rfl
theorem e_sZip (t : SDs) (ρ : Rho) (Q : List D → Rho → Prop) : sZip t ρ Q = (t ρ fun ds ρ1 => match ds with | [.list xs, .list ys] => Q (zipD xs ys) ρ1 | _ => False) := Eq.trans rfl rfl
theorem e_sRev (f : SE) (ρ : Rho) (Q : List D → Rho → Prop) : sRev f ρ Q = (f ρ fun v ρ1 => fz v fun d => match d with | .list xs => Q xs.reverse ρ1 | _ => False) := Eq.trans rfl rfl
theorem e_sRevR (f : SRg) (ρ : Rho) (Q : List D → Rho → Prop) : sRevR f ρ Q = (f ρ fun a b ρ1 => (-(2 ^ 62) ≤ a ∧ a < 2 ^ 62 ∧ -(2 ^ 62) ≤ b ∧ b < 2 ^ 62) ∧ Q (rngCD (a + (((b - a).toNat : Nat) : Int) - 1) (-1) (b - a).toNat) ρ1) := Eq.trans rfl rfl
theorem e_sRg1 (f : SE) (ρ : Rho) (Q : Int → Int → Rho → Prop) : sRg1 f ρ Q = (sI f (fun i ρ1 => Q 0 i ρ1) ρ) := Eq.trans rfl rfl
theorem e_sRg2 (f g : SE) (ρ : Rho) (Q : Int → Int → Rho → Prop) : sRg2 f g ρ Q = (sI f (fun i ρ1 => sI g (fun j ρ2 => Q i j ρ2) ρ1) ρ) := Eq.trans rfl rfl
theorem e_sLstR (f : SRg) (ρ : Rho) (Q : Vl → Rho → Prop) : sLstR f ρ Q = (f ρ fun a b ρ1 => RgOk a b ∧ Q (.fr (rngD a (b - a).toNat)) ρ1) := Eq.trans rfl rfl
theorem e_sCall (F : Fn) (a : SA) (ρ : Rho) (Q : Vl → Rho → Prop) : sCall F a ρ Q = (a ρ fun as ρ1 => F as (fun v => Q v ρ1) fun _ => False) := Eq.trans rfl rfl
theorem e_sMeth (i : Nat) (t : SDs) (o : OM) (ρ : Rho) (Q : Vl → Rho → Prop) : sMeth i t o ρ Q = ((match ρ.c[i]? with | some (.mu _) => True | _ => False) ∧ t ρ fun as ρ1 => match ρ1.c[i]? with
  | some (.mu ds) => o ds as fun ds' r => Q r ⟨ρ1.c.set i (.mu ds'), ρ1.x⟩
  | _ => False) := Eq.trans rfl rfl
theorem e_sSetIx (i : Nat) (f : SE) (g : SR) (ρ : Rho) (E : DE) : sSetIx i f g ρ E = (f ρ fun v ρ1 => fz v fun d => (match ρ1.c[i]? with | some (.mu _) => True | _ => False) ∧ g ρ1 fun x ρ2 => rs x ρ2 fun e => match e with
  | .int k => match ρ2.c[i]? with
    | some (.mu ds) => match ixN ds.length k with
      | some j => E.nx ⟨ρ2.c.set i (.mu (ds.set j d)), ρ2.x⟩
      | none => False
    | _ => False
  | _ => False) := Eq.trans rfl rfl
theorem e_sAugIx (i : Nat) (g : SR) (f : SE) (o : Int → Int → Int) (ρ : Rho) (E : DE) : sAugIx i g f o ρ E = ((match ρ.c[i]? with | some (.mu _) => True | _ => False) ∧ g ρ fun x ρ1 => rs x ρ1 fun e => match e with
  | .int k => match ρ1.c[i]? with
    | some (.mu ds) => match atI ds k with
      | some (.int a) => f ρ1 fun v ρ2 => fz v fun b => match b with
        | .int b => match ρ2.c[i]? with
          | some (.mu ds) => match ixN ds.length k with
            | some j => E.nx ⟨ρ2.c.set i (.mu (ds.set j (.int (o a b)))), ρ2.x⟩
            | none => False
          | _ => False
        | _ => False
      | _ => False
    | _ => False
  | _ => False) := Eq.trans rfl rfl
theorem e_sAug (i : Nat) (o : O2) (f : SE) (ρ : Rho) (E : DE) : sAug i o f ρ E = (match ρ.c[i]? with
  | some (.im d) => f ρ fun v ρ1 => fz v fun e => o d e fun r => E.nx ⟨ρ1.c.set i (cellOf r), ρ1.x⟩
  | _ => False) := Eq.trans rfl rfl
theorem e_sSl (g : SR) (lo hi : SO) (ρ : Rho) (Q : Vl → Rho → Prop) : sSl g lo hi ρ Q = (g ρ fun x ρ1 => lo ρ1 fun l ρ2 => hi ρ2 fun u ρ3 => rs x ρ3 fun d => oSl l u d fun v => Q v ρ3) := Eq.trans rfl rfl
theorem e_pNo (ρ : Rho) (Q : Option Int → Rho → Prop) : pNo ρ Q = (Q none ρ) := Eq.trans rfl rfl
theorem e_pSome (f : SR) (ρ : Rho) (Q : Option Int → Rho → Prop) : pSome f ρ Q = (f ρ fun x ρ1 => rs x ρ1 fun d => match d with | .int i => Q (some i) ρ1 | _ => False) := Eq.trans rfl rfl
theorem e_sLc (own : List Nat) (si : SI) (g : SG) (t : ST) (f : SE) (ρ : Rho) (Q : Vl → Rho → Prop) : sLc own si g t f ρ Q = (si ρ fun ds ρ1 => ds.length ≤ 16777216 ∧ wComp own (sTurn g t f) ds ρ1 fun out ρ2 => Q (.fr out) ρ2) := Eq.trans rfl rfl
theorem e_sYes (ρ : Rho) (Q : Bool → Rho → Prop) : sYes ρ Q = (Q true ρ) := Eq.trans rfl rfl
theorem e_sIxG (kvs : List (Int × Str)) (g : SR) (ρ : Rho) (Q : Vl → Rho → Prop) : sIxG kvs g ρ Q = (g ρ fun o ρ1 => rs o ρ1 fun d => match d with
  | .int i => match kvs.lookup i with | some v => Q (.im (.str v)) ρ1 | none => False
  | _ => False) := Eq.trans rfl rfl
theorem e_oAdd (d : D) (e : D) (k : Vl → Prop) : oAdd d e k = (match d, e with
  | .int i, .int j => k (.im (.int (i + j)))
  | .str a, .str b => a.length + b.length ≤ 16777216 ∧ k (.im (.str (a ++ b)))
  | .list xs, .list ys => xs.length + ys.length ≤ 16777216 ∧ k (.fr (xs ++ ys))
  | _, _ => False) := Eq.trans rfl rfl
theorem e_oI (C : Int → Int → Prop) (g : Int → Int → D) (d : D) (e : D) (k : Vl → Prop) : oI C g d e k = (match d, e with
  | .int i, .int j => C i j ∧ k (.im (g i j))
  | _, _ => False) := Eq.trans rfl rfl
theorem e_oI0 (g : Int → Int → D) (d : D) (e : D) (k : Vl → Prop) : oI0 g d e k = (match d, e with
  | .int i, .int j => k (.im (g i j))
  | _, _ => False) := Eq.trans rfl rfl
theorem e_oSub (d : D) (e : D) (k : Vl → Prop) : oSub d e k = ((oI0 fun i j => .int (i - j)) d e k) := Eq.trans rfl rfl
theorem e_oMul (d : D) (e : D) (k : Vl → Prop) : oMul d e k = (match d, e with
  | .int i, .int j => CMul i j ∧ k (.im (.int (i * j)))
  | .list xs, .int n => (-(2 ^ 63) ≤ n ∧ n < 2 ^ 63 ∧ xs.length * n.toNat ≤ 16777216) ∧ k (.fr (List.replicate n.toNat xs).flatten)
  | _, _ => False) := Eq.trans rfl rfl
theorem e_oFdiv (d : D) (e : D) (k : Vl → Prop) : oFdiv d e k = ((oI CDiv fun i j => .int (i / j)) d e k) := Eq.trans rfl rfl
theorem e_oMod (d : D) (e : D) (k : Vl → Prop) : oMod d e k = ((oI (fun _ j => 0 < j) fun i j => .int (i % j)) d e k) := Eq.trans rfl rfl
theorem e_oPow (d : D) (e : D) (k : Vl → Prop) : oPow d e k = ((oI CPow fun i j => .int (i ^ j.toNat)) d e k) := Eq.trans rfl rfl
theorem e_oShl (d : D) (e : D) (k : Vl → Prop) : oShl d e k = ((oI CPow fun i j => .int (i * 2 ^ j.toNat)) d e k) := Eq.trans rfl rfl
theorem e_oShr (d : D) (e : D) (k : Vl → Prop) : oShr d e k = ((oI (fun _ j => 0 ≤ j) fun i j => .int (i / 2 ^ j.toNat)) d e k) := Eq.trans rfl rfl
theorem e_oNeg (d : D) (k : Vl → Prop) : oNeg d k = (match d with | .int i => k (.im (.int (-i))) | _ => False) := Eq.trans rfl rfl
theorem e_oEq (d : D) (e : D) (k : Vl → Prop) : oEq d e k = (match d, e with
  | .int i, .int j => k (.im (.bool (decide (i = j))))
  | .str i, .str j => k (.im (.bool (decide (i = j))))
  | .bool i, .bool j => k (.im (.bool (decide (i = j))))
  | d, e => min d.depth e.depth ≤ 60 ∧ k (.im (.bool (PyData.eqv d e)))) := Eq.trans rfl rfl
theorem e_oNe (d : D) (e : D) (k : Vl → Prop) : oNe d e k = (match d, e with
  | .int i, .int j => k (.im (.bool (!decide (i = j))))
  | .str i, .str j => k (.im (.bool (!decide (i = j))))
  | .bool i, .bool j => k (.im (.bool (!decide (i = j))))
  | d, e => min d.depth e.depth ≤ 60 ∧ k (.im (.bool (!PyData.eqv d e)))) := Eq.trans rfl rfl
theorem e_oLtI (d : D) (e : D) (k : Vl → Prop) : oLtI d e k = ((oI0 fun i j => .bool (decide (i < j))) d e k) := Eq.trans rfl rfl
theorem e_oLeI (d : D) (e : D) (k : Vl → Prop) : oLeI d e k = ((oI0 fun i j => .bool (decide (i ≤ j))) d e k) := Eq.trans rfl rfl
theorem e_oGtI (d : D) (e : D) (k : Vl → Prop) : oGtI d e k = ((oI0 fun i j => .bool (decide (j < i))) d e k) := Eq.trans rfl rfl
theorem e_oGeI (d : D) (e : D) (k : Vl → Prop) : oGeI d e k = ((oI0 fun i j => .bool (decide (j ≤ i))) d e k) := Eq.trans rfl rfl
theorem e_oIs (neg : Bool) (d : D) (e : D) (k : Vl → Prop) : oIs neg d e k = (match e with
  | .none => k (.im (.bool (ng neg (isNone d))))
  | .bool b => match d with
    | .bool a => k (.im (.bool (ng neg (decide (a = b)))))
    | _ => False
  | _ => False) := Eq.trans rfl rfl
theorem e_oIn (neg : Bool) (d : D) (e : D) (k : Vl → Prop) : oIn neg d e k = (match e with
  | .list ds => min (PyData.depthAll ds) d.depth ≤ 60 ∧ k (.im (.bool (ng neg (ds.any fun z => PyData.eqv z d))))
  | .tuple ds => min (PyData.depthAll ds) d.depth ≤ 60 ∧ k (.im (.bool (ng neg (ds.any fun z => PyData.eqv z d))))
  | .str z => match d with
    | .str x => match x.cps.toList with
      | [c] => k (.im (.bool (ng neg (decide (c ∈ z.cps.toList)))))
      | _ => False
    | _ => False
  | _ => False) := Eq.trans rfl rfl
theorem e_oIx (d : D) (e : D) (k : Vl → Prop) : oIx d e k = (match e with
  | .int i => match d with
    | .list ds => match atI ds i with | some x => k (.im x) | none => False
    | .tuple ds => match atI ds i with | some x => k (.im x) | none => False
    | .str z => z.length ≤ 16777216 ∧ match atI z.cps.toList i with | some c => k (.im (.str ⟨#[c]⟩)) | none => False
    | _ => False
  | _ => False) := Eq.trans rfl rfl
theorem e_oSl (lo hi : Option Int) (d : D) (k : Vl → Prop) : oSl lo hi d k = (match d with
  | .list ds => k (.fr (cutD ds lo hi))
  | .tuple ds => ¬ (HT.sIx ds.length 0 lo = 0 ∧ HT.sIx ds.length ds.length hi = ds.length) ∧ k (.im (.tuple (cutD ds lo hi)))
  | .str z => z.length ≤ 16777216 ∧ k (.im (.str (cutS z lo hi)))
  | _ => False) := Eq.trans rfl rfl
theorem e_oLen (d : D) (k : Vl → Prop) : oLen d k = (match d with
  | .list ds => k (.im (.int ds.length))
  | .tuple ds => k (.im (.int ds.length))
  | .str z => z.length ≤ 16777216 ∧ k (.im (.int z.length))
  | _ => False) := Eq.trans rfl rfl
theorem e_oAbs (d : D) (k : Vl → Prop) : oAbs d k = (match d with | .int i => k (.im (.int (if i < 0 then -i else i))) | _ => False) := Eq.trans rfl rfl
theorem e_oInt (d : D) (k : Vl → Prop) : oInt d k = (match d with
  | .int i => k (.im (.int i))
  | .bool b => k (.im (.int (if b then 1 else 0)))
  | _ => False) := Eq.trans rfl rfl
theorem e_oMax2 (d : D) (e : D) (k : Vl → Prop) : oMax2 d e k = ((oI0 fun i j => .int (if j > i then j else i)) d e k) := Eq.trans rfl rfl
theorem e_oMin2 (d : D) (e : D) (k : Vl → Prop) : oMin2 d e k = ((oI0 fun i j => .int (if j < i then j else i)) d e k) := Eq.trans rfl rfl
theorem e_oList (d : D) (k : Vl → Prop) : oList d k = (match d with
  | .list ds => k (.fr ds)
  | .tuple ds => k (.fr ds)
  | _ => False) := Eq.trans rfl rfl
theorem e_oTuple (d : D) (k : Vl → Prop) : oTuple d k = (match d with
  | .list ds => k (.im (.tuple ds))
  | .tuple ds => k (.im (.tuple ds))
  | _ => False) := Eq.trans rfl rfl
theorem e_oIsi (T : String) (d : D) (k : Vl → Prop) : oIsi T d k = (k (.im (.bool (isiD d T)))) := Eq.trans rfl rfl
theorem e_oAddI (d : D) (e : D) (k : Vl → Prop) : oAddI d e k = (match d, e with
  | .int i, .int j => k (.im (.int (i + j)))
  | .str a, .str b => a.length + b.length ≤ 16777216 ∧ k (.im (.str (a ++ b)))
  | _, _ => False) := Eq.trans rfl rfl
theorem e_mAppend (ds : List D) (as : List D) (k : List D → Vl → Prop) : mAppend ds as k = (match as with | [d] => ds.length < 16777216 ∧ k (ds ++ [d]) (.im .none) | _ => False) := Eq.trans rfl rfl
theorem e_mExtend (ds : List D) (as : List D) (k : List D → Vl → Prop) : mExtend ds as k = (match as with | [.list es] => ds.length + es.length ≤ 16777216 ∧ k (ds ++ es) (.im .none) | _ => False) := Eq.trans rfl rfl
theorem e_mPop (ds : List D) (as : List D) (k : List D → Vl → Prop) : mPop ds as k = (match as with | [] => (match ds[ds.length - 1]? with | some d => k ds.dropLast (.im d) | none => False) | _ => False) := Eq.trans rfl rfl
theorem e_mPopAt (ds : List D) (as : List D) (k : List D → Vl → Prop) : mPopAt ds as k = (match as with | [.int i] => (-(2 ^ 63) ≤ i ∧ i < 2 ^ 63) ∧ (match seqIndex? i ds.length with | some j => (match ds[j]? with | some d => k (ds.eraseIdx j) (.im d) | none => False) | none => False) | _ => False) := Eq.trans rfl rfl
theorem e_mInsert (ds : List D) (as : List D) (k : List D → Vl → Prop) : mInsert ds as k = (match as with | [.int i, d] => (ds.length < 16777216 ∧ 0 ≤ i ∧ i < 2 ^ 63) ∧ k (ds.take i.toNat ++ [d] ++ ds.drop i.toNat) (.im .none) | _ => False) := Eq.trans rfl rfl
theorem e_noFd (k : Vl → Prop) (v : Vl) : noFd k v = (match v with
  | .im d => k (.im d)
  | .fr ds => k (.fr ds)
  | .fd => False) := Eq.trans rfl rfl
theorem e_cells0 (n : Nat) (args : List Ar) : cells0 n args = (args.map arCell ++ List.replicate (n - args.length) .un) := Eq.trans rfl rfl
end Dv

/-! DvL: max, min of a list of ints with a default. -/
namespace Dv
open PySem PySem.Spec L2
open PyProof.Rows hiding St
/-! Gt# max(xs, default=d), xs a list of ints -/
section
variable {prog : Program} {w : World} {A : Around} {it0 bx : Addr} {fps wrs : List Addr} {m : Nat} {PV : Nat → Value → Prop} {Sx : Nat → Heap → Prop} {kw : List (Str × Value)}
theorem args_maxD (a d : Value) : argsOk "max" ⟨[a], [(Str.ofString "default", d)]⟩ := by
  unfold argsOk
  kernel_rfl
theorem max_turns (Wk : Walks prog w A.in1 it0 fps wrs m PV Sx) (gr : Nat → Nat → Bool) (cmp : CmpOf prog w A.in1 .Gt PV gr) (nb : bx ∉ fps) {Rz : Result → Shared → Prop} :
    ∀ (left at_ : Nat) (s0 : Shared) (cur : Value) (cap : Nat), m - (at_ + 1) = left → at_ + 1 ≤ m → Sx (at_ + 1) s0.heap → PV (argBest gr at_) cur →
    s0.heap.get? bx = some { cls := .type "list", dict := none, data := .seq #[cur, cur] cap, slots := #[] } →
    (∀ u hx tk, PV (argBest gr (m - 1)) u → (∀ b o, b ∉ wrs → b ≠ bx → s0.heap.get? b = some o → hx.get? b = some o) → Rz (.ok (.ret u)) { s0 with heap := hx, toks := tk }) →
    codeAny (model prog w) A (.builtin "max.loop" ⟨[.ref it0, .none, .ref bx], kw⟩) Rz s0 := by
  have nw : bx ∉ wrs := fun z => nb (Wk.sub _ z)
  have nm : (toString "max" ++ toString ".loop" : String) = "max.loop" := by decide
  intro left
  induction left with
  | zero =>
    intro at_ s0 cur cap e1 e2 hSt hP hb hR
    have em : at_ + 1 = m := by omega
    refine codeAny_builtin F.entry_max_loop ?_
    rw [Around.under_plainId F.plain_max_loop _]
    show wpAny _ A.in1 (seqItems? (.ref bx) >>= _) _ _ s0
    refine wpAny_bind (wpAny_seqItems hb rfl ?_)
    show wpAny _ A.in1 (tryCatch (pyNext (.ref it0)) _ >>= _) _ _ s0
    refine wpAny_bind (wpAny_tryCatch (Wk.done s0 _ _ (em ▸ hSt) fun hx tk kp => ?_))
    have hb2 := kp bx _ nw hb
    cases kw <;>
    · show wpAny _ A.in1 (updateSeq bx (fun _ => #[]) >>= _) _ _ _
      refine wpAny_bind (wpAny_updateSeq hb2 rfl (wpAny_bind (wpAny_letGo (wpAny_pure ?_))))
      exact hR cur _ tk (by rw [← em]; exact hP) fun b o z1 z2 e => (Heap.get?_update_other _ _ (Ne.symm z2)).trans (kp b o z1 e)
  | succ left ih =>
    intro at_ s0 cur cap e1 e2 hSt hP hb hR
    have lt : at_ + 1 < m := by omega
    refine codeAny_builtin F.entry_max_loop ?_
    rw [Around.under_plainId F.plain_max_loop _]
    show wpAny _ A.in1 (seqItems? (.ref bx) >>= _) _ _ s0
    refine wpAny_bind (wpAny_seqItems hb rfl ?_)
    show wpAny _ A.in1 (tryCatch (pyNext (.ref it0)) _ >>= _) _ _ s0
    refine wpAny_bind (wpAny_tryCatch (Wk.item (at_ + 1) s0 _ _ lt hSt fun v hx tk hv hSt2 kp => ?_))
    have hb2 := kp bx _ nw hb
    show wpAny _ A.in1 (tryCatch (holding [v, v] (richCompare .Gt v cur >>= _)) _ >>= _) _ _ _
    refine wpAny_bind (wpAny_tryCatch (wpAny_holding (wpAny_bind (cmp (at_ + 1) (argBest gr at_) v cur _ _ _ hv hP (wpAny_bind (wpAny_holding (wpAny_truthy_bool (wpAny_bind (wpAny_letGo (wpAny_pure ?_))))))))))
    cases eg : gr (at_ + 1) (argBest gr at_) with
    | true =>
      rw [if_pos rfl]
      refine wpAny_bind (wpAny_updateSeq hb2 rfl (wpAny_bind (wpAny_letGo ?_)))
      rw [nm]
      have pv : PV (argBest gr (at_ + 1)) v := by
        rw [argBest, eg]
        exact hv
      refine wpAny_pure ⟨plainId_quiet F.plain_max_loop _, ih (at_ + 1) _ v _ (by omega) lt (Wk.frame _ _ _ hSt2 fun b z o e => (Heap.get?_update_other _ _ fun y : bx = b => nb (by rw [y]; exact z)).trans e) pv (Heap.get?_update_self _ hb2 rfl) fun u hy tk2 hu k2 => ?_⟩
      exact hR u hy tk2 hu fun b o z1 z2 e => k2 b o z1 z2 ((Heap.get?_update_other _ _ (Ne.symm z2)).trans (kp b o z1 e))
    | false =>
      rw [if_neg (by decide)]
      refine wpAny_bind (wpAny_letGo ?_)
      rw [nm]
      have pv : PV (argBest gr (at_ + 1)) cur := by
        rw [argBest, eg]
        exact hP
      refine wpAny_pure ⟨plainId_quiet F.plain_max_loop _, ih (at_ + 1) _ cur cap (by omega) lt hSt2 pv hb2 fun u hy tk2 hu k2 => ?_⟩
      exact hR u hy tk2 hu fun b o z1 z2 e => k2 b o z1 z2 (kp b o z1 e)
/-- the call: of nothing the default -/
theorem call_maxD {A : Around} {E : Value → Shared → Prop} {s : Shared} {l : Addr} {its : List Value} {ns : List Int} {d : Value} {Q : Value → Shared → Prop} (hh : A.handled = none) (hl : s.heap.IsList l its.toArray) (hi : IntsAre its ns)
    (h0 : ns = [] → ∀ hx tk, (∀ b o, s.heap.get? b = some o → hx.get? b = some o) → Q d { s with heap := hx, toks := tk })
    (h1 : ∀ hx tk M t, (∀ b o, s.heap.get? b = some o → hx.get? b = some o) → M ∈ ns → (∀ a, a ∈ ns → a ≤ M) → Q (.int M t) { s with heap := hx, toks := tk }) :
    wpAny (model prog w) A (call (.builtin "max") [.ref l] [(Str.ofString "default", d)]) Q E s := by
  have nm : (toString "max" ++ toString ".loop" : String) = "max.loop" := by decide
  obtain ⟨xs, ex⟩ := hi.allInts.items
  have hns : ns = xs.toList.map (·.1) := by rw [← hi.numsOf, ← nums_intItems, ← ex]
  rw [ex] at hl
  refine wpAny_call (codeAny_call_builtin F.plain_max F.entry_max ?_)
  have main : wpAny (model prog w) A.in1 (Builtin.«max» ⟨[.ref l], [(Str.ofString "default", d)]⟩) (fun fin s' => match fin with
      | .done f => (match (Except.ok f : Result) with | .ok (.ret v) => Q v s' | .ok _ => False | .error e => E e s')
      | .again c' => c'.quiet = true ∧ codeAny (model prog w) A c' (fun r s' => match r with | .ok (.ret v) => Q v s' | .ok _ => False | .error e => E e s') s') E s := by
    show wpAny _ A.in1 (Builtin.Builtins.bindParams "max" ["key", "default"] 0 ⟨[], [(Str.ofString "default", d)]⟩ >>= _) _ _ s
    refine wpAny_bind (wpAny_of_eq (show Builtin.Builtins.bindParams "max" ["key", "default"] 0 ⟨[], [(Str.ofString "default", d)]⟩ = pure [none, some d] by kernel_rfl) ?_)
    refine wpAny_bind (wpAny_pure ?_)
    refine wpAny_bind (iter_intList hl fun s2 e st hfp hlI => ?_)
    subst e
    have W0 := Walks.list (prog := prog) (w := w) (A := A.in1) hh s.heap.objs.size l hlI (intItems xs)
    refine wpAny_bind (wpAny_newObj_type ?_)
    rw [nm]
    have nb : ∀ {n : Nat}, (∀ b ∈ [s.heap.objs.size, l], b < n) → n ∉ [s.heap.objs.size, l] := fun h hm => Nat.lt_irrefl _ (h _ hm)
    have nb := nb hfp
    have sz : (intItems xs).size = xs.size := by simp [intItems]
    refine wpAny_pure ⟨plainId_quiet F.plain_max_loop _, ?_⟩
    refine codeAny_builtin F.entry_max_loop ?_
    rw [Around.under_plainId F.plain_max_loop _]
    have st3 := W0.frame 0 _ _ st fun b _ o e => Heap.get?_push_of_some { cls := .type "list", dict := none, data := .seq #[] 0, slots := #[] } e
    have hb := Heap.get?_push_size (s.heap.push { cls := .type "list_iterator", data := .fields #[.ref l, .int 0 0] }) (o := { cls := .type "list", dict := none, data := .seq #[] 0, slots := #[] }) rfl
    show wpAny _ A.in1 (seqItems? (.ref _) >>= _) _ _ _
    refine wpAny_bind (wpAny_seqItems hb rfl ?_)
    show wpAny _ A.in1 (tryCatch (pyNext (.ref _)) _ >>= _) _ _ _
    by_cases hz : xs.size = 0
    · have st4 : ∀ {S : Nat → Heap → Prop} {h : Heap}, S 0 h → S (intItems xs).size h := fun z => by rw [sz, hz]; exact z
      refine wpAny_bind (wpAny_tryCatch (W0.done _ _ _ (st4 (S := fun i h => h.IsListIter s.heap.objs.size l i ∧ h.IsList l (intItems xs)) st3) fun hx tk kp => ?_))
      show wpAny _ A.in1 (rule _ >>= fun _ => ret d) _ _ _
      refine wpAny_bind (wpAny_rule (wpAny_pure ?_))
      refine h0 ?_ hx tk fun b o e => kp b o (fun z => ?_) (Heap.get?_push_of_some _ (Heap.get?_push_of_some _ e))
      · rw [hns]
        have : xs.toList.length = 0 := by rw [Array.length_toList]; exact hz
        rw [List.length_eq_zero_iff.mp this]
        rfl
      · rw [List.mem_singleton] at z
        exact absurd (Heap.lt_size e) (by rw [z]; exact Nat.lt_irrefl _)
    · refine wpAny_bind (wpAny_tryCatch (W0.item 0 _ _ _ (by omega) st3 fun v hx tk hv hSt2 kp => ?_))
      have hb2 := kp _ _ (fun z => nb (List.mem_cons_of_mem _ (by rw [List.mem_singleton] at z; exact absurd z (Nat.ne_of_gt (by rw [Heap.size_push]; exact Nat.lt_succ_self _))))) hb
      show wpAny _ A.in1 (updateSeq _ (fun _ => #[v, v]) >>= _) _ _ _
      refine wpAny_bind (wpAny_updateSeq hb2 rfl ?_)
      rw [nm]
      refine wpAny_pure ⟨plainId_quiet F.plain_max_loop _, max_turns W0 _ (CmpOf.ints_gt (numAt xs) (fun _ _ => intItems_at)) nb _ 0 _ v _ rfl (by omega) (W0.frame _ _ _ hSt2 fun b z o e => (Heap.get?_update_other _ _ fun y => nb (by rw [y]; exact z)).trans e) hv (Heap.get?_update_self _ hb2 rfl) fun u hy tk2 hu k2 => ?_⟩
      obtain ⟨t, rfl⟩ := intItems_at hu
      obtain ⟨g1, g2⟩ := argBest_gt (numAt xs) (xs.size - 1)
      rw [sz]
      refine h1 hy tk2 _ t (fun b o e => k2 b o ?_ ?_ ((Heap.get?_update_other _ _ ?_).trans (kp b o ?_ (Heap.get?_push_of_some _ (Heap.get?_push_of_some _ e))))) ?_ fun a ha => ?_
      · exact fun z => absurd (Heap.lt_size e) (by rw [List.mem_singleton.mp z]; exact Nat.lt_irrefl _)
      · exact Nat.ne_of_lt (Nat.lt_of_lt_of_le (Heap.lt_size e) (by rw [Heap.size_push]; exact Nat.le_succ _))
      · exact Nat.ne_of_gt (Nat.lt_of_lt_of_le (Heap.lt_size e) (by rw [Heap.size_push]; exact Nat.le_succ _))
      · exact fun z => absurd (Heap.lt_size e) (by rw [List.mem_singleton.mp z]; exact Nat.lt_irrefl _)
      · rw [hns, numAt_eq]
        exact PySem.getD_mem (by simp only [List.length_map, Array.length_toList]; omega)
      · rw [hns] at ha
        obtain ⟨j, hj, rfl⟩ := mem_getD ha
        simp only [List.length_map, Array.length_toList] at hj
        rw [← numAt_eq]
        exact g2 j (by omega)
  simp only [checkBuiltinCall, F.kind_max]
  cases hsig : Manifest.signature? "max" with
  | none => exact wpAny_pure main
  | some sig =>
    have ha : Bind.checkArgs "max" sig ⟨[.ref l], [(Str.ofString "default", d)]⟩ = pure () := by
      have := args_maxD (.ref l) d
      simpa only [argsOk, hsig] using this
    simp only [ha]
    exact wpAny_pure main
end
/-! Lt# min(xs, default=d), xs a list of ints -/
section
variable {prog : Program} {w : World} {A : Around} {it0 bx : Addr} {fps wrs : List Addr} {m : Nat} {PV : Nat → Value → Prop} {Sx : Nat → Heap → Prop} {kw : List (Str × Value)}
theorem args_minD (a d : Value) : argsOk "min" ⟨[a], [(Str.ofString "default", d)]⟩ := by
  unfold argsOk
  kernel_rfl
theorem min_turns (Wk : Walks prog w A.in1 it0 fps wrs m PV Sx) (gr : Nat → Nat → Bool) (cmp : CmpOf prog w A.in1 .Lt PV gr) (nb : bx ∉ fps) {Rz : Result → Shared → Prop} :
    ∀ (left at_ : Nat) (s0 : Shared) (cur : Value) (cap : Nat), m - (at_ + 1) = left → at_ + 1 ≤ m → Sx (at_ + 1) s0.heap → PV (argBest gr at_) cur →
    s0.heap.get? bx = some { cls := .type "list", dict := none, data := .seq #[cur, cur] cap, slots := #[] } →
    (∀ u hx tk, PV (argBest gr (m - 1)) u → (∀ b o, b ∉ wrs → b ≠ bx → s0.heap.get? b = some o → hx.get? b = some o) → Rz (.ok (.ret u)) { s0 with heap := hx, toks := tk }) →
    codeAny (model prog w) A (.builtin "min.loop" ⟨[.ref it0, .none, .ref bx], kw⟩) Rz s0 := by
  have nw : bx ∉ wrs := fun z => nb (Wk.sub _ z)
  have nm : (toString "min" ++ toString ".loop" : String) = "min.loop" := by decide
  intro left
  induction left with
  | zero =>
    intro at_ s0 cur cap e1 e2 hSt hP hb hR
    have em : at_ + 1 = m := by omega
    refine codeAny_builtin F.entry_min_loop ?_
    rw [Around.under_plainId F.plain_min_loop _]
    show wpAny _ A.in1 (seqItems? (.ref bx) >>= _) _ _ s0
    refine wpAny_bind (wpAny_seqItems hb rfl ?_)
    show wpAny _ A.in1 (tryCatch (pyNext (.ref it0)) _ >>= _) _ _ s0
    refine wpAny_bind (wpAny_tryCatch (Wk.done s0 _ _ (em ▸ hSt) fun hx tk kp => ?_))
    have hb2 := kp bx _ nw hb
    cases kw <;>
    · show wpAny _ A.in1 (updateSeq bx (fun _ => #[]) >>= _) _ _ _
      refine wpAny_bind (wpAny_updateSeq hb2 rfl (wpAny_bind (wpAny_letGo (wpAny_pure ?_))))
      exact hR cur _ tk (by rw [← em]; exact hP) fun b o z1 z2 e => (Heap.get?_update_other _ _ (Ne.symm z2)).trans (kp b o z1 e)
  | succ left ih =>
    intro at_ s0 cur cap e1 e2 hSt hP hb hR
    have lt : at_ + 1 < m := by omega
    refine codeAny_builtin F.entry_min_loop ?_
    rw [Around.under_plainId F.plain_min_loop _]
    show wpAny _ A.in1 (seqItems? (.ref bx) >>= _) _ _ s0
    refine wpAny_bind (wpAny_seqItems hb rfl ?_)
    show wpAny _ A.in1 (tryCatch (pyNext (.ref it0)) _ >>= _) _ _ s0
    refine wpAny_bind (wpAny_tryCatch (Wk.item (at_ + 1) s0 _ _ lt hSt fun v hx tk hv hSt2 kp => ?_))
    have hb2 := kp bx _ nw hb
    show wpAny _ A.in1 (tryCatch (holding [v, v] (richCompare .Lt v cur >>= _)) _ >>= _) _ _ _
    refine wpAny_bind (wpAny_tryCatch (wpAny_holding (wpAny_bind (cmp (at_ + 1) (argBest gr at_) v cur _ _ _ hv hP (wpAny_bind (wpAny_holding (wpAny_truthy_bool (wpAny_bind (wpAny_letGo (wpAny_pure ?_))))))))))
    cases eg : gr (at_ + 1) (argBest gr at_) with
    | true =>
      rw [if_pos rfl]
      refine wpAny_bind (wpAny_updateSeq hb2 rfl (wpAny_bind (wpAny_letGo ?_)))
      rw [nm]
      have pv : PV (argBest gr (at_ + 1)) v := by
        rw [argBest, eg]
        exact hv
      refine wpAny_pure ⟨plainId_quiet F.plain_min_loop _, ih (at_ + 1) _ v _ (by omega) lt (Wk.frame _ _ _ hSt2 fun b z o e => (Heap.get?_update_other _ _ fun y : bx = b => nb (by rw [y]; exact z)).trans e) pv (Heap.get?_update_self _ hb2 rfl) fun u hy tk2 hu k2 => ?_⟩
      exact hR u hy tk2 hu fun b o z1 z2 e => k2 b o z1 z2 ((Heap.get?_update_other _ _ (Ne.symm z2)).trans (kp b o z1 e))
    | false =>
      rw [if_neg (by decide)]
      refine wpAny_bind (wpAny_letGo ?_)
      rw [nm]
      have pv : PV (argBest gr (at_ + 1)) cur := by
        rw [argBest, eg]
        exact hP
      refine wpAny_pure ⟨plainId_quiet F.plain_min_loop _, ih (at_ + 1) _ cur cap (by omega) lt hSt2 pv hb2 fun u hy tk2 hu k2 => ?_⟩
      exact hR u hy tk2 hu fun b o z1 z2 e => k2 b o z1 z2 (kp b o z1 e)
/-- the call: of nothing the default -/
theorem call_minD {A : Around} {E : Value → Shared → Prop} {s : Shared} {l : Addr} {its : List Value} {ns : List Int} {d : Value} {Q : Value → Shared → Prop} (hh : A.handled = none) (hl : s.heap.IsList l its.toArray) (hi : IntsAre its ns)
    (h0 : ns = [] → ∀ hx tk, (∀ b o, s.heap.get? b = some o → hx.get? b = some o) → Q d { s with heap := hx, toks := tk })
    (h1 : ∀ hx tk M t, (∀ b o, s.heap.get? b = some o → hx.get? b = some o) → M ∈ ns → (∀ a, a ∈ ns → M ≤ a) → Q (.int M t) { s with heap := hx, toks := tk }) :
    wpAny (model prog w) A (call (.builtin "min") [.ref l] [(Str.ofString "default", d)]) Q E s := by
  have nm : (toString "min" ++ toString ".loop" : String) = "min.loop" := by decide
  obtain ⟨xs, ex⟩ := hi.allInts.items
  have hns : ns = xs.toList.map (·.1) := by rw [← hi.numsOf, ← nums_intItems, ← ex]
  rw [ex] at hl
  refine wpAny_call (codeAny_call_builtin F.plain_min F.entry_min ?_)
  have main : wpAny (model prog w) A.in1 (Builtin.«min» ⟨[.ref l], [(Str.ofString "default", d)]⟩) (fun fin s' => match fin with
      | .done f => (match (Except.ok f : Result) with | .ok (.ret v) => Q v s' | .ok _ => False | .error e => E e s')
      | .again c' => c'.quiet = true ∧ codeAny (model prog w) A c' (fun r s' => match r with | .ok (.ret v) => Q v s' | .ok _ => False | .error e => E e s') s') E s := by
    show wpAny _ A.in1 (Builtin.Builtins.bindParams "min" ["key", "default"] 0 ⟨[], [(Str.ofString "default", d)]⟩ >>= _) _ _ s
    refine wpAny_bind (wpAny_of_eq (show Builtin.Builtins.bindParams "min" ["key", "default"] 0 ⟨[], [(Str.ofString "default", d)]⟩ = pure [none, some d] by kernel_rfl) ?_)
    refine wpAny_bind (wpAny_pure ?_)
    refine wpAny_bind (iter_intList hl fun s2 e st hfp hlI => ?_)
    subst e
    have W0 := Walks.list (prog := prog) (w := w) (A := A.in1) hh s.heap.objs.size l hlI (intItems xs)
    refine wpAny_bind (wpAny_newObj_type ?_)
    rw [nm]
    have nb : ∀ {n : Nat}, (∀ b ∈ [s.heap.objs.size, l], b < n) → n ∉ [s.heap.objs.size, l] := fun h hm => Nat.lt_irrefl _ (h _ hm)
    have nb := nb hfp
    have sz : (intItems xs).size = xs.size := by simp [intItems]
    refine wpAny_pure ⟨plainId_quiet F.plain_min_loop _, ?_⟩
    refine codeAny_builtin F.entry_min_loop ?_
    rw [Around.under_plainId F.plain_min_loop _]
    have st3 := W0.frame 0 _ _ st fun b _ o e => Heap.get?_push_of_some { cls := .type "list", dict := none, data := .seq #[] 0, slots := #[] } e
    have hb := Heap.get?_push_size (s.heap.push { cls := .type "list_iterator", data := .fields #[.ref l, .int 0 0] }) (o := { cls := .type "list", dict := none, data := .seq #[] 0, slots := #[] }) rfl
    show wpAny _ A.in1 (seqItems? (.ref _) >>= _) _ _ _
    refine wpAny_bind (wpAny_seqItems hb rfl ?_)
    show wpAny _ A.in1 (tryCatch (pyNext (.ref _)) _ >>= _) _ _ _
    by_cases hz : xs.size = 0
    · have st4 : ∀ {S : Nat → Heap → Prop} {h : Heap}, S 0 h → S (intItems xs).size h := fun z => by rw [sz, hz]; exact z
      refine wpAny_bind (wpAny_tryCatch (W0.done _ _ _ (st4 (S := fun i h => h.IsListIter s.heap.objs.size l i ∧ h.IsList l (intItems xs)) st3) fun hx tk kp => ?_))
      show wpAny _ A.in1 (rule _ >>= fun _ => ret d) _ _ _
      refine wpAny_bind (wpAny_rule (wpAny_pure ?_))
      refine h0 ?_ hx tk fun b o e => kp b o (fun z => ?_) (Heap.get?_push_of_some _ (Heap.get?_push_of_some _ e))
      · rw [hns]
        have : xs.toList.length = 0 := by rw [Array.length_toList]; exact hz
        rw [List.length_eq_zero_iff.mp this]
        rfl
      · rw [List.mem_singleton] at z
        exact absurd (Heap.lt_size e) (by rw [z]; exact Nat.lt_irrefl _)
    · refine wpAny_bind (wpAny_tryCatch (W0.item 0 _ _ _ (by omega) st3 fun v hx tk hv hSt2 kp => ?_))
      have hb2 := kp _ _ (fun z => nb (List.mem_cons_of_mem _ (by rw [List.mem_singleton] at z; exact absurd z (Nat.ne_of_gt (by rw [Heap.size_push]; exact Nat.lt_succ_self _))))) hb
      show wpAny _ A.in1 (updateSeq _ (fun _ => #[v, v]) >>= _) _ _ _
      refine wpAny_bind (wpAny_updateSeq hb2 rfl ?_)
      rw [nm]
      refine wpAny_pure ⟨plainId_quiet F.plain_min_loop _, min_turns W0 _ (CmpOf.ints_lt (numAt xs) (fun _ _ => intItems_at)) nb _ 0 _ v _ rfl (by omega) (W0.frame _ _ _ hSt2 fun b z o e => (Heap.get?_update_other _ _ fun y => nb (by rw [y]; exact z)).trans e) hv (Heap.get?_update_self _ hb2 rfl) fun u hy tk2 hu k2 => ?_⟩
      obtain ⟨t, rfl⟩ := intItems_at hu
      obtain ⟨g1, g2⟩ := argBest_lt (numAt xs) (xs.size - 1)
      rw [sz]
      refine h1 hy tk2 _ t (fun b o e => k2 b o ?_ ?_ ((Heap.get?_update_other _ _ ?_).trans (kp b o ?_ (Heap.get?_push_of_some _ (Heap.get?_push_of_some _ e))))) ?_ fun a ha => ?_
      · exact fun z => absurd (Heap.lt_size e) (by rw [List.mem_singleton.mp z]; exact Nat.lt_irrefl _)
      · exact Nat.ne_of_lt (Nat.lt_of_lt_of_le (Heap.lt_size e) (by rw [Heap.size_push]; exact Nat.le_succ _))
      · exact Nat.ne_of_gt (Nat.lt_of_lt_of_le (Heap.lt_size e) (by rw [Heap.size_push]; exact Nat.le_succ _))
      · exact fun z => absurd (Heap.lt_size e) (by rw [List.mem_singleton.mp z]; exact Nat.lt_irrefl _)
      · rw [hns, numAt_eq]
        exact PySem.getD_mem (by simp only [List.length_map, Array.length_toList]; omega)
      · rw [hns] at ha
        obtain ⟨j, hj, rfl⟩ := mem_getD ha
        simp only [List.length_map, Array.length_toList] at hj
        rw [← numAt_eq]
        exact g2 j (by omega)
  simp only [checkBuiltinCall, F.kind_min]
  cases hsig : Manifest.signature? "min" with
  | none => exact wpAny_pure main
  | some sig =>
    have ha : Bind.checkArgs "min" sig ⟨[.ref l], [(Str.ofString "default", d)]⟩ = pure () := by
      have := args_minD (.ref l) d
      simpa only [argsOk, hsig] using this
    simp only [ha]
    exact wpAny_pure main
end
def rMaxD (K : PySem.W.Frag) (d : Int) : List V → List V → Hp → VK → Prop := fun vs zs H Q => ∃ (a : Addr) (ns : List Int), vs = [V.ref a] ∧ zs = [V.int d] ∧ SqL K H a (ns.map V.int) ∧ (ns = [] → Q (.int d) H) ∧ ∀ m, m ∈ ns → (∀ y, y ∈ ns → y ≤ m) → Q (.int m) H
def rMinD (K : PySem.W.Frag) (d : Int) : List V → List V → Hp → VK → Prop := fun vs zs H Q => ∃ (a : Addr) (ns : List Int), vs = [V.ref a] ∧ zs = [V.int d] ∧ SqL K H a (ns.map V.int) ∧ (ns = [] → Q (.int d) H) ∧ ∀ m, m ∈ ns → (∀ y, y ∈ ns → m ≤ y) → Q (.int m) H
section
variable {X : Cx} {Z : Zx}
theorem cr_maxD {d : Int} (hc : X.calm = true) : CallRK X (.builtin "max") [Str.ofString "default"] (rMaxD X.K d) := by
  intro pins s σ H vs zs us ws Q I r rz h
  obtain ⟨a, ns, rfl, rfl, hs, q0, q⟩ := h
  obtain ⟨its, rv, hl, _⟩ := I.list hs
  obtain rfl := Vals.ref1 r
  obtain ⟨w1, rfl, t, rfl⟩ := vals1 rz
  exact call_maxD (I.ok.hd hc) hl.isList rv.ints (fun e hx tk kp => ⟨.int d, H, I.kept kp, ⟨_, rfl⟩, q0 e⟩) fun hx tk m t' kp h1 h2 => ⟨.int m, H, I.kept kp, ⟨_, rfl⟩, q m h1 h2⟩
theorem cr_minD {d : Int} (hc : X.calm = true) : CallRK X (.builtin "min") [Str.ofString "default"] (rMinD X.K d) := by
  intro pins s σ H vs zs us ws Q I r rz h
  obtain ⟨a, ns, rfl, rfl, hs, q0, q⟩ := h
  obtain ⟨its, rv, hl, _⟩ := I.list hs
  obtain rfl := Vals.ref1 r
  obtain ⟨w1, rfl, t, rfl⟩ := vals1 rz
  exact call_minD (I.ok.hd hc) hl.isList rv.ints (fun e hx tk kp => ⟨.int d, H, I.kept kp, ⟨_, rfl⟩, q0 e⟩) fun hx tk m t' kp h1 h2 => ⟨.int m, H, I.kept kp, ⟨_, rfl⟩, q m h1 h2⟩
/-- the greatest of a list of ints, of none d -/
def oMaxD (d : Int) : O1 := fun e k => ∃ ns : List Int, e = dI ns ∧ (ns = [] → k (.im (.int d))) ∧ ∀ m, m ∈ ns → (∀ y, y ∈ ns → y ≤ m) → k (.im (.int m))
def oMinD (d : Int) : O1 := fun e k => ∃ ns : List Int, e = dI ns ∧ (ns = [] → k (.im (.int d))) ∧ ∀ m, m ∈ ns → (∀ y, y ∈ ns → m ≤ y) → k (.im (.int m))
end
end Dv

/-! DvM: max, min with a default; sorted(.., reverse=True); xs.index(y); texts joined. -/
namespace Dv
open PySem PySem.Spec L2
open PyProof.Rows hiding St
section
variable {X : Cx} {Z : Zx} {e c : Expr} {g h : SR} {x : Str} {p pos kp cp : Pos} {j : Nat}
theorem ok_maxD {K : PySem.W.Frag} {d : Int} : Ok1 (fun v H Q => rMaxD K d [v] [.int d] H Q) (oMaxD d) := fun Z G ρ σ H v d2 k Q R t ⟨ns, e, h0, h⟩ q => by
  subst e
  obtain ⟨p, rfl, hp⟩ := t.ints
  exact ⟨p, ns, rfl, rfl, SqL.of hp, fun e => q (.im (.int d)) _ G H (.refl G) R (.int _) (h0 e), fun m h1 h2 => q (.im (.int m)) _ G H (.refl G) R (.int _) (h m h1 h2)⟩
theorem ok_minD {K : PySem.W.Frag} {d : Int} : Ok1 (fun v H Q => rMinD K d [v] [.int d] H Q) (oMinD d) := fun Z G ρ σ H v d2 k Q R t ⟨ns, e, h0, h⟩ q => by
  subst e
  obtain ⟨p, rfl, hp⟩ := t.ints
  exact ⟨p, ns, rfl, rfl, SqL.of hp, fun e => q (.im (.int d)) _ G H (.refl G) R (.int _) (h0 e), fun m h1 h2 => q (.im (.int m)) _ G H (.refl G) R (.int _) (h m h1 h2)⟩
theorem ev_maxD {d : Int} (hc : X.calm = true) (hg : Gl X "max") (hm : X.mg "max" = none) (he : PE X e (tR Z g))
    (hs : starEach (e :: []) X.env = (false, eval e X.env) :: starEach [] X.env := by rfl) (hb : backTo pos (starEach (e :: []) X.env) = (false, eval e X.env) :: backTo pos (starEach [] X.env) := by rfl)
    (hl : (backTo pos (starEach (e :: []) X.env)).any (·.1) = false := by rfl) :
    PE X (.Call (.Name "max" p) [e] [⟨some "default", .Constant (.int d) j cp, kp⟩] pos) (tE Z (s1 (oMaxD d) g)) :=
  PE.imp (pe_callBK (cr_maxD (d := d) hc) hg hm (by decide +kernel) (pa_cons he pa_nil hs) (pk_cons pe_int pk_nil) (by decide) (by decide) hb hl) fun σ H Q q => t_un ok_maxD σ H Q q
theorem ev_minD {d : Int} (hc : X.calm = true) (hg : Gl X "min") (hm : X.mg "min" = none) (he : PE X e (tR Z g))
    (hs : starEach (e :: []) X.env = (false, eval e X.env) :: starEach [] X.env := by rfl) (hb : backTo pos (starEach (e :: []) X.env) = (false, eval e X.env) :: backTo pos (starEach [] X.env) := by rfl)
    (hl : (backTo pos (starEach (e :: []) X.env)).any (·.1) = false := by rfl) :
    PE X (.Call (.Name "min" p) [e] [⟨some "default", .Constant (.int d) j cp, kp⟩] pos) (tE Z (s1 (oMinD d) g)) :=
  PE.imp (pe_callBK (cr_minD (d := d) hc) hg hm (by decide +kernel) (pa_cons he pa_nil hs) (pk_cons pe_int pk_nil) (by decide) (by decide) hb hl) fun σ H Q q => t_un ok_minD σ H Q q
/-- sorted(xs, reverse=True) of ints -/
def oSortedR : O1 := fun d k => ∃ ns : List Int, d = dI ns ∧ k (.fr ((srt ns).reverse.map .int))
theorem srtR_eq {ns ns' : List Int} (h1 : ns'.Perm ns) (h2 : ns'.Pairwise (· ≥ ·)) : ns' = (srt ns).reverse := by
  have : ns'.reverse = srt ns := srt_eq ((List.reverse_perm ns').trans h1) (by rw [List.pairwise_reverse]; exact h2.imp fun h => h)
  rw [← this, List.reverse_reverse]
theorem ok_sortedR {K : PySem.W.Frag} : Ok1 (fun v H Q => rSortedKw K true [.bl true] [v] [.bl true] H Q) oSortedR := fun Z G ρ σ H v d k Q R t ⟨ns, e, h⟩ q => by
  subst e
  obtain ⟨p, rfl, hp⟩ := t.ints
  refine ⟨p, ns, rfl, rfl, SqL.of hp, fun ns' p2 h1 h2 h3 => ?_⟩
  rw [srtR_eq h1 h2]
  obtain ⟨R2, vo⟩ := R.frNew h3 (DtA.of_ints (B := G.B) (srt ns).reverse)
  exact q _ _ G _ (.refl G) R2 vo h
theorem ev_sortedR (hg : Gl X "sorted") (hm : X.mg "sorted" = none) (he : PE X e (tR Z g))
    (hs : starEach (e :: []) X.env = (false, eval e X.env) :: starEach [] X.env := by rfl) (hb : backTo pos (starEach (e :: []) X.env) = (false, eval e X.env) :: backTo pos (starEach [] X.env) := by rfl)
    (hl : (backTo pos (starEach (e :: []) X.env)).any (·.1) = false := by rfl) :
    PE X (.Call (.Name "sorted" p) [e] [⟨some "reverse", .Constant (.bool true) j cp, kp⟩] pos) (tE Z (s1 oSortedR g)) :=
  PE.imp (pe_callBK (cr_sortedRev (b := true)) hg hm (by decide +kernel) (pa_cons he pa_nil hs) (pk_cons pe_bl pk_nil) (by decide) (by decide) hb hl) fun σ H Q q => t_un ok_sortedR σ H Q q
/-! ### xs.index(y), flat items -/
def flatD : D → Bool
  | .none => true
  | .bool _ => true
  | .int _ => true
  | .str _ => true
  | _ => false
theorem Dt.flat {B : Hp} {v : V} {d : D} (t : Dt B v d) (f : flatD d = true) : flatV v = true := by
  cases d <;> first | (cases t; rfl) | (cases f)
theorem eqV_eqv {B : Hp} {v w : V} {d e : D} (t : Dt B v d) (u : Dt B w e) (f : flatD d = true) (g : flatD e = true) : eqV v w = PyData.eqv d e := by
  cases d <;> first | (cases f; done) | (cases e <;> first | (cases g; done) | (cases t; cases u; simp only [eqV, PyData.eqv]))
theorem DtA.flat {B : Hp} : ∀ {vs : List V} {ds : List D}, DtA B vs ds → ds.all flatD = true → vs.all flatV = true
  | _, _, .nil, _ => rfl
  | _, _, .cons h t, f => by
    rw [List.all_cons, Bool.and_eq_true] at f ⊢
    exact ⟨h.flat f.1, DtA.flat t f.2⟩
def sIndex (g h : SR) : SE := fun ρ Q => g ρ fun x ρ1 => rs x ρ1 (fun d => match d with | .list _ => True | _ => False) ∧ h ρ1 fun y ρ2 => rs x ρ2 fun d => rs y ρ2 fun e => match d with
  | .list ds => flatD e = true ∧ ds.all flatD = true ∧ ∃ (j : Nat) (z : D), ds[j]? = some z ∧ PyData.eqv z e = true ∧ (∀ (m : Nat) (z' : D), m < j → ds[m]? = some z' → PyData.eqv z' e = false) ∧ Q (.im (.int j)) ρ2
  | _ => False
theorem ev_index {a b : Expr} {apos cpos : Pos} (ha : PE X a (tR Z g)) (hb : PE X b (tR Z h)) (hbase : attributeBase a "index" X.env (eval a X.env) = eval a X.env := by rfl)
    (hfew : ((backTo cpos (starEach (b :: []) X.env)).all (fun x => !x.1) && (backToKw cpos (keywordEach [] X.env)).all (fun x => x.1.isSome)
      && decide ((b :: [] : List Expr).length + ([] : List Keyword).length + (if ([] : List Keyword).isEmpty then 0 else 1) < 30)) = true := by rfl)
    (hline : (apos.endLine == cpos.line) = true := by rfl) (hs : starEach (b :: []) X.env = (false, eval b X.env) :: starEach [] X.env := by rfl) (hplain : (backTo cpos (starEach [] X.env)).any (·.1) = false := by rfl) :
    PE X (.Call (.Attribute a "index" apos) [b] [] cpos) (tE Z (sIndex g h)) := by
  refine PE.imp (pe_bm PySem.F.plainAttrs_list PySem.F.slot_list_index PySem.F.type_list_index mt_index ha (pa_cons hb pa_nil hs) hbase hfew hline hs hplain) fun σ H Q ⟨G, ρ, Q', R, hh, q⟩ => ?_
  refine ⟨G, ρ, _, R, hh, fun v G1 ρ1 H1 op1 le1 R1 oo1 ⟨hq0, hq1⟩ => ?_⟩
  obtain ⟨d0, t0, hk0⟩ := R1.rs oo1 hq0
  split at hk0
  · obtain ⟨p0, vs0, rfl, hp0, ta0⟩ := t0
    refine ⟨.inl ⟨rfl, vs0, SqL.of hp0⟩, G1, ρ1, _, R1, hq1, fun w G2 ρ2 H2 op2 le2 R2 oo2 hq2 => ?_⟩
    obtain ⟨d, t1, hk⟩ := R2.rs (oo1.mono le2) hq2
    obtain ⟨e, t2, hk⟩ := R2.rs oo2 hk
    split at hk
    · rename_i ds
      obtain ⟨fe, fds, j, z, hz, hzj, hno, hk⟩ := hk
      obtain ⟨p1, vs, e1, hp, ta⟩ := t1
      cases e1
      have t2' : Dt G2.B w e := by cases e <;> first | exact t2 | (cases fe)
      obtain ⟨v', hv', tv'⟩ := ta.get hz
      have fz : flatD z = true := List.all_eq_true.mp fds z (List.mem_of_getElem? hz)
      refine ⟨p0, vs, w, j, v', rfl, rfl, SqL.of hp, t2'.flat fe, ta.flat fds, hv', by rw [eqV_eqv tv' t2' fz fe]; exact hzj, fun m z' hm hz' => ?_, q (.int j) G2 ρ2 H2 (.im (.int j)) (le1.trans le2) R2 (.int _) hk⟩
      obtain ⟨d', hd', td'⟩ := ta.get' hz'
      rw [eqV_eqv td' t2' (List.all_eq_true.mp fds d' (List.mem_of_getElem? hd')) fe]
      exact hno m d' hm hd'
    · exact hk.elim
  · exact hk0.elim
/-! ### 'sep'.join(xs) -/
def oJoin (a : Str) : O1 := fun e k => ∃ ys : List Str, e = .list (ys.map .str) ∧ (ys.map (·.length)).sum + ys.length * a.length ≤ 16777216 ∧ k (.im (.str (Txt.join a ys)))
theorem ev_join {a : Str} {e : Expr} {j : Nat} {cp apos pos : Pos} (he : PE X e (tR Z g)) (hs : starEach [e] X.env = [(false, eval e X.env)] := by rfl)
    (hbase : attributeBase (.Constant (.str a) j cp) "join" X.env (eval (.Constant (.str a) j cp) X.env) = eval (.Constant (.str a) j cp) X.env := by rfl) (hline : (apos.endLine == pos.line) = true := by rfl) :
    PE X (.Call (.Attribute (.Constant (.str a) j cp) "join" apos) [e] [] pos) (tE Z (s1 (oJoin a) g)) := by
  refine PE.imp (pe_join pe_str he hs hbase hline) fun σ H Q q => ?_
  refine ⟨⟨a, rfl⟩, ?_⟩
  refine t_un (r := fun y H2 Q => ∃ a' p, ∃ ys : List Str, V.str a = .str a' ∧ [y] = [.ref p] ∧ (SqL X.K H2 p (ys.map V.str) ∨ SqT X.K H2 p (ys.map V.str)) ∧ (ys.map (·.length)).sum + ys.length * a'.length ≤ 16777216 ∧ Q (.str (Txt.join a' ys)) H2) (fun Z G ρ σ H v d k Q R t ⟨ys, e, hz, hk⟩ q => ?_) σ H Q q
  subst e
  obtain ⟨p, vs, rfl, hp, ta⟩ := t
  rw [ta.strs] at hp
  exact ⟨a, p, ys, rfl, rfl, .inl (SqL.of hp), hz, q (.im (.str (Txt.join a ys))) (.str (Txt.join a ys)) G H (.refl G) R (show Dt G.B (.str (Txt.join a ys)) (.str (Txt.join a ys)) from .str _) hk⟩
end
end Dv

/-! DvN: comprehensions as maps; the newer words' equations. -/
namespace Dv
open PySem PySem.Spec L2
open PyProof.Rows hiding St
theorem e_sStep (g : SG) (b : SS) (d : D) (ρ : Rho) (E : DE) : sStep g b d ρ E = g (.im d) ρ fun ρ' => b ρ' E := Eq.trans rfl rfl
theorem e_sTurn (g : SG) (t : ST) (f : SE) (d : D) (ρ : Rho) (k : Option D → Rho → Prop) : sTurn g t f d ρ k = g (.im d) ρ fun ρ2 => t ρ2 fun b ρ3 => if b = true then f ρ3 fun v ρ4 => fz v fun y => k (some y) ρ4 else k none ρ3 := Eq.trans rfl rfl
theorem e_wip0 (c : List Cell) : wipC c [] = c := Eq.trans rfl rfl
theorem e_wip1 (c : List Cell) (v : Nat) (vs : List Nat) : wipC c (v :: vs) = (wipC c vs).set v .un := Eq.trans rfl rfl
theorem e_sIndex (g h : SR) (ρ : Rho) (Q : Vl → Rho → Prop) : sIndex g h ρ Q = g ρ fun x ρ1 => rs x ρ1 (fun d => match d with | .list _ => True | _ => False) ∧ h ρ1 fun y ρ2 => rs x ρ2 fun d => rs y ρ2 fun e => match d with
  | .list ds => flatD e = true ∧ ds.all flatD = true ∧ ∃ (j : Nat) (z : D), ds[j]? = some z ∧ PyData.eqv z e = true ∧ (∀ (m : Nat) (z' : D), m < j → ds[m]? = some z' → PyData.eqv z' e = false) ∧ Q (.im (.int j)) ρ2
  | _ => False := Eq.trans rfl rfl
theorem e_oMaxD (d : Int) (e : D) (k : Vl → Prop) : oMaxD d e k = ∃ ns : List Int, e = dI ns ∧ (ns = [] → k (.im (.int d))) ∧ ∀ m, m ∈ ns → (∀ y, y ∈ ns → y ≤ m) → k (.im (.int m)) := Eq.trans rfl rfl
theorem e_oMinD (d : Int) (e : D) (k : Vl → Prop) : oMinD d e k = ∃ ns : List Int, e = dI ns ∧ (ns = [] → k (.im (.int d))) ∧ ∀ m, m ∈ ns → (∀ y, y ∈ ns → m ≤ y) → k (.im (.int m)) := Eq.trans rfl rfl
theorem wComp_fm {own : List Nat} {turn : D → Rho → (Option D → Rho → Prop) → Prop} {c : List Cell} {x : Xn → Prop} (f : D → Option D) :
    ∀ {ds : List D} {Q : List D → Rho → Prop}, (∀ d ∈ ds, ∀ K : Option D → Rho → Prop, (∀ c' x', unw c c' own = c → K (f d) ⟨c', x'⟩) → turn d ⟨wipC c own, x⟩ K) → Q (ds.filterMap f) ⟨c, x⟩ → wComp own turn ds ⟨c, x⟩ Q
  | [], _, _, hq => hq
  | d :: ds, Q, hs, hq => by
    unfold wComp
    refine hs d (.head _) _ fun c' x' e => ?_
    have tl := fun {Q'} => wComp_fm (own := own) (turn := turn) (c := c) (x := x) f (ds := ds) (Q := Q') fun d hd => hs d (.tail _ hd)
    rw [List.filterMap_cons] at hq
    cases h : f d with
    | none =>
      rw [h] at hq
      simp only [e]
      exact tl hq
    | some y =>
      rw [h] at hq
      simp only [e]
      exact tl hq
theorem wComp_map {own : List Nat} {turn : D → Rho → (Option D → Rho → Prop) → Prop} {c : List Cell} {x : Xn → Prop} (f : D → D) {ds : List D} {Q : List D → Rho → Prop}
    (hs : ∀ d ∈ ds, ∀ K : Option D → Rho → Prop, (∀ c' x', unw c c' own = c → K (some (f d)) ⟨c', x'⟩) → turn d ⟨wipC c own, x⟩ K) (hq : Q (ds.map f) ⟨c, x⟩) : wComp own turn ds ⟨c, x⟩ Q :=
  wComp_fm (fun d => some (f d)) hs (by
    have : ds.filterMap (fun d => some (f d)) = ds.map f := by
      induction ds with
      | nil => rfl
      | cons d ds ih => rw [List.filterMap_cons, List.map_cons]; simp
    rw [this]; exact hq)
/-- each turn hands on some data of a kind -/
theorem wComp_all {own : List Nat} {turn : D → Rho → (Option D → Rho → Prop) → Prop} {c : List Cell} {x : Xn → Prop} (P : D → D → Prop) :
    ∀ {ds : List D} {Q : List D → Rho → Prop}, (∀ d ∈ ds, ∀ K : Option D → Rho → Prop, (∀ y c' x', P d y → unw c c' own = c → K (some y) ⟨c', x'⟩) → turn d ⟨wipC c own, x⟩ K) →
      (∀ out : List D, out.length = ds.length → (∀ (i : Nat) d y, ds[i]? = some d → out[i]? = some y → P d y) → Q out ⟨c, x⟩) → wComp own turn ds ⟨c, x⟩ Q
  | [], _, _, hq => hq [] rfl fun i d y h => by simp at h
  | d :: ds, Q, hs, hq => by
    unfold wComp
    refine hs d (.head _) _ fun y c' x' hy e => ?_
    simp only [e]
    refine wComp_all P (ds := ds) (fun d hd => hs d (.tail _ hd)) fun out hl hp => hq (y :: out) (by simp [hl]) fun i d' y' h1 h2 => ?_
    cases i with
    | zero =>
      simp at h1 h2
      subst h1 h2
      exact hy
    | succ i => exact hp i d' y' (by simpa using h1) (by simpa using h2)
theorem wComp_fmA {α : Type} {own : List Nat} {turn : D → Rho → (Option D → Rho → Prop) → Prop} {c : List Cell} {x : Xn → Prop} (g : α → D) (f : α → Option D) :
    ∀ {xs : List α} {Q : List D → Rho → Prop}, (∀ a ∈ xs, ∀ K : Option D → Rho → Prop, (∀ c' x', unw c c' own = c → K (f a) ⟨c', x'⟩) → turn (g a) ⟨wipC c own, x⟩ K) → Q (xs.filterMap f) ⟨c, x⟩ → wComp own turn (xs.map g) ⟨c, x⟩ Q
  | [], _, _, hq => hq
  | a :: xs, Q, hs, hq => by
    rw [List.map_cons]
    unfold wComp
    refine hs a (.head _) _ fun c' x' e => ?_
    have tl := fun {Q'} => wComp_fmA (own := own) (turn := turn) (c := c) (x := x) g f (xs := xs) (Q := Q') fun a ha => hs a (.tail _ ha)
    rw [List.filterMap_cons] at hq
    cases h : f a with
    | none =>
      rw [h] at hq
      simp only [e]
      exact tl hq
    | some y =>
      rw [h] at hq
      simp only [e]
      exact tl hq
theorem wComp_mapA {α : Type} {own : List Nat} {turn : D → Rho → (Option D → Rho → Prop) → Prop} {c : List Cell} {x : Xn → Prop} (g f : α → D) {xs : List α} {Q : List D → Rho → Prop}
    (hs : ∀ a ∈ xs, ∀ K : Option D → Rho → Prop, (∀ c' x', unw c c' own = c → K (some (f a)) ⟨c', x'⟩) → turn (g a) ⟨wipC c own, x⟩ K) (hq : Q (xs.map f) ⟨c, x⟩) : wComp own turn (xs.map g) ⟨c, x⟩ Q :=
  wComp_fmA g (fun a => some (f a)) hs (by
    have : ∀ ys : List α, ys.filterMap (fun a => some (f a)) = ys.map f := fun ys => by
      induction ys with
      | nil => rfl
      | cons d ys ih => rw [List.filterMap_cons, List.map_cons]; simp
    rw [this]; exact hq)
/-- over a range -/
theorem wComp_rngF {own : List Nat} {turn : D → Rho → (Option D → Rho → Prop) → Prop} {c : List Cell} {x : Xn → Prop} {lo : Int} {n : Nat} (f : Nat → Option D) {Q : List D → Rho → Prop}
    (hs : ∀ i, i < n → ∀ K : Option D → Rho → Prop, (∀ c' x', unw c c' own = c → K (f i) ⟨c', x'⟩) → turn (.int (lo + (i : Int))) ⟨wipC c own, x⟩ K) (hq : Q ((List.range n).filterMap f) ⟨c, x⟩) : wComp own turn (rngD lo n) ⟨c, x⟩ Q :=
  wComp_fmA (fun i : Nat => .int (lo + (i : Int))) f (fun i hi => hs i (List.mem_range.mp hi)) hq
theorem wComp_rngM {own : List Nat} {turn : D → Rho → (Option D → Rho → Prop) → Prop} {c : List Cell} {x : Xn → Prop} {lo : Int} {n : Nat} (f : Nat → D) {Q : List D → Rho → Prop}
    (hs : ∀ i, i < n → ∀ K : Option D → Rho → Prop, (∀ c' x', unw c c' own = c → K (some (f i)) ⟨c', x'⟩) → turn (.int (lo + (i : Int))) ⟨wipC c own, x⟩ K) (hq : Q ((List.range n).map f) ⟨c, x⟩) : wComp own turn (rngD lo n) ⟨c, x⟩ Q :=
  wComp_mapA (fun i : Nat => .int (lo + (i : Int))) f (fun i hi => hs i (List.mem_range.mp hi)) hq

theorem e_oSortedR (d : D) (k : Vl → Prop) : oSortedR d k = ∃ ns : List Int, d = dI ns ∧ k (.fr ((srt ns).reverse.map .int)) := Eq.trans rfl rfl
end Dv

namespace Lw
open PySem PySem.Spec L2 Dv
open PyProof.Rows hiding St
def topS (i : Nat) : Stmt := PySem.Challenge.pw_daybooktold_k70_judges_of_ranks_and_ring.main.body.getD i (.Pass ⟨0, 0, 0, 0⟩)
abbrev st_is_whole : Stmt := topS 1
abbrev N_is_whole : List Str := ["value"]
theorem sc_is_whole : FnScope N_is_whole ["value"] (defScope st_is_whole) := ⟨rfl, rfl, rfl, by decide +kernel, rfl, by decide +kernel, by decide +kernel⟩
def m_is_whole : SS :=
  sRet (sAndV (s1 (oIsi "int") (sRV 0)) (sNotV (s1 (oIsi "bool") (sRV 0))))
abbrev st_are_wholes : Stmt := topS 2
abbrev N_are_wholes : List Str := ["value", "number"]
theorem sc_are_wholes : FnScope N_are_wholes ["value"] (defScope st_are_wholes) := ⟨rfl, rfl, rfl, by decide +kernel, rfl, by decide +kernel, by decide +kernel⟩
def m_are_wholes (F_is_whole : Fn) : SS :=
  (sSeq (sIfS (sNot (sT (s1 (oIsi "list") (sRV 0)))) (sRet (sC (.bool false))) (sNext))
  (sRet (s1 oAll (sRE (sLc [1] (sIt (sVar 0)) (sgName 1) sYes (sCall F_is_whole (aCons (sVar 1) aNil)))))))
abbrev st_are_indexes : Stmt := topS 3
abbrev N_are_indexes : List Str := ["value", "many", "number"]
theorem sc_are_indexes : FnScope N_are_indexes ["value", "many"] (defScope st_are_indexes) := ⟨rfl, rfl, rfl, by decide +kernel, rfl, by decide +kernel, by decide +kernel⟩
def m_are_indexes (F_are_wholes : Fn) : SS :=
  (sSeq (sIfS (sNot (sT (sCall F_are_wholes (aCons (sVar 0) aNil)))) (sRet (sC (.bool false))) (sNext))
  (sRet (s1 oAll (sRE (sLc [2] (sIt (sVar 0)) (sgName 2) sYes (s3 oLeI oLtI (sRE (sC (.int 0))) (sRV 2) (sRV 1)))))))
abbrev st_are_amounts : Stmt := topS 5
abbrev N_are_amounts : List Str := ["value", "n"]
theorem sc_are_amounts : FnScope N_are_amounts ["value", "n"] (defScope st_are_amounts) := ⟨rfl, rfl, rfl, by decide +kernel, rfl, by decide +kernel, by decide +kernel⟩
def m_are_amounts (F_are_wholes : Fn) : SS :=
  sRet (sAndV (sCall F_are_wholes (aCons (sVar 0) aNil)) (sAndV (s2 oEq (sRE (s1 oLen (sRV 0))) (sRV 1)) (s2 oGeI (sRE (s1 (oMinD 0) (sRV 0))) (sRE (sC (.int 0))))))
abbrev st_shows_ranks : Stmt := topS 6
abbrev N_shows_ranks : List Str := ["n", "needs", "ranks", "item", "part", "_"]
theorem sc_shows_ranks : FnScope N_shows_ranks ["n", "needs", "ranks"] (defScope st_shows_ranks) := ⟨rfl, rfl, rfl, by decide +kernel, rfl, by decide +kernel, by decide +kernel⟩
def m_shows_ranks (F_are_amounts : Fn) : SS :=
  (sSeq (sIfS (sNot (sT (sCall F_are_amounts (aCons (sVar 2) (aCons (sVar 0) aNil))))) (sRet (sC (.bool false))) (sNext))
  (sRet (s1 oAll (sRE (sLc [3, 4, 5] (sIt (sVar 1)) (sgTup 3 (sgCons (sgName 3) (sgCons (sgName 4) (sgCons (sgName 5) sgNil)))) sYes (s2 oGtI (sRE (s2 oIx (sRV 2) (sRV 3))) (sRE (s2 oIx (sRV 2) (sRV 4)))))))))
abbrev st_shows_parts_ring : Stmt := topS 7
abbrev N_shows_parts_ring : List Str := ["n", "needs", "ring", "pairs", "item", "part", "_", "at"]
theorem sc_shows_parts_ring : FnScope N_shows_parts_ring ["n", "needs", "ring"] (defScope st_shows_parts_ring) := ⟨rfl, rfl, rfl, by decide +kernel, rfl, by decide +kernel, by decide +kernel⟩
def m_shows_parts_ring (F_are_indexes : Fn) : SS :=
  (sSeq (sIfS (sOr (sNot (sT (sCall F_are_indexes (aCons (sVar 2) (aCons (sVar 0) aNil))))) (sT (s2 oLtI (sRE (s1 oLen (sRV 2))) (sRE (sC (.int 2)))))) (sRet (sC (.bool false))) (sNext))
  (sSeq (sAsg (sLc [4, 5, 6] (sIt (sVar 1)) (sgTup 3 (sgCons (sgName 4) (sgCons (sgName 5) (sgCons (sgName 6) sgNil)))) sYes (sTup (dCons (sVar 4) (dCons (sVar 5) dNil)))) (sgName 3))
  (sRet (s1 oAll (sRE (sLc [7] (sRng1 (dCons (s1 oLen (sRV 2)) dNil)) (sgName 7) sYes (s2 (oIn false) (sRE (sTup (dCons (s2 oIx (sRV 2) (sRE (s2 oSub (sRV 7) (sRE (sC (.int 1)))))) (dCons (s2 oIx (sRV 2) (sRV 7)) dNil)))) (sRV 3))))))))
abbrev st__law_feed : Stmt := topS 9
abbrev N__law_feed : List Str := ["script"]
theorem sc__law_feed : FnScope N__law_feed ["script"] (defScope st__law_feed) := ⟨rfl, rfl, rfl, by decide +kernel, rfl, by decide +kernel, by decide +kernel⟩
abbrev st__law_draw : Stmt := topS 10
abbrev N__law_draw : List Str := ["feed", "many", "cell", "told", "mixed"]
theorem sc__law_draw : FnScope N__law_draw ["feed", "many"] (defScope st__law_draw) := ⟨rfl, rfl, rfl, by decide +kernel, rfl, by decide +kernel, by decide +kernel⟩
abbrev st__law_is_whole : Stmt := topS 11
abbrev N__law_is_whole : List Str := ["x"]
theorem sc__law_is_whole : FnScope N__law_is_whole ["x"] (defScope st__law_is_whole) := ⟨rfl, rfl, rfl, by decide +kernel, rfl, by decide +kernel, by decide +kernel⟩
def m__law_is_whole : SS :=
  sRet (sAndV (s1 (oIsi "int") (sRV 0)) (sNotV (s1 (oIsi "bool") (sRV 0))))
abbrev st__law_says : Stmt := topS 12
abbrev N__law_says : List Str := ["told", "due"]
theorem sc__law_says : FnScope N__law_says ["told", "due"] (defScope st__law_says) := ⟨rfl, rfl, rfl, by decide +kernel, rfl, by decide +kernel, by decide +kernel⟩
def m__law_says : SS :=
  sRet (sAndV (s1 (oIsi "bool") (sRV 0)) (s2 oEq (sRV 0) (sRV 1)))
abbrev st__law_mixed : Stmt := topS 13
abbrev N__law_mixed : List Str := ["feed", "n", "left", "found", "k"]
theorem sc__law_mixed : FnScope N__law_mixed ["feed", "n"] (defScope st__law_mixed) := ⟨rfl, rfl, rfl, by decide +kernel, rfl, by decide +kernel, by decide +kernel⟩
def b1__law_mixed (F__law_draw : Fn) : SS :=
  sDrop (sMeth 3 (dCons (sMeth 2 (dCons (sCall F__law_draw (aCons (sVar 0) (aCons (s1 oLen (sRV 2)) aNil))) dNil) mPopAt) dNil) mAppend)
def m__law_mixed (F__law_draw : Fn) : SS :=
  (sSeq (sAsg (sLstR (sRg1 (sVar 1))) (sgName 2))
  (sSeq (sAsg (sLst dNil) (sgName 3))
  (sSeq (sFor (sRng1 (dCons (sVar 1) dNil)) (sgName 4) (b1__law_mixed F__law_draw))
  (sRetV 3))))
abbrev st__law_pairs : Stmt := topS 14
abbrev N__law_pairs : List Str := ["feed", "n", "many", "order", "pairs", "a", "b", "k"]
theorem sc__law_pairs : FnScope N__law_pairs ["feed", "n", "many"] (defScope st__law_pairs) := ⟨rfl, rfl, rfl, by decide +kernel, rfl, by decide +kernel, by decide +kernel⟩
def b1__law_pairs : SS :=
  sAsg (s2 oAdd (sRV 4) (sRE (sLc [6] (sRng2 (dCons (s2 oAdd (sRV 5) (sRE (sC (.int 1)))) (dCons (sVar 1) dNil))) (sgName 6) sYes (sTup (dCons (s2 oIx (sRV 3) (sRV 5)) (dCons (s2 oIx (sRV 3) (sRV 6)) dNil)))))) (sgName 4)
def m__law_pairs (F__law_mixed : Fn) : SS :=
  (sSeq (sAsg (sCall F__law_mixed (aCons (sVar 0) (aCons (sVar 1) aNil))) (sgName 3))
  (sSeq (sAsg (sLst dNil) (sgName 4))
  (sSeq (sFor (sRng1 (dCons (sVar 1) dNil)) (sgName 5) (b1__law_pairs))
  (sRet (sSl (sRE (sLc [7] (sIt (sCall F__law_mixed (aCons (sVar 0) (aCons (s1 oLen (sRV 4)) aNil)))) (sgName 7) sYes (s2 oIx (sRV 4) (sRV 7)))) pNo (pSome (sRV 2)))))))
abbrev st__law_needs : Stmt := topS 15
abbrev N__law_needs : List Str := ["feed", "n", "many", "most", "item", "part"]
theorem sc__law_needs : FnScope N__law_needs ["feed", "n", "many", "most"] (defScope st__law_needs) := ⟨rfl, rfl, rfl, by decide +kernel, rfl, by decide +kernel, by decide +kernel⟩
def m__law_needs (F__law_pairs : Fn) (F__law_draw : Fn) : SS :=
  sRet (sLc [4, 5] (sIt (sCall F__law_pairs (aCons (sVar 0) (aCons (sVar 1) (aCons (sVar 2) aNil))))) (sgTup 2 (sgCons (sgName 4) (sgCons (sgName 5) sgNil))) sYes (sTup (dCons (sVar 4) (dCons (sVar 5) (dCons (s2 oAdd (sRE (sC (.int 1))) (sRE (sCall F__law_draw (aCons (sVar 0) (aCons (sVar 3) aNil))))) dNil)))))
abbrev st__law_ranks : Stmt := topS 16
abbrev N__law_ranks : List Str := ["n", "needs", "ranks", "turn", "item", "part", "count"]
theorem sc__law_ranks : FnScope N__law_ranks ["n", "needs"] (defScope st__law_ranks) := ⟨rfl, rfl, rfl, by decide +kernel, rfl, by decide +kernel, by decide +kernel⟩
def b1__law_ranks : SS :=
  sSetIx 2 (s2 oMax2 (sRE (s2 oIx (sRV 2) (sRV 4))) (sRE (s2 oAdd (sRE (s2 oIx (sRV 2) (sRV 5))) (sRE (sC (.int 1)))))) (sRV 4)
def b2__law_ranks : SS :=
  sFor (sIt (sVar 1)) (sgTup 3 (sgCons (sgName 4) (sgCons (sgName 5) (sgCons (sgName 6) sgNil)))) (b1__law_ranks)
def m__law_ranks : SS :=
  (sSeq (sAsg (s2 oMul (sRE (sLst (dCons (sC (.int 0)) dNil))) (sRV 0)) (sgName 2))
  (sSeq (sFor (sRng1 (dCons (sVar 0) dNil)) (sgName 3) (b2__law_ranks))
  (sRetV 2)))
abbrev st__law_ring : Stmt := topS 17
abbrev N__law_ring : List Str := ["n", "needs", "item", "part", "count", "ring", "turn", "onward", "own", "p", "c"]
theorem sc__law_ring : FnScope N__law_ring ["n", "needs"] (defScope st__law_ring) := ⟨rfl, rfl, rfl, by decide +kernel, rfl, by decide +kernel, by decide +kernel⟩
def b1__law_ring : SS :=
  (sSeq (sAsg (sLc [8, 9, 10] (sIt (sVar 1)) (sgTup 3 (sgCons (sgName 8) (sgCons (sgName 9) (sgCons (sgName 10) sgNil)))) (sT (s2 oEq (sRV 8) (sRE (s2 oIx (sRV 5) (sRE (s1 oNeg (sRE (sC (.int 1))))))))) (sVar 9)) (sgName 7))
  (sIfS (sT (s2 oGtI (sRE (s1 oLen (sRV 7))) (sRE (sC (.int 0))))) (sSeq (sIfS (sT (s2 (oIn false) (sRE (s2 oIx (sRV 7) (sRE (sC (.int 0))))) (sRV 5))) (sRet (sSl (sRV 5) (pSome (sRE (sIndex (sRV 5) (sRE (s2 oIx (sRV 7) (sRE (sC (.int 0)))))))) pNo)) (sNext))
  (sDrop (sMeth 5 (dCons (s2 oIx (sRV 7) (sRE (sC (.int 0)))) dNil) mAppend))) (sNext)))
def m__law_ring : SS :=
  (sSeq (sAsg (s2 oIx (sRV 1) (sRE (sC (.int 0)))) (sgTup 3 (sgCons (sgName 2) (sgCons (sgName 3) (sgCons (sgName 4) sgNil)))))
  (sSeq (sAsg (sLst (dCons (sVar 2) dNil)) (sgName 5))
  (sSeq (sFor (sRng1 (dCons (sVar 0) dNil)) (sgName 6) (b1__law_ring))
  (sRetV 5))))
abbrev st__law_is_ranks : Stmt := topS 18
abbrev N__law_is_ranks : List Str := ["n", "needs", "ranks", "rank", "need"]
theorem sc__law_is_ranks : FnScope N__law_is_ranks ["n", "needs", "ranks"] (defScope st__law_is_ranks) := ⟨rfl, rfl, rfl, by decide +kernel, rfl, by decide +kernel, by decide +kernel⟩
def b1__law_is_ranks (F__law_is_whole : Fn) : SS :=
  sIfS (sOr (sNot (sT (sCall F__law_is_whole (aCons (sVar 3) aNil)))) (sT (s2 oLtI (sRV 3) (sRE (sC (.int 0)))))) (sRet (sC (.bool false))) (sNext)
def m__law_is_ranks (F__law_is_whole : Fn) : SS :=
  (sSeq (sIfS (sOr (sNot (sT (s1 (oIsi "list") (sRV 2)))) (sT (s2 oNe (sRE (s1 oLen (sRV 2))) (sRV 0)))) (sRet (sC (.bool false))) (sNext))
  (sSeq (sFor (sIt (sVar 2)) (sgName 3) (b1__law_is_ranks F__law_is_whole))
  (sRet (s2 oEq (sRE (s1 oLen (sRE (sLc [4] (sIt (sVar 1)) (sgName 4) (sT (s2 oLeI (sRE (s2 oIx (sRV 2) (sRE (s2 oIx (sRV 4) (sRE (sC (.int 0))))))) (sRE (s2 oIx (sRV 2) (sRE (s2 oIx (sRV 4) (sRE (sC (.int 1))))))))) (sVar 4))))) (sRE (sC (.int 0)))))))
abbrev st__law_is_ring : Stmt := topS 19
abbrev N__law_is_ring : List Str := ["n", "needs", "ring", "item", "pairs", "need", "at"]
theorem sc__law_is_ring : FnScope N__law_is_ring ["n", "needs", "ring"] (defScope st__law_is_ring) := ⟨rfl, rfl, rfl, by decide +kernel, rfl, by decide +kernel, by decide +kernel⟩
def b1__law_is_ring (F__law_is_whole : Fn) : SS :=
  sIfS (sOr (sNot (sT (sCall F__law_is_whole (aCons (sVar 3) aNil)))) (sNot (sT (s3 oLeI oLtI (sRE (sC (.int 0))) (sRV 3) (sRV 0))))) (sRet (sC (.bool false))) (sNext)
def m__law_is_ring (F__law_is_whole : Fn) : SS :=
  (sSeq (sIfS (sOr (sNot (sT (s1 (oIsi "list") (sRV 2)))) (sT (s2 oLtI (sRE (s1 oLen (sRV 2))) (sRE (sC (.int 2)))))) (sRet (sC (.bool false))) (sNext))
  (sSeq (sFor (sIt (sVar 2)) (sgName 3) (b1__law_is_ring F__law_is_whole))
  (sSeq (sAsg (sLc [5] (sIt (sVar 1)) (sgName 5) sYes (sSl (sRV 5) pNo (pSome (sRE (sC (.int 2)))))) (sgName 4))
  (sRet (s2 oEq (sRE (s1 oLen (sRE (sLc [6] (sRng1 (dCons (s1 oLen (sRV 2)) dNil)) (sgName 6) (sT (s2 (oIn true) (sRE (sTup (dCons (s2 oIx (sRV 2) (sRE (s2 oSub (sRV 6) (sRE (sC (.int 1)))))) (dCons (s2 oIx (sRV 2) (sRV 6)) dNil)))) (sRV 4))) (sVar 6))))) (sRE (sC (.int 0))))))))
abbrev st__law_changed : Stmt := topS 20
abbrev N__law_changed : List Str := ["feed", "row", "most", "found", "turn", "at", "other", "x"]
theorem sc__law_changed : FnScope N__law_changed ["feed", "row", "most"] (defScope st__law_changed) := ⟨rfl, rfl, rfl, by decide +kernel, rfl, by decide +kernel, by decide +kernel⟩
def b1__law_changed : SS :=
  sDrop (sMeth 3 (dCons (s2 oAdd (sRE (s2 oAdd (sRE (sSl (sRV 1) pNo (pSome (sRV 5)))) (sRE (sLst (dCons (sVar 7) dNil))))) (sRE (sSl (sRV 1) (pSome (sRE (s2 oAdd (sRV 5) (sRE (sC (.int 1)))))) pNo))) dNil) mAppend)
def b2__law_changed (F__law_draw : Fn) : SS :=
  sIfS (sT (s2 oGtI (sRE (s1 oLen (sRV 1))) (sRE (sC (.int 0))))) (sSeq (sAsg (sCall F__law_draw (aCons (sVar 0) (aCons (s1 oLen (sRV 1)) aNil))) (sgName 5))
  (sSeq (sAsg (s2 oIx (sRV 1) (sRE (sCall F__law_draw (aCons (sVar 0) (aCons (s1 oLen (sRV 1)) aNil))))) (sgName 6))
  (sFor (sIt (sLst (dCons (s2 oAdd (sRE (s2 oIx (sRV 1) (sRV 5))) (sRE (sC (.int 1)))) (dCons (s2 oSub (sRE (s2 oIx (sRV 1) (sRV 5))) (sRE (sC (.int 1)))) (dCons (sVar 6) (dCons (sC (.int 0)) (dCons (sVar 2) (dCons (s1 oNeg (sRE (sC (.int 1)))) (dCons (s2 oPow (sRE (sC (.int 10))) (sRE (sC (.int 59)))) (dCons (sC (.bool true)) (dCons (sC .none) (dCons (sC (.str "1")) (dCons (sLst (dCons (s2 oIx (sRV 1) (sRV 5)) dNil)) dNil))))))))))))) (sgName 7) (b1__law_changed)))) (sNext)
def m__law_changed (F__law_draw : Fn) : SS :=
  (sSeq (sAsg (sLst (dCons (sVar 1) (dCons (s1 oTuple (sRV 1)) (dCons (sC .none) (dCons (sC (.str "")) (dCons (sC (.int 0)) (dCons (sC (.bool true)) (dCons (sLst (dCons (sVar 1) dNil)) (dCons (sSl (sRV 1) (pSome (sRE (sC (.int 1)))) pNo) (dCons (sSl (sRV 1) pNo (pSome (sRE (s1 oNeg (sRE (sC (.int 1))))))) (dCons (s2 oAdd (sRV 1) (sRE (sLst (dCons (sC (.int 0)) dNil)))) (dCons (s2 oAdd (sRV 1) (sRE (sSl (sRV 1) (pSome (sRE (s1 oNeg (sRE (sC (.int 1)))))) pNo))) dNil)))))))))))) (sgName 3))
  (sSeq (sAsg (s2 oAdd (sRV 3) (sRE (sLst (dCons (sLst dNil) (dCons (sLst (dCons (sC (.int 0)) dNil)) (dCons (sLst (dCons (sVar 2) dNil)) (dCons (sLst (dCons (s1 oNeg (sRE (sC (.int 1)))) dNil)) dNil))))))) (sgName 3))
  (sSeq (sFor (sRng1 (dCons (sC (.int 2)) dNil)) (sgName 4) (b2__law_changed F__law_draw))
  (sRetV 3))))
abbrev st__law_ranks_judged : Stmt := topS 21
abbrev N__law_ranks_judged : List Str := ["feed", "n", "needs", "ranks", "more", "papers", "rank", "need", "item", "part", "count", "paper", "due"]
theorem sc__law_ranks_judged : FnScope N__law_ranks_judged ["feed", "n", "needs"] (defScope st__law_ranks_judged) := ⟨rfl, rfl, rfl, by decide +kernel, rfl, by decide +kernel, by decide +kernel⟩
def b1__law_ranks_judged : SS :=
  (sSeq (sAsg (sVar 7) (sgTup 3 (sgCons (sgName 8) (sgCons (sgName 9) (sgCons (sgName 10) sgNil)))))
  (sDrop (sMeth 5 (dCons (s2 oAdd (sRE (s2 oAdd (sRE (sSl (sRV 3) pNo (pSome (sRV 8)))) (sRE (sLst (dCons (s2 oIx (sRV 3) (sRV 9)) dNil))))) (sRE (sSl (sRV 3) (pSome (sRE (s2 oAdd (sRV 8) (sRE (sC (.int 1)))))) pNo))) dNil) mAppend)))
def b2__law_ranks_judged (F_shows_ranks : Fn) (F__law_says : Fn) (F__law_is_ranks : Fn) : SS :=
  (sSeq (sAsg (sCall F__law_is_ranks (aCons (sVar 1) (aCons (sVar 2) (aCons (sVar 11) aNil)))) (sgName 12))
  (sIfS (sNot (sT (sCall F__law_says (aCons (sCall F_shows_ranks (aCons (sVar 1) (aCons (s1 oList (sRV 2)) (aCons (sVar 11) aNil)))) (aCons (sVar 12) aNil))))) (sRet (sC (.bool false))) (sNext)))
def m__law_ranks_judged (F__law_ranks : Fn) (F__law_draw : Fn) (F__law_changed : Fn) (F__law_is_ranks : Fn) (F__law_says : Fn) (F_shows_ranks : Fn) : SS :=
  (sSeq (sAsg (sCall F__law_ranks (aCons (sVar 1) (aCons (sVar 2) aNil))) (sgName 3))
  (sSeq (sAsg (sCall F__law_draw (aCons (sVar 0) (aCons (sC (.int 9)) aNil))) (sgName 4))
  (sSeq (sAsg (s2 oAdd (sRE (sCall F__law_changed (aCons (sVar 0) (aCons (sVar 3) (aCons (sVar 1) aNil))))) (sRE (sLst (dCons (sLc [6] (sIt (sVar 3)) (sgName 6) sYes (s2 oSub (sRV 6) (sRE (sC (.int 1))))) (dCons (sLc [6] (sIt (sVar 3)) (sgName 6) sYes (s2 oAdd (sRE (s2 oMul (sRE (sC (.int 2))) (sRV 6))) (sRV 4))) dNil))))) (sgName 5))
  (sSeq (sAsg (s2 oAdd (sRV 5) (sRE (sCall F__law_changed (aCons (sVar 0) (aCons (sLc [6] (sIt (sVar 3)) (sgName 6) sYes (s2 oAdd (sRE (s2 oMul (sRE (sC (.int 3))) (sRV 6))) (sRV 4))) (aCons (sVar 1) aNil)))))) (sgName 5))
  (sSeq (sAsg (s2 oAdd (sRV 5) (sRE (sLst (dCons (sLc [7] (sIt (sVar 2)) (sgName 7) sYes (s2 oIx (sRV 3) (sRE (s2 oIx (sRV 7) (sRE (sC (.int 1))))))) (dCons (s2 oMul (sRE (sLst (dCons (sC (.int 0)) dNil))) (sRV 1)) (dCons (s2 oMul (sRE (sLst (dCons (sC (.int 1)) dNil))) (sRV 1)) (dCons (sLc [6] (sIt (sVar 3)) (sgName 6) sYes (s2 oSub (sRE (s2 oPow (sRE (sC (.int 10))) (sRE (sC (.int 59))))) (sRV 6))) dNil))))))) (sgName 5))
  (sSeq (sFor (sIt (sSl (sRV 2) pNo (pSome (sRE (sC (.int 4)))))) (sgName 7) (b1__law_ranks_judged))
  (sSeq (sFor (sIt (sVar 5)) (sgName 11) (b2__law_ranks_judged F_shows_ranks F__law_says F__law_is_ranks))
  (sRet (sC (.bool true))))))))))
abbrev st__law_rings_judged : Stmt := topS 22
abbrev N__law_rings_judged : List Str := ["feed", "n", "needs", "ring", "turned", "papers", "k", "need", "item", "paper", "due"]
theorem sc__law_rings_judged : FnScope N__law_rings_judged ["feed", "n", "needs", "ring"] (defScope st__law_rings_judged) := ⟨rfl, rfl, rfl, by decide +kernel, rfl, by decide +kernel, by decide +kernel⟩
def b1__law_rings_judged (F_shows_parts_ring : Fn) (F__law_says : Fn) (F__law_is_ring : Fn) : SS :=
  (sSeq (sAsg (sCall F__law_is_ring (aCons (sVar 1) (aCons (sVar 2) (aCons (sVar 9) aNil)))) (sgName 10))
  (sIfS (sNot (sT (sCall F__law_says (aCons (sCall F_shows_parts_ring (aCons (sVar 1) (aCons (s1 oList (sRV 2)) (aCons (sVar 9) aNil)))) (aCons (sVar 10) aNil))))) (sRet (sC (.bool false))) (sNext)))
def m__law_rings_judged (F__law_changed : Fn) (F__law_is_ring : Fn) (F__law_says : Fn) (F_shows_parts_ring : Fn) : SS :=
  (sSeq (sAsg (s2 oAdd (sRE (sSl (sRV 3) (pSome (sRE (sC (.int 1)))) pNo)) (sRE (sSl (sRV 3) pNo (pSome (sRE (sC (.int 1))))))) (sgName 4))
  (sSeq (sAsg (s2 oAdd (sRE (sCall F__law_changed (aCons (sVar 0) (aCons (sVar 3) (aCons (sVar 1) aNil))))) (sRE (sLst (dCons (sVar 4) (dCons (s2 oAdd (sRV 3) (sRV 3)) (dCons (s2 oAdd (sRV 3) (sRV 4)) (dCons (s2 oAdd (sRE (s2 oAdd (sRV 4) (sRV 3))) (sRV 3)) dNil))))))) (sgName 5))
  (sSeq (sAsg (s2 oAdd (sRV 5) (sRE (sLst (dCons (s1 oSortedR (sRV 3)) (dCons (sLc [6] (sRng1 (dCons (s1 oLen (sRV 3)) dNil)) (sgName 6) sYes (s2 oIx (sRV 3) (sRE (s2 oSub (sRE (s2 oSub (sRE (s1 oLen (sRV 3))) (sRE (sC (.int 1))))) (sRV 6))))) (dCons (sLstR (sRg1 (sVar 1))) dNil)))))) (sgName 5))
  (sSeq (sAsg (s2 oAdd (sRE (s2 oAdd (sRV 5) (sRE (sLc [7] (sIt (sSl (sRV 2) pNo (pSome (sRE (sC (.int 3)))))) (sgName 7) sYes (sLst (dCons (s2 oIx (sRV 7) (sRE (sC (.int 0)))) (dCons (s2 oIx (sRV 7) (sRE (sC (.int 1)))) dNil))))))) (sRE (sLc [7] (sIt (sSl (sRV 2) pNo (pSome (sRE (sC (.int 2)))))) (sgName 7) sYes (sLst (dCons (s2 oSub (sRE (s2 oIx (sRV 7) (sRE (sC (.int 0))))) (sRV 1)) (dCons (s2 oSub (sRE (s2 oIx (sRV 7) (sRE (sC (.int 1))))) (sRV 1)) dNil)))))) (sgName 5))
  (sSeq (sAsg (s2 oAdd (sRV 5) (sRE (sLst (dCons (sLc [8] (sIt (sVar 3)) (sgName 8) sYes (s2 oSub (sRV 8) (sRV 1))) (dCons (sTup (dCons (sVar 3) (dCons (sVar 3) dNil))) dNil))))) (sgName 5))
  (sSeq (sFor (sIt (sVar 5)) (sgName 9) (b1__law_rings_judged F_shows_parts_ring F__law_says F__law_is_ring))
  (sRet (sC (.bool true)))))))))
abbrev st_law : Stmt := topS 23
abbrev N_law : List Str := ["script", "feed", "turn", "n", "needs", "ring", "item", "part", "count"]
theorem sc_law : FnScope N_law ["script"] (defScope st_law) := ⟨rfl, rfl, rfl, by decide +kernel, rfl, by decide +kernel, by decide +kernel⟩
def b1_law (F__law_draw : Fn) (F__law_needs : Fn) (F__law_ring : Fn) (F__law_ranks_judged : Fn) (F__law_rings_judged : Fn) : SS :=
  (sSeq (sAsg (s2 oAdd (sRE (sC (.int 1))) (sRE (sCall F__law_draw (aCons (sVar 1) (aCons (sC (.int 6)) aNil))))) (sgName 3))
  (sSeq (sAsg (sCall F__law_needs (aCons (sVar 1) (aCons (sVar 3) (aCons (sCall F__law_draw (aCons (sVar 1) (aCons (sC (.int 13)) aNil))) (aCons (sC (.int 99)) aNil))))) (sgName 4))
  (sSeq (sAsg (sLst (dCons (sC (.int 0)) dNil)) (sgName 5))
  (sSeq (sIfS (sT (s2 oGtI (sRE (s1 oLen (sRV 4))) (sRE (sC (.int 0))))) (sSeq (sAsg (s2 oIx (sRV 4) (sRE (sCall F__law_draw (aCons (sVar 1) (aCons (s1 oLen (sRV 4)) aNil))))) (sgTup 3 (sgCons (sgName 6) (sgCons (sgName 7) (sgCons (sgName 8) sgNil)))))
  (sSeq (sAsg (sLst (dCons (sVar 6) (dCons (sVar 7) dNil))) (sgName 5))
  (sIfS (sT (s2 oEq (sRE (sCall F__law_draw (aCons (sVar 1) (aCons (sC (.int 2)) aNil)))) (sRE (sC (.int 0))))) (sSeq (sAsg (s2 oAdd (sRE (sLst (dCons (sTup (dCons (sVar 7) (dCons (sVar 6) (dCons (sC (.int 1)) dNil)))) dNil))) (sRV 4)) (sgName 4))
  (sAsg (sCall F__law_ring (aCons (sVar 3) (aCons (sVar 4) aNil))) (sgName 5))) (sNext)))) (sNext))
  (sIfS (sOr (sNot (sT (sCall F__law_ranks_judged (aCons (sVar 1) (aCons (sVar 3) (aCons (sVar 4) aNil)))))) (sNot (sT (sCall F__law_rings_judged (aCons (sVar 1) (aCons (sVar 3) (aCons (sVar 4) (aCons (sVar 5) aNil)))))))) (sRet (sC (.bool false))) (sNext))))))
def m_law (F__law_draw : Fn) (F__law_needs : Fn) (F__law_ring : Fn) (F__law_ranks_judged : Fn) (F__law_rings_judged : Fn) (F__law_says : Fn) (F_shows_parts_ring : Fn) (F_shows_ranks : Fn) : SS :=
  (sSeq (sFor (sRng1 (dCons (sC (.int 2)) dNil)) (sgName 2) (b1_law F__law_draw F__law_needs F__law_ring F__law_ranks_judged F__law_rings_judged))
  (sSeq (sAsg (sLst (dCons (sTup (dCons (sC (.int 0)) (dCons (sC (.int 1)) (dCons (sC (.int 1)) dNil)))) (dCons (sTup (dCons (sC (.int 1)) (dCons (sC (.int 2)) (dCons (sC (.int 5)) dNil)))) (dCons (sTup (dCons (sC (.int 2)) (dCons (sC (.int 0)) (dCons (sC (.int 1)) dNil)))) dNil)))) (sgName 4))
  (sSeq (sIfS (sNot (sT (sCall F__law_says (aCons (sCall F_shows_parts_ring (aCons (sC (.int 3)) (aCons (s1 oList (sRV 4)) (aCons (sLst (dCons (sC (.int 0)) (dCons (sC (.int 1)) (dCons (sC (.int 2)) (dCons (sC (.int 0)) (dCons (sC (.int 1)) (dCons (sC (.int 2)) dNil))))))) aNil)))) (aCons (sC (.bool true)) aNil))))) (sRet (sC (.bool false))) (sNext))
  (sSeq (sIfS (sNot (sT (sCall F__law_says (aCons (sCall F_shows_parts_ring (aCons (sC (.int 3)) (aCons (s1 oList (sRV 4)) (aCons (sLst (dCons (sC (.int 2)) (dCons (sC (.int 0)) (dCons (sC (.int 1)) dNil)))) aNil)))) (aCons (sC (.bool true)) aNil))))) (sRet (sC (.bool false))) (sNext))
  (sSeq (sIfS (sNot (sT (sCall F__law_says (aCons (sCall F_shows_parts_ring (aCons (sC (.int 3)) (aCons (s1 oList (sRV 4)) (aCons (sLst (dCons (sC (.int 0)) (dCons (sC (.bool true)) (dCons (sC (.int 2)) dNil)))) aNil)))) (aCons (sC (.bool false)) aNil))))) (sRet (sC (.bool false))) (sNext))
  (sSeq (sIfS (sNot (sT (sCall F__law_says (aCons (sCall F_shows_ranks (aCons (sC (.int 3)) (aCons (sSl (sRV 4) pNo (pSome (sRE (sC (.int 2))))) (aCons (sLst (dCons (sC (.int 2)) (dCons (sC (.bool true)) (dCons (sC (.int 0)) dNil)))) aNil)))) (aCons (sC (.bool false)) aNil))))) (sRet (sC (.bool false))) (sNext))
  (sRet (sCall F__law_says (aCons (sCall F_shows_ranks (aCons (sC (.int 3)) (aCons (sSl (sRV 4) pNo (pSome (sRE (sC (.int 2))))) (aCons (sLst (dCons (sC (.int 9)) (dCons (sC (.int 4)) (dCons (sC (.int 0)) dNil)))) aNil)))) (aCons (sC (.bool true)) aNil))))))))))
theorem d_is_whole {P : Program} {w : World} {K : PySem.W.Frag} {mg : Str → Option Value} {base : Heap} (b_isinstance : mg "isinstance" = none) (b_int : mg "int" = none) (b_bool : mg "bool" = none) {f : Addr} (cdv : Value) (A : Around) (outer : List Env) (s : Shared) (H : Hp) (E : XK) (Z : Zx) (hr : Room 0 (A.deeper (envOfC "is_whole" (defScope st_is_whole) s.heap.objs.size f cdv))) : PSs (cxOf CX0 P w K mg base N_is_whole "is_whole" (defScope st_is_whole) f cdv A outer s H E).nox (defBody st_is_whole) (tS Z (m_is_whole)) :=
  have nd := sc_is_whole.nd
  have hu65 := hu65_of hr
  (es_one (es_ret (ev_and (ev_isi "int" (by decide) (by rfl) b_isinstance (by rfl) b_int (by decide +kernel) (er_var 0)) (ev_one (ev_not (ev_isi "bool" (by decide) (by rfl) b_isinstance (by rfl) b_bool (by decide +kernel) (er_var 0)))))))
theorem d_are_wholes {P : Program} {w : World} {K : PySem.W.Frag} {mg : Str → Option Value} {base : Heap} (b_isinstance : mg "isinstance" = none) (b_list : mg "list" = none) (b_all : mg "all" = none) {XL_is_whole : XW} {F_is_whole : Fn} (C_is_whole : Cal P w K mg base CX0 1 "is_whole" ["value"] XL_is_whole F_is_whole) {f : Addr} (cdv : Value) (A : Around) (outer : List Env) (s : Shared) (H : Hp) (E : XK) (Z : Zx) (hr : Room 1 (A.deeper (envOfC "are_wholes" (defScope st_are_wholes) s.heap.objs.size f cdv))) : PSs (cxOf CX0 P w K mg base N_are_wholes "are_wholes" (defScope st_are_wholes) f cdv A outer s H E).nox (defBody st_are_wholes) (tS Z (m_are_wholes F_is_whole)) :=
  have nd := sc_are_wholes.nd
  have hu65 := hu65_of hr
  (es_cons (es_if (et_not (et_val (ev_isi "list" (by decide) (by rfl) b_isinstance (by rfl) b_list (by decide +kernel) (er_var 0)))) (es_one (es_ret ev_bl)) es_nil)
  (es_one (es_ret (ev_b1 (cr_all rfl) ok_all (by rfl) b_all (by decide +kernel) (er_of (ev_lc rfl nd (ei_any (ev_var 0)) (show BlkOk N_are_wholes (defScope st_are_wholes) _ [("number", 1)] from blkOk_by (by decide +kernel)) (GTok.name 1 (by decide)) tyes_imp (fun _ _ _ _ _ => (pg_name (i := 1) nd rfl (by first | exact Or.inl rfl | exact Or.inr rfl))) (fun _ _ _ _ _ => pts_nil) (fun _ _ _ _ _ => (ev_callC C_is_whole hr (by rfl) (ea_cons (ev_var 1) ea_nil)))))))))
theorem d_are_indexes {P : Program} {w : World} {K : PySem.W.Frag} {mg : Str → Option Value} {base : Heap} (b_all : mg "all" = none) {XL_are_wholes : XW} {F_are_wholes : Fn} (C_are_wholes : Cal P w K mg base CX0 2 "are_wholes" ["value"] XL_are_wholes F_are_wholes) {f : Addr} (cdv : Value) (A : Around) (outer : List Env) (s : Shared) (H : Hp) (E : XK) (Z : Zx) (hr : Room 2 (A.deeper (envOfC "are_indexes" (defScope st_are_indexes) s.heap.objs.size f cdv))) : PSs (cxOf CX0 P w K mg base N_are_indexes "are_indexes" (defScope st_are_indexes) f cdv A outer s H E).nox (defBody st_are_indexes) (tS Z (m_are_indexes F_are_wholes)) :=
  have nd := sc_are_indexes.nd
  have hu65 := hu65_of hr
  (es_cons (es_if (et_not (et_val (ev_callC C_are_wholes hr (by rfl) (ea_cons (ev_var 0) ea_nil)))) (es_one (es_ret ev_bl)) es_nil)
  (es_one (es_ret (ev_b1 (cr_all rfl) ok_all (by rfl) b_all (by decide +kernel) (er_of (ev_lc rfl nd (ei_any (ev_var 0)) (show BlkOk N_are_indexes (defScope st_are_indexes) _ [("number", 2)] from blkOk_by (by decide +kernel)) (GTok.name 2 (by decide)) tyes_imp (fun _ _ _ _ _ => (pg_name (i := 2) nd rfl (by first | exact Or.inl rfl | exact Or.inr rfl))) (fun _ _ _ _ _ => pts_nil) (fun _ _ _ _ _ => (ev_chain op_le ok_leI op_lt ok_ltI (er_of ev_int) (er_var 2) (er_var 1)))))))))
theorem d_are_amounts {P : Program} {w : World} {K : PySem.W.Frag} {mg : Str → Option Value} {base : Heap} (b_len : mg "len" = none) (b_min : mg "min" = none) {XL_are_wholes : XW} {F_are_wholes : Fn} (C_are_wholes : Cal P w K mg base CX0 2 "are_wholes" ["value"] XL_are_wholes F_are_wholes) {f : Addr} (cdv : Value) (A : Around) (outer : List Env) (s : Shared) (H : Hp) (E : XK) (Z : Zx) (hr : Room 2 (A.deeper (envOfC "are_amounts" (defScope st_are_amounts) s.heap.objs.size f cdv))) : PSs (cxOf CX0 P w K mg base N_are_amounts "are_amounts" (defScope st_are_amounts) f cdv A outer s H E).nox (defBody st_are_amounts) (tS Z (m_are_amounts F_are_wholes)) :=
  have nd := sc_are_amounts.nd
  have hu65 := hu65_of hr
  (es_one (es_ret (ev_and (ev_callC C_are_wholes hr (by rfl) (ea_cons (ev_var 0) ea_nil)) (ev_and (ev_cmp (op_eqX hr.units) ok_eq (er_of (ev_b1 call_len ok_len (by rfl) b_len (by decide +kernel) (er_var 0))) (er_var 1) (nomark _)) (ev_one (ev_cmp op_ge ok_geI (er_of (ev_minD rfl (by rfl) b_min (er_var 0))) (er_of ev_int) (nomark _)))))))
theorem d_shows_ranks {P : Program} {w : World} {K : PySem.W.Frag} {mg : Str → Option Value} {base : Heap} (b_all : mg "all" = none) {XL_are_amounts : XW} {F_are_amounts : Fn} (C_are_amounts : Cal P w K mg base CX0 3 "are_amounts" ["value", "n"] XL_are_amounts F_are_amounts) {f : Addr} (cdv : Value) (A : Around) (outer : List Env) (s : Shared) (H : Hp) (E : XK) (Z : Zx) (hr : Room 3 (A.deeper (envOfC "shows_ranks" (defScope st_shows_ranks) s.heap.objs.size f cdv))) : PSs (cxOf CX0 P w K mg base N_shows_ranks "shows_ranks" (defScope st_shows_ranks) f cdv A outer s H E).nox (defBody st_shows_ranks) (tS Z (m_shows_ranks F_are_amounts)) :=
  have nd := sc_shows_ranks.nd
  have hu65 := hu65_of hr
  (es_cons (es_if (et_not (et_val (ev_callC C_are_amounts hr (by rfl) (ea_cons (ev_var 2) (ea_cons (ev_var 0) ea_nil))))) (es_one (es_ret ev_bl)) es_nil)
  (es_one (es_ret (ev_b1 (cr_all rfl) ok_all (by rfl) b_all (by decide +kernel) (er_of (ev_lc rfl nd (ei_any (ev_var 1)) (show BlkOk N_shows_ranks (defScope st_shows_ranks) _ [("item", 3), ("part", 4), ("_", 5)] from blkOk_by (by decide +kernel)) (GTok.tup (GTsok.cons (GTok.name 3 (by decide)) (GTsok.cons (GTok.name 4 (by decide)) (GTsok.cons (GTok.name 5 (by decide)) (GTsok.nil))))) tyes_imp (fun _ _ _ _ _ => (pg_tup rfl (pgs_cons (pg_name (i := 3) nd rfl (by first | exact Or.inl rfl | exact Or.inr rfl)) (pgs_cons (pg_name (i := 4) nd rfl (by first | exact Or.inl rfl | exact Or.inr rfl)) (pgs_cons (pg_name (i := 5) nd rfl (by first | exact Or.inl rfl | exact Or.inr rfl)) pgs_nil))))) (fun _ _ _ _ _ => pts_nil) (fun _ _ _ _ _ => (ev_cmp op_gt ok_gtI (er_of (ev_ix ix_seq ok_ix (er_var 2) (er_var 3) (fun _ _ => rfl))) (er_of (ev_ix ix_seq ok_ix (er_var 2) (er_var 4) (fun _ _ => rfl))) (nomark _)))))))))
theorem d_shows_parts_ring {P : Program} {w : World} {K : PySem.W.Frag} {mg : Str → Option Value} {base : Heap} (b_len : mg "len" = none) (b_all : mg "all" = none) (b_range : mg "range" = none) {XL_are_indexes : XW} {F_are_indexes : Fn} (C_are_indexes : Cal P w K mg base CX0 3 "are_indexes" ["value", "many"] XL_are_indexes F_are_indexes) {f : Addr} (cdv : Value) (A : Around) (outer : List Env) (s : Shared) (H : Hp) (E : XK) (Z : Zx) (hr : Room 3 (A.deeper (envOfC "shows_parts_ring" (defScope st_shows_parts_ring) s.heap.objs.size f cdv))) : PSs (cxOf CX0 P w K mg base N_shows_parts_ring "shows_parts_ring" (defScope st_shows_parts_ring) f cdv A outer s H E).nox (defBody st_shows_parts_ring) (tS Z (m_shows_parts_ring F_are_indexes)) :=
  have nd := sc_shows_parts_ring.nd
  have hu65 := hu65_of hr
  (es_cons (es_if (PW.pt (ew_or (et_not (et_val (ev_callC C_are_indexes hr (by rfl) (ea_cons (ev_var 2) (ea_cons (ev_var 0) ea_nil))))) (ew_or1 (et_cmp op_lt ok_ltI (er_of (ev_b1 call_len ok_len (by rfl) b_len (by decide +kernel) (er_var 2))) (er_of ev_int) (nomark _))))) (es_one (es_ret ev_bl)) es_nil)
  (es_cons (es_set 3 nd (ev_lc rfl nd (ei_any (ev_var 1)) (show BlkOk N_shows_parts_ring (defScope st_shows_parts_ring) _ [("item", 4), ("part", 5), ("_", 6)] from blkOk_by (by decide +kernel)) (GTok.tup (GTsok.cons (GTok.name 4 (by decide)) (GTsok.cons (GTok.name 5 (by decide)) (GTsok.cons (GTok.name 6 (by decide)) (GTsok.nil))))) tyes_imp (fun _ _ _ _ _ => (pg_tup rfl (pgs_cons (pg_name (i := 4) nd rfl (by first | exact Or.inl rfl | exact Or.inr rfl)) (pgs_cons (pg_name (i := 5) nd rfl (by first | exact Or.inl rfl | exact Or.inr rfl)) (pgs_cons (pg_name (i := 6) nd rfl (by first | exact Or.inl rfl | exact Or.inr rfl)) pgs_nil))))) (fun _ _ _ _ _ => pts_nil) (fun _ _ _ _ _ => (ev_tup (ed_cons (ev_var 4) (ed_cons (ev_var 5) ed_nil))))))
  (es_one (es_ret (ev_b1 (cr_all rfl) ok_all (by rfl) b_all (by decide +kernel) (er_of (ev_lc rfl nd (ei_range1 (by rfl) b_range (ed_cons (ev_b1 call_len ok_len (by rfl) b_len (by decide +kernel) (er_var 2)) ed_nil)) (show BlkOk N_shows_parts_ring (defScope st_shows_parts_ring) _ [("at", 7)] from blkOk_by (by decide +kernel)) (GTok.name 7 (by decide)) tyes_imp (fun _ _ _ _ _ => (pg_name (i := 7) nd rfl (by first | exact Or.inl rfl | exact Or.inr rfl))) (fun _ _ _ _ _ => pts_nil) (fun _ _ _ _ _ => (ev_cmp (op_inP hr.units) ok_inP (er_of (ev_tup (ed_cons (ev_ix ix_seq ok_ix (er_var 2) (er_of (ev_bin op_sub ok_sub (er_var 7) (er_of ev_int))) (fun _ _ => rfl)) (ed_cons (ev_ix ix_seq ok_ix (er_var 2) (er_var 7) (fun _ _ => rfl)) ed_nil)))) (er_var 3) (by rfl))))))))))
theorem d__law_is_whole {P : Program} {w : World} {K : PySem.W.Frag} {mg : Str → Option Value} {base : Heap} (b_isinstance : mg "isinstance" = none) (b_int : mg "int" = none) (b_bool : mg "bool" = none) {f : Addr} (cdv : Value) (A : Around) (outer : List Env) (s : Shared) (H : Hp) (E : XK) (Z : Zx) (hr : Room 0 (A.deeper (envOfC "_law_is_whole" (defScope st__law_is_whole) s.heap.objs.size f cdv))) : PSs (cxOf CX0 P w K mg base N__law_is_whole "_law_is_whole" (defScope st__law_is_whole) f cdv A outer s H E).nox (defBody st__law_is_whole) (tS Z (m__law_is_whole)) :=
  have nd := sc__law_is_whole.nd
  have hu65 := hu65_of hr
  (es_one (es_ret (ev_and (ev_isi "int" (by decide) (by rfl) b_isinstance (by rfl) b_int (by decide +kernel) (er_var 0)) (ev_one (ev_not (ev_isi "bool" (by decide) (by rfl) b_isinstance (by rfl) b_bool (by decide +kernel) (er_var 0)))))))
theorem d__law_says {P : Program} {w : World} {K : PySem.W.Frag} {mg : Str → Option Value} {base : Heap} (b_isinstance : mg "isinstance" = none) (b_bool : mg "bool" = none) {f : Addr} (cdv : Value) (A : Around) (outer : List Env) (s : Shared) (H : Hp) (E : XK) (Z : Zx) (hr : Room 0 (A.deeper (envOfC "_law_says" (defScope st__law_says) s.heap.objs.size f cdv))) : PSs (cxOf CX0 P w K mg base N__law_says "_law_says" (defScope st__law_says) f cdv A outer s H E).nox (defBody st__law_says) (tS Z (m__law_says)) :=
  have nd := sc__law_says.nd
  have hu65 := hu65_of hr
  (es_one (es_ret (ev_and (ev_isi "bool" (by decide) (by rfl) b_isinstance (by rfl) b_bool (by decide +kernel) (er_var 0)) (ev_one (ev_cmp (op_eqX hr.units) ok_eq (er_var 0) (er_var 1) (nomark _))))))
theorem d__law_mixed {P : Program} {w : World} {K : PySem.W.Frag} {mg : Str → Option Value} {base : Heap} (b_list : mg "list" = none) (b_range : mg "range" = none) (b_len : mg "len" = none) {XL__law_draw : XW} {F__law_draw : Fn} (C__law_draw : Cal P w K mg base CX0 1 "_law_draw" ["feed", "many"] XL__law_draw F__law_draw) {f : Addr} (cdv : Value) (A : Around) (outer : List Env) (s : Shared) (H : Hp) (E : XK) (Z : Zx) (hr : Room 1 (A.deeper (envOfC "_law_mixed" (defScope st__law_mixed) s.heap.objs.size f cdv))) : PSs (cxOf CX0 P w K mg base N__law_mixed "_law_mixed" (defScope st__law_mixed) f cdv A outer s H E).nox (defBody st__law_mixed) (tS Z (m__law_mixed F__law_draw)) :=
  have nd := sc__law_mixed.nd
  have hu65 := hu65_of hr
  (es_cons (es_set 2 nd (ev_listRg rfl (by rfl) b_list (eg_1 (by rfl) b_range (ev_var 1))))
  (es_cons (es_set 3 nd (ev_lst ed_nil))
  (es_cons (es_for PassesOwn.never rfl (ei_range1 (by rfl) b_range (ed_cons (ev_var 1) ed_nil)) (pg_name (i := 4) nd rfl (by first | exact Or.inl rfl | exact Or.inr rfl)) (show GTok [4] _ _ from GTok.name 4 (by decide)) (es_one (es_expr (ev_meth 3 PySem.F.plainAttrs_list PySem.F.slot_list_append PySem.F.type_list_append mt_append ok_append (pv 3) (ed_cons (ev_meth 2 PySem.F.plainAttrs_list PySem.F.slot_list_pop PySem.F.type_list_pop mt_popAt ok_popAt (pv 2) (ed_cons (ev_callC C__law_draw hr (by rfl) (ea_cons (ev_var 0) (ea_cons (ev_b1 call_len ok_len (by rfl) b_len (by decide +kernel) (er_var 2)) ea_nil))) ed_nil)) ed_nil)))))
  (es_one (es_retV 3)))))
theorem d__law_pairs {P : Program} {w : World} {K : PySem.W.Frag} {mg : Str → Option Value} {base : Heap} (b_range : mg "range" = none) (b_len : mg "len" = none) {XL__law_mixed : XW} {F__law_mixed : Fn} (C__law_mixed : Cal P w K mg base CX0 2 "_law_mixed" ["feed", "n"] XL__law_mixed F__law_mixed) {f : Addr} (cdv : Value) (A : Around) (outer : List Env) (s : Shared) (H : Hp) (E : XK) (Z : Zx) (hr : Room 2 (A.deeper (envOfC "_law_pairs" (defScope st__law_pairs) s.heap.objs.size f cdv))) : PSs (cxOf CX0 P w K mg base N__law_pairs "_law_pairs" (defScope st__law_pairs) f cdv A outer s H E).nox (defBody st__law_pairs) (tS Z (m__law_pairs F__law_mixed)) :=
  have nd := sc__law_pairs.nd
  have hu65 := hu65_of hr
  (es_cons (es_set 3 nd (ev_callC C__law_mixed hr (by rfl) (ea_cons (ev_var 0) (ea_cons (ev_var 1) ea_nil))))
  (es_cons (es_set 4 nd (ev_lst ed_nil))
  (es_cons (es_for PassesOwn.never rfl (ei_range1 (by rfl) b_range (ed_cons (ev_var 1) ed_nil)) (pg_name (i := 5) nd rfl (by first | exact Or.inl rfl | exact Or.inr rfl)) (show GTok [5] _ _ from GTok.name 5 (by decide)) (es_one (es_set 4 nd (ev_bin op_addD ok_add (er_var 4) (er_of (ev_lc rfl nd (ei_range2 (by rfl) b_range (ed_cons (ev_bin op_addD ok_add (er_var 5) (er_of ev_int)) (ed_cons (ev_var 1) ed_nil))) (show BlkOk N__law_pairs (defScope st__law_pairs) _ [("b", 6)] from blkOk_by (by decide +kernel)) (GTok.name 6 (by decide)) tyes_imp (fun _ _ _ _ _ => (pg_name (i := 6) nd rfl (by first | exact Or.inl rfl | exact Or.inr rfl))) (fun _ _ _ _ _ => pts_nil) (fun _ _ _ _ _ => (ev_tup (ed_cons (ev_ix ix_seq ok_ix (er_var 3) (er_var 5) (fun _ _ => rfl)) (ed_cons (ev_ix ix_seq ok_ix (er_var 3) (er_var 6) (fun _ _ => rfl)) ed_nil))))))))))
  (es_one (es_ret (ev_slice (er_of (ev_lc rfl nd (ei_any (ev_callC C__law_mixed hr (by rfl) (ea_cons (ev_var 0) (ea_cons (ev_b1 call_len ok_len (by rfl) b_len (by decide +kernel) (er_var 4)) ea_nil)))) (show BlkOk N__law_pairs (defScope st__law_pairs) _ [("k", 7)] from blkOk_by (by decide +kernel)) (GTok.name 7 (by decide)) tyes_imp (fun _ _ _ _ _ => (pg_name (i := 7) nd rfl (by first | exact Or.inl rfl | exact Or.inr rfl))) (fun _ _ _ _ _ => pts_nil) (fun _ _ _ _ _ => (ev_ix ix_seq ok_ix (er_var 4) (er_var 7) (fun _ _ => rfl))))) eo_none (eo_some (er_var 2))))))))
theorem d__law_needs {P : Program} {w : World} {K : PySem.W.Frag} {mg : Str → Option Value} {base : Heap} {XL__law_pairs : XW} {F__law_pairs : Fn} (C__law_pairs : Cal P w K mg base CX0 3 "_law_pairs" ["feed", "n", "many"] XL__law_pairs F__law_pairs) {XL__law_draw : XW} {F__law_draw : Fn} (C__law_draw : Cal P w K mg base CX0 1 "_law_draw" ["feed", "many"] XL__law_draw F__law_draw) {f : Addr} (cdv : Value) (A : Around) (outer : List Env) (s : Shared) (H : Hp) (E : XK) (Z : Zx) (hr : Room 3 (A.deeper (envOfC "_law_needs" (defScope st__law_needs) s.heap.objs.size f cdv))) : PSs (cxOf CX0 P w K mg base N__law_needs "_law_needs" (defScope st__law_needs) f cdv A outer s H E).nox (defBody st__law_needs) (tS Z (m__law_needs F__law_pairs F__law_draw)) :=
  have nd := sc__law_needs.nd
  have hu65 := hu65_of hr
  (es_one (es_ret (ev_lc rfl nd (ei_any (ev_callC C__law_pairs hr (by rfl) (ea_cons (ev_var 0) (ea_cons (ev_var 1) (ea_cons (ev_var 2) ea_nil))))) (show BlkOk N__law_needs (defScope st__law_needs) _ [("item", 4), ("part", 5)] from blkOk_by (by decide +kernel)) (GTok.tup (GTsok.cons (GTok.name 4 (by decide)) (GTsok.cons (GTok.name 5 (by decide)) (GTsok.nil)))) tyes_imp (fun _ _ _ _ _ => (pg_tup rfl (pgs_cons (pg_name (i := 4) nd rfl (by first | exact Or.inl rfl | exact Or.inr rfl)) (pgs_cons (pg_name (i := 5) nd rfl (by first | exact Or.inl rfl | exact Or.inr rfl)) pgs_nil)))) (fun _ _ _ _ _ => pts_nil) (fun _ _ _ _ _ => (ev_tup (ed_cons (ev_var 4) (ed_cons (ev_var 5) (ed_cons (ev_bin op_addD ok_add (er_of ev_int) (er_of (ev_callC C__law_draw hr (by rfl) (ea_cons (ev_var 0) (ea_cons (ev_var 3) ea_nil))))) ed_nil))))))))
theorem d__law_ranks {P : Program} {w : World} {K : PySem.W.Frag} {mg : Str → Option Value} {base : Heap} (b_range : mg "range" = none) (b_max : mg "max" = none) {f : Addr} (cdv : Value) (A : Around) (outer : List Env) (s : Shared) (H : Hp) (E : XK) (Z : Zx) (hr : Room 0 (A.deeper (envOfC "_law_ranks" (defScope st__law_ranks) s.heap.objs.size f cdv))) : PSs (cxOf CX0 P w K mg base N__law_ranks "_law_ranks" (defScope st__law_ranks) f cdv A outer s H E).nox (defBody st__law_ranks) (tS Z (m__law_ranks)) :=
  have nd := sc__law_ranks.nd
  have hu65 := hu65_of hr
  (es_cons (es_set 2 nd (ev_bin op_mulD ok_mul (er_of (ev_lst (ed_cons ev_int ed_nil))) (er_var 0)))
  (es_cons (es_for PassesOwn.never rfl (ei_range1 (by rfl) b_range (ed_cons (ev_var 0) ed_nil)) (pg_name (i := 3) nd rfl (by first | exact Or.inl rfl | exact Or.inr rfl)) (show GTok [3] _ _ from GTok.name 3 (by decide)) (es_one (es_for PassesOwn.never rfl (ei_any (ev_var 1)) (pg_tup rfl (pgs_cons (pg_name (i := 4) nd rfl (by first | exact Or.inl rfl | exact Or.inr rfl)) (pgs_cons (pg_name (i := 5) nd rfl (by first | exact Or.inl rfl | exact Or.inr rfl)) (pgs_cons (pg_name (i := 6) nd rfl (by first | exact Or.inl rfl | exact Or.inr rfl)) pgs_nil)))) (show GTok [4, 5, 6] _ _ from GTok.tup (GTsok.cons (GTok.name 4 (by decide)) (GTsok.cons (GTok.name 5 (by decide)) (GTsok.cons (GTok.name 6 (by decide)) (GTsok.nil))))) (es_one (es_setIx 2 (ev_b2 (call_max2 rfl) ok_max2 (by rfl) b_max (by decide +kernel) (er_of (ev_ix ix_seq ok_ix (er_var 2) (er_var 4) (fun _ _ => rfl))) (er_of (ev_bin op_addD ok_add (er_of (ev_ix ix_seq ok_ix (er_var 2) (er_var 5) (fun _ _ => rfl))) (er_of ev_int)))) (pv 2) (er_var 4))))))
  (es_one (es_retV 2))))
theorem d__law_ring {P : Program} {w : World} {K : PySem.W.Frag} {mg : Str → Option Value} {base : Heap} (b_range : mg "range" = none) (b_len : mg "len" = none) {f : Addr} (cdv : Value) (A : Around) (outer : List Env) (s : Shared) (H : Hp) (E : XK) (Z : Zx) (hr : Room 0 (A.deeper (envOfC "_law_ring" (defScope st__law_ring) s.heap.objs.size f cdv))) : PSs (cxOf CX0 P w K mg base N__law_ring "_law_ring" (defScope st__law_ring) f cdv A outer s H E).nox (defBody st__law_ring) (tS Z (m__law_ring)) :=
  have nd := sc__law_ring.nd
  have hu65 := hu65_of hr
  (es_cons (es_asg (ev_ix ix_seq ok_ix (er_var 1) (er_of ev_int) (fun _ _ => rfl)) (pg_tup rfl (pgs_cons (pg_name (i := 2) nd rfl (by first | exact Or.inl rfl | exact Or.inr rfl)) (pgs_cons (pg_name (i := 3) nd rfl (by first | exact Or.inl rfl | exact Or.inr rfl)) (pgs_cons (pg_name (i := 4) nd rfl (by first | exact Or.inl rfl | exact Or.inr rfl)) pgs_nil)))) (show GTok [2, 3, 4] _ _ from GTok.tup (GTsok.cons (GTok.name 2 (by decide)) (GTsok.cons (GTok.name 3 (by decide)) (GTsok.cons (GTok.name 4 (by decide)) (GTsok.nil))))))
  (es_cons (es_set 5 nd (ev_lst (ed_cons (ev_var 2) ed_nil)))
  (es_cons (es_for PassesOwn.never rfl (ei_range1 (by rfl) b_range (ed_cons (ev_var 0) ed_nil)) (pg_name (i := 6) nd rfl (by first | exact Or.inl rfl | exact Or.inr rfl)) (show GTok [6] _ _ from GTok.name 6 (by decide)) (es_cons (es_setLc 7 rfl nd (ei_any (ev_var 1)) (show BlkOk N__law_ring (defScope st__law_ring) _ [("own", 8), ("p", 9), ("c", 10)] from blkOk_by (by decide +kernel)) (GTok.tup (GTsok.cons (GTok.name 8 (by decide)) (GTsok.cons (GTok.name 9 (by decide)) (GTsok.cons (GTok.name 10 (by decide)) (GTsok.nil))))) (fun _ _ _ q => q) (fun _ _ _ _ _ => (pg_tup rfl (pgs_cons (pg_name (i := 8) nd rfl (by first | exact Or.inl rfl | exact Or.inr rfl)) (pgs_cons (pg_name (i := 9) nd rfl (by first | exact Or.inl rfl | exact Or.inr rfl)) (pgs_cons (pg_name (i := 10) nd rfl (by first | exact Or.inl rfl | exact Or.inr rfl)) pgs_nil))))) (fun _ _ _ _ _ => (pts_one (et_cmp (op_eqX hr.units) ok_eq (er_var 8) (er_of (ev_ix ix_seq ok_ix (er_var 5) (er_of (ev_un un_neg ok_neg (er_of ev_int))) (fun _ _ => rfl))) (nomark _)))) (fun _ _ _ _ _ => (ev_var 9)) (sw_true rfl rfl rfl (by decide +kernel)))
  (es_one (es_if (et_cmp op_gt ok_gtI (er_of (ev_b1 call_len ok_len (by rfl) b_len (by decide +kernel) (er_var 7))) (er_of ev_int) (nomark _)) (es_cons (es_if (et_cmp (op_inP hr.units) ok_inP (er_of (ev_ix ix_seq ok_ix (er_var 7) (er_of ev_int) (fun _ _ => rfl))) (er_var 5) (by rfl)) (es_one (es_ret (ev_slice (er_var 5) (eo_some (er_of (ev_index (er_var 5) (er_of (ev_ix ix_seq ok_ix (er_var 7) (er_of ev_int) (fun _ _ => rfl)))))) eo_none))) es_nil)
  (es_one (es_expr (ev_meth 5 PySem.F.plainAttrs_list PySem.F.slot_list_append PySem.F.type_list_append mt_append ok_append (pv 5) (ed_cons (ev_ix ix_seq ok_ix (er_var 7) (er_of ev_int) (fun _ _ => rfl)) ed_nil))))) es_nil))))
  (es_one (es_retV 5)))))
theorem d__law_is_ranks {P : Program} {w : World} {K : PySem.W.Frag} {mg : Str → Option Value} {base : Heap} (b_isinstance : mg "isinstance" = none) (b_list : mg "list" = none) (b_len : mg "len" = none) {XL__law_is_whole : XW} {F__law_is_whole : Fn} (C__law_is_whole : Cal P w K mg base CX0 1 "_law_is_whole" ["x"] XL__law_is_whole F__law_is_whole) {f : Addr} (cdv : Value) (A : Around) (outer : List Env) (s : Shared) (H : Hp) (E : XK) (Z : Zx) (hr : Room 1 (A.deeper (envOfC "_law_is_ranks" (defScope st__law_is_ranks) s.heap.objs.size f cdv))) : PSs (cxOf CX0 P w K mg base N__law_is_ranks "_law_is_ranks" (defScope st__law_is_ranks) f cdv A outer s H E).nox (defBody st__law_is_ranks) (tS Z (m__law_is_ranks F__law_is_whole)) :=
  have nd := sc__law_is_ranks.nd
  have hu65 := hu65_of hr
  (es_cons (es_if (PW.pt (ew_or (et_not (et_val (ev_isi "list" (by decide) (by rfl) b_isinstance (by rfl) b_list (by decide +kernel) (er_var 2)))) (ew_or1 (et_cmp (op_neX hr.units) ok_ne (er_of (ev_b1 call_len ok_len (by rfl) b_len (by decide +kernel) (er_var 2))) (er_var 0) (nomark _))))) (es_one (es_ret ev_bl)) es_nil)
  (es_cons (es_for PassesOwn.never rfl (ei_any (ev_var 2)) (pg_name (i := 3) nd rfl (by first | exact Or.inl rfl | exact Or.inr rfl)) (show GTok [3] _ _ from GTok.name 3 (by decide)) (es_one (es_if (PW.pt (ew_or (et_not (et_val (ev_callC C__law_is_whole hr (by rfl) (ea_cons (ev_var 3) ea_nil)))) (ew_or1 (et_cmp op_lt ok_ltI (er_var 3) (er_of ev_int) (nomark _))))) (es_one (es_ret ev_bl)) es_nil)))
  (es_one (es_ret (ev_cmp (op_eqX hr.units) ok_eq (er_of (ev_b1 call_len ok_len (by rfl) b_len (by decide +kernel) (er_of (ev_lc rfl nd (ei_any (ev_var 1)) (show BlkOk N__law_is_ranks (defScope st__law_is_ranks) _ [("need", 4)] from blkOk_by (by decide +kernel)) (GTok.name 4 (by decide)) (fun _ _ _ q => q) (fun _ _ _ _ _ => (pg_name (i := 4) nd rfl (by first | exact Or.inl rfl | exact Or.inr rfl))) (fun _ _ _ _ _ => (pts_one (et_cmp op_le ok_leI (er_of (ev_ix ix_seq ok_ix (er_var 2) (er_of (ev_ix ix_seq ok_ix (er_var 4) (er_of ev_int) (fun _ _ => rfl))) (fun _ _ => rfl))) (er_of (ev_ix ix_seq ok_ix (er_var 2) (er_of (ev_ix ix_seq ok_ix (er_var 4) (er_of ev_int) (fun _ _ => rfl))) (fun _ _ => rfl))) (nomark _)))) (fun _ _ _ _ _ => (ev_var 4)))))) (er_of ev_int) (nomark _))))))
theorem d__law_is_ring {P : Program} {w : World} {K : PySem.W.Frag} {mg : Str → Option Value} {base : Heap} (b_isinstance : mg "isinstance" = none) (b_list : mg "list" = none) (b_len : mg "len" = none) (b_range : mg "range" = none) {XL__law_is_whole : XW} {F__law_is_whole : Fn} (C__law_is_whole : Cal P w K mg base CX0 1 "_law_is_whole" ["x"] XL__law_is_whole F__law_is_whole) {f : Addr} (cdv : Value) (A : Around) (outer : List Env) (s : Shared) (H : Hp) (E : XK) (Z : Zx) (hr : Room 1 (A.deeper (envOfC "_law_is_ring" (defScope st__law_is_ring) s.heap.objs.size f cdv))) : PSs (cxOf CX0 P w K mg base N__law_is_ring "_law_is_ring" (defScope st__law_is_ring) f cdv A outer s H E).nox (defBody st__law_is_ring) (tS Z (m__law_is_ring F__law_is_whole)) :=
  have nd := sc__law_is_ring.nd
  have hu65 := hu65_of hr
  (es_cons (es_if (PW.pt (ew_or (et_not (et_val (ev_isi "list" (by decide) (by rfl) b_isinstance (by rfl) b_list (by decide +kernel) (er_var 2)))) (ew_or1 (et_cmp op_lt ok_ltI (er_of (ev_b1 call_len ok_len (by rfl) b_len (by decide +kernel) (er_var 2))) (er_of ev_int) (nomark _))))) (es_one (es_ret ev_bl)) es_nil)
  (es_cons (es_for PassesOwn.never rfl (ei_any (ev_var 2)) (pg_name (i := 3) nd rfl (by first | exact Or.inl rfl | exact Or.inr rfl)) (show GTok [3] _ _ from GTok.name 3 (by decide)) (es_one (es_if (PW.pt (ew_or (et_not (et_val (ev_callC C__law_is_whole hr (by rfl) (ea_cons (ev_var 3) ea_nil)))) (ew_or1 (et_not (et_chain op_le ok_leI op_lt ok_ltI (er_of ev_int) (er_var 3) (er_var 0)))))) (es_one (es_ret ev_bl)) es_nil)))
  (es_cons (es_set 4 nd (ev_lc rfl nd (ei_any (ev_var 1)) (show BlkOk N__law_is_ring (defScope st__law_is_ring) _ [("need", 5)] from blkOk_by (by decide +kernel)) (GTok.name 5 (by decide)) tyes_imp (fun _ _ _ _ _ => (pg_name (i := 5) nd rfl (by first | exact Or.inl rfl | exact Or.inr rfl))) (fun _ _ _ _ _ => pts_nil) (fun _ _ _ _ _ => (ev_slice (er_var 5) eo_none (eo_some (er_of ev_int))))))
  (es_one (es_ret (ev_cmp (op_eqX hr.units) ok_eq (er_of (ev_b1 call_len ok_len (by rfl) b_len (by decide +kernel) (er_of (ev_lc rfl nd (ei_range1 (by rfl) b_range (ed_cons (ev_b1 call_len ok_len (by rfl) b_len (by decide +kernel) (er_var 2)) ed_nil)) (show BlkOk N__law_is_ring (defScope st__law_is_ring) _ [("at", 6)] from blkOk_by (by decide +kernel)) (GTok.name 6 (by decide)) (fun _ _ _ q => q) (fun _ _ _ _ _ => (pg_name (i := 6) nd rfl (by first | exact Or.inl rfl | exact Or.inr rfl))) (fun _ _ _ _ _ => (pts_one (et_cmp (op_notinP hr.units) ok_inP (er_of (ev_tup (ed_cons (ev_ix ix_seq ok_ix (er_var 2) (er_of (ev_bin op_sub ok_sub (er_var 6) (er_of ev_int))) (fun _ _ => rfl)) (ed_cons (ev_ix ix_seq ok_ix (er_var 2) (er_var 6) (fun _ _ => rfl)) ed_nil)))) (er_var 4) (by rfl)))) (fun _ _ _ _ _ => (ev_var 6)))))) (er_of ev_int) (nomark _)))))))
theorem d__law_changed {P : Program} {w : World} {K : PySem.W.Frag} {mg : Str → Option Value} {base : Heap} (b_tuple : mg "tuple" = none) (b_range : mg "range" = none) (b_len : mg "len" = none) {XL__law_draw : XW} {F__law_draw : Fn} (C__law_draw : Cal P w K mg base CX0 1 "_law_draw" ["feed", "many"] XL__law_draw F__law_draw) {f : Addr} (cdv : Value) (A : Around) (outer : List Env) (s : Shared) (H : Hp) (E : XK) (Z : Zx) (hr : Room 1 (A.deeper (envOfC "_law_changed" (defScope st__law_changed) s.heap.objs.size f cdv))) : PSs (cxOf CX0 P w K mg base N__law_changed "_law_changed" (defScope st__law_changed) f cdv A outer s H E).nox (defBody st__law_changed) (tS Z (m__law_changed F__law_draw)) :=
  have nd := sc__law_changed.nd
  have hu65 := hu65_of hr
  (es_cons (es_set 3 nd (ev_lst (ed_cons (ev_var 1) (ed_cons (ev_t1 call_tuple_of ok_tuple (by rfl) b_tuple (by decide +kernel) (er_var 1)) (ed_cons ev_non (ed_cons ev_str (ed_cons ev_int (ed_cons ev_bl (ed_cons (ev_lst (ed_cons (ev_var 1) ed_nil)) (ed_cons (ev_slice (er_var 1) (eo_some (er_of ev_int)) eo_none) (ed_cons (ev_slice (er_var 1) eo_none (eo_some (er_of (ev_un un_neg ok_neg (er_of ev_int))))) (ed_cons (ev_bin op_addD ok_add (er_var 1) (er_of (ev_lst (ed_cons ev_int ed_nil)))) (ed_cons (ev_bin op_addD ok_add (er_var 1) (er_of (ev_slice (er_var 1) (eo_some (er_of (ev_un un_neg ok_neg (er_of ev_int)))) eo_none))) ed_nil)))))))))))))
  (es_cons (es_set 3 nd (ev_bin op_addD ok_add (er_var 3) (er_of (ev_lst (ed_cons (ev_lst ed_nil) (ed_cons (ev_lst (ed_cons ev_int ed_nil)) (ed_cons (ev_lst (ed_cons (ev_var 2) ed_nil)) (ed_cons (ev_lst (ed_cons (ev_un un_neg ok_neg (er_of ev_int)) ed_nil)) ed_nil))))))))
  (es_cons (es_for PassesOwn.never rfl (ei_range1 (by rfl) b_range (ed_cons ev_int ed_nil)) (pg_name (i := 4) nd rfl (by first | exact Or.inl rfl | exact Or.inr rfl)) (show GTok [4] _ _ from GTok.name 4 (by decide)) (es_one (es_if (et_cmp op_gt ok_gtI (er_of (ev_b1 call_len ok_len (by rfl) b_len (by decide +kernel) (er_var 1))) (er_of ev_int) (nomark _)) (es_cons (es_set 5 nd (ev_callC C__law_draw hr (by rfl) (ea_cons (ev_var 0) (ea_cons (ev_b1 call_len ok_len (by rfl) b_len (by decide +kernel) (er_var 1)) ea_nil))))
  (es_cons (es_set 6 nd (ev_ix ix_seq ok_ix (er_var 1) (er_of (ev_callC C__law_draw hr (by rfl) (ea_cons (ev_var 0) (ea_cons (ev_b1 call_len ok_len (by rfl) b_len (by decide +kernel) (er_var 1)) ea_nil)))) (fun _ _ => rfl)))
  (es_one (es_for PassesOwn.never rfl (ei_any (ev_lst (ed_cons (ev_bin op_addD ok_add (er_of (ev_ix ix_seq ok_ix (er_var 1) (er_var 5) (fun _ _ => rfl))) (er_of ev_int)) (ed_cons (ev_bin op_sub ok_sub (er_of (ev_ix ix_seq ok_ix (er_var 1) (er_var 5) (fun _ _ => rfl))) (er_of ev_int)) (ed_cons (ev_var 6) (ed_cons ev_int (ed_cons (ev_var 2) (ed_cons (ev_un un_neg ok_neg (er_of ev_int)) (ed_cons (ev_bin op_pow ok_pow (er_of ev_int) (er_of ev_int)) (ed_cons ev_bl (ed_cons ev_non (ed_cons ev_str (ed_cons (ev_lst (ed_cons (ev_ix ix_seq ok_ix (er_var 1) (er_var 5) (fun _ _ => rfl)) ed_nil)) ed_nil))))))))))))) (pg_name (i := 7) nd rfl (by first | exact Or.inl rfl | exact Or.inr rfl)) (show GTok [7] _ _ from GTok.name 7 (by decide)) (es_one (es_expr (ev_meth 3 PySem.F.plainAttrs_list PySem.F.slot_list_append PySem.F.type_list_append mt_append ok_append (pv 3) (ed_cons (ev_bin op_addD ok_add (er_of (ev_bin op_addD ok_add (er_of (ev_slice (er_var 1) eo_none (eo_some (er_var 5)))) (er_of (ev_lst (ed_cons (ev_var 7) ed_nil))))) (er_of (ev_slice (er_var 1) (eo_some (er_of (ev_bin op_addD ok_add (er_var 5) (er_of ev_int)))) eo_none))) ed_nil)))))))) es_nil)))
  (es_one (es_retV 3)))))
theorem d__law_ranks_judged {P : Program} {w : World} {K : PySem.W.Frag} {mg : Str → Option Value} {base : Heap} (b_list : mg "list" = none) {XL__law_ranks : XW} {F__law_ranks : Fn} (C__law_ranks : Cal P w K mg base CX0 1 "_law_ranks" ["n", "needs"] XL__law_ranks F__law_ranks) {XL__law_draw : XW} {F__law_draw : Fn} (C__law_draw : Cal P w K mg base CX0 1 "_law_draw" ["feed", "many"] XL__law_draw F__law_draw) {XL__law_changed : XW} {F__law_changed : Fn} (C__law_changed : Cal P w K mg base CX0 2 "_law_changed" ["feed", "row", "most"] XL__law_changed F__law_changed) {XL__law_is_ranks : XW} {F__law_is_ranks : Fn} (C__law_is_ranks : Cal P w K mg base CX0 2 "_law_is_ranks" ["n", "needs", "ranks"] XL__law_is_ranks F__law_is_ranks) {XL__law_says : XW} {F__law_says : Fn} (C__law_says : Cal P w K mg base CX0 1 "_law_says" ["told", "due"] XL__law_says F__law_says) {XL_shows_ranks : XW} {F_shows_ranks : Fn} (C_shows_ranks : Cal P w K mg base CX0 4 "shows_ranks" ["n", "needs", "ranks"] XL_shows_ranks F_shows_ranks) {f : Addr} (cdv : Value) (A : Around) (outer : List Env) (s : Shared) (H : Hp) (E : XK) (Z : Zx) (hr : Room 4 (A.deeper (envOfC "_law_ranks_judged" (defScope st__law_ranks_judged) s.heap.objs.size f cdv))) : PSs (cxOf CX0 P w K mg base N__law_ranks_judged "_law_ranks_judged" (defScope st__law_ranks_judged) f cdv A outer s H E).nox (defBody st__law_ranks_judged) (tS Z (m__law_ranks_judged F__law_ranks F__law_draw F__law_changed F__law_is_ranks F__law_says F_shows_ranks)) :=
  have nd := sc__law_ranks_judged.nd
  have hu65 := hu65_of hr
  (es_cons (es_set 3 nd (ev_callC C__law_ranks hr (by rfl) (ea_cons (ev_var 1) (ea_cons (ev_var 2) ea_nil))))
  (es_cons (es_set 4 nd (ev_callC C__law_draw hr (by rfl) (ea_cons (ev_var 0) (ea_cons ev_int ea_nil))))
  (es_cons (es_set 5 nd (ev_bin op_addD ok_add (er_of (ev_callC C__law_changed hr (by rfl) (ea_cons (ev_var 0) (ea_cons (ev_var 3) (ea_cons (ev_var 1) ea_nil))))) (er_of (ev_lst (ed_cons (ev_lc rfl nd (ei_any (ev_var 3)) (show BlkOk N__law_ranks_judged (defScope st__law_ranks_judged) _ [("rank", 6)] from blkOk_by (by decide +kernel)) (GTok.name 6 (by decide)) tyes_imp (fun _ _ _ _ _ => (pg_name (i := 6) nd rfl (by first | exact Or.inl rfl | exact Or.inr rfl))) (fun _ _ _ _ _ => pts_nil) (fun _ _ _ _ _ => (ev_bin op_sub ok_sub (er_var 6) (er_of ev_int)))) (ed_cons (ev_lc rfl nd (ei_any (ev_var 3)) (show BlkOk N__law_ranks_judged (defScope st__law_ranks_judged) _ [("rank", 6)] from blkOk_by (by decide +kernel)) (GTok.name 6 (by decide)) tyes_imp (fun _ _ _ _ _ => (pg_name (i := 6) nd rfl (by first | exact Or.inl rfl | exact Or.inr rfl))) (fun _ _ _ _ _ => pts_nil) (fun _ _ _ _ _ => (ev_bin op_addD ok_add (er_of (ev_bin op_mulD ok_mul (er_of ev_int) (er_var 6))) (er_var 4)))) ed_nil))))))
  (es_cons (es_set 5 nd (ev_bin op_addD ok_add (er_var 5) (er_of (ev_callC C__law_changed hr (by rfl) (ea_cons (ev_var 0) (ea_cons (ev_lc rfl nd (ei_any (ev_var 3)) (show BlkOk N__law_ranks_judged (defScope st__law_ranks_judged) _ [("rank", 6)] from blkOk_by (by decide +kernel)) (GTok.name 6 (by decide)) tyes_imp (fun _ _ _ _ _ => (pg_name (i := 6) nd rfl (by first | exact Or.inl rfl | exact Or.inr rfl))) (fun _ _ _ _ _ => pts_nil) (fun _ _ _ _ _ => (ev_bin op_addD ok_add (er_of (ev_bin op_mulD ok_mul (er_of ev_int) (er_var 6))) (er_var 4)))) (ea_cons (ev_var 1) ea_nil)))))))
  (es_cons (es_set 5 nd (ev_bin op_addD ok_add (er_var 5) (er_of (ev_lst (ed_cons (ev_lc rfl nd (ei_any (ev_var 2)) (show BlkOk N__law_ranks_judged (defScope st__law_ranks_judged) _ [("need", 7)] from blkOk_by (by decide +kernel)) (GTok.name 7 (by decide)) tyes_imp (fun _ _ _ _ _ => (pg_name (i := 7) nd rfl (by first | exact Or.inl rfl | exact Or.inr rfl))) (fun _ _ _ _ _ => pts_nil) (fun _ _ _ _ _ => (ev_ix ix_seq ok_ix (er_var 3) (er_of (ev_ix ix_seq ok_ix (er_var 7) (er_of ev_int) (fun _ _ => rfl))) (fun _ _ => rfl)))) (ed_cons (ev_bin op_mulD ok_mul (er_of (ev_lst (ed_cons ev_int ed_nil))) (er_var 1)) (ed_cons (ev_bin op_mulD ok_mul (er_of (ev_lst (ed_cons ev_int ed_nil))) (er_var 1)) (ed_cons (ev_lc rfl nd (ei_any (ev_var 3)) (show BlkOk N__law_ranks_judged (defScope st__law_ranks_judged) _ [("rank", 6)] from blkOk_by (by decide +kernel)) (GTok.name 6 (by decide)) tyes_imp (fun _ _ _ _ _ => (pg_name (i := 6) nd rfl (by first | exact Or.inl rfl | exact Or.inr rfl))) (fun _ _ _ _ _ => pts_nil) (fun _ _ _ _ _ => (ev_bin op_sub ok_sub (er_of (ev_bin op_pow ok_pow (er_of ev_int) (er_of ev_int))) (er_var 6)))) ed_nil))))))))
  (es_cons (es_for PassesOwn.never rfl (ei_any (ev_slice (er_var 2) eo_none (eo_some (er_of ev_int)))) (pg_name (i := 7) nd rfl (by first | exact Or.inl rfl | exact Or.inr rfl)) (show GTok [7] _ _ from GTok.name 7 (by decide)) (es_cons (es_asg (ev_var 7) (pg_tup rfl (pgs_cons (pg_name (i := 8) nd rfl (by first | exact Or.inl rfl | exact Or.inr rfl)) (pgs_cons (pg_name (i := 9) nd rfl (by first | exact Or.inl rfl | exact Or.inr rfl)) (pgs_cons (pg_name (i := 10) nd rfl (by first | exact Or.inl rfl | exact Or.inr rfl)) pgs_nil)))) (show GTok [8, 9, 10] _ _ from GTok.tup (GTsok.cons (GTok.name 8 (by decide)) (GTsok.cons (GTok.name 9 (by decide)) (GTsok.cons (GTok.name 10 (by decide)) (GTsok.nil))))))
  (es_one (es_expr (ev_meth 5 PySem.F.plainAttrs_list PySem.F.slot_list_append PySem.F.type_list_append mt_append ok_append (pv 5) (ed_cons (ev_bin op_addD ok_add (er_of (ev_bin op_addD ok_add (er_of (ev_slice (er_var 3) eo_none (eo_some (er_var 8)))) (er_of (ev_lst (ed_cons (ev_ix ix_seq ok_ix (er_var 3) (er_var 9) (fun _ _ => rfl)) ed_nil))))) (er_of (ev_slice (er_var 3) (eo_some (er_of (ev_bin op_addD ok_add (er_var 8) (er_of ev_int)))) eo_none))) ed_nil))))))
  (es_cons (es_for PassesOwn.never rfl (ei_any (ev_var 5)) (pg_name (i := 11) nd rfl (by first | exact Or.inl rfl | exact Or.inr rfl)) (show GTok [11] _ _ from GTok.name 11 (by decide)) (es_cons (es_set 12 nd (ev_callC C__law_is_ranks hr (by rfl) (ea_cons (ev_var 1) (ea_cons (ev_var 2) (ea_cons (ev_var 11) ea_nil)))))
  (es_one (es_if (et_not (et_val (ev_callC C__law_says hr (by rfl) (ea_cons (ev_callC C_shows_ranks hr (by rfl) (ea_cons (ev_var 1) (ea_cons (ev_t1 call_list_of ok_list (by rfl) b_list (by decide +kernel) (er_var 2)) (ea_cons (ev_var 11) ea_nil)))) (ea_cons (ev_var 12) ea_nil))))) (es_one (es_ret ev_bl)) es_nil))))
  (es_one (es_ret ev_bl)))))))))
theorem d__law_rings_judged {P : Program} {w : World} {K : PySem.W.Frag} {mg : Str → Option Value} {base : Heap} (b_sorted : mg "sorted" = none) (b_range : mg "range" = none) (b_len : mg "len" = none) (b_list : mg "list" = none) {XL__law_changed : XW} {F__law_changed : Fn} (C__law_changed : Cal P w K mg base CX0 2 "_law_changed" ["feed", "row", "most"] XL__law_changed F__law_changed) {XL__law_is_ring : XW} {F__law_is_ring : Fn} (C__law_is_ring : Cal P w K mg base CX0 2 "_law_is_ring" ["n", "needs", "ring"] XL__law_is_ring F__law_is_ring) {XL__law_says : XW} {F__law_says : Fn} (C__law_says : Cal P w K mg base CX0 1 "_law_says" ["told", "due"] XL__law_says F__law_says) {XL_shows_parts_ring : XW} {F_shows_parts_ring : Fn} (C_shows_parts_ring : Cal P w K mg base CX0 4 "shows_parts_ring" ["n", "needs", "ring"] XL_shows_parts_ring F_shows_parts_ring) {f : Addr} (cdv : Value) (A : Around) (outer : List Env) (s : Shared) (H : Hp) (E : XK) (Z : Zx) (hr : Room 4 (A.deeper (envOfC "_law_rings_judged" (defScope st__law_rings_judged) s.heap.objs.size f cdv))) : PSs (cxOf CX0 P w K mg base N__law_rings_judged "_law_rings_judged" (defScope st__law_rings_judged) f cdv A outer s H E).nox (defBody st__law_rings_judged) (tS Z (m__law_rings_judged F__law_changed F__law_is_ring F__law_says F_shows_parts_ring)) :=
  have nd := sc__law_rings_judged.nd
  have hu65 := hu65_of hr
  (es_cons (es_set 4 nd (ev_bin op_addD ok_add (er_of (ev_slice (er_var 3) (eo_some (er_of ev_int)) eo_none)) (er_of (ev_slice (er_var 3) eo_none (eo_some (er_of ev_int))))))
  (es_cons (es_set 5 nd (ev_bin op_addD ok_add (er_of (ev_callC C__law_changed hr (by rfl) (ea_cons (ev_var 0) (ea_cons (ev_var 3) (ea_cons (ev_var 1) ea_nil))))) (er_of (ev_lst (ed_cons (ev_var 4) (ed_cons (ev_bin op_addD ok_add (er_var 3) (er_var 3)) (ed_cons (ev_bin op_addD ok_add (er_var 3) (er_var 4)) (ed_cons (ev_bin op_addD ok_add (er_of (ev_bin op_addD ok_add (er_var 4) (er_var 3))) (er_var 3)) ed_nil))))))))
  (es_cons (es_set 5 nd (ev_bin op_addD ok_add (er_var 5) (er_of (ev_lst (ed_cons (ev_sortedR (by rfl) b_sorted (er_var 3)) (ed_cons (ev_lc rfl nd (ei_range1 (by rfl) b_range (ed_cons (ev_b1 call_len ok_len (by rfl) b_len (by decide +kernel) (er_var 3)) ed_nil)) (show BlkOk N__law_rings_judged (defScope st__law_rings_judged) _ [("k", 6)] from blkOk_by (by decide +kernel)) (GTok.name 6 (by decide)) tyes_imp (fun _ _ _ _ _ => (pg_name (i := 6) nd rfl (by first | exact Or.inl rfl | exact Or.inr rfl))) (fun _ _ _ _ _ => pts_nil) (fun _ _ _ _ _ => (ev_ix ix_seq ok_ix (er_var 3) (er_of (ev_bin op_sub ok_sub (er_of (ev_bin op_sub ok_sub (er_of (ev_b1 call_len ok_len (by rfl) b_len (by decide +kernel) (er_var 3))) (er_of ev_int))) (er_var 6))) (fun _ _ => rfl)))) (ed_cons (ev_listRg rfl (by rfl) b_list (eg_1 (by rfl) b_range (ev_var 1))) ed_nil)))))))
  (es_cons (es_set 5 nd (ev_bin op_addD ok_add (er_of (ev_bin op_addD ok_add (er_var 5) (er_of (ev_lc rfl nd (ei_any (ev_slice (er_var 2) eo_none (eo_some (er_of ev_int)))) (show BlkOk N__law_rings_judged (defScope st__law_rings_judged) _ [("need", 7)] from blkOk_by (by decide +kernel)) (GTok.name 7 (by decide)) tyes_imp (fun _ _ _ _ _ => (pg_name (i := 7) nd rfl (by first | exact Or.inl rfl | exact Or.inr rfl))) (fun _ _ _ _ _ => pts_nil) (fun _ _ _ _ _ => (ev_lst (ed_cons (ev_ix ix_seq ok_ix (er_var 7) (er_of ev_int) (fun _ _ => rfl)) (ed_cons (ev_ix ix_seq ok_ix (er_var 7) (er_of ev_int) (fun _ _ => rfl)) ed_nil)))))))) (er_of (ev_lc rfl nd (ei_any (ev_slice (er_var 2) eo_none (eo_some (er_of ev_int)))) (show BlkOk N__law_rings_judged (defScope st__law_rings_judged) _ [("need", 7)] from blkOk_by (by decide +kernel)) (GTok.name 7 (by decide)) tyes_imp (fun _ _ _ _ _ => (pg_name (i := 7) nd rfl (by first | exact Or.inl rfl | exact Or.inr rfl))) (fun _ _ _ _ _ => pts_nil) (fun _ _ _ _ _ => (ev_lst (ed_cons (ev_bin op_sub ok_sub (er_of (ev_ix ix_seq ok_ix (er_var 7) (er_of ev_int) (fun _ _ => rfl))) (er_var 1)) (ed_cons (ev_bin op_sub ok_sub (er_of (ev_ix ix_seq ok_ix (er_var 7) (er_of ev_int) (fun _ _ => rfl))) (er_var 1)) ed_nil))))))))
  (es_cons (es_set 5 nd (ev_bin op_addD ok_add (er_var 5) (er_of (ev_lst (ed_cons (ev_lc rfl nd (ei_any (ev_var 3)) (show BlkOk N__law_rings_judged (defScope st__law_rings_judged) _ [("item", 8)] from blkOk_by (by decide +kernel)) (GTok.name 8 (by decide)) tyes_imp (fun _ _ _ _ _ => (pg_name (i := 8) nd rfl (by first | exact Or.inl rfl | exact Or.inr rfl))) (fun _ _ _ _ _ => pts_nil) (fun _ _ _ _ _ => (ev_bin op_sub ok_sub (er_var 8) (er_var 1)))) (ed_cons (ev_tup (ed_cons (ev_var 3) (ed_cons (ev_var 3) ed_nil))) ed_nil))))))
  (es_cons (es_for PassesOwn.never rfl (ei_any (ev_var 5)) (pg_name (i := 9) nd rfl (by first | exact Or.inl rfl | exact Or.inr rfl)) (show GTok [9] _ _ from GTok.name 9 (by decide)) (es_cons (es_set 10 nd (ev_callC C__law_is_ring hr (by rfl) (ea_cons (ev_var 1) (ea_cons (ev_var 2) (ea_cons (ev_var 9) ea_nil)))))
  (es_one (es_if (et_not (et_val (ev_callC C__law_says hr (by rfl) (ea_cons (ev_callC C_shows_parts_ring hr (by rfl) (ea_cons (ev_var 1) (ea_cons (ev_t1 call_list_of ok_list (by rfl) b_list (by decide +kernel) (er_var 2)) (ea_cons (ev_var 9) ea_nil)))) (ea_cons (ev_var 10) ea_nil))))) (es_one (es_ret ev_bl)) es_nil))))
  (es_one (es_ret ev_bl))))))))
theorem d_law {P : Program} {w : World} {K : PySem.W.Frag} {mg : Str → Option Value} {base : Heap} (b_range : mg "range" = none) (b_len : mg "len" = none) (b_list : mg "list" = none) {XL__law_draw : XW} {F__law_draw : Fn} (C__law_draw : Cal P w K mg base CX0 1 "_law_draw" ["feed", "many"] XL__law_draw F__law_draw) {XL__law_needs : XW} {F__law_needs : Fn} (C__law_needs : Cal P w K mg base CX0 4 "_law_needs" ["feed", "n", "many", "most"] XL__law_needs F__law_needs) {XL__law_ring : XW} {F__law_ring : Fn} (C__law_ring : Cal P w K mg base CX0 1 "_law_ring" ["n", "needs"] XL__law_ring F__law_ring) {XL__law_ranks_judged : XW} {F__law_ranks_judged : Fn} (C__law_ranks_judged : Cal P w K mg base CX0 5 "_law_ranks_judged" ["feed", "n", "needs"] XL__law_ranks_judged F__law_ranks_judged) {XL__law_rings_judged : XW} {F__law_rings_judged : Fn} (C__law_rings_judged : Cal P w K mg base CX0 5 "_law_rings_judged" ["feed", "n", "needs", "ring"] XL__law_rings_judged F__law_rings_judged) {XL__law_says : XW} {F__law_says : Fn} (C__law_says : Cal P w K mg base CX0 1 "_law_says" ["told", "due"] XL__law_says F__law_says) {XL_shows_parts_ring : XW} {F_shows_parts_ring : Fn} (C_shows_parts_ring : Cal P w K mg base CX0 4 "shows_parts_ring" ["n", "needs", "ring"] XL_shows_parts_ring F_shows_parts_ring) {XL_shows_ranks : XW} {F_shows_ranks : Fn} (C_shows_ranks : Cal P w K mg base CX0 4 "shows_ranks" ["n", "needs", "ranks"] XL_shows_ranks F_shows_ranks) {f : Addr} (cdv : Value) (A : Around) (outer : List Env) (s : Shared) (H : Hp) (E : XK) (Z : Zx) (hr : Room 5 (A.deeper (envOfC "law" (defScope st_law) s.heap.objs.size f cdv))) : PSs (cxOf CX0 P w K mg base N_law "law" (defScope st_law) f cdv A outer s H E).nox ((defBody st_law).drop 1) (tS Z (m_law F__law_draw F__law_needs F__law_ring F__law_ranks_judged F__law_rings_judged F__law_says F_shows_parts_ring F_shows_ranks)) :=
  have nd := sc_law.nd
  have hu65 := hu65_of hr
  (es_cons (es_for PassesOwn.never rfl (ei_range1 (by rfl) b_range (ed_cons ev_int ed_nil)) (pg_name (i := 2) nd rfl (by first | exact Or.inl rfl | exact Or.inr rfl)) (show GTok [2] _ _ from GTok.name 2 (by decide)) (es_cons (es_set 3 nd (ev_bin op_addD ok_add (er_of ev_int) (er_of (ev_callC C__law_draw hr (by rfl) (ea_cons (ev_var 1) (ea_cons ev_int ea_nil))))))
  (es_cons (es_set 4 nd (ev_callC C__law_needs hr (by rfl) (ea_cons (ev_var 1) (ea_cons (ev_var 3) (ea_cons (ev_callC C__law_draw hr (by rfl) (ea_cons (ev_var 1) (ea_cons ev_int ea_nil))) (ea_cons ev_int ea_nil))))))
  (es_cons (es_set 5 nd (ev_lst (ed_cons ev_int ed_nil)))
  (es_cons (es_if (et_cmp op_gt ok_gtI (er_of (ev_b1 call_len ok_len (by rfl) b_len (by decide +kernel) (er_var 4))) (er_of ev_int) (nomark _)) (es_cons (es_asg (ev_ix ix_seq ok_ix (er_var 4) (er_of (ev_callC C__law_draw hr (by rfl) (ea_cons (ev_var 1) (ea_cons (ev_b1 call_len ok_len (by rfl) b_len (by decide +kernel) (er_var 4)) ea_nil)))) (fun _ _ => rfl)) (pg_tup rfl (pgs_cons (pg_name (i := 6) nd rfl (by first | exact Or.inl rfl | exact Or.inr rfl)) (pgs_cons (pg_name (i := 7) nd rfl (by first | exact Or.inl rfl | exact Or.inr rfl)) (pgs_cons (pg_name (i := 8) nd rfl (by first | exact Or.inl rfl | exact Or.inr rfl)) pgs_nil)))) (show GTok [6, 7, 8] _ _ from GTok.tup (GTsok.cons (GTok.name 6 (by decide)) (GTsok.cons (GTok.name 7 (by decide)) (GTsok.cons (GTok.name 8 (by decide)) (GTsok.nil))))))
  (es_cons (es_set 5 nd (ev_lst (ed_cons (ev_var 6) (ed_cons (ev_var 7) ed_nil))))
  (es_one (es_if (et_cmp (op_eqX hr.units) ok_eq (er_of (ev_callC C__law_draw hr (by rfl) (ea_cons (ev_var 1) (ea_cons ev_int ea_nil)))) (er_of ev_int) (nomark _)) (es_cons (es_set 4 nd (ev_bin op_addD ok_add (er_of (ev_lst (ed_cons (ev_tup (ed_cons (ev_var 7) (ed_cons (ev_var 6) (ed_cons ev_int ed_nil)))) ed_nil))) (er_var 4)))
  (es_one (es_set 5 nd (ev_callC C__law_ring hr (by rfl) (ea_cons (ev_var 3) (ea_cons (ev_var 4) ea_nil)))))) es_nil)))) es_nil)
  (es_one (es_if (PW.pt (ew_or (et_not (et_val (ev_callC C__law_ranks_judged hr (by rfl) (ea_cons (ev_var 1) (ea_cons (ev_var 3) (ea_cons (ev_var 4) ea_nil)))))) (ew_or1 (et_not (et_val (ev_callC C__law_rings_judged hr (by rfl) (ea_cons (ev_var 1) (ea_cons (ev_var 3) (ea_cons (ev_var 4) (ea_cons (ev_var 5) ea_nil)))))))))) (es_one (es_ret ev_bl)) es_nil)))))))
  (es_cons (es_set 4 nd (ev_lst (ed_cons (ev_tup (ed_cons ev_int (ed_cons ev_int (ed_cons ev_int ed_nil)))) (ed_cons (ev_tup (ed_cons ev_int (ed_cons ev_int (ed_cons ev_int ed_nil)))) (ed_cons (ev_tup (ed_cons ev_int (ed_cons ev_int (ed_cons ev_int ed_nil)))) ed_nil)))))
  (es_cons (es_if (et_not (et_val (ev_callC C__law_says hr (by rfl) (ea_cons (ev_callC C_shows_parts_ring hr (by rfl) (ea_cons ev_int (ea_cons (ev_t1 call_list_of ok_list (by rfl) b_list (by decide +kernel) (er_var 4)) (ea_cons (ev_lst (ed_cons ev_int (ed_cons ev_int (ed_cons ev_int (ed_cons ev_int (ed_cons ev_int (ed_cons ev_int ed_nil))))))) ea_nil)))) (ea_cons ev_bl ea_nil))))) (es_one (es_ret ev_bl)) es_nil)
  (es_cons (es_if (et_not (et_val (ev_callC C__law_says hr (by rfl) (ea_cons (ev_callC C_shows_parts_ring hr (by rfl) (ea_cons ev_int (ea_cons (ev_t1 call_list_of ok_list (by rfl) b_list (by decide +kernel) (er_var 4)) (ea_cons (ev_lst (ed_cons ev_int (ed_cons ev_int (ed_cons ev_int ed_nil)))) ea_nil)))) (ea_cons ev_bl ea_nil))))) (es_one (es_ret ev_bl)) es_nil)
  (es_cons (es_if (et_not (et_val (ev_callC C__law_says hr (by rfl) (ea_cons (ev_callC C_shows_parts_ring hr (by rfl) (ea_cons ev_int (ea_cons (ev_t1 call_list_of ok_list (by rfl) b_list (by decide +kernel) (er_var 4)) (ea_cons (ev_lst (ed_cons ev_int (ed_cons ev_bl (ed_cons ev_int ed_nil)))) ea_nil)))) (ea_cons ev_bl ea_nil))))) (es_one (es_ret ev_bl)) es_nil)
  (es_cons (es_if (et_not (et_val (ev_callC C__law_says hr (by rfl) (ea_cons (ev_callC C_shows_ranks hr (by rfl) (ea_cons ev_int (ea_cons (ev_slice (er_var 4) eo_none (eo_some (er_of ev_int))) (ea_cons (ev_lst (ed_cons ev_int (ed_cons ev_bl (ed_cons ev_int ed_nil)))) ea_nil)))) (ea_cons ev_bl ea_nil))))) (es_one (es_ret ev_bl)) es_nil)
  (es_one (es_ret (ev_callC C__law_says hr (by rfl) (ea_cons (ev_callC C_shows_ranks hr (by rfl) (ea_cons ev_int (ea_cons (ev_slice (er_var 4) eo_none (eo_some (er_of ev_int))) (ea_cons (ev_lst (ed_cons ev_int (ed_cons ev_int (ed_cons ev_int ed_nil)))) ea_nil)))) (ea_cons ev_bl ea_nil)))))))))))
theorem d__law_feed {P : Program} {w : World} {K : PySem.W.Frag} {mg : Str → Option Value} {base : Heap} (b_list : mg "list" = none) {f : Addr} (cdv : Value) (A : Around) (outer : List Env) (s : Shared) (H : Hp) (E : XK) : PSs (cxOf CX0 P w K mg base N__law_feed "_law_feed" (defScope st__law_feed) f cdv A outer s H E).nox (defBody st__law_feed)
      (tRet (tLst (tCons (tCB (fun xs H Q => ∃ p ys, xs = [.ref p] ∧ (SqL K H p ys ∨ SqT K H p ys) ∧ ∀ l, H l = none → Q (.ref l) (upd H l (.lst ys))) (tCons (tVar 0) tNil)) (tCons (tC (.int 0)) (tCons (tC (.int 0)) (tCons (tC (.int 1)) tNil)))))) :=
  pss_one (ps_ret (pe_lst (pa_cons (pe_callTy call_list_of (by rfl) b_list (by decide +kernel) (pa_cons (pv 0) pa_nil)) (pa_cons pe_int (pa_cons pe_int (pa_cons pe_int pa_nil))))))
theorem d__law_draw {P : Program} {w : World} {K : PySem.W.Frag} {mg : Str → Option Value} {base : Heap} (b_abs : mg "abs" = none) (b_int : mg "int" = none) (b_len : mg "len" = none) {f : Addr} (cdv : Value) (A : Around) (outer : List Env) (s : Shared) (H : Hp) (E : XK) : PSs (cxOf CX0 P w K mg base ["feed", "many", "cell", "told", "mixed"] "_law_draw" (defScope st__law_draw) f cdv A outer s H E).nox (defBody st__law_draw) (tDraw K) := by
  have nd := sc__law_draw.nd
  exact pss_cons (ps_if (PW.pt (pw_and (pt_cmpR op_eq (pe_ix ix_list (pv 0) pe_int (fun _ _ => rfl)) pe_int (nomark _)) (pw_and1 (pt_cmpR op_lt (pe_ix ix_list (pv 0) pe_int (fun _ _ => rfl)) (pe_callB call_len (by rfl) b_len (by decide +kernel) (pa_cons (pe_ix ix_list (pv 0) pe_int (fun _ _ => rfl)) pa_nil)) (nomark _)))))
    (pss_cons (ps_set (i := 2) nd rfl (.inl rfl) (pe_callB call_abs (by rfl) b_abs (by decide +kernel) (pa_cons (pe_callTy call_int1 (by rfl) b_int (by decide +kernel) (pa_cons (pe_ix ix_list (pe_ix ix_list (pv 0) pe_int (fun _ _ => rfl)) (pe_ix ix_list (pv 0) pe_int (fun _ _ => rfl)) (fun _ _ => rfl)) pa_nil)) pa_nil)))
      (pss_cons (ps_augS (pv 0) pe_int get_list pe_int ip_add set_list)
        (pss_one (ps_if (pt_cmpR op_ge (pv 2) (pe_op op_pow pe_int pe_int) (nomark _))
          (pss_one (ps_asg (pv 2) (pg_sub (pv 0) pe_int set_list)))
          (pss_one (ps_asg (pe_op op_mod (pe_callTy call_int1 (by rfl) b_int (by decide +kernel) (pa_cons (pe_op op_add (pe_op op_add (pe_op op_mul (pe_ix ix_list (pv 0) pe_int (fun _ _ => rfl)) pe_int) (pe_op op_mul (pv 2) pe_int)) (pe_ix ix_list (pv 0) pe_int (fun _ _ => rfl))) pa_nil)) pe_int) (pg_sub (pv 0) pe_int set_list)))))))
    pss_nil)
   (pss_cons (ps_if (pt_cmpR op_gt (pe_ix ix_list (pv 0) pe_int (fun _ _ => rfl)) pe_int (nomark _))
      (pss_cons (ps_set (i := 3) nd rfl (.inl rfl) (pe_op op_mod (pe_callTy call_int1 (by rfl) b_int (by decide +kernel) (pa_cons (pe_ix ix_list (pv 0) pe_int (fun _ _ => rfl)) pa_nil)) (pv 1)))
        (pss_cons (ps_asg (pe_op op_fdiv (pe_ix ix_list (pv 0) pe_int (fun _ _ => rfl)) (pv 1)) (pg_sub (pv 0) pe_int set_list)) (pss_one (ps_ret (pv 3))))) pss_nil)
    (pss_cons (ps_asg (pe_op op_mod (pe_callTy call_int1 (by rfl) b_int (by decide +kernel) (pa_cons (pe_op op_add (pe_op op_mul (pe_ix ix_list (pv 0) pe_int (fun _ _ => rfl)) pe_int) pe_int) pa_nil)) pe_int) (pg_sub (pv 0) pe_int set_list))
      (pss_cons (ps_set (i := 4) nd rfl (.inl rfl) (pe_op op_mod (pe_callTy call_int1 (by rfl) b_int (by decide +kernel) (pa_cons (pe_op op_add (pe_op op_mul (pe_ix ix_list (pv 0) pe_int (fun _ _ => rfl)) (pe_ix ix_list (pv 0) pe_int (fun _ _ => rfl))) (pe_ix ix_list (pv 0) pe_int (fun _ _ => rfl))) pa_nil)) pe_int))
        (pss_one (ps_ret (pe_op op_mod (pe_op op_fdiv (pv 4) pe_int) (pv 1)))))))
abbrev law1 : Stmt := (defBody st_law).getD 0 (.Pass ⟨0, 0, 0, 0⟩)
theorem d1_law {P : Program} {w : World} {K : PySem.W.Frag} {mg : Str → Option Value} {base : Heap} {fF : Addr} {fdF : FuncData} (GF : FnOk P w K mg base CX0 1 fF fdF ["script"] (spFeed K)) (mF : mg "_law_feed" = some (.ref fF)) (kF : PySem.W.keepIn K (.ref fF) = true) (bF : Binds K fdF ["script"] [])
    {f : Addr} (cdv : Value) (A : Around) (outer : List Env) (s : Shared) (H : Hp) (E : XK) (hr : Room 5 (A.deeper (envOfC "law" (defScope st_law) s.heap.objs.size f cdv))) : PS (cxOf CX0 P w K mg base N_law "law" (defScope st_law) f cdv A outer s H E).nox law1 (tAsg (tCall (spFeed K) [] E0 (tCons (tVar 0) tNil)) (gName 1)) :=
  ps_set (i := 1) sc_law.nd rfl (by first | exact Or.inl rfl | exact Or.inr rfl) (pe_call GF (hr.mono (by decide)) (by rfl) mF kF bF .nil pass0 (pa_cons (pv 0) pa_nil))
theorem c_is_whole {P : Program} {w : World} {K : PySem.W.Frag} {mg : Str → Option Value} {base : Heap} (b_isinstance : mg "isinstance" = none) (b_int : mg "int" = none) (b_bool : mg "bool" = none) {XL : XW} {F : Fn} {f : Addr} {fd : FuncData} (Fu : Fun K "is_whole" "is_whole" st_is_whole f fd) (hm : mg "is_whole" = some (.ref f)) (len : ∀ as k kx, F as k kx → as.length = 1) (hs : ∀ as k kx, F as k kx → m_is_whole ⟨cells0 1 as, kx⟩ { nx := fun _ => k (.im .none), rt := fun v _ => noFd k v }) : Cal P w K mg base CX0 1 "is_whole" ["value"] XL F :=
  ⟨f, fd, fn_dv Fu sc_is_whole len (fun cdv A outer s H E Z hr => d_is_whole b_isinstance b_int b_bool cdv A outer s H E Z hr) hs, hm, Fu.kp, Fu.binds (ps := ["value"]) fun _ _ _ _ _ _ us hl => match us, hl with | [_], _ => rfl⟩
theorem c_are_wholes {P : Program} {w : World} {K : PySem.W.Frag} {mg : Str → Option Value} {base : Heap} (b_isinstance : mg "isinstance" = none) (b_list : mg "list" = none) (b_all : mg "all" = none) {XL_is_whole : XW} {F_is_whole : Fn} (C_is_whole : Cal P w K mg base CX0 1 "is_whole" ["value"] XL_is_whole F_is_whole) {XL : XW} {F : Fn} {f : Addr} {fd : FuncData} (Fu : Fun K "are_wholes" "are_wholes" st_are_wholes f fd) (hm : mg "are_wholes" = some (.ref f)) (len : ∀ as k kx, F as k kx → as.length = 1) (hs : ∀ as k kx, F as k kx → (m_are_wholes F_is_whole) ⟨cells0 2 as, kx⟩ { nx := fun _ => k (.im .none), rt := fun v _ => noFd k v }) : Cal P w K mg base CX0 2 "are_wholes" ["value"] XL F :=
  ⟨f, fd, fn_dv Fu sc_are_wholes len (fun cdv A outer s H E Z hr => d_are_wholes b_isinstance b_list b_all C_is_whole cdv A outer s H E Z hr) hs, hm, Fu.kp, Fu.binds (ps := ["value"]) fun _ _ _ _ _ _ us hl => match us, hl with | [_], _ => rfl⟩
theorem c_are_indexes {P : Program} {w : World} {K : PySem.W.Frag} {mg : Str → Option Value} {base : Heap} (b_all : mg "all" = none) {XL_are_wholes : XW} {F_are_wholes : Fn} (C_are_wholes : Cal P w K mg base CX0 2 "are_wholes" ["value"] XL_are_wholes F_are_wholes) {XL : XW} {F : Fn} {f : Addr} {fd : FuncData} (Fu : Fun K "are_indexes" "are_indexes" st_are_indexes f fd) (hm : mg "are_indexes" = some (.ref f)) (len : ∀ as k kx, F as k kx → as.length = 2) (hs : ∀ as k kx, F as k kx → (m_are_indexes F_are_wholes) ⟨cells0 3 as, kx⟩ { nx := fun _ => k (.im .none), rt := fun v _ => noFd k v }) : Cal P w K mg base CX0 3 "are_indexes" ["value", "many"] XL F :=
  ⟨f, fd, fn_dv Fu sc_are_indexes len (fun cdv A outer s H E Z hr => d_are_indexes b_all C_are_wholes cdv A outer s H E Z hr) hs, hm, Fu.kp, Fu.binds (ps := ["value", "many"]) fun _ _ _ _ _ _ us hl => match us, hl with | [_, _], _ => rfl⟩
theorem c_are_amounts {P : Program} {w : World} {K : PySem.W.Frag} {mg : Str → Option Value} {base : Heap} (b_len : mg "len" = none) (b_min : mg "min" = none) {XL_are_wholes : XW} {F_are_wholes : Fn} (C_are_wholes : Cal P w K mg base CX0 2 "are_wholes" ["value"] XL_are_wholes F_are_wholes) {XL : XW} {F : Fn} {f : Addr} {fd : FuncData} (Fu : Fun K "are_amounts" "are_amounts" st_are_amounts f fd) (hm : mg "are_amounts" = some (.ref f)) (len : ∀ as k kx, F as k kx → as.length = 2) (hs : ∀ as k kx, F as k kx → (m_are_amounts F_are_wholes) ⟨cells0 2 as, kx⟩ { nx := fun _ => k (.im .none), rt := fun v _ => noFd k v }) : Cal P w K mg base CX0 3 "are_amounts" ["value", "n"] XL F :=
  ⟨f, fd, fn_dv Fu sc_are_amounts len (fun cdv A outer s H E Z hr => d_are_amounts b_len b_min C_are_wholes cdv A outer s H E Z hr) hs, hm, Fu.kp, Fu.binds (ps := ["value", "n"]) fun _ _ _ _ _ _ us hl => match us, hl with | [_, _], _ => rfl⟩
theorem c_shows_ranks {P : Program} {w : World} {K : PySem.W.Frag} {mg : Str → Option Value} {base : Heap} (b_all : mg "all" = none) {XL_are_amounts : XW} {F_are_amounts : Fn} (C_are_amounts : Cal P w K mg base CX0 3 "are_amounts" ["value", "n"] XL_are_amounts F_are_amounts) {XL : XW} {F : Fn} {f : Addr} {fd : FuncData} (Fu : Fun K "shows_ranks" "shows_ranks" st_shows_ranks f fd) (hm : mg "shows_ranks" = some (.ref f)) (len : ∀ as k kx, F as k kx → as.length = 3) (hs : ∀ as k kx, F as k kx → (m_shows_ranks F_are_amounts) ⟨cells0 6 as, kx⟩ { nx := fun _ => k (.im .none), rt := fun v _ => noFd k v }) : Cal P w K mg base CX0 4 "shows_ranks" ["n", "needs", "ranks"] XL F :=
  ⟨f, fd, fn_dv Fu sc_shows_ranks len (fun cdv A outer s H E Z hr => d_shows_ranks b_all C_are_amounts cdv A outer s H E Z hr) hs, hm, Fu.kp, Fu.binds (ps := ["n", "needs", "ranks"]) fun _ _ _ _ _ _ us hl => match us, hl with | [_, _, _], _ => rfl⟩
theorem c_shows_parts_ring {P : Program} {w : World} {K : PySem.W.Frag} {mg : Str → Option Value} {base : Heap} (b_len : mg "len" = none) (b_all : mg "all" = none) (b_range : mg "range" = none) {XL_are_indexes : XW} {F_are_indexes : Fn} (C_are_indexes : Cal P w K mg base CX0 3 "are_indexes" ["value", "many"] XL_are_indexes F_are_indexes) {XL : XW} {F : Fn} {f : Addr} {fd : FuncData} (Fu : Fun K "shows_parts_ring" "shows_parts_ring" st_shows_parts_ring f fd) (hm : mg "shows_parts_ring" = some (.ref f)) (len : ∀ as k kx, F as k kx → as.length = 3) (hs : ∀ as k kx, F as k kx → (m_shows_parts_ring F_are_indexes) ⟨cells0 8 as, kx⟩ { nx := fun _ => k (.im .none), rt := fun v _ => noFd k v }) : Cal P w K mg base CX0 4 "shows_parts_ring" ["n", "needs", "ring"] XL F :=
  ⟨f, fd, fn_dv Fu sc_shows_parts_ring len (fun cdv A outer s H E Z hr => d_shows_parts_ring b_len b_all b_range C_are_indexes cdv A outer s H E Z hr) hs, hm, Fu.kp, Fu.binds (ps := ["n", "needs", "ring"]) fun _ _ _ _ _ _ us hl => match us, hl with | [_, _, _], _ => rfl⟩
theorem c__law_is_whole {P : Program} {w : World} {K : PySem.W.Frag} {mg : Str → Option Value} {base : Heap} (b_isinstance : mg "isinstance" = none) (b_int : mg "int" = none) (b_bool : mg "bool" = none) {XL : XW} {F : Fn} {f : Addr} {fd : FuncData} (Fu : Fun K "_law_is_whole" "_law_is_whole" st__law_is_whole f fd) (hm : mg "_law_is_whole" = some (.ref f)) (len : ∀ as k kx, F as k kx → as.length = 1) (hs : ∀ as k kx, F as k kx → m__law_is_whole ⟨cells0 1 as, kx⟩ { nx := fun _ => k (.im .none), rt := fun v _ => noFd k v }) : Cal P w K mg base CX0 1 "_law_is_whole" ["x"] XL F :=
  ⟨f, fd, fn_dv Fu sc__law_is_whole len (fun cdv A outer s H E Z hr => d__law_is_whole b_isinstance b_int b_bool cdv A outer s H E Z hr) hs, hm, Fu.kp, Fu.binds (ps := ["x"]) fun _ _ _ _ _ _ us hl => match us, hl with | [_], _ => rfl⟩
theorem c__law_says {P : Program} {w : World} {K : PySem.W.Frag} {mg : Str → Option Value} {base : Heap} (b_isinstance : mg "isinstance" = none) (b_bool : mg "bool" = none) {XL : XW} {F : Fn} {f : Addr} {fd : FuncData} (Fu : Fun K "_law_says" "_law_says" st__law_says f fd) (hm : mg "_law_says" = some (.ref f)) (len : ∀ as k kx, F as k kx → as.length = 2) (hs : ∀ as k kx, F as k kx → m__law_says ⟨cells0 2 as, kx⟩ { nx := fun _ => k (.im .none), rt := fun v _ => noFd k v }) : Cal P w K mg base CX0 1 "_law_says" ["told", "due"] XL F :=
  ⟨f, fd, fn_dv Fu sc__law_says len (fun cdv A outer s H E Z hr => d__law_says b_isinstance b_bool cdv A outer s H E Z hr) hs, hm, Fu.kp, Fu.binds (ps := ["told", "due"]) fun _ _ _ _ _ _ us hl => match us, hl with | [_, _], _ => rfl⟩
theorem c__law_mixed {P : Program} {w : World} {K : PySem.W.Frag} {mg : Str → Option Value} {base : Heap} (b_list : mg "list" = none) (b_range : mg "range" = none) (b_len : mg "len" = none) {XL__law_draw : XW} {F__law_draw : Fn} (C__law_draw : Cal P w K mg base CX0 1 "_law_draw" ["feed", "many"] XL__law_draw F__law_draw) {XL : XW} {F : Fn} {f : Addr} {fd : FuncData} (Fu : Fun K "_law_mixed" "_law_mixed" st__law_mixed f fd) (hm : mg "_law_mixed" = some (.ref f)) (len : ∀ as k kx, F as k kx → as.length = 2) (hs : ∀ as k kx, F as k kx → (m__law_mixed F__law_draw) ⟨cells0 5 as, kx⟩ { nx := fun _ => k (.im .none), rt := fun v _ => noFd k v }) : Cal P w K mg base CX0 2 "_law_mixed" ["feed", "n"] XL F :=
  ⟨f, fd, fn_dv Fu sc__law_mixed len (fun cdv A outer s H E Z hr => d__law_mixed b_list b_range b_len C__law_draw cdv A outer s H E Z hr) hs, hm, Fu.kp, Fu.binds (ps := ["feed", "n"]) fun _ _ _ _ _ _ us hl => match us, hl with | [_, _], _ => rfl⟩
theorem c__law_pairs {P : Program} {w : World} {K : PySem.W.Frag} {mg : Str → Option Value} {base : Heap} (b_range : mg "range" = none) (b_len : mg "len" = none) {XL__law_mixed : XW} {F__law_mixed : Fn} (C__law_mixed : Cal P w K mg base CX0 2 "_law_mixed" ["feed", "n"] XL__law_mixed F__law_mixed) {XL : XW} {F : Fn} {f : Addr} {fd : FuncData} (Fu : Fun K "_law_pairs" "_law_pairs" st__law_pairs f fd) (hm : mg "_law_pairs" = some (.ref f)) (len : ∀ as k kx, F as k kx → as.length = 3) (hs : ∀ as k kx, F as k kx → (m__law_pairs F__law_mixed) ⟨cells0 8 as, kx⟩ { nx := fun _ => k (.im .none), rt := fun v _ => noFd k v }) : Cal P w K mg base CX0 3 "_law_pairs" ["feed", "n", "many"] XL F :=
  ⟨f, fd, fn_dv Fu sc__law_pairs len (fun cdv A outer s H E Z hr => d__law_pairs b_range b_len C__law_mixed cdv A outer s H E Z hr) hs, hm, Fu.kp, Fu.binds (ps := ["feed", "n", "many"]) fun _ _ _ _ _ _ us hl => match us, hl with | [_, _, _], _ => rfl⟩
theorem c__law_needs {P : Program} {w : World} {K : PySem.W.Frag} {mg : Str → Option Value} {base : Heap} {XL__law_pairs : XW} {F__law_pairs : Fn} (C__law_pairs : Cal P w K mg base CX0 3 "_law_pairs" ["feed", "n", "many"] XL__law_pairs F__law_pairs) {XL__law_draw : XW} {F__law_draw : Fn} (C__law_draw : Cal P w K mg base CX0 1 "_law_draw" ["feed", "many"] XL__law_draw F__law_draw) {XL : XW} {F : Fn} {f : Addr} {fd : FuncData} (Fu : Fun K "_law_needs" "_law_needs" st__law_needs f fd) (hm : mg "_law_needs" = some (.ref f)) (len : ∀ as k kx, F as k kx → as.length = 4) (hs : ∀ as k kx, F as k kx → (m__law_needs F__law_pairs F__law_draw) ⟨cells0 6 as, kx⟩ { nx := fun _ => k (.im .none), rt := fun v _ => noFd k v }) : Cal P w K mg base CX0 4 "_law_needs" ["feed", "n", "many", "most"] XL F :=
  ⟨f, fd, fn_dv Fu sc__law_needs len (fun cdv A outer s H E Z hr => d__law_needs C__law_pairs C__law_draw cdv A outer s H E Z hr) hs, hm, Fu.kp, Fu.binds (ps := ["feed", "n", "many", "most"]) fun _ _ _ _ _ _ us hl => match us, hl with | [_, _, _, _], _ => rfl⟩
theorem c__law_ranks {P : Program} {w : World} {K : PySem.W.Frag} {mg : Str → Option Value} {base : Heap} (b_range : mg "range" = none) (b_max : mg "max" = none) {XL : XW} {F : Fn} {f : Addr} {fd : FuncData} (Fu : Fun K "_law_ranks" "_law_ranks" st__law_ranks f fd) (hm : mg "_law_ranks" = some (.ref f)) (len : ∀ as k kx, F as k kx → as.length = 2) (hs : ∀ as k kx, F as k kx → m__law_ranks ⟨cells0 7 as, kx⟩ { nx := fun _ => k (.im .none), rt := fun v _ => noFd k v }) : Cal P w K mg base CX0 1 "_law_ranks" ["n", "needs"] XL F :=
  ⟨f, fd, fn_dv Fu sc__law_ranks len (fun cdv A outer s H E Z hr => d__law_ranks b_range b_max cdv A outer s H E Z hr) hs, hm, Fu.kp, Fu.binds (ps := ["n", "needs"]) fun _ _ _ _ _ _ us hl => match us, hl with | [_, _], _ => rfl⟩
theorem c__law_ring {P : Program} {w : World} {K : PySem.W.Frag} {mg : Str → Option Value} {base : Heap} (b_range : mg "range" = none) (b_len : mg "len" = none) {XL : XW} {F : Fn} {f : Addr} {fd : FuncData} (Fu : Fun K "_law_ring" "_law_ring" st__law_ring f fd) (hm : mg "_law_ring" = some (.ref f)) (len : ∀ as k kx, F as k kx → as.length = 2) (hs : ∀ as k kx, F as k kx → m__law_ring ⟨cells0 11 as, kx⟩ { nx := fun _ => k (.im .none), rt := fun v _ => noFd k v }) : Cal P w K mg base CX0 1 "_law_ring" ["n", "needs"] XL F :=
  ⟨f, fd, fn_dv Fu sc__law_ring len (fun cdv A outer s H E Z hr => d__law_ring b_range b_len cdv A outer s H E Z hr) hs, hm, Fu.kp, Fu.binds (ps := ["n", "needs"]) fun _ _ _ _ _ _ us hl => match us, hl with | [_, _], _ => rfl⟩
theorem c__law_is_ranks {P : Program} {w : World} {K : PySem.W.Frag} {mg : Str → Option Value} {base : Heap} (b_isinstance : mg "isinstance" = none) (b_list : mg "list" = none) (b_len : mg "len" = none) {XL__law_is_whole : XW} {F__law_is_whole : Fn} (C__law_is_whole : Cal P w K mg base CX0 1 "_law_is_whole" ["x"] XL__law_is_whole F__law_is_whole) {XL : XW} {F : Fn} {f : Addr} {fd : FuncData} (Fu : Fun K "_law_is_ranks" "_law_is_ranks" st__law_is_ranks f fd) (hm : mg "_law_is_ranks" = some (.ref f)) (len : ∀ as k kx, F as k kx → as.length = 3) (hs : ∀ as k kx, F as k kx → (m__law_is_ranks F__law_is_whole) ⟨cells0 5 as, kx⟩ { nx := fun _ => k (.im .none), rt := fun v _ => noFd k v }) : Cal P w K mg base CX0 2 "_law_is_ranks" ["n", "needs", "ranks"] XL F :=
  ⟨f, fd, fn_dv Fu sc__law_is_ranks len (fun cdv A outer s H E Z hr => d__law_is_ranks b_isinstance b_list b_len C__law_is_whole cdv A outer s H E Z hr) hs, hm, Fu.kp, Fu.binds (ps := ["n", "needs", "ranks"]) fun _ _ _ _ _ _ us hl => match us, hl with | [_, _, _], _ => rfl⟩
theorem c__law_is_ring {P : Program} {w : World} {K : PySem.W.Frag} {mg : Str → Option Value} {base : Heap} (b_isinstance : mg "isinstance" = none) (b_list : mg "list" = none) (b_len : mg "len" = none) (b_range : mg "range" = none) {XL__law_is_whole : XW} {F__law_is_whole : Fn} (C__law_is_whole : Cal P w K mg base CX0 1 "_law_is_whole" ["x"] XL__law_is_whole F__law_is_whole) {XL : XW} {F : Fn} {f : Addr} {fd : FuncData} (Fu : Fun K "_law_is_ring" "_law_is_ring" st__law_is_ring f fd) (hm : mg "_law_is_ring" = some (.ref f)) (len : ∀ as k kx, F as k kx → as.length = 3) (hs : ∀ as k kx, F as k kx → (m__law_is_ring F__law_is_whole) ⟨cells0 7 as, kx⟩ { nx := fun _ => k (.im .none), rt := fun v _ => noFd k v }) : Cal P w K mg base CX0 2 "_law_is_ring" ["n", "needs", "ring"] XL F :=
  ⟨f, fd, fn_dv Fu sc__law_is_ring len (fun cdv A outer s H E Z hr => d__law_is_ring b_isinstance b_list b_len b_range C__law_is_whole cdv A outer s H E Z hr) hs, hm, Fu.kp, Fu.binds (ps := ["n", "needs", "ring"]) fun _ _ _ _ _ _ us hl => match us, hl with | [_, _, _], _ => rfl⟩
theorem c__law_changed {P : Program} {w : World} {K : PySem.W.Frag} {mg : Str → Option Value} {base : Heap} (b_tuple : mg "tuple" = none) (b_range : mg "range" = none) (b_len : mg "len" = none) {XL__law_draw : XW} {F__law_draw : Fn} (C__law_draw : Cal P w K mg base CX0 1 "_law_draw" ["feed", "many"] XL__law_draw F__law_draw) {XL : XW} {F : Fn} {f : Addr} {fd : FuncData} (Fu : Fun K "_law_changed" "_law_changed" st__law_changed f fd) (hm : mg "_law_changed" = some (.ref f)) (len : ∀ as k kx, F as k kx → as.length = 3) (hs : ∀ as k kx, F as k kx → (m__law_changed F__law_draw) ⟨cells0 8 as, kx⟩ { nx := fun _ => k (.im .none), rt := fun v _ => noFd k v }) : Cal P w K mg base CX0 2 "_law_changed" ["feed", "row", "most"] XL F :=
  ⟨f, fd, fn_dv Fu sc__law_changed len (fun cdv A outer s H E Z hr => d__law_changed b_tuple b_range b_len C__law_draw cdv A outer s H E Z hr) hs, hm, Fu.kp, Fu.binds (ps := ["feed", "row", "most"]) fun _ _ _ _ _ _ us hl => match us, hl with | [_, _, _], _ => rfl⟩
theorem c__law_ranks_judged {P : Program} {w : World} {K : PySem.W.Frag} {mg : Str → Option Value} {base : Heap} (b_list : mg "list" = none) {XL__law_ranks : XW} {F__law_ranks : Fn} (C__law_ranks : Cal P w K mg base CX0 1 "_law_ranks" ["n", "needs"] XL__law_ranks F__law_ranks) {XL__law_draw : XW} {F__law_draw : Fn} (C__law_draw : Cal P w K mg base CX0 1 "_law_draw" ["feed", "many"] XL__law_draw F__law_draw) {XL__law_changed : XW} {F__law_changed : Fn} (C__law_changed : Cal P w K mg base CX0 2 "_law_changed" ["feed", "row", "most"] XL__law_changed F__law_changed) {XL__law_is_ranks : XW} {F__law_is_ranks : Fn} (C__law_is_ranks : Cal P w K mg base CX0 2 "_law_is_ranks" ["n", "needs", "ranks"] XL__law_is_ranks F__law_is_ranks) {XL__law_says : XW} {F__law_says : Fn} (C__law_says : Cal P w K mg base CX0 1 "_law_says" ["told", "due"] XL__law_says F__law_says) {XL_shows_ranks : XW} {F_shows_ranks : Fn} (C_shows_ranks : Cal P w K mg base CX0 4 "shows_ranks" ["n", "needs", "ranks"] XL_shows_ranks F_shows_ranks) {XL : XW} {F : Fn} {f : Addr} {fd : FuncData} (Fu : Fun K "_law_ranks_judged" "_law_ranks_judged" st__law_ranks_judged f fd) (hm : mg "_law_ranks_judged" = some (.ref f)) (len : ∀ as k kx, F as k kx → as.length = 3) (hs : ∀ as k kx, F as k kx → (m__law_ranks_judged F__law_ranks F__law_draw F__law_changed F__law_is_ranks F__law_says F_shows_ranks) ⟨cells0 13 as, kx⟩ { nx := fun _ => k (.im .none), rt := fun v _ => noFd k v }) : Cal P w K mg base CX0 5 "_law_ranks_judged" ["feed", "n", "needs"] XL F :=
  ⟨f, fd, fn_dv Fu sc__law_ranks_judged len (fun cdv A outer s H E Z hr => d__law_ranks_judged b_list C__law_ranks C__law_draw C__law_changed C__law_is_ranks C__law_says C_shows_ranks cdv A outer s H E Z hr) hs, hm, Fu.kp, Fu.binds (ps := ["feed", "n", "needs"]) fun _ _ _ _ _ _ us hl => match us, hl with | [_, _, _], _ => rfl⟩
theorem c__law_rings_judged {P : Program} {w : World} {K : PySem.W.Frag} {mg : Str → Option Value} {base : Heap} (b_sorted : mg "sorted" = none) (b_range : mg "range" = none) (b_len : mg "len" = none) (b_list : mg "list" = none) {XL__law_changed : XW} {F__law_changed : Fn} (C__law_changed : Cal P w K mg base CX0 2 "_law_changed" ["feed", "row", "most"] XL__law_changed F__law_changed) {XL__law_is_ring : XW} {F__law_is_ring : Fn} (C__law_is_ring : Cal P w K mg base CX0 2 "_law_is_ring" ["n", "needs", "ring"] XL__law_is_ring F__law_is_ring) {XL__law_says : XW} {F__law_says : Fn} (C__law_says : Cal P w K mg base CX0 1 "_law_says" ["told", "due"] XL__law_says F__law_says) {XL_shows_parts_ring : XW} {F_shows_parts_ring : Fn} (C_shows_parts_ring : Cal P w K mg base CX0 4 "shows_parts_ring" ["n", "needs", "ring"] XL_shows_parts_ring F_shows_parts_ring) {XL : XW} {F : Fn} {f : Addr} {fd : FuncData} (Fu : Fun K "_law_rings_judged" "_law_rings_judged" st__law_rings_judged f fd) (hm : mg "_law_rings_judged" = some (.ref f)) (len : ∀ as k kx, F as k kx → as.length = 4) (hs : ∀ as k kx, F as k kx → (m__law_rings_judged F__law_changed F__law_is_ring F__law_says F_shows_parts_ring) ⟨cells0 11 as, kx⟩ { nx := fun _ => k (.im .none), rt := fun v _ => noFd k v }) : Cal P w K mg base CX0 5 "_law_rings_judged" ["feed", "n", "needs", "ring"] XL F :=
  ⟨f, fd, fn_dv Fu sc__law_rings_judged len (fun cdv A outer s H E Z hr => d__law_rings_judged b_sorted b_range b_len b_list C__law_changed C__law_is_ring C__law_says C_shows_parts_ring cdv A outer s H E Z hr) hs, hm, Fu.kp, Fu.binds (ps := ["feed", "n", "needs", "ring"]) fun _ _ _ _ _ _ us hl => match us, hl with | [_, _, _, _], _ => rfl⟩
end Lw

namespace Lw
open PySem PySem.Spec L2 Dv
open PyProof.Rows hiding St
abbrev XL0 : XW := fun _ _ _ _ => False
def wholeB : D → Bool
  | .int _ => true
  | _ => false
def wholesB : D → Bool
  | .list ds => ds.all wholeB
  | _ => false
def Pap : D → Prop
  | .list ds => ds.length ≤ 10000
  | _ => True
def F_is_whole : Fn := fun as k _ => ∃ d, as = [.d d] ∧ k (.im (.bool (wholeB d)))
theorem len_is_whole : ∀ as k kx, F_is_whole as k kx → as.length = 1 := by rintro as k kx ⟨d, rfl, _⟩; rfl
theorem w_is_whole : ∀ as k kx, F_is_whole as k kx → m_is_whole ⟨cells0 1 as, kx⟩ { nx := fun _ => k (.im .none), rt := fun v _ => noFd k v } := by
  rintro as k kx ⟨d, rfl, h⟩
  unfold m_is_whole
  simp only [↓e_sSeq, ↓e_sNext, ↓e_sBreak, ↓e_sCont, ↓e_sDrop, ↓e_sRet, ↓e_sRetV, ↓e_sRetN, ↓e_sIfS, ↓e_sAsg, ↓e_sFor, ↓e_sVar, ↓e_sRV, ↓e_sRE, ↓e_sC, ↓e_aNil, ↓e_aCons, ↓e_ar, ↓e_dNil, ↓e_dCons, ↓e_fz, ↓e_sLst, ↓e_sTup, ↓e_s1, ↓e_s2, ↓e_s3, ↓e_s4, ↓e_rs, ↓e_sT, ↓e_sAnd, ↓e_sOr, ↓e_sNot, ↓e_vB, ↓e_sAndV, ↓e_sOrV, ↓e_sNotV, ↓e_sIf, ↓e_sgName, ↓e_cellOf, ↓e_sgNil, ↓e_sgCons, ↓e_sgTup, ↓e_sIt, ↓e_sRng1, ↓e_sRng2, ↓e_sEnum, ↓e_sZip, ↓e_sRev, ↓e_sRevR, ↓e_sRg1, ↓e_sRg2, ↓sI, ↓e_sLstR, ↓e_sCall, ↓e_sMeth, ↓e_sSetIx, ↓e_sAugIx, ↓e_sAug, ↓e_sSl, ↓e_pNo, ↓e_pSome, ↓e_sLc, ↓e_sYes, ↓e_sStep, ↓e_sIxG, ↓e_oAdd, ↓e_oI, ↓e_oI0, ↓e_oSub, ↓e_oMul, ↓e_oFdiv, ↓e_oMod, ↓e_oPow, ↓e_oShl, ↓e_oShr, ↓e_oNeg, ↓e_oEq, ↓e_oNe, ↓e_oLtI, ↓e_oLeI, ↓e_oGtI, ↓e_oGeI, ↓e_oIs, ↓e_oIn, ↓e_oIx, ↓e_oSl, ↓e_oLen, ↓e_oAbs, ↓e_oInt, ↓e_oMax2, ↓e_oMin2, ↓e_oList, ↓e_oTuple, ↓e_oIsi, ↓e_oAddI, ↓e_mAppend, ↓e_mExtend, ↓e_mPop, ↓e_mPopAt, ↓e_mInsert, ↓ng, ↓isNone, ↓e_noFd, ↓e_cells0, ↓arCell, ↓e_sTurn, ↓e_wip0, ↓e_wip1, ↓e_sIndex, List.map_cons, List.map_nil, List.length_cons, List.length_nil, List.cons_append, List.nil_append, List.replicate, Nat.reduceAdd, Nat.reduceSub, Nat.zero_add, List.getElem?_cons_zero, List.getElem?_cons_succ, List.set_cons_zero, List.set_cons_succ, if_true, if_false, ↓reduceIte, Bool.false_eq_true, true_and, and_true, not_true_eq_false, not_false_eq_true, decide_eq_true_eq, Bool.not_true, Bool.not_false, Bool.not_not, Bool.not_eq_true', decide_eq_false_iff_not, List.length_map, atI0, atI1, atI2, Nat.reduceLeDiff, Int.reduceEq, Int.reduceLT, Int.reduceLE, Int.reduceAdd, Int.reduceSub, Int.cast_ofNat_Int, isi_tuple, isi_list, isi_int, isi_bool, isi_str, isi_none, reduceCtorEq, Bool.true_eq_false, Nat.min_self]
  cases d <;> exact h
theorem F_is_whole_ap {d : D} {k kx} : F_is_whole [.d d] k kx = k (.im (.bool (wholeB d))) :=
  propext ⟨fun ⟨d', e, h⟩ => by injection e with e; injection e with e; rw [e]; exact h, fun h => ⟨d, rfl, h⟩⟩
abbrev F__law_is_whole : Fn := F_is_whole
theorem len__law_is_whole : ∀ as k kx, F__law_is_whole as k kx → as.length = 1 := len_is_whole
theorem w__law_is_whole : ∀ as k kx, F__law_is_whole as k kx → m__law_is_whole ⟨cells0 1 as, kx⟩ { nx := fun _ => k (.im .none), rt := fun v _ => noFd k v } := by
  rintro as k kx ⟨d, rfl, h⟩
  unfold m__law_is_whole
  simp only [↓e_sSeq, ↓e_sNext, ↓e_sBreak, ↓e_sCont, ↓e_sDrop, ↓e_sRet, ↓e_sRetV, ↓e_sRetN, ↓e_sIfS, ↓e_sAsg, ↓e_sFor, ↓e_sVar, ↓e_sRV, ↓e_sRE, ↓e_sC, ↓e_aNil, ↓e_aCons, ↓e_ar, ↓e_dNil, ↓e_dCons, ↓e_fz, ↓e_sLst, ↓e_sTup, ↓e_s1, ↓e_s2, ↓e_s3, ↓e_s4, ↓e_rs, ↓e_sT, ↓e_sAnd, ↓e_sOr, ↓e_sNot, ↓e_vB, ↓e_sAndV, ↓e_sOrV, ↓e_sNotV, ↓e_sIf, ↓e_sgName, ↓e_cellOf, ↓e_sgNil, ↓e_sgCons, ↓e_sgTup, ↓e_sIt, ↓e_sRng1, ↓e_sRng2, ↓e_sEnum, ↓e_sZip, ↓e_sRev, ↓e_sRevR, ↓e_sRg1, ↓e_sRg2, ↓sI, ↓e_sLstR, ↓e_sCall, ↓e_sMeth, ↓e_sSetIx, ↓e_sAugIx, ↓e_sAug, ↓e_sSl, ↓e_pNo, ↓e_pSome, ↓e_sLc, ↓e_sYes, ↓e_sStep, ↓e_sIxG, ↓e_oAdd, ↓e_oI, ↓e_oI0, ↓e_oSub, ↓e_oMul, ↓e_oFdiv, ↓e_oMod, ↓e_oPow, ↓e_oShl, ↓e_oShr, ↓e_oNeg, ↓e_oEq, ↓e_oNe, ↓e_oLtI, ↓e_oLeI, ↓e_oGtI, ↓e_oGeI, ↓e_oIs, ↓e_oIn, ↓e_oIx, ↓e_oSl, ↓e_oLen, ↓e_oAbs, ↓e_oInt, ↓e_oMax2, ↓e_oMin2, ↓e_oList, ↓e_oTuple, ↓e_oIsi, ↓e_oAddI, ↓e_mAppend, ↓e_mExtend, ↓e_mPop, ↓e_mPopAt, ↓e_mInsert, ↓ng, ↓isNone, ↓e_noFd, ↓e_cells0, ↓arCell, ↓e_sTurn, ↓e_wip0, ↓e_wip1, ↓e_sIndex, List.map_cons, List.map_nil, List.length_cons, List.length_nil, List.cons_append, List.nil_append, List.replicate, Nat.reduceAdd, Nat.reduceSub, Nat.zero_add, List.getElem?_cons_zero, List.getElem?_cons_succ, List.set_cons_zero, List.set_cons_succ, if_true, if_false, ↓reduceIte, Bool.false_eq_true, true_and, and_true, not_true_eq_false, not_false_eq_true, decide_eq_true_eq, Bool.not_true, Bool.not_false, Bool.not_not, Bool.not_eq_true', decide_eq_false_iff_not, List.length_map, atI0, atI1, atI2, Nat.reduceLeDiff, Int.reduceEq, Int.reduceLT, Int.reduceLE, Int.reduceAdd, Int.reduceSub, Int.cast_ofNat_Int, isi_tuple, isi_list, isi_int, isi_bool, isi_str, isi_none, reduceCtorEq, Bool.true_eq_false, Nat.min_self]
  cases d <;> exact h
def F_are_wholes : Fn := fun as k _ => ∃ d, as = [.d d] ∧ Pap d ∧ k (.im (.bool (wholesB d)))
theorem len_are_wholes : ∀ as k kx, F_are_wholes as k kx → as.length = 1 := by rintro as k kx ⟨d, rfl, _⟩; rfl
theorem w_are_wholes : ∀ as k kx, F_are_wholes as k kx → m_are_wholes F_is_whole ⟨cells0 2 as, kx⟩ { nx := fun _ => k (.im .none), rt := fun v _ => noFd k v } := by
  rintro as k kx ⟨d, rfl, hp, h⟩
  unfold m_are_wholes
  have l1 : isiT "list" "list" = true := by decide
  have l2 : isiT "tuple" "list" = false := by decide
  have l3 : isiT "NoneType" "list" = false := by decide
  have l4 : isiT "int" "list" = false := by decide
  have l5 : isiT "bool" "list" = false := by decide
  have l6 : isiT "str" "list" = false := by decide
  have l7 : isiT "dict" "list" = false := by decide
  cases d <;> first | (simp only [↓e_sSeq, ↓e_sNext, ↓e_sBreak, ↓e_sCont, ↓e_sDrop, ↓e_sRet, ↓e_sRetV, ↓e_sRetN, ↓e_sIfS, ↓e_sAsg, ↓e_sFor, ↓e_sVar, ↓e_sRV, ↓e_sRE, ↓e_sC, ↓e_aNil, ↓e_aCons, ↓e_ar, ↓e_dNil, ↓e_dCons, ↓e_fz, ↓e_sLst, ↓e_sTup, ↓e_s1, ↓e_s2, ↓e_s3, ↓e_s4, ↓e_rs, ↓e_sT, ↓e_sAnd, ↓e_sOr, ↓e_sNot, ↓e_vB, ↓e_sAndV, ↓e_sOrV, ↓e_sNotV, ↓e_sIf, ↓e_sgName, ↓e_cellOf, ↓e_sgNil, ↓e_sgCons, ↓e_sgTup, ↓e_sIt, ↓e_sRng1, ↓e_sRng2, ↓e_sEnum, ↓e_sZip, ↓e_sRev, ↓e_sRevR, ↓e_sRg1, ↓e_sRg2, ↓sI, ↓e_sLstR, ↓e_sCall, ↓e_sMeth, ↓e_sSetIx, ↓e_sAugIx, ↓e_sAug, ↓e_sSl, ↓e_pNo, ↓e_pSome, ↓e_sLc, ↓e_sYes, ↓e_sStep, ↓e_sIxG, ↓e_oAdd, ↓e_oI, ↓e_oI0, ↓e_oSub, ↓e_oMul, ↓e_oFdiv, ↓e_oMod, ↓e_oPow, ↓e_oShl, ↓e_oShr, ↓e_oNeg, ↓e_oEq, ↓e_oNe, ↓e_oLtI, ↓e_oLeI, ↓e_oGtI, ↓e_oGeI, ↓e_oIs, ↓e_oIn, ↓e_oIx, ↓e_oSl, ↓e_oLen, ↓e_oAbs, ↓e_oInt, ↓e_oMax2, ↓e_oMin2, ↓e_oList, ↓e_oTuple, ↓e_oIsi, ↓e_oAddI, ↓e_mAppend, ↓e_mExtend, ↓e_mPop, ↓e_mPopAt, ↓e_mInsert, ↓ng, ↓isNone, ↓e_noFd, ↓e_cells0, ↓arCell, ↓e_sTurn, ↓e_wip0, ↓e_wip1, ↓e_sIndex, List.map_cons, List.map_nil, List.length_cons, List.length_nil, List.cons_append, List.nil_append, List.replicate, Nat.reduceAdd, Nat.reduceSub, Nat.zero_add, List.getElem?_cons_zero, List.getElem?_cons_succ, List.set_cons_zero, List.set_cons_succ, if_true, if_false, ↓reduceIte, Bool.false_eq_true, true_and, and_true, not_true_eq_false, not_false_eq_true, decide_eq_true_eq, Bool.not_true, Bool.not_false, Bool.not_not, Bool.not_eq_true', decide_eq_false_iff_not, List.length_map, atI0, atI1, atI2, Nat.reduceLeDiff, Int.reduceEq, Int.reduceLT, Int.reduceLE, Int.reduceAdd, Int.reduceSub, Int.cast_ofNat_Int, isi_tuple, isi_list, isi_int, isi_bool, isi_str, isi_none, reduceCtorEq, Bool.true_eq_false, Nat.min_self, l2, l3, l4, l5, l6]; exact h) | skip
  case list ds =>
    simp only [↓e_sSeq, ↓e_sNext, ↓e_sBreak, ↓e_sCont, ↓e_sDrop, ↓e_sRet, ↓e_sRetV, ↓e_sRetN, ↓e_sIfS, ↓e_sAsg, ↓e_sFor, ↓e_sVar, ↓e_sRV, ↓e_sRE, ↓e_sC, ↓e_aNil, ↓e_aCons, ↓e_ar, ↓e_dNil, ↓e_dCons, ↓e_fz, ↓e_sLst, ↓e_sTup, ↓e_s1, ↓e_s2, ↓e_s3, ↓e_s4, ↓e_rs, ↓e_sT, ↓e_sAnd, ↓e_sOr, ↓e_sNot, ↓e_vB, ↓e_sAndV, ↓e_sOrV, ↓e_sNotV, ↓e_sIf, ↓e_sgName, ↓e_cellOf, ↓e_sgNil, ↓e_sgCons, ↓e_sgTup, ↓e_sIt, ↓e_sRng1, ↓e_sRng2, ↓e_sEnum, ↓e_sZip, ↓e_sRev, ↓e_sRevR, ↓e_sRg1, ↓e_sRg2, ↓sI, ↓e_sLstR, ↓e_sCall, ↓e_sMeth, ↓e_sSetIx, ↓e_sAugIx, ↓e_sAug, ↓e_sSl, ↓e_pNo, ↓e_pSome, ↓e_sLc, ↓e_sYes, ↓e_sStep, ↓e_sIxG, ↓e_oAdd, ↓e_oI, ↓e_oI0, ↓e_oSub, ↓e_oMul, ↓e_oFdiv, ↓e_oMod, ↓e_oPow, ↓e_oShl, ↓e_oShr, ↓e_oNeg, ↓e_oEq, ↓e_oNe, ↓e_oLtI, ↓e_oLeI, ↓e_oGtI, ↓e_oGeI, ↓e_oIs, ↓e_oIn, ↓e_oIx, ↓e_oSl, ↓e_oLen, ↓e_oAbs, ↓e_oInt, ↓e_oMax2, ↓e_oMin2, ↓e_oList, ↓e_oTuple, ↓e_oIsi, ↓e_oAddI, ↓e_mAppend, ↓e_mExtend, ↓e_mPop, ↓e_mPopAt, ↓e_mInsert, ↓ng, ↓isNone, ↓e_noFd, ↓e_cells0, ↓arCell, ↓e_sTurn, ↓e_wip0, ↓e_wip1, ↓e_sIndex, List.map_cons, List.map_nil, List.length_cons, List.length_nil, List.cons_append, List.nil_append, List.replicate, Nat.reduceAdd, Nat.reduceSub, Nat.zero_add, List.getElem?_cons_zero, List.getElem?_cons_succ, List.set_cons_zero, List.set_cons_succ, if_true, if_false, ↓reduceIte, Bool.false_eq_true, true_and, and_true, not_true_eq_false, not_false_eq_true, decide_eq_true_eq, Bool.not_true, Bool.not_false, Bool.not_not, Bool.not_eq_true', decide_eq_false_iff_not, List.length_map, atI0, atI1, atI2, Nat.reduceLeDiff, Int.reduceEq, Int.reduceLT, Int.reduceLE, Int.reduceAdd, Int.reduceSub, Int.cast_ofNat_Int, isi_tuple, isi_list, isi_int, isi_bool, isi_str, isi_none, reduceCtorEq, Bool.true_eq_false, Nat.min_self, l1]
    refine ⟨by unfold Pap at hp; omega, ?_⟩
    refine wComp_map (fun d => .bool (wholeB d)) (fun d hd K hK => ?_) ?_
    · simp only [↓e_sSeq, ↓e_sNext, ↓e_sBreak, ↓e_sCont, ↓e_sDrop, ↓e_sRet, ↓e_sRetV, ↓e_sRetN, ↓e_sIfS, ↓e_sAsg, ↓e_sFor, ↓e_sVar, ↓e_sRV, ↓e_sRE, ↓e_sC, ↓e_aNil, ↓e_aCons, ↓e_ar, ↓e_dNil, ↓e_dCons, ↓e_fz, ↓e_sLst, ↓e_sTup, ↓e_s1, ↓e_s2, ↓e_s3, ↓e_s4, ↓e_rs, ↓e_sT, ↓e_sAnd, ↓e_sOr, ↓e_sNot, ↓e_vB, ↓e_sAndV, ↓e_sOrV, ↓e_sNotV, ↓e_sIf, ↓e_sgName, ↓e_cellOf, ↓e_sgNil, ↓e_sgCons, ↓e_sgTup, ↓e_sIt, ↓e_sRng1, ↓e_sRng2, ↓e_sEnum, ↓e_sZip, ↓e_sRev, ↓e_sRevR, ↓e_sRg1, ↓e_sRg2, ↓sI, ↓e_sLstR, ↓e_sCall, ↓e_sMeth, ↓e_sSetIx, ↓e_sAugIx, ↓e_sAug, ↓e_sSl, ↓e_pNo, ↓e_pSome, ↓e_sLc, ↓e_sYes, ↓e_sStep, ↓e_sIxG, ↓e_oAdd, ↓e_oI, ↓e_oI0, ↓e_oSub, ↓e_oMul, ↓e_oFdiv, ↓e_oMod, ↓e_oPow, ↓e_oShl, ↓e_oShr, ↓e_oNeg, ↓e_oEq, ↓e_oNe, ↓e_oLtI, ↓e_oLeI, ↓e_oGtI, ↓e_oGeI, ↓e_oIs, ↓e_oIn, ↓e_oIx, ↓e_oSl, ↓e_oLen, ↓e_oAbs, ↓e_oInt, ↓e_oMax2, ↓e_oMin2, ↓e_oList, ↓e_oTuple, ↓e_oIsi, ↓e_oAddI, ↓e_mAppend, ↓e_mExtend, ↓e_mPop, ↓e_mPopAt, ↓e_mInsert, ↓ng, ↓isNone, ↓e_noFd, ↓e_cells0, ↓arCell, ↓e_sTurn, ↓e_wip0, ↓e_wip1, ↓e_sIndex, List.map_cons, List.map_nil, List.length_cons, List.length_nil, List.cons_append, List.nil_append, List.replicate, Nat.reduceAdd, Nat.reduceSub, Nat.zero_add, List.getElem?_cons_zero, List.getElem?_cons_succ, List.set_cons_zero, List.set_cons_succ, if_true, if_false, ↓reduceIte, Bool.false_eq_true, true_and, and_true, not_true_eq_false, not_false_eq_true, decide_eq_true_eq, Bool.not_true, Bool.not_false, Bool.not_not, Bool.not_eq_true', decide_eq_false_iff_not, List.length_map, atI0, atI1, atI2, Nat.reduceLeDiff, Int.reduceEq, Int.reduceLT, Int.reduceLE, Int.reduceAdd, Int.reduceSub, Int.cast_ofNat_Int, isi_tuple, isi_list, isi_int, isi_bool, isi_str, isi_none, reduceCtorEq, Bool.true_eq_false, Nat.min_self, F_is_whole_ap]
      exact hK _ _ rfl
    · refine ⟨ds.map wholeB, by rw [List.map_map]; rfl, ?_⟩
      have e : (ds.map wholeB).all id = ds.all wholeB := by rw [List.all_map]; rfl
      simp only [↓e_sSeq, ↓e_sNext, ↓e_sBreak, ↓e_sCont, ↓e_sDrop, ↓e_sRet, ↓e_sRetV, ↓e_sRetN, ↓e_sIfS, ↓e_sAsg, ↓e_sFor, ↓e_sVar, ↓e_sRV, ↓e_sRE, ↓e_sC, ↓e_aNil, ↓e_aCons, ↓e_ar, ↓e_dNil, ↓e_dCons, ↓e_fz, ↓e_sLst, ↓e_sTup, ↓e_s1, ↓e_s2, ↓e_s3, ↓e_s4, ↓e_rs, ↓e_sT, ↓e_sAnd, ↓e_sOr, ↓e_sNot, ↓e_vB, ↓e_sAndV, ↓e_sOrV, ↓e_sNotV, ↓e_sIf, ↓e_sgName, ↓e_cellOf, ↓e_sgNil, ↓e_sgCons, ↓e_sgTup, ↓e_sIt, ↓e_sRng1, ↓e_sRng2, ↓e_sEnum, ↓e_sZip, ↓e_sRev, ↓e_sRevR, ↓e_sRg1, ↓e_sRg2, ↓sI, ↓e_sLstR, ↓e_sCall, ↓e_sMeth, ↓e_sSetIx, ↓e_sAugIx, ↓e_sAug, ↓e_sSl, ↓e_pNo, ↓e_pSome, ↓e_sLc, ↓e_sYes, ↓e_sStep, ↓e_sIxG, ↓e_oAdd, ↓e_oI, ↓e_oI0, ↓e_oSub, ↓e_oMul, ↓e_oFdiv, ↓e_oMod, ↓e_oPow, ↓e_oShl, ↓e_oShr, ↓e_oNeg, ↓e_oEq, ↓e_oNe, ↓e_oLtI, ↓e_oLeI, ↓e_oGtI, ↓e_oGeI, ↓e_oIs, ↓e_oIn, ↓e_oIx, ↓e_oSl, ↓e_oLen, ↓e_oAbs, ↓e_oInt, ↓e_oMax2, ↓e_oMin2, ↓e_oList, ↓e_oTuple, ↓e_oIsi, ↓e_oAddI, ↓e_mAppend, ↓e_mExtend, ↓e_mPop, ↓e_mPopAt, ↓e_mInsert, ↓ng, ↓isNone, ↓e_noFd, ↓e_cells0, ↓arCell, ↓e_sTurn, ↓e_wip0, ↓e_wip1, ↓e_sIndex, List.map_cons, List.map_nil, List.length_cons, List.length_nil, List.cons_append, List.nil_append, List.replicate, Nat.reduceAdd, Nat.reduceSub, Nat.zero_add, List.getElem?_cons_zero, List.getElem?_cons_succ, List.set_cons_zero, List.set_cons_succ, if_true, if_false, ↓reduceIte, Bool.false_eq_true, true_and, and_true, not_true_eq_false, not_false_eq_true, decide_eq_true_eq, Bool.not_true, Bool.not_false, Bool.not_not, Bool.not_eq_true', decide_eq_false_iff_not, List.length_map, atI0, atI1, atI2, Nat.reduceLeDiff, Int.reduceEq, Int.reduceLT, Int.reduceLE, Int.reduceAdd, Int.reduceSub, Int.cast_ofNat_Int, isi_tuple, isi_list, isi_int, isi_bool, isi_str, isi_none, reduceCtorEq, Bool.true_eq_false, Nat.min_self]
      rw [e]; exact h
theorem F_are_wholes_ap {d : D} (hp : Pap d) {k kx} : F_are_wholes [.d d] k kx = k (.im (.bool (wholesB d))) :=
  propext ⟨fun ⟨d', e, _, h⟩ => by injection e with e; injection e with e; rw [e]; exact h, fun h => ⟨d, rfl, hp, h⟩⟩
def toI : D → Int
  | .int i => i
  | _ => 0
theorem whole_toI {d : D} (h : wholeB d = true) : d = .int (toI d) := by
  cases d <;> first | rfl | exact Bool.noConfusion h
theorem wholes_dI : ∀ {ds : List D}, ds.all wholeB = true → ds = (ds.map toI).map .int
  | [], _ => rfl
  | d :: ds, h => by
    rw [List.all_cons, Bool.and_eq_true] at h
    rw [List.map_cons, List.map_cons, ← wholes_dI h.2, ← whole_toI h.1]
abbrev NT := List (Int × Int × Int)
def dN (p : Int × Int × Int) : D := .tuple [.int p.1, .int p.2.1, .int p.2.2]
def OkN (n : Int) (t : NT) : Prop := (∀ p ∈ t, (0 ≤ p.1 ∧ p.1 < n) ∧ (0 ≤ p.2.1 ∧ p.2.1 < n)) ∧ t.length ≤ 1000
def rk (ns : List Int) (i : Int) : Int := ns.getD i.toNat 0
theorem rk_at {ns : List Int} {i : Int} (h0 : 0 ≤ i) (h1 : i < ns.length) : L2.atI (ns.map (fun i => PyData.int i)) i = some (.int (rk ns i)) := by
  rw [atI_nn _ _ h0, List.getElem?_map, List.getElem?_eq_getElem (by omega)]
  unfold rk
  rw [List.getD_eq_getElem?_getD, List.getElem?_eq_getElem (by omega)]; rfl
/-- are_indexes -/
def idxB (n : Int) : D → Bool
  | .list ds => ds.all wholeB && ds.all fun d => decide (0 ≤ toI d ∧ toI d < n)
  | _ => false
theorem idxB_list (n : Int) (ds : List D) : idxB n (.list ds) = (ds.all wholeB && ds.all fun d => decide (0 ≤ toI d ∧ toI d < n)) := rfl
def F_are_indexes : Fn := fun as k _ => ∃ d n, as = [.d d, .d (.int n)] ∧ Pap d ∧ k (.im (.bool (idxB n d)))
theorem len_are_indexes : ∀ as k kx, F_are_indexes as k kx → as.length = 2 := by rintro as k kx ⟨d, n, rfl, _⟩; rfl
theorem w_are_indexes : ∀ as k kx, F_are_indexes as k kx → m_are_indexes F_are_wholes ⟨cells0 3 as, kx⟩ { nx := fun _ => k (.im .none), rt := fun v _ => noFd k v } := by
  rintro as k kx ⟨d, n, rfl, hp, h⟩
  unfold m_are_indexes
  by_cases hw : wholesB d = true
  · cases d <;> first | (exact Bool.noConfusion hw) | skip
    case list ds =>
      have hw2 : ds.all wholeB = true := hw
      simp only [↓e_sSeq, ↓e_sNext, ↓e_sBreak, ↓e_sCont, ↓e_sDrop, ↓e_sRet, ↓e_sRetV, ↓e_sRetN, ↓e_sIfS, ↓e_sAsg, ↓e_sFor, ↓e_sVar, ↓e_sRV, ↓e_sRE, ↓e_sC, ↓e_aNil, ↓e_aCons, ↓e_ar, ↓e_dNil, ↓e_dCons, ↓e_fz, ↓e_sLst, ↓e_sTup, ↓e_s1, ↓e_s2, ↓e_s3, ↓e_s4, ↓e_rs, ↓e_sT, ↓e_sAnd, ↓e_sOr, ↓e_sNot, ↓e_vB, ↓e_sAndV, ↓e_sOrV, ↓e_sNotV, ↓e_sIf, ↓e_sgName, ↓e_cellOf, ↓e_sgNil, ↓e_sgCons, ↓e_sgTup, ↓e_sIt, ↓e_sRng1, ↓e_sRng2, ↓e_sEnum, ↓e_sZip, ↓e_sRev, ↓e_sRevR, ↓e_sRg1, ↓e_sRg2, ↓sI, ↓e_sLstR, ↓e_sCall, ↓e_sMeth, ↓e_sSetIx, ↓e_sAugIx, ↓e_sAug, ↓e_sSl, ↓e_pNo, ↓e_pSome, ↓e_sLc, ↓e_sYes, ↓e_sStep, ↓e_sIxG, ↓e_oAdd, ↓e_oI, ↓e_oI0, ↓e_oSub, ↓e_oMul, ↓e_oFdiv, ↓e_oMod, ↓e_oPow, ↓e_oShl, ↓e_oShr, ↓e_oNeg, ↓e_oEq, ↓e_oNe, ↓e_oLtI, ↓e_oLeI, ↓e_oGtI, ↓e_oGeI, ↓e_oIs, ↓e_oIn, ↓e_oIx, ↓e_oSl, ↓e_oLen, ↓e_oAbs, ↓e_oInt, ↓e_oMax2, ↓e_oMin2, ↓e_oList, ↓e_oTuple, ↓e_oIsi, ↓e_oAddI, ↓e_mAppend, ↓e_mExtend, ↓e_mPop, ↓e_mPopAt, ↓e_mInsert, ↓ng, ↓isNone, ↓e_noFd, ↓e_cells0, ↓arCell, ↓e_sTurn, ↓e_wip0, ↓e_wip1, ↓e_sIndex, List.map_cons, List.map_nil, List.length_cons, List.length_nil, List.cons_append, List.nil_append, List.replicate, Nat.reduceAdd, Nat.reduceSub, Nat.zero_add, List.getElem?_cons_zero, List.getElem?_cons_succ, List.set_cons_zero, List.set_cons_succ, if_true, if_false, ↓reduceIte, Bool.false_eq_true, true_and, and_true, not_true_eq_false, not_false_eq_true, decide_eq_true_eq, Bool.not_true, Bool.not_false, Bool.not_not, Bool.not_eq_true', decide_eq_false_iff_not, List.length_map, atI0, atI1, atI2, Nat.reduceLeDiff, Int.reduceEq, Int.reduceLT, Int.reduceLE, Int.reduceAdd, Int.reduceSub, Int.cast_ofNat_Int, isi_tuple, isi_list, isi_int, isi_bool, isi_str, isi_none, reduceCtorEq, Bool.true_eq_false, Nat.min_self, F_are_wholes_ap hp, hw]
      have e := wholes_dI hw2
      refine ⟨by unfold Pap at hp; omega, ?_⟩
      refine wComp_map (fun d => .bool (decide (0 ≤ toI d ∧ toI d < n))) (fun d hd K hK => ?_) ?_
      · obtain ⟨i, rfl⟩ : ∃ i, d = .int i := ⟨_, whole_toI (List.all_eq_true.mp hw2 d hd)⟩
        have hK2 : ∀ b : Bool, b = decide (0 ≤ i ∧ i < n) → K (some (.bool b)) ⟨[.im (.list ds), .im (.int n), .im (.int i)], kx⟩ := fun b e => by rw [e]; exact hK _ _ rfl
        by_cases g1 : 0 ≤ i
        · simp only [↓e_sSeq, ↓e_sNext, ↓e_sBreak, ↓e_sCont, ↓e_sDrop, ↓e_sRet, ↓e_sRetV, ↓e_sRetN, ↓e_sIfS, ↓e_sAsg, ↓e_sFor, ↓e_sVar, ↓e_sRV, ↓e_sRE, ↓e_sC, ↓e_aNil, ↓e_aCons, ↓e_ar, ↓e_dNil, ↓e_dCons, ↓e_fz, ↓e_sLst, ↓e_sTup, ↓e_s1, ↓e_s2, ↓e_s3, ↓e_s4, ↓e_rs, ↓e_sT, ↓e_sAnd, ↓e_sOr, ↓e_sNot, ↓e_vB, ↓e_sAndV, ↓e_sOrV, ↓e_sNotV, ↓e_sIf, ↓e_sgName, ↓e_cellOf, ↓e_sgNil, ↓e_sgCons, ↓e_sgTup, ↓e_sIt, ↓e_sRng1, ↓e_sRng2, ↓e_sEnum, ↓e_sZip, ↓e_sRev, ↓e_sRevR, ↓e_sRg1, ↓e_sRg2, ↓sI, ↓e_sLstR, ↓e_sCall, ↓e_sMeth, ↓e_sSetIx, ↓e_sAugIx, ↓e_sAug, ↓e_sSl, ↓e_pNo, ↓e_pSome, ↓e_sLc, ↓e_sYes, ↓e_sStep, ↓e_sIxG, ↓e_oAdd, ↓e_oI, ↓e_oI0, ↓e_oSub, ↓e_oMul, ↓e_oFdiv, ↓e_oMod, ↓e_oPow, ↓e_oShl, ↓e_oShr, ↓e_oNeg, ↓e_oEq, ↓e_oNe, ↓e_oLtI, ↓e_oLeI, ↓e_oGtI, ↓e_oGeI, ↓e_oIs, ↓e_oIn, ↓e_oIx, ↓e_oSl, ↓e_oLen, ↓e_oAbs, ↓e_oInt, ↓e_oMax2, ↓e_oMin2, ↓e_oList, ↓e_oTuple, ↓e_oIsi, ↓e_oAddI, ↓e_mAppend, ↓e_mExtend, ↓e_mPop, ↓e_mPopAt, ↓e_mInsert, ↓ng, ↓isNone, ↓e_noFd, ↓e_cells0, ↓arCell, ↓e_sTurn, ↓e_wip0, ↓e_wip1, ↓e_sIndex, List.map_cons, List.map_nil, List.length_cons, List.length_nil, List.cons_append, List.nil_append, List.replicate, Nat.reduceAdd, Nat.reduceSub, Nat.zero_add, List.getElem?_cons_zero, List.getElem?_cons_succ, List.set_cons_zero, List.set_cons_succ, if_true, if_false, ↓reduceIte, Bool.false_eq_true, true_and, and_true, not_true_eq_false, not_false_eq_true, decide_eq_true_eq, Bool.not_true, Bool.not_false, Bool.not_not, Bool.not_eq_true', decide_eq_false_iff_not, List.length_map, atI0, atI1, atI2, Nat.reduceLeDiff, Int.reduceEq, Int.reduceLT, Int.reduceLE, Int.reduceAdd, Int.reduceSub, Int.cast_ofNat_Int, isi_tuple, isi_list, isi_int, isi_bool, isi_str, isi_none, reduceCtorEq, Bool.true_eq_false, Nat.min_self, g1, decide_true]
          exact hK2 _ (by simp [g1])
        · simp only [↓e_sSeq, ↓e_sNext, ↓e_sBreak, ↓e_sCont, ↓e_sDrop, ↓e_sRet, ↓e_sRetV, ↓e_sRetN, ↓e_sIfS, ↓e_sAsg, ↓e_sFor, ↓e_sVar, ↓e_sRV, ↓e_sRE, ↓e_sC, ↓e_aNil, ↓e_aCons, ↓e_ar, ↓e_dNil, ↓e_dCons, ↓e_fz, ↓e_sLst, ↓e_sTup, ↓e_s1, ↓e_s2, ↓e_s3, ↓e_s4, ↓e_rs, ↓e_sT, ↓e_sAnd, ↓e_sOr, ↓e_sNot, ↓e_vB, ↓e_sAndV, ↓e_sOrV, ↓e_sNotV, ↓e_sIf, ↓e_sgName, ↓e_cellOf, ↓e_sgNil, ↓e_sgCons, ↓e_sgTup, ↓e_sIt, ↓e_sRng1, ↓e_sRng2, ↓e_sEnum, ↓e_sZip, ↓e_sRev, ↓e_sRevR, ↓e_sRg1, ↓e_sRg2, ↓sI, ↓e_sLstR, ↓e_sCall, ↓e_sMeth, ↓e_sSetIx, ↓e_sAugIx, ↓e_sAug, ↓e_sSl, ↓e_pNo, ↓e_pSome, ↓e_sLc, ↓e_sYes, ↓e_sStep, ↓e_sIxG, ↓e_oAdd, ↓e_oI, ↓e_oI0, ↓e_oSub, ↓e_oMul, ↓e_oFdiv, ↓e_oMod, ↓e_oPow, ↓e_oShl, ↓e_oShr, ↓e_oNeg, ↓e_oEq, ↓e_oNe, ↓e_oLtI, ↓e_oLeI, ↓e_oGtI, ↓e_oGeI, ↓e_oIs, ↓e_oIn, ↓e_oIx, ↓e_oSl, ↓e_oLen, ↓e_oAbs, ↓e_oInt, ↓e_oMax2, ↓e_oMin2, ↓e_oList, ↓e_oTuple, ↓e_oIsi, ↓e_oAddI, ↓e_mAppend, ↓e_mExtend, ↓e_mPop, ↓e_mPopAt, ↓e_mInsert, ↓ng, ↓isNone, ↓e_noFd, ↓e_cells0, ↓arCell, ↓e_sTurn, ↓e_wip0, ↓e_wip1, ↓e_sIndex, List.map_cons, List.map_nil, List.length_cons, List.length_nil, List.cons_append, List.nil_append, List.replicate, Nat.reduceAdd, Nat.reduceSub, Nat.zero_add, List.getElem?_cons_zero, List.getElem?_cons_succ, List.set_cons_zero, List.set_cons_succ, if_true, if_false, ↓reduceIte, Bool.false_eq_true, true_and, and_true, not_true_eq_false, not_false_eq_true, decide_eq_true_eq, Bool.not_true, Bool.not_false, Bool.not_not, Bool.not_eq_true', decide_eq_false_iff_not, List.length_map, atI0, atI1, atI2, Nat.reduceLeDiff, Int.reduceEq, Int.reduceLT, Int.reduceLE, Int.reduceAdd, Int.reduceSub, Int.cast_ofNat_Int, isi_tuple, isi_list, isi_int, isi_bool, isi_str, isi_none, reduceCtorEq, Bool.true_eq_false, Nat.min_self, g1, decide_false]
          exact hK2 _ (by simp [g1])
      · refine ⟨ds.map fun d => decide (0 ≤ toI d ∧ toI d < n), by rw [List.map_map]; rfl, ?_⟩
        have e : (ds.map fun d => decide (0 ≤ toI d ∧ toI d < n)).all id = ds.all fun d => decide (0 ≤ toI d ∧ toI d < n) := by rw [List.all_map]; rfl
        simp only [↓e_sSeq, ↓e_sNext, ↓e_sBreak, ↓e_sCont, ↓e_sDrop, ↓e_sRet, ↓e_sRetV, ↓e_sRetN, ↓e_sIfS, ↓e_sAsg, ↓e_sFor, ↓e_sVar, ↓e_sRV, ↓e_sRE, ↓e_sC, ↓e_aNil, ↓e_aCons, ↓e_ar, ↓e_dNil, ↓e_dCons, ↓e_fz, ↓e_sLst, ↓e_sTup, ↓e_s1, ↓e_s2, ↓e_s3, ↓e_s4, ↓e_rs, ↓e_sT, ↓e_sAnd, ↓e_sOr, ↓e_sNot, ↓e_vB, ↓e_sAndV, ↓e_sOrV, ↓e_sNotV, ↓e_sIf, ↓e_sgName, ↓e_cellOf, ↓e_sgNil, ↓e_sgCons, ↓e_sgTup, ↓e_sIt, ↓e_sRng1, ↓e_sRng2, ↓e_sEnum, ↓e_sZip, ↓e_sRev, ↓e_sRevR, ↓e_sRg1, ↓e_sRg2, ↓sI, ↓e_sLstR, ↓e_sCall, ↓e_sMeth, ↓e_sSetIx, ↓e_sAugIx, ↓e_sAug, ↓e_sSl, ↓e_pNo, ↓e_pSome, ↓e_sLc, ↓e_sYes, ↓e_sStep, ↓e_sIxG, ↓e_oAdd, ↓e_oI, ↓e_oI0, ↓e_oSub, ↓e_oMul, ↓e_oFdiv, ↓e_oMod, ↓e_oPow, ↓e_oShl, ↓e_oShr, ↓e_oNeg, ↓e_oEq, ↓e_oNe, ↓e_oLtI, ↓e_oLeI, ↓e_oGtI, ↓e_oGeI, ↓e_oIs, ↓e_oIn, ↓e_oIx, ↓e_oSl, ↓e_oLen, ↓e_oAbs, ↓e_oInt, ↓e_oMax2, ↓e_oMin2, ↓e_oList, ↓e_oTuple, ↓e_oIsi, ↓e_oAddI, ↓e_mAppend, ↓e_mExtend, ↓e_mPop, ↓e_mPopAt, ↓e_mInsert, ↓ng, ↓isNone, ↓e_noFd, ↓e_cells0, ↓arCell, ↓e_sTurn, ↓e_wip0, ↓e_wip1, ↓e_sIndex, List.map_cons, List.map_nil, List.length_cons, List.length_nil, List.cons_append, List.nil_append, List.replicate, Nat.reduceAdd, Nat.reduceSub, Nat.zero_add, List.getElem?_cons_zero, List.getElem?_cons_succ, List.set_cons_zero, List.set_cons_succ, if_true, if_false, ↓reduceIte, Bool.false_eq_true, true_and, and_true, not_true_eq_false, not_false_eq_true, decide_eq_true_eq, Bool.not_true, Bool.not_false, Bool.not_not, Bool.not_eq_true', decide_eq_false_iff_not, List.length_map, atI0, atI1, atI2, Nat.reduceLeDiff, Int.reduceEq, Int.reduceLT, Int.reduceLE, Int.reduceAdd, Int.reduceSub, Int.cast_ofNat_Int, isi_tuple, isi_list, isi_int, isi_bool, isi_str, isi_none, reduceCtorEq, Bool.true_eq_false, Nat.min_self]
        rw [e]
        rw [idxB_list, hw2, Bool.true_and] at h
        exact h
  · have hw : wholesB d = false := by simpa using hw
    simp only [↓e_sSeq, ↓e_sNext, ↓e_sBreak, ↓e_sCont, ↓e_sDrop, ↓e_sRet, ↓e_sRetV, ↓e_sRetN, ↓e_sIfS, ↓e_sAsg, ↓e_sFor, ↓e_sVar, ↓e_sRV, ↓e_sRE, ↓e_sC, ↓e_aNil, ↓e_aCons, ↓e_ar, ↓e_dNil, ↓e_dCons, ↓e_fz, ↓e_sLst, ↓e_sTup, ↓e_s1, ↓e_s2, ↓e_s3, ↓e_s4, ↓e_rs, ↓e_sT, ↓e_sAnd, ↓e_sOr, ↓e_sNot, ↓e_vB, ↓e_sAndV, ↓e_sOrV, ↓e_sNotV, ↓e_sIf, ↓e_sgName, ↓e_cellOf, ↓e_sgNil, ↓e_sgCons, ↓e_sgTup, ↓e_sIt, ↓e_sRng1, ↓e_sRng2, ↓e_sEnum, ↓e_sZip, ↓e_sRev, ↓e_sRevR, ↓e_sRg1, ↓e_sRg2, ↓sI, ↓e_sLstR, ↓e_sCall, ↓e_sMeth, ↓e_sSetIx, ↓e_sAugIx, ↓e_sAug, ↓e_sSl, ↓e_pNo, ↓e_pSome, ↓e_sLc, ↓e_sYes, ↓e_sStep, ↓e_sIxG, ↓e_oAdd, ↓e_oI, ↓e_oI0, ↓e_oSub, ↓e_oMul, ↓e_oFdiv, ↓e_oMod, ↓e_oPow, ↓e_oShl, ↓e_oShr, ↓e_oNeg, ↓e_oEq, ↓e_oNe, ↓e_oLtI, ↓e_oLeI, ↓e_oGtI, ↓e_oGeI, ↓e_oIs, ↓e_oIn, ↓e_oIx, ↓e_oSl, ↓e_oLen, ↓e_oAbs, ↓e_oInt, ↓e_oMax2, ↓e_oMin2, ↓e_oList, ↓e_oTuple, ↓e_oIsi, ↓e_oAddI, ↓e_mAppend, ↓e_mExtend, ↓e_mPop, ↓e_mPopAt, ↓e_mInsert, ↓ng, ↓isNone, ↓e_noFd, ↓e_cells0, ↓arCell, ↓e_sTurn, ↓e_wip0, ↓e_wip1, ↓e_sIndex, List.map_cons, List.map_nil, List.length_cons, List.length_nil, List.cons_append, List.nil_append, List.replicate, Nat.reduceAdd, Nat.reduceSub, Nat.zero_add, List.getElem?_cons_zero, List.getElem?_cons_succ, List.set_cons_zero, List.set_cons_succ, if_true, if_false, ↓reduceIte, Bool.false_eq_true, true_and, and_true, not_true_eq_false, not_false_eq_true, decide_eq_true_eq, Bool.not_true, Bool.not_false, Bool.not_not, Bool.not_eq_true', decide_eq_false_iff_not, List.length_map, atI0, atI1, atI2, Nat.reduceLeDiff, Int.reduceEq, Int.reduceLT, Int.reduceLE, Int.reduceAdd, Int.reduceSub, Int.cast_ofNat_Int, isi_tuple, isi_list, isi_int, isi_bool, isi_str, isi_none, reduceCtorEq, Bool.true_eq_false, Nat.min_self, F_are_wholes_ap hp, hw]
    have : idxB n d = false := by
      clear h hp
      cases d with
      | list ds => rw [idxB_list, show ds.all wholeB = false from hw]; rfl
      | _ => rfl
    rwa [this] at h
theorem F_are_indexes_ap {d : D} {n : Int} (hp : Pap d) {k kx} : F_are_indexes [.d d, .d (.int n)] k kx = k (.im (.bool (idxB n d))) :=
  propext ⟨fun ⟨d', n', e, _, h⟩ => by injection e with e1 e; injection e1 with e1; injection e with e2 e; injection e2 with e2; injection e2 with e2; rw [e1, e2]; exact h, fun h => ⟨d, n, rfl, hp, h⟩⟩
/-- are_amounts -/
def amtB (n : Int) : D → Bool
  | .list ds => ds.all wholeB && decide ((ds.length : Int) = n) && ds.all fun d => decide (0 ≤ toI d)
  | _ => false
theorem amtB_list (n : Int) (ds : List D) : amtB n (.list ds) = (ds.all wholeB && decide ((ds.length : Int) = n) && ds.all fun d => decide (0 ≤ toI d)) := rfl
def F_are_amounts : Fn := fun as k _ => ∃ d n, as = [.d d, .d (.int n)] ∧ Pap d ∧ k (.im (.bool (amtB n d)))
theorem len_are_amounts : ∀ as k kx, F_are_amounts as k kx → as.length = 2 := by rintro as k kx ⟨d, n, rfl, _⟩; rfl
theorem w_are_amounts : ∀ as k kx, F_are_amounts as k kx → m_are_amounts F_are_wholes ⟨cells0 2 as, kx⟩ { nx := fun _ => k (.im .none), rt := fun v _ => noFd k v } := by
  rintro as k kx ⟨d, n, rfl, hp, h⟩
  unfold m_are_amounts
  by_cases hw : wholesB d = true
  · cases d <;> first | (exact Bool.noConfusion hw) | skip
    case list ds =>
      have hw2 : ds.all wholeB = true := hw
      have e := wholes_dI hw2
      rw [amtB_list, hw2, Bool.true_and] at h
      by_cases hl : (ds.length : Int) = n
      · simp only [↓e_sSeq, ↓e_sNext, ↓e_sBreak, ↓e_sCont, ↓e_sDrop, ↓e_sRet, ↓e_sRetV, ↓e_sRetN, ↓e_sIfS, ↓e_sAsg, ↓e_sFor, ↓e_sVar, ↓e_sRV, ↓e_sRE, ↓e_sC, ↓e_aNil, ↓e_aCons, ↓e_ar, ↓e_dNil, ↓e_dCons, ↓e_fz, ↓e_sLst, ↓e_sTup, ↓e_s1, ↓e_s2, ↓e_s3, ↓e_s4, ↓e_rs, ↓e_sT, ↓e_sAnd, ↓e_sOr, ↓e_sNot, ↓e_vB, ↓e_sAndV, ↓e_sOrV, ↓e_sNotV, ↓e_sIf, ↓e_sgName, ↓e_cellOf, ↓e_sgNil, ↓e_sgCons, ↓e_sgTup, ↓e_sIt, ↓e_sRng1, ↓e_sRng2, ↓e_sEnum, ↓e_sZip, ↓e_sRev, ↓e_sRevR, ↓e_sRg1, ↓e_sRg2, ↓sI, ↓e_sLstR, ↓e_sCall, ↓e_sMeth, ↓e_sSetIx, ↓e_sAugIx, ↓e_sAug, ↓e_sSl, ↓e_pNo, ↓e_pSome, ↓e_sLc, ↓e_sYes, ↓e_sStep, ↓e_sIxG, ↓e_oAdd, ↓e_oI, ↓e_oI0, ↓e_oSub, ↓e_oMul, ↓e_oFdiv, ↓e_oMod, ↓e_oPow, ↓e_oShl, ↓e_oShr, ↓e_oNeg, ↓e_oEq, ↓e_oNe, ↓e_oLtI, ↓e_oLeI, ↓e_oGtI, ↓e_oGeI, ↓e_oIs, ↓e_oIn, ↓e_oIx, ↓e_oSl, ↓e_oLen, ↓e_oAbs, ↓e_oInt, ↓e_oMax2, ↓e_oMin2, ↓e_oList, ↓e_oTuple, ↓e_oIsi, ↓e_oAddI, ↓e_mAppend, ↓e_mExtend, ↓e_mPop, ↓e_mPopAt, ↓e_mInsert, ↓ng, ↓isNone, ↓e_noFd, ↓e_cells0, ↓arCell, ↓e_sTurn, ↓e_wip0, ↓e_wip1, ↓e_sIndex, List.map_cons, List.map_nil, List.length_cons, List.length_nil, List.cons_append, List.nil_append, List.replicate, Nat.reduceAdd, Nat.reduceSub, Nat.zero_add, List.getElem?_cons_zero, List.getElem?_cons_succ, List.set_cons_zero, List.set_cons_succ, if_true, if_false, ↓reduceIte, Bool.false_eq_true, true_and, and_true, not_true_eq_false, not_false_eq_true, decide_eq_true_eq, Bool.not_true, Bool.not_false, Bool.not_not, Bool.not_eq_true', decide_eq_false_iff_not, List.length_map, atI0, atI1, atI2, Nat.reduceLeDiff, Int.reduceEq, Int.reduceLT, Int.reduceLE, Int.reduceAdd, Int.reduceSub, Int.cast_ofNat_Int, isi_tuple, isi_list, isi_int, isi_bool, isi_str, isi_none, reduceCtorEq, Bool.true_eq_false, Nat.min_self, F_are_wholes_ap hp, hw, eq_true hl, decide_true, e_oMinD]
        rw [show decide ((ds.length : Int) = n) = true from decide_eq_true hl, Bool.true_and] at h
        refine ⟨ds.map toI, by rw [e]; simp [dI, toI], fun e0 => ?_, fun m hm hle => ?_⟩
        · have : ds = [] := by simpa using e0
          subst this
          exact h
        · have : (ds.all fun d => decide (0 ≤ toI d)) = decide (m ≥ 0) := by
            by_cases hm0 : m ≥ 0
            · rw [decide_eq_true hm0, List.all_eq_true]
              intro d hd
              have := hle (toI d) (List.mem_map_of_mem hd)
              exact decide_eq_true (by omega)
            · rw [decide_eq_false hm0]
              obtain ⟨d, hd, rfl⟩ := List.mem_map.mp hm
              rw [List.all_eq_false]
              exact ⟨d, hd, by simpa using hm0⟩
          rwa [this] at h
      · simp only [↓e_sSeq, ↓e_sNext, ↓e_sBreak, ↓e_sCont, ↓e_sDrop, ↓e_sRet, ↓e_sRetV, ↓e_sRetN, ↓e_sIfS, ↓e_sAsg, ↓e_sFor, ↓e_sVar, ↓e_sRV, ↓e_sRE, ↓e_sC, ↓e_aNil, ↓e_aCons, ↓e_ar, ↓e_dNil, ↓e_dCons, ↓e_fz, ↓e_sLst, ↓e_sTup, ↓e_s1, ↓e_s2, ↓e_s3, ↓e_s4, ↓e_rs, ↓e_sT, ↓e_sAnd, ↓e_sOr, ↓e_sNot, ↓e_vB, ↓e_sAndV, ↓e_sOrV, ↓e_sNotV, ↓e_sIf, ↓e_sgName, ↓e_cellOf, ↓e_sgNil, ↓e_sgCons, ↓e_sgTup, ↓e_sIt, ↓e_sRng1, ↓e_sRng2, ↓e_sEnum, ↓e_sZip, ↓e_sRev, ↓e_sRevR, ↓e_sRg1, ↓e_sRg2, ↓sI, ↓e_sLstR, ↓e_sCall, ↓e_sMeth, ↓e_sSetIx, ↓e_sAugIx, ↓e_sAug, ↓e_sSl, ↓e_pNo, ↓e_pSome, ↓e_sLc, ↓e_sYes, ↓e_sStep, ↓e_sIxG, ↓e_oAdd, ↓e_oI, ↓e_oI0, ↓e_oSub, ↓e_oMul, ↓e_oFdiv, ↓e_oMod, ↓e_oPow, ↓e_oShl, ↓e_oShr, ↓e_oNeg, ↓e_oEq, ↓e_oNe, ↓e_oLtI, ↓e_oLeI, ↓e_oGtI, ↓e_oGeI, ↓e_oIs, ↓e_oIn, ↓e_oIx, ↓e_oSl, ↓e_oLen, ↓e_oAbs, ↓e_oInt, ↓e_oMax2, ↓e_oMin2, ↓e_oList, ↓e_oTuple, ↓e_oIsi, ↓e_oAddI, ↓e_mAppend, ↓e_mExtend, ↓e_mPop, ↓e_mPopAt, ↓e_mInsert, ↓ng, ↓isNone, ↓e_noFd, ↓e_cells0, ↓arCell, ↓e_sTurn, ↓e_wip0, ↓e_wip1, ↓e_sIndex, List.map_cons, List.map_nil, List.length_cons, List.length_nil, List.cons_append, List.nil_append, List.replicate, Nat.reduceAdd, Nat.reduceSub, Nat.zero_add, List.getElem?_cons_zero, List.getElem?_cons_succ, List.set_cons_zero, List.set_cons_succ, if_true, if_false, ↓reduceIte, Bool.false_eq_true, true_and, and_true, not_true_eq_false, not_false_eq_true, decide_eq_true_eq, Bool.not_true, Bool.not_false, Bool.not_not, Bool.not_eq_true', decide_eq_false_iff_not, List.length_map, atI0, atI1, atI2, Nat.reduceLeDiff, Int.reduceEq, Int.reduceLT, Int.reduceLE, Int.reduceAdd, Int.reduceSub, Int.cast_ofNat_Int, isi_tuple, isi_list, isi_int, isi_bool, isi_str, isi_none, reduceCtorEq, Bool.true_eq_false, Nat.min_self, F_are_wholes_ap hp, hw, eq_false hl, decide_false]
        rw [show decide ((ds.length : Int) = n) = false from decide_eq_false hl, Bool.false_and] at h
        exact h
  · have hw : wholesB d = false := by simpa using hw
    simp only [↓e_sSeq, ↓e_sNext, ↓e_sBreak, ↓e_sCont, ↓e_sDrop, ↓e_sRet, ↓e_sRetV, ↓e_sRetN, ↓e_sIfS, ↓e_sAsg, ↓e_sFor, ↓e_sVar, ↓e_sRV, ↓e_sRE, ↓e_sC, ↓e_aNil, ↓e_aCons, ↓e_ar, ↓e_dNil, ↓e_dCons, ↓e_fz, ↓e_sLst, ↓e_sTup, ↓e_s1, ↓e_s2, ↓e_s3, ↓e_s4, ↓e_rs, ↓e_sT, ↓e_sAnd, ↓e_sOr, ↓e_sNot, ↓e_vB, ↓e_sAndV, ↓e_sOrV, ↓e_sNotV, ↓e_sIf, ↓e_sgName, ↓e_cellOf, ↓e_sgNil, ↓e_sgCons, ↓e_sgTup, ↓e_sIt, ↓e_sRng1, ↓e_sRng2, ↓e_sEnum, ↓e_sZip, ↓e_sRev, ↓e_sRevR, ↓e_sRg1, ↓e_sRg2, ↓sI, ↓e_sLstR, ↓e_sCall, ↓e_sMeth, ↓e_sSetIx, ↓e_sAugIx, ↓e_sAug, ↓e_sSl, ↓e_pNo, ↓e_pSome, ↓e_sLc, ↓e_sYes, ↓e_sStep, ↓e_sIxG, ↓e_oAdd, ↓e_oI, ↓e_oI0, ↓e_oSub, ↓e_oMul, ↓e_oFdiv, ↓e_oMod, ↓e_oPow, ↓e_oShl, ↓e_oShr, ↓e_oNeg, ↓e_oEq, ↓e_oNe, ↓e_oLtI, ↓e_oLeI, ↓e_oGtI, ↓e_oGeI, ↓e_oIs, ↓e_oIn, ↓e_oIx, ↓e_oSl, ↓e_oLen, ↓e_oAbs, ↓e_oInt, ↓e_oMax2, ↓e_oMin2, ↓e_oList, ↓e_oTuple, ↓e_oIsi, ↓e_oAddI, ↓e_mAppend, ↓e_mExtend, ↓e_mPop, ↓e_mPopAt, ↓e_mInsert, ↓ng, ↓isNone, ↓e_noFd, ↓e_cells0, ↓arCell, ↓e_sTurn, ↓e_wip0, ↓e_wip1, ↓e_sIndex, List.map_cons, List.map_nil, List.length_cons, List.length_nil, List.cons_append, List.nil_append, List.replicate, Nat.reduceAdd, Nat.reduceSub, Nat.zero_add, List.getElem?_cons_zero, List.getElem?_cons_succ, List.set_cons_zero, List.set_cons_succ, if_true, if_false, ↓reduceIte, Bool.false_eq_true, true_and, and_true, not_true_eq_false, not_false_eq_true, decide_eq_true_eq, Bool.not_true, Bool.not_false, Bool.not_not, Bool.not_eq_true', decide_eq_false_iff_not, List.length_map, atI0, atI1, atI2, Nat.reduceLeDiff, Int.reduceEq, Int.reduceLT, Int.reduceLE, Int.reduceAdd, Int.reduceSub, Int.cast_ofNat_Int, isi_tuple, isi_list, isi_int, isi_bool, isi_str, isi_none, reduceCtorEq, Bool.true_eq_false, Nat.min_self, F_are_wholes_ap hp, hw]
    have : amtB n d = false := by
      clear h hp
      cases d with
      | list ds => rw [amtB_list, show ds.all wholeB = false from hw]; rfl
      | _ => rfl
    rwa [this] at h
theorem F_are_amounts_ap {d : D} {n : Int} (hp : Pap d) {k kx} : F_are_amounts [.d d, .d (.int n)] k kx = k (.im (.bool (amtB n d))) :=
  propext ⟨fun ⟨d', n', e, _, h⟩ => by injection e with e1 e; injection e1 with e1; injection e with e2 e; injection e2 with e2; injection e2 with e2; rw [e1, e2]; exact h, fun h => ⟨d, n, rfl, hp, h⟩⟩
end Lw

namespace Lw
open PySem PySem.Spec L2 Dv
open PyProof.Rows hiding St
def jR (n : Int) (t : NT) (d : D) : Bool := amtB n d && (match d with
  | .list ds => t.all fun p => decide (rk (ds.map toI) p.2.1 < rk (ds.map toI) p.1)
  | _ => true)
theorem amt_of {n : Int} {d : D} (h : amtB n d = true) : ∃ ns : List Int, d = dI ns ∧ (ns.length : Int) = n ∧ ∀ x ∈ ns, 0 ≤ x := by
  cases d <;> first | (exact Bool.noConfusion h) | skip
  case list ds =>
    rw [amtB_list, Bool.and_eq_true, Bool.and_eq_true] at h
    obtain ⟨⟨h1, h2⟩, h3⟩ := h
    refine ⟨ds.map toI, by rw [dI, ← wholes_dI h1], by simpa using h2, fun x hx => ?_⟩
    obtain ⟨d, hd, rfl⟩ := List.mem_map.mp hx
    simpa using List.all_eq_true.mp h3 d hd
theorem map_toI (ns : List Int) : (ns.map PyData.int).map toI = ns := by
  rw [List.map_map]
  exact (List.map_congr_left fun _ _ => rfl).trans (List.map_id ns)
theorem jR_dI {n : Int} {t : NT} {ns : List Int} (h : amtB n (dI ns) = true) : jR n t (dI ns) = t.all fun p => decide (rk ns p.2.1 < rk ns p.1) := by
  unfold jR
  rw [h, Bool.true_and]
  show (t.all fun p => decide (rk ((ns.map PyData.int).map toI) p.2.1 < rk ((ns.map PyData.int).map toI) p.1)) = _
  rw [map_toI]
def F_shows_ranks : Fn := fun as k _ => ∃ (n : Int) (t : NT) (d : D), as = [.d (.int n), .d (.list (t.map dN)), .d d] ∧ OkN n t ∧ Pap d ∧ k (.im (.bool (jR n t d)))
theorem len_shows_ranks : ∀ as k kx, F_shows_ranks as k kx → as.length = 3 := by rintro as k kx ⟨_, _, _, rfl, _⟩; rfl
theorem w_shows_ranks : ∀ as k kx, F_shows_ranks as k kx → m_shows_ranks F_are_amounts ⟨cells0 6 as, kx⟩ { nx := fun _ => k (.im .none), rt := fun v _ => noFd k v } := by
  rintro as k kx ⟨n, t, d, rfl, ok, hp, h⟩
  unfold m_shows_ranks
  by_cases hw : amtB n d = true
  · obtain ⟨ns, rfl, hl, _⟩ := amt_of hw
    rw [jR_dI hw] at h
    simp only [↓e_sSeq, ↓e_sNext, ↓e_sBreak, ↓e_sCont, ↓e_sDrop, ↓e_sRet, ↓e_sRetV, ↓e_sRetN, ↓e_sIfS, ↓e_sAsg, ↓e_sFor, ↓e_sVar, ↓e_sRV, ↓e_sRE, ↓e_sC, ↓e_aNil, ↓e_aCons, ↓e_ar, ↓e_dNil, ↓e_dCons, ↓e_fz, ↓e_sLst, ↓e_sTup, ↓e_s1, ↓e_s2, ↓e_s3, ↓e_s4, ↓e_rs, ↓e_sT, ↓e_sAnd, ↓e_sOr, ↓e_sNot, ↓e_vB, ↓e_sAndV, ↓e_sOrV, ↓e_sNotV, ↓e_sIf, ↓e_sgName, ↓e_cellOf, ↓e_sgNil, ↓e_sgCons, ↓e_sgTup, ↓e_sIt, ↓e_sRng1, ↓e_sRng2, ↓e_sEnum, ↓e_sZip, ↓e_sRev, ↓e_sRevR, ↓e_sRg1, ↓e_sRg2, ↓sI, ↓e_sLstR, ↓e_sCall, ↓e_sMeth, ↓e_sSetIx, ↓e_sAugIx, ↓e_sAug, ↓e_sSl, ↓e_pNo, ↓e_pSome, ↓e_sLc, ↓e_sYes, ↓e_sStep, ↓e_sIxG, ↓e_oAdd, ↓e_oI, ↓e_oI0, ↓e_oSub, ↓e_oMul, ↓e_oFdiv, ↓e_oMod, ↓e_oPow, ↓e_oShl, ↓e_oShr, ↓e_oNeg, ↓e_oEq, ↓e_oNe, ↓e_oLtI, ↓e_oLeI, ↓e_oGtI, ↓e_oGeI, ↓e_oIs, ↓e_oIn, ↓e_oIx, ↓e_oSl, ↓e_oLen, ↓e_oAbs, ↓e_oInt, ↓e_oMax2, ↓e_oMin2, ↓e_oList, ↓e_oTuple, ↓e_oIsi, ↓e_oAddI, ↓e_mAppend, ↓e_mExtend, ↓e_mPop, ↓e_mPopAt, ↓e_mInsert, ↓ng, ↓isNone, ↓e_noFd, ↓e_cells0, ↓arCell, ↓e_sTurn, ↓e_wip0, ↓e_wip1, ↓e_sIndex, List.map_cons, List.map_nil, List.length_cons, List.length_nil, List.cons_append, List.nil_append, List.replicate, Nat.reduceAdd, Nat.reduceSub, Nat.zero_add, List.getElem?_cons_zero, List.getElem?_cons_succ, List.set_cons_zero, List.set_cons_succ, if_true, if_false, ↓reduceIte, Bool.false_eq_true, true_and, and_true, not_true_eq_false, not_false_eq_true, decide_eq_true_eq, Bool.not_true, Bool.not_false, Bool.not_not, Bool.not_eq_true', decide_eq_false_iff_not, List.length_map, atI0, atI1, atI2, Nat.reduceLeDiff, Int.reduceEq, Int.reduceLT, Int.reduceLE, Int.reduceAdd, Int.reduceSub, Int.cast_ofNat_Int, isi_tuple, isi_list, isi_int, isi_bool, isi_str, isi_none, reduceCtorEq, Bool.true_eq_false, Nat.min_self, F_are_amounts_ap hp, hw]
    refine ⟨by have := ok.2; omega, ?_⟩
    refine wComp_mapA dN (fun p => .bool (decide (rk ns p.2.1 < rk ns p.1))) (fun p hpt K hK => ?_) ?_
    · have hr := ok.1 p hpt
      rw [← hl] at hr
      simp only [↓e_sSeq, ↓e_sNext, ↓e_sBreak, ↓e_sCont, ↓e_sDrop, ↓e_sRet, ↓e_sRetV, ↓e_sRetN, ↓e_sIfS, ↓e_sAsg, ↓e_sFor, ↓e_sVar, ↓e_sRV, ↓e_sRE, ↓e_sC, ↓e_aNil, ↓e_aCons, ↓e_ar, ↓e_dNil, ↓e_dCons, ↓e_fz, ↓e_sLst, ↓e_sTup, ↓e_s1, ↓e_s2, ↓e_s3, ↓e_s4, ↓e_rs, ↓e_sT, ↓e_sAnd, ↓e_sOr, ↓e_sNot, ↓e_vB, ↓e_sAndV, ↓e_sOrV, ↓e_sNotV, ↓e_sIf, ↓e_sgName, ↓e_cellOf, ↓e_sgNil, ↓e_sgCons, ↓e_sgTup, ↓e_sIt, ↓e_sRng1, ↓e_sRng2, ↓e_sEnum, ↓e_sZip, ↓e_sRev, ↓e_sRevR, ↓e_sRg1, ↓e_sRg2, ↓sI, ↓e_sLstR, ↓e_sCall, ↓e_sMeth, ↓e_sSetIx, ↓e_sAugIx, ↓e_sAug, ↓e_sSl, ↓e_pNo, ↓e_pSome, ↓e_sLc, ↓e_sYes, ↓e_sStep, ↓e_sIxG, ↓e_oAdd, ↓e_oI, ↓e_oI0, ↓e_oSub, ↓e_oMul, ↓e_oFdiv, ↓e_oMod, ↓e_oPow, ↓e_oShl, ↓e_oShr, ↓e_oNeg, ↓e_oEq, ↓e_oNe, ↓e_oLtI, ↓e_oLeI, ↓e_oGtI, ↓e_oGeI, ↓e_oIs, ↓e_oIn, ↓e_oIx, ↓e_oSl, ↓e_oLen, ↓e_oAbs, ↓e_oInt, ↓e_oMax2, ↓e_oMin2, ↓e_oList, ↓e_oTuple, ↓e_oIsi, ↓e_oAddI, ↓e_mAppend, ↓e_mExtend, ↓e_mPop, ↓e_mPopAt, ↓e_mInsert, ↓ng, ↓isNone, ↓e_noFd, ↓e_cells0, ↓arCell, ↓e_sTurn, ↓e_wip0, ↓e_wip1, ↓e_sIndex, List.map_cons, List.map_nil, List.length_cons, List.length_nil, List.cons_append, List.nil_append, List.replicate, Nat.reduceAdd, Nat.reduceSub, Nat.zero_add, List.getElem?_cons_zero, List.getElem?_cons_succ, List.set_cons_zero, List.set_cons_succ, if_true, if_false, ↓reduceIte, Bool.false_eq_true, true_and, and_true, not_true_eq_false, not_false_eq_true, decide_eq_true_eq, Bool.not_true, Bool.not_false, Bool.not_not, Bool.not_eq_true', decide_eq_false_iff_not, List.length_map, atI0, atI1, atI2, Nat.reduceLeDiff, Int.reduceEq, Int.reduceLT, Int.reduceLE, Int.reduceAdd, Int.reduceSub, Int.cast_ofNat_Int, isi_tuple, isi_list, isi_int, isi_bool, isi_str, isi_none, reduceCtorEq, Bool.true_eq_false, Nat.min_self, dN, dI, rk_at hr.1.1 hr.1.2, rk_at hr.2.1 hr.2.2]
      exact hK _ _ rfl
    · refine ⟨t.map fun p => decide (rk ns p.2.1 < rk ns p.1), by rw [List.map_map]; rfl, ?_⟩
      have e : (t.map fun p => decide (rk ns p.2.1 < rk ns p.1)).all id = t.all fun p => decide (rk ns p.2.1 < rk ns p.1) := by rw [List.all_map]; rfl
      simp only [↓e_sSeq, ↓e_sNext, ↓e_sBreak, ↓e_sCont, ↓e_sDrop, ↓e_sRet, ↓e_sRetV, ↓e_sRetN, ↓e_sIfS, ↓e_sAsg, ↓e_sFor, ↓e_sVar, ↓e_sRV, ↓e_sRE, ↓e_sC, ↓e_aNil, ↓e_aCons, ↓e_ar, ↓e_dNil, ↓e_dCons, ↓e_fz, ↓e_sLst, ↓e_sTup, ↓e_s1, ↓e_s2, ↓e_s3, ↓e_s4, ↓e_rs, ↓e_sT, ↓e_sAnd, ↓e_sOr, ↓e_sNot, ↓e_vB, ↓e_sAndV, ↓e_sOrV, ↓e_sNotV, ↓e_sIf, ↓e_sgName, ↓e_cellOf, ↓e_sgNil, ↓e_sgCons, ↓e_sgTup, ↓e_sIt, ↓e_sRng1, ↓e_sRng2, ↓e_sEnum, ↓e_sZip, ↓e_sRev, ↓e_sRevR, ↓e_sRg1, ↓e_sRg2, ↓sI, ↓e_sLstR, ↓e_sCall, ↓e_sMeth, ↓e_sSetIx, ↓e_sAugIx, ↓e_sAug, ↓e_sSl, ↓e_pNo, ↓e_pSome, ↓e_sLc, ↓e_sYes, ↓e_sStep, ↓e_sIxG, ↓e_oAdd, ↓e_oI, ↓e_oI0, ↓e_oSub, ↓e_oMul, ↓e_oFdiv, ↓e_oMod, ↓e_oPow, ↓e_oShl, ↓e_oShr, ↓e_oNeg, ↓e_oEq, ↓e_oNe, ↓e_oLtI, ↓e_oLeI, ↓e_oGtI, ↓e_oGeI, ↓e_oIs, ↓e_oIn, ↓e_oIx, ↓e_oSl, ↓e_oLen, ↓e_oAbs, ↓e_oInt, ↓e_oMax2, ↓e_oMin2, ↓e_oList, ↓e_oTuple, ↓e_oIsi, ↓e_oAddI, ↓e_mAppend, ↓e_mExtend, ↓e_mPop, ↓e_mPopAt, ↓e_mInsert, ↓ng, ↓isNone, ↓e_noFd, ↓e_cells0, ↓arCell, ↓e_sTurn, ↓e_wip0, ↓e_wip1, ↓e_sIndex, List.map_cons, List.map_nil, List.length_cons, List.length_nil, List.cons_append, List.nil_append, List.replicate, Nat.reduceAdd, Nat.reduceSub, Nat.zero_add, List.getElem?_cons_zero, List.getElem?_cons_succ, List.set_cons_zero, List.set_cons_succ, if_true, if_false, ↓reduceIte, Bool.false_eq_true, true_and, and_true, not_true_eq_false, not_false_eq_true, decide_eq_true_eq, Bool.not_true, Bool.not_false, Bool.not_not, Bool.not_eq_true', decide_eq_false_iff_not, List.length_map, atI0, atI1, atI2, Nat.reduceLeDiff, Int.reduceEq, Int.reduceLT, Int.reduceLE, Int.reduceAdd, Int.reduceSub, Int.cast_ofNat_Int, isi_tuple, isi_list, isi_int, isi_bool, isi_str, isi_none, reduceCtorEq, Bool.true_eq_false, Nat.min_self]
      rw [e]; exact h
  · have hw : amtB n d = false := by simpa using hw
    simp only [↓e_sSeq, ↓e_sNext, ↓e_sBreak, ↓e_sCont, ↓e_sDrop, ↓e_sRet, ↓e_sRetV, ↓e_sRetN, ↓e_sIfS, ↓e_sAsg, ↓e_sFor, ↓e_sVar, ↓e_sRV, ↓e_sRE, ↓e_sC, ↓e_aNil, ↓e_aCons, ↓e_ar, ↓e_dNil, ↓e_dCons, ↓e_fz, ↓e_sLst, ↓e_sTup, ↓e_s1, ↓e_s2, ↓e_s3, ↓e_s4, ↓e_rs, ↓e_sT, ↓e_sAnd, ↓e_sOr, ↓e_sNot, ↓e_vB, ↓e_sAndV, ↓e_sOrV, ↓e_sNotV, ↓e_sIf, ↓e_sgName, ↓e_cellOf, ↓e_sgNil, ↓e_sgCons, ↓e_sgTup, ↓e_sIt, ↓e_sRng1, ↓e_sRng2, ↓e_sEnum, ↓e_sZip, ↓e_sRev, ↓e_sRevR, ↓e_sRg1, ↓e_sRg2, ↓sI, ↓e_sLstR, ↓e_sCall, ↓e_sMeth, ↓e_sSetIx, ↓e_sAugIx, ↓e_sAug, ↓e_sSl, ↓e_pNo, ↓e_pSome, ↓e_sLc, ↓e_sYes, ↓e_sStep, ↓e_sIxG, ↓e_oAdd, ↓e_oI, ↓e_oI0, ↓e_oSub, ↓e_oMul, ↓e_oFdiv, ↓e_oMod, ↓e_oPow, ↓e_oShl, ↓e_oShr, ↓e_oNeg, ↓e_oEq, ↓e_oNe, ↓e_oLtI, ↓e_oLeI, ↓e_oGtI, ↓e_oGeI, ↓e_oIs, ↓e_oIn, ↓e_oIx, ↓e_oSl, ↓e_oLen, ↓e_oAbs, ↓e_oInt, ↓e_oMax2, ↓e_oMin2, ↓e_oList, ↓e_oTuple, ↓e_oIsi, ↓e_oAddI, ↓e_mAppend, ↓e_mExtend, ↓e_mPop, ↓e_mPopAt, ↓e_mInsert, ↓ng, ↓isNone, ↓e_noFd, ↓e_cells0, ↓arCell, ↓e_sTurn, ↓e_wip0, ↓e_wip1, ↓e_sIndex, List.map_cons, List.map_nil, List.length_cons, List.length_nil, List.cons_append, List.nil_append, List.replicate, Nat.reduceAdd, Nat.reduceSub, Nat.zero_add, List.getElem?_cons_zero, List.getElem?_cons_succ, List.set_cons_zero, List.set_cons_succ, if_true, if_false, ↓reduceIte, Bool.false_eq_true, true_and, and_true, not_true_eq_false, not_false_eq_true, decide_eq_true_eq, Bool.not_true, Bool.not_false, Bool.not_not, Bool.not_eq_true', decide_eq_false_iff_not, List.length_map, atI0, atI1, atI2, Nat.reduceLeDiff, Int.reduceEq, Int.reduceLT, Int.reduceLE, Int.reduceAdd, Int.reduceSub, Int.cast_ofNat_Int, isi_tuple, isi_list, isi_int, isi_bool, isi_str, isi_none, reduceCtorEq, Bool.true_eq_false, Nat.min_self, F_are_amounts_ap hp, hw]
    have e : jR n t d = false := by unfold jR; rw [hw, Bool.false_and]
    rwa [e] at h
theorem F_shows_ranks_ap {n : Int} {t : NT} {d : D} (ok : OkN n t) (hp : Pap d) {k kx} (h : k (.im (.bool (jR n t d)))) : F_shows_ranks [.d (.int n), .d (.list (t.map dN)), .d d] k kx := ⟨n, t, d, rfl, ok, hp, h⟩
def F__law_is_ranks : Fn := fun as k _ => ∃ (n : Int) (t : NT) (d : D), as = [.d (.int n), .d (.list (t.map dN)), .d d] ∧ OkN n t ∧ Pap d ∧ k (.im (.bool (jR n t d)))
theorem len__law_is_ranks : ∀ as k kx, F__law_is_ranks as k kx → as.length = 3 := by rintro as k kx ⟨_, _, _, rfl, _⟩; rfl
theorem wd_list : ∀ d : D, (∃ ds, d = .list ds) ∨ (isiD d "list" = false ∧ ∀ n t, jR n t d = false) := fun d => by
  cases d with
  | list ds => exact .inl ⟨ds, rfl⟩
  | none => exact .inr ⟨(by decide : isiT "NoneType" "list" = false), fun n t => rfl⟩
  | bool b => exact .inr ⟨(by decide : isiT "bool" "list" = false), fun n t => rfl⟩
  | int b => exact .inr ⟨(by decide : isiT "int" "list" = false), fun n t => rfl⟩
  | str b => exact .inr ⟨(by decide : isiT "str" "list" = false), fun n t => rfl⟩
  | tuple b => exact .inr ⟨(by decide : isiT "tuple" "list" = false), fun n t => rfl⟩
  | dict b => exact .inr ⟨(by decide : isiT "dict" "list" = false), fun n t => rfl⟩
theorem w__law_is_ranks : ∀ as k kx, F__law_is_ranks as k kx → m__law_is_ranks F__law_is_whole ⟨cells0 5 as, kx⟩ { nx := fun _ => k (.im .none), rt := fun v _ => noFd k v } := by
  rintro as k kx ⟨n, t, d, rfl, ok, hp, h⟩
  unfold m__law_is_ranks
  have i1 : isiT "list" "list" = true := by decide
  rcases wd_list d with ⟨ds, rfl⟩ | ⟨hn, hj⟩
  · by_cases hl : (ds.length : Int) = n
    · refine seq_step fun K hK => ?_; simp only [↓e_sNext, ↓e_sBreak, ↓e_sCont, ↓e_sDrop, ↓e_sRet, ↓e_sRetV, ↓e_sRetN, ↓e_sIfS, ↓e_sAsg, ↓e_sFor, ↓e_sVar, ↓e_sRV, ↓e_sRE, ↓e_sC, ↓e_aNil, ↓e_aCons, ↓e_ar, ↓e_dNil, ↓e_dCons, ↓e_fz, ↓e_sLst, ↓e_sTup, ↓e_s1, ↓e_s2, ↓e_s3, ↓e_s4, ↓e_rs, ↓e_sT, ↓e_sAnd, ↓e_sOr, ↓e_sNot, ↓e_vB, ↓e_sAndV, ↓e_sOrV, ↓e_sNotV, ↓e_sIf, ↓e_sgName, ↓e_cellOf, ↓e_sgNil, ↓e_sgCons, ↓e_sgTup, ↓e_sIt, ↓e_sRng1, ↓e_sRng2, ↓e_sEnum, ↓e_sZip, ↓e_sRev, ↓e_sRevR, ↓e_sRg1, ↓e_sRg2, ↓sI, ↓e_sLstR, ↓e_sCall, ↓e_sMeth, ↓e_sSetIx, ↓e_sAugIx, ↓e_sAug, ↓e_sSl, ↓e_pNo, ↓e_pSome, ↓e_sLc, ↓e_sYes, ↓e_sStep, ↓e_sIxG, ↓e_oAdd, ↓e_oI, ↓e_oI0, ↓e_oSub, ↓e_oMul, ↓e_oFdiv, ↓e_oMod, ↓e_oPow, ↓e_oShl, ↓e_oShr, ↓e_oNeg, ↓e_oEq, ↓e_oNe, ↓e_oLtI, ↓e_oLeI, ↓e_oGtI, ↓e_oGeI, ↓e_oIs, ↓e_oIn, ↓e_oIx, ↓e_oSl, ↓e_oLen, ↓e_oAbs, ↓e_oInt, ↓e_oMax2, ↓e_oMin2, ↓e_oList, ↓e_oTuple, ↓e_oIsi, ↓e_oAddI, ↓e_mAppend, ↓e_mExtend, ↓e_mPop, ↓e_mPopAt, ↓e_mInsert, ↓ng, ↓isNone, ↓e_noFd, ↓e_cells0, ↓arCell, ↓e_sTurn, ↓e_wip0, ↓e_wip1, ↓e_sIndex, List.map_cons, List.map_nil, List.length_cons, List.length_nil, List.cons_append, List.nil_append, List.replicate, Nat.reduceAdd, Nat.reduceSub, Nat.zero_add, List.getElem?_cons_zero, List.getElem?_cons_succ, List.set_cons_zero, List.set_cons_succ, if_true, if_false, ↓reduceIte, Bool.false_eq_true, true_and, and_true, not_true_eq_false, not_false_eq_true, decide_eq_true_eq, Bool.not_true, Bool.not_false, Bool.not_not, Bool.not_eq_true', decide_eq_false_iff_not, List.length_map, atI0, atI1, atI2, Nat.reduceLeDiff, Int.reduceEq, Int.reduceLT, Int.reduceLE, Int.reduceAdd, Int.reduceSub, Int.cast_ofNat_Int, isi_tuple, isi_list, isi_int, isi_bool, isi_str, isi_none, reduceCtorEq, Bool.true_eq_false, Nat.min_self, i1, eq_true hl]
      refine hK _ ?_; clear hK; clear K
      refine seq_step fun K hK => ?_; simp only [↓e_sNext, ↓e_sBreak, ↓e_sCont, ↓e_sDrop, ↓e_sRet, ↓e_sRetV, ↓e_sRetN, ↓e_sIfS, ↓e_sAsg, ↓e_sFor, ↓e_sVar, ↓e_sRV, ↓e_sRE, ↓e_sC, ↓e_aNil, ↓e_aCons, ↓e_ar, ↓e_dNil, ↓e_dCons, ↓e_fz, ↓e_sLst, ↓e_sTup, ↓e_s1, ↓e_s2, ↓e_s3, ↓e_s4, ↓e_rs, ↓e_sT, ↓e_sAnd, ↓e_sOr, ↓e_sNot, ↓e_vB, ↓e_sAndV, ↓e_sOrV, ↓e_sNotV, ↓e_sIf, ↓e_sgName, ↓e_cellOf, ↓e_sgNil, ↓e_sgCons, ↓e_sgTup, ↓e_sIt, ↓e_sRng1, ↓e_sRng2, ↓e_sEnum, ↓e_sZip, ↓e_sRev, ↓e_sRevR, ↓e_sRg1, ↓e_sRg2, ↓sI, ↓e_sLstR, ↓e_sCall, ↓e_sMeth, ↓e_sSetIx, ↓e_sAugIx, ↓e_sAug, ↓e_sSl, ↓e_pNo, ↓e_pSome, ↓e_sLc, ↓e_sYes, ↓e_sStep, ↓e_sIxG, ↓e_oAdd, ↓e_oI, ↓e_oI0, ↓e_oSub, ↓e_oMul, ↓e_oFdiv, ↓e_oMod, ↓e_oPow, ↓e_oShl, ↓e_oShr, ↓e_oNeg, ↓e_oEq, ↓e_oNe, ↓e_oLtI, ↓e_oLeI, ↓e_oGtI, ↓e_oGeI, ↓e_oIs, ↓e_oIn, ↓e_oIx, ↓e_oSl, ↓e_oLen, ↓e_oAbs, ↓e_oInt, ↓e_oMax2, ↓e_oMin2, ↓e_oList, ↓e_oTuple, ↓e_oIsi, ↓e_oAddI, ↓e_mAppend, ↓e_mExtend, ↓e_mPop, ↓e_mPopAt, ↓e_mInsert, ↓ng, ↓isNone, ↓e_noFd, ↓e_cells0, ↓arCell, ↓e_sTurn, ↓e_wip0, ↓e_wip1, ↓e_sIndex, List.map_cons, List.map_nil, List.length_cons, List.length_nil, List.cons_append, List.nil_append, List.replicate, Nat.reduceAdd, Nat.reduceSub, Nat.zero_add, List.getElem?_cons_zero, List.getElem?_cons_succ, List.set_cons_zero, List.set_cons_succ, if_true, if_false, ↓reduceIte, Bool.false_eq_true, true_and, and_true, not_true_eq_false, not_false_eq_true, decide_eq_true_eq, Bool.not_true, Bool.not_false, Bool.not_not, Bool.not_eq_true', decide_eq_false_iff_not, List.length_map, atI0, atI1, atI2, Nat.reduceLeDiff, Int.reduceEq, Int.reduceLT, Int.reduceLE, Int.reduceAdd, Int.reduceSub, Int.cast_ofNat_Int, isi_tuple, isi_list, isi_int, isi_bool, isi_str, isi_none, reduceCtorEq, Bool.true_eq_false, Nat.min_self]
      refine wLoop_ix (fun i ρ => ∃ c : Cell, ρ = ⟨[.im (.int n), .im (.list (t.map dN)), .im (.list ds), c, .un], kx⟩ ∧ ∀ j x, j < i → ds[j]? = some x → wholeB x = true ∧ 0 ≤ toI x) ⟨_, rfl, fun j x h => absurd h (Nat.not_lt_zero _)⟩ ?_ ?_
      · rintro ρ ⟨c, rfl, hg⟩
        have g1 : ds.all wholeB = true := List.all_eq_true.mpr fun x hx => by
          obtain ⟨j, hj⟩ := List.getElem?_of_mem hx
          exact (hg j x (List.getElem?_eq_some_iff.mp hj).1 hj).1
        have g2 : (ds.all fun d => decide (0 ≤ toI d)) = true := List.all_eq_true.mpr fun x hx => by
          obtain ⟨j, hj⟩ := List.getElem?_of_mem hx
          exact decide_eq_true (hg j x (List.getElem?_eq_some_iff.mp hj).1 hj).2
        have ha : amtB n (.list ds) = true := by rw [amtB_list, g1, g2, show decide ((ds.length : Int) = n) = true from decide_eq_true hl]; rfl
        obtain ⟨ns, e, hl2, _⟩ := amt_of ha
        injection e with e
        subst e
        rw [jR_dI ha] at h
        refine hK _ ?_; clear hK; clear K
        simp only [↓e_sSeq, ↓e_sNext, ↓e_sBreak, ↓e_sCont, ↓e_sDrop, ↓e_sRet, ↓e_sRetV, ↓e_sRetN, ↓e_sIfS, ↓e_sAsg, ↓e_sFor, ↓e_sVar, ↓e_sRV, ↓e_sRE, ↓e_sC, ↓e_aNil, ↓e_aCons, ↓e_ar, ↓e_dNil, ↓e_dCons, ↓e_fz, ↓e_sLst, ↓e_sTup, ↓e_s1, ↓e_s2, ↓e_s3, ↓e_s4, ↓e_rs, ↓e_sT, ↓e_sAnd, ↓e_sOr, ↓e_sNot, ↓e_vB, ↓e_sAndV, ↓e_sOrV, ↓e_sNotV, ↓e_sIf, ↓e_sgName, ↓e_cellOf, ↓e_sgNil, ↓e_sgCons, ↓e_sgTup, ↓e_sIt, ↓e_sRng1, ↓e_sRng2, ↓e_sEnum, ↓e_sZip, ↓e_sRev, ↓e_sRevR, ↓e_sRg1, ↓e_sRg2, ↓sI, ↓e_sLstR, ↓e_sCall, ↓e_sMeth, ↓e_sSetIx, ↓e_sAugIx, ↓e_sAug, ↓e_sSl, ↓e_pNo, ↓e_pSome, ↓e_sLc, ↓e_sYes, ↓e_sStep, ↓e_sIxG, ↓e_oAdd, ↓e_oI, ↓e_oI0, ↓e_oSub, ↓e_oMul, ↓e_oFdiv, ↓e_oMod, ↓e_oPow, ↓e_oShl, ↓e_oShr, ↓e_oNeg, ↓e_oEq, ↓e_oNe, ↓e_oLtI, ↓e_oLeI, ↓e_oGtI, ↓e_oGeI, ↓e_oIs, ↓e_oIn, ↓e_oIx, ↓e_oSl, ↓e_oLen, ↓e_oAbs, ↓e_oInt, ↓e_oMax2, ↓e_oMin2, ↓e_oList, ↓e_oTuple, ↓e_oIsi, ↓e_oAddI, ↓e_mAppend, ↓e_mExtend, ↓e_mPop, ↓e_mPopAt, ↓e_mInsert, ↓ng, ↓isNone, ↓e_noFd, ↓e_cells0, ↓arCell, ↓e_sTurn, ↓e_wip0, ↓e_wip1, ↓e_sIndex, List.map_cons, List.map_nil, List.length_cons, List.length_nil, List.cons_append, List.nil_append, List.replicate, Nat.reduceAdd, Nat.reduceSub, Nat.zero_add, List.getElem?_cons_zero, List.getElem?_cons_succ, List.set_cons_zero, List.set_cons_succ, if_true, if_false, ↓reduceIte, Bool.false_eq_true, true_and, and_true, not_true_eq_false, not_false_eq_true, decide_eq_true_eq, Bool.not_true, Bool.not_false, Bool.not_not, Bool.not_eq_true', decide_eq_false_iff_not, List.length_map, atI0, atI1, atI2, Nat.reduceLeDiff, Int.reduceEq, Int.reduceLT, Int.reduceLE, Int.reduceAdd, Int.reduceSub, Int.cast_ofNat_Int, isi_tuple, isi_list, isi_int, isi_bool, isi_str, isi_none, reduceCtorEq, Bool.true_eq_false, Nat.min_self]
        refine ⟨by have := ok.2; omega, ?_⟩
        refine wComp_fmA dN (fun p => if rk ns p.1 ≤ rk ns p.2.1 then some (dN p) else none) (fun p hpt K hK => ?_) ?_
        · have hr := ok.1 p hpt
          rw [← hl2] at hr
          by_cases g : rk ns p.1 ≤ rk ns p.2.1
          · rw [if_pos g] at hK
            simp only [↓e_sSeq, ↓e_sNext, ↓e_sBreak, ↓e_sCont, ↓e_sDrop, ↓e_sRet, ↓e_sRetV, ↓e_sRetN, ↓e_sIfS, ↓e_sAsg, ↓e_sFor, ↓e_sVar, ↓e_sRV, ↓e_sRE, ↓e_sC, ↓e_aNil, ↓e_aCons, ↓e_ar, ↓e_dNil, ↓e_dCons, ↓e_fz, ↓e_sLst, ↓e_sTup, ↓e_s1, ↓e_s2, ↓e_s3, ↓e_s4, ↓e_rs, ↓e_sT, ↓e_sAnd, ↓e_sOr, ↓e_sNot, ↓e_vB, ↓e_sAndV, ↓e_sOrV, ↓e_sNotV, ↓e_sIf, ↓e_sgName, ↓e_cellOf, ↓e_sgNil, ↓e_sgCons, ↓e_sgTup, ↓e_sIt, ↓e_sRng1, ↓e_sRng2, ↓e_sEnum, ↓e_sZip, ↓e_sRev, ↓e_sRevR, ↓e_sRg1, ↓e_sRg2, ↓sI, ↓e_sLstR, ↓e_sCall, ↓e_sMeth, ↓e_sSetIx, ↓e_sAugIx, ↓e_sAug, ↓e_sSl, ↓e_pNo, ↓e_pSome, ↓e_sLc, ↓e_sYes, ↓e_sStep, ↓e_sIxG, ↓e_oAdd, ↓e_oI, ↓e_oI0, ↓e_oSub, ↓e_oMul, ↓e_oFdiv, ↓e_oMod, ↓e_oPow, ↓e_oShl, ↓e_oShr, ↓e_oNeg, ↓e_oEq, ↓e_oNe, ↓e_oLtI, ↓e_oLeI, ↓e_oGtI, ↓e_oGeI, ↓e_oIs, ↓e_oIn, ↓e_oIx, ↓e_oSl, ↓e_oLen, ↓e_oAbs, ↓e_oInt, ↓e_oMax2, ↓e_oMin2, ↓e_oList, ↓e_oTuple, ↓e_oIsi, ↓e_oAddI, ↓e_mAppend, ↓e_mExtend, ↓e_mPop, ↓e_mPopAt, ↓e_mInsert, ↓ng, ↓isNone, ↓e_noFd, ↓e_cells0, ↓arCell, ↓e_sTurn, ↓e_wip0, ↓e_wip1, ↓e_sIndex, List.map_cons, List.map_nil, List.length_cons, List.length_nil, List.cons_append, List.nil_append, List.replicate, Nat.reduceAdd, Nat.reduceSub, Nat.zero_add, List.getElem?_cons_zero, List.getElem?_cons_succ, List.set_cons_zero, List.set_cons_succ, if_true, if_false, ↓reduceIte, Bool.false_eq_true, true_and, and_true, not_true_eq_false, not_false_eq_true, decide_eq_true_eq, Bool.not_true, Bool.not_false, Bool.not_not, Bool.not_eq_true', decide_eq_false_iff_not, List.length_map, atI0, atI1, atI2, Nat.reduceLeDiff, Int.reduceEq, Int.reduceLT, Int.reduceLE, Int.reduceAdd, Int.reduceSub, Int.cast_ofNat_Int, isi_tuple, isi_list, isi_int, isi_bool, isi_str, isi_none, reduceCtorEq, Bool.true_eq_false, Nat.min_self, dN, rk_at hr.1.1 hr.1.2, rk_at hr.2.1 hr.2.2, g]
            exact hK _ _ rfl
          · rw [if_neg g] at hK
            simp only [↓e_sSeq, ↓e_sNext, ↓e_sBreak, ↓e_sCont, ↓e_sDrop, ↓e_sRet, ↓e_sRetV, ↓e_sRetN, ↓e_sIfS, ↓e_sAsg, ↓e_sFor, ↓e_sVar, ↓e_sRV, ↓e_sRE, ↓e_sC, ↓e_aNil, ↓e_aCons, ↓e_ar, ↓e_dNil, ↓e_dCons, ↓e_fz, ↓e_sLst, ↓e_sTup, ↓e_s1, ↓e_s2, ↓e_s3, ↓e_s4, ↓e_rs, ↓e_sT, ↓e_sAnd, ↓e_sOr, ↓e_sNot, ↓e_vB, ↓e_sAndV, ↓e_sOrV, ↓e_sNotV, ↓e_sIf, ↓e_sgName, ↓e_cellOf, ↓e_sgNil, ↓e_sgCons, ↓e_sgTup, ↓e_sIt, ↓e_sRng1, ↓e_sRng2, ↓e_sEnum, ↓e_sZip, ↓e_sRev, ↓e_sRevR, ↓e_sRg1, ↓e_sRg2, ↓sI, ↓e_sLstR, ↓e_sCall, ↓e_sMeth, ↓e_sSetIx, ↓e_sAugIx, ↓e_sAug, ↓e_sSl, ↓e_pNo, ↓e_pSome, ↓e_sLc, ↓e_sYes, ↓e_sStep, ↓e_sIxG, ↓e_oAdd, ↓e_oI, ↓e_oI0, ↓e_oSub, ↓e_oMul, ↓e_oFdiv, ↓e_oMod, ↓e_oPow, ↓e_oShl, ↓e_oShr, ↓e_oNeg, ↓e_oEq, ↓e_oNe, ↓e_oLtI, ↓e_oLeI, ↓e_oGtI, ↓e_oGeI, ↓e_oIs, ↓e_oIn, ↓e_oIx, ↓e_oSl, ↓e_oLen, ↓e_oAbs, ↓e_oInt, ↓e_oMax2, ↓e_oMin2, ↓e_oList, ↓e_oTuple, ↓e_oIsi, ↓e_oAddI, ↓e_mAppend, ↓e_mExtend, ↓e_mPop, ↓e_mPopAt, ↓e_mInsert, ↓ng, ↓isNone, ↓e_noFd, ↓e_cells0, ↓arCell, ↓e_sTurn, ↓e_wip0, ↓e_wip1, ↓e_sIndex, List.map_cons, List.map_nil, List.length_cons, List.length_nil, List.cons_append, List.nil_append, List.replicate, Nat.reduceAdd, Nat.reduceSub, Nat.zero_add, List.getElem?_cons_zero, List.getElem?_cons_succ, List.set_cons_zero, List.set_cons_succ, if_true, if_false, ↓reduceIte, Bool.false_eq_true, true_and, and_true, not_true_eq_false, not_false_eq_true, decide_eq_true_eq, Bool.not_true, Bool.not_false, Bool.not_not, Bool.not_eq_true', decide_eq_false_iff_not, List.length_map, atI0, atI1, atI2, Nat.reduceLeDiff, Int.reduceEq, Int.reduceLT, Int.reduceLE, Int.reduceAdd, Int.reduceSub, Int.cast_ofNat_Int, isi_tuple, isi_list, isi_int, isi_bool, isi_str, isi_none, reduceCtorEq, Bool.true_eq_false, Nat.min_self, dN, rk_at hr.1.1 hr.1.2, rk_at hr.2.1 hr.2.2, g]
            exact hK _ _ rfl
        · have e : decide (((t.filterMap fun p => if rk ns p.1 ≤ rk ns p.2.1 then some (dN p) else none).length : Int) = 0) = t.all fun p => decide (rk ns p.2.1 < rk ns p.1) := by
            clear h hp ok hg g1 g2
            induction t with
            | nil => rfl
            | cons p t ih =>
              rw [List.filterMap_cons, List.all_cons]
              by_cases g : rk ns p.1 ≤ rk ns p.2.1
              · rw [if_pos g, show decide (rk ns p.2.1 < rk ns p.1) = false from decide_eq_false (by omega), Bool.false_and]
                exact decide_eq_false (by simp only [List.length_cons]; omega)
              · rw [if_neg g, show decide (rk ns p.2.1 < rk ns p.1) = true from decide_eq_true (by omega), Bool.true_and]
                exact ih
          rw [e]
          exact h
      · rintro i x ρ kk hx ⟨c, rfl, hg⟩ hk
        unfold b1__law_is_ranks
        have hbad : ¬ (wholeB x = true ∧ 0 ≤ toI x) → k (.im (.bool false)) := fun z => by
          have : jR n t (.list ds) = false := by
            unfold jR
            rw [amtB_list]
            by_cases g1 : wholeB x = true
            · have : (ds.all fun d => decide (0 ≤ toI d)) = false := List.all_eq_false.mpr ⟨x, List.mem_of_getElem? hx, by simpa using fun y => z ⟨g1, y⟩⟩
              rw [this, Bool.and_false]; rfl
            · have : ds.all wholeB = false := List.all_eq_false.mpr ⟨x, List.mem_of_getElem? hx, g1⟩
              rw [this]; rfl
          rwa [this] at h
        by_cases g1 : wholeB x = true
        · obtain ⟨i0, rfl⟩ : ∃ i, x = .int i := ⟨_, whole_toI g1⟩
          by_cases g2 : i0 < 0
          · simp only [↓e_sSeq, ↓e_sNext, ↓e_sBreak, ↓e_sCont, ↓e_sDrop, ↓e_sRet, ↓e_sRetV, ↓e_sRetN, ↓e_sIfS, ↓e_sAsg, ↓e_sFor, ↓e_sVar, ↓e_sRV, ↓e_sRE, ↓e_sC, ↓e_aNil, ↓e_aCons, ↓e_ar, ↓e_dNil, ↓e_dCons, ↓e_fz, ↓e_sLst, ↓e_sTup, ↓e_s1, ↓e_s2, ↓e_s3, ↓e_s4, ↓e_rs, ↓e_sT, ↓e_sAnd, ↓e_sOr, ↓e_sNot, ↓e_vB, ↓e_sAndV, ↓e_sOrV, ↓e_sNotV, ↓e_sIf, ↓e_sgName, ↓e_cellOf, ↓e_sgNil, ↓e_sgCons, ↓e_sgTup, ↓e_sIt, ↓e_sRng1, ↓e_sRng2, ↓e_sEnum, ↓e_sZip, ↓e_sRev, ↓e_sRevR, ↓e_sRg1, ↓e_sRg2, ↓sI, ↓e_sLstR, ↓e_sCall, ↓e_sMeth, ↓e_sSetIx, ↓e_sAugIx, ↓e_sAug, ↓e_sSl, ↓e_pNo, ↓e_pSome, ↓e_sLc, ↓e_sYes, ↓e_sStep, ↓e_sIxG, ↓e_oAdd, ↓e_oI, ↓e_oI0, ↓e_oSub, ↓e_oMul, ↓e_oFdiv, ↓e_oMod, ↓e_oPow, ↓e_oShl, ↓e_oShr, ↓e_oNeg, ↓e_oEq, ↓e_oNe, ↓e_oLtI, ↓e_oLeI, ↓e_oGtI, ↓e_oGeI, ↓e_oIs, ↓e_oIn, ↓e_oIx, ↓e_oSl, ↓e_oLen, ↓e_oAbs, ↓e_oInt, ↓e_oMax2, ↓e_oMin2, ↓e_oList, ↓e_oTuple, ↓e_oIsi, ↓e_oAddI, ↓e_mAppend, ↓e_mExtend, ↓e_mPop, ↓e_mPopAt, ↓e_mInsert, ↓ng, ↓isNone, ↓e_noFd, ↓e_cells0, ↓arCell, ↓e_sTurn, ↓e_wip0, ↓e_wip1, ↓e_sIndex, List.map_cons, List.map_nil, List.length_cons, List.length_nil, List.cons_append, List.nil_append, List.replicate, Nat.reduceAdd, Nat.reduceSub, Nat.zero_add, List.getElem?_cons_zero, List.getElem?_cons_succ, List.set_cons_zero, List.set_cons_succ, if_true, if_false, ↓reduceIte, Bool.false_eq_true, true_and, and_true, not_true_eq_false, not_false_eq_true, decide_eq_true_eq, Bool.not_true, Bool.not_false, Bool.not_not, Bool.not_eq_true', decide_eq_false_iff_not, List.length_map, atI0, atI1, atI2, Nat.reduceLeDiff, Int.reduceEq, Int.reduceLT, Int.reduceLE, Int.reduceAdd, Int.reduceSub, Int.cast_ofNat_Int, isi_tuple, isi_list, isi_int, isi_bool, isi_str, isi_none, reduceCtorEq, Bool.true_eq_false, Nat.min_self, F_is_whole_ap, g1, g2]
            exact hbad fun z => absurd z.2 (by show ¬ 0 ≤ i0; omega)
          · simp only [↓e_sSeq, ↓e_sNext, ↓e_sBreak, ↓e_sCont, ↓e_sDrop, ↓e_sRet, ↓e_sRetV, ↓e_sRetN, ↓e_sIfS, ↓e_sAsg, ↓e_sFor, ↓e_sVar, ↓e_sRV, ↓e_sRE, ↓e_sC, ↓e_aNil, ↓e_aCons, ↓e_ar, ↓e_dNil, ↓e_dCons, ↓e_fz, ↓e_sLst, ↓e_sTup, ↓e_s1, ↓e_s2, ↓e_s3, ↓e_s4, ↓e_rs, ↓e_sT, ↓e_sAnd, ↓e_sOr, ↓e_sNot, ↓e_vB, ↓e_sAndV, ↓e_sOrV, ↓e_sNotV, ↓e_sIf, ↓e_sgName, ↓e_cellOf, ↓e_sgNil, ↓e_sgCons, ↓e_sgTup, ↓e_sIt, ↓e_sRng1, ↓e_sRng2, ↓e_sEnum, ↓e_sZip, ↓e_sRev, ↓e_sRevR, ↓e_sRg1, ↓e_sRg2, ↓sI, ↓e_sLstR, ↓e_sCall, ↓e_sMeth, ↓e_sSetIx, ↓e_sAugIx, ↓e_sAug, ↓e_sSl, ↓e_pNo, ↓e_pSome, ↓e_sLc, ↓e_sYes, ↓e_sStep, ↓e_sIxG, ↓e_oAdd, ↓e_oI, ↓e_oI0, ↓e_oSub, ↓e_oMul, ↓e_oFdiv, ↓e_oMod, ↓e_oPow, ↓e_oShl, ↓e_oShr, ↓e_oNeg, ↓e_oEq, ↓e_oNe, ↓e_oLtI, ↓e_oLeI, ↓e_oGtI, ↓e_oGeI, ↓e_oIs, ↓e_oIn, ↓e_oIx, ↓e_oSl, ↓e_oLen, ↓e_oAbs, ↓e_oInt, ↓e_oMax2, ↓e_oMin2, ↓e_oList, ↓e_oTuple, ↓e_oIsi, ↓e_oAddI, ↓e_mAppend, ↓e_mExtend, ↓e_mPop, ↓e_mPopAt, ↓e_mInsert, ↓ng, ↓isNone, ↓e_noFd, ↓e_cells0, ↓arCell, ↓e_sTurn, ↓e_wip0, ↓e_wip1, ↓e_sIndex, List.map_cons, List.map_nil, List.length_cons, List.length_nil, List.cons_append, List.nil_append, List.replicate, Nat.reduceAdd, Nat.reduceSub, Nat.zero_add, List.getElem?_cons_zero, List.getElem?_cons_succ, List.set_cons_zero, List.set_cons_succ, if_true, if_false, ↓reduceIte, Bool.false_eq_true, true_and, and_true, not_true_eq_false, not_false_eq_true, decide_eq_true_eq, Bool.not_true, Bool.not_false, Bool.not_not, Bool.not_eq_true', decide_eq_false_iff_not, List.length_map, atI0, atI1, atI2, Nat.reduceLeDiff, Int.reduceEq, Int.reduceLT, Int.reduceLE, Int.reduceAdd, Int.reduceSub, Int.cast_ofNat_Int, isi_tuple, isi_list, isi_int, isi_bool, isi_str, isi_none, reduceCtorEq, Bool.true_eq_false, Nat.min_self, F_is_whole_ap, g1, g2]
            refine hk _ ⟨_, rfl, fun j y hj hy => ?_⟩
            by_cases e : j = i
            · subst e
              rw [hx] at hy
              cases hy
              exact ⟨rfl, by show 0 ≤ i0; omega⟩
            · exact hg j y (by omega) hy
        · have g1' : wholeB x = false := by simpa using g1
          simp only [↓e_sSeq, ↓e_sNext, ↓e_sBreak, ↓e_sCont, ↓e_sDrop, ↓e_sRet, ↓e_sRetV, ↓e_sRetN, ↓e_sIfS, ↓e_sAsg, ↓e_sFor, ↓e_sVar, ↓e_sRV, ↓e_sRE, ↓e_sC, ↓e_aNil, ↓e_aCons, ↓e_ar, ↓e_dNil, ↓e_dCons, ↓e_fz, ↓e_sLst, ↓e_sTup, ↓e_s1, ↓e_s2, ↓e_s3, ↓e_s4, ↓e_rs, ↓e_sT, ↓e_sAnd, ↓e_sOr, ↓e_sNot, ↓e_vB, ↓e_sAndV, ↓e_sOrV, ↓e_sNotV, ↓e_sIf, ↓e_sgName, ↓e_cellOf, ↓e_sgNil, ↓e_sgCons, ↓e_sgTup, ↓e_sIt, ↓e_sRng1, ↓e_sRng2, ↓e_sEnum, ↓e_sZip, ↓e_sRev, ↓e_sRevR, ↓e_sRg1, ↓e_sRg2, ↓sI, ↓e_sLstR, ↓e_sCall, ↓e_sMeth, ↓e_sSetIx, ↓e_sAugIx, ↓e_sAug, ↓e_sSl, ↓e_pNo, ↓e_pSome, ↓e_sLc, ↓e_sYes, ↓e_sStep, ↓e_sIxG, ↓e_oAdd, ↓e_oI, ↓e_oI0, ↓e_oSub, ↓e_oMul, ↓e_oFdiv, ↓e_oMod, ↓e_oPow, ↓e_oShl, ↓e_oShr, ↓e_oNeg, ↓e_oEq, ↓e_oNe, ↓e_oLtI, ↓e_oLeI, ↓e_oGtI, ↓e_oGeI, ↓e_oIs, ↓e_oIn, ↓e_oIx, ↓e_oSl, ↓e_oLen, ↓e_oAbs, ↓e_oInt, ↓e_oMax2, ↓e_oMin2, ↓e_oList, ↓e_oTuple, ↓e_oIsi, ↓e_oAddI, ↓e_mAppend, ↓e_mExtend, ↓e_mPop, ↓e_mPopAt, ↓e_mInsert, ↓ng, ↓isNone, ↓e_noFd, ↓e_cells0, ↓arCell, ↓e_sTurn, ↓e_wip0, ↓e_wip1, ↓e_sIndex, List.map_cons, List.map_nil, List.length_cons, List.length_nil, List.cons_append, List.nil_append, List.replicate, Nat.reduceAdd, Nat.reduceSub, Nat.zero_add, List.getElem?_cons_zero, List.getElem?_cons_succ, List.set_cons_zero, List.set_cons_succ, if_true, if_false, ↓reduceIte, Bool.false_eq_true, true_and, and_true, not_true_eq_false, not_false_eq_true, decide_eq_true_eq, Bool.not_true, Bool.not_false, Bool.not_not, Bool.not_eq_true', decide_eq_false_iff_not, List.length_map, atI0, atI1, atI2, Nat.reduceLeDiff, Int.reduceEq, Int.reduceLT, Int.reduceLE, Int.reduceAdd, Int.reduceSub, Int.cast_ofNat_Int, isi_tuple, isi_list, isi_int, isi_bool, isi_str, isi_none, reduceCtorEq, Bool.true_eq_false, Nat.min_self, F_is_whole_ap, g1']
          exact hbad fun z => g1 z.1
    · rw [show jR n t (.list ds) = false by unfold jR; rw [amtB_list, show decide ((ds.length : Int) = n) = false from decide_eq_false hl, Bool.and_false]; rfl] at h
      simp only [↓e_sSeq, ↓e_sNext, ↓e_sBreak, ↓e_sCont, ↓e_sDrop, ↓e_sRet, ↓e_sRetV, ↓e_sRetN, ↓e_sIfS, ↓e_sAsg, ↓e_sFor, ↓e_sVar, ↓e_sRV, ↓e_sRE, ↓e_sC, ↓e_aNil, ↓e_aCons, ↓e_ar, ↓e_dNil, ↓e_dCons, ↓e_fz, ↓e_sLst, ↓e_sTup, ↓e_s1, ↓e_s2, ↓e_s3, ↓e_s4, ↓e_rs, ↓e_sT, ↓e_sAnd, ↓e_sOr, ↓e_sNot, ↓e_vB, ↓e_sAndV, ↓e_sOrV, ↓e_sNotV, ↓e_sIf, ↓e_sgName, ↓e_cellOf, ↓e_sgNil, ↓e_sgCons, ↓e_sgTup, ↓e_sIt, ↓e_sRng1, ↓e_sRng2, ↓e_sEnum, ↓e_sZip, ↓e_sRev, ↓e_sRevR, ↓e_sRg1, ↓e_sRg2, ↓sI, ↓e_sLstR, ↓e_sCall, ↓e_sMeth, ↓e_sSetIx, ↓e_sAugIx, ↓e_sAug, ↓e_sSl, ↓e_pNo, ↓e_pSome, ↓e_sLc, ↓e_sYes, ↓e_sStep, ↓e_sIxG, ↓e_oAdd, ↓e_oI, ↓e_oI0, ↓e_oSub, ↓e_oMul, ↓e_oFdiv, ↓e_oMod, ↓e_oPow, ↓e_oShl, ↓e_oShr, ↓e_oNeg, ↓e_oEq, ↓e_oNe, ↓e_oLtI, ↓e_oLeI, ↓e_oGtI, ↓e_oGeI, ↓e_oIs, ↓e_oIn, ↓e_oIx, ↓e_oSl, ↓e_oLen, ↓e_oAbs, ↓e_oInt, ↓e_oMax2, ↓e_oMin2, ↓e_oList, ↓e_oTuple, ↓e_oIsi, ↓e_oAddI, ↓e_mAppend, ↓e_mExtend, ↓e_mPop, ↓e_mPopAt, ↓e_mInsert, ↓ng, ↓isNone, ↓e_noFd, ↓e_cells0, ↓arCell, ↓e_sTurn, ↓e_wip0, ↓e_wip1, ↓e_sIndex, List.map_cons, List.map_nil, List.length_cons, List.length_nil, List.cons_append, List.nil_append, List.replicate, Nat.reduceAdd, Nat.reduceSub, Nat.zero_add, List.getElem?_cons_zero, List.getElem?_cons_succ, List.set_cons_zero, List.set_cons_succ, if_true, if_false, ↓reduceIte, Bool.false_eq_true, true_and, and_true, not_true_eq_false, not_false_eq_true, decide_eq_true_eq, Bool.not_true, Bool.not_false, Bool.not_not, Bool.not_eq_true', decide_eq_false_iff_not, List.length_map, atI0, atI1, atI2, Nat.reduceLeDiff, Int.reduceEq, Int.reduceLT, Int.reduceLE, Int.reduceAdd, Int.reduceSub, Int.cast_ofNat_Int, isi_tuple, isi_list, isi_int, isi_bool, isi_str, isi_none, reduceCtorEq, Bool.true_eq_false, Nat.min_self, i1, eq_false hl]
      exact h
  · rw [hj] at h
    simp only [↓e_sSeq, ↓e_sNext, ↓e_sBreak, ↓e_sCont, ↓e_sDrop, ↓e_sRet, ↓e_sRetV, ↓e_sRetN, ↓e_sIfS, ↓e_sAsg, ↓e_sFor, ↓e_sVar, ↓e_sRV, ↓e_sRE, ↓e_sC, ↓e_aNil, ↓e_aCons, ↓e_ar, ↓e_dNil, ↓e_dCons, ↓e_fz, ↓e_sLst, ↓e_sTup, ↓e_s1, ↓e_s2, ↓e_s3, ↓e_s4, ↓e_rs, ↓e_sT, ↓e_sAnd, ↓e_sOr, ↓e_sNot, ↓e_vB, ↓e_sAndV, ↓e_sOrV, ↓e_sNotV, ↓e_sIf, ↓e_sgName, ↓e_cellOf, ↓e_sgNil, ↓e_sgCons, ↓e_sgTup, ↓e_sIt, ↓e_sRng1, ↓e_sRng2, ↓e_sEnum, ↓e_sZip, ↓e_sRev, ↓e_sRevR, ↓e_sRg1, ↓e_sRg2, ↓sI, ↓e_sLstR, ↓e_sCall, ↓e_sMeth, ↓e_sSetIx, ↓e_sAugIx, ↓e_sAug, ↓e_sSl, ↓e_pNo, ↓e_pSome, ↓e_sLc, ↓e_sYes, ↓e_sStep, ↓e_sIxG, ↓e_oAdd, ↓e_oI, ↓e_oI0, ↓e_oSub, ↓e_oMul, ↓e_oFdiv, ↓e_oMod, ↓e_oPow, ↓e_oShl, ↓e_oShr, ↓e_oNeg, ↓e_oEq, ↓e_oNe, ↓e_oLtI, ↓e_oLeI, ↓e_oGtI, ↓e_oGeI, ↓e_oIs, ↓e_oIn, ↓e_oIx, ↓e_oSl, ↓e_oLen, ↓e_oAbs, ↓e_oInt, ↓e_oMax2, ↓e_oMin2, ↓e_oList, ↓e_oTuple, ↓e_oIsi, ↓e_oAddI, ↓e_mAppend, ↓e_mExtend, ↓e_mPop, ↓e_mPopAt, ↓e_mInsert, ↓ng, ↓isNone, ↓e_noFd, ↓e_cells0, ↓arCell, ↓e_sTurn, ↓e_wip0, ↓e_wip1, ↓e_sIndex, List.map_cons, List.map_nil, List.length_cons, List.length_nil, List.cons_append, List.nil_append, List.replicate, Nat.reduceAdd, Nat.reduceSub, Nat.zero_add, List.getElem?_cons_zero, List.getElem?_cons_succ, List.set_cons_zero, List.set_cons_succ, if_true, if_false, ↓reduceIte, Bool.false_eq_true, true_and, and_true, not_true_eq_false, not_false_eq_true, decide_eq_true_eq, Bool.not_true, Bool.not_false, Bool.not_not, Bool.not_eq_true', decide_eq_false_iff_not, List.length_map, atI0, atI1, atI2, Nat.reduceLeDiff, Int.reduceEq, Int.reduceLT, Int.reduceLE, Int.reduceAdd, Int.reduceSub, Int.cast_ofNat_Int, isi_tuple, isi_list, isi_int, isi_bool, isi_str, isi_none, reduceCtorEq, Bool.true_eq_false, Nat.min_self, hn]
    exact h
theorem F__law_is_ranks_ap {n : Int} {t : NT} {d : D} (ok : OkN n t) (hp : Pap d) {k kx} (h : k (.im (.bool (jR n t d)))) : F__law_is_ranks [.d (.int n), .d (.list (t.map dN)), .d d] k kx := ⟨n, t, d, rfl, ok, hp, h⟩
def F__law_says : Fn := fun as k _ => ∃ a b : Bool, as = [.d (.bool a), .d (.bool b)] ∧ k (.im (.bool (decide (a = b))))
theorem len__law_says : ∀ as k kx, F__law_says as k kx → as.length = 2 := by rintro as k kx ⟨_, _, rfl, _⟩; rfl
theorem w__law_says : ∀ as k kx, F__law_says as k kx → m__law_says ⟨cells0 2 as, kx⟩ { nx := fun _ => k (.im .none), rt := fun v _ => noFd k v } := by
  rintro as k kx ⟨a, b, rfl, h⟩
  unfold m__law_says
  have i1 : isiT "bool" "bool" = true := by decide
  simp only [↓e_sSeq, ↓e_sNext, ↓e_sBreak, ↓e_sCont, ↓e_sDrop, ↓e_sRet, ↓e_sRetV, ↓e_sRetN, ↓e_sIfS, ↓e_sAsg, ↓e_sFor, ↓e_sVar, ↓e_sRV, ↓e_sRE, ↓e_sC, ↓e_aNil, ↓e_aCons, ↓e_ar, ↓e_dNil, ↓e_dCons, ↓e_fz, ↓e_sLst, ↓e_sTup, ↓e_s1, ↓e_s2, ↓e_s3, ↓e_s4, ↓e_rs, ↓e_sT, ↓e_sAnd, ↓e_sOr, ↓e_sNot, ↓e_vB, ↓e_sAndV, ↓e_sOrV, ↓e_sNotV, ↓e_sIf, ↓e_sgName, ↓e_cellOf, ↓e_sgNil, ↓e_sgCons, ↓e_sgTup, ↓e_sIt, ↓e_sRng1, ↓e_sRng2, ↓e_sEnum, ↓e_sZip, ↓e_sRev, ↓e_sRevR, ↓e_sRg1, ↓e_sRg2, ↓sI, ↓e_sLstR, ↓e_sCall, ↓e_sMeth, ↓e_sSetIx, ↓e_sAugIx, ↓e_sAug, ↓e_sSl, ↓e_pNo, ↓e_pSome, ↓e_sLc, ↓e_sYes, ↓e_sStep, ↓e_sIxG, ↓e_oAdd, ↓e_oI, ↓e_oI0, ↓e_oSub, ↓e_oMul, ↓e_oFdiv, ↓e_oMod, ↓e_oPow, ↓e_oShl, ↓e_oShr, ↓e_oNeg, ↓e_oEq, ↓e_oNe, ↓e_oLtI, ↓e_oLeI, ↓e_oGtI, ↓e_oGeI, ↓e_oIs, ↓e_oIn, ↓e_oIx, ↓e_oSl, ↓e_oLen, ↓e_oAbs, ↓e_oInt, ↓e_oMax2, ↓e_oMin2, ↓e_oList, ↓e_oTuple, ↓e_oIsi, ↓e_oAddI, ↓e_mAppend, ↓e_mExtend, ↓e_mPop, ↓e_mPopAt, ↓e_mInsert, ↓ng, ↓isNone, ↓e_noFd, ↓e_cells0, ↓arCell, ↓e_sTurn, ↓e_wip0, ↓e_wip1, ↓e_sIndex, List.map_cons, List.map_nil, List.length_cons, List.length_nil, List.cons_append, List.nil_append, List.replicate, Nat.reduceAdd, Nat.reduceSub, Nat.zero_add, List.getElem?_cons_zero, List.getElem?_cons_succ, List.set_cons_zero, List.set_cons_succ, if_true, if_false, ↓reduceIte, Bool.false_eq_true, true_and, and_true, not_true_eq_false, not_false_eq_true, decide_eq_true_eq, Bool.not_true, Bool.not_false, Bool.not_not, Bool.not_eq_true', decide_eq_false_iff_not, List.length_map, atI0, atI1, atI2, Nat.reduceLeDiff, Int.reduceEq, Int.reduceLT, Int.reduceLE, Int.reduceAdd, Int.reduceSub, Int.cast_ofNat_Int, isi_tuple, isi_list, isi_int, isi_bool, isi_str, isi_none, reduceCtorEq, Bool.true_eq_false, Nat.min_self, i1]
  exact h
theorem F__law_says_ap {a b : Bool} {k kx} : F__law_says [.d (.bool a), .d (.bool b)] k kx = k (.im (.bool (decide (a = b)))) :=
  propext ⟨fun ⟨a', b', e, h⟩ => by injection e with e1 e; injection e1 with e1; injection e1 with e1; injection e with e2 e; injection e2 with e2; injection e2 with e2; rw [e1, e2]; exact h, fun h => ⟨a, b, rfl, h⟩⟩
end Lw

namespace Lw
open PySem PySem.Spec L2 Dv
open PyProof.Rows hiding St
/-- the needs as pairs -/
def prs (t : NT) : List D := t.map fun p => .tuple [.int p.1, .int p.2.1]
theorem dep_prs : ∀ t : NT, PyData.depthAll (prs t) ≤ 1
  | [] => by simp [prs, PyData.depthAll]
  | p :: t => by
    have := dep_prs t
    unfold prs at this ⊢
    rw [List.map_cons, PyData.depthAll]
    simp only [PyData.depth, PyData.depthAll]
    omega
/-- the i-th pair of neighbours round a ring -/
def nb (ns : List Int) (i : Nat) : D := .tuple [.int (if i = 0 then rk ns (ns.length - 1 : Int) else rk ns ((i : Int) - 1)), .int (rk ns i)]
theorem atI_prev {ns : List Int} {i : Nat} (hi : i < ns.length) : L2.atI (ns.map PyData.int) ((i : Int) - 1) = some (.int (if i = 0 then rk ns (ns.length - 1 : Int) else rk ns ((i : Int) - 1))) := by
  by_cases h : i = 0
  · subst h
    rw [if_pos rfl, show ((0 : Nat) : Int) - 1 = -1 by omega, atI_m1, List.getLast?_map, List.getLast?_eq_getElem?]
    unfold rk
    rw [List.getD_eq_getElem?_getD, show ((ns.length : Int) - 1).toNat = ns.length - 1 by omega, List.getElem?_eq_getElem (by omega)]
    rfl
  · rw [if_neg h]
    exact rk_at (by omega) (by omega)
def hasP (t : NT) (d : D) : Bool := (prs t).any fun z => PyData.eqv z d
def jG (n : Int) (t : NT) (d : D) : Bool := idxB n d && (match d with
  | .list ds => decide (2 ≤ ds.length) && (List.range ds.length).all fun i => hasP t (nb (ds.map toI) i)
  | _ => true)
theorem idx_of {n : Int} {d : D} (h : idxB n d = true) : ∃ ns : List Int, d = dI ns ∧ ∀ x ∈ ns, 0 ≤ x ∧ x < n := by
  cases d <;> first | (exact Bool.noConfusion h) | skip
  case list ds =>
    rw [idxB_list, Bool.and_eq_true] at h
    obtain ⟨h1, h3⟩ := h
    refine ⟨ds.map toI, by rw [dI, ← wholes_dI h1], fun x hx => ?_⟩
    obtain ⟨d, hd, rfl⟩ := List.mem_map.mp hx
    simpa using List.all_eq_true.mp h3 d hd
theorem jG_dI {n : Int} {t : NT} {ns : List Int} (h : idxB n (dI ns) = true) : jG n t (dI ns) = (decide (2 ≤ ns.length) && (List.range ns.length).all fun i => hasP t (nb ns i)) := by
  unfold jG
  rw [h, Bool.true_and]
  show (decide (2 ≤ (ns.map PyData.int).length) && (List.range (ns.map PyData.int).length).all fun i => hasP t (nb ((ns.map PyData.int).map toI) i)) = _
  rw [map_toI, List.length_map]
theorem dep_nb (ns : List Int) (i : Nat) : (nb ns i).depth = 1 := by simp [nb, PyData.depth, PyData.depthAll]
def F_shows_parts_ring : Fn := fun as k _ => ∃ (n : Int) (t : NT) (d : D), as = [.d (.int n), .d (.list (t.map dN)), .d d] ∧ t.length ≤ 1000 ∧ Pap d ∧ k (.im (.bool (jG n t d)))
theorem len_shows_parts_ring : ∀ as k kx, F_shows_parts_ring as k kx → as.length = 3 := by rintro as k kx ⟨_, _, _, rfl, _⟩; rfl
theorem w_shows_parts_ring : ∀ as k kx, F_shows_parts_ring as k kx → m_shows_parts_ring F_are_indexes ⟨cells0 8 as, kx⟩ { nx := fun _ => k (.im .none), rt := fun v _ => noFd k v } := by
  rintro as k kx ⟨n, t, d, rfl, ok, hp, h⟩
  unfold m_shows_parts_ring
  by_cases hw : idxB n d = true
  · obtain ⟨ns, rfl, hl⟩ := idx_of hw
    rw [jG_dI hw] at h
    by_cases h2 : (ns.length : Int) < 2
    · rw [show decide (2 ≤ ns.length) = false from decide_eq_false (by omega), Bool.false_and] at h
      refine seq_step fun K hK => ?_; simp only [↓e_sNext, ↓e_sBreak, ↓e_sCont, ↓e_sDrop, ↓e_sRet, ↓e_sRetV, ↓e_sRetN, ↓e_sIfS, ↓e_sAsg, ↓e_sFor, ↓e_sVar, ↓e_sRV, ↓e_sRE, ↓e_sC, ↓e_aNil, ↓e_aCons, ↓e_ar, ↓e_dNil, ↓e_dCons, ↓e_fz, ↓e_sLst, ↓e_sTup, ↓e_s1, ↓e_s2, ↓e_s3, ↓e_s4, ↓e_rs, ↓e_sT, ↓e_sAnd, ↓e_sOr, ↓e_sNot, ↓e_vB, ↓e_sAndV, ↓e_sOrV, ↓e_sNotV, ↓e_sIf, ↓e_sgName, ↓e_cellOf, ↓e_sgNil, ↓e_sgCons, ↓e_sgTup, ↓e_sIt, ↓e_sRng1, ↓e_sRng2, ↓e_sEnum, ↓e_sZip, ↓e_sRev, ↓e_sRevR, ↓e_sRg1, ↓e_sRg2, ↓sI, ↓e_sLstR, ↓e_sCall, ↓e_sMeth, ↓e_sSetIx, ↓e_sAugIx, ↓e_sAug, ↓e_sSl, ↓e_pNo, ↓e_pSome, ↓e_sLc, ↓e_sYes, ↓e_sStep, ↓e_sIxG, ↓e_oAdd, ↓e_oI, ↓e_oI0, ↓e_oSub, ↓e_oMul, ↓e_oFdiv, ↓e_oMod, ↓e_oPow, ↓e_oShl, ↓e_oShr, ↓e_oNeg, ↓e_oEq, ↓e_oNe, ↓e_oLtI, ↓e_oLeI, ↓e_oGtI, ↓e_oGeI, ↓e_oIs, ↓e_oIn, ↓e_oIx, ↓e_oSl, ↓e_oLen, ↓e_oAbs, ↓e_oInt, ↓e_oMax2, ↓e_oMin2, ↓e_oList, ↓e_oTuple, ↓e_oIsi, ↓e_oAddI, ↓e_mAppend, ↓e_mExtend, ↓e_mPop, ↓e_mPopAt, ↓e_mInsert, ↓ng, ↓isNone, ↓e_noFd, ↓e_cells0, ↓arCell, ↓e_sTurn, ↓e_wip0, ↓e_wip1, ↓e_sIndex, List.map_cons, List.map_nil, List.length_cons, List.length_nil, List.cons_append, List.nil_append, List.replicate, Nat.reduceAdd, Nat.reduceSub, Nat.zero_add, List.getElem?_cons_zero, List.getElem?_cons_succ, List.set_cons_zero, List.set_cons_succ, if_true, if_false, ↓reduceIte, Bool.false_eq_true, true_and, and_true, not_true_eq_false, not_false_eq_true, decide_eq_true_eq, Bool.not_true, Bool.not_false, Bool.not_not, Bool.not_eq_true', decide_eq_false_iff_not, List.length_map, atI0, atI1, atI2, Nat.reduceLeDiff, Int.reduceEq, Int.reduceLT, Int.reduceLE, Int.reduceAdd, Int.reduceSub, Int.cast_ofNat_Int, isi_tuple, isi_list, isi_int, isi_bool, isi_str, isi_none, reduceCtorEq, Bool.true_eq_false, Nat.min_self, F_are_indexes_ap hp, hw, h2]
      exact h
    · rw [show decide (2 ≤ ns.length) = true from decide_eq_true (by omega), Bool.true_and] at h
      refine seq_step fun K hK => ?_; simp only [↓e_sNext, ↓e_sBreak, ↓e_sCont, ↓e_sDrop, ↓e_sRet, ↓e_sRetV, ↓e_sRetN, ↓e_sIfS, ↓e_sAsg, ↓e_sFor, ↓e_sVar, ↓e_sRV, ↓e_sRE, ↓e_sC, ↓e_aNil, ↓e_aCons, ↓e_ar, ↓e_dNil, ↓e_dCons, ↓e_fz, ↓e_sLst, ↓e_sTup, ↓e_s1, ↓e_s2, ↓e_s3, ↓e_s4, ↓e_rs, ↓e_sT, ↓e_sAnd, ↓e_sOr, ↓e_sNot, ↓e_vB, ↓e_sAndV, ↓e_sOrV, ↓e_sNotV, ↓e_sIf, ↓e_sgName, ↓e_cellOf, ↓e_sgNil, ↓e_sgCons, ↓e_sgTup, ↓e_sIt, ↓e_sRng1, ↓e_sRng2, ↓e_sEnum, ↓e_sZip, ↓e_sRev, ↓e_sRevR, ↓e_sRg1, ↓e_sRg2, ↓sI, ↓e_sLstR, ↓e_sCall, ↓e_sMeth, ↓e_sSetIx, ↓e_sAugIx, ↓e_sAug, ↓e_sSl, ↓e_pNo, ↓e_pSome, ↓e_sLc, ↓e_sYes, ↓e_sStep, ↓e_sIxG, ↓e_oAdd, ↓e_oI, ↓e_oI0, ↓e_oSub, ↓e_oMul, ↓e_oFdiv, ↓e_oMod, ↓e_oPow, ↓e_oShl, ↓e_oShr, ↓e_oNeg, ↓e_oEq, ↓e_oNe, ↓e_oLtI, ↓e_oLeI, ↓e_oGtI, ↓e_oGeI, ↓e_oIs, ↓e_oIn, ↓e_oIx, ↓e_oSl, ↓e_oLen, ↓e_oAbs, ↓e_oInt, ↓e_oMax2, ↓e_oMin2, ↓e_oList, ↓e_oTuple, ↓e_oIsi, ↓e_oAddI, ↓e_mAppend, ↓e_mExtend, ↓e_mPop, ↓e_mPopAt, ↓e_mInsert, ↓ng, ↓isNone, ↓e_noFd, ↓e_cells0, ↓arCell, ↓e_sTurn, ↓e_wip0, ↓e_wip1, ↓e_sIndex, List.map_cons, List.map_nil, List.length_cons, List.length_nil, List.cons_append, List.nil_append, List.replicate, Nat.reduceAdd, Nat.reduceSub, Nat.zero_add, List.getElem?_cons_zero, List.getElem?_cons_succ, List.set_cons_zero, List.set_cons_succ, if_true, if_false, ↓reduceIte, Bool.false_eq_true, true_and, and_true, not_true_eq_false, not_false_eq_true, decide_eq_true_eq, Bool.not_true, Bool.not_false, Bool.not_not, Bool.not_eq_true', decide_eq_false_iff_not, List.length_map, atI0, atI1, atI2, Nat.reduceLeDiff, Int.reduceEq, Int.reduceLT, Int.reduceLE, Int.reduceAdd, Int.reduceSub, Int.cast_ofNat_Int, isi_tuple, isi_list, isi_int, isi_bool, isi_str, isi_none, reduceCtorEq, Bool.true_eq_false, Nat.min_self, F_are_indexes_ap hp, hw, h2]
      refine hK _ ?_; clear hK; clear K
      refine seq_step fun K hK => ?_; simp only [↓e_sNext, ↓e_sBreak, ↓e_sCont, ↓e_sDrop, ↓e_sRet, ↓e_sRetV, ↓e_sRetN, ↓e_sIfS, ↓e_sAsg, ↓e_sFor, ↓e_sVar, ↓e_sRV, ↓e_sRE, ↓e_sC, ↓e_aNil, ↓e_aCons, ↓e_ar, ↓e_dNil, ↓e_dCons, ↓e_fz, ↓e_sLst, ↓e_sTup, ↓e_s1, ↓e_s2, ↓e_s3, ↓e_s4, ↓e_rs, ↓e_sT, ↓e_sAnd, ↓e_sOr, ↓e_sNot, ↓e_vB, ↓e_sAndV, ↓e_sOrV, ↓e_sNotV, ↓e_sIf, ↓e_sgName, ↓e_cellOf, ↓e_sgNil, ↓e_sgCons, ↓e_sgTup, ↓e_sIt, ↓e_sRng1, ↓e_sRng2, ↓e_sEnum, ↓e_sZip, ↓e_sRev, ↓e_sRevR, ↓e_sRg1, ↓e_sRg2, ↓sI, ↓e_sLstR, ↓e_sCall, ↓e_sMeth, ↓e_sSetIx, ↓e_sAugIx, ↓e_sAug, ↓e_sSl, ↓e_pNo, ↓e_pSome, ↓e_sLc, ↓e_sYes, ↓e_sStep, ↓e_sIxG, ↓e_oAdd, ↓e_oI, ↓e_oI0, ↓e_oSub, ↓e_oMul, ↓e_oFdiv, ↓e_oMod, ↓e_oPow, ↓e_oShl, ↓e_oShr, ↓e_oNeg, ↓e_oEq, ↓e_oNe, ↓e_oLtI, ↓e_oLeI, ↓e_oGtI, ↓e_oGeI, ↓e_oIs, ↓e_oIn, ↓e_oIx, ↓e_oSl, ↓e_oLen, ↓e_oAbs, ↓e_oInt, ↓e_oMax2, ↓e_oMin2, ↓e_oList, ↓e_oTuple, ↓e_oIsi, ↓e_oAddI, ↓e_mAppend, ↓e_mExtend, ↓e_mPop, ↓e_mPopAt, ↓e_mInsert, ↓ng, ↓isNone, ↓e_noFd, ↓e_cells0, ↓arCell, ↓e_sTurn, ↓e_wip0, ↓e_wip1, ↓e_sIndex, List.map_cons, List.map_nil, List.length_cons, List.length_nil, List.cons_append, List.nil_append, List.replicate, Nat.reduceAdd, Nat.reduceSub, Nat.zero_add, List.getElem?_cons_zero, List.getElem?_cons_succ, List.set_cons_zero, List.set_cons_succ, if_true, if_false, ↓reduceIte, Bool.false_eq_true, true_and, and_true, not_true_eq_false, not_false_eq_true, decide_eq_true_eq, Bool.not_true, Bool.not_false, Bool.not_not, Bool.not_eq_true', decide_eq_false_iff_not, List.length_map, atI0, atI1, atI2, Nat.reduceLeDiff, Int.reduceEq, Int.reduceLT, Int.reduceLE, Int.reduceAdd, Int.reduceSub, Int.cast_ofNat_Int, isi_tuple, isi_list, isi_int, isi_bool, isi_str, isi_none, reduceCtorEq, Bool.true_eq_false, Nat.min_self]
      refine ⟨by omega, ?_⟩
      refine wComp_mapA dN (fun p => .tuple [.int p.1, .int p.2.1]) (fun p hpt K hK => ?_) ?_
      · simp only [↓e_sSeq, ↓e_sNext, ↓e_sBreak, ↓e_sCont, ↓e_sDrop, ↓e_sRet, ↓e_sRetV, ↓e_sRetN, ↓e_sIfS, ↓e_sAsg, ↓e_sFor, ↓e_sVar, ↓e_sRV, ↓e_sRE, ↓e_sC, ↓e_aNil, ↓e_aCons, ↓e_ar, ↓e_dNil, ↓e_dCons, ↓e_fz, ↓e_sLst, ↓e_sTup, ↓e_s1, ↓e_s2, ↓e_s3, ↓e_s4, ↓e_rs, ↓e_sT, ↓e_sAnd, ↓e_sOr, ↓e_sNot, ↓e_vB, ↓e_sAndV, ↓e_sOrV, ↓e_sNotV, ↓e_sIf, ↓e_sgName, ↓e_cellOf, ↓e_sgNil, ↓e_sgCons, ↓e_sgTup, ↓e_sIt, ↓e_sRng1, ↓e_sRng2, ↓e_sEnum, ↓e_sZip, ↓e_sRev, ↓e_sRevR, ↓e_sRg1, ↓e_sRg2, ↓sI, ↓e_sLstR, ↓e_sCall, ↓e_sMeth, ↓e_sSetIx, ↓e_sAugIx, ↓e_sAug, ↓e_sSl, ↓e_pNo, ↓e_pSome, ↓e_sLc, ↓e_sYes, ↓e_sStep, ↓e_sIxG, ↓e_oAdd, ↓e_oI, ↓e_oI0, ↓e_oSub, ↓e_oMul, ↓e_oFdiv, ↓e_oMod, ↓e_oPow, ↓e_oShl, ↓e_oShr, ↓e_oNeg, ↓e_oEq, ↓e_oNe, ↓e_oLtI, ↓e_oLeI, ↓e_oGtI, ↓e_oGeI, ↓e_oIs, ↓e_oIn, ↓e_oIx, ↓e_oSl, ↓e_oLen, ↓e_oAbs, ↓e_oInt, ↓e_oMax2, ↓e_oMin2, ↓e_oList, ↓e_oTuple, ↓e_oIsi, ↓e_oAddI, ↓e_mAppend, ↓e_mExtend, ↓e_mPop, ↓e_mPopAt, ↓e_mInsert, ↓ng, ↓isNone, ↓e_noFd, ↓e_cells0, ↓arCell, ↓e_sTurn, ↓e_wip0, ↓e_wip1, ↓e_sIndex, List.map_cons, List.map_nil, List.length_cons, List.length_nil, List.cons_append, List.nil_append, List.replicate, Nat.reduceAdd, Nat.reduceSub, Nat.zero_add, List.getElem?_cons_zero, List.getElem?_cons_succ, List.set_cons_zero, List.set_cons_succ, if_true, if_false, ↓reduceIte, Bool.false_eq_true, true_and, and_true, not_true_eq_false, not_false_eq_true, decide_eq_true_eq, Bool.not_true, Bool.not_false, Bool.not_not, Bool.not_eq_true', decide_eq_false_iff_not, List.length_map, atI0, atI1, atI2, Nat.reduceLeDiff, Int.reduceEq, Int.reduceLT, Int.reduceLE, Int.reduceAdd, Int.reduceSub, Int.cast_ofNat_Int, isi_tuple, isi_list, isi_int, isi_bool, isi_str, isi_none, reduceCtorEq, Bool.true_eq_false, Nat.min_self, dN]
        exact hK _ _ rfl
      · refine hK ⟨[.im (.int n), .im (.list (t.map dN)), .im (dI ns), .mu (prs t), .un, .un, .un, .un], kx⟩ ?_
        clear hK
        have hz : (ns.length : Int) < 2 ^ 62 := by
          have : (ns.map PyData.int).length ≤ 10000 := hp
          rw [List.length_map] at this
          omega
        have hz2 : ns.length ≤ 10000 := by
          have : (ns.map PyData.int).length ≤ 10000 := hp
          rwa [List.length_map] at this
        simp only [↓e_sSeq, ↓e_sNext, ↓e_sBreak, ↓e_sCont, ↓e_sDrop, ↓e_sRet, ↓e_sRetV, ↓e_sRetN, ↓e_sIfS, ↓e_sAsg, ↓e_sFor, ↓e_sVar, ↓e_sRV, ↓e_sRE, ↓e_sC, ↓e_aNil, ↓e_aCons, ↓e_ar, ↓e_dNil, ↓e_dCons, ↓e_fz, ↓e_sLst, ↓e_sTup, ↓e_s1, ↓e_s2, ↓e_s3, ↓e_s4, ↓e_rs, ↓e_sT, ↓e_sAnd, ↓e_sOr, ↓e_sNot, ↓e_vB, ↓e_sAndV, ↓e_sOrV, ↓e_sNotV, ↓e_sIf, ↓e_sgName, ↓e_cellOf, ↓e_sgNil, ↓e_sgCons, ↓e_sgTup, ↓e_sIt, ↓e_sRng1, ↓e_sRng2, ↓e_sEnum, ↓e_sZip, ↓e_sRev, ↓e_sRevR, ↓e_sRg1, ↓e_sRg2, ↓sI, ↓e_sLstR, ↓e_sCall, ↓e_sMeth, ↓e_sSetIx, ↓e_sAugIx, ↓e_sAug, ↓e_sSl, ↓e_pNo, ↓e_pSome, ↓e_sLc, ↓e_sYes, ↓e_sStep, ↓e_sIxG, ↓e_oAdd, ↓e_oI, ↓e_oI0, ↓e_oSub, ↓e_oMul, ↓e_oFdiv, ↓e_oMod, ↓e_oPow, ↓e_oShl, ↓e_oShr, ↓e_oNeg, ↓e_oEq, ↓e_oNe, ↓e_oLtI, ↓e_oLeI, ↓e_oGtI, ↓e_oGeI, ↓e_oIs, ↓e_oIn, ↓e_oIx, ↓e_oSl, ↓e_oLen, ↓e_oAbs, ↓e_oInt, ↓e_oMax2, ↓e_oMin2, ↓e_oList, ↓e_oTuple, ↓e_oIsi, ↓e_oAddI, ↓e_mAppend, ↓e_mExtend, ↓e_mPop, ↓e_mPopAt, ↓e_mInsert, ↓ng, ↓isNone, ↓e_noFd, ↓e_cells0, ↓arCell, ↓e_sTurn, ↓e_wip0, ↓e_wip1, ↓e_sIndex, List.map_cons, List.map_nil, List.length_cons, List.length_nil, List.cons_append, List.nil_append, List.replicate, Nat.reduceAdd, Nat.reduceSub, Nat.zero_add, List.getElem?_cons_zero, List.getElem?_cons_succ, List.set_cons_zero, List.set_cons_succ, if_true, if_false, ↓reduceIte, Bool.false_eq_true, true_and, and_true, not_true_eq_false, not_false_eq_true, decide_eq_true_eq, Bool.not_true, Bool.not_false, Bool.not_not, Bool.not_eq_true', decide_eq_false_iff_not, List.length_map, atI0, atI1, atI2, Nat.reduceLeDiff, Int.reduceEq, Int.reduceLT, Int.reduceLE, Int.reduceAdd, Int.reduceSub, Int.cast_ofNat_Int, isi_tuple, isi_list, isi_int, isi_bool, isi_str, isi_none, reduceCtorEq, Bool.true_eq_false, Nat.min_self]
        refine ⟨by omega, hz, by rw [rngD_length]; omega, ?_⟩
        refine wComp_rngM (fun i => .bool (hasP t (nb ns i))) (fun i hi K hK => ?_) ?_
        · have hi : i < ns.length := by omega
          have hd := dep_prs t
          simp only [↓e_sSeq, ↓e_sNext, ↓e_sBreak, ↓e_sCont, ↓e_sDrop, ↓e_sRet, ↓e_sRetV, ↓e_sRetN, ↓e_sIfS, ↓e_sAsg, ↓e_sFor, ↓e_sVar, ↓e_sRV, ↓e_sRE, ↓e_sC, ↓e_aNil, ↓e_aCons, ↓e_ar, ↓e_dNil, ↓e_dCons, ↓e_fz, ↓e_sLst, ↓e_sTup, ↓e_s1, ↓e_s2, ↓e_s3, ↓e_s4, ↓e_rs, ↓e_sT, ↓e_sAnd, ↓e_sOr, ↓e_sNot, ↓e_vB, ↓e_sAndV, ↓e_sOrV, ↓e_sNotV, ↓e_sIf, ↓e_sgName, ↓e_cellOf, ↓e_sgNil, ↓e_sgCons, ↓e_sgTup, ↓e_sIt, ↓e_sRng1, ↓e_sRng2, ↓e_sEnum, ↓e_sZip, ↓e_sRev, ↓e_sRevR, ↓e_sRg1, ↓e_sRg2, ↓sI, ↓e_sLstR, ↓e_sCall, ↓e_sMeth, ↓e_sSetIx, ↓e_sAugIx, ↓e_sAug, ↓e_sSl, ↓e_pNo, ↓e_pSome, ↓e_sLc, ↓e_sYes, ↓e_sStep, ↓e_sIxG, ↓e_oAdd, ↓e_oI, ↓e_oI0, ↓e_oSub, ↓e_oMul, ↓e_oFdiv, ↓e_oMod, ↓e_oPow, ↓e_oShl, ↓e_oShr, ↓e_oNeg, ↓e_oEq, ↓e_oNe, ↓e_oLtI, ↓e_oLeI, ↓e_oGtI, ↓e_oGeI, ↓e_oIs, ↓e_oIn, ↓e_oIx, ↓e_oSl, ↓e_oLen, ↓e_oAbs, ↓e_oInt, ↓e_oMax2, ↓e_oMin2, ↓e_oList, ↓e_oTuple, ↓e_oIsi, ↓e_oAddI, ↓e_mAppend, ↓e_mExtend, ↓e_mPop, ↓e_mPopAt, ↓e_mInsert, ↓ng, ↓isNone, ↓e_noFd, ↓e_cells0, ↓arCell, ↓e_sTurn, ↓e_wip0, ↓e_wip1, ↓e_sIndex, List.map_cons, List.map_nil, List.length_cons, List.length_nil, List.cons_append, List.nil_append, List.replicate, Nat.reduceAdd, Nat.reduceSub, Nat.zero_add, List.getElem?_cons_zero, List.getElem?_cons_succ, List.set_cons_zero, List.set_cons_succ, if_true, if_false, ↓reduceIte, Bool.false_eq_true, true_and, and_true, not_true_eq_false, not_false_eq_true, decide_eq_true_eq, Bool.not_true, Bool.not_false, Bool.not_not, Bool.not_eq_true', decide_eq_false_iff_not, List.length_map, atI0, atI1, atI2, Nat.reduceLeDiff, Int.reduceEq, Int.reduceLT, Int.reduceLE, Int.reduceAdd, Int.reduceSub, Int.cast_ofNat_Int, isi_tuple, isi_list, isi_int, isi_bool, isi_str, isi_none, reduceCtorEq, Bool.true_eq_false, Nat.min_self, Int.zero_add, dI, atI_prev hi, rk_at (ns := ns) (i := (i : Int)) (by omega) (by omega)]
          refine ⟨by omega, ?_⟩
          exact hK _ _ rfl
        · refine ⟨(List.range (ns.length : Int).toNat).map fun i => hasP t (nb ns i), by rw [List.map_map]; rfl, ?_⟩
          have e : ((List.range (ns.length : Int).toNat).map fun i => hasP t (nb ns i)).all id = (List.range ns.length).all fun i => hasP t (nb ns i) := by rw [List.all_map, Int.toNat_natCast]; rfl
          rw [e]; exact h
  · have hw : idxB n d = false := by simpa using hw
    refine seq_step fun K hK => ?_; simp only [↓e_sNext, ↓e_sBreak, ↓e_sCont, ↓e_sDrop, ↓e_sRet, ↓e_sRetV, ↓e_sRetN, ↓e_sIfS, ↓e_sAsg, ↓e_sFor, ↓e_sVar, ↓e_sRV, ↓e_sRE, ↓e_sC, ↓e_aNil, ↓e_aCons, ↓e_ar, ↓e_dNil, ↓e_dCons, ↓e_fz, ↓e_sLst, ↓e_sTup, ↓e_s1, ↓e_s2, ↓e_s3, ↓e_s4, ↓e_rs, ↓e_sT, ↓e_sAnd, ↓e_sOr, ↓e_sNot, ↓e_vB, ↓e_sAndV, ↓e_sOrV, ↓e_sNotV, ↓e_sIf, ↓e_sgName, ↓e_cellOf, ↓e_sgNil, ↓e_sgCons, ↓e_sgTup, ↓e_sIt, ↓e_sRng1, ↓e_sRng2, ↓e_sEnum, ↓e_sZip, ↓e_sRev, ↓e_sRevR, ↓e_sRg1, ↓e_sRg2, ↓sI, ↓e_sLstR, ↓e_sCall, ↓e_sMeth, ↓e_sSetIx, ↓e_sAugIx, ↓e_sAug, ↓e_sSl, ↓e_pNo, ↓e_pSome, ↓e_sLc, ↓e_sYes, ↓e_sStep, ↓e_sIxG, ↓e_oAdd, ↓e_oI, ↓e_oI0, ↓e_oSub, ↓e_oMul, ↓e_oFdiv, ↓e_oMod, ↓e_oPow, ↓e_oShl, ↓e_oShr, ↓e_oNeg, ↓e_oEq, ↓e_oNe, ↓e_oLtI, ↓e_oLeI, ↓e_oGtI, ↓e_oGeI, ↓e_oIs, ↓e_oIn, ↓e_oIx, ↓e_oSl, ↓e_oLen, ↓e_oAbs, ↓e_oInt, ↓e_oMax2, ↓e_oMin2, ↓e_oList, ↓e_oTuple, ↓e_oIsi, ↓e_oAddI, ↓e_mAppend, ↓e_mExtend, ↓e_mPop, ↓e_mPopAt, ↓e_mInsert, ↓ng, ↓isNone, ↓e_noFd, ↓e_cells0, ↓arCell, ↓e_sTurn, ↓e_wip0, ↓e_wip1, ↓e_sIndex, List.map_cons, List.map_nil, List.length_cons, List.length_nil, List.cons_append, List.nil_append, List.replicate, Nat.reduceAdd, Nat.reduceSub, Nat.zero_add, List.getElem?_cons_zero, List.getElem?_cons_succ, List.set_cons_zero, List.set_cons_succ, if_true, if_false, ↓reduceIte, Bool.false_eq_true, true_and, and_true, not_true_eq_false, not_false_eq_true, decide_eq_true_eq, Bool.not_true, Bool.not_false, Bool.not_not, Bool.not_eq_true', decide_eq_false_iff_not, List.length_map, atI0, atI1, atI2, Nat.reduceLeDiff, Int.reduceEq, Int.reduceLT, Int.reduceLE, Int.reduceAdd, Int.reduceSub, Int.cast_ofNat_Int, isi_tuple, isi_list, isi_int, isi_bool, isi_str, isi_none, reduceCtorEq, Bool.true_eq_false, Nat.min_self, F_are_indexes_ap hp, hw]
    have e : jG n t d = false := by unfold jG; rw [hw, Bool.false_and]
    rwa [e] at h
theorem F_shows_parts_ring_ap {n : Int} {t : NT} {d : D} (ok : t.length ≤ 1000) (hp : Pap d) {k kx} (h : k (.im (.bool (jG n t d)))) : F_shows_parts_ring [.d (.int n), .d (.list (t.map dN)), .d d] k kx := ⟨n, t, d, rfl, ok, hp, h⟩
def F__law_is_ring : Fn := fun as k _ => ∃ (n : Int) (t : NT) (d : D), as = [.d (.int n), .d (.list (t.map dN)), .d d] ∧ t.length ≤ 1000 ∧ Pap d ∧ k (.im (.bool (jG n t d)))
theorem len__law_is_ring : ∀ as k kx, F__law_is_ring as k kx → as.length = 3 := by rintro as k kx ⟨_, _, _, rfl, _⟩; rfl
theorem wd_listG : ∀ d : D, (∃ ds, d = .list ds) ∨ (isiD d "list" = false ∧ ∀ n t, jG n t d = false) := fun d => by
  cases d with
  | list ds => exact .inl ⟨ds, rfl⟩
  | none => exact .inr ⟨(by decide : isiT "NoneType" "list" = false), fun n t => rfl⟩
  | bool b => exact .inr ⟨(by decide : isiT "bool" "list" = false), fun n t => rfl⟩
  | int b => exact .inr ⟨(by decide : isiT "int" "list" = false), fun n t => rfl⟩
  | str b => exact .inr ⟨(by decide : isiT "str" "list" = false), fun n t => rfl⟩
  | tuple b => exact .inr ⟨(by decide : isiT "tuple" "list" = false), fun n t => rfl⟩
  | dict b => exact .inr ⟨(by decide : isiT "dict" "list" = false), fun n t => rfl⟩
theorem filt_all {b : Nat → Bool} : ∀ l : List Nat, decide (((l.filterMap fun i => if b i = true then none else some (PyData.int i)).length : Int) = 0) = l.all b
  | [] => rfl
  | i :: l => by
    rw [List.filterMap_cons, List.all_cons]
    by_cases g : b i = true
    · rw [if_pos g, g, Bool.true_and]
      exact filt_all l
    · rw [if_neg g, show b i = false by simpa using g, Bool.false_and]
      exact decide_eq_false (by simp only [List.length_cons]; omega)
theorem jG_list (n : Int) (t : NT) (ds : List D) : jG n t (.list ds) = ((ds.all wholeB && ds.all fun d => decide (0 ≤ toI d ∧ toI d < n)) && (decide (2 ≤ ds.length) && (List.range ds.length).all fun i => hasP t (nb (ds.map toI) i))) := rfl
theorem w__law_is_ring : ∀ as k kx, F__law_is_ring as k kx → m__law_is_ring F__law_is_whole ⟨cells0 7 as, kx⟩ { nx := fun _ => k (.im .none), rt := fun v _ => noFd k v } := by
  rintro as k kx ⟨n, t, d, rfl, ok, hp, h⟩
  unfold m__law_is_ring
  have i1 : isiT "list" "list" = true := by decide
  rcases wd_listG d with ⟨ds, rfl⟩ | ⟨hn, hj⟩
  · have hz : ds.length ≤ 10000 := hp
    by_cases hl : (ds.length : Int) < 2
    · rw [show jG n t (.list ds) = false by rw [jG_list, show decide (2 ≤ ds.length) = false from decide_eq_false (by omega), Bool.false_and, Bool.and_false]] at h
      refine seq_step fun K hK => ?_; simp only [↓e_sNext, ↓e_sBreak, ↓e_sCont, ↓e_sDrop, ↓e_sRet, ↓e_sRetV, ↓e_sRetN, ↓e_sIfS, ↓e_sAsg, ↓e_sFor, ↓e_sVar, ↓e_sRV, ↓e_sRE, ↓e_sC, ↓e_aNil, ↓e_aCons, ↓e_ar, ↓e_dNil, ↓e_dCons, ↓e_fz, ↓e_sLst, ↓e_sTup, ↓e_s1, ↓e_s2, ↓e_s3, ↓e_s4, ↓e_rs, ↓e_sT, ↓e_sAnd, ↓e_sOr, ↓e_sNot, ↓e_vB, ↓e_sAndV, ↓e_sOrV, ↓e_sNotV, ↓e_sIf, ↓e_sgName, ↓e_cellOf, ↓e_sgNil, ↓e_sgCons, ↓e_sgTup, ↓e_sIt, ↓e_sRng1, ↓e_sRng2, ↓e_sEnum, ↓e_sZip, ↓e_sRev, ↓e_sRevR, ↓e_sRg1, ↓e_sRg2, ↓sI, ↓e_sLstR, ↓e_sCall, ↓e_sMeth, ↓e_sSetIx, ↓e_sAugIx, ↓e_sAug, ↓e_sSl, ↓e_pNo, ↓e_pSome, ↓e_sLc, ↓e_sYes, ↓e_sStep, ↓e_sIxG, ↓e_oAdd, ↓e_oI, ↓e_oI0, ↓e_oSub, ↓e_oMul, ↓e_oFdiv, ↓e_oMod, ↓e_oPow, ↓e_oShl, ↓e_oShr, ↓e_oNeg, ↓e_oEq, ↓e_oNe, ↓e_oLtI, ↓e_oLeI, ↓e_oGtI, ↓e_oGeI, ↓e_oIs, ↓e_oIn, ↓e_oIx, ↓e_oSl, ↓e_oLen, ↓e_oAbs, ↓e_oInt, ↓e_oMax2, ↓e_oMin2, ↓e_oList, ↓e_oTuple, ↓e_oIsi, ↓e_oAddI, ↓e_mAppend, ↓e_mExtend, ↓e_mPop, ↓e_mPopAt, ↓e_mInsert, ↓ng, ↓isNone, ↓e_noFd, ↓e_cells0, ↓arCell, ↓e_sTurn, ↓e_wip0, ↓e_wip1, ↓e_sIndex, List.map_cons, List.map_nil, List.length_cons, List.length_nil, List.cons_append, List.nil_append, List.replicate, Nat.reduceAdd, Nat.reduceSub, Nat.zero_add, List.getElem?_cons_zero, List.getElem?_cons_succ, List.set_cons_zero, List.set_cons_succ, if_true, if_false, ↓reduceIte, Bool.false_eq_true, true_and, and_true, not_true_eq_false, not_false_eq_true, decide_eq_true_eq, Bool.not_true, Bool.not_false, Bool.not_not, Bool.not_eq_true', decide_eq_false_iff_not, List.length_map, atI0, atI1, atI2, Nat.reduceLeDiff, Int.reduceEq, Int.reduceLT, Int.reduceLE, Int.reduceAdd, Int.reduceSub, Int.cast_ofNat_Int, isi_tuple, isi_list, isi_int, isi_bool, isi_str, isi_none, reduceCtorEq, Bool.true_eq_false, Nat.min_self, i1, hl]
      exact h
    · refine seq_step fun K hK => ?_; simp only [↓e_sNext, ↓e_sBreak, ↓e_sCont, ↓e_sDrop, ↓e_sRet, ↓e_sRetV, ↓e_sRetN, ↓e_sIfS, ↓e_sAsg, ↓e_sFor, ↓e_sVar, ↓e_sRV, ↓e_sRE, ↓e_sC, ↓e_aNil, ↓e_aCons, ↓e_ar, ↓e_dNil, ↓e_dCons, ↓e_fz, ↓e_sLst, ↓e_sTup, ↓e_s1, ↓e_s2, ↓e_s3, ↓e_s4, ↓e_rs, ↓e_sT, ↓e_sAnd, ↓e_sOr, ↓e_sNot, ↓e_vB, ↓e_sAndV, ↓e_sOrV, ↓e_sNotV, ↓e_sIf, ↓e_sgName, ↓e_cellOf, ↓e_sgNil, ↓e_sgCons, ↓e_sgTup, ↓e_sIt, ↓e_sRng1, ↓e_sRng2, ↓e_sEnum, ↓e_sZip, ↓e_sRev, ↓e_sRevR, ↓e_sRg1, ↓e_sRg2, ↓sI, ↓e_sLstR, ↓e_sCall, ↓e_sMeth, ↓e_sSetIx, ↓e_sAugIx, ↓e_sAug, ↓e_sSl, ↓e_pNo, ↓e_pSome, ↓e_sLc, ↓e_sYes, ↓e_sStep, ↓e_sIxG, ↓e_oAdd, ↓e_oI, ↓e_oI0, ↓e_oSub, ↓e_oMul, ↓e_oFdiv, ↓e_oMod, ↓e_oPow, ↓e_oShl, ↓e_oShr, ↓e_oNeg, ↓e_oEq, ↓e_oNe, ↓e_oLtI, ↓e_oLeI, ↓e_oGtI, ↓e_oGeI, ↓e_oIs, ↓e_oIn, ↓e_oIx, ↓e_oSl, ↓e_oLen, ↓e_oAbs, ↓e_oInt, ↓e_oMax2, ↓e_oMin2, ↓e_oList, ↓e_oTuple, ↓e_oIsi, ↓e_oAddI, ↓e_mAppend, ↓e_mExtend, ↓e_mPop, ↓e_mPopAt, ↓e_mInsert, ↓ng, ↓isNone, ↓e_noFd, ↓e_cells0, ↓arCell, ↓e_sTurn, ↓e_wip0, ↓e_wip1, ↓e_sIndex, List.map_cons, List.map_nil, List.length_cons, List.length_nil, List.cons_append, List.nil_append, List.replicate, Nat.reduceAdd, Nat.reduceSub, Nat.zero_add, List.getElem?_cons_zero, List.getElem?_cons_succ, List.set_cons_zero, List.set_cons_succ, if_true, if_false, ↓reduceIte, Bool.false_eq_true, true_and, and_true, not_true_eq_false, not_false_eq_true, decide_eq_true_eq, Bool.not_true, Bool.not_false, Bool.not_not, Bool.not_eq_true', decide_eq_false_iff_not, List.length_map, atI0, atI1, atI2, Nat.reduceLeDiff, Int.reduceEq, Int.reduceLT, Int.reduceLE, Int.reduceAdd, Int.reduceSub, Int.cast_ofNat_Int, isi_tuple, isi_list, isi_int, isi_bool, isi_str, isi_none, reduceCtorEq, Bool.true_eq_false, Nat.min_self, i1, hl]
      refine hK _ ?_; clear hK; clear K
      refine seq_step fun K hK => ?_; simp only [↓e_sNext, ↓e_sBreak, ↓e_sCont, ↓e_sDrop, ↓e_sRet, ↓e_sRetV, ↓e_sRetN, ↓e_sIfS, ↓e_sAsg, ↓e_sFor, ↓e_sVar, ↓e_sRV, ↓e_sRE, ↓e_sC, ↓e_aNil, ↓e_aCons, ↓e_ar, ↓e_dNil, ↓e_dCons, ↓e_fz, ↓e_sLst, ↓e_sTup, ↓e_s1, ↓e_s2, ↓e_s3, ↓e_s4, ↓e_rs, ↓e_sT, ↓e_sAnd, ↓e_sOr, ↓e_sNot, ↓e_vB, ↓e_sAndV, ↓e_sOrV, ↓e_sNotV, ↓e_sIf, ↓e_sgName, ↓e_cellOf, ↓e_sgNil, ↓e_sgCons, ↓e_sgTup, ↓e_sIt, ↓e_sRng1, ↓e_sRng2, ↓e_sEnum, ↓e_sZip, ↓e_sRev, ↓e_sRevR, ↓e_sRg1, ↓e_sRg2, ↓sI, ↓e_sLstR, ↓e_sCall, ↓e_sMeth, ↓e_sSetIx, ↓e_sAugIx, ↓e_sAug, ↓e_sSl, ↓e_pNo, ↓e_pSome, ↓e_sLc, ↓e_sYes, ↓e_sStep, ↓e_sIxG, ↓e_oAdd, ↓e_oI, ↓e_oI0, ↓e_oSub, ↓e_oMul, ↓e_oFdiv, ↓e_oMod, ↓e_oPow, ↓e_oShl, ↓e_oShr, ↓e_oNeg, ↓e_oEq, ↓e_oNe, ↓e_oLtI, ↓e_oLeI, ↓e_oGtI, ↓e_oGeI, ↓e_oIs, ↓e_oIn, ↓e_oIx, ↓e_oSl, ↓e_oLen, ↓e_oAbs, ↓e_oInt, ↓e_oMax2, ↓e_oMin2, ↓e_oList, ↓e_oTuple, ↓e_oIsi, ↓e_oAddI, ↓e_mAppend, ↓e_mExtend, ↓e_mPop, ↓e_mPopAt, ↓e_mInsert, ↓ng, ↓isNone, ↓e_noFd, ↓e_cells0, ↓arCell, ↓e_sTurn, ↓e_wip0, ↓e_wip1, ↓e_sIndex, List.map_cons, List.map_nil, List.length_cons, List.length_nil, List.cons_append, List.nil_append, List.replicate, Nat.reduceAdd, Nat.reduceSub, Nat.zero_add, List.getElem?_cons_zero, List.getElem?_cons_succ, List.set_cons_zero, List.set_cons_succ, if_true, if_false, ↓reduceIte, Bool.false_eq_true, true_and, and_true, not_true_eq_false, not_false_eq_true, decide_eq_true_eq, Bool.not_true, Bool.not_false, Bool.not_not, Bool.not_eq_true', decide_eq_false_iff_not, List.length_map, atI0, atI1, atI2, Nat.reduceLeDiff, Int.reduceEq, Int.reduceLT, Int.reduceLE, Int.reduceAdd, Int.reduceSub, Int.cast_ofNat_Int, isi_tuple, isi_list, isi_int, isi_bool, isi_str, isi_none, reduceCtorEq, Bool.true_eq_false, Nat.min_self]
      refine wLoop_ix (fun i ρ => ∃ c : Cell, ρ = ⟨[.im (.int n), .im (.list (t.map dN)), .im (.list ds), c, .un, .un, .un], kx⟩ ∧ ∀ j x, j < i → ds[j]? = some x → wholeB x = true ∧ 0 ≤ toI x ∧ toI x < n) ⟨_, rfl, fun j x h => absurd h (Nat.not_lt_zero _)⟩ ?_ ?_
      · rintro ρ ⟨c, rfl, hg⟩
        have g1 : ds.all wholeB = true := List.all_eq_true.mpr fun x hx => by
          obtain ⟨j, hj⟩ := List.getElem?_of_mem hx
          exact (hg j x (List.getElem?_eq_some_iff.mp hj).1 hj).1
        have g2 : (ds.all fun d => decide (0 ≤ toI d ∧ toI d < n)) = true := List.all_eq_true.mpr fun x hx => by
          obtain ⟨j, hj⟩ := List.getElem?_of_mem hx
          exact decide_eq_true (hg j x (List.getElem?_eq_some_iff.mp hj).1 hj).2
        have ha : idxB n (.list ds) = true := by rw [idxB_list, g1, g2]; rfl
        obtain ⟨ns, e, _⟩ := idx_of ha
        injection e with e
        subst e
        rw [List.length_map] at hl hz
        rw [jG_dI ha, show decide (2 ≤ ns.length) = true from decide_eq_true (by omega), Bool.true_and] at h
        refine hK _ ?_; clear hK; clear K
        refine seq_step fun K hK => ?_; simp only [↓e_sNext, ↓e_sBreak, ↓e_sCont, ↓e_sDrop, ↓e_sRet, ↓e_sRetV, ↓e_sRetN, ↓e_sIfS, ↓e_sAsg, ↓e_sFor, ↓e_sVar, ↓e_sRV, ↓e_sRE, ↓e_sC, ↓e_aNil, ↓e_aCons, ↓e_ar, ↓e_dNil, ↓e_dCons, ↓e_fz, ↓e_sLst, ↓e_sTup, ↓e_s1, ↓e_s2, ↓e_s3, ↓e_s4, ↓e_rs, ↓e_sT, ↓e_sAnd, ↓e_sOr, ↓e_sNot, ↓e_vB, ↓e_sAndV, ↓e_sOrV, ↓e_sNotV, ↓e_sIf, ↓e_sgName, ↓e_cellOf, ↓e_sgNil, ↓e_sgCons, ↓e_sgTup, ↓e_sIt, ↓e_sRng1, ↓e_sRng2, ↓e_sEnum, ↓e_sZip, ↓e_sRev, ↓e_sRevR, ↓e_sRg1, ↓e_sRg2, ↓sI, ↓e_sLstR, ↓e_sCall, ↓e_sMeth, ↓e_sSetIx, ↓e_sAugIx, ↓e_sAug, ↓e_sSl, ↓e_pNo, ↓e_pSome, ↓e_sLc, ↓e_sYes, ↓e_sStep, ↓e_sIxG, ↓e_oAdd, ↓e_oI, ↓e_oI0, ↓e_oSub, ↓e_oMul, ↓e_oFdiv, ↓e_oMod, ↓e_oPow, ↓e_oShl, ↓e_oShr, ↓e_oNeg, ↓e_oEq, ↓e_oNe, ↓e_oLtI, ↓e_oLeI, ↓e_oGtI, ↓e_oGeI, ↓e_oIs, ↓e_oIn, ↓e_oIx, ↓e_oSl, ↓e_oLen, ↓e_oAbs, ↓e_oInt, ↓e_oMax2, ↓e_oMin2, ↓e_oList, ↓e_oTuple, ↓e_oIsi, ↓e_oAddI, ↓e_mAppend, ↓e_mExtend, ↓e_mPop, ↓e_mPopAt, ↓e_mInsert, ↓ng, ↓isNone, ↓e_noFd, ↓e_cells0, ↓arCell, ↓e_sTurn, ↓e_wip0, ↓e_wip1, ↓e_sIndex, List.map_cons, List.map_nil, List.length_cons, List.length_nil, List.cons_append, List.nil_append, List.replicate, Nat.reduceAdd, Nat.reduceSub, Nat.zero_add, List.getElem?_cons_zero, List.getElem?_cons_succ, List.set_cons_zero, List.set_cons_succ, if_true, if_false, ↓reduceIte, Bool.false_eq_true, true_and, and_true, not_true_eq_false, not_false_eq_true, decide_eq_true_eq, Bool.not_true, Bool.not_false, Bool.not_not, Bool.not_eq_true', decide_eq_false_iff_not, List.length_map, atI0, atI1, atI2, Nat.reduceLeDiff, Int.reduceEq, Int.reduceLT, Int.reduceLE, Int.reduceAdd, Int.reduceSub, Int.cast_ofNat_Int, isi_tuple, isi_list, isi_int, isi_bool, isi_str, isi_none, reduceCtorEq, Bool.true_eq_false, Nat.min_self]
        refine ⟨by omega, ?_⟩
        refine wComp_mapA dN (fun p => .tuple [.int p.1, .int p.2.1]) (fun p hpt K hK => ?_) ?_
        · have e2 : ∀ a b c : D, Dv.cutD [a, b, c] none (some 2) = [a, b] := fun a b c => cutN_to [a, b, c] 2
          simp only [↓e_sSeq, ↓e_sNext, ↓e_sBreak, ↓e_sCont, ↓e_sDrop, ↓e_sRet, ↓e_sRetV, ↓e_sRetN, ↓e_sIfS, ↓e_sAsg, ↓e_sFor, ↓e_sVar, ↓e_sRV, ↓e_sRE, ↓e_sC, ↓e_aNil, ↓e_aCons, ↓e_ar, ↓e_dNil, ↓e_dCons, ↓e_fz, ↓e_sLst, ↓e_sTup, ↓e_s1, ↓e_s2, ↓e_s3, ↓e_s4, ↓e_rs, ↓e_sT, ↓e_sAnd, ↓e_sOr, ↓e_sNot, ↓e_vB, ↓e_sAndV, ↓e_sOrV, ↓e_sNotV, ↓e_sIf, ↓e_sgName, ↓e_cellOf, ↓e_sgNil, ↓e_sgCons, ↓e_sgTup, ↓e_sIt, ↓e_sRng1, ↓e_sRng2, ↓e_sEnum, ↓e_sZip, ↓e_sRev, ↓e_sRevR, ↓e_sRg1, ↓e_sRg2, ↓sI, ↓e_sLstR, ↓e_sCall, ↓e_sMeth, ↓e_sSetIx, ↓e_sAugIx, ↓e_sAug, ↓e_sSl, ↓e_pNo, ↓e_pSome, ↓e_sLc, ↓e_sYes, ↓e_sStep, ↓e_sIxG, ↓e_oAdd, ↓e_oI, ↓e_oI0, ↓e_oSub, ↓e_oMul, ↓e_oFdiv, ↓e_oMod, ↓e_oPow, ↓e_oShl, ↓e_oShr, ↓e_oNeg, ↓e_oEq, ↓e_oNe, ↓e_oLtI, ↓e_oLeI, ↓e_oGtI, ↓e_oGeI, ↓e_oIs, ↓e_oIn, ↓e_oIx, ↓e_oSl, ↓e_oLen, ↓e_oAbs, ↓e_oInt, ↓e_oMax2, ↓e_oMin2, ↓e_oList, ↓e_oTuple, ↓e_oIsi, ↓e_oAddI, ↓e_mAppend, ↓e_mExtend, ↓e_mPop, ↓e_mPopAt, ↓e_mInsert, ↓ng, ↓isNone, ↓e_noFd, ↓e_cells0, ↓arCell, ↓e_sTurn, ↓e_wip0, ↓e_wip1, ↓e_sIndex, List.map_cons, List.map_nil, List.length_cons, List.length_nil, List.cons_append, List.nil_append, List.replicate, Nat.reduceAdd, Nat.reduceSub, Nat.zero_add, List.getElem?_cons_zero, List.getElem?_cons_succ, List.set_cons_zero, List.set_cons_succ, if_true, if_false, ↓reduceIte, Bool.false_eq_true, true_and, and_true, not_true_eq_false, not_false_eq_true, decide_eq_true_eq, Bool.not_true, Bool.not_false, Bool.not_not, Bool.not_eq_true', decide_eq_false_iff_not, List.length_map, atI0, atI1, atI2, Nat.reduceLeDiff, Int.reduceEq, Int.reduceLT, Int.reduceLE, Int.reduceAdd, Int.reduceSub, Int.cast_ofNat_Int, isi_tuple, isi_list, isi_int, isi_bool, isi_str, isi_none, reduceCtorEq, Bool.true_eq_false, Nat.min_self, dN, e2]
          exact ⟨by decide, hK _ _ rfl⟩
        · refine hK ⟨[.im (.int n), .im (.list (t.map dN)), .im (dI ns), c, .mu (prs t), .un, .un], kx⟩ ?_
          clear hK
          simp only [↓e_sSeq, ↓e_sNext, ↓e_sBreak, ↓e_sCont, ↓e_sDrop, ↓e_sRet, ↓e_sRetV, ↓e_sRetN, ↓e_sIfS, ↓e_sAsg, ↓e_sFor, ↓e_sVar, ↓e_sRV, ↓e_sRE, ↓e_sC, ↓e_aNil, ↓e_aCons, ↓e_ar, ↓e_dNil, ↓e_dCons, ↓e_fz, ↓e_sLst, ↓e_sTup, ↓e_s1, ↓e_s2, ↓e_s3, ↓e_s4, ↓e_rs, ↓e_sT, ↓e_sAnd, ↓e_sOr, ↓e_sNot, ↓e_vB, ↓e_sAndV, ↓e_sOrV, ↓e_sNotV, ↓e_sIf, ↓e_sgName, ↓e_cellOf, ↓e_sgNil, ↓e_sgCons, ↓e_sgTup, ↓e_sIt, ↓e_sRng1, ↓e_sRng2, ↓e_sEnum, ↓e_sZip, ↓e_sRev, ↓e_sRevR, ↓e_sRg1, ↓e_sRg2, ↓sI, ↓e_sLstR, ↓e_sCall, ↓e_sMeth, ↓e_sSetIx, ↓e_sAugIx, ↓e_sAug, ↓e_sSl, ↓e_pNo, ↓e_pSome, ↓e_sLc, ↓e_sYes, ↓e_sStep, ↓e_sIxG, ↓e_oAdd, ↓e_oI, ↓e_oI0, ↓e_oSub, ↓e_oMul, ↓e_oFdiv, ↓e_oMod, ↓e_oPow, ↓e_oShl, ↓e_oShr, ↓e_oNeg, ↓e_oEq, ↓e_oNe, ↓e_oLtI, ↓e_oLeI, ↓e_oGtI, ↓e_oGeI, ↓e_oIs, ↓e_oIn, ↓e_oIx, ↓e_oSl, ↓e_oLen, ↓e_oAbs, ↓e_oInt, ↓e_oMax2, ↓e_oMin2, ↓e_oList, ↓e_oTuple, ↓e_oIsi, ↓e_oAddI, ↓e_mAppend, ↓e_mExtend, ↓e_mPop, ↓e_mPopAt, ↓e_mInsert, ↓ng, ↓isNone, ↓e_noFd, ↓e_cells0, ↓arCell, ↓e_sTurn, ↓e_wip0, ↓e_wip1, ↓e_sIndex, List.map_cons, List.map_nil, List.length_cons, List.length_nil, List.cons_append, List.nil_append, List.replicate, Nat.reduceAdd, Nat.reduceSub, Nat.zero_add, List.getElem?_cons_zero, List.getElem?_cons_succ, List.set_cons_zero, List.set_cons_succ, if_true, if_false, ↓reduceIte, Bool.false_eq_true, true_and, and_true, not_true_eq_false, not_false_eq_true, decide_eq_true_eq, Bool.not_true, Bool.not_false, Bool.not_not, Bool.not_eq_true', decide_eq_false_iff_not, List.length_map, atI0, atI1, atI2, Nat.reduceLeDiff, Int.reduceEq, Int.reduceLT, Int.reduceLE, Int.reduceAdd, Int.reduceSub, Int.cast_ofNat_Int, isi_tuple, isi_list, isi_int, isi_bool, isi_str, isi_none, reduceCtorEq, Bool.true_eq_false, Nat.min_self]
          refine ⟨by omega, by omega, by rw [rngD_length]; omega, ?_⟩
          refine wComp_rngF (fun i => if hasP t (nb ns i) then none else some (.int i)) (fun i hi K hK => ?_) ?_
          · have hi : i < ns.length := by omega
            have hd := dep_prs t
            by_cases g : hasP t (nb ns i) = true
            · rw [if_pos g] at hK
              unfold hasP nb at g
              simp only [↓e_sSeq, ↓e_sNext, ↓e_sBreak, ↓e_sCont, ↓e_sDrop, ↓e_sRet, ↓e_sRetV, ↓e_sRetN, ↓e_sIfS, ↓e_sAsg, ↓e_sFor, ↓e_sVar, ↓e_sRV, ↓e_sRE, ↓e_sC, ↓e_aNil, ↓e_aCons, ↓e_ar, ↓e_dNil, ↓e_dCons, ↓e_fz, ↓e_sLst, ↓e_sTup, ↓e_s1, ↓e_s2, ↓e_s3, ↓e_s4, ↓e_rs, ↓e_sT, ↓e_sAnd, ↓e_sOr, ↓e_sNot, ↓e_vB, ↓e_sAndV, ↓e_sOrV, ↓e_sNotV, ↓e_sIf, ↓e_sgName, ↓e_cellOf, ↓e_sgNil, ↓e_sgCons, ↓e_sgTup, ↓e_sIt, ↓e_sRng1, ↓e_sRng2, ↓e_sEnum, ↓e_sZip, ↓e_sRev, ↓e_sRevR, ↓e_sRg1, ↓e_sRg2, ↓sI, ↓e_sLstR, ↓e_sCall, ↓e_sMeth, ↓e_sSetIx, ↓e_sAugIx, ↓e_sAug, ↓e_sSl, ↓e_pNo, ↓e_pSome, ↓e_sLc, ↓e_sYes, ↓e_sStep, ↓e_sIxG, ↓e_oAdd, ↓e_oI, ↓e_oI0, ↓e_oSub, ↓e_oMul, ↓e_oFdiv, ↓e_oMod, ↓e_oPow, ↓e_oShl, ↓e_oShr, ↓e_oNeg, ↓e_oEq, ↓e_oNe, ↓e_oLtI, ↓e_oLeI, ↓e_oGtI, ↓e_oGeI, ↓e_oIs, ↓e_oIn, ↓e_oIx, ↓e_oSl, ↓e_oLen, ↓e_oAbs, ↓e_oInt, ↓e_oMax2, ↓e_oMin2, ↓e_oList, ↓e_oTuple, ↓e_oIsi, ↓e_oAddI, ↓e_mAppend, ↓e_mExtend, ↓e_mPop, ↓e_mPopAt, ↓e_mInsert, ↓ng, ↓isNone, ↓e_noFd, ↓e_cells0, ↓arCell, ↓e_sTurn, ↓e_wip0, ↓e_wip1, ↓e_sIndex, List.map_cons, List.map_nil, List.length_cons, List.length_nil, List.cons_append, List.nil_append, List.replicate, Nat.reduceAdd, Nat.reduceSub, Nat.zero_add, List.getElem?_cons_zero, List.getElem?_cons_succ, List.set_cons_zero, List.set_cons_succ, if_true, if_false, ↓reduceIte, Bool.false_eq_true, true_and, and_true, not_true_eq_false, not_false_eq_true, decide_eq_true_eq, Bool.not_true, Bool.not_false, Bool.not_not, Bool.not_eq_true', decide_eq_false_iff_not, List.length_map, atI0, atI1, atI2, Nat.reduceLeDiff, Int.reduceEq, Int.reduceLT, Int.reduceLE, Int.reduceAdd, Int.reduceSub, Int.cast_ofNat_Int, isi_tuple, isi_list, isi_int, isi_bool, isi_str, isi_none, reduceCtorEq, Bool.true_eq_false, Nat.min_self, Int.zero_add, dI, atI_prev hi, rk_at (ns := ns) (i := (i : Int)) (by omega) (by omega), g]
              exact ⟨by omega, hK _ _ rfl⟩
            · rw [if_neg g] at hK
              have g : hasP t (nb ns i) = false := by simpa using g
              unfold hasP nb at g
              simp only [↓e_sSeq, ↓e_sNext, ↓e_sBreak, ↓e_sCont, ↓e_sDrop, ↓e_sRet, ↓e_sRetV, ↓e_sRetN, ↓e_sIfS, ↓e_sAsg, ↓e_sFor, ↓e_sVar, ↓e_sRV, ↓e_sRE, ↓e_sC, ↓e_aNil, ↓e_aCons, ↓e_ar, ↓e_dNil, ↓e_dCons, ↓e_fz, ↓e_sLst, ↓e_sTup, ↓e_s1, ↓e_s2, ↓e_s3, ↓e_s4, ↓e_rs, ↓e_sT, ↓e_sAnd, ↓e_sOr, ↓e_sNot, ↓e_vB, ↓e_sAndV, ↓e_sOrV, ↓e_sNotV, ↓e_sIf, ↓e_sgName, ↓e_cellOf, ↓e_sgNil, ↓e_sgCons, ↓e_sgTup, ↓e_sIt, ↓e_sRng1, ↓e_sRng2, ↓e_sEnum, ↓e_sZip, ↓e_sRev, ↓e_sRevR, ↓e_sRg1, ↓e_sRg2, ↓sI, ↓e_sLstR, ↓e_sCall, ↓e_sMeth, ↓e_sSetIx, ↓e_sAugIx, ↓e_sAug, ↓e_sSl, ↓e_pNo, ↓e_pSome, ↓e_sLc, ↓e_sYes, ↓e_sStep, ↓e_sIxG, ↓e_oAdd, ↓e_oI, ↓e_oI0, ↓e_oSub, ↓e_oMul, ↓e_oFdiv, ↓e_oMod, ↓e_oPow, ↓e_oShl, ↓e_oShr, ↓e_oNeg, ↓e_oEq, ↓e_oNe, ↓e_oLtI, ↓e_oLeI, ↓e_oGtI, ↓e_oGeI, ↓e_oIs, ↓e_oIn, ↓e_oIx, ↓e_oSl, ↓e_oLen, ↓e_oAbs, ↓e_oInt, ↓e_oMax2, ↓e_oMin2, ↓e_oList, ↓e_oTuple, ↓e_oIsi, ↓e_oAddI, ↓e_mAppend, ↓e_mExtend, ↓e_mPop, ↓e_mPopAt, ↓e_mInsert, ↓ng, ↓isNone, ↓e_noFd, ↓e_cells0, ↓arCell, ↓e_sTurn, ↓e_wip0, ↓e_wip1, ↓e_sIndex, List.map_cons, List.map_nil, List.length_cons, List.length_nil, List.cons_append, List.nil_append, List.replicate, Nat.reduceAdd, Nat.reduceSub, Nat.zero_add, List.getElem?_cons_zero, List.getElem?_cons_succ, List.set_cons_zero, List.set_cons_succ, if_true, if_false, ↓reduceIte, Bool.false_eq_true, true_and, and_true, not_true_eq_false, not_false_eq_true, decide_eq_true_eq, Bool.not_true, Bool.not_false, Bool.not_not, Bool.not_eq_true', decide_eq_false_iff_not, List.length_map, atI0, atI1, atI2, Nat.reduceLeDiff, Int.reduceEq, Int.reduceLT, Int.reduceLE, Int.reduceAdd, Int.reduceSub, Int.cast_ofNat_Int, isi_tuple, isi_list, isi_int, isi_bool, isi_str, isi_none, reduceCtorEq, Bool.true_eq_false, Nat.min_self, Int.zero_add, dI, atI_prev hi, rk_at (ns := ns) (i := (i : Int)) (by omega) (by omega), g]
              exact ⟨by omega, hK _ _ rfl⟩
          · rw [Int.toNat_natCast, filt_all]
            exact h
      · rintro i x ρ kk hx ⟨c, rfl, hg⟩ hk
        unfold b1__law_is_ring
        have hbad : ¬ (wholeB x = true ∧ 0 ≤ toI x ∧ toI x < n) → k (.im (.bool false)) := fun z => by
          have : jG n t (.list ds) = false := by
            rw [jG_list]
            by_cases g1 : wholeB x = true
            · have : (ds.all fun d => decide (0 ≤ toI d ∧ toI d < n)) = false := List.all_eq_false.mpr ⟨x, List.mem_of_getElem? hx, by simpa using fun y y2 => z ⟨g1, y, y2⟩⟩
              rw [this, Bool.and_false]; rfl
            · have : ds.all wholeB = false := List.all_eq_false.mpr ⟨x, List.mem_of_getElem? hx, g1⟩
              rw [this]; rfl
          rwa [this] at h
        by_cases g1 : wholeB x = true
        · obtain ⟨i0, rfl⟩ : ∃ i, x = .int i := ⟨_, whole_toI g1⟩
          by_cases g2 : 0 ≤ i0
          · by_cases g3 : i0 < n
            · simp only [↓e_sSeq, ↓e_sNext, ↓e_sBreak, ↓e_sCont, ↓e_sDrop, ↓e_sRet, ↓e_sRetV, ↓e_sRetN, ↓e_sIfS, ↓e_sAsg, ↓e_sFor, ↓e_sVar, ↓e_sRV, ↓e_sRE, ↓e_sC, ↓e_aNil, ↓e_aCons, ↓e_ar, ↓e_dNil, ↓e_dCons, ↓e_fz, ↓e_sLst, ↓e_sTup, ↓e_s1, ↓e_s2, ↓e_s3, ↓e_s4, ↓e_rs, ↓e_sT, ↓e_sAnd, ↓e_sOr, ↓e_sNot, ↓e_vB, ↓e_sAndV, ↓e_sOrV, ↓e_sNotV, ↓e_sIf, ↓e_sgName, ↓e_cellOf, ↓e_sgNil, ↓e_sgCons, ↓e_sgTup, ↓e_sIt, ↓e_sRng1, ↓e_sRng2, ↓e_sEnum, ↓e_sZip, ↓e_sRev, ↓e_sRevR, ↓e_sRg1, ↓e_sRg2, ↓sI, ↓e_sLstR, ↓e_sCall, ↓e_sMeth, ↓e_sSetIx, ↓e_sAugIx, ↓e_sAug, ↓e_sSl, ↓e_pNo, ↓e_pSome, ↓e_sLc, ↓e_sYes, ↓e_sStep, ↓e_sIxG, ↓e_oAdd, ↓e_oI, ↓e_oI0, ↓e_oSub, ↓e_oMul, ↓e_oFdiv, ↓e_oMod, ↓e_oPow, ↓e_oShl, ↓e_oShr, ↓e_oNeg, ↓e_oEq, ↓e_oNe, ↓e_oLtI, ↓e_oLeI, ↓e_oGtI, ↓e_oGeI, ↓e_oIs, ↓e_oIn, ↓e_oIx, ↓e_oSl, ↓e_oLen, ↓e_oAbs, ↓e_oInt, ↓e_oMax2, ↓e_oMin2, ↓e_oList, ↓e_oTuple, ↓e_oIsi, ↓e_oAddI, ↓e_mAppend, ↓e_mExtend, ↓e_mPop, ↓e_mPopAt, ↓e_mInsert, ↓ng, ↓isNone, ↓e_noFd, ↓e_cells0, ↓arCell, ↓e_sTurn, ↓e_wip0, ↓e_wip1, ↓e_sIndex, List.map_cons, List.map_nil, List.length_cons, List.length_nil, List.cons_append, List.nil_append, List.replicate, Nat.reduceAdd, Nat.reduceSub, Nat.zero_add, List.getElem?_cons_zero, List.getElem?_cons_succ, List.set_cons_zero, List.set_cons_succ, if_true, if_false, ↓reduceIte, Bool.false_eq_true, true_and, and_true, not_true_eq_false, not_false_eq_true, decide_eq_true_eq, Bool.not_true, Bool.not_false, Bool.not_not, Bool.not_eq_true', decide_eq_false_iff_not, List.length_map, atI0, atI1, atI2, Nat.reduceLeDiff, Int.reduceEq, Int.reduceLT, Int.reduceLE, Int.reduceAdd, Int.reduceSub, Int.cast_ofNat_Int, isi_tuple, isi_list, isi_int, isi_bool, isi_str, isi_none, reduceCtorEq, Bool.true_eq_false, Nat.min_self, F_is_whole_ap, g1, g2, g3, decide_true]
              refine hk _ ⟨_, rfl, fun j y hj hy => ?_⟩
              by_cases e : j = i
              · subst e
                rw [hx] at hy
                cases hy
                exact ⟨rfl, g2, g3⟩
              · exact hg j y (by omega) hy
            · simp only [↓e_sSeq, ↓e_sNext, ↓e_sBreak, ↓e_sCont, ↓e_sDrop, ↓e_sRet, ↓e_sRetV, ↓e_sRetN, ↓e_sIfS, ↓e_sAsg, ↓e_sFor, ↓e_sVar, ↓e_sRV, ↓e_sRE, ↓e_sC, ↓e_aNil, ↓e_aCons, ↓e_ar, ↓e_dNil, ↓e_dCons, ↓e_fz, ↓e_sLst, ↓e_sTup, ↓e_s1, ↓e_s2, ↓e_s3, ↓e_s4, ↓e_rs, ↓e_sT, ↓e_sAnd, ↓e_sOr, ↓e_sNot, ↓e_vB, ↓e_sAndV, ↓e_sOrV, ↓e_sNotV, ↓e_sIf, ↓e_sgName, ↓e_cellOf, ↓e_sgNil, ↓e_sgCons, ↓e_sgTup, ↓e_sIt, ↓e_sRng1, ↓e_sRng2, ↓e_sEnum, ↓e_sZip, ↓e_sRev, ↓e_sRevR, ↓e_sRg1, ↓e_sRg2, ↓sI, ↓e_sLstR, ↓e_sCall, ↓e_sMeth, ↓e_sSetIx, ↓e_sAugIx, ↓e_sAug, ↓e_sSl, ↓e_pNo, ↓e_pSome, ↓e_sLc, ↓e_sYes, ↓e_sStep, ↓e_sIxG, ↓e_oAdd, ↓e_oI, ↓e_oI0, ↓e_oSub, ↓e_oMul, ↓e_oFdiv, ↓e_oMod, ↓e_oPow, ↓e_oShl, ↓e_oShr, ↓e_oNeg, ↓e_oEq, ↓e_oNe, ↓e_oLtI, ↓e_oLeI, ↓e_oGtI, ↓e_oGeI, ↓e_oIs, ↓e_oIn, ↓e_oIx, ↓e_oSl, ↓e_oLen, ↓e_oAbs, ↓e_oInt, ↓e_oMax2, ↓e_oMin2, ↓e_oList, ↓e_oTuple, ↓e_oIsi, ↓e_oAddI, ↓e_mAppend, ↓e_mExtend, ↓e_mPop, ↓e_mPopAt, ↓e_mInsert, ↓ng, ↓isNone, ↓e_noFd, ↓e_cells0, ↓arCell, ↓e_sTurn, ↓e_wip0, ↓e_wip1, ↓e_sIndex, List.map_cons, List.map_nil, List.length_cons, List.length_nil, List.cons_append, List.nil_append, List.replicate, Nat.reduceAdd, Nat.reduceSub, Nat.zero_add, List.getElem?_cons_zero, List.getElem?_cons_succ, List.set_cons_zero, List.set_cons_succ, if_true, if_false, ↓reduceIte, Bool.false_eq_true, true_and, and_true, not_true_eq_false, not_false_eq_true, decide_eq_true_eq, Bool.not_true, Bool.not_false, Bool.not_not, Bool.not_eq_true', decide_eq_false_iff_not, List.length_map, atI0, atI1, atI2, Nat.reduceLeDiff, Int.reduceEq, Int.reduceLT, Int.reduceLE, Int.reduceAdd, Int.reduceSub, Int.cast_ofNat_Int, isi_tuple, isi_list, isi_int, isi_bool, isi_str, isi_none, reduceCtorEq, Bool.true_eq_false, Nat.min_self, F_is_whole_ap, g1, g2, g3, decide_true, decide_false]
              exact hbad fun z => g3 z.2.2
          · simp only [↓e_sSeq, ↓e_sNext, ↓e_sBreak, ↓e_sCont, ↓e_sDrop, ↓e_sRet, ↓e_sRetV, ↓e_sRetN, ↓e_sIfS, ↓e_sAsg, ↓e_sFor, ↓e_sVar, ↓e_sRV, ↓e_sRE, ↓e_sC, ↓e_aNil, ↓e_aCons, ↓e_ar, ↓e_dNil, ↓e_dCons, ↓e_fz, ↓e_sLst, ↓e_sTup, ↓e_s1, ↓e_s2, ↓e_s3, ↓e_s4, ↓e_rs, ↓e_sT, ↓e_sAnd, ↓e_sOr, ↓e_sNot, ↓e_vB, ↓e_sAndV, ↓e_sOrV, ↓e_sNotV, ↓e_sIf, ↓e_sgName, ↓e_cellOf, ↓e_sgNil, ↓e_sgCons, ↓e_sgTup, ↓e_sIt, ↓e_sRng1, ↓e_sRng2, ↓e_sEnum, ↓e_sZip, ↓e_sRev, ↓e_sRevR, ↓e_sRg1, ↓e_sRg2, ↓sI, ↓e_sLstR, ↓e_sCall, ↓e_sMeth, ↓e_sSetIx, ↓e_sAugIx, ↓e_sAug, ↓e_sSl, ↓e_pNo, ↓e_pSome, ↓e_sLc, ↓e_sYes, ↓e_sStep, ↓e_sIxG, ↓e_oAdd, ↓e_oI, ↓e_oI0, ↓e_oSub, ↓e_oMul, ↓e_oFdiv, ↓e_oMod, ↓e_oPow, ↓e_oShl, ↓e_oShr, ↓e_oNeg, ↓e_oEq, ↓e_oNe, ↓e_oLtI, ↓e_oLeI, ↓e_oGtI, ↓e_oGeI, ↓e_oIs, ↓e_oIn, ↓e_oIx, ↓e_oSl, ↓e_oLen, ↓e_oAbs, ↓e_oInt, ↓e_oMax2, ↓e_oMin2, ↓e_oList, ↓e_oTuple, ↓e_oIsi, ↓e_oAddI, ↓e_mAppend, ↓e_mExtend, ↓e_mPop, ↓e_mPopAt, ↓e_mInsert, ↓ng, ↓isNone, ↓e_noFd, ↓e_cells0, ↓arCell, ↓e_sTurn, ↓e_wip0, ↓e_wip1, ↓e_sIndex, List.map_cons, List.map_nil, List.length_cons, List.length_nil, List.cons_append, List.nil_append, List.replicate, Nat.reduceAdd, Nat.reduceSub, Nat.zero_add, List.getElem?_cons_zero, List.getElem?_cons_succ, List.set_cons_zero, List.set_cons_succ, if_true, if_false, ↓reduceIte, Bool.false_eq_true, true_and, and_true, not_true_eq_false, not_false_eq_true, decide_eq_true_eq, Bool.not_true, Bool.not_false, Bool.not_not, Bool.not_eq_true', decide_eq_false_iff_not, List.length_map, atI0, atI1, atI2, Nat.reduceLeDiff, Int.reduceEq, Int.reduceLT, Int.reduceLE, Int.reduceAdd, Int.reduceSub, Int.cast_ofNat_Int, isi_tuple, isi_list, isi_int, isi_bool, isi_str, isi_none, reduceCtorEq, Bool.true_eq_false, Nat.min_self, F_is_whole_ap, g1, g2, decide_false]
            exact hbad fun z => g2 z.2.1
        · have g1' : wholeB x = false := by simpa using g1
          simp only [↓e_sSeq, ↓e_sNext, ↓e_sBreak, ↓e_sCont, ↓e_sDrop, ↓e_sRet, ↓e_sRetV, ↓e_sRetN, ↓e_sIfS, ↓e_sAsg, ↓e_sFor, ↓e_sVar, ↓e_sRV, ↓e_sRE, ↓e_sC, ↓e_aNil, ↓e_aCons, ↓e_ar, ↓e_dNil, ↓e_dCons, ↓e_fz, ↓e_sLst, ↓e_sTup, ↓e_s1, ↓e_s2, ↓e_s3, ↓e_s4, ↓e_rs, ↓e_sT, ↓e_sAnd, ↓e_sOr, ↓e_sNot, ↓e_vB, ↓e_sAndV, ↓e_sOrV, ↓e_sNotV, ↓e_sIf, ↓e_sgName, ↓e_cellOf, ↓e_sgNil, ↓e_sgCons, ↓e_sgTup, ↓e_sIt, ↓e_sRng1, ↓e_sRng2, ↓e_sEnum, ↓e_sZip, ↓e_sRev, ↓e_sRevR, ↓e_sRg1, ↓e_sRg2, ↓sI, ↓e_sLstR, ↓e_sCall, ↓e_sMeth, ↓e_sSetIx, ↓e_sAugIx, ↓e_sAug, ↓e_sSl, ↓e_pNo, ↓e_pSome, ↓e_sLc, ↓e_sYes, ↓e_sStep, ↓e_sIxG, ↓e_oAdd, ↓e_oI, ↓e_oI0, ↓e_oSub, ↓e_oMul, ↓e_oFdiv, ↓e_oMod, ↓e_oPow, ↓e_oShl, ↓e_oShr, ↓e_oNeg, ↓e_oEq, ↓e_oNe, ↓e_oLtI, ↓e_oLeI, ↓e_oGtI, ↓e_oGeI, ↓e_oIs, ↓e_oIn, ↓e_oIx, ↓e_oSl, ↓e_oLen, ↓e_oAbs, ↓e_oInt, ↓e_oMax2, ↓e_oMin2, ↓e_oList, ↓e_oTuple, ↓e_oIsi, ↓e_oAddI, ↓e_mAppend, ↓e_mExtend, ↓e_mPop, ↓e_mPopAt, ↓e_mInsert, ↓ng, ↓isNone, ↓e_noFd, ↓e_cells0, ↓arCell, ↓e_sTurn, ↓e_wip0, ↓e_wip1, ↓e_sIndex, List.map_cons, List.map_nil, List.length_cons, List.length_nil, List.cons_append, List.nil_append, List.replicate, Nat.reduceAdd, Nat.reduceSub, Nat.zero_add, List.getElem?_cons_zero, List.getElem?_cons_succ, List.set_cons_zero, List.set_cons_succ, if_true, if_false, ↓reduceIte, Bool.false_eq_true, true_and, and_true, not_true_eq_false, not_false_eq_true, decide_eq_true_eq, Bool.not_true, Bool.not_false, Bool.not_not, Bool.not_eq_true', decide_eq_false_iff_not, List.length_map, atI0, atI1, atI2, Nat.reduceLeDiff, Int.reduceEq, Int.reduceLT, Int.reduceLE, Int.reduceAdd, Int.reduceSub, Int.cast_ofNat_Int, isi_tuple, isi_list, isi_int, isi_bool, isi_str, isi_none, reduceCtorEq, Bool.true_eq_false, Nat.min_self, F_is_whole_ap, g1']
          exact hbad fun z => g1 z.1
  · rw [hj] at h
    refine seq_step fun K hK => ?_; simp only [↓e_sNext, ↓e_sBreak, ↓e_sCont, ↓e_sDrop, ↓e_sRet, ↓e_sRetV, ↓e_sRetN, ↓e_sIfS, ↓e_sAsg, ↓e_sFor, ↓e_sVar, ↓e_sRV, ↓e_sRE, ↓e_sC, ↓e_aNil, ↓e_aCons, ↓e_ar, ↓e_dNil, ↓e_dCons, ↓e_fz, ↓e_sLst, ↓e_sTup, ↓e_s1, ↓e_s2, ↓e_s3, ↓e_s4, ↓e_rs, ↓e_sT, ↓e_sAnd, ↓e_sOr, ↓e_sNot, ↓e_vB, ↓e_sAndV, ↓e_sOrV, ↓e_sNotV, ↓e_sIf, ↓e_sgName, ↓e_cellOf, ↓e_sgNil, ↓e_sgCons, ↓e_sgTup, ↓e_sIt, ↓e_sRng1, ↓e_sRng2, ↓e_sEnum, ↓e_sZip, ↓e_sRev, ↓e_sRevR, ↓e_sRg1, ↓e_sRg2, ↓sI, ↓e_sLstR, ↓e_sCall, ↓e_sMeth, ↓e_sSetIx, ↓e_sAugIx, ↓e_sAug, ↓e_sSl, ↓e_pNo, ↓e_pSome, ↓e_sLc, ↓e_sYes, ↓e_sStep, ↓e_sIxG, ↓e_oAdd, ↓e_oI, ↓e_oI0, ↓e_oSub, ↓e_oMul, ↓e_oFdiv, ↓e_oMod, ↓e_oPow, ↓e_oShl, ↓e_oShr, ↓e_oNeg, ↓e_oEq, ↓e_oNe, ↓e_oLtI, ↓e_oLeI, ↓e_oGtI, ↓e_oGeI, ↓e_oIs, ↓e_oIn, ↓e_oIx, ↓e_oSl, ↓e_oLen, ↓e_oAbs, ↓e_oInt, ↓e_oMax2, ↓e_oMin2, ↓e_oList, ↓e_oTuple, ↓e_oIsi, ↓e_oAddI, ↓e_mAppend, ↓e_mExtend, ↓e_mPop, ↓e_mPopAt, ↓e_mInsert, ↓ng, ↓isNone, ↓e_noFd, ↓e_cells0, ↓arCell, ↓e_sTurn, ↓e_wip0, ↓e_wip1, ↓e_sIndex, List.map_cons, List.map_nil, List.length_cons, List.length_nil, List.cons_append, List.nil_append, List.replicate, Nat.reduceAdd, Nat.reduceSub, Nat.zero_add, List.getElem?_cons_zero, List.getElem?_cons_succ, List.set_cons_zero, List.set_cons_succ, if_true, if_false, ↓reduceIte, Bool.false_eq_true, true_and, and_true, not_true_eq_false, not_false_eq_true, decide_eq_true_eq, Bool.not_true, Bool.not_false, Bool.not_not, Bool.not_eq_true', decide_eq_false_iff_not, List.length_map, atI0, atI1, atI2, Nat.reduceLeDiff, Int.reduceEq, Int.reduceLT, Int.reduceLE, Int.reduceAdd, Int.reduceSub, Int.cast_ofNat_Int, isi_tuple, isi_list, isi_int, isi_bool, isi_str, isi_none, reduceCtorEq, Bool.true_eq_false, Nat.min_self, hn]
    exact h
theorem F__law_is_ring_ap {n : Int} {t : NT} {d : D} (ok : t.length ≤ 1000) (hp : Pap d) {k kx} (h : k (.im (.bool (jG n t d)))) : F__law_is_ring [.d (.int n), .d (.list (t.map dN)), .d d] k kx := ⟨n, t, d, rfl, ok, hp, h⟩
end Lw

namespace Lw
open PySem PySem.Spec L2 Dv
open PyProof.Rows hiding St
theorem F__law_draw_ap {m : Int} {k kx} : F_draw [.fd, .d (.int m)] k kx = (0 < m ∧ m < 1073741824 ∧ ∀ r : Int, 0 ≤ r → r < m → k (.im (.int r))) :=
  propext ⟨fun ⟨n', e, h⟩ => by injection e with _ e; injection e with e1 e; injection e1 with e1; injection e1 with e1; rw [e1]; exact h, fun h => ⟨m, rfl, h⟩⟩
def rgI (n : Nat) : List Int := (List.range n).map fun i : Nat => (i : Int)
def F__law_mixed : Fn := fun as k _ => ∃ n : Nat, as = [.fd, .d (.int n)] ∧ n ≤ 1000 ∧ ∀ out : List Int, out.Perm (rgI n) → k (.fr (out.map .int))
theorem len__law_mixed : ∀ as k kx, F__law_mixed as k kx → as.length = 2 := by rintro as k kx ⟨_, rfl, _⟩; rfl
theorem rngD_rgI (n : Nat) : rngD 0 n = (rgI n).map PyData.int := by
  unfold rngD rgI
  rw [List.map_map]
  refine List.map_congr_left fun i _ => ?_
  show PyData.int (0 + (i : Int)) = PyData.int i
  rw [Int.zero_add]
theorem ixN_nat {n : Nat} {i : Int} (h0 : 0 ≤ i) (h1 : i < n) : L2.ixN n i = some i.toNat := by
  unfold L2.ixN
  rw [if_pos h0, if_pos h1]
theorem eraseIdx_mapI : ∀ (l : List Int) (i : Nat), (l.map PyData.int).eraseIdx i = (l.eraseIdx i).map PyData.int
  | [], _ => rfl
  | _ :: _, 0 => rfl
  | x :: l, i + 1 => by
    rw [List.map_cons, List.eraseIdx_cons_succ, List.eraseIdx_cons_succ, List.map_cons, eraseIdx_mapI l i]
theorem perm_erase : ∀ (l : List Int) (i : Nat) (h : i < l.length), ([l[i]] ++ l.eraseIdx i).Perm l
  | _ :: _, 0, _ => .refl _
  | x :: l, i + 1, h => by
    have := perm_erase l i (Nat.lt_of_succ_lt_succ h)
    rw [List.eraseIdx_cons_succ]
    exact (List.Perm.swap _ _ _).trans (this.cons x)
theorem w__law_mixed : ∀ as k kx, F__law_mixed as k kx → m__law_mixed F_draw ⟨cells0 5 as, kx⟩ { nx := fun _ => k (.im .none), rt := fun v _ => noFd k v } := by
  rintro as k kx ⟨n, rfl, hn, h⟩
  unfold m__law_mixed
  refine seq_step fun K hK => ?_; simp only [↓e_sNext, ↓e_sBreak, ↓e_sCont, ↓e_sDrop, ↓e_sRet, ↓e_sRetV, ↓e_sRetN, ↓e_sIfS, ↓e_sAsg, ↓e_sFor, ↓e_sVar, ↓e_sRV, ↓e_sRE, ↓e_sC, ↓e_aNil, ↓e_aCons, ↓e_ar, ↓e_dNil, ↓e_dCons, ↓e_fz, ↓e_sLst, ↓e_sTup, ↓e_s1, ↓e_s2, ↓e_s3, ↓e_s4, ↓e_rs, ↓e_sT, ↓e_sAnd, ↓e_sOr, ↓e_sNot, ↓e_vB, ↓e_sAndV, ↓e_sOrV, ↓e_sNotV, ↓e_sIf, ↓e_sgName, ↓e_cellOf, ↓e_sgNil, ↓e_sgCons, ↓e_sgTup, ↓e_sIt, ↓e_sRng1, ↓e_sRng2, ↓e_sEnum, ↓e_sZip, ↓e_sRev, ↓e_sRevR, ↓e_sRg1, ↓e_sRg2, ↓sI, ↓e_sLstR, ↓e_sCall, ↓e_sMeth, ↓e_sSetIx, ↓e_sAugIx, ↓e_sAug, ↓e_sSl, ↓e_pNo, ↓e_pSome, ↓e_sLc, ↓e_sYes, ↓e_sStep, ↓e_sIxG, ↓e_oAdd, ↓e_oI, ↓e_oI0, ↓e_oSub, ↓e_oMul, ↓e_oFdiv, ↓e_oMod, ↓e_oPow, ↓e_oShl, ↓e_oShr, ↓e_oNeg, ↓e_oEq, ↓e_oNe, ↓e_oLtI, ↓e_oLeI, ↓e_oGtI, ↓e_oGeI, ↓e_oIs, ↓e_oIn, ↓e_oIx, ↓e_oSl, ↓e_oLen, ↓e_oAbs, ↓e_oInt, ↓e_oMax2, ↓e_oMin2, ↓e_oList, ↓e_oTuple, ↓e_oIsi, ↓e_oAddI, ↓e_mAppend, ↓e_mExtend, ↓e_mPop, ↓e_mPopAt, ↓e_mInsert, ↓ng, ↓isNone, ↓e_noFd, ↓e_cells0, ↓arCell, ↓e_sTurn, ↓e_wip0, ↓e_wip1, ↓e_sIndex, List.map_cons, List.map_nil, List.length_cons, List.length_nil, List.cons_append, List.nil_append, List.replicate, Nat.reduceAdd, Nat.reduceSub, Nat.zero_add, List.getElem?_cons_zero, List.getElem?_cons_succ, List.set_cons_zero, List.set_cons_succ, if_true, if_false, ↓reduceIte, Bool.false_eq_true, true_and, and_true, not_true_eq_false, not_false_eq_true, decide_eq_true_eq, Bool.not_true, Bool.not_false, Bool.not_not, Bool.not_eq_true', decide_eq_false_iff_not, List.length_map, atI0, atI1, atI2, Nat.reduceLeDiff, Int.reduceEq, Int.reduceLT, Int.reduceLE, Int.reduceAdd, Int.reduceSub, Int.cast_ofNat_Int, isi_tuple, isi_list, isi_int, isi_bool, isi_str, isi_none, reduceCtorEq, Bool.true_eq_false, Nat.min_self, e_sLstR]
  refine ⟨⟨by omega, by omega, by omega, by omega, by omega⟩, ?_⟩
  refine hK _ ?_; clear hK; clear K
  refine seq_step fun K hK => ?_; simp only [↓e_sNext, ↓e_sBreak, ↓e_sCont, ↓e_sDrop, ↓e_sRet, ↓e_sRetV, ↓e_sRetN, ↓e_sIfS, ↓e_sAsg, ↓e_sFor, ↓e_sVar, ↓e_sRV, ↓e_sRE, ↓e_sC, ↓e_aNil, ↓e_aCons, ↓e_ar, ↓e_dNil, ↓e_dCons, ↓e_fz, ↓e_sLst, ↓e_sTup, ↓e_s1, ↓e_s2, ↓e_s3, ↓e_s4, ↓e_rs, ↓e_sT, ↓e_sAnd, ↓e_sOr, ↓e_sNot, ↓e_vB, ↓e_sAndV, ↓e_sOrV, ↓e_sNotV, ↓e_sIf, ↓e_sgName, ↓e_cellOf, ↓e_sgNil, ↓e_sgCons, ↓e_sgTup, ↓e_sIt, ↓e_sRng1, ↓e_sRng2, ↓e_sEnum, ↓e_sZip, ↓e_sRev, ↓e_sRevR, ↓e_sRg1, ↓e_sRg2, ↓sI, ↓e_sLstR, ↓e_sCall, ↓e_sMeth, ↓e_sSetIx, ↓e_sAugIx, ↓e_sAug, ↓e_sSl, ↓e_pNo, ↓e_pSome, ↓e_sLc, ↓e_sYes, ↓e_sStep, ↓e_sIxG, ↓e_oAdd, ↓e_oI, ↓e_oI0, ↓e_oSub, ↓e_oMul, ↓e_oFdiv, ↓e_oMod, ↓e_oPow, ↓e_oShl, ↓e_oShr, ↓e_oNeg, ↓e_oEq, ↓e_oNe, ↓e_oLtI, ↓e_oLeI, ↓e_oGtI, ↓e_oGeI, ↓e_oIs, ↓e_oIn, ↓e_oIx, ↓e_oSl, ↓e_oLen, ↓e_oAbs, ↓e_oInt, ↓e_oMax2, ↓e_oMin2, ↓e_oList, ↓e_oTuple, ↓e_oIsi, ↓e_oAddI, ↓e_mAppend, ↓e_mExtend, ↓e_mPop, ↓e_mPopAt, ↓e_mInsert, ↓ng, ↓isNone, ↓e_noFd, ↓e_cells0, ↓arCell, ↓e_sTurn, ↓e_wip0, ↓e_wip1, ↓e_sIndex, List.map_cons, List.map_nil, List.length_cons, List.length_nil, List.cons_append, List.nil_append, List.replicate, Nat.reduceAdd, Nat.reduceSub, Nat.zero_add, List.getElem?_cons_zero, List.getElem?_cons_succ, List.set_cons_zero, List.set_cons_succ, if_true, if_false, ↓reduceIte, Bool.false_eq_true, true_and, and_true, not_true_eq_false, not_false_eq_true, decide_eq_true_eq, Bool.not_true, Bool.not_false, Bool.not_not, Bool.not_eq_true', decide_eq_false_iff_not, List.length_map, atI0, atI1, atI2, Nat.reduceLeDiff, Int.reduceEq, Int.reduceLT, Int.reduceLE, Int.reduceAdd, Int.reduceSub, Int.cast_ofNat_Int, isi_tuple, isi_list, isi_int, isi_bool, isi_str, isi_none, reduceCtorEq, Bool.true_eq_false, Nat.min_self]
  refine hK _ ?_; clear hK; clear K
  refine seq_step fun K hK => ?_; simp only [↓e_sNext, ↓e_sBreak, ↓e_sCont, ↓e_sDrop, ↓e_sRet, ↓e_sRetV, ↓e_sRetN, ↓e_sIfS, ↓e_sAsg, ↓e_sFor, ↓e_sVar, ↓e_sRV, ↓e_sRE, ↓e_sC, ↓e_aNil, ↓e_aCons, ↓e_ar, ↓e_dNil, ↓e_dCons, ↓e_fz, ↓e_sLst, ↓e_sTup, ↓e_s1, ↓e_s2, ↓e_s3, ↓e_s4, ↓e_rs, ↓e_sT, ↓e_sAnd, ↓e_sOr, ↓e_sNot, ↓e_vB, ↓e_sAndV, ↓e_sOrV, ↓e_sNotV, ↓e_sIf, ↓e_sgName, ↓e_cellOf, ↓e_sgNil, ↓e_sgCons, ↓e_sgTup, ↓e_sIt, ↓e_sRng1, ↓e_sRng2, ↓e_sEnum, ↓e_sZip, ↓e_sRev, ↓e_sRevR, ↓e_sRg1, ↓e_sRg2, ↓sI, ↓e_sLstR, ↓e_sCall, ↓e_sMeth, ↓e_sSetIx, ↓e_sAugIx, ↓e_sAug, ↓e_sSl, ↓e_pNo, ↓e_pSome, ↓e_sLc, ↓e_sYes, ↓e_sStep, ↓e_sIxG, ↓e_oAdd, ↓e_oI, ↓e_oI0, ↓e_oSub, ↓e_oMul, ↓e_oFdiv, ↓e_oMod, ↓e_oPow, ↓e_oShl, ↓e_oShr, ↓e_oNeg, ↓e_oEq, ↓e_oNe, ↓e_oLtI, ↓e_oLeI, ↓e_oGtI, ↓e_oGeI, ↓e_oIs, ↓e_oIn, ↓e_oIx, ↓e_oSl, ↓e_oLen, ↓e_oAbs, ↓e_oInt, ↓e_oMax2, ↓e_oMin2, ↓e_oList, ↓e_oTuple, ↓e_oIsi, ↓e_oAddI, ↓e_mAppend, ↓e_mExtend, ↓e_mPop, ↓e_mPopAt, ↓e_mInsert, ↓ng, ↓isNone, ↓e_noFd, ↓e_cells0, ↓arCell, ↓e_sTurn, ↓e_wip0, ↓e_wip1, ↓e_sIndex, List.map_cons, List.map_nil, List.length_cons, List.length_nil, List.cons_append, List.nil_append, List.replicate, Nat.reduceAdd, Nat.reduceSub, Nat.zero_add, List.getElem?_cons_zero, List.getElem?_cons_succ, List.set_cons_zero, List.set_cons_succ, if_true, if_false, ↓reduceIte, Bool.false_eq_true, true_and, and_true, not_true_eq_false, not_false_eq_true, decide_eq_true_eq, Bool.not_true, Bool.not_false, Bool.not_not, Bool.not_eq_true', decide_eq_false_iff_not, List.length_map, atI0, atI1, atI2, Nat.reduceLeDiff, Int.reduceEq, Int.reduceLT, Int.reduceLE, Int.reduceAdd, Int.reduceSub, Int.cast_ofNat_Int, isi_tuple, isi_list, isi_int, isi_bool, isi_str, isi_none, reduceCtorEq, Bool.true_eq_false, Nat.min_self]
  refine ⟨by omega, by omega, ?_⟩
  refine wLoop_rng (fun i ρ => ∃ (left found : List Int) (c : Cell), ρ = ⟨[.fd, .im (.int n), .mu (left.map .int), .mu (found.map .int), c], kx⟩ ∧ (found ++ left).Perm (rgI n) ∧ found.length = i) ⟨rgI n, [], .un, by rw [Int.sub_zero, Int.toNat_natCast, rngD_rgI]; rfl, by rw [List.nil_append], rfl⟩ ?_ ?_
  · rintro ρ ⟨left, found, c, rfl, hp, hl⟩
    refine hK _ ?_; clear hK; clear K
    simp only [↓e_sSeq, ↓e_sNext, ↓e_sBreak, ↓e_sCont, ↓e_sDrop, ↓e_sRet, ↓e_sRetV, ↓e_sRetN, ↓e_sIfS, ↓e_sAsg, ↓e_sFor, ↓e_sVar, ↓e_sRV, ↓e_sRE, ↓e_sC, ↓e_aNil, ↓e_aCons, ↓e_ar, ↓e_dNil, ↓e_dCons, ↓e_fz, ↓e_sLst, ↓e_sTup, ↓e_s1, ↓e_s2, ↓e_s3, ↓e_s4, ↓e_rs, ↓e_sT, ↓e_sAnd, ↓e_sOr, ↓e_sNot, ↓e_vB, ↓e_sAndV, ↓e_sOrV, ↓e_sNotV, ↓e_sIf, ↓e_sgName, ↓e_cellOf, ↓e_sgNil, ↓e_sgCons, ↓e_sgTup, ↓e_sIt, ↓e_sRng1, ↓e_sRng2, ↓e_sEnum, ↓e_sZip, ↓e_sRev, ↓e_sRevR, ↓e_sRg1, ↓e_sRg2, ↓sI, ↓e_sLstR, ↓e_sCall, ↓e_sMeth, ↓e_sSetIx, ↓e_sAugIx, ↓e_sAug, ↓e_sSl, ↓e_pNo, ↓e_pSome, ↓e_sLc, ↓e_sYes, ↓e_sStep, ↓e_sIxG, ↓e_oAdd, ↓e_oI, ↓e_oI0, ↓e_oSub, ↓e_oMul, ↓e_oFdiv, ↓e_oMod, ↓e_oPow, ↓e_oShl, ↓e_oShr, ↓e_oNeg, ↓e_oEq, ↓e_oNe, ↓e_oLtI, ↓e_oLeI, ↓e_oGtI, ↓e_oGeI, ↓e_oIs, ↓e_oIn, ↓e_oIx, ↓e_oSl, ↓e_oLen, ↓e_oAbs, ↓e_oInt, ↓e_oMax2, ↓e_oMin2, ↓e_oList, ↓e_oTuple, ↓e_oIsi, ↓e_oAddI, ↓e_mAppend, ↓e_mExtend, ↓e_mPop, ↓e_mPopAt, ↓e_mInsert, ↓ng, ↓isNone, ↓e_noFd, ↓e_cells0, ↓arCell, ↓e_sTurn, ↓e_wip0, ↓e_wip1, ↓e_sIndex, List.map_cons, List.map_nil, List.length_cons, List.length_nil, List.cons_append, List.nil_append, List.replicate, Nat.reduceAdd, Nat.reduceSub, Nat.zero_add, List.getElem?_cons_zero, List.getElem?_cons_succ, List.set_cons_zero, List.set_cons_succ, if_true, if_false, ↓reduceIte, Bool.false_eq_true, true_and, and_true, not_true_eq_false, not_false_eq_true, decide_eq_true_eq, Bool.not_true, Bool.not_false, Bool.not_not, Bool.not_eq_true', decide_eq_false_iff_not, List.length_map, atI0, atI1, atI2, Nat.reduceLeDiff, Int.reduceEq, Int.reduceLT, Int.reduceLE, Int.reduceAdd, Int.reduceSub, Int.cast_ofNat_Int, isi_tuple, isi_list, isi_int, isi_bool, isi_str, isi_none, reduceCtorEq, Bool.true_eq_false, Nat.min_self]
    refine h found ?_
    have h1 := hp.length_eq
    unfold rgI at h1
    rw [List.length_append, List.length_map, List.length_range] at h1
    have : left = [] := List.length_eq_zero_iff.mp (by omega)
    subst this
    rwa [List.append_nil] at hp
  · rintro i ρ kk hi ⟨left, found, c, rfl, hp, hl⟩ hk
    have h1 := hp.length_eq
    unfold rgI at h1
    rw [List.length_append, List.length_map, List.length_range] at h1
    unfold b1__law_mixed
    simp only [↓e_sSeq, ↓e_sNext, ↓e_sBreak, ↓e_sCont, ↓e_sDrop, ↓e_sRet, ↓e_sRetV, ↓e_sRetN, ↓e_sIfS, ↓e_sAsg, ↓e_sFor, ↓e_sVar, ↓e_sRV, ↓e_sRE, ↓e_sC, ↓e_aNil, ↓e_aCons, ↓e_ar, ↓e_dNil, ↓e_dCons, ↓e_fz, ↓e_sLst, ↓e_sTup, ↓e_s1, ↓e_s2, ↓e_s3, ↓e_s4, ↓e_rs, ↓e_sT, ↓e_sAnd, ↓e_sOr, ↓e_sNot, ↓e_vB, ↓e_sAndV, ↓e_sOrV, ↓e_sNotV, ↓e_sIf, ↓e_sgName, ↓e_cellOf, ↓e_sgNil, ↓e_sgCons, ↓e_sgTup, ↓e_sIt, ↓e_sRng1, ↓e_sRng2, ↓e_sEnum, ↓e_sZip, ↓e_sRev, ↓e_sRevR, ↓e_sRg1, ↓e_sRg2, ↓sI, ↓e_sLstR, ↓e_sCall, ↓e_sMeth, ↓e_sSetIx, ↓e_sAugIx, ↓e_sAug, ↓e_sSl, ↓e_pNo, ↓e_pSome, ↓e_sLc, ↓e_sYes, ↓e_sStep, ↓e_sIxG, ↓e_oAdd, ↓e_oI, ↓e_oI0, ↓e_oSub, ↓e_oMul, ↓e_oFdiv, ↓e_oMod, ↓e_oPow, ↓e_oShl, ↓e_oShr, ↓e_oNeg, ↓e_oEq, ↓e_oNe, ↓e_oLtI, ↓e_oLeI, ↓e_oGtI, ↓e_oGeI, ↓e_oIs, ↓e_oIn, ↓e_oIx, ↓e_oSl, ↓e_oLen, ↓e_oAbs, ↓e_oInt, ↓e_oMax2, ↓e_oMin2, ↓e_oList, ↓e_oTuple, ↓e_oIsi, ↓e_oAddI, ↓e_mAppend, ↓e_mExtend, ↓e_mPop, ↓e_mPopAt, ↓e_mInsert, ↓ng, ↓isNone, ↓e_noFd, ↓e_cells0, ↓arCell, ↓e_sTurn, ↓e_wip0, ↓e_wip1, ↓e_sIndex, List.map_cons, List.map_nil, List.length_cons, List.length_nil, List.cons_append, List.nil_append, List.replicate, Nat.reduceAdd, Nat.reduceSub, Nat.zero_add, List.getElem?_cons_zero, List.getElem?_cons_succ, List.set_cons_zero, List.set_cons_succ, if_true, if_false, ↓reduceIte, Bool.false_eq_true, true_and, and_true, not_true_eq_false, not_false_eq_true, decide_eq_true_eq, Bool.not_true, Bool.not_false, Bool.not_not, Bool.not_eq_true', decide_eq_false_iff_not, List.length_map, atI0, atI1, atI2, Nat.reduceLeDiff, Int.reduceEq, Int.reduceLT, Int.reduceLE, Int.reduceAdd, Int.reduceSub, Int.cast_ofNat_Int, isi_tuple, isi_list, isi_int, isi_bool, isi_str, isi_none, reduceCtorEq, Bool.true_eq_false, Nat.min_self, F__law_draw_ap]
    refine ⟨by omega, by omega, fun r r0 r1 => ?_⟩
    have e1 := (L2.ixN_seq (ixN_nat r0 r1)).1
    have hr : r.toNat < left.length := by omega
    have e2 : (left.map PyData.int)[r.toNat]? = some (.int left[r.toNat]) := by rw [List.getElem?_map, List.getElem?_eq_getElem hr]; rfl
    simp only [↓e_sSeq, ↓e_sNext, ↓e_sBreak, ↓e_sCont, ↓e_sDrop, ↓e_sRet, ↓e_sRetV, ↓e_sRetN, ↓e_sIfS, ↓e_sAsg, ↓e_sFor, ↓e_sVar, ↓e_sRV, ↓e_sRE, ↓e_sC, ↓e_aNil, ↓e_aCons, ↓e_ar, ↓e_dNil, ↓e_dCons, ↓e_fz, ↓e_sLst, ↓e_sTup, ↓e_s1, ↓e_s2, ↓e_s3, ↓e_s4, ↓e_rs, ↓e_sT, ↓e_sAnd, ↓e_sOr, ↓e_sNot, ↓e_vB, ↓e_sAndV, ↓e_sOrV, ↓e_sNotV, ↓e_sIf, ↓e_sgName, ↓e_cellOf, ↓e_sgNil, ↓e_sgCons, ↓e_sgTup, ↓e_sIt, ↓e_sRng1, ↓e_sRng2, ↓e_sEnum, ↓e_sZip, ↓e_sRev, ↓e_sRevR, ↓e_sRg1, ↓e_sRg2, ↓sI, ↓e_sLstR, ↓e_sCall, ↓e_sMeth, ↓e_sSetIx, ↓e_sAugIx, ↓e_sAug, ↓e_sSl, ↓e_pNo, ↓e_pSome, ↓e_sLc, ↓e_sYes, ↓e_sStep, ↓e_sIxG, ↓e_oAdd, ↓e_oI, ↓e_oI0, ↓e_oSub, ↓e_oMul, ↓e_oFdiv, ↓e_oMod, ↓e_oPow, ↓e_oShl, ↓e_oShr, ↓e_oNeg, ↓e_oEq, ↓e_oNe, ↓e_oLtI, ↓e_oLeI, ↓e_oGtI, ↓e_oGeI, ↓e_oIs, ↓e_oIn, ↓e_oIx, ↓e_oSl, ↓e_oLen, ↓e_oAbs, ↓e_oInt, ↓e_oMax2, ↓e_oMin2, ↓e_oList, ↓e_oTuple, ↓e_oIsi, ↓e_oAddI, ↓e_mAppend, ↓e_mExtend, ↓e_mPop, ↓e_mPopAt, ↓e_mInsert, ↓ng, ↓isNone, ↓e_noFd, ↓e_cells0, ↓arCell, ↓e_sTurn, ↓e_wip0, ↓e_wip1, ↓e_sIndex, List.map_cons, List.map_nil, List.length_cons, List.length_nil, List.cons_append, List.nil_append, List.replicate, Nat.reduceAdd, Nat.reduceSub, Nat.zero_add, List.getElem?_cons_zero, List.getElem?_cons_succ, List.set_cons_zero, List.set_cons_succ, if_true, if_false, ↓reduceIte, Bool.false_eq_true, true_and, and_true, not_true_eq_false, not_false_eq_true, decide_eq_true_eq, Bool.not_true, Bool.not_false, Bool.not_not, Bool.not_eq_true', decide_eq_false_iff_not, List.length_map, atI0, atI1, atI2, Nat.reduceLeDiff, Int.reduceEq, Int.reduceLT, Int.reduceLE, Int.reduceAdd, Int.reduceSub, Int.cast_ofNat_Int, isi_tuple, isi_list, isi_int, isi_bool, isi_str, isi_none, reduceCtorEq, Bool.true_eq_false, Nat.min_self, e1, e2]
    refine ⟨by omega, by omega, hk _ ⟨left.eraseIdx r.toNat, found ++ [left[r.toNat]], .im (.int (0 + (i : Int))), ?_, ?_, by rw [List.length_append, hl]; rfl⟩⟩
    · rw [List.map_append, eraseIdx_mapI]; rfl
    · refine List.Perm.trans ?_ hp
      rw [List.append_assoc]
      exact List.Perm.append_left _ (perm_erase left r.toNat hr)
theorem F__law_mixed_ap {n : Nat} (hn : n ≤ 1000) {k kx} : F__law_mixed [.fd, .d (.int n)] k kx = ∀ out : List Int, out.Perm (rgI n) → k (.fr (out.map .int)) :=
  propext ⟨fun ⟨n', e, _, h⟩ => by injection e with _ e; injection e with e2 e; injection e2 with e2; injection e2 with e2; rw [show n = n' by omega]; exact h, fun h => ⟨n, rfl, hn, h⟩⟩
theorem rgI_mem {n : Nat} {x : Int} : x ∈ rgI n ↔ 0 ≤ x ∧ x < n := by
  unfold rgI
  rw [List.mem_map]
  constructor
  · rintro ⟨i, hi, rfl⟩
    rw [List.mem_range] at hi
    omega
  · exact fun ⟨h0, h1⟩ => ⟨x.toNat, List.mem_range.mpr (by omega), by omega⟩
def dP2 (p : Int × Int) : D := .tuple [.int p.1, .int p.2]
def In2 (n : Int) (p : Int × Int) : Prop := (0 ≤ p.1 ∧ p.1 < n) ∧ (0 ≤ p.2 ∧ p.2 < n)
def F__law_pairs : Fn := fun as k _ => ∃ n m : Nat, as = [.fd, .d (.int n), .d (.int m)] ∧ n ≤ 20 ∧ ∀ out : List (Int × Int), (∀ p ∈ out, In2 n p) → out.length ≤ 400 → k (.fr (out.map dP2))
theorem len__law_pairs : ∀ as k kx, F__law_pairs as k kx → as.length = 3 := by rintro as k kx ⟨_, _, rfl, _⟩; rfl
theorem w__law_pairs : ∀ as k kx, F__law_pairs as k kx → m__law_pairs F__law_mixed ⟨cells0 8 as, kx⟩ { nx := fun _ => k (.im .none), rt := fun v _ => noFd k v } := by
  rintro as k kx ⟨n, m, rfl, hn, h⟩
  unfold m__law_pairs
  refine seq_step fun K hK => ?_; simp only [↓e_sNext, ↓e_sBreak, ↓e_sCont, ↓e_sDrop, ↓e_sRet, ↓e_sRetV, ↓e_sRetN, ↓e_sIfS, ↓e_sAsg, ↓e_sFor, ↓e_sVar, ↓e_sRV, ↓e_sRE, ↓e_sC, ↓e_aNil, ↓e_aCons, ↓e_ar, ↓e_dNil, ↓e_dCons, ↓e_fz, ↓e_sLst, ↓e_sTup, ↓e_s1, ↓e_s2, ↓e_s3, ↓e_s4, ↓e_rs, ↓e_sT, ↓e_sAnd, ↓e_sOr, ↓e_sNot, ↓e_vB, ↓e_sAndV, ↓e_sOrV, ↓e_sNotV, ↓e_sIf, ↓e_sgName, ↓e_cellOf, ↓e_sgNil, ↓e_sgCons, ↓e_sgTup, ↓e_sIt, ↓e_sRng1, ↓e_sRng2, ↓e_sEnum, ↓e_sZip, ↓e_sRev, ↓e_sRevR, ↓e_sRg1, ↓e_sRg2, ↓sI, ↓e_sLstR, ↓e_sCall, ↓e_sMeth, ↓e_sSetIx, ↓e_sAugIx, ↓e_sAug, ↓e_sSl, ↓e_pNo, ↓e_pSome, ↓e_sLc, ↓e_sYes, ↓e_sStep, ↓e_sIxG, ↓e_oAdd, ↓e_oI, ↓e_oI0, ↓e_oSub, ↓e_oMul, ↓e_oFdiv, ↓e_oMod, ↓e_oPow, ↓e_oShl, ↓e_oShr, ↓e_oNeg, ↓e_oEq, ↓e_oNe, ↓e_oLtI, ↓e_oLeI, ↓e_oGtI, ↓e_oGeI, ↓e_oIs, ↓e_oIn, ↓e_oIx, ↓e_oSl, ↓e_oLen, ↓e_oAbs, ↓e_oInt, ↓e_oMax2, ↓e_oMin2, ↓e_oList, ↓e_oTuple, ↓e_oIsi, ↓e_oAddI, ↓e_mAppend, ↓e_mExtend, ↓e_mPop, ↓e_mPopAt, ↓e_mInsert, ↓ng, ↓isNone, ↓e_noFd, ↓e_cells0, ↓arCell, ↓e_sTurn, ↓e_wip0, ↓e_wip1, ↓e_sIndex, List.map_cons, List.map_nil, List.length_cons, List.length_nil, List.cons_append, List.nil_append, List.replicate, Nat.reduceAdd, Nat.reduceSub, Nat.zero_add, List.getElem?_cons_zero, List.getElem?_cons_succ, List.set_cons_zero, List.set_cons_succ, if_true, if_false, ↓reduceIte, Bool.false_eq_true, true_and, and_true, not_true_eq_false, not_false_eq_true, decide_eq_true_eq, Bool.not_true, Bool.not_false, Bool.not_not, Bool.not_eq_true', decide_eq_false_iff_not, List.length_map, atI0, atI1, atI2, Nat.reduceLeDiff, Int.reduceEq, Int.reduceLT, Int.reduceLE, Int.reduceAdd, Int.reduceSub, Int.cast_ofNat_Int, isi_tuple, isi_list, isi_int, isi_bool, isi_str, isi_none, reduceCtorEq, Bool.true_eq_false, Nat.min_self, F__law_mixed_ap (n := n) (by omega)]
  refine fun ord hord => ?_
  have hol : ord.length = n := by rw [hord.length_eq]; unfold rgI; rw [List.length_map, List.length_range]
  have hin : ∀ i : Nat, i < n → 0 ≤ rk ord i ∧ rk ord i < n := fun i hi => by
    have : rk ord i ∈ ord := by
      unfold rk
      rw [List.getD_eq_getElem?_getD, List.getElem?_eq_getElem (by omega)]
      exact List.getElem_mem _
    exact rgI_mem.mp (hord.mem_iff.mp this)
  refine hK _ ?_; clear hK; clear K
  refine seq_step fun K hK => ?_; simp only [↓e_sNext, ↓e_sBreak, ↓e_sCont, ↓e_sDrop, ↓e_sRet, ↓e_sRetV, ↓e_sRetN, ↓e_sIfS, ↓e_sAsg, ↓e_sFor, ↓e_sVar, ↓e_sRV, ↓e_sRE, ↓e_sC, ↓e_aNil, ↓e_aCons, ↓e_ar, ↓e_dNil, ↓e_dCons, ↓e_fz, ↓e_sLst, ↓e_sTup, ↓e_s1, ↓e_s2, ↓e_s3, ↓e_s4, ↓e_rs, ↓e_sT, ↓e_sAnd, ↓e_sOr, ↓e_sNot, ↓e_vB, ↓e_sAndV, ↓e_sOrV, ↓e_sNotV, ↓e_sIf, ↓e_sgName, ↓e_cellOf, ↓e_sgNil, ↓e_sgCons, ↓e_sgTup, ↓e_sIt, ↓e_sRng1, ↓e_sRng2, ↓e_sEnum, ↓e_sZip, ↓e_sRev, ↓e_sRevR, ↓e_sRg1, ↓e_sRg2, ↓sI, ↓e_sLstR, ↓e_sCall, ↓e_sMeth, ↓e_sSetIx, ↓e_sAugIx, ↓e_sAug, ↓e_sSl, ↓e_pNo, ↓e_pSome, ↓e_sLc, ↓e_sYes, ↓e_sStep, ↓e_sIxG, ↓e_oAdd, ↓e_oI, ↓e_oI0, ↓e_oSub, ↓e_oMul, ↓e_oFdiv, ↓e_oMod, ↓e_oPow, ↓e_oShl, ↓e_oShr, ↓e_oNeg, ↓e_oEq, ↓e_oNe, ↓e_oLtI, ↓e_oLeI, ↓e_oGtI, ↓e_oGeI, ↓e_oIs, ↓e_oIn, ↓e_oIx, ↓e_oSl, ↓e_oLen, ↓e_oAbs, ↓e_oInt, ↓e_oMax2, ↓e_oMin2, ↓e_oList, ↓e_oTuple, ↓e_oIsi, ↓e_oAddI, ↓e_mAppend, ↓e_mExtend, ↓e_mPop, ↓e_mPopAt, ↓e_mInsert, ↓ng, ↓isNone, ↓e_noFd, ↓e_cells0, ↓arCell, ↓e_sTurn, ↓e_wip0, ↓e_wip1, ↓e_sIndex, List.map_cons, List.map_nil, List.length_cons, List.length_nil, List.cons_append, List.nil_append, List.replicate, Nat.reduceAdd, Nat.reduceSub, Nat.zero_add, List.getElem?_cons_zero, List.getElem?_cons_succ, List.set_cons_zero, List.set_cons_succ, if_true, if_false, ↓reduceIte, Bool.false_eq_true, true_and, and_true, not_true_eq_false, not_false_eq_true, decide_eq_true_eq, Bool.not_true, Bool.not_false, Bool.not_not, Bool.not_eq_true', decide_eq_false_iff_not, List.length_map, atI0, atI1, atI2, Nat.reduceLeDiff, Int.reduceEq, Int.reduceLT, Int.reduceLE, Int.reduceAdd, Int.reduceSub, Int.cast_ofNat_Int, isi_tuple, isi_list, isi_int, isi_bool, isi_str, isi_none, reduceCtorEq, Bool.true_eq_false, Nat.min_self]
  refine hK _ ?_; clear hK; clear K
  refine seq_step fun K hK => ?_; simp only [↓e_sNext, ↓e_sBreak, ↓e_sCont, ↓e_sDrop, ↓e_sRet, ↓e_sRetV, ↓e_sRetN, ↓e_sIfS, ↓e_sAsg, ↓e_sFor, ↓e_sVar, ↓e_sRV, ↓e_sRE, ↓e_sC, ↓e_aNil, ↓e_aCons, ↓e_ar, ↓e_dNil, ↓e_dCons, ↓e_fz, ↓e_sLst, ↓e_sTup, ↓e_s1, ↓e_s2, ↓e_s3, ↓e_s4, ↓e_rs, ↓e_sT, ↓e_sAnd, ↓e_sOr, ↓e_sNot, ↓e_vB, ↓e_sAndV, ↓e_sOrV, ↓e_sNotV, ↓e_sIf, ↓e_sgName, ↓e_cellOf, ↓e_sgNil, ↓e_sgCons, ↓e_sgTup, ↓e_sIt, ↓e_sRng1, ↓e_sRng2, ↓e_sEnum, ↓e_sZip, ↓e_sRev, ↓e_sRevR, ↓e_sRg1, ↓e_sRg2, ↓sI, ↓e_sLstR, ↓e_sCall, ↓e_sMeth, ↓e_sSetIx, ↓e_sAugIx, ↓e_sAug, ↓e_sSl, ↓e_pNo, ↓e_pSome, ↓e_sLc, ↓e_sYes, ↓e_sStep, ↓e_sIxG, ↓e_oAdd, ↓e_oI, ↓e_oI0, ↓e_oSub, ↓e_oMul, ↓e_oFdiv, ↓e_oMod, ↓e_oPow, ↓e_oShl, ↓e_oShr, ↓e_oNeg, ↓e_oEq, ↓e_oNe, ↓e_oLtI, ↓e_oLeI, ↓e_oGtI, ↓e_oGeI, ↓e_oIs, ↓e_oIn, ↓e_oIx, ↓e_oSl, ↓e_oLen, ↓e_oAbs, ↓e_oInt, ↓e_oMax2, ↓e_oMin2, ↓e_oList, ↓e_oTuple, ↓e_oIsi, ↓e_oAddI, ↓e_mAppend, ↓e_mExtend, ↓e_mPop, ↓e_mPopAt, ↓e_mInsert, ↓ng, ↓isNone, ↓e_noFd, ↓e_cells0, ↓arCell, ↓e_sTurn, ↓e_wip0, ↓e_wip1, ↓e_sIndex, List.map_cons, List.map_nil, List.length_cons, List.length_nil, List.cons_append, List.nil_append, List.replicate, Nat.reduceAdd, Nat.reduceSub, Nat.zero_add, List.getElem?_cons_zero, List.getElem?_cons_succ, List.set_cons_zero, List.set_cons_succ, if_true, if_false, ↓reduceIte, Bool.false_eq_true, true_and, and_true, not_true_eq_false, not_false_eq_true, decide_eq_true_eq, Bool.not_true, Bool.not_false, Bool.not_not, Bool.not_eq_true', decide_eq_false_iff_not, List.length_map, atI0, atI1, atI2, Nat.reduceLeDiff, Int.reduceEq, Int.reduceLT, Int.reduceLE, Int.reduceAdd, Int.reduceSub, Int.cast_ofNat_Int, isi_tuple, isi_list, isi_int, isi_bool, isi_str, isi_none, reduceCtorEq, Bool.true_eq_false, Nat.min_self]
  refine ⟨by omega, by omega, ?_⟩
  refine wLoop_rng (fun i ρ => ∃ (out : List (Int × Int)) (c : Cell), ρ = ⟨[.fd, .im (.int n), .im (.int m), .mu (ord.map .int), .mu (out.map dP2), c, .un, .un], kx⟩ ∧ (∀ p ∈ out, In2 n p) ∧ out.length ≤ i * 20) ⟨[], .un, rfl, ⟨fun p h => absurd h List.not_mem_nil, Nat.zero_le _⟩⟩ ?_ ?_
  · rintro ρ ⟨out, c, rfl, ho, hl⟩
    refine hK _ ?_; clear hK; clear K
    have hl2 : out.length ≤ 400 := by omega
    simp only [↓e_sSeq, ↓e_sNext, ↓e_sBreak, ↓e_sCont, ↓e_sDrop, ↓e_sRet, ↓e_sRetV, ↓e_sRetN, ↓e_sIfS, ↓e_sAsg, ↓e_sFor, ↓e_sVar, ↓e_sRV, ↓e_sRE, ↓e_sC, ↓e_aNil, ↓e_aCons, ↓e_ar, ↓e_dNil, ↓e_dCons, ↓e_fz, ↓e_sLst, ↓e_sTup, ↓e_s1, ↓e_s2, ↓e_s3, ↓e_s4, ↓e_rs, ↓e_sT, ↓e_sAnd, ↓e_sOr, ↓e_sNot, ↓e_vB, ↓e_sAndV, ↓e_sOrV, ↓e_sNotV, ↓e_sIf, ↓e_sgName, ↓e_cellOf, ↓e_sgNil, ↓e_sgCons, ↓e_sgTup, ↓e_sIt, ↓e_sRng1, ↓e_sRng2, ↓e_sEnum, ↓e_sZip, ↓e_sRev, ↓e_sRevR, ↓e_sRg1, ↓e_sRg2, ↓sI, ↓e_sLstR, ↓e_sCall, ↓e_sMeth, ↓e_sSetIx, ↓e_sAugIx, ↓e_sAug, ↓e_sSl, ↓e_pNo, ↓e_pSome, ↓e_sLc, ↓e_sYes, ↓e_sStep, ↓e_sIxG, ↓e_oAdd, ↓e_oI, ↓e_oI0, ↓e_oSub, ↓e_oMul, ↓e_oFdiv, ↓e_oMod, ↓e_oPow, ↓e_oShl, ↓e_oShr, ↓e_oNeg, ↓e_oEq, ↓e_oNe, ↓e_oLtI, ↓e_oLeI, ↓e_oGtI, ↓e_oGeI, ↓e_oIs, ↓e_oIn, ↓e_oIx, ↓e_oSl, ↓e_oLen, ↓e_oAbs, ↓e_oInt, ↓e_oMax2, ↓e_oMin2, ↓e_oList, ↓e_oTuple, ↓e_oIsi, ↓e_oAddI, ↓e_mAppend, ↓e_mExtend, ↓e_mPop, ↓e_mPopAt, ↓e_mInsert, ↓ng, ↓isNone, ↓e_noFd, ↓e_cells0, ↓arCell, ↓e_sTurn, ↓e_wip0, ↓e_wip1, ↓e_sIndex, List.map_cons, List.map_nil, List.length_cons, List.length_nil, List.cons_append, List.nil_append, List.replicate, Nat.reduceAdd, Nat.reduceSub, Nat.zero_add, List.getElem?_cons_zero, List.getElem?_cons_succ, List.set_cons_zero, List.set_cons_succ, if_true, if_false, ↓reduceIte, Bool.false_eq_true, true_and, and_true, not_true_eq_false, not_false_eq_true, decide_eq_true_eq, Bool.not_true, Bool.not_false, Bool.not_not, Bool.not_eq_true', decide_eq_false_iff_not, List.length_map, atI0, atI1, atI2, Nat.reduceLeDiff, Int.reduceEq, Int.reduceLT, Int.reduceLE, Int.reduceAdd, Int.reduceSub, Int.cast_ofNat_Int, isi_tuple, isi_list, isi_int, isi_bool, isi_str, isi_none, reduceCtorEq, Bool.true_eq_false, Nat.min_self, F__law_mixed_ap (n := out.length) (by omega)]
    refine fun sel hsel => ?_
    have hsl : sel.length = out.length := by rw [hsel.length_eq]; unfold rgI; rw [List.length_map, List.length_range]
    have hgt : ∀ x ∈ sel, L2.atI (out.map dP2) x = some (dP2 (out.getD x.toNat (0, 0))) ∧ In2 n (out.getD x.toNat (0, 0)) := fun x hx => by
      have := rgI_mem.mp (hsel.mem_iff.mp hx)
      have hi : x.toNat < out.length := by omega
      rw [List.getD_eq_getElem?_getD, List.getElem?_eq_getElem hi]
      exact ⟨by rw [atI_nn _ _ this.1, List.getElem?_map, List.getElem?_eq_getElem hi]; rfl, ho _ (List.getElem_mem hi)⟩
    refine ⟨by omega, ?_⟩
    refine wComp_mapA PyData.int (fun x => dP2 (out.getD x.toNat (0, 0))) (fun x hx K hK => ?_) ?_
    · simp only [↓e_sSeq, ↓e_sNext, ↓e_sBreak, ↓e_sCont, ↓e_sDrop, ↓e_sRet, ↓e_sRetV, ↓e_sRetN, ↓e_sIfS, ↓e_sAsg, ↓e_sFor, ↓e_sVar, ↓e_sRV, ↓e_sRE, ↓e_sC, ↓e_aNil, ↓e_aCons, ↓e_ar, ↓e_dNil, ↓e_dCons, ↓e_fz, ↓e_sLst, ↓e_sTup, ↓e_s1, ↓e_s2, ↓e_s3, ↓e_s4, ↓e_rs, ↓e_sT, ↓e_sAnd, ↓e_sOr, ↓e_sNot, ↓e_vB, ↓e_sAndV, ↓e_sOrV, ↓e_sNotV, ↓e_sIf, ↓e_sgName, ↓e_cellOf, ↓e_sgNil, ↓e_sgCons, ↓e_sgTup, ↓e_sIt, ↓e_sRng1, ↓e_sRng2, ↓e_sEnum, ↓e_sZip, ↓e_sRev, ↓e_sRevR, ↓e_sRg1, ↓e_sRg2, ↓sI, ↓e_sLstR, ↓e_sCall, ↓e_sMeth, ↓e_sSetIx, ↓e_sAugIx, ↓e_sAug, ↓e_sSl, ↓e_pNo, ↓e_pSome, ↓e_sLc, ↓e_sYes, ↓e_sStep, ↓e_sIxG, ↓e_oAdd, ↓e_oI, ↓e_oI0, ↓e_oSub, ↓e_oMul, ↓e_oFdiv, ↓e_oMod, ↓e_oPow, ↓e_oShl, ↓e_oShr, ↓e_oNeg, ↓e_oEq, ↓e_oNe, ↓e_oLtI, ↓e_oLeI, ↓e_oGtI, ↓e_oGeI, ↓e_oIs, ↓e_oIn, ↓e_oIx, ↓e_oSl, ↓e_oLen, ↓e_oAbs, ↓e_oInt, ↓e_oMax2, ↓e_oMin2, ↓e_oList, ↓e_oTuple, ↓e_oIsi, ↓e_oAddI, ↓e_mAppend, ↓e_mExtend, ↓e_mPop, ↓e_mPopAt, ↓e_mInsert, ↓ng, ↓isNone, ↓e_noFd, ↓e_cells0, ↓arCell, ↓e_sTurn, ↓e_wip0, ↓e_wip1, ↓e_sIndex, List.map_cons, List.map_nil, List.length_cons, List.length_nil, List.cons_append, List.nil_append, List.replicate, Nat.reduceAdd, Nat.reduceSub, Nat.zero_add, List.getElem?_cons_zero, List.getElem?_cons_succ, List.set_cons_zero, List.set_cons_succ, if_true, if_false, ↓reduceIte, Bool.false_eq_true, true_and, and_true, not_true_eq_false, not_false_eq_true, decide_eq_true_eq, Bool.not_true, Bool.not_false, Bool.not_not, Bool.not_eq_true', decide_eq_false_iff_not, List.length_map, atI0, atI1, atI2, Nat.reduceLeDiff, Int.reduceEq, Int.reduceLT, Int.reduceLE, Int.reduceAdd, Int.reduceSub, Int.cast_ofNat_Int, isi_tuple, isi_list, isi_int, isi_bool, isi_str, isi_none, reduceCtorEq, Bool.true_eq_false, Nat.min_self, (hgt x hx).1]
      exact hK _ _ rfl
    · simp only [↓e_sSeq, ↓e_sNext, ↓e_sBreak, ↓e_sCont, ↓e_sDrop, ↓e_sRet, ↓e_sRetV, ↓e_sRetN, ↓e_sIfS, ↓e_sAsg, ↓e_sFor, ↓e_sVar, ↓e_sRV, ↓e_sRE, ↓e_sC, ↓e_aNil, ↓e_aCons, ↓e_ar, ↓e_dNil, ↓e_dCons, ↓e_fz, ↓e_sLst, ↓e_sTup, ↓e_s1, ↓e_s2, ↓e_s3, ↓e_s4, ↓e_rs, ↓e_sT, ↓e_sAnd, ↓e_sOr, ↓e_sNot, ↓e_vB, ↓e_sAndV, ↓e_sOrV, ↓e_sNotV, ↓e_sIf, ↓e_sgName, ↓e_cellOf, ↓e_sgNil, ↓e_sgCons, ↓e_sgTup, ↓e_sIt, ↓e_sRng1, ↓e_sRng2, ↓e_sEnum, ↓e_sZip, ↓e_sRev, ↓e_sRevR, ↓e_sRg1, ↓e_sRg2, ↓sI, ↓e_sLstR, ↓e_sCall, ↓e_sMeth, ↓e_sSetIx, ↓e_sAugIx, ↓e_sAug, ↓e_sSl, ↓e_pNo, ↓e_pSome, ↓e_sLc, ↓e_sYes, ↓e_sStep, ↓e_sIxG, ↓e_oAdd, ↓e_oI, ↓e_oI0, ↓e_oSub, ↓e_oMul, ↓e_oFdiv, ↓e_oMod, ↓e_oPow, ↓e_oShl, ↓e_oShr, ↓e_oNeg, ↓e_oEq, ↓e_oNe, ↓e_oLtI, ↓e_oLeI, ↓e_oGtI, ↓e_oGeI, ↓e_oIs, ↓e_oIn, ↓e_oIx, ↓e_oSl, ↓e_oLen, ↓e_oAbs, ↓e_oInt, ↓e_oMax2, ↓e_oMin2, ↓e_oList, ↓e_oTuple, ↓e_oIsi, ↓e_oAddI, ↓e_mAppend, ↓e_mExtend, ↓e_mPop, ↓e_mPopAt, ↓e_mInsert, ↓ng, ↓isNone, ↓e_noFd, ↓e_cells0, ↓arCell, ↓e_sTurn, ↓e_wip0, ↓e_wip1, ↓e_sIndex, List.map_cons, List.map_nil, List.length_cons, List.length_nil, List.cons_append, List.nil_append, List.replicate, Nat.reduceAdd, Nat.reduceSub, Nat.zero_add, List.getElem?_cons_zero, List.getElem?_cons_succ, List.set_cons_zero, List.set_cons_succ, if_true, if_false, ↓reduceIte, Bool.false_eq_true, true_and, and_true, not_true_eq_false, not_false_eq_true, decide_eq_true_eq, Bool.not_true, Bool.not_false, Bool.not_not, Bool.not_eq_true', decide_eq_false_iff_not, List.length_map, atI0, atI1, atI2, Nat.reduceLeDiff, Int.reduceEq, Int.reduceLT, Int.reduceLE, Int.reduceAdd, Int.reduceSub, Int.cast_ofNat_Int, isi_tuple, isi_list, isi_int, isi_bool, isi_str, isi_none, reduceCtorEq, Bool.true_eq_false, Nat.min_self, cutN_to]
      rw [show (sel.map fun x => dP2 (out.getD x.toNat (0, 0))) = (sel.map fun x => out.getD x.toNat (0, 0)).map dP2 by rw [List.map_map]; rfl, ← List.map_take]
      refine h _ (fun p hp => ?_) ?_
      · obtain ⟨x, hx, rfl⟩ := List.mem_map.mp (List.mem_of_mem_take hp)
        exact (hgt x hx).2
      · rw [List.length_take, List.length_map]; omega
  · rintro i ρ kk hi ⟨out, c, rfl, ho, hl⟩ hk
    have hi : i < n := by omega
    unfold b1__law_pairs
    simp only [↓e_sSeq, ↓e_sNext, ↓e_sBreak, ↓e_sCont, ↓e_sDrop, ↓e_sRet, ↓e_sRetV, ↓e_sRetN, ↓e_sIfS, ↓e_sAsg, ↓e_sFor, ↓e_sVar, ↓e_sRV, ↓e_sRE, ↓e_sC, ↓e_aNil, ↓e_aCons, ↓e_ar, ↓e_dNil, ↓e_dCons, ↓e_fz, ↓e_sLst, ↓e_sTup, ↓e_s1, ↓e_s2, ↓e_s3, ↓e_s4, ↓e_rs, ↓e_sT, ↓e_sAnd, ↓e_sOr, ↓e_sNot, ↓e_vB, ↓e_sAndV, ↓e_sOrV, ↓e_sNotV, ↓e_sIf, ↓e_sgName, ↓e_cellOf, ↓e_sgNil, ↓e_sgCons, ↓e_sgTup, ↓e_sIt, ↓e_sRng1, ↓e_sRng2, ↓e_sEnum, ↓e_sZip, ↓e_sRev, ↓e_sRevR, ↓e_sRg1, ↓e_sRg2, ↓sI, ↓e_sLstR, ↓e_sCall, ↓e_sMeth, ↓e_sSetIx, ↓e_sAugIx, ↓e_sAug, ↓e_sSl, ↓e_pNo, ↓e_pSome, ↓e_sLc, ↓e_sYes, ↓e_sStep, ↓e_sIxG, ↓e_oAdd, ↓e_oI, ↓e_oI0, ↓e_oSub, ↓e_oMul, ↓e_oFdiv, ↓e_oMod, ↓e_oPow, ↓e_oShl, ↓e_oShr, ↓e_oNeg, ↓e_oEq, ↓e_oNe, ↓e_oLtI, ↓e_oLeI, ↓e_oGtI, ↓e_oGeI, ↓e_oIs, ↓e_oIn, ↓e_oIx, ↓e_oSl, ↓e_oLen, ↓e_oAbs, ↓e_oInt, ↓e_oMax2, ↓e_oMin2, ↓e_oList, ↓e_oTuple, ↓e_oIsi, ↓e_oAddI, ↓e_mAppend, ↓e_mExtend, ↓e_mPop, ↓e_mPopAt, ↓e_mInsert, ↓ng, ↓isNone, ↓e_noFd, ↓e_cells0, ↓arCell, ↓e_sTurn, ↓e_wip0, ↓e_wip1, ↓e_sIndex, List.map_cons, List.map_nil, List.length_cons, List.length_nil, List.cons_append, List.nil_append, List.replicate, Nat.reduceAdd, Nat.reduceSub, Nat.zero_add, List.getElem?_cons_zero, List.getElem?_cons_succ, List.set_cons_zero, List.set_cons_succ, if_true, if_false, ↓reduceIte, Bool.false_eq_true, true_and, and_true, not_true_eq_false, not_false_eq_true, decide_eq_true_eq, Bool.not_true, Bool.not_false, Bool.not_not, Bool.not_eq_true', decide_eq_false_iff_not, List.length_map, atI0, atI1, atI2, Nat.reduceLeDiff, Int.reduceEq, Int.reduceLT, Int.reduceLE, Int.reduceAdd, Int.reduceSub, Int.cast_ofNat_Int, isi_tuple, isi_list, isi_int, isi_bool, isi_str, isi_none, reduceCtorEq, Bool.true_eq_false, Nat.min_self, Int.zero_add]
    refine ⟨⟨by omega, by omega, by omega, by omega⟩, by rw [rngD_length]; omega, ?_⟩
    refine wComp_rngM (fun j => dP2 (rk ord i, rk ord ((i : Int) + 1 + (j : Int)))) (fun j hj K hK => ?_) ?_
    · simp only [↓e_sSeq, ↓e_sNext, ↓e_sBreak, ↓e_sCont, ↓e_sDrop, ↓e_sRet, ↓e_sRetV, ↓e_sRetN, ↓e_sIfS, ↓e_sAsg, ↓e_sFor, ↓e_sVar, ↓e_sRV, ↓e_sRE, ↓e_sC, ↓e_aNil, ↓e_aCons, ↓e_ar, ↓e_dNil, ↓e_dCons, ↓e_fz, ↓e_sLst, ↓e_sTup, ↓e_s1, ↓e_s2, ↓e_s3, ↓e_s4, ↓e_rs, ↓e_sT, ↓e_sAnd, ↓e_sOr, ↓e_sNot, ↓e_vB, ↓e_sAndV, ↓e_sOrV, ↓e_sNotV, ↓e_sIf, ↓e_sgName, ↓e_cellOf, ↓e_sgNil, ↓e_sgCons, ↓e_sgTup, ↓e_sIt, ↓e_sRng1, ↓e_sRng2, ↓e_sEnum, ↓e_sZip, ↓e_sRev, ↓e_sRevR, ↓e_sRg1, ↓e_sRg2, ↓sI, ↓e_sLstR, ↓e_sCall, ↓e_sMeth, ↓e_sSetIx, ↓e_sAugIx, ↓e_sAug, ↓e_sSl, ↓e_pNo, ↓e_pSome, ↓e_sLc, ↓e_sYes, ↓e_sStep, ↓e_sIxG, ↓e_oAdd, ↓e_oI, ↓e_oI0, ↓e_oSub, ↓e_oMul, ↓e_oFdiv, ↓e_oMod, ↓e_oPow, ↓e_oShl, ↓e_oShr, ↓e_oNeg, ↓e_oEq, ↓e_oNe, ↓e_oLtI, ↓e_oLeI, ↓e_oGtI, ↓e_oGeI, ↓e_oIs, ↓e_oIn, ↓e_oIx, ↓e_oSl, ↓e_oLen, ↓e_oAbs, ↓e_oInt, ↓e_oMax2, ↓e_oMin2, ↓e_oList, ↓e_oTuple, ↓e_oIsi, ↓e_oAddI, ↓e_mAppend, ↓e_mExtend, ↓e_mPop, ↓e_mPopAt, ↓e_mInsert, ↓ng, ↓isNone, ↓e_noFd, ↓e_cells0, ↓arCell, ↓e_sTurn, ↓e_wip0, ↓e_wip1, ↓e_sIndex, List.map_cons, List.map_nil, List.length_cons, List.length_nil, List.cons_append, List.nil_append, List.replicate, Nat.reduceAdd, Nat.reduceSub, Nat.zero_add, List.getElem?_cons_zero, List.getElem?_cons_succ, List.set_cons_zero, List.set_cons_succ, if_true, if_false, ↓reduceIte, Bool.false_eq_true, true_and, and_true, not_true_eq_false, not_false_eq_true, decide_eq_true_eq, Bool.not_true, Bool.not_false, Bool.not_not, Bool.not_eq_true', decide_eq_false_iff_not, List.length_map, atI0, atI1, atI2, Nat.reduceLeDiff, Int.reduceEq, Int.reduceLT, Int.reduceLE, Int.reduceAdd, Int.reduceSub, Int.cast_ofNat_Int, isi_tuple, isi_list, isi_int, isi_bool, isi_str, isi_none, reduceCtorEq, Bool.true_eq_false, Nat.min_self, rk_at (ns := ord) (i := (i : Int)) (by omega) (by omega), rk_at (ns := ord) (i := (i : Int) + 1 + (j : Int)) (by omega) (by omega)]
      exact hK _ _ rfl
    · simp only [↓e_sSeq, ↓e_sNext, ↓e_sBreak, ↓e_sCont, ↓e_sDrop, ↓e_sRet, ↓e_sRetV, ↓e_sRetN, ↓e_sIfS, ↓e_sAsg, ↓e_sFor, ↓e_sVar, ↓e_sRV, ↓e_sRE, ↓e_sC, ↓e_aNil, ↓e_aCons, ↓e_ar, ↓e_dNil, ↓e_dCons, ↓e_fz, ↓e_sLst, ↓e_sTup, ↓e_s1, ↓e_s2, ↓e_s3, ↓e_s4, ↓e_rs, ↓e_sT, ↓e_sAnd, ↓e_sOr, ↓e_sNot, ↓e_vB, ↓e_sAndV, ↓e_sOrV, ↓e_sNotV, ↓e_sIf, ↓e_sgName, ↓e_cellOf, ↓e_sgNil, ↓e_sgCons, ↓e_sgTup, ↓e_sIt, ↓e_sRng1, ↓e_sRng2, ↓e_sEnum, ↓e_sZip, ↓e_sRev, ↓e_sRevR, ↓e_sRg1, ↓e_sRg2, ↓sI, ↓e_sLstR, ↓e_sCall, ↓e_sMeth, ↓e_sSetIx, ↓e_sAugIx, ↓e_sAug, ↓e_sSl, ↓e_pNo, ↓e_pSome, ↓e_sLc, ↓e_sYes, ↓e_sStep, ↓e_sIxG, ↓e_oAdd, ↓e_oI, ↓e_oI0, ↓e_oSub, ↓e_oMul, ↓e_oFdiv, ↓e_oMod, ↓e_oPow, ↓e_oShl, ↓e_oShr, ↓e_oNeg, ↓e_oEq, ↓e_oNe, ↓e_oLtI, ↓e_oLeI, ↓e_oGtI, ↓e_oGeI, ↓e_oIs, ↓e_oIn, ↓e_oIx, ↓e_oSl, ↓e_oLen, ↓e_oAbs, ↓e_oInt, ↓e_oMax2, ↓e_oMin2, ↓e_oList, ↓e_oTuple, ↓e_oIsi, ↓e_oAddI, ↓e_mAppend, ↓e_mExtend, ↓e_mPop, ↓e_mPopAt, ↓e_mInsert, ↓ng, ↓isNone, ↓e_noFd, ↓e_cells0, ↓arCell, ↓e_sTurn, ↓e_wip0, ↓e_wip1, ↓e_sIndex, List.map_cons, List.map_nil, List.length_cons, List.length_nil, List.cons_append, List.nil_append, List.replicate, Nat.reduceAdd, Nat.reduceSub, Nat.zero_add, List.getElem?_cons_zero, List.getElem?_cons_succ, List.set_cons_zero, List.set_cons_succ, if_true, if_false, ↓reduceIte, Bool.false_eq_true, true_and, and_true, not_true_eq_false, not_false_eq_true, decide_eq_true_eq, Bool.not_true, Bool.not_false, Bool.not_not, Bool.not_eq_true', decide_eq_false_iff_not, List.length_map, atI0, atI1, atI2, Nat.reduceLeDiff, Int.reduceEq, Int.reduceLT, Int.reduceLE, Int.reduceAdd, Int.reduceSub, Int.cast_ofNat_Int, isi_tuple, isi_list, isi_int, isi_bool, isi_str, isi_none, reduceCtorEq, Bool.true_eq_false, Nat.min_self, List.length_range]
      have hlen : ((n : Int) - ((i : Int) + 1)).toNat ≤ 20 := by omega
      refine ⟨by omega, ?_⟩
      refine hk _ ⟨out ++ (List.range ((n : Int) - ((i : Int) + 1)).toNat).map fun j : Nat => (rk ord i, rk ord ((i : Int) + 1 + (j : Int))), _, by rw [List.map_append, List.map_map]; rfl, fun p hp => ?_, ?_⟩
      · rcases List.mem_append.mp hp with hp | hp
        · exact ho p hp
        · obtain ⟨j, hj, rfl⟩ := List.mem_map.mp hp
          rw [List.mem_range] at hj
          have a := hin i hi
          have b := hin (i + 1 + j) (by omega)
          exact ⟨a, by show 0 ≤ rk ord ((i : Int) + 1 + (j : Int)) ∧ _; rw [show (i : Int) + 1 + (j : Int) = ((i + 1 + j : Nat) : Int) by omega]; exact b⟩
      · rw [List.length_append, List.length_map, List.length_range]; omega
theorem F__law_pairs_ap {n m : Nat} (hn : n ≤ 20) {k kx} : F__law_pairs [.fd, .d (.int n), .d (.int m)] k kx = ∀ out : List (Int × Int), (∀ p ∈ out, In2 n p) → out.length ≤ 400 → k (.fr (out.map dP2)) :=
  propext ⟨fun ⟨n', m', e, _, h⟩ => by injection e with _ e; injection e with e2 e; injection e2 with e2; injection e2 with e2; rw [show n = n' by omega]; exact h, fun h => ⟨n, m, rfl, hn, h⟩⟩
theorem exMap {α : Type} {g : α → D} {G : α → Prop} : ∀ out : List D, (∀ y ∈ out, ∃ p, G p ∧ y = g p) → ∃ os : List α, out = os.map g ∧ ∀ p ∈ os, G p
  | [], _ => ⟨[], rfl, fun _ h => absurd h List.not_mem_nil⟩
  | y :: out, h => by
    obtain ⟨p, hp, rfl⟩ := h y (.head _)
    obtain ⟨os, rfl, ho⟩ := exMap out fun z hz => h z (.tail _ hz)
    exact ⟨p :: os, rfl, fun q hq => by
      rcases List.mem_cons.mp hq with rfl | hq
      · exact hp
      · exact ho q hq⟩
def F__law_needs : Fn := fun as k _ => ∃ (n m : Nat) (mo : Int), as = [.fd, .d (.int n), .d (.int m), .d (.int mo)] ∧ n ≤ 20 ∧ 0 < mo ∧ mo ≤ 1000 ∧ ∀ out : NT, OkN n out → out.length ≤ 400 → k (.fr (out.map dN))
theorem len__law_needs : ∀ as k kx, F__law_needs as k kx → as.length = 4 := by rintro as k kx ⟨_, _, _, rfl, _⟩; rfl
theorem w__law_needs : ∀ as k kx, F__law_needs as k kx → m__law_needs F__law_pairs F_draw ⟨cells0 6 as, kx⟩ { nx := fun _ => k (.im .none), rt := fun v _ => noFd k v } := by
  rintro as k kx ⟨n, m, mo, rfl, hn, m0, m1, h⟩
  unfold m__law_needs
  simp only [↓e_sSeq, ↓e_sNext, ↓e_sBreak, ↓e_sCont, ↓e_sDrop, ↓e_sRet, ↓e_sRetV, ↓e_sRetN, ↓e_sIfS, ↓e_sAsg, ↓e_sFor, ↓e_sVar, ↓e_sRV, ↓e_sRE, ↓e_sC, ↓e_aNil, ↓e_aCons, ↓e_ar, ↓e_dNil, ↓e_dCons, ↓e_fz, ↓e_sLst, ↓e_sTup, ↓e_s1, ↓e_s2, ↓e_s3, ↓e_s4, ↓e_rs, ↓e_sT, ↓e_sAnd, ↓e_sOr, ↓e_sNot, ↓e_vB, ↓e_sAndV, ↓e_sOrV, ↓e_sNotV, ↓e_sIf, ↓e_sgName, ↓e_cellOf, ↓e_sgNil, ↓e_sgCons, ↓e_sgTup, ↓e_sIt, ↓e_sRng1, ↓e_sRng2, ↓e_sEnum, ↓e_sZip, ↓e_sRev, ↓e_sRevR, ↓e_sRg1, ↓e_sRg2, ↓sI, ↓e_sLstR, ↓e_sCall, ↓e_sMeth, ↓e_sSetIx, ↓e_sAugIx, ↓e_sAug, ↓e_sSl, ↓e_pNo, ↓e_pSome, ↓e_sLc, ↓e_sYes, ↓e_sStep, ↓e_sIxG, ↓e_oAdd, ↓e_oI, ↓e_oI0, ↓e_oSub, ↓e_oMul, ↓e_oFdiv, ↓e_oMod, ↓e_oPow, ↓e_oShl, ↓e_oShr, ↓e_oNeg, ↓e_oEq, ↓e_oNe, ↓e_oLtI, ↓e_oLeI, ↓e_oGtI, ↓e_oGeI, ↓e_oIs, ↓e_oIn, ↓e_oIx, ↓e_oSl, ↓e_oLen, ↓e_oAbs, ↓e_oInt, ↓e_oMax2, ↓e_oMin2, ↓e_oList, ↓e_oTuple, ↓e_oIsi, ↓e_oAddI, ↓e_mAppend, ↓e_mExtend, ↓e_mPop, ↓e_mPopAt, ↓e_mInsert, ↓ng, ↓isNone, ↓e_noFd, ↓e_cells0, ↓arCell, ↓e_sTurn, ↓e_wip0, ↓e_wip1, ↓e_sIndex, List.map_cons, List.map_nil, List.length_cons, List.length_nil, List.cons_append, List.nil_append, List.replicate, Nat.reduceAdd, Nat.reduceSub, Nat.zero_add, List.getElem?_cons_zero, List.getElem?_cons_succ, List.set_cons_zero, List.set_cons_succ, if_true, if_false, ↓reduceIte, Bool.false_eq_true, true_and, and_true, not_true_eq_false, not_false_eq_true, decide_eq_true_eq, Bool.not_true, Bool.not_false, Bool.not_not, Bool.not_eq_true', decide_eq_false_iff_not, List.length_map, atI0, atI1, atI2, Nat.reduceLeDiff, Int.reduceEq, Int.reduceLT, Int.reduceLE, Int.reduceAdd, Int.reduceSub, Int.cast_ofNat_Int, isi_tuple, isi_list, isi_int, isi_bool, isi_str, isi_none, reduceCtorEq, Bool.true_eq_false, Nat.min_self, F__law_pairs_ap hn]
  refine fun ps hps hl => ⟨by omega, ?_⟩
  refine wComp_all (fun d y => ∃ p c, p ∈ ps ∧ d = dP2 p ∧ y = dN (p.1, p.2, c)) (fun d hd K hK => ?_) fun out hlo hP => ?_
  · obtain ⟨p, hp, rfl⟩ := List.mem_map.mp hd
    simp only [↓e_sSeq, ↓e_sNext, ↓e_sBreak, ↓e_sCont, ↓e_sDrop, ↓e_sRet, ↓e_sRetV, ↓e_sRetN, ↓e_sIfS, ↓e_sAsg, ↓e_sFor, ↓e_sVar, ↓e_sRV, ↓e_sRE, ↓e_sC, ↓e_aNil, ↓e_aCons, ↓e_ar, ↓e_dNil, ↓e_dCons, ↓e_fz, ↓e_sLst, ↓e_sTup, ↓e_s1, ↓e_s2, ↓e_s3, ↓e_s4, ↓e_rs, ↓e_sT, ↓e_sAnd, ↓e_sOr, ↓e_sNot, ↓e_vB, ↓e_sAndV, ↓e_sOrV, ↓e_sNotV, ↓e_sIf, ↓e_sgName, ↓e_cellOf, ↓e_sgNil, ↓e_sgCons, ↓e_sgTup, ↓e_sIt, ↓e_sRng1, ↓e_sRng2, ↓e_sEnum, ↓e_sZip, ↓e_sRev, ↓e_sRevR, ↓e_sRg1, ↓e_sRg2, ↓sI, ↓e_sLstR, ↓e_sCall, ↓e_sMeth, ↓e_sSetIx, ↓e_sAugIx, ↓e_sAug, ↓e_sSl, ↓e_pNo, ↓e_pSome, ↓e_sLc, ↓e_sYes, ↓e_sStep, ↓e_sIxG, ↓e_oAdd, ↓e_oI, ↓e_oI0, ↓e_oSub, ↓e_oMul, ↓e_oFdiv, ↓e_oMod, ↓e_oPow, ↓e_oShl, ↓e_oShr, ↓e_oNeg, ↓e_oEq, ↓e_oNe, ↓e_oLtI, ↓e_oLeI, ↓e_oGtI, ↓e_oGeI, ↓e_oIs, ↓e_oIn, ↓e_oIx, ↓e_oSl, ↓e_oLen, ↓e_oAbs, ↓e_oInt, ↓e_oMax2, ↓e_oMin2, ↓e_oList, ↓e_oTuple, ↓e_oIsi, ↓e_oAddI, ↓e_mAppend, ↓e_mExtend, ↓e_mPop, ↓e_mPopAt, ↓e_mInsert, ↓ng, ↓isNone, ↓e_noFd, ↓e_cells0, ↓arCell, ↓e_sTurn, ↓e_wip0, ↓e_wip1, ↓e_sIndex, List.map_cons, List.map_nil, List.length_cons, List.length_nil, List.cons_append, List.nil_append, List.replicate, Nat.reduceAdd, Nat.reduceSub, Nat.zero_add, List.getElem?_cons_zero, List.getElem?_cons_succ, List.set_cons_zero, List.set_cons_succ, if_true, if_false, ↓reduceIte, Bool.false_eq_true, true_and, and_true, not_true_eq_false, not_false_eq_true, decide_eq_true_eq, Bool.not_true, Bool.not_false, Bool.not_not, Bool.not_eq_true', decide_eq_false_iff_not, List.length_map, atI0, atI1, atI2, Nat.reduceLeDiff, Int.reduceEq, Int.reduceLT, Int.reduceLE, Int.reduceAdd, Int.reduceSub, Int.cast_ofNat_Int, isi_tuple, isi_list, isi_int, isi_bool, isi_str, isi_none, reduceCtorEq, Bool.true_eq_false, Nat.min_self, dP2, F__law_draw_ap]
    refine ⟨m0, by omega, fun r r0 r1 => ?_⟩
    exact hK _ _ _ ⟨p, 1 + r, hp, rfl, rfl⟩ rfl
  · obtain ⟨os, rfl, ho⟩ := exMap (g := dN) (G := fun p => In2 n (p.1, p.2.1)) out fun y hy => by
      obtain ⟨i, hi⟩ := List.getElem?_of_mem hy
      have hil := (List.getElem?_eq_some_iff.mp hi).1
      obtain ⟨p, c, hp, _, e⟩ := hP i _ y (List.getElem?_eq_getElem (by omega)) hi
      exact ⟨_, hps p hp, e⟩
    exact h os ⟨ho, by rw [List.length_map, List.length_map] at hlo; omega⟩ (by rw [List.length_map, List.length_map] at hlo; omega)
theorem F__law_needs_ap {n m : Nat} {mo : Int} (hn : n ≤ 20) (h0 : 0 < mo) (h1 : mo ≤ 1000) {k kx} : F__law_needs [.fd, .d (.int n), .d (.int m), .d (.int mo)] k kx = ∀ out : NT, OkN n out → out.length ≤ 400 → k (.fr (out.map dN)) :=
  propext ⟨fun ⟨n', m', mo', e, _, _, _, h⟩ => by injection e with _ e; injection e with e2 e; injection e2 with e2; injection e2 with e2; rw [show n = n' by omega]; exact h, fun h => ⟨n, m, mo, rfl, hn, h0, h1, h⟩⟩
def F__law_ranks : Fn := fun as k _ => ∃ (n : Nat) (t : NT), as = [.d (.int n), .d (.list (t.map dN))] ∧ n ≤ 1000 ∧ OkN n t ∧ ∀ out : List Int, out.length = n → k (.fr (out.map .int))
theorem len__law_ranks : ∀ as k kx, F__law_ranks as k kx → as.length = 2 := by rintro as k kx ⟨_, _, rfl, _⟩; rfl
theorem w__law_ranks : ∀ as k kx, F__law_ranks as k kx → m__law_ranks ⟨cells0 7 as, kx⟩ { nx := fun _ => k (.im .none), rt := fun v _ => noFd k v } := by
  rintro as k kx ⟨n, t, rfl, hn, ok, h⟩
  unfold m__law_ranks
  refine seq_step fun K hK => ?_; simp only [↓e_sNext, ↓e_sBreak, ↓e_sCont, ↓e_sDrop, ↓e_sRet, ↓e_sRetV, ↓e_sRetN, ↓e_sIfS, ↓e_sAsg, ↓e_sFor, ↓e_sVar, ↓e_sRV, ↓e_sRE, ↓e_sC, ↓e_aNil, ↓e_aCons, ↓e_ar, ↓e_dNil, ↓e_dCons, ↓e_fz, ↓e_sLst, ↓e_sTup, ↓e_s1, ↓e_s2, ↓e_s3, ↓e_s4, ↓e_rs, ↓e_sT, ↓e_sAnd, ↓e_sOr, ↓e_sNot, ↓e_vB, ↓e_sAndV, ↓e_sOrV, ↓e_sNotV, ↓e_sIf, ↓e_sgName, ↓e_cellOf, ↓e_sgNil, ↓e_sgCons, ↓e_sgTup, ↓e_sIt, ↓e_sRng1, ↓e_sRng2, ↓e_sEnum, ↓e_sZip, ↓e_sRev, ↓e_sRevR, ↓e_sRg1, ↓e_sRg2, ↓sI, ↓e_sLstR, ↓e_sCall, ↓e_sMeth, ↓e_sSetIx, ↓e_sAugIx, ↓e_sAug, ↓e_sSl, ↓e_pNo, ↓e_pSome, ↓e_sLc, ↓e_sYes, ↓e_sStep, ↓e_sIxG, ↓e_oAdd, ↓e_oI, ↓e_oI0, ↓e_oSub, ↓e_oMul, ↓e_oFdiv, ↓e_oMod, ↓e_oPow, ↓e_oShl, ↓e_oShr, ↓e_oNeg, ↓e_oEq, ↓e_oNe, ↓e_oLtI, ↓e_oLeI, ↓e_oGtI, ↓e_oGeI, ↓e_oIs, ↓e_oIn, ↓e_oIx, ↓e_oSl, ↓e_oLen, ↓e_oAbs, ↓e_oInt, ↓e_oMax2, ↓e_oMin2, ↓e_oList, ↓e_oTuple, ↓e_oIsi, ↓e_oAddI, ↓e_mAppend, ↓e_mExtend, ↓e_mPop, ↓e_mPopAt, ↓e_mInsert, ↓ng, ↓isNone, ↓e_noFd, ↓e_cells0, ↓arCell, ↓e_sTurn, ↓e_wip0, ↓e_wip1, ↓e_sIndex, List.map_cons, List.map_nil, List.length_cons, List.length_nil, List.cons_append, List.nil_append, List.replicate, Nat.reduceAdd, Nat.reduceSub, Nat.zero_add, List.getElem?_cons_zero, List.getElem?_cons_succ, List.set_cons_zero, List.set_cons_succ, if_true, if_false, ↓reduceIte, Bool.false_eq_true, true_and, and_true, not_true_eq_false, not_false_eq_true, decide_eq_true_eq, Bool.not_true, Bool.not_false, Bool.not_not, Bool.not_eq_true', decide_eq_false_iff_not, List.length_map, atI0, atI1, atI2, Nat.reduceLeDiff, Int.reduceEq, Int.reduceLT, Int.reduceLE, Int.reduceAdd, Int.reduceSub, Int.cast_ofNat_Int, isi_tuple, isi_list, isi_int, isi_bool, isi_str, isi_none, reduceCtorEq, Bool.true_eq_false, Nat.min_self]
  refine ⟨⟨by omega, by omega, by omega⟩, ?_⟩
  refine hK _ ?_; clear hK; clear K
  have e0 : (List.replicate ((n : Int).toNat) [PyData.int 0]).flatten = (List.replicate n (0 : Int)).map PyData.int := by
    rw [Int.toNat_natCast]
    clear h hn ok
    induction n with
    | zero => rfl
    | succ n ih => rw [List.replicate_succ, List.flatten_cons, ih]; rfl
  rw [e0]
  refine seq_step fun K hK => ?_; simp only [↓e_sNext, ↓e_sBreak, ↓e_sCont, ↓e_sDrop, ↓e_sRet, ↓e_sRetV, ↓e_sRetN, ↓e_sIfS, ↓e_sAsg, ↓e_sFor, ↓e_sVar, ↓e_sRV, ↓e_sRE, ↓e_sC, ↓e_aNil, ↓e_aCons, ↓e_ar, ↓e_dNil, ↓e_dCons, ↓e_fz, ↓e_sLst, ↓e_sTup, ↓e_s1, ↓e_s2, ↓e_s3, ↓e_s4, ↓e_rs, ↓e_sT, ↓e_sAnd, ↓e_sOr, ↓e_sNot, ↓e_vB, ↓e_sAndV, ↓e_sOrV, ↓e_sNotV, ↓e_sIf, ↓e_sgName, ↓e_cellOf, ↓e_sgNil, ↓e_sgCons, ↓e_sgTup, ↓e_sIt, ↓e_sRng1, ↓e_sRng2, ↓e_sEnum, ↓e_sZip, ↓e_sRev, ↓e_sRevR, ↓e_sRg1, ↓e_sRg2, ↓sI, ↓e_sLstR, ↓e_sCall, ↓e_sMeth, ↓e_sSetIx, ↓e_sAugIx, ↓e_sAug, ↓e_sSl, ↓e_pNo, ↓e_pSome, ↓e_sLc, ↓e_sYes, ↓e_sStep, ↓e_sIxG, ↓e_oAdd, ↓e_oI, ↓e_oI0, ↓e_oSub, ↓e_oMul, ↓e_oFdiv, ↓e_oMod, ↓e_oPow, ↓e_oShl, ↓e_oShr, ↓e_oNeg, ↓e_oEq, ↓e_oNe, ↓e_oLtI, ↓e_oLeI, ↓e_oGtI, ↓e_oGeI, ↓e_oIs, ↓e_oIn, ↓e_oIx, ↓e_oSl, ↓e_oLen, ↓e_oAbs, ↓e_oInt, ↓e_oMax2, ↓e_oMin2, ↓e_oList, ↓e_oTuple, ↓e_oIsi, ↓e_oAddI, ↓e_mAppend, ↓e_mExtend, ↓e_mPop, ↓e_mPopAt, ↓e_mInsert, ↓ng, ↓isNone, ↓e_noFd, ↓e_cells0, ↓arCell, ↓e_sTurn, ↓e_wip0, ↓e_wip1, ↓e_sIndex, List.map_cons, List.map_nil, List.length_cons, List.length_nil, List.cons_append, List.nil_append, List.replicate, Nat.reduceAdd, Nat.reduceSub, Nat.zero_add, List.getElem?_cons_zero, List.getElem?_cons_succ, List.set_cons_zero, List.set_cons_succ, if_true, if_false, ↓reduceIte, Bool.false_eq_true, true_and, and_true, not_true_eq_false, not_false_eq_true, decide_eq_true_eq, Bool.not_true, Bool.not_false, Bool.not_not, Bool.not_eq_true', decide_eq_false_iff_not, List.length_map, atI0, atI1, atI2, Nat.reduceLeDiff, Int.reduceEq, Int.reduceLT, Int.reduceLE, Int.reduceAdd, Int.reduceSub, Int.cast_ofNat_Int, isi_tuple, isi_list, isi_int, isi_bool, isi_str, isi_none, reduceCtorEq, Bool.true_eq_false, Nat.min_self]
  refine ⟨by omega, by omega, ?_⟩
  refine wLoop_rng (fun i ρ => ∃ (out : List Int) (a b c d : Cell), ρ = ⟨[.im (.int n), .im (.list (t.map dN)), .mu (out.map .int), a, b, c, d], kx⟩ ∧ out.length = n) ⟨List.replicate n 0, .un, .un, .un, .un, rfl, List.length_replicate⟩ ?_ ?_
  · rintro ρ ⟨out, a, b, c, d, rfl, hl⟩
    refine hK _ ?_; clear hK; clear K
    simp only [↓e_sSeq, ↓e_sNext, ↓e_sBreak, ↓e_sCont, ↓e_sDrop, ↓e_sRet, ↓e_sRetV, ↓e_sRetN, ↓e_sIfS, ↓e_sAsg, ↓e_sFor, ↓e_sVar, ↓e_sRV, ↓e_sRE, ↓e_sC, ↓e_aNil, ↓e_aCons, ↓e_ar, ↓e_dNil, ↓e_dCons, ↓e_fz, ↓e_sLst, ↓e_sTup, ↓e_s1, ↓e_s2, ↓e_s3, ↓e_s4, ↓e_rs, ↓e_sT, ↓e_sAnd, ↓e_sOr, ↓e_sNot, ↓e_vB, ↓e_sAndV, ↓e_sOrV, ↓e_sNotV, ↓e_sIf, ↓e_sgName, ↓e_cellOf, ↓e_sgNil, ↓e_sgCons, ↓e_sgTup, ↓e_sIt, ↓e_sRng1, ↓e_sRng2, ↓e_sEnum, ↓e_sZip, ↓e_sRev, ↓e_sRevR, ↓e_sRg1, ↓e_sRg2, ↓sI, ↓e_sLstR, ↓e_sCall, ↓e_sMeth, ↓e_sSetIx, ↓e_sAugIx, ↓e_sAug, ↓e_sSl, ↓e_pNo, ↓e_pSome, ↓e_sLc, ↓e_sYes, ↓e_sStep, ↓e_sIxG, ↓e_oAdd, ↓e_oI, ↓e_oI0, ↓e_oSub, ↓e_oMul, ↓e_oFdiv, ↓e_oMod, ↓e_oPow, ↓e_oShl, ↓e_oShr, ↓e_oNeg, ↓e_oEq, ↓e_oNe, ↓e_oLtI, ↓e_oLeI, ↓e_oGtI, ↓e_oGeI, ↓e_oIs, ↓e_oIn, ↓e_oIx, ↓e_oSl, ↓e_oLen, ↓e_oAbs, ↓e_oInt, ↓e_oMax2, ↓e_oMin2, ↓e_oList, ↓e_oTuple, ↓e_oIsi, ↓e_oAddI, ↓e_mAppend, ↓e_mExtend, ↓e_mPop, ↓e_mPopAt, ↓e_mInsert, ↓ng, ↓isNone, ↓e_noFd, ↓e_cells0, ↓arCell, ↓e_sTurn, ↓e_wip0, ↓e_wip1, ↓e_sIndex, List.map_cons, List.map_nil, List.length_cons, List.length_nil, List.cons_append, List.nil_append, List.replicate, Nat.reduceAdd, Nat.reduceSub, Nat.zero_add, List.getElem?_cons_zero, List.getElem?_cons_succ, List.set_cons_zero, List.set_cons_succ, if_true, if_false, ↓reduceIte, Bool.false_eq_true, true_and, and_true, not_true_eq_false, not_false_eq_true, decide_eq_true_eq, Bool.not_true, Bool.not_false, Bool.not_not, Bool.not_eq_true', decide_eq_false_iff_not, List.length_map, atI0, atI1, atI2, Nat.reduceLeDiff, Int.reduceEq, Int.reduceLT, Int.reduceLE, Int.reduceAdd, Int.reduceSub, Int.cast_ofNat_Int, isi_tuple, isi_list, isi_int, isi_bool, isi_str, isi_none, reduceCtorEq, Bool.true_eq_false, Nat.min_self]
    exact h out hl
  · rintro i ρ kk hi ⟨out, a, b, c, d, rfl, hl⟩ hk
    unfold b2__law_ranks
    simp only [↓e_sSeq, ↓e_sNext, ↓e_sBreak, ↓e_sCont, ↓e_sDrop, ↓e_sRet, ↓e_sRetV, ↓e_sRetN, ↓e_sIfS, ↓e_sAsg, ↓e_sFor, ↓e_sVar, ↓e_sRV, ↓e_sRE, ↓e_sC, ↓e_aNil, ↓e_aCons, ↓e_ar, ↓e_dNil, ↓e_dCons, ↓e_fz, ↓e_sLst, ↓e_sTup, ↓e_s1, ↓e_s2, ↓e_s3, ↓e_s4, ↓e_rs, ↓e_sT, ↓e_sAnd, ↓e_sOr, ↓e_sNot, ↓e_vB, ↓e_sAndV, ↓e_sOrV, ↓e_sNotV, ↓e_sIf, ↓e_sgName, ↓e_cellOf, ↓e_sgNil, ↓e_sgCons, ↓e_sgTup, ↓e_sIt, ↓e_sRng1, ↓e_sRng2, ↓e_sEnum, ↓e_sZip, ↓e_sRev, ↓e_sRevR, ↓e_sRg1, ↓e_sRg2, ↓sI, ↓e_sLstR, ↓e_sCall, ↓e_sMeth, ↓e_sSetIx, ↓e_sAugIx, ↓e_sAug, ↓e_sSl, ↓e_pNo, ↓e_pSome, ↓e_sLc, ↓e_sYes, ↓e_sStep, ↓e_sIxG, ↓e_oAdd, ↓e_oI, ↓e_oI0, ↓e_oSub, ↓e_oMul, ↓e_oFdiv, ↓e_oMod, ↓e_oPow, ↓e_oShl, ↓e_oShr, ↓e_oNeg, ↓e_oEq, ↓e_oNe, ↓e_oLtI, ↓e_oLeI, ↓e_oGtI, ↓e_oGeI, ↓e_oIs, ↓e_oIn, ↓e_oIx, ↓e_oSl, ↓e_oLen, ↓e_oAbs, ↓e_oInt, ↓e_oMax2, ↓e_oMin2, ↓e_oList, ↓e_oTuple, ↓e_oIsi, ↓e_oAddI, ↓e_mAppend, ↓e_mExtend, ↓e_mPop, ↓e_mPopAt, ↓e_mInsert, ↓ng, ↓isNone, ↓e_noFd, ↓e_cells0, ↓arCell, ↓e_sTurn, ↓e_wip0, ↓e_wip1, ↓e_sIndex, List.map_cons, List.map_nil, List.length_cons, List.length_nil, List.cons_append, List.nil_append, List.replicate, Nat.reduceAdd, Nat.reduceSub, Nat.zero_add, List.getElem?_cons_zero, List.getElem?_cons_succ, List.set_cons_zero, List.set_cons_succ, if_true, if_false, ↓reduceIte, Bool.false_eq_true, true_and, and_true, not_true_eq_false, not_false_eq_true, decide_eq_true_eq, Bool.not_true, Bool.not_false, Bool.not_not, Bool.not_eq_true', decide_eq_false_iff_not, List.length_map, atI0, atI1, atI2, Nat.reduceLeDiff, Int.reduceEq, Int.reduceLT, Int.reduceLE, Int.reduceAdd, Int.reduceSub, Int.cast_ofNat_Int, isi_tuple, isi_list, isi_int, isi_bool, isi_str, isi_none, reduceCtorEq, Bool.true_eq_false, Nat.min_self]
    refine wLoop_map (fun i ρ => ∃ (out : List Int) (a b c d : Cell), ρ = ⟨[.im (.int n), .im (.list (t.map dN)), .mu (out.map .int), a, b, c, d], kx⟩ ∧ out.length = n) ⟨out, _, _, _, _, rfl, hl⟩ ?_ ?_
    · rintro ρ ⟨out, a, b, c, d, rfl, hl⟩
      exact hk _ ⟨out, a, b, c, d, rfl, hl⟩
    · rintro i p ρ kk hp ⟨out, a, b, c, d, rfl, hl⟩ hk
      have hr := ok.1 p (List.mem_of_getElem? hp)
      rw [← hl] at hr
      unfold b1__law_ranks
      have e1 := ixN_nat (n := out.length) hr.1.1 (by omega)
      simp only [↓e_sSeq, ↓e_sNext, ↓e_sBreak, ↓e_sCont, ↓e_sDrop, ↓e_sRet, ↓e_sRetV, ↓e_sRetN, ↓e_sIfS, ↓e_sAsg, ↓e_sFor, ↓e_sVar, ↓e_sRV, ↓e_sRE, ↓e_sC, ↓e_aNil, ↓e_aCons, ↓e_ar, ↓e_dNil, ↓e_dCons, ↓e_fz, ↓e_sLst, ↓e_sTup, ↓e_s1, ↓e_s2, ↓e_s3, ↓e_s4, ↓e_rs, ↓e_sT, ↓e_sAnd, ↓e_sOr, ↓e_sNot, ↓e_vB, ↓e_sAndV, ↓e_sOrV, ↓e_sNotV, ↓e_sIf, ↓e_sgName, ↓e_cellOf, ↓e_sgNil, ↓e_sgCons, ↓e_sgTup, ↓e_sIt, ↓e_sRng1, ↓e_sRng2, ↓e_sEnum, ↓e_sZip, ↓e_sRev, ↓e_sRevR, ↓e_sRg1, ↓e_sRg2, ↓sI, ↓e_sLstR, ↓e_sCall, ↓e_sMeth, ↓e_sSetIx, ↓e_sAugIx, ↓e_sAug, ↓e_sSl, ↓e_pNo, ↓e_pSome, ↓e_sLc, ↓e_sYes, ↓e_sStep, ↓e_sIxG, ↓e_oAdd, ↓e_oI, ↓e_oI0, ↓e_oSub, ↓e_oMul, ↓e_oFdiv, ↓e_oMod, ↓e_oPow, ↓e_oShl, ↓e_oShr, ↓e_oNeg, ↓e_oEq, ↓e_oNe, ↓e_oLtI, ↓e_oLeI, ↓e_oGtI, ↓e_oGeI, ↓e_oIs, ↓e_oIn, ↓e_oIx, ↓e_oSl, ↓e_oLen, ↓e_oAbs, ↓e_oInt, ↓e_oMax2, ↓e_oMin2, ↓e_oList, ↓e_oTuple, ↓e_oIsi, ↓e_oAddI, ↓e_mAppend, ↓e_mExtend, ↓e_mPop, ↓e_mPopAt, ↓e_mInsert, ↓ng, ↓isNone, ↓e_noFd, ↓e_cells0, ↓arCell, ↓e_sTurn, ↓e_wip0, ↓e_wip1, ↓e_sIndex, List.map_cons, List.map_nil, List.length_cons, List.length_nil, List.cons_append, List.nil_append, List.replicate, Nat.reduceAdd, Nat.reduceSub, Nat.zero_add, List.getElem?_cons_zero, List.getElem?_cons_succ, List.set_cons_zero, List.set_cons_succ, if_true, if_false, ↓reduceIte, Bool.false_eq_true, true_and, and_true, not_true_eq_false, not_false_eq_true, decide_eq_true_eq, Bool.not_true, Bool.not_false, Bool.not_not, Bool.not_eq_true', decide_eq_false_iff_not, List.length_map, atI0, atI1, atI2, Nat.reduceLeDiff, Int.reduceEq, Int.reduceLT, Int.reduceLE, Int.reduceAdd, Int.reduceSub, Int.cast_ofNat_Int, isi_tuple, isi_list, isi_int, isi_bool, isi_str, isi_none, reduceCtorEq, Bool.true_eq_false, Nat.min_self, dN, rk_at (ns := out) hr.1.1 (by omega), rk_at (ns := out) hr.2.1 (by omega), e1]
      refine hk _ ⟨out.set p.1.toNat (if rk out p.2.1 + 1 > rk out p.1 then rk out p.2.1 + 1 else rk out p.1), _, _, _, _, by rw [List.map_set], by rw [List.length_set, hl]⟩
theorem F__law_ranks_ap {n : Nat} {t : NT} (hn : n ≤ 1000) (ok : OkN n t) {k kx} (h : ∀ out : List Int, out.length = n → k (.fr (out.map .int))) : F__law_ranks [.d (.int n), .d (.list (t.map dN))] k kx := ⟨n, t, rfl, hn, ok, h⟩
end Lw

namespace Lw
open PySem PySem.Spec L2 Dv
open PyProof.Rows hiding St
theorem eqv_int (a b : Int) : PyData.eqv (.int a) (.int b) = (a == b) := by rw [PyData.eqv]
theorem depAll_ints : ∀ ns : List Int, PyData.depthAll (ns.map PyData.int) = 0
  | [] => by simp [PyData.depthAll]
  | n :: ns => by rw [List.map_cons, PyData.depthAll, depAll_ints ns]; simp [PyData.depth]
theorem any_int (ns : List Int) (x : Int) : ((ns.map PyData.int).any fun z => PyData.eqv z (.int x)) = decide (x ∈ ns) := by
  induction ns with
  | nil => rfl
  | cons n ns ih =>
    rw [List.map_cons, List.any_cons, ih, eqv_int]
    by_cases h : n = x
    · subst h; simp
    · rw [beq_eq_false_iff_ne.mpr h, Bool.false_or]
      exact decide_eq_decide.mpr ⟨fun z => .tail _ z, fun z => by
        rcases List.mem_cons.mp z with e | z
        · exact absurd e.symm h
        · exact z⟩
theorem first_at : ∀ (ns : List Int) (x : Int), x ∈ ns → ∃ j : Nat, ns[j]? = some x ∧ ∀ m : Nat, m < j → ns[m]? ≠ some x
  | n :: ns, x, h => by
    by_cases e : n = x
    · subst e; exact ⟨0, rfl, fun m hm => absurd hm (Nat.not_lt_zero _)⟩
    · rcases List.mem_cons.mp h with e2 | h
      · exact absurd e2.symm e
      · obtain ⟨j, h1, h2⟩ := first_at ns x h
        refine ⟨j + 1, by rw [List.getElem?_cons_succ]; exact h1, fun m hm => ?_⟩
        cases m with
        | zero => rw [List.getElem?_cons_zero]; exact fun z => e (Option.some.inj z)
        | succ m => rw [List.getElem?_cons_succ]; exact h2 m (by omega)
theorem flat_ints (ns : List Int) : (ns.map PyData.int).all flatD = true := by
  rw [List.all_map]; exact List.all_eq_true.mpr fun _ _ => rfl
theorem atI_lastI {ns : List Int} (h : ns ≠ []) : L2.atI (ns.map PyData.int) (-1) = some (.int (ns.getLastD 0)) := by
  rw [atI_m1, List.getLast?_map]
  cases e : ns.getLast? with
  | none => exact absurd (List.getLast?_eq_none_iff.mp e) h
  | some x => rw [List.getLastD_eq_getLast?, e]; rfl
def F__law_ring : Fn := fun as k _ => ∃ (n : Nat) (t : NT), as = [.d (.int n), .d (.list (t.map dN))] ∧ n ≤ 100 ∧ t ≠ [] ∧ OkN n t ∧ ∀ out : List Int, out ≠ [] → out.length ≤ 200 → k (.fr (out.map .int))
theorem len__law_ring : ∀ as k kx, F__law_ring as k kx → as.length = 2 := by rintro as k kx ⟨_, _, rfl, _⟩; rfl
theorem w__law_ring : ∀ as k kx, F__law_ring as k kx → m__law_ring ⟨cells0 11 as, kx⟩ { nx := fun _ => k (.im .none), rt := fun v _ => noFd k v } := by
  rintro as k kx ⟨n, t, rfl, hn, hne, ok, h⟩
  obtain ⟨p0, t', rfl⟩ : ∃ p t', t = p :: t' := by cases t with | nil => exact absurd rfl hne | cons p t' => exact ⟨p, t', rfl⟩
  unfold m__law_ring
  refine seq_step fun K hK => ?_; simp only [↓e_sNext, ↓e_sBreak, ↓e_sCont, ↓e_sDrop, ↓e_sRet, ↓e_sRetV, ↓e_sRetN, ↓e_sIfS, ↓e_sAsg, ↓e_sFor, ↓e_sVar, ↓e_sRV, ↓e_sRE, ↓e_sC, ↓e_aNil, ↓e_aCons, ↓e_ar, ↓e_dNil, ↓e_dCons, ↓e_fz, ↓e_sLst, ↓e_sTup, ↓e_s1, ↓e_s2, ↓e_s3, ↓e_s4, ↓e_rs, ↓e_sT, ↓e_sAnd, ↓e_sOr, ↓e_sNot, ↓e_vB, ↓e_sAndV, ↓e_sOrV, ↓e_sNotV, ↓e_sIf, ↓e_sgName, ↓e_cellOf, ↓e_sgNil, ↓e_sgCons, ↓e_sgTup, ↓e_sIt, ↓e_sRng1, ↓e_sRng2, ↓e_sEnum, ↓e_sZip, ↓e_sRev, ↓e_sRevR, ↓e_sRg1, ↓e_sRg2, ↓sI, ↓e_sLstR, ↓e_sCall, ↓e_sMeth, ↓e_sSetIx, ↓e_sAugIx, ↓e_sAug, ↓e_sSl, ↓e_pNo, ↓e_pSome, ↓e_sLc, ↓e_sYes, ↓e_sStep, ↓e_sIxG, ↓e_oAdd, ↓e_oI, ↓e_oI0, ↓e_oSub, ↓e_oMul, ↓e_oFdiv, ↓e_oMod, ↓e_oPow, ↓e_oShl, ↓e_oShr, ↓e_oNeg, ↓e_oEq, ↓e_oNe, ↓e_oLtI, ↓e_oLeI, ↓e_oGtI, ↓e_oGeI, ↓e_oIs, ↓e_oIn, ↓e_oIx, ↓e_oSl, ↓e_oLen, ↓e_oAbs, ↓e_oInt, ↓e_oMax2, ↓e_oMin2, ↓e_oList, ↓e_oTuple, ↓e_oIsi, ↓e_oAddI, ↓e_mAppend, ↓e_mExtend, ↓e_mPop, ↓e_mPopAt, ↓e_mInsert, ↓ng, ↓isNone, ↓e_noFd, ↓e_cells0, ↓arCell, ↓e_sTurn, ↓e_wip0, ↓e_wip1, ↓e_sIndex, List.map_cons, List.map_nil, List.length_cons, List.length_nil, List.cons_append, List.nil_append, List.replicate, Nat.reduceAdd, Nat.reduceSub, Nat.zero_add, List.getElem?_cons_zero, List.getElem?_cons_succ, List.set_cons_zero, List.set_cons_succ, if_true, if_false, ↓reduceIte, Bool.false_eq_true, true_and, and_true, not_true_eq_false, not_false_eq_true, decide_eq_true_eq, Bool.not_true, Bool.not_false, Bool.not_not, Bool.not_eq_true', decide_eq_false_iff_not, List.length_map, atI0, atI1, atI2, Nat.reduceLeDiff, Int.reduceEq, Int.reduceLT, Int.reduceLE, Int.reduceAdd, Int.reduceSub, Int.cast_ofNat_Int, isi_tuple, isi_list, isi_int, isi_bool, isi_str, isi_none, reduceCtorEq, Bool.true_eq_false, Nat.min_self, dN]
  refine hK _ ?_; clear hK; clear K
  refine seq_step fun K hK => ?_; simp only [↓e_sNext, ↓e_sBreak, ↓e_sCont, ↓e_sDrop, ↓e_sRet, ↓e_sRetV, ↓e_sRetN, ↓e_sIfS, ↓e_sAsg, ↓e_sFor, ↓e_sVar, ↓e_sRV, ↓e_sRE, ↓e_sC, ↓e_aNil, ↓e_aCons, ↓e_ar, ↓e_dNil, ↓e_dCons, ↓e_fz, ↓e_sLst, ↓e_sTup, ↓e_s1, ↓e_s2, ↓e_s3, ↓e_s4, ↓e_rs, ↓e_sT, ↓e_sAnd, ↓e_sOr, ↓e_sNot, ↓e_vB, ↓e_sAndV, ↓e_sOrV, ↓e_sNotV, ↓e_sIf, ↓e_sgName, ↓e_cellOf, ↓e_sgNil, ↓e_sgCons, ↓e_sgTup, ↓e_sIt, ↓e_sRng1, ↓e_sRng2, ↓e_sEnum, ↓e_sZip, ↓e_sRev, ↓e_sRevR, ↓e_sRg1, ↓e_sRg2, ↓sI, ↓e_sLstR, ↓e_sCall, ↓e_sMeth, ↓e_sSetIx, ↓e_sAugIx, ↓e_sAug, ↓e_sSl, ↓e_pNo, ↓e_pSome, ↓e_sLc, ↓e_sYes, ↓e_sStep, ↓e_sIxG, ↓e_oAdd, ↓e_oI, ↓e_oI0, ↓e_oSub, ↓e_oMul, ↓e_oFdiv, ↓e_oMod, ↓e_oPow, ↓e_oShl, ↓e_oShr, ↓e_oNeg, ↓e_oEq, ↓e_oNe, ↓e_oLtI, ↓e_oLeI, ↓e_oGtI, ↓e_oGeI, ↓e_oIs, ↓e_oIn, ↓e_oIx, ↓e_oSl, ↓e_oLen, ↓e_oAbs, ↓e_oInt, ↓e_oMax2, ↓e_oMin2, ↓e_oList, ↓e_oTuple, ↓e_oIsi, ↓e_oAddI, ↓e_mAppend, ↓e_mExtend, ↓e_mPop, ↓e_mPopAt, ↓e_mInsert, ↓ng, ↓isNone, ↓e_noFd, ↓e_cells0, ↓arCell, ↓e_sTurn, ↓e_wip0, ↓e_wip1, ↓e_sIndex, List.map_cons, List.map_nil, List.length_cons, List.length_nil, List.cons_append, List.nil_append, List.replicate, Nat.reduceAdd, Nat.reduceSub, Nat.zero_add, List.getElem?_cons_zero, List.getElem?_cons_succ, List.set_cons_zero, List.set_cons_succ, if_true, if_false, ↓reduceIte, Bool.false_eq_true, true_and, and_true, not_true_eq_false, not_false_eq_true, decide_eq_true_eq, Bool.not_true, Bool.not_false, Bool.not_not, Bool.not_eq_true', decide_eq_false_iff_not, List.length_map, atI0, atI1, atI2, Nat.reduceLeDiff, Int.reduceEq, Int.reduceLT, Int.reduceLE, Int.reduceAdd, Int.reduceSub, Int.cast_ofNat_Int, isi_tuple, isi_list, isi_int, isi_bool, isi_str, isi_none, reduceCtorEq, Bool.true_eq_false, Nat.min_self]
  refine hK _ ?_; clear hK; clear K
  refine seq_step fun K hK => ?_; simp only [↓e_sNext, ↓e_sBreak, ↓e_sCont, ↓e_sDrop, ↓e_sRet, ↓e_sRetV, ↓e_sRetN, ↓e_sIfS, ↓e_sAsg, ↓e_sFor, ↓e_sVar, ↓e_sRV, ↓e_sRE, ↓e_sC, ↓e_aNil, ↓e_aCons, ↓e_ar, ↓e_dNil, ↓e_dCons, ↓e_fz, ↓e_sLst, ↓e_sTup, ↓e_s1, ↓e_s2, ↓e_s3, ↓e_s4, ↓e_rs, ↓e_sT, ↓e_sAnd, ↓e_sOr, ↓e_sNot, ↓e_vB, ↓e_sAndV, ↓e_sOrV, ↓e_sNotV, ↓e_sIf, ↓e_sgName, ↓e_cellOf, ↓e_sgNil, ↓e_sgCons, ↓e_sgTup, ↓e_sIt, ↓e_sRng1, ↓e_sRng2, ↓e_sEnum, ↓e_sZip, ↓e_sRev, ↓e_sRevR, ↓e_sRg1, ↓e_sRg2, ↓sI, ↓e_sLstR, ↓e_sCall, ↓e_sMeth, ↓e_sSetIx, ↓e_sAugIx, ↓e_sAug, ↓e_sSl, ↓e_pNo, ↓e_pSome, ↓e_sLc, ↓e_sYes, ↓e_sStep, ↓e_sIxG, ↓e_oAdd, ↓e_oI, ↓e_oI0, ↓e_oSub, ↓e_oMul, ↓e_oFdiv, ↓e_oMod, ↓e_oPow, ↓e_oShl, ↓e_oShr, ↓e_oNeg, ↓e_oEq, ↓e_oNe, ↓e_oLtI, ↓e_oLeI, ↓e_oGtI, ↓e_oGeI, ↓e_oIs, ↓e_oIn, ↓e_oIx, ↓e_oSl, ↓e_oLen, ↓e_oAbs, ↓e_oInt, ↓e_oMax2, ↓e_oMin2, ↓e_oList, ↓e_oTuple, ↓e_oIsi, ↓e_oAddI, ↓e_mAppend, ↓e_mExtend, ↓e_mPop, ↓e_mPopAt, ↓e_mInsert, ↓ng, ↓isNone, ↓e_noFd, ↓e_cells0, ↓arCell, ↓e_sTurn, ↓e_wip0, ↓e_wip1, ↓e_sIndex, List.map_cons, List.map_nil, List.length_cons, List.length_nil, List.cons_append, List.nil_append, List.replicate, Nat.reduceAdd, Nat.reduceSub, Nat.zero_add, List.getElem?_cons_zero, List.getElem?_cons_succ, List.set_cons_zero, List.set_cons_succ, if_true, if_false, ↓reduceIte, Bool.false_eq_true, true_and, and_true, not_true_eq_false, not_false_eq_true, decide_eq_true_eq, Bool.not_true, Bool.not_false, Bool.not_not, Bool.not_eq_true', decide_eq_false_iff_not, List.length_map, atI0, atI1, atI2, Nat.reduceLeDiff, Int.reduceEq, Int.reduceLT, Int.reduceLE, Int.reduceAdd, Int.reduceSub, Int.cast_ofNat_Int, isi_tuple, isi_list, isi_int, isi_bool, isi_str, isi_none, reduceCtorEq, Bool.true_eq_false, Nat.min_self]
  refine ⟨by omega, by omega, ?_⟩
  have ht : PyData.tuple [PyData.int p0.1, .int p0.2.1, .int p0.2.2] :: t'.map dN = (p0 :: t').map dN := rfl
  generalize p0 :: t' = t at ht ok
  rw [ht]
  refine wLoop_rng (fun i ρ => ∃ (ring : List Int) (a b : Cell), ρ = ⟨[.im (.int n), .im (.list (t.map dN)), .im (.int p0.1), .im (.int p0.2.1), .im (.int p0.2.2), .mu (ring.map .int), a, b, .un, .un, .un], kx⟩ ∧ ring ≠ [] ∧ ring.length ≤ i + 1) ⟨[p0.1], .un, .un, rfl, by simp, by simp⟩ ?_ ?_
  · rintro ρ ⟨ring, a, b, rfl, hr, hl⟩
    refine hK _ ?_; clear hK; clear K
    simp only [↓e_sSeq, ↓e_sNext, ↓e_sBreak, ↓e_sCont, ↓e_sDrop, ↓e_sRet, ↓e_sRetV, ↓e_sRetN, ↓e_sIfS, ↓e_sAsg, ↓e_sFor, ↓e_sVar, ↓e_sRV, ↓e_sRE, ↓e_sC, ↓e_aNil, ↓e_aCons, ↓e_ar, ↓e_dNil, ↓e_dCons, ↓e_fz, ↓e_sLst, ↓e_sTup, ↓e_s1, ↓e_s2, ↓e_s3, ↓e_s4, ↓e_rs, ↓e_sT, ↓e_sAnd, ↓e_sOr, ↓e_sNot, ↓e_vB, ↓e_sAndV, ↓e_sOrV, ↓e_sNotV, ↓e_sIf, ↓e_sgName, ↓e_cellOf, ↓e_sgNil, ↓e_sgCons, ↓e_sgTup, ↓e_sIt, ↓e_sRng1, ↓e_sRng2, ↓e_sEnum, ↓e_sZip, ↓e_sRev, ↓e_sRevR, ↓e_sRg1, ↓e_sRg2, ↓sI, ↓e_sLstR, ↓e_sCall, ↓e_sMeth, ↓e_sSetIx, ↓e_sAugIx, ↓e_sAug, ↓e_sSl, ↓e_pNo, ↓e_pSome, ↓e_sLc, ↓e_sYes, ↓e_sStep, ↓e_sIxG, ↓e_oAdd, ↓e_oI, ↓e_oI0, ↓e_oSub, ↓e_oMul, ↓e_oFdiv, ↓e_oMod, ↓e_oPow, ↓e_oShl, ↓e_oShr, ↓e_oNeg, ↓e_oEq, ↓e_oNe, ↓e_oLtI, ↓e_oLeI, ↓e_oGtI, ↓e_oGeI, ↓e_oIs, ↓e_oIn, ↓e_oIx, ↓e_oSl, ↓e_oLen, ↓e_oAbs, ↓e_oInt, ↓e_oMax2, ↓e_oMin2, ↓e_oList, ↓e_oTuple, ↓e_oIsi, ↓e_oAddI, ↓e_mAppend, ↓e_mExtend, ↓e_mPop, ↓e_mPopAt, ↓e_mInsert, ↓ng, ↓isNone, ↓e_noFd, ↓e_cells0, ↓arCell, ↓e_sTurn, ↓e_wip0, ↓e_wip1, ↓e_sIndex, List.map_cons, List.map_nil, List.length_cons, List.length_nil, List.cons_append, List.nil_append, List.replicate, Nat.reduceAdd, Nat.reduceSub, Nat.zero_add, List.getElem?_cons_zero, List.getElem?_cons_succ, List.set_cons_zero, List.set_cons_succ, if_true, if_false, ↓reduceIte, Bool.false_eq_true, true_and, and_true, not_true_eq_false, not_false_eq_true, decide_eq_true_eq, Bool.not_true, Bool.not_false, Bool.not_not, Bool.not_eq_true', decide_eq_false_iff_not, List.length_map, atI0, atI1, atI2, Nat.reduceLeDiff, Int.reduceEq, Int.reduceLT, Int.reduceLE, Int.reduceAdd, Int.reduceSub, Int.cast_ofNat_Int, isi_tuple, isi_list, isi_int, isi_bool, isi_str, isi_none, reduceCtorEq, Bool.true_eq_false, Nat.min_self]
    exact h ring hr (by omega)
  · rintro i ρ kk hi ⟨ring, a, b, rfl, hr, hl⟩ hk
    unfold b1__law_ring
    refine seq_step fun K hK => ?_; simp only [↓e_sNext, ↓e_sBreak, ↓e_sCont, ↓e_sDrop, ↓e_sRet, ↓e_sRetV, ↓e_sRetN, ↓e_sIfS, ↓e_sAsg, ↓e_sFor, ↓e_sVar, ↓e_sRV, ↓e_sRE, ↓e_sC, ↓e_aNil, ↓e_aCons, ↓e_ar, ↓e_dNil, ↓e_dCons, ↓e_fz, ↓e_sLst, ↓e_sTup, ↓e_s1, ↓e_s2, ↓e_s3, ↓e_s4, ↓e_rs, ↓e_sT, ↓e_sAnd, ↓e_sOr, ↓e_sNot, ↓e_vB, ↓e_sAndV, ↓e_sOrV, ↓e_sNotV, ↓e_sIf, ↓e_sgName, ↓e_cellOf, ↓e_sgNil, ↓e_sgCons, ↓e_sgTup, ↓e_sIt, ↓e_sRng1, ↓e_sRng2, ↓e_sEnum, ↓e_sZip, ↓e_sRev, ↓e_sRevR, ↓e_sRg1, ↓e_sRg2, ↓sI, ↓e_sLstR, ↓e_sCall, ↓e_sMeth, ↓e_sSetIx, ↓e_sAugIx, ↓e_sAug, ↓e_sSl, ↓e_pNo, ↓e_pSome, ↓e_sLc, ↓e_sYes, ↓e_sStep, ↓e_sIxG, ↓e_oAdd, ↓e_oI, ↓e_oI0, ↓e_oSub, ↓e_oMul, ↓e_oFdiv, ↓e_oMod, ↓e_oPow, ↓e_oShl, ↓e_oShr, ↓e_oNeg, ↓e_oEq, ↓e_oNe, ↓e_oLtI, ↓e_oLeI, ↓e_oGtI, ↓e_oGeI, ↓e_oIs, ↓e_oIn, ↓e_oIx, ↓e_oSl, ↓e_oLen, ↓e_oAbs, ↓e_oInt, ↓e_oMax2, ↓e_oMin2, ↓e_oList, ↓e_oTuple, ↓e_oIsi, ↓e_oAddI, ↓e_mAppend, ↓e_mExtend, ↓e_mPop, ↓e_mPopAt, ↓e_mInsert, ↓ng, ↓isNone, ↓e_noFd, ↓e_cells0, ↓arCell, ↓e_sTurn, ↓e_wip0, ↓e_wip1, ↓e_sIndex, List.map_cons, List.map_nil, List.length_cons, List.length_nil, List.cons_append, List.nil_append, List.replicate, Nat.reduceAdd, Nat.reduceSub, Nat.zero_add, List.getElem?_cons_zero, List.getElem?_cons_succ, List.set_cons_zero, List.set_cons_succ, if_true, if_false, ↓reduceIte, Bool.false_eq_true, true_and, and_true, not_true_eq_false, not_false_eq_true, decide_eq_true_eq, Bool.not_true, Bool.not_false, Bool.not_not, Bool.not_eq_true', decide_eq_false_iff_not, List.length_map, atI0, atI1, atI2, Nat.reduceLeDiff, Int.reduceEq, Int.reduceLT, Int.reduceLE, Int.reduceAdd, Int.reduceSub, Int.cast_ofNat_Int, isi_tuple, isi_list, isi_int, isi_bool, isi_str, isi_none, reduceCtorEq, Bool.true_eq_false, Nat.min_self]
    refine ⟨by have := ok.2; omega, ?_⟩
    refine wComp_fmA dN (fun p => if p.1 = ring.getLastD 0 then some (.int p.2.1) else none) (fun p hpt K hK => ?_) ?_
    · by_cases g : p.1 = ring.getLastD 0
      · rw [if_pos g] at hK
        simp only [↓e_sSeq, ↓e_sNext, ↓e_sBreak, ↓e_sCont, ↓e_sDrop, ↓e_sRet, ↓e_sRetV, ↓e_sRetN, ↓e_sIfS, ↓e_sAsg, ↓e_sFor, ↓e_sVar, ↓e_sRV, ↓e_sRE, ↓e_sC, ↓e_aNil, ↓e_aCons, ↓e_ar, ↓e_dNil, ↓e_dCons, ↓e_fz, ↓e_sLst, ↓e_sTup, ↓e_s1, ↓e_s2, ↓e_s3, ↓e_s4, ↓e_rs, ↓e_sT, ↓e_sAnd, ↓e_sOr, ↓e_sNot, ↓e_vB, ↓e_sAndV, ↓e_sOrV, ↓e_sNotV, ↓e_sIf, ↓e_sgName, ↓e_cellOf, ↓e_sgNil, ↓e_sgCons, ↓e_sgTup, ↓e_sIt, ↓e_sRng1, ↓e_sRng2, ↓e_sEnum, ↓e_sZip, ↓e_sRev, ↓e_sRevR, ↓e_sRg1, ↓e_sRg2, ↓sI, ↓e_sLstR, ↓e_sCall, ↓e_sMeth, ↓e_sSetIx, ↓e_sAugIx, ↓e_sAug, ↓e_sSl, ↓e_pNo, ↓e_pSome, ↓e_sLc, ↓e_sYes, ↓e_sStep, ↓e_sIxG, ↓e_oAdd, ↓e_oI, ↓e_oI0, ↓e_oSub, ↓e_oMul, ↓e_oFdiv, ↓e_oMod, ↓e_oPow, ↓e_oShl, ↓e_oShr, ↓e_oNeg, ↓e_oEq, ↓e_oNe, ↓e_oLtI, ↓e_oLeI, ↓e_oGtI, ↓e_oGeI, ↓e_oIs, ↓e_oIn, ↓e_oIx, ↓e_oSl, ↓e_oLen, ↓e_oAbs, ↓e_oInt, ↓e_oMax2, ↓e_oMin2, ↓e_oList, ↓e_oTuple, ↓e_oIsi, ↓e_oAddI, ↓e_mAppend, ↓e_mExtend, ↓e_mPop, ↓e_mPopAt, ↓e_mInsert, ↓ng, ↓isNone, ↓e_noFd, ↓e_cells0, ↓arCell, ↓e_sTurn, ↓e_wip0, ↓e_wip1, ↓e_sIndex, List.map_cons, List.map_nil, List.length_cons, List.length_nil, List.cons_append, List.nil_append, List.replicate, Nat.reduceAdd, Nat.reduceSub, Nat.zero_add, List.getElem?_cons_zero, List.getElem?_cons_succ, List.set_cons_zero, List.set_cons_succ, if_true, if_false, ↓reduceIte, Bool.false_eq_true, true_and, and_true, not_true_eq_false, not_false_eq_true, decide_eq_true_eq, Bool.not_true, Bool.not_false, Bool.not_not, Bool.not_eq_true', decide_eq_false_iff_not, List.length_map, atI0, atI1, atI2, Nat.reduceLeDiff, Int.reduceEq, Int.reduceLT, Int.reduceLE, Int.reduceAdd, Int.reduceSub, Int.cast_ofNat_Int, isi_tuple, isi_list, isi_int, isi_bool, isi_str, isi_none, reduceCtorEq, Bool.true_eq_false, Nat.min_self, dN, atI_lastI hr, eq_true g]
        exact hK _ _ rfl
      · rw [if_neg g] at hK
        simp only [↓e_sSeq, ↓e_sNext, ↓e_sBreak, ↓e_sCont, ↓e_sDrop, ↓e_sRet, ↓e_sRetV, ↓e_sRetN, ↓e_sIfS, ↓e_sAsg, ↓e_sFor, ↓e_sVar, ↓e_sRV, ↓e_sRE, ↓e_sC, ↓e_aNil, ↓e_aCons, ↓e_ar, ↓e_dNil, ↓e_dCons, ↓e_fz, ↓e_sLst, ↓e_sTup, ↓e_s1, ↓e_s2, ↓e_s3, ↓e_s4, ↓e_rs, ↓e_sT, ↓e_sAnd, ↓e_sOr, ↓e_sNot, ↓e_vB, ↓e_sAndV, ↓e_sOrV, ↓e_sNotV, ↓e_sIf, ↓e_sgName, ↓e_cellOf, ↓e_sgNil, ↓e_sgCons, ↓e_sgTup, ↓e_sIt, ↓e_sRng1, ↓e_sRng2, ↓e_sEnum, ↓e_sZip, ↓e_sRev, ↓e_sRevR, ↓e_sRg1, ↓e_sRg2, ↓sI, ↓e_sLstR, ↓e_sCall, ↓e_sMeth, ↓e_sSetIx, ↓e_sAugIx, ↓e_sAug, ↓e_sSl, ↓e_pNo, ↓e_pSome, ↓e_sLc, ↓e_sYes, ↓e_sStep, ↓e_sIxG, ↓e_oAdd, ↓e_oI, ↓e_oI0, ↓e_oSub, ↓e_oMul, ↓e_oFdiv, ↓e_oMod, ↓e_oPow, ↓e_oShl, ↓e_oShr, ↓e_oNeg, ↓e_oEq, ↓e_oNe, ↓e_oLtI, ↓e_oLeI, ↓e_oGtI, ↓e_oGeI, ↓e_oIs, ↓e_oIn, ↓e_oIx, ↓e_oSl, ↓e_oLen, ↓e_oAbs, ↓e_oInt, ↓e_oMax2, ↓e_oMin2, ↓e_oList, ↓e_oTuple, ↓e_oIsi, ↓e_oAddI, ↓e_mAppend, ↓e_mExtend, ↓e_mPop, ↓e_mPopAt, ↓e_mInsert, ↓ng, ↓isNone, ↓e_noFd, ↓e_cells0, ↓arCell, ↓e_sTurn, ↓e_wip0, ↓e_wip1, ↓e_sIndex, List.map_cons, List.map_nil, List.length_cons, List.length_nil, List.cons_append, List.nil_append, List.replicate, Nat.reduceAdd, Nat.reduceSub, Nat.zero_add, List.getElem?_cons_zero, List.getElem?_cons_succ, List.set_cons_zero, List.set_cons_succ, if_true, if_false, ↓reduceIte, Bool.false_eq_true, true_and, and_true, not_true_eq_false, not_false_eq_true, decide_eq_true_eq, Bool.not_true, Bool.not_false, Bool.not_not, Bool.not_eq_true', decide_eq_false_iff_not, List.length_map, atI0, atI1, atI2, Nat.reduceLeDiff, Int.reduceEq, Int.reduceLT, Int.reduceLE, Int.reduceAdd, Int.reduceSub, Int.cast_ofNat_Int, isi_tuple, isi_list, isi_int, isi_bool, isi_str, isi_none, reduceCtorEq, Bool.true_eq_false, Nat.min_self, dN, atI_lastI hr, eq_false g]
        exact hK _ _ rfl
    · refine hK _ ?_; clear hK; clear K
      have ho : ∃ ows : List Int, (t.filterMap fun p => if p.1 = ring.getLastD 0 then some (PyData.int p.2.1) else none) = ows.map .int := by
        clear hk h ok ht hne
        induction t with
        | nil => exact ⟨[], rfl⟩
        | cons p t ih =>
          obtain ⟨ows, ih⟩ := ih
          rw [List.filterMap_cons, ih]
          by_cases g : p.1 = ring.getLastD 0
          · rw [if_pos g]; exact ⟨p.2.1 :: ows, rfl⟩
          · rw [if_neg g]; exact ⟨ows, rfl⟩
      obtain ⟨ows, ho⟩ := ho
      rw [ho]
      cases ows with
      | nil =>
        simp only [↓e_sSeq, ↓e_sNext, ↓e_sBreak, ↓e_sCont, ↓e_sDrop, ↓e_sRet, ↓e_sRetV, ↓e_sRetN, ↓e_sIfS, ↓e_sAsg, ↓e_sFor, ↓e_sVar, ↓e_sRV, ↓e_sRE, ↓e_sC, ↓e_aNil, ↓e_aCons, ↓e_ar, ↓e_dNil, ↓e_dCons, ↓e_fz, ↓e_sLst, ↓e_sTup, ↓e_s1, ↓e_s2, ↓e_s3, ↓e_s4, ↓e_rs, ↓e_sT, ↓e_sAnd, ↓e_sOr, ↓e_sNot, ↓e_vB, ↓e_sAndV, ↓e_sOrV, ↓e_sNotV, ↓e_sIf, ↓e_sgName, ↓e_cellOf, ↓e_sgNil, ↓e_sgCons, ↓e_sgTup, ↓e_sIt, ↓e_sRng1, ↓e_sRng2, ↓e_sEnum, ↓e_sZip, ↓e_sRev, ↓e_sRevR, ↓e_sRg1, ↓e_sRg2, ↓sI, ↓e_sLstR, ↓e_sCall, ↓e_sMeth, ↓e_sSetIx, ↓e_sAugIx, ↓e_sAug, ↓e_sSl, ↓e_pNo, ↓e_pSome, ↓e_sLc, ↓e_sYes, ↓e_sStep, ↓e_sIxG, ↓e_oAdd, ↓e_oI, ↓e_oI0, ↓e_oSub, ↓e_oMul, ↓e_oFdiv, ↓e_oMod, ↓e_oPow, ↓e_oShl, ↓e_oShr, ↓e_oNeg, ↓e_oEq, ↓e_oNe, ↓e_oLtI, ↓e_oLeI, ↓e_oGtI, ↓e_oGeI, ↓e_oIs, ↓e_oIn, ↓e_oIx, ↓e_oSl, ↓e_oLen, ↓e_oAbs, ↓e_oInt, ↓e_oMax2, ↓e_oMin2, ↓e_oList, ↓e_oTuple, ↓e_oIsi, ↓e_oAddI, ↓e_mAppend, ↓e_mExtend, ↓e_mPop, ↓e_mPopAt, ↓e_mInsert, ↓ng, ↓isNone, ↓e_noFd, ↓e_cells0, ↓arCell, ↓e_sTurn, ↓e_wip0, ↓e_wip1, ↓e_sIndex, List.map_cons, List.map_nil, List.length_cons, List.length_nil, List.cons_append, List.nil_append, List.replicate, Nat.reduceAdd, Nat.reduceSub, Nat.zero_add, List.getElem?_cons_zero, List.getElem?_cons_succ, List.set_cons_zero, List.set_cons_succ, if_true, if_false, ↓reduceIte, Bool.false_eq_true, true_and, and_true, not_true_eq_false, not_false_eq_true, decide_eq_true_eq, Bool.not_true, Bool.not_false, Bool.not_not, Bool.not_eq_true', decide_eq_false_iff_not, List.length_map, atI0, atI1, atI2, Nat.reduceLeDiff, Int.reduceEq, Int.reduceLT, Int.reduceLE, Int.reduceAdd, Int.reduceSub, Int.cast_ofNat_Int, isi_tuple, isi_list, isi_int, isi_bool, isi_str, isi_none, reduceCtorEq, Bool.true_eq_false, Nat.min_self, Int.lt_irrefl]
        exact hk _ ⟨ring, _, _, rfl, hr, by omega⟩
      | cons w ows =>
        have hg : (0 : Int) < ((ows.length + 1 : Nat) : Int) := by omega
        have hd := depAll_ints ring
        have hz : (PyData.int w).depth = 0 := by simp [PyData.depth]
        by_cases g : w ∈ ring
        · obtain ⟨j, hj1, hj2⟩ := first_at ring w g
          have hj := (List.getElem?_eq_some_iff.mp hj1).1
          simp only [↓e_sSeq, ↓e_sNext, ↓e_sBreak, ↓e_sCont, ↓e_sDrop, ↓e_sRet, ↓e_sRetV, ↓e_sRetN, ↓e_sIfS, ↓e_sAsg, ↓e_sFor, ↓e_sVar, ↓e_sRV, ↓e_sRE, ↓e_sC, ↓e_aNil, ↓e_aCons, ↓e_ar, ↓e_dNil, ↓e_dCons, ↓e_fz, ↓e_sLst, ↓e_sTup, ↓e_s1, ↓e_s2, ↓e_s3, ↓e_s4, ↓e_rs, ↓e_sT, ↓e_sAnd, ↓e_sOr, ↓e_sNot, ↓e_vB, ↓e_sAndV, ↓e_sOrV, ↓e_sNotV, ↓e_sIf, ↓e_sgName, ↓e_cellOf, ↓e_sgNil, ↓e_sgCons, ↓e_sgTup, ↓e_sIt, ↓e_sRng1, ↓e_sRng2, ↓e_sEnum, ↓e_sZip, ↓e_sRev, ↓e_sRevR, ↓e_sRg1, ↓e_sRg2, ↓sI, ↓e_sLstR, ↓e_sCall, ↓e_sMeth, ↓e_sSetIx, ↓e_sAugIx, ↓e_sAug, ↓e_sSl, ↓e_pNo, ↓e_pSome, ↓e_sLc, ↓e_sYes, ↓e_sStep, ↓e_sIxG, ↓e_oAdd, ↓e_oI, ↓e_oI0, ↓e_oSub, ↓e_oMul, ↓e_oFdiv, ↓e_oMod, ↓e_oPow, ↓e_oShl, ↓e_oShr, ↓e_oNeg, ↓e_oEq, ↓e_oNe, ↓e_oLtI, ↓e_oLeI, ↓e_oGtI, ↓e_oGeI, ↓e_oIs, ↓e_oIn, ↓e_oIx, ↓e_oSl, ↓e_oLen, ↓e_oAbs, ↓e_oInt, ↓e_oMax2, ↓e_oMin2, ↓e_oList, ↓e_oTuple, ↓e_oIsi, ↓e_oAddI, ↓e_mAppend, ↓e_mExtend, ↓e_mPop, ↓e_mPopAt, ↓e_mInsert, ↓ng, ↓isNone, ↓e_noFd, ↓e_cells0, ↓arCell, ↓e_sTurn, ↓e_wip0, ↓e_wip1, ↓e_sIndex, List.map_cons, List.map_nil, List.length_cons, List.length_nil, List.cons_append, List.nil_append, List.replicate, Nat.reduceAdd, Nat.reduceSub, Nat.zero_add, List.getElem?_cons_zero, List.getElem?_cons_succ, List.set_cons_zero, List.set_cons_succ, if_true, if_false, ↓reduceIte, Bool.false_eq_true, true_and, and_true, not_true_eq_false, not_false_eq_true, decide_eq_true_eq, Bool.not_true, Bool.not_false, Bool.not_not, Bool.not_eq_true', decide_eq_false_iff_not, List.length_map, atI0, atI1, atI2, Nat.reduceLeDiff, Int.reduceEq, Int.reduceLT, Int.reduceLE, Int.reduceAdd, Int.reduceSub, Int.cast_ofNat_Int, isi_tuple, isi_list, isi_int, isi_bool, isi_str, isi_none, reduceCtorEq, Bool.true_eq_false, Nat.min_self, hg, any_int, g, decide_true, ng]
          refine ⟨by omega, rfl, flat_ints ring, j, .int w, ?_, ?_, ?_, ?_⟩
          · rw [List.getElem?_map, hj1]; rfl
          · rw [eqv_int]; exact beq_self_eq_true w
          · intro m z' hm hz'
            rw [List.getElem?_map, Option.map_eq_some_iff] at hz'
            obtain ⟨y, hy, rfl⟩ := hz'
            rw [eqv_int]
            exact beq_eq_false_iff_ne.mpr fun e => hj2 m hm (by rw [hy, e])
          · rw [cutN_from, ← List.map_drop]
            exact h _ (fun e => by have := congrArg List.length e; rw [List.length_drop] at this; simp at this; omega) (by rw [List.length_drop]; omega)
        · simp only [↓e_sSeq, ↓e_sNext, ↓e_sBreak, ↓e_sCont, ↓e_sDrop, ↓e_sRet, ↓e_sRetV, ↓e_sRetN, ↓e_sIfS, ↓e_sAsg, ↓e_sFor, ↓e_sVar, ↓e_sRV, ↓e_sRE, ↓e_sC, ↓e_aNil, ↓e_aCons, ↓e_ar, ↓e_dNil, ↓e_dCons, ↓e_fz, ↓e_sLst, ↓e_sTup, ↓e_s1, ↓e_s2, ↓e_s3, ↓e_s4, ↓e_rs, ↓e_sT, ↓e_sAnd, ↓e_sOr, ↓e_sNot, ↓e_vB, ↓e_sAndV, ↓e_sOrV, ↓e_sNotV, ↓e_sIf, ↓e_sgName, ↓e_cellOf, ↓e_sgNil, ↓e_sgCons, ↓e_sgTup, ↓e_sIt, ↓e_sRng1, ↓e_sRng2, ↓e_sEnum, ↓e_sZip, ↓e_sRev, ↓e_sRevR, ↓e_sRg1, ↓e_sRg2, ↓sI, ↓e_sLstR, ↓e_sCall, ↓e_sMeth, ↓e_sSetIx, ↓e_sAugIx, ↓e_sAug, ↓e_sSl, ↓e_pNo, ↓e_pSome, ↓e_sLc, ↓e_sYes, ↓e_sStep, ↓e_sIxG, ↓e_oAdd, ↓e_oI, ↓e_oI0, ↓e_oSub, ↓e_oMul, ↓e_oFdiv, ↓e_oMod, ↓e_oPow, ↓e_oShl, ↓e_oShr, ↓e_oNeg, ↓e_oEq, ↓e_oNe, ↓e_oLtI, ↓e_oLeI, ↓e_oGtI, ↓e_oGeI, ↓e_oIs, ↓e_oIn, ↓e_oIx, ↓e_oSl, ↓e_oLen, ↓e_oAbs, ↓e_oInt, ↓e_oMax2, ↓e_oMin2, ↓e_oList, ↓e_oTuple, ↓e_oIsi, ↓e_oAddI, ↓e_mAppend, ↓e_mExtend, ↓e_mPop, ↓e_mPopAt, ↓e_mInsert, ↓ng, ↓isNone, ↓e_noFd, ↓e_cells0, ↓arCell, ↓e_sTurn, ↓e_wip0, ↓e_wip1, ↓e_sIndex, List.map_cons, List.map_nil, List.length_cons, List.length_nil, List.cons_append, List.nil_append, List.replicate, Nat.reduceAdd, Nat.reduceSub, Nat.zero_add, List.getElem?_cons_zero, List.getElem?_cons_succ, List.set_cons_zero, List.set_cons_succ, if_true, if_false, ↓reduceIte, Bool.false_eq_true, true_and, and_true, not_true_eq_false, not_false_eq_true, decide_eq_true_eq, Bool.not_true, Bool.not_false, Bool.not_not, Bool.not_eq_true', decide_eq_false_iff_not, List.length_map, atI0, atI1, atI2, Nat.reduceLeDiff, Int.reduceEq, Int.reduceLT, Int.reduceLE, Int.reduceAdd, Int.reduceSub, Int.cast_ofNat_Int, isi_tuple, isi_list, isi_int, isi_bool, isi_str, isi_none, reduceCtorEq, Bool.true_eq_false, Nat.min_self, hg, any_int, g, decide_false, ng]
          refine ⟨by omega, by omega, hk _ ⟨ring ++ [w], _, _, by rw [List.map_append]; rfl, by simp, by simp; omega⟩⟩
theorem F__law_ring_ap {n : Nat} {t : NT} (hn : n ≤ 100) (hne : t ≠ []) (ok : OkN n t) {k kx} (h : ∀ out : List Int, out ≠ [] → out.length ≤ 200 → k (.fr (out.map .int))) : F__law_ring [.d (.int n), .d (.list (t.map dN))] k kx := ⟨n, t, rfl, hn, hne, ok, h⟩
end Lw

namespace Lw
open PySem PySem.Spec L2 Dv
open PyProof.Rows hiding St
def Paps (ps : List D) : Prop := ∀ d ∈ ps, Pap d
theorem Paps.append {a b : List D} (ha : Paps a) (hb : Paps b) : Paps (a ++ b) := fun d hd => by
  rcases List.mem_append.mp hd with h | h
  · exact ha d h
  · exact hb d h
theorem Paps.cons {d : D} {b : List D} (h : Pap d) (hb : Paps b) : Paps (d :: b) := fun e he => by
  rcases List.mem_cons.mp he with rfl | he
  · exact h
  · exact hb e he
theorem Paps.nil : Paps [] := fun _ h => absurd h List.not_mem_nil
theorem Paps.one {d : D} (h : Pap d) : Paps [d] := .cons h .nil
theorem cut_len {α : Type} (xs : List α) (lo hi : Option Int) : (Dv.cutD xs lo hi).length ≤ xs.length := by
  unfold Dv.cutD
  rw [List.length_take, List.length_drop]
  omega
theorem p59_ex : ∃ b : Int, ∀ (ρ : Rho) (Q : Vl → Rho → Prop), s2 oPow (sRE (sC (.int 10))) (sRE (sC (.int 59))) ρ Q = Q (.im (.int b)) ρ := by
  have h : ∀ k : Vl → Prop, oPow (.int 10) (.int 59) k = k (.im (.int (10 ^ (59 : Int).toNat))) := fun k => by
    show (CPow 10 59 ∧ k (.im (.int (10 ^ (59 : Int).toNat)))) = _
    exact propext ⟨fun h => h.2, fun h => ⟨by unfold CPow; decide, h⟩⟩
  generalize (10 : Int) ^ (59 : Int).toNat = b at h
  refine ⟨b, fun ρ Q => ?_⟩
  exact (show s2 oPow (sRE (sC (.int 10))) (sRE (sC (.int 59))) ρ Q = oPow (.int 10) (.int 59) fun v => Q v ρ from rfl).trans (h _)
def F__law_changed : Fn := fun as k _ => ∃ (row : List Int) (mo : Int), as = [.fd, .d (dI row), .d (.int mo)] ∧ row.length ≤ 1000 ∧ ∀ out : List D, Paps out → out.length ≤ 1000 → k (.fr out)
theorem len__law_changed : ∀ as k kx, F__law_changed as k kx → as.length = 3 := by rintro as k kx ⟨_, _, rfl, _⟩; rfl
theorem w__law_changed : ∀ as k kx, F__law_changed as k kx → m__law_changed F_draw ⟨cells0 8 as, kx⟩ { nx := fun _ => k (.im .none), rt := fun v _ => noFd k v } := by
  rintro as k kx ⟨row, mo, rfl, hl, h⟩
  unfold m__law_changed
  obtain ⟨b59, hb⟩ := p59_ex
  have hpr : ∀ l : List D, l.length ≤ 5000 → Pap (.list l) := fun l h => by show l.length ≤ 10000; omega
  have hrow : Pap (dI row) := hpr _ (by rw [List.length_map]; omega)
  have hc : ∀ lo hi, (Dv.cutD (row.map PyData.int) lo hi).length ≤ 1000 := fun lo hi => by have := cut_len (row.map PyData.int) lo hi; rw [List.length_map] at this; omega
  refine seq_step fun K hK => ?_; simp only [↓e_sNext, ↓e_sBreak, ↓e_sCont, ↓e_sDrop, ↓e_sRet, ↓e_sRetV, ↓e_sRetN, ↓e_sIfS, ↓e_sAsg, ↓e_sFor, ↓e_sVar, ↓e_sRV, ↓e_sRE, ↓e_sC, ↓e_aNil, ↓e_aCons, ↓e_ar, ↓e_dNil, ↓e_dCons, ↓e_fz, ↓e_sLst, ↓e_sTup, ↓e_s1, ↓e_s2, ↓e_s3, ↓e_s4, ↓e_rs, ↓e_sT, ↓e_sAnd, ↓e_sOr, ↓e_sNot, ↓e_vB, ↓e_sAndV, ↓e_sOrV, ↓e_sNotV, ↓e_sIf, ↓e_sgName, ↓e_cellOf, ↓e_sgNil, ↓e_sgCons, ↓e_sgTup, ↓e_sIt, ↓e_sRng1, ↓e_sRng2, ↓e_sEnum, ↓e_sZip, ↓e_sRev, ↓e_sRevR, ↓e_sRg1, ↓e_sRg2, ↓sI, ↓e_sLstR, ↓e_sCall, ↓e_sMeth, ↓e_sSetIx, ↓e_sAugIx, ↓e_sAug, ↓e_sSl, ↓e_pNo, ↓e_pSome, ↓e_sLc, ↓e_sYes, ↓e_sStep, ↓e_sIxG, ↓e_oAdd, ↓e_oI, ↓e_oI0, ↓e_oSub, ↓e_oMul, ↓e_oFdiv, ↓e_oMod, ↓e_oPow, ↓e_oShl, ↓e_oShr, ↓e_oNeg, ↓e_oEq, ↓e_oNe, ↓e_oLtI, ↓e_oLeI, ↓e_oGtI, ↓e_oGeI, ↓e_oIs, ↓e_oIn, ↓e_oIx, ↓e_oSl, ↓e_oLen, ↓e_oAbs, ↓e_oInt, ↓e_oMax2, ↓e_oMin2, ↓e_oList, ↓e_oTuple, ↓e_oIsi, ↓e_oAddI, ↓e_mAppend, ↓e_mExtend, ↓e_mPop, ↓e_mPopAt, ↓e_mInsert, ↓ng, ↓isNone, ↓e_noFd, ↓e_cells0, ↓arCell, ↓e_sTurn, ↓e_wip0, ↓e_wip1, ↓e_sIndex, List.map_cons, List.map_nil, List.length_cons, List.length_nil, List.cons_append, List.nil_append, List.replicate, Nat.reduceAdd, Nat.reduceSub, Nat.zero_add, List.getElem?_cons_zero, List.getElem?_cons_succ, List.set_cons_zero, List.set_cons_succ, if_true, if_false, ↓reduceIte, Bool.false_eq_true, true_and, and_true, not_true_eq_false, not_false_eq_true, decide_eq_true_eq, Bool.not_true, Bool.not_false, Bool.not_not, Bool.not_eq_true', decide_eq_false_iff_not, List.length_map, atI0, atI1, atI2, Nat.reduceLeDiff, Int.reduceEq, Int.reduceLT, Int.reduceLE, Int.reduceAdd, Int.reduceSub, Int.cast_ofNat_Int, isi_tuple, isi_list, isi_int, isi_bool, isi_str, isi_none, reduceCtorEq, Bool.true_eq_false, Nat.min_self, dI]
  refine ⟨by omega, by have := hc (some (-1)) none; omega, ?_⟩
  refine hK _ ?_; clear hK; clear K
  refine seq_step fun K hK => ?_; simp only [↓e_sNext, ↓e_sBreak, ↓e_sCont, ↓e_sDrop, ↓e_sRet, ↓e_sRetV, ↓e_sRetN, ↓e_sIfS, ↓e_sAsg, ↓e_sFor, ↓e_sVar, ↓e_sRV, ↓e_sRE, ↓e_sC, ↓e_aNil, ↓e_aCons, ↓e_ar, ↓e_dNil, ↓e_dCons, ↓e_fz, ↓e_sLst, ↓e_sTup, ↓e_s1, ↓e_s2, ↓e_s3, ↓e_s4, ↓e_rs, ↓e_sT, ↓e_sAnd, ↓e_sOr, ↓e_sNot, ↓e_vB, ↓e_sAndV, ↓e_sOrV, ↓e_sNotV, ↓e_sIf, ↓e_sgName, ↓e_cellOf, ↓e_sgNil, ↓e_sgCons, ↓e_sgTup, ↓e_sIt, ↓e_sRng1, ↓e_sRng2, ↓e_sEnum, ↓e_sZip, ↓e_sRev, ↓e_sRevR, ↓e_sRg1, ↓e_sRg2, ↓sI, ↓e_sLstR, ↓e_sCall, ↓e_sMeth, ↓e_sSetIx, ↓e_sAugIx, ↓e_sAug, ↓e_sSl, ↓e_pNo, ↓e_pSome, ↓e_sLc, ↓e_sYes, ↓e_sStep, ↓e_sIxG, ↓e_oAdd, ↓e_oI, ↓e_oI0, ↓e_oSub, ↓e_oMul, ↓e_oFdiv, ↓e_oMod, ↓e_oPow, ↓e_oShl, ↓e_oShr, ↓e_oNeg, ↓e_oEq, ↓e_oNe, ↓e_oLtI, ↓e_oLeI, ↓e_oGtI, ↓e_oGeI, ↓e_oIs, ↓e_oIn, ↓e_oIx, ↓e_oSl, ↓e_oLen, ↓e_oAbs, ↓e_oInt, ↓e_oMax2, ↓e_oMin2, ↓e_oList, ↓e_oTuple, ↓e_oIsi, ↓e_oAddI, ↓e_mAppend, ↓e_mExtend, ↓e_mPop, ↓e_mPopAt, ↓e_mInsert, ↓ng, ↓isNone, ↓e_noFd, ↓e_cells0, ↓arCell, ↓e_sTurn, ↓e_wip0, ↓e_wip1, ↓e_sIndex, List.map_cons, List.map_nil, List.length_cons, List.length_nil, List.cons_append, List.nil_append, List.replicate, Nat.reduceAdd, Nat.reduceSub, Nat.zero_add, List.getElem?_cons_zero, List.getElem?_cons_succ, List.set_cons_zero, List.set_cons_succ, if_true, if_false, ↓reduceIte, Bool.false_eq_true, true_and, and_true, not_true_eq_false, not_false_eq_true, decide_eq_true_eq, Bool.not_true, Bool.not_false, Bool.not_not, Bool.not_eq_true', decide_eq_false_iff_not, List.length_map, atI0, atI1, atI2, Nat.reduceLeDiff, Int.reduceEq, Int.reduceLT, Int.reduceLE, Int.reduceAdd, Int.reduceSub, Int.cast_ofNat_Int, isi_tuple, isi_list, isi_int, isi_bool, isi_str, isi_none, reduceCtorEq, Bool.true_eq_false, Nat.min_self]
  refine hK _ ?_; clear hK; clear K
  refine seq_step fun K hK => ?_; simp only [↓e_sNext, ↓e_sBreak, ↓e_sCont, ↓e_sDrop, ↓e_sRet, ↓e_sRetV, ↓e_sRetN, ↓e_sIfS, ↓e_sAsg, ↓e_sFor, ↓e_sVar, ↓e_sRV, ↓e_sRE, ↓e_sC, ↓e_aNil, ↓e_aCons, ↓e_ar, ↓e_dNil, ↓e_dCons, ↓e_fz, ↓e_sLst, ↓e_sTup, ↓e_s1, ↓e_s2, ↓e_s3, ↓e_s4, ↓e_rs, ↓e_sT, ↓e_sAnd, ↓e_sOr, ↓e_sNot, ↓e_vB, ↓e_sAndV, ↓e_sOrV, ↓e_sNotV, ↓e_sIf, ↓e_sgName, ↓e_cellOf, ↓e_sgNil, ↓e_sgCons, ↓e_sgTup, ↓e_sIt, ↓e_sRng1, ↓e_sRng2, ↓e_sEnum, ↓e_sZip, ↓e_sRev, ↓e_sRevR, ↓e_sRg1, ↓e_sRg2, ↓sI, ↓e_sLstR, ↓e_sCall, ↓e_sMeth, ↓e_sSetIx, ↓e_sAugIx, ↓e_sAug, ↓e_sSl, ↓e_pNo, ↓e_pSome, ↓e_sLc, ↓e_sYes, ↓e_sStep, ↓e_sIxG, ↓e_oAdd, ↓e_oI, ↓e_oI0, ↓e_oSub, ↓e_oMul, ↓e_oFdiv, ↓e_oMod, ↓e_oPow, ↓e_oShl, ↓e_oShr, ↓e_oNeg, ↓e_oEq, ↓e_oNe, ↓e_oLtI, ↓e_oLeI, ↓e_oGtI, ↓e_oGeI, ↓e_oIs, ↓e_oIn, ↓e_oIx, ↓e_oSl, ↓e_oLen, ↓e_oAbs, ↓e_oInt, ↓e_oMax2, ↓e_oMin2, ↓e_oList, ↓e_oTuple, ↓e_oIsi, ↓e_oAddI, ↓e_mAppend, ↓e_mExtend, ↓e_mPop, ↓e_mPopAt, ↓e_mInsert, ↓ng, ↓isNone, ↓e_noFd, ↓e_cells0, ↓arCell, ↓e_sTurn, ↓e_wip0, ↓e_wip1, ↓e_sIndex, List.map_cons, List.map_nil, List.length_cons, List.length_nil, List.cons_append, List.nil_append, List.replicate, Nat.reduceAdd, Nat.reduceSub, Nat.zero_add, List.getElem?_cons_zero, List.getElem?_cons_succ, List.set_cons_zero, List.set_cons_succ, if_true, if_false, ↓reduceIte, Bool.false_eq_true, true_and, and_true, not_true_eq_false, not_false_eq_true, decide_eq_true_eq, Bool.not_true, Bool.not_false, Bool.not_not, Bool.not_eq_true', decide_eq_false_iff_not, List.length_map, atI0, atI1, atI2, Nat.reduceLeDiff, Int.reduceEq, Int.reduceLT, Int.reduceLE, Int.reduceAdd, Int.reduceSub, Int.cast_ofNat_Int, isi_tuple, isi_list, isi_int, isi_bool, isi_str, isi_none, reduceCtorEq, Bool.true_eq_false, Nat.min_self]
  refine ⟨by decide, by decide, ?_⟩
  refine wLoop_rng (fun i ρ => ∃ (out : List D) (a b c d : Cell), ρ = ⟨[.fd, .im (.list (row.map .int)), .im (.int mo), .mu out, a, b, c, d], kx⟩ ∧ Paps out ∧ out.length ≤ 15 + i * 11) ⟨_, .un, .un, .un, .un, rfl, ?_, ?_⟩ ?_ ?_
  · refine .cons hrow (.cons trivial (.cons trivial (.cons trivial (.cons trivial (.cons trivial (.cons (hpr _ (by simp)) (.cons (hpr _ ?_) (.cons (hpr _ ?_) (.cons (hpr _ ?_) (.cons (hpr _ ?_) (.cons (hpr _ (by simp)) (.cons (hpr _ (by simp)) (.cons (hpr _ (by simp)) (.one (hpr _ (by simp))))))))))))))))
    · have := hc (some 1) none; omega
    · have := hc none (some (-1)); omega
    · rw [List.length_append, List.length_map]; simp only [List.length_cons, List.length_nil]; omega
    · rw [List.length_append, List.length_map]; have := hc (some (-1)) none; omega
  · simp only [List.cons_append, List.nil_append, List.length_cons, List.length_nil]; omega
  · rintro ρ ⟨out, a, b, c, d, rfl, hp, hl⟩
    refine hK _ ?_; clear hK; clear K
    simp only [↓e_sSeq, ↓e_sNext, ↓e_sBreak, ↓e_sCont, ↓e_sDrop, ↓e_sRet, ↓e_sRetV, ↓e_sRetN, ↓e_sIfS, ↓e_sAsg, ↓e_sFor, ↓e_sVar, ↓e_sRV, ↓e_sRE, ↓e_sC, ↓e_aNil, ↓e_aCons, ↓e_ar, ↓e_dNil, ↓e_dCons, ↓e_fz, ↓e_sLst, ↓e_sTup, ↓e_s1, ↓e_s2, ↓e_s3, ↓e_s4, ↓e_rs, ↓e_sT, ↓e_sAnd, ↓e_sOr, ↓e_sNot, ↓e_vB, ↓e_sAndV, ↓e_sOrV, ↓e_sNotV, ↓e_sIf, ↓e_sgName, ↓e_cellOf, ↓e_sgNil, ↓e_sgCons, ↓e_sgTup, ↓e_sIt, ↓e_sRng1, ↓e_sRng2, ↓e_sEnum, ↓e_sZip, ↓e_sRev, ↓e_sRevR, ↓e_sRg1, ↓e_sRg2, ↓sI, ↓e_sLstR, ↓e_sCall, ↓e_sMeth, ↓e_sSetIx, ↓e_sAugIx, ↓e_sAug, ↓e_sSl, ↓e_pNo, ↓e_pSome, ↓e_sLc, ↓e_sYes, ↓e_sStep, ↓e_sIxG, ↓e_oAdd, ↓e_oI, ↓e_oI0, ↓e_oSub, ↓e_oMul, ↓e_oFdiv, ↓e_oMod, ↓e_oPow, ↓e_oShl, ↓e_oShr, ↓e_oNeg, ↓e_oEq, ↓e_oNe, ↓e_oLtI, ↓e_oLeI, ↓e_oGtI, ↓e_oGeI, ↓e_oIs, ↓e_oIn, ↓e_oIx, ↓e_oSl, ↓e_oLen, ↓e_oAbs, ↓e_oInt, ↓e_oMax2, ↓e_oMin2, ↓e_oList, ↓e_oTuple, ↓e_oIsi, ↓e_oAddI, ↓e_mAppend, ↓e_mExtend, ↓e_mPop, ↓e_mPopAt, ↓e_mInsert, ↓ng, ↓isNone, ↓e_noFd, ↓e_cells0, ↓arCell, ↓e_sTurn, ↓e_wip0, ↓e_wip1, ↓e_sIndex, List.map_cons, List.map_nil, List.length_cons, List.length_nil, List.cons_append, List.nil_append, List.replicate, Nat.reduceAdd, Nat.reduceSub, Nat.zero_add, List.getElem?_cons_zero, List.getElem?_cons_succ, List.set_cons_zero, List.set_cons_succ, if_true, if_false, ↓reduceIte, Bool.false_eq_true, true_and, and_true, not_true_eq_false, not_false_eq_true, decide_eq_true_eq, Bool.not_true, Bool.not_false, Bool.not_not, Bool.not_eq_true', decide_eq_false_iff_not, List.length_map, atI0, atI1, atI2, Nat.reduceLeDiff, Int.reduceEq, Int.reduceLT, Int.reduceLE, Int.reduceAdd, Int.reduceSub, Int.cast_ofNat_Int, isi_tuple, isi_list, isi_int, isi_bool, isi_str, isi_none, reduceCtorEq, Bool.true_eq_false, Nat.min_self]
    exact h out hp (by have : (Int.toNat 2) = 2 := rfl; omega)
  · rintro i ρ kk hi ⟨out, a, b, c, d, rfl, hp, hlo⟩ hk
    have hi : i < 2 := hi
    unfold b2__law_changed
    by_cases hg : (0 : Int) < (row.length : Int)
    · simp only [↓e_sSeq, ↓e_sNext, ↓e_sBreak, ↓e_sCont, ↓e_sDrop, ↓e_sRet, ↓e_sRetV, ↓e_sRetN, ↓e_sIfS, ↓e_sAsg, ↓e_sFor, ↓e_sVar, ↓e_sRV, ↓e_sRE, ↓e_sC, ↓e_aNil, ↓e_aCons, ↓e_ar, ↓e_dNil, ↓e_dCons, ↓e_fz, ↓e_sLst, ↓e_sTup, ↓e_s1, ↓e_s2, ↓e_s3, ↓e_s4, ↓e_rs, ↓e_sT, ↓e_sAnd, ↓e_sOr, ↓e_sNot, ↓e_vB, ↓e_sAndV, ↓e_sOrV, ↓e_sNotV, ↓e_sIf, ↓e_sgName, ↓e_cellOf, ↓e_sgNil, ↓e_sgCons, ↓e_sgTup, ↓e_sIt, ↓e_sRng1, ↓e_sRng2, ↓e_sEnum, ↓e_sZip, ↓e_sRev, ↓e_sRevR, ↓e_sRg1, ↓e_sRg2, ↓sI, ↓e_sLstR, ↓e_sCall, ↓e_sMeth, ↓e_sSetIx, ↓e_sAugIx, ↓e_sAug, ↓e_sSl, ↓e_pNo, ↓e_pSome, ↓e_sLc, ↓e_sYes, ↓e_sStep, ↓e_sIxG, ↓e_oAdd, ↓e_oI, ↓e_oI0, ↓e_oSub, ↓e_oMul, ↓e_oFdiv, ↓e_oMod, ↓e_oPow, ↓e_oShl, ↓e_oShr, ↓e_oNeg, ↓e_oEq, ↓e_oNe, ↓e_oLtI, ↓e_oLeI, ↓e_oGtI, ↓e_oGeI, ↓e_oIs, ↓e_oIn, ↓e_oIx, ↓e_oSl, ↓e_oLen, ↓e_oAbs, ↓e_oInt, ↓e_oMax2, ↓e_oMin2, ↓e_oList, ↓e_oTuple, ↓e_oIsi, ↓e_oAddI, ↓e_mAppend, ↓e_mExtend, ↓e_mPop, ↓e_mPopAt, ↓e_mInsert, ↓ng, ↓isNone, ↓e_noFd, ↓e_cells0, ↓arCell, ↓e_sTurn, ↓e_wip0, ↓e_wip1, ↓e_sIndex, List.map_cons, List.map_nil, List.length_cons, List.length_nil, List.cons_append, List.nil_append, List.replicate, Nat.reduceAdd, Nat.reduceSub, Nat.zero_add, List.getElem?_cons_zero, List.getElem?_cons_succ, List.set_cons_zero, List.set_cons_succ, if_true, if_false, ↓reduceIte, Bool.false_eq_true, true_and, and_true, not_true_eq_false, not_false_eq_true, decide_eq_true_eq, Bool.not_true, Bool.not_false, Bool.not_not, Bool.not_eq_true', decide_eq_false_iff_not, List.length_map, atI0, atI1, atI2, Nat.reduceLeDiff, Int.reduceEq, Int.reduceLT, Int.reduceLE, Int.reduceAdd, Int.reduceSub, Int.cast_ofNat_Int, isi_tuple, isi_list, isi_int, isi_bool, isi_str, isi_none, reduceCtorEq, Bool.true_eq_false, Nat.min_self, F__law_draw_ap, hg]
      refine ⟨by omega, fun at_ a0 a1 => ⟨by omega, fun r r0 r1 => ?_⟩⟩
      obtain ⟨j, rfl⟩ : ∃ j : Nat, at_ = j := ⟨at_.toNat, by omega⟩
      simp only [↓e_sSeq, ↓e_sNext, ↓e_sBreak, ↓e_sCont, ↓e_sDrop, ↓e_sRet, ↓e_sRetV, ↓e_sRetN, ↓e_sIfS, ↓e_sAsg, ↓e_sFor, ↓e_sVar, ↓e_sRV, ↓e_sRE, ↓e_sC, ↓e_aNil, ↓e_aCons, ↓e_ar, ↓e_dNil, ↓e_dCons, ↓e_fz, ↓e_sLst, ↓e_sTup, ↓e_s1, ↓e_s2, ↓e_s3, ↓e_s4, ↓e_rs, ↓e_sT, ↓e_sAnd, ↓e_sOr, ↓e_sNot, ↓e_vB, ↓e_sAndV, ↓e_sOrV, ↓e_sNotV, ↓e_sIf, ↓e_sgName, ↓e_cellOf, ↓e_sgNil, ↓e_sgCons, ↓e_sgTup, ↓e_sIt, ↓e_sRng1, ↓e_sRng2, ↓e_sEnum, ↓e_sZip, ↓e_sRev, ↓e_sRevR, ↓e_sRg1, ↓e_sRg2, ↓sI, ↓e_sLstR, ↓e_sCall, ↓e_sMeth, ↓e_sSetIx, ↓e_sAugIx, ↓e_sAug, ↓e_sSl, ↓e_pNo, ↓e_pSome, ↓e_sLc, ↓e_sYes, ↓e_sStep, ↓e_sIxG, ↓e_oAdd, ↓e_oI, ↓e_oI0, ↓e_oSub, ↓e_oMul, ↓e_oFdiv, ↓e_oMod, ↓e_oPow, ↓e_oShl, ↓e_oShr, ↓e_oNeg, ↓e_oEq, ↓e_oNe, ↓e_oLtI, ↓e_oLeI, ↓e_oGtI, ↓e_oGeI, ↓e_oIs, ↓e_oIn, ↓e_oIx, ↓e_oSl, ↓e_oLen, ↓e_oAbs, ↓e_oInt, ↓e_oMax2, ↓e_oMin2, ↓e_oList, ↓e_oTuple, ↓e_oIsi, ↓e_oAddI, ↓e_mAppend, ↓e_mExtend, ↓e_mPop, ↓e_mPopAt, ↓e_mInsert, ↓ng, ↓isNone, ↓e_noFd, ↓e_cells0, ↓arCell, ↓e_sTurn, ↓e_wip0, ↓e_wip1, ↓e_sIndex, List.map_cons, List.map_nil, List.length_cons, List.length_nil, List.cons_append, List.nil_append, List.replicate, Nat.reduceAdd, Nat.reduceSub, Nat.zero_add, List.getElem?_cons_zero, List.getElem?_cons_succ, List.set_cons_zero, List.set_cons_succ, if_true, if_false, ↓reduceIte, Bool.false_eq_true, true_and, and_true, not_true_eq_false, not_false_eq_true, decide_eq_true_eq, Bool.not_true, Bool.not_false, Bool.not_not, Bool.not_eq_true', decide_eq_false_iff_not, List.length_map, atI0, atI1, atI2, Nat.reduceLeDiff, Int.reduceEq, Int.reduceLT, Int.reduceLE, Int.reduceAdd, Int.reduceSub, Int.cast_ofNat_Int, isi_tuple, isi_list, isi_int, isi_bool, isi_str, isi_none, reduceCtorEq, Bool.true_eq_false, Nat.min_self, rk_at (ns := row) (i := r) r0 (by omega), rk_at (ns := row) (i := (j : Int)) (by omega) (by omega), hb]
      refine ⟨by unfold CPow; decide, ?_⟩
      generalize (10 : Int) ^ Int.toNat 59 = big
      refine wLoop_ix (fun i2 ρ => ∃ (out : List D) (d : Cell), ρ = ⟨[.fd, .im (.list (row.map .int)), .im (.int mo), .mu out, .im (.int (0 + (i : Int))), .im (.int j), .im (.int (rk row r)), d], kx⟩ ∧ Paps out ∧ out.length ≤ 15 + i * 11 + i2) ⟨out, _, rfl, hp, by omega⟩ ?_ ?_
      · rintro ρ ⟨out, d, rfl, hp, hlo⟩
        exact hk _ ⟨out, _, _, _, _, rfl, hp, by simp only [List.length_cons, List.length_nil] at hlo; omega⟩
      · rintro i2 x ρ kk hx ⟨out, d, rfl, hp, hlo⟩ hk
        have hi2 := (List.getElem?_eq_some_iff.mp hx).1
        simp only [List.length_cons, List.length_nil] at hi2
        unfold b1__law_changed
        simp only [↓e_sSeq, ↓e_sNext, ↓e_sBreak, ↓e_sCont, ↓e_sDrop, ↓e_sRet, ↓e_sRetV, ↓e_sRetN, ↓e_sIfS, ↓e_sAsg, ↓e_sFor, ↓e_sVar, ↓e_sRV, ↓e_sRE, ↓e_sC, ↓e_aNil, ↓e_aCons, ↓e_ar, ↓e_dNil, ↓e_dCons, ↓e_fz, ↓e_sLst, ↓e_sTup, ↓e_s1, ↓e_s2, ↓e_s3, ↓e_s4, ↓e_rs, ↓e_sT, ↓e_sAnd, ↓e_sOr, ↓e_sNot, ↓e_vB, ↓e_sAndV, ↓e_sOrV, ↓e_sNotV, ↓e_sIf, ↓e_sgName, ↓e_cellOf, ↓e_sgNil, ↓e_sgCons, ↓e_sgTup, ↓e_sIt, ↓e_sRng1, ↓e_sRng2, ↓e_sEnum, ↓e_sZip, ↓e_sRev, ↓e_sRevR, ↓e_sRg1, ↓e_sRg2, ↓sI, ↓e_sLstR, ↓e_sCall, ↓e_sMeth, ↓e_sSetIx, ↓e_sAugIx, ↓e_sAug, ↓e_sSl, ↓e_pNo, ↓e_pSome, ↓e_sLc, ↓e_sYes, ↓e_sStep, ↓e_sIxG, ↓e_oAdd, ↓e_oI, ↓e_oI0, ↓e_oSub, ↓e_oMul, ↓e_oFdiv, ↓e_oMod, ↓e_oPow, ↓e_oShl, ↓e_oShr, ↓e_oNeg, ↓e_oEq, ↓e_oNe, ↓e_oLtI, ↓e_oLeI, ↓e_oGtI, ↓e_oGeI, ↓e_oIs, ↓e_oIn, ↓e_oIx, ↓e_oSl, ↓e_oLen, ↓e_oAbs, ↓e_oInt, ↓e_oMax2, ↓e_oMin2, ↓e_oList, ↓e_oTuple, ↓e_oIsi, ↓e_oAddI, ↓e_mAppend, ↓e_mExtend, ↓e_mPop, ↓e_mPopAt, ↓e_mInsert, ↓ng, ↓isNone, ↓e_noFd, ↓e_cells0, ↓arCell, ↓e_sTurn, ↓e_wip0, ↓e_wip1, ↓e_sIndex, List.map_cons, List.map_nil, List.length_cons, List.length_nil, List.cons_append, List.nil_append, List.replicate, Nat.reduceAdd, Nat.reduceSub, Nat.zero_add, List.getElem?_cons_zero, List.getElem?_cons_succ, List.set_cons_zero, List.set_cons_succ, if_true, if_false, ↓reduceIte, Bool.false_eq_true, true_and, and_true, not_true_eq_false, not_false_eq_true, decide_eq_true_eq, Bool.not_true, Bool.not_false, Bool.not_not, Bool.not_eq_true', decide_eq_false_iff_not, List.length_map, atI0, atI1, atI2, Nat.reduceLeDiff, Int.reduceEq, Int.reduceLT, Int.reduceLE, Int.reduceAdd, Int.reduceSub, Int.cast_ofNat_Int, isi_tuple, isi_list, isi_int, isi_bool, isi_str, isi_none, reduceCtorEq, Bool.true_eq_false, Nat.min_self, cutN_to, cutN_from1]
        have e1 : (List.take j (row.map PyData.int)).length ≤ 1000 := by rw [List.length_take, List.length_map]; omega
        have e2 : (List.drop (j + 1) (row.map PyData.int)).length ≤ 1000 := by rw [List.length_drop, List.length_map]; omega
        refine ⟨by omega, ?_, by omega, hk _ ⟨out ++ [_], _, rfl, hp.append (.one (hpr _ ?_)), ?_⟩⟩
        · rw [List.length_append]; simp only [List.length_cons, List.length_nil]; omega
        · rw [List.length_append, List.length_append]; simp only [List.length_cons, List.length_nil]; omega
        · rw [List.length_append]; simp only [List.length_cons, List.length_nil]; omega
    · simp only [↓e_sSeq, ↓e_sNext, ↓e_sBreak, ↓e_sCont, ↓e_sDrop, ↓e_sRet, ↓e_sRetV, ↓e_sRetN, ↓e_sIfS, ↓e_sAsg, ↓e_sFor, ↓e_sVar, ↓e_sRV, ↓e_sRE, ↓e_sC, ↓e_aNil, ↓e_aCons, ↓e_ar, ↓e_dNil, ↓e_dCons, ↓e_fz, ↓e_sLst, ↓e_sTup, ↓e_s1, ↓e_s2, ↓e_s3, ↓e_s4, ↓e_rs, ↓e_sT, ↓e_sAnd, ↓e_sOr, ↓e_sNot, ↓e_vB, ↓e_sAndV, ↓e_sOrV, ↓e_sNotV, ↓e_sIf, ↓e_sgName, ↓e_cellOf, ↓e_sgNil, ↓e_sgCons, ↓e_sgTup, ↓e_sIt, ↓e_sRng1, ↓e_sRng2, ↓e_sEnum, ↓e_sZip, ↓e_sRev, ↓e_sRevR, ↓e_sRg1, ↓e_sRg2, ↓sI, ↓e_sLstR, ↓e_sCall, ↓e_sMeth, ↓e_sSetIx, ↓e_sAugIx, ↓e_sAug, ↓e_sSl, ↓e_pNo, ↓e_pSome, ↓e_sLc, ↓e_sYes, ↓e_sStep, ↓e_sIxG, ↓e_oAdd, ↓e_oI, ↓e_oI0, ↓e_oSub, ↓e_oMul, ↓e_oFdiv, ↓e_oMod, ↓e_oPow, ↓e_oShl, ↓e_oShr, ↓e_oNeg, ↓e_oEq, ↓e_oNe, ↓e_oLtI, ↓e_oLeI, ↓e_oGtI, ↓e_oGeI, ↓e_oIs, ↓e_oIn, ↓e_oIx, ↓e_oSl, ↓e_oLen, ↓e_oAbs, ↓e_oInt, ↓e_oMax2, ↓e_oMin2, ↓e_oList, ↓e_oTuple, ↓e_oIsi, ↓e_oAddI, ↓e_mAppend, ↓e_mExtend, ↓e_mPop, ↓e_mPopAt, ↓e_mInsert, ↓ng, ↓isNone, ↓e_noFd, ↓e_cells0, ↓arCell, ↓e_sTurn, ↓e_wip0, ↓e_wip1, ↓e_sIndex, List.map_cons, List.map_nil, List.length_cons, List.length_nil, List.cons_append, List.nil_append, List.replicate, Nat.reduceAdd, Nat.reduceSub, Nat.zero_add, List.getElem?_cons_zero, List.getElem?_cons_succ, List.set_cons_zero, List.set_cons_succ, if_true, if_false, ↓reduceIte, Bool.false_eq_true, true_and, and_true, not_true_eq_false, not_false_eq_true, decide_eq_true_eq, Bool.not_true, Bool.not_false, Bool.not_not, Bool.not_eq_true', decide_eq_false_iff_not, List.length_map, atI0, atI1, atI2, Nat.reduceLeDiff, Int.reduceEq, Int.reduceLT, Int.reduceLE, Int.reduceAdd, Int.reduceSub, Int.cast_ofNat_Int, isi_tuple, isi_list, isi_int, isi_bool, isi_str, isi_none, reduceCtorEq, Bool.true_eq_false, Nat.min_self, hg]
      exact hk _ ⟨out, _, _, _, _, rfl, hp, by omega⟩
theorem F__law_changed_ap {row : List Int} {mo : Int} (hl : row.length ≤ 1000) {k kx} (h : ∀ out : List D, Paps out → out.length ≤ 1000 → k (.fr out)) : F__law_changed [.fd, .d (.list (row.map .int)), .d (.int mo)] k kx := ⟨row, mo, rfl, hl, h⟩
end Lw

namespace Lw
open PySem PySem.Spec L2 Dv
open PyProof.Rows hiding St
theorem pap_ints (ns : List Int) (h : ns.length ≤ 5000) : Pap (.list (ns.map .int)) := by show (ns.map PyData.int).length ≤ 10000; rw [List.length_map]; omega
theorem pap_list (l : List D) (h : l.length ≤ 5000) : Pap (.list l) := by show l.length ≤ 10000; omega
theorem rep_len (n : Nat) (d : D) : (List.replicate n [d]).flatten.length = n := by
  induction n with
  | zero => rfl
  | succ n ih => rw [List.replicate_succ, List.flatten_cons, List.length_append, ih]; simp only [List.length_cons, List.length_nil]; omega
def F__law_ranks_judged : Fn := fun as k _ => ∃ (n : Nat) (t : NT), as = [.fd, .d (.int n), .d (.list (t.map dN))] ∧ n ≤ 100 ∧ OkN n t ∧ k (.im (.bool true))
theorem len__law_ranks_judged : ∀ as k kx, F__law_ranks_judged as k kx → as.length = 3 := by rintro as k kx ⟨_, _, rfl, _⟩; rfl
theorem w__law_ranks_judged : ∀ as k kx, F__law_ranks_judged as k kx → m__law_ranks_judged F__law_ranks F_draw F__law_changed F__law_is_ranks F__law_says F_shows_ranks ⟨cells0 13 as, kx⟩ { nx := fun _ => k (.im .none), rt := fun v _ => noFd k v } := by
  rintro as k kx ⟨n, t, rfl, hn, ok, h⟩
  unfold m__law_ranks_judged
  have ht := ok.2
  refine seq_step fun K hK => ?_; simp only [↓e_sNext, ↓e_sBreak, ↓e_sCont, ↓e_sDrop, ↓e_sRet, ↓e_sRetV, ↓e_sRetN, ↓e_sIfS, ↓e_sAsg, ↓e_sFor, ↓e_sVar, ↓e_sRV, ↓e_sRE, ↓e_sC, ↓e_aNil, ↓e_aCons, ↓e_ar, ↓e_dNil, ↓e_dCons, ↓e_fz, ↓e_sLst, ↓e_sTup, ↓e_s1, ↓e_s2, ↓e_s3, ↓e_s4, ↓e_rs, ↓e_sT, ↓e_sAnd, ↓e_sOr, ↓e_sNot, ↓e_vB, ↓e_sAndV, ↓e_sOrV, ↓e_sNotV, ↓e_sIf, ↓e_sgName, ↓e_cellOf, ↓e_sgNil, ↓e_sgCons, ↓e_sgTup, ↓e_sIt, ↓e_sRng1, ↓e_sRng2, ↓e_sEnum, ↓e_sZip, ↓e_sRev, ↓e_sRevR, ↓e_sRg1, ↓e_sRg2, ↓sI, ↓e_sLstR, ↓e_sCall, ↓e_sMeth, ↓e_sSetIx, ↓e_sAugIx, ↓e_sAug, ↓e_sSl, ↓e_pNo, ↓e_pSome, ↓e_sLc, ↓e_sYes, ↓e_sStep, ↓e_sIxG, ↓e_oAdd, ↓e_oI, ↓e_oI0, ↓e_oSub, ↓e_oMul, ↓e_oFdiv, ↓e_oMod, ↓e_oPow, ↓e_oShl, ↓e_oShr, ↓e_oNeg, ↓e_oEq, ↓e_oNe, ↓e_oLtI, ↓e_oLeI, ↓e_oGtI, ↓e_oGeI, ↓e_oIs, ↓e_oIn, ↓e_oIx, ↓e_oSl, ↓e_oLen, ↓e_oAbs, ↓e_oInt, ↓e_oMax2, ↓e_oMin2, ↓e_oList, ↓e_oTuple, ↓e_oIsi, ↓e_oAddI, ↓e_mAppend, ↓e_mExtend, ↓e_mPop, ↓e_mPopAt, ↓e_mInsert, ↓ng, ↓isNone, ↓e_noFd, ↓e_cells0, ↓arCell, ↓e_sTurn, ↓e_wip0, ↓e_wip1, ↓e_sIndex, List.map_cons, List.map_nil, List.length_cons, List.length_nil, List.cons_append, List.nil_append, List.replicate, Nat.reduceAdd, Nat.reduceSub, Nat.zero_add, List.getElem?_cons_zero, List.getElem?_cons_succ, List.set_cons_zero, List.set_cons_succ, if_true, if_false, ↓reduceIte, Bool.false_eq_true, true_and, and_true, not_true_eq_false, not_false_eq_true, decide_eq_true_eq, Bool.not_true, Bool.not_false, Bool.not_not, Bool.not_eq_true', decide_eq_false_iff_not, List.length_map, atI0, atI1, atI2, Nat.reduceLeDiff, Int.reduceEq, Int.reduceLT, Int.reduceLE, Int.reduceAdd, Int.reduceSub, Int.cast_ofNat_Int, isi_tuple, isi_list, isi_int, isi_bool, isi_str, isi_none, reduceCtorEq, Bool.true_eq_false, Nat.min_self]
  refine F__law_ranks_ap (by omega) ok fun rs hrs => ?_
  simp only [↓e_sSeq, ↓e_sNext, ↓e_sBreak, ↓e_sCont, ↓e_sDrop, ↓e_sRet, ↓e_sRetV, ↓e_sRetN, ↓e_sIfS, ↓e_sAsg, ↓e_sFor, ↓e_sVar, ↓e_sRV, ↓e_sRE, ↓e_sC, ↓e_aNil, ↓e_aCons, ↓e_ar, ↓e_dNil, ↓e_dCons, ↓e_fz, ↓e_sLst, ↓e_sTup, ↓e_s1, ↓e_s2, ↓e_s3, ↓e_s4, ↓e_rs, ↓e_sT, ↓e_sAnd, ↓e_sOr, ↓e_sNot, ↓e_vB, ↓e_sAndV, ↓e_sOrV, ↓e_sNotV, ↓e_sIf, ↓e_sgName, ↓e_cellOf, ↓e_sgNil, ↓e_sgCons, ↓e_sgTup, ↓e_sIt, ↓e_sRng1, ↓e_sRng2, ↓e_sEnum, ↓e_sZip, ↓e_sRev, ↓e_sRevR, ↓e_sRg1, ↓e_sRg2, ↓sI, ↓e_sLstR, ↓e_sCall, ↓e_sMeth, ↓e_sSetIx, ↓e_sAugIx, ↓e_sAug, ↓e_sSl, ↓e_pNo, ↓e_pSome, ↓e_sLc, ↓e_sYes, ↓e_sStep, ↓e_sIxG, ↓e_oAdd, ↓e_oI, ↓e_oI0, ↓e_oSub, ↓e_oMul, ↓e_oFdiv, ↓e_oMod, ↓e_oPow, ↓e_oShl, ↓e_oShr, ↓e_oNeg, ↓e_oEq, ↓e_oNe, ↓e_oLtI, ↓e_oLeI, ↓e_oGtI, ↓e_oGeI, ↓e_oIs, ↓e_oIn, ↓e_oIx, ↓e_oSl, ↓e_oLen, ↓e_oAbs, ↓e_oInt, ↓e_oMax2, ↓e_oMin2, ↓e_oList, ↓e_oTuple, ↓e_oIsi, ↓e_oAddI, ↓e_mAppend, ↓e_mExtend, ↓e_mPop, ↓e_mPopAt, ↓e_mInsert, ↓ng, ↓isNone, ↓e_noFd, ↓e_cells0, ↓arCell, ↓e_sTurn, ↓e_wip0, ↓e_wip1, ↓e_sIndex, List.map_cons, List.map_nil, List.length_cons, List.length_nil, List.cons_append, List.nil_append, List.replicate, Nat.reduceAdd, Nat.reduceSub, Nat.zero_add, List.getElem?_cons_zero, List.getElem?_cons_succ, List.set_cons_zero, List.set_cons_succ, if_true, if_false, ↓reduceIte, Bool.false_eq_true, true_and, and_true, not_true_eq_false, not_false_eq_true, decide_eq_true_eq, Bool.not_true, Bool.not_false, Bool.not_not, Bool.not_eq_true', decide_eq_false_iff_not, List.length_map, atI0, atI1, atI2, Nat.reduceLeDiff, Int.reduceEq, Int.reduceLT, Int.reduceLE, Int.reduceAdd, Int.reduceSub, Int.cast_ofNat_Int, isi_tuple, isi_list, isi_int, isi_bool, isi_str, isi_none, reduceCtorEq, Bool.true_eq_false, Nat.min_self]
  refine hK _ ?_; clear hK; clear K
  refine seq_step fun K hK => ?_; simp only [↓e_sNext, ↓e_sBreak, ↓e_sCont, ↓e_sDrop, ↓e_sRet, ↓e_sRetV, ↓e_sRetN, ↓e_sIfS, ↓e_sAsg, ↓e_sFor, ↓e_sVar, ↓e_sRV, ↓e_sRE, ↓e_sC, ↓e_aNil, ↓e_aCons, ↓e_ar, ↓e_dNil, ↓e_dCons, ↓e_fz, ↓e_sLst, ↓e_sTup, ↓e_s1, ↓e_s2, ↓e_s3, ↓e_s4, ↓e_rs, ↓e_sT, ↓e_sAnd, ↓e_sOr, ↓e_sNot, ↓e_vB, ↓e_sAndV, ↓e_sOrV, ↓e_sNotV, ↓e_sIf, ↓e_sgName, ↓e_cellOf, ↓e_sgNil, ↓e_sgCons, ↓e_sgTup, ↓e_sIt, ↓e_sRng1, ↓e_sRng2, ↓e_sEnum, ↓e_sZip, ↓e_sRev, ↓e_sRevR, ↓e_sRg1, ↓e_sRg2, ↓sI, ↓e_sLstR, ↓e_sCall, ↓e_sMeth, ↓e_sSetIx, ↓e_sAugIx, ↓e_sAug, ↓e_sSl, ↓e_pNo, ↓e_pSome, ↓e_sLc, ↓e_sYes, ↓e_sStep, ↓e_sIxG, ↓e_oAdd, ↓e_oI, ↓e_oI0, ↓e_oSub, ↓e_oMul, ↓e_oFdiv, ↓e_oMod, ↓e_oPow, ↓e_oShl, ↓e_oShr, ↓e_oNeg, ↓e_oEq, ↓e_oNe, ↓e_oLtI, ↓e_oLeI, ↓e_oGtI, ↓e_oGeI, ↓e_oIs, ↓e_oIn, ↓e_oIx, ↓e_oSl, ↓e_oLen, ↓e_oAbs, ↓e_oInt, ↓e_oMax2, ↓e_oMin2, ↓e_oList, ↓e_oTuple, ↓e_oIsi, ↓e_oAddI, ↓e_mAppend, ↓e_mExtend, ↓e_mPop, ↓e_mPopAt, ↓e_mInsert, ↓ng, ↓isNone, ↓e_noFd, ↓e_cells0, ↓arCell, ↓e_sTurn, ↓e_wip0, ↓e_wip1, ↓e_sIndex, List.map_cons, List.map_nil, List.length_cons, List.length_nil, List.cons_append, List.nil_append, List.replicate, Nat.reduceAdd, Nat.reduceSub, Nat.zero_add, List.getElem?_cons_zero, List.getElem?_cons_succ, List.set_cons_zero, List.set_cons_succ, if_true, if_false, ↓reduceIte, Bool.false_eq_true, true_and, and_true, not_true_eq_false, not_false_eq_true, decide_eq_true_eq, Bool.not_true, Bool.not_false, Bool.not_not, Bool.not_eq_true', decide_eq_false_iff_not, List.length_map, atI0, atI1, atI2, Nat.reduceLeDiff, Int.reduceEq, Int.reduceLT, Int.reduceLE, Int.reduceAdd, Int.reduceSub, Int.cast_ofNat_Int, isi_tuple, isi_list, isi_int, isi_bool, isi_str, isi_none, reduceCtorEq, Bool.true_eq_false, Nat.min_self, F__law_draw_ap]
  refine fun more _ _ => ?_
  refine hK _ ?_; clear hK; clear K
  refine seq_step fun K hK => ?_; simp only [↓e_sNext, ↓e_sBreak, ↓e_sCont, ↓e_sDrop, ↓e_sRet, ↓e_sRetV, ↓e_sRetN, ↓e_sIfS, ↓e_sAsg, ↓e_sFor, ↓e_sVar, ↓e_sRV, ↓e_sRE, ↓e_sC, ↓e_aNil, ↓e_aCons, ↓e_ar, ↓e_dNil, ↓e_dCons, ↓e_fz, ↓e_sLst, ↓e_sTup, ↓e_s1, ↓e_s2, ↓e_s3, ↓e_s4, ↓e_rs, ↓e_sT, ↓e_sAnd, ↓e_sOr, ↓e_sNot, ↓e_vB, ↓e_sAndV, ↓e_sOrV, ↓e_sNotV, ↓e_sIf, ↓e_sgName, ↓e_cellOf, ↓e_sgNil, ↓e_sgCons, ↓e_sgTup, ↓e_sIt, ↓e_sRng1, ↓e_sRng2, ↓e_sEnum, ↓e_sZip, ↓e_sRev, ↓e_sRevR, ↓e_sRg1, ↓e_sRg2, ↓sI, ↓e_sLstR, ↓e_sCall, ↓e_sMeth, ↓e_sSetIx, ↓e_sAugIx, ↓e_sAug, ↓e_sSl, ↓e_pNo, ↓e_pSome, ↓e_sLc, ↓e_sYes, ↓e_sStep, ↓e_sIxG, ↓e_oAdd, ↓e_oI, ↓e_oI0, ↓e_oSub, ↓e_oMul, ↓e_oFdiv, ↓e_oMod, ↓e_oPow, ↓e_oShl, ↓e_oShr, ↓e_oNeg, ↓e_oEq, ↓e_oNe, ↓e_oLtI, ↓e_oLeI, ↓e_oGtI, ↓e_oGeI, ↓e_oIs, ↓e_oIn, ↓e_oIx, ↓e_oSl, ↓e_oLen, ↓e_oAbs, ↓e_oInt, ↓e_oMax2, ↓e_oMin2, ↓e_oList, ↓e_oTuple, ↓e_oIsi, ↓e_oAddI, ↓e_mAppend, ↓e_mExtend, ↓e_mPop, ↓e_mPopAt, ↓e_mInsert, ↓ng, ↓isNone, ↓e_noFd, ↓e_cells0, ↓arCell, ↓e_sTurn, ↓e_wip0, ↓e_wip1, ↓e_sIndex, List.map_cons, List.map_nil, List.length_cons, List.length_nil, List.cons_append, List.nil_append, List.replicate, Nat.reduceAdd, Nat.reduceSub, Nat.zero_add, List.getElem?_cons_zero, List.getElem?_cons_succ, List.set_cons_zero, List.set_cons_succ, if_true, if_false, ↓reduceIte, Bool.false_eq_true, true_and, and_true, not_true_eq_false, not_false_eq_true, decide_eq_true_eq, Bool.not_true, Bool.not_false, Bool.not_not, Bool.not_eq_true', decide_eq_false_iff_not, List.length_map, atI0, atI1, atI2, Nat.reduceLeDiff, Int.reduceEq, Int.reduceLT, Int.reduceLE, Int.reduceAdd, Int.reduceSub, Int.cast_ofNat_Int, isi_tuple, isi_list, isi_int, isi_bool, isi_str, isi_none, reduceCtorEq, Bool.true_eq_false, Nat.min_self]
  refine F__law_changed_ap (by omega) fun ps hps hpl => ?_
  simp only [↓e_sSeq, ↓e_sNext, ↓e_sBreak, ↓e_sCont, ↓e_sDrop, ↓e_sRet, ↓e_sRetV, ↓e_sRetN, ↓e_sIfS, ↓e_sAsg, ↓e_sFor, ↓e_sVar, ↓e_sRV, ↓e_sRE, ↓e_sC, ↓e_aNil, ↓e_aCons, ↓e_ar, ↓e_dNil, ↓e_dCons, ↓e_fz, ↓e_sLst, ↓e_sTup, ↓e_s1, ↓e_s2, ↓e_s3, ↓e_s4, ↓e_rs, ↓e_sT, ↓e_sAnd, ↓e_sOr, ↓e_sNot, ↓e_vB, ↓e_sAndV, ↓e_sOrV, ↓e_sNotV, ↓e_sIf, ↓e_sgName, ↓e_cellOf, ↓e_sgNil, ↓e_sgCons, ↓e_sgTup, ↓e_sIt, ↓e_sRng1, ↓e_sRng2, ↓e_sEnum, ↓e_sZip, ↓e_sRev, ↓e_sRevR, ↓e_sRg1, ↓e_sRg2, ↓sI, ↓e_sLstR, ↓e_sCall, ↓e_sMeth, ↓e_sSetIx, ↓e_sAugIx, ↓e_sAug, ↓e_sSl, ↓e_pNo, ↓e_pSome, ↓e_sLc, ↓e_sYes, ↓e_sStep, ↓e_sIxG, ↓e_oAdd, ↓e_oI, ↓e_oI0, ↓e_oSub, ↓e_oMul, ↓e_oFdiv, ↓e_oMod, ↓e_oPow, ↓e_oShl, ↓e_oShr, ↓e_oNeg, ↓e_oEq, ↓e_oNe, ↓e_oLtI, ↓e_oLeI, ↓e_oGtI, ↓e_oGeI, ↓e_oIs, ↓e_oIn, ↓e_oIx, ↓e_oSl, ↓e_oLen, ↓e_oAbs, ↓e_oInt, ↓e_oMax2, ↓e_oMin2, ↓e_oList, ↓e_oTuple, ↓e_oIsi, ↓e_oAddI, ↓e_mAppend, ↓e_mExtend, ↓e_mPop, ↓e_mPopAt, ↓e_mInsert, ↓ng, ↓isNone, ↓e_noFd, ↓e_cells0, ↓arCell, ↓e_sTurn, ↓e_wip0, ↓e_wip1, ↓e_sIndex, List.map_cons, List.map_nil, List.length_cons, List.length_nil, List.cons_append, List.nil_append, List.replicate, Nat.reduceAdd, Nat.reduceSub, Nat.zero_add, List.getElem?_cons_zero, List.getElem?_cons_succ, List.set_cons_zero, List.set_cons_succ, if_true, if_false, ↓reduceIte, Bool.false_eq_true, true_and, and_true, not_true_eq_false, not_false_eq_true, decide_eq_true_eq, Bool.not_true, Bool.not_false, Bool.not_not, Bool.not_eq_true', decide_eq_false_iff_not, List.length_map, atI0, atI1, atI2, Nat.reduceLeDiff, Int.reduceEq, Int.reduceLT, Int.reduceLE, Int.reduceAdd, Int.reduceSub, Int.cast_ofNat_Int, isi_tuple, isi_list, isi_int, isi_bool, isi_str, isi_none, reduceCtorEq, Bool.true_eq_false, Nat.min_self]
  refine ⟨by omega, wComp_mapA PyData.int (fun x => .int (x - 1)) (fun x hx K hK => ?_) ?_⟩
  · simp only [↓e_sSeq, ↓e_sNext, ↓e_sBreak, ↓e_sCont, ↓e_sDrop, ↓e_sRet, ↓e_sRetV, ↓e_sRetN, ↓e_sIfS, ↓e_sAsg, ↓e_sFor, ↓e_sVar, ↓e_sRV, ↓e_sRE, ↓e_sC, ↓e_aNil, ↓e_aCons, ↓e_ar, ↓e_dNil, ↓e_dCons, ↓e_fz, ↓e_sLst, ↓e_sTup, ↓e_s1, ↓e_s2, ↓e_s3, ↓e_s4, ↓e_rs, ↓e_sT, ↓e_sAnd, ↓e_sOr, ↓e_sNot, ↓e_vB, ↓e_sAndV, ↓e_sOrV, ↓e_sNotV, ↓e_sIf, ↓e_sgName, ↓e_cellOf, ↓e_sgNil, ↓e_sgCons, ↓e_sgTup, ↓e_sIt, ↓e_sRng1, ↓e_sRng2, ↓e_sEnum, ↓e_sZip, ↓e_sRev, ↓e_sRevR, ↓e_sRg1, ↓e_sRg2, ↓sI, ↓e_sLstR, ↓e_sCall, ↓e_sMeth, ↓e_sSetIx, ↓e_sAugIx, ↓e_sAug, ↓e_sSl, ↓e_pNo, ↓e_pSome, ↓e_sLc, ↓e_sYes, ↓e_sStep, ↓e_sIxG, ↓e_oAdd, ↓e_oI, ↓e_oI0, ↓e_oSub, ↓e_oMul, ↓e_oFdiv, ↓e_oMod, ↓e_oPow, ↓e_oShl, ↓e_oShr, ↓e_oNeg, ↓e_oEq, ↓e_oNe, ↓e_oLtI, ↓e_oLeI, ↓e_oGtI, ↓e_oGeI, ↓e_oIs, ↓e_oIn, ↓e_oIx, ↓e_oSl, ↓e_oLen, ↓e_oAbs, ↓e_oInt, ↓e_oMax2, ↓e_oMin2, ↓e_oList, ↓e_oTuple, ↓e_oIsi, ↓e_oAddI, ↓e_mAppend, ↓e_mExtend, ↓e_mPop, ↓e_mPopAt, ↓e_mInsert, ↓ng, ↓isNone, ↓e_noFd, ↓e_cells0, ↓arCell, ↓e_sTurn, ↓e_wip0, ↓e_wip1, ↓e_sIndex, List.map_cons, List.map_nil, List.length_cons, List.length_nil, List.cons_append, List.nil_append, List.replicate, Nat.reduceAdd, Nat.reduceSub, Nat.zero_add, List.getElem?_cons_zero, List.getElem?_cons_succ, List.set_cons_zero, List.set_cons_succ, if_true, if_false, ↓reduceIte, Bool.false_eq_true, true_and, and_true, not_true_eq_false, not_false_eq_true, decide_eq_true_eq, Bool.not_true, Bool.not_false, Bool.not_not, Bool.not_eq_true', decide_eq_false_iff_not, List.length_map, atI0, atI1, atI2, Nat.reduceLeDiff, Int.reduceEq, Int.reduceLT, Int.reduceLE, Int.reduceAdd, Int.reduceSub, Int.cast_ofNat_Int, isi_tuple, isi_list, isi_int, isi_bool, isi_str, isi_none, reduceCtorEq, Bool.true_eq_false, Nat.min_self]
    exact hK _ _ rfl
  simp only [↓e_sSeq, ↓e_sNext, ↓e_sBreak, ↓e_sCont, ↓e_sDrop, ↓e_sRet, ↓e_sRetV, ↓e_sRetN, ↓e_sIfS, ↓e_sAsg, ↓e_sFor, ↓e_sVar, ↓e_sRV, ↓e_sRE, ↓e_sC, ↓e_aNil, ↓e_aCons, ↓e_ar, ↓e_dNil, ↓e_dCons, ↓e_fz, ↓e_sLst, ↓e_sTup, ↓e_s1, ↓e_s2, ↓e_s3, ↓e_s4, ↓e_rs, ↓e_sT, ↓e_sAnd, ↓e_sOr, ↓e_sNot, ↓e_vB, ↓e_sAndV, ↓e_sOrV, ↓e_sNotV, ↓e_sIf, ↓e_sgName, ↓e_cellOf, ↓e_sgNil, ↓e_sgCons, ↓e_sgTup, ↓e_sIt, ↓e_sRng1, ↓e_sRng2, ↓e_sEnum, ↓e_sZip, ↓e_sRev, ↓e_sRevR, ↓e_sRg1, ↓e_sRg2, ↓sI, ↓e_sLstR, ↓e_sCall, ↓e_sMeth, ↓e_sSetIx, ↓e_sAugIx, ↓e_sAug, ↓e_sSl, ↓e_pNo, ↓e_pSome, ↓e_sLc, ↓e_sYes, ↓e_sStep, ↓e_sIxG, ↓e_oAdd, ↓e_oI, ↓e_oI0, ↓e_oSub, ↓e_oMul, ↓e_oFdiv, ↓e_oMod, ↓e_oPow, ↓e_oShl, ↓e_oShr, ↓e_oNeg, ↓e_oEq, ↓e_oNe, ↓e_oLtI, ↓e_oLeI, ↓e_oGtI, ↓e_oGeI, ↓e_oIs, ↓e_oIn, ↓e_oIx, ↓e_oSl, ↓e_oLen, ↓e_oAbs, ↓e_oInt, ↓e_oMax2, ↓e_oMin2, ↓e_oList, ↓e_oTuple, ↓e_oIsi, ↓e_oAddI, ↓e_mAppend, ↓e_mExtend, ↓e_mPop, ↓e_mPopAt, ↓e_mInsert, ↓ng, ↓isNone, ↓e_noFd, ↓e_cells0, ↓arCell, ↓e_sTurn, ↓e_wip0, ↓e_wip1, ↓e_sIndex, List.map_cons, List.map_nil, List.length_cons, List.length_nil, List.cons_append, List.nil_append, List.replicate, Nat.reduceAdd, Nat.reduceSub, Nat.zero_add, List.getElem?_cons_zero, List.getElem?_cons_succ, List.set_cons_zero, List.set_cons_succ, if_true, if_false, ↓reduceIte, Bool.false_eq_true, true_and, and_true, not_true_eq_false, not_false_eq_true, decide_eq_true_eq, Bool.not_true, Bool.not_false, Bool.not_not, Bool.not_eq_true', decide_eq_false_iff_not, List.length_map, atI0, atI1, atI2, Nat.reduceLeDiff, Int.reduceEq, Int.reduceLT, Int.reduceLE, Int.reduceAdd, Int.reduceSub, Int.cast_ofNat_Int, isi_tuple, isi_list, isi_int, isi_bool, isi_str, isi_none, reduceCtorEq, Bool.true_eq_false, Nat.min_self]
  refine ⟨by omega, wComp_mapA PyData.int (fun x => .int (2 * x + more)) (fun x hx K hK => ?_) ?_⟩
  · simp only [↓e_sSeq, ↓e_sNext, ↓e_sBreak, ↓e_sCont, ↓e_sDrop, ↓e_sRet, ↓e_sRetV, ↓e_sRetN, ↓e_sIfS, ↓e_sAsg, ↓e_sFor, ↓e_sVar, ↓e_sRV, ↓e_sRE, ↓e_sC, ↓e_aNil, ↓e_aCons, ↓e_ar, ↓e_dNil, ↓e_dCons, ↓e_fz, ↓e_sLst, ↓e_sTup, ↓e_s1, ↓e_s2, ↓e_s3, ↓e_s4, ↓e_rs, ↓e_sT, ↓e_sAnd, ↓e_sOr, ↓e_sNot, ↓e_vB, ↓e_sAndV, ↓e_sOrV, ↓e_sNotV, ↓e_sIf, ↓e_sgName, ↓e_cellOf, ↓e_sgNil, ↓e_sgCons, ↓e_sgTup, ↓e_sIt, ↓e_sRng1, ↓e_sRng2, ↓e_sEnum, ↓e_sZip, ↓e_sRev, ↓e_sRevR, ↓e_sRg1, ↓e_sRg2, ↓sI, ↓e_sLstR, ↓e_sCall, ↓e_sMeth, ↓e_sSetIx, ↓e_sAugIx, ↓e_sAug, ↓e_sSl, ↓e_pNo, ↓e_pSome, ↓e_sLc, ↓e_sYes, ↓e_sStep, ↓e_sIxG, ↓e_oAdd, ↓e_oI, ↓e_oI0, ↓e_oSub, ↓e_oMul, ↓e_oFdiv, ↓e_oMod, ↓e_oPow, ↓e_oShl, ↓e_oShr, ↓e_oNeg, ↓e_oEq, ↓e_oNe, ↓e_oLtI, ↓e_oLeI, ↓e_oGtI, ↓e_oGeI, ↓e_oIs, ↓e_oIn, ↓e_oIx, ↓e_oSl, ↓e_oLen, ↓e_oAbs, ↓e_oInt, ↓e_oMax2, ↓e_oMin2, ↓e_oList, ↓e_oTuple, ↓e_oIsi, ↓e_oAddI, ↓e_mAppend, ↓e_mExtend, ↓e_mPop, ↓e_mPopAt, ↓e_mInsert, ↓ng, ↓isNone, ↓e_noFd, ↓e_cells0, ↓arCell, ↓e_sTurn, ↓e_wip0, ↓e_wip1, ↓e_sIndex, List.map_cons, List.map_nil, List.length_cons, List.length_nil, List.cons_append, List.nil_append, List.replicate, Nat.reduceAdd, Nat.reduceSub, Nat.zero_add, List.getElem?_cons_zero, List.getElem?_cons_succ, List.set_cons_zero, List.set_cons_succ, if_true, if_false, ↓reduceIte, Bool.false_eq_true, true_and, and_true, not_true_eq_false, not_false_eq_true, decide_eq_true_eq, Bool.not_true, Bool.not_false, Bool.not_not, Bool.not_eq_true', decide_eq_false_iff_not, List.length_map, atI0, atI1, atI2, Nat.reduceLeDiff, Int.reduceEq, Int.reduceLT, Int.reduceLE, Int.reduceAdd, Int.reduceSub, Int.cast_ofNat_Int, isi_tuple, isi_list, isi_int, isi_bool, isi_str, isi_none, reduceCtorEq, Bool.true_eq_false, Nat.min_self]
    exact ⟨.inl ⟨by omega, by omega⟩, hK _ _ rfl⟩
  simp only [↓e_sSeq, ↓e_sNext, ↓e_sBreak, ↓e_sCont, ↓e_sDrop, ↓e_sRet, ↓e_sRetV, ↓e_sRetN, ↓e_sIfS, ↓e_sAsg, ↓e_sFor, ↓e_sVar, ↓e_sRV, ↓e_sRE, ↓e_sC, ↓e_aNil, ↓e_aCons, ↓e_ar, ↓e_dNil, ↓e_dCons, ↓e_fz, ↓e_sLst, ↓e_sTup, ↓e_s1, ↓e_s2, ↓e_s3, ↓e_s4, ↓e_rs, ↓e_sT, ↓e_sAnd, ↓e_sOr, ↓e_sNot, ↓e_vB, ↓e_sAndV, ↓e_sOrV, ↓e_sNotV, ↓e_sIf, ↓e_sgName, ↓e_cellOf, ↓e_sgNil, ↓e_sgCons, ↓e_sgTup, ↓e_sIt, ↓e_sRng1, ↓e_sRng2, ↓e_sEnum, ↓e_sZip, ↓e_sRev, ↓e_sRevR, ↓e_sRg1, ↓e_sRg2, ↓sI, ↓e_sLstR, ↓e_sCall, ↓e_sMeth, ↓e_sSetIx, ↓e_sAugIx, ↓e_sAug, ↓e_sSl, ↓e_pNo, ↓e_pSome, ↓e_sLc, ↓e_sYes, ↓e_sStep, ↓e_sIxG, ↓e_oAdd, ↓e_oI, ↓e_oI0, ↓e_oSub, ↓e_oMul, ↓e_oFdiv, ↓e_oMod, ↓e_oPow, ↓e_oShl, ↓e_oShr, ↓e_oNeg, ↓e_oEq, ↓e_oNe, ↓e_oLtI, ↓e_oLeI, ↓e_oGtI, ↓e_oGeI, ↓e_oIs, ↓e_oIn, ↓e_oIx, ↓e_oSl, ↓e_oLen, ↓e_oAbs, ↓e_oInt, ↓e_oMax2, ↓e_oMin2, ↓e_oList, ↓e_oTuple, ↓e_oIsi, ↓e_oAddI, ↓e_mAppend, ↓e_mExtend, ↓e_mPop, ↓e_mPopAt, ↓e_mInsert, ↓ng, ↓isNone, ↓e_noFd, ↓e_cells0, ↓arCell, ↓e_sTurn, ↓e_wip0, ↓e_wip1, ↓e_sIndex, List.map_cons, List.map_nil, List.length_cons, List.length_nil, List.cons_append, List.nil_append, List.replicate, Nat.reduceAdd, Nat.reduceSub, Nat.zero_add, List.getElem?_cons_zero, List.getElem?_cons_succ, List.set_cons_zero, List.set_cons_succ, if_true, if_false, ↓reduceIte, Bool.false_eq_true, true_and, and_true, not_true_eq_false, not_false_eq_true, decide_eq_true_eq, Bool.not_true, Bool.not_false, Bool.not_not, Bool.not_eq_true', decide_eq_false_iff_not, List.length_map, atI0, atI1, atI2, Nat.reduceLeDiff, Int.reduceEq, Int.reduceLT, Int.reduceLE, Int.reduceAdd, Int.reduceSub, Int.cast_ofNat_Int, isi_tuple, isi_list, isi_int, isi_bool, isi_str, isi_none, reduceCtorEq, Bool.true_eq_false, Nat.min_self]
  refine ⟨by omega, ?_⟩
  refine hK _ ?_; clear hK; clear K
  have mapI : ∀ f : Int → Int, (rs.map fun x => PyData.int (f x)) = (rs.map f).map PyData.int := fun f => by rw [List.map_map]; rfl
  have hps2 : Paps (ps ++ [PyData.list (rs.map fun x => .int (x - 1)), .list (rs.map fun x => .int (2 * x + more))]) :=
    hps.append (.cons (pap_list _ (by rw [List.length_map]; omega)) (.one (pap_list _ (by rw [List.length_map]; omega))))
  have hpl2 : (ps ++ [PyData.list (rs.map fun x => .int (x - 1)), .list (rs.map fun x => .int (2 * x + more))]).length ≤ 1002 := by rw [List.length_append]; simp only [List.length_cons, List.length_nil]; omega
  generalize ps ++ [PyData.list (rs.map fun x => .int (x - 1)), .list (rs.map fun x => .int (2 * x + more))] = ps2 at hps2 hpl2
  refine seq_step fun K hK => ?_; simp only [↓e_sNext, ↓e_sBreak, ↓e_sCont, ↓e_sDrop, ↓e_sRet, ↓e_sRetV, ↓e_sRetN, ↓e_sIfS, ↓e_sAsg, ↓e_sFor, ↓e_sVar, ↓e_sRV, ↓e_sRE, ↓e_sC, ↓e_aNil, ↓e_aCons, ↓e_ar, ↓e_dNil, ↓e_dCons, ↓e_fz, ↓e_sLst, ↓e_sTup, ↓e_s1, ↓e_s2, ↓e_s3, ↓e_s4, ↓e_rs, ↓e_sT, ↓e_sAnd, ↓e_sOr, ↓e_sNot, ↓e_vB, ↓e_sAndV, ↓e_sOrV, ↓e_sNotV, ↓e_sIf, ↓e_sgName, ↓e_cellOf, ↓e_sgNil, ↓e_sgCons, ↓e_sgTup, ↓e_sIt, ↓e_sRng1, ↓e_sRng2, ↓e_sEnum, ↓e_sZip, ↓e_sRev, ↓e_sRevR, ↓e_sRg1, ↓e_sRg2, ↓sI, ↓e_sLstR, ↓e_sCall, ↓e_sMeth, ↓e_sSetIx, ↓e_sAugIx, ↓e_sAug, ↓e_sSl, ↓e_pNo, ↓e_pSome, ↓e_sLc, ↓e_sYes, ↓e_sStep, ↓e_sIxG, ↓e_oAdd, ↓e_oI, ↓e_oI0, ↓e_oSub, ↓e_oMul, ↓e_oFdiv, ↓e_oMod, ↓e_oPow, ↓e_oShl, ↓e_oShr, ↓e_oNeg, ↓e_oEq, ↓e_oNe, ↓e_oLtI, ↓e_oLeI, ↓e_oGtI, ↓e_oGeI, ↓e_oIs, ↓e_oIn, ↓e_oIx, ↓e_oSl, ↓e_oLen, ↓e_oAbs, ↓e_oInt, ↓e_oMax2, ↓e_oMin2, ↓e_oList, ↓e_oTuple, ↓e_oIsi, ↓e_oAddI, ↓e_mAppend, ↓e_mExtend, ↓e_mPop, ↓e_mPopAt, ↓e_mInsert, ↓ng, ↓isNone, ↓e_noFd, ↓e_cells0, ↓arCell, ↓e_sTurn, ↓e_wip0, ↓e_wip1, ↓e_sIndex, List.map_cons, List.map_nil, List.length_cons, List.length_nil, List.cons_append, List.nil_append, List.replicate, Nat.reduceAdd, Nat.reduceSub, Nat.zero_add, List.getElem?_cons_zero, List.getElem?_cons_succ, List.set_cons_zero, List.set_cons_succ, if_true, if_false, ↓reduceIte, Bool.false_eq_true, true_and, and_true, not_true_eq_false, not_false_eq_true, decide_eq_true_eq, Bool.not_true, Bool.not_false, Bool.not_not, Bool.not_eq_true', decide_eq_false_iff_not, List.length_map, atI0, atI1, atI2, Nat.reduceLeDiff, Int.reduceEq, Int.reduceLT, Int.reduceLE, Int.reduceAdd, Int.reduceSub, Int.cast_ofNat_Int, isi_tuple, isi_list, isi_int, isi_bool, isi_str, isi_none, reduceCtorEq, Bool.true_eq_false, Nat.min_self]
  refine ⟨by omega, wComp_mapA PyData.int (fun x => .int (3 * x + more)) (fun x hx K hK => ?_) ?_⟩
  · simp only [↓e_sSeq, ↓e_sNext, ↓e_sBreak, ↓e_sCont, ↓e_sDrop, ↓e_sRet, ↓e_sRetV, ↓e_sRetN, ↓e_sIfS, ↓e_sAsg, ↓e_sFor, ↓e_sVar, ↓e_sRV, ↓e_sRE, ↓e_sC, ↓e_aNil, ↓e_aCons, ↓e_ar, ↓e_dNil, ↓e_dCons, ↓e_fz, ↓e_sLst, ↓e_sTup, ↓e_s1, ↓e_s2, ↓e_s3, ↓e_s4, ↓e_rs, ↓e_sT, ↓e_sAnd, ↓e_sOr, ↓e_sNot, ↓e_vB, ↓e_sAndV, ↓e_sOrV, ↓e_sNotV, ↓e_sIf, ↓e_sgName, ↓e_cellOf, ↓e_sgNil, ↓e_sgCons, ↓e_sgTup, ↓e_sIt, ↓e_sRng1, ↓e_sRng2, ↓e_sEnum, ↓e_sZip, ↓e_sRev, ↓e_sRevR, ↓e_sRg1, ↓e_sRg2, ↓sI, ↓e_sLstR, ↓e_sCall, ↓e_sMeth, ↓e_sSetIx, ↓e_sAugIx, ↓e_sAug, ↓e_sSl, ↓e_pNo, ↓e_pSome, ↓e_sLc, ↓e_sYes, ↓e_sStep, ↓e_sIxG, ↓e_oAdd, ↓e_oI, ↓e_oI0, ↓e_oSub, ↓e_oMul, ↓e_oFdiv, ↓e_oMod, ↓e_oPow, ↓e_oShl, ↓e_oShr, ↓e_oNeg, ↓e_oEq, ↓e_oNe, ↓e_oLtI, ↓e_oLeI, ↓e_oGtI, ↓e_oGeI, ↓e_oIs, ↓e_oIn, ↓e_oIx, ↓e_oSl, ↓e_oLen, ↓e_oAbs, ↓e_oInt, ↓e_oMax2, ↓e_oMin2, ↓e_oList, ↓e_oTuple, ↓e_oIsi, ↓e_oAddI, ↓e_mAppend, ↓e_mExtend, ↓e_mPop, ↓e_mPopAt, ↓e_mInsert, ↓ng, ↓isNone, ↓e_noFd, ↓e_cells0, ↓arCell, ↓e_sTurn, ↓e_wip0, ↓e_wip1, ↓e_sIndex, List.map_cons, List.map_nil, List.length_cons, List.length_nil, List.cons_append, List.nil_append, List.replicate, Nat.reduceAdd, Nat.reduceSub, Nat.zero_add, List.getElem?_cons_zero, List.getElem?_cons_succ, List.set_cons_zero, List.set_cons_succ, if_true, if_false, ↓reduceIte, Bool.false_eq_true, true_and, and_true, not_true_eq_false, not_false_eq_true, decide_eq_true_eq, Bool.not_true, Bool.not_false, Bool.not_not, Bool.not_eq_true', decide_eq_false_iff_not, List.length_map, atI0, atI1, atI2, Nat.reduceLeDiff, Int.reduceEq, Int.reduceLT, Int.reduceLE, Int.reduceAdd, Int.reduceSub, Int.cast_ofNat_Int, isi_tuple, isi_list, isi_int, isi_bool, isi_str, isi_none, reduceCtorEq, Bool.true_eq_false, Nat.min_self]
    exact ⟨.inl ⟨by omega, by omega⟩, hK _ _ rfl⟩
  rw [mapI fun x => 3 * x + more]
  simp only [↓e_sSeq, ↓e_sNext, ↓e_sBreak, ↓e_sCont, ↓e_sDrop, ↓e_sRet, ↓e_sRetV, ↓e_sRetN, ↓e_sIfS, ↓e_sAsg, ↓e_sFor, ↓e_sVar, ↓e_sRV, ↓e_sRE, ↓e_sC, ↓e_aNil, ↓e_aCons, ↓e_ar, ↓e_dNil, ↓e_dCons, ↓e_fz, ↓e_sLst, ↓e_sTup, ↓e_s1, ↓e_s2, ↓e_s3, ↓e_s4, ↓e_rs, ↓e_sT, ↓e_sAnd, ↓e_sOr, ↓e_sNot, ↓e_vB, ↓e_sAndV, ↓e_sOrV, ↓e_sNotV, ↓e_sIf, ↓e_sgName, ↓e_cellOf, ↓e_sgNil, ↓e_sgCons, ↓e_sgTup, ↓e_sIt, ↓e_sRng1, ↓e_sRng2, ↓e_sEnum, ↓e_sZip, ↓e_sRev, ↓e_sRevR, ↓e_sRg1, ↓e_sRg2, ↓sI, ↓e_sLstR, ↓e_sCall, ↓e_sMeth, ↓e_sSetIx, ↓e_sAugIx, ↓e_sAug, ↓e_sSl, ↓e_pNo, ↓e_pSome, ↓e_sLc, ↓e_sYes, ↓e_sStep, ↓e_sIxG, ↓e_oAdd, ↓e_oI, ↓e_oI0, ↓e_oSub, ↓e_oMul, ↓e_oFdiv, ↓e_oMod, ↓e_oPow, ↓e_oShl, ↓e_oShr, ↓e_oNeg, ↓e_oEq, ↓e_oNe, ↓e_oLtI, ↓e_oLeI, ↓e_oGtI, ↓e_oGeI, ↓e_oIs, ↓e_oIn, ↓e_oIx, ↓e_oSl, ↓e_oLen, ↓e_oAbs, ↓e_oInt, ↓e_oMax2, ↓e_oMin2, ↓e_oList, ↓e_oTuple, ↓e_oIsi, ↓e_oAddI, ↓e_mAppend, ↓e_mExtend, ↓e_mPop, ↓e_mPopAt, ↓e_mInsert, ↓ng, ↓isNone, ↓e_noFd, ↓e_cells0, ↓arCell, ↓e_sTurn, ↓e_wip0, ↓e_wip1, ↓e_sIndex, List.map_cons, List.map_nil, List.length_cons, List.length_nil, List.cons_append, List.nil_append, List.replicate, Nat.reduceAdd, Nat.reduceSub, Nat.zero_add, List.getElem?_cons_zero, List.getElem?_cons_succ, List.set_cons_zero, List.set_cons_succ, if_true, if_false, ↓reduceIte, Bool.false_eq_true, true_and, and_true, not_true_eq_false, not_false_eq_true, decide_eq_true_eq, Bool.not_true, Bool.not_false, Bool.not_not, Bool.not_eq_true', decide_eq_false_iff_not, List.length_map, atI0, atI1, atI2, Nat.reduceLeDiff, Int.reduceEq, Int.reduceLT, Int.reduceLE, Int.reduceAdd, Int.reduceSub, Int.cast_ofNat_Int, isi_tuple, isi_list, isi_int, isi_bool, isi_str, isi_none, reduceCtorEq, Bool.true_eq_false, Nat.min_self]
  refine F__law_changed_ap (by rw [List.length_map]; omega) fun ps3 hps3 hpl3 => ?_
  simp only [↓e_sSeq, ↓e_sNext, ↓e_sBreak, ↓e_sCont, ↓e_sDrop, ↓e_sRet, ↓e_sRetV, ↓e_sRetN, ↓e_sIfS, ↓e_sAsg, ↓e_sFor, ↓e_sVar, ↓e_sRV, ↓e_sRE, ↓e_sC, ↓e_aNil, ↓e_aCons, ↓e_ar, ↓e_dNil, ↓e_dCons, ↓e_fz, ↓e_sLst, ↓e_sTup, ↓e_s1, ↓e_s2, ↓e_s3, ↓e_s4, ↓e_rs, ↓e_sT, ↓e_sAnd, ↓e_sOr, ↓e_sNot, ↓e_vB, ↓e_sAndV, ↓e_sOrV, ↓e_sNotV, ↓e_sIf, ↓e_sgName, ↓e_cellOf, ↓e_sgNil, ↓e_sgCons, ↓e_sgTup, ↓e_sIt, ↓e_sRng1, ↓e_sRng2, ↓e_sEnum, ↓e_sZip, ↓e_sRev, ↓e_sRevR, ↓e_sRg1, ↓e_sRg2, ↓sI, ↓e_sLstR, ↓e_sCall, ↓e_sMeth, ↓e_sSetIx, ↓e_sAugIx, ↓e_sAug, ↓e_sSl, ↓e_pNo, ↓e_pSome, ↓e_sLc, ↓e_sYes, ↓e_sStep, ↓e_sIxG, ↓e_oAdd, ↓e_oI, ↓e_oI0, ↓e_oSub, ↓e_oMul, ↓e_oFdiv, ↓e_oMod, ↓e_oPow, ↓e_oShl, ↓e_oShr, ↓e_oNeg, ↓e_oEq, ↓e_oNe, ↓e_oLtI, ↓e_oLeI, ↓e_oGtI, ↓e_oGeI, ↓e_oIs, ↓e_oIn, ↓e_oIx, ↓e_oSl, ↓e_oLen, ↓e_oAbs, ↓e_oInt, ↓e_oMax2, ↓e_oMin2, ↓e_oList, ↓e_oTuple, ↓e_oIsi, ↓e_oAddI, ↓e_mAppend, ↓e_mExtend, ↓e_mPop, ↓e_mPopAt, ↓e_mInsert, ↓ng, ↓isNone, ↓e_noFd, ↓e_cells0, ↓arCell, ↓e_sTurn, ↓e_wip0, ↓e_wip1, ↓e_sIndex, List.map_cons, List.map_nil, List.length_cons, List.length_nil, List.cons_append, List.nil_append, List.replicate, Nat.reduceAdd, Nat.reduceSub, Nat.zero_add, List.getElem?_cons_zero, List.getElem?_cons_succ, List.set_cons_zero, List.set_cons_succ, if_true, if_false, ↓reduceIte, Bool.false_eq_true, true_and, and_true, not_true_eq_false, not_false_eq_true, decide_eq_true_eq, Bool.not_true, Bool.not_false, Bool.not_not, Bool.not_eq_true', decide_eq_false_iff_not, List.length_map, atI0, atI1, atI2, Nat.reduceLeDiff, Int.reduceEq, Int.reduceLT, Int.reduceLE, Int.reduceAdd, Int.reduceSub, Int.cast_ofNat_Int, isi_tuple, isi_list, isi_int, isi_bool, isi_str, isi_none, reduceCtorEq, Bool.true_eq_false, Nat.min_self]
  refine ⟨by omega, ?_⟩
  refine hK _ ?_; clear hK; clear K
  have hps4 := hps2.append hps3
  have hpl4 : (ps2 ++ ps3).length ≤ 2002 := by rw [List.length_append]; omega
  generalize ps2 ++ ps3 = ps4 at hps4 hpl4
  refine seq_step fun K hK => ?_; simp only [↓e_sNext, ↓e_sBreak, ↓e_sCont, ↓e_sDrop, ↓e_sRet, ↓e_sRetV, ↓e_sRetN, ↓e_sIfS, ↓e_sAsg, ↓e_sFor, ↓e_sVar, ↓e_sRV, ↓e_sRE, ↓e_sC, ↓e_aNil, ↓e_aCons, ↓e_ar, ↓e_dNil, ↓e_dCons, ↓e_fz, ↓e_sLst, ↓e_sTup, ↓e_s1, ↓e_s2, ↓e_s3, ↓e_s4, ↓e_rs, ↓e_sT, ↓e_sAnd, ↓e_sOr, ↓e_sNot, ↓e_vB, ↓e_sAndV, ↓e_sOrV, ↓e_sNotV, ↓e_sIf, ↓e_sgName, ↓e_cellOf, ↓e_sgNil, ↓e_sgCons, ↓e_sgTup, ↓e_sIt, ↓e_sRng1, ↓e_sRng2, ↓e_sEnum, ↓e_sZip, ↓e_sRev, ↓e_sRevR, ↓e_sRg1, ↓e_sRg2, ↓sI, ↓e_sLstR, ↓e_sCall, ↓e_sMeth, ↓e_sSetIx, ↓e_sAugIx, ↓e_sAug, ↓e_sSl, ↓e_pNo, ↓e_pSome, ↓e_sLc, ↓e_sYes, ↓e_sStep, ↓e_sIxG, ↓e_oAdd, ↓e_oI, ↓e_oI0, ↓e_oSub, ↓e_oMul, ↓e_oFdiv, ↓e_oMod, ↓e_oPow, ↓e_oShl, ↓e_oShr, ↓e_oNeg, ↓e_oEq, ↓e_oNe, ↓e_oLtI, ↓e_oLeI, ↓e_oGtI, ↓e_oGeI, ↓e_oIs, ↓e_oIn, ↓e_oIx, ↓e_oSl, ↓e_oLen, ↓e_oAbs, ↓e_oInt, ↓e_oMax2, ↓e_oMin2, ↓e_oList, ↓e_oTuple, ↓e_oIsi, ↓e_oAddI, ↓e_mAppend, ↓e_mExtend, ↓e_mPop, ↓e_mPopAt, ↓e_mInsert, ↓ng, ↓isNone, ↓e_noFd, ↓e_cells0, ↓arCell, ↓e_sTurn, ↓e_wip0, ↓e_wip1, ↓e_sIndex, List.map_cons, List.map_nil, List.length_cons, List.length_nil, List.cons_append, List.nil_append, List.replicate, Nat.reduceAdd, Nat.reduceSub, Nat.zero_add, List.getElem?_cons_zero, List.getElem?_cons_succ, List.set_cons_zero, List.set_cons_succ, if_true, if_false, ↓reduceIte, Bool.false_eq_true, true_and, and_true, not_true_eq_false, not_false_eq_true, decide_eq_true_eq, Bool.not_true, Bool.not_false, Bool.not_not, Bool.not_eq_true', decide_eq_false_iff_not, List.length_map, atI0, atI1, atI2, Nat.reduceLeDiff, Int.reduceEq, Int.reduceLT, Int.reduceLE, Int.reduceAdd, Int.reduceSub, Int.cast_ofNat_Int, isi_tuple, isi_list, isi_int, isi_bool, isi_str, isi_none, reduceCtorEq, Bool.true_eq_false, Nat.min_self]
  refine ⟨by omega, wComp_mapA dN (fun p => .int (rk rs p.2.1)) (fun p hp K hK => ?_) ?_⟩
  · have hr := ok.1 p hp
    simp only [↓e_sSeq, ↓e_sNext, ↓e_sBreak, ↓e_sCont, ↓e_sDrop, ↓e_sRet, ↓e_sRetV, ↓e_sRetN, ↓e_sIfS, ↓e_sAsg, ↓e_sFor, ↓e_sVar, ↓e_sRV, ↓e_sRE, ↓e_sC, ↓e_aNil, ↓e_aCons, ↓e_ar, ↓e_dNil, ↓e_dCons, ↓e_fz, ↓e_sLst, ↓e_sTup, ↓e_s1, ↓e_s2, ↓e_s3, ↓e_s4, ↓e_rs, ↓e_sT, ↓e_sAnd, ↓e_sOr, ↓e_sNot, ↓e_vB, ↓e_sAndV, ↓e_sOrV, ↓e_sNotV, ↓e_sIf, ↓e_sgName, ↓e_cellOf, ↓e_sgNil, ↓e_sgCons, ↓e_sgTup, ↓e_sIt, ↓e_sRng1, ↓e_sRng2, ↓e_sEnum, ↓e_sZip, ↓e_sRev, ↓e_sRevR, ↓e_sRg1, ↓e_sRg2, ↓sI, ↓e_sLstR, ↓e_sCall, ↓e_sMeth, ↓e_sSetIx, ↓e_sAugIx, ↓e_sAug, ↓e_sSl, ↓e_pNo, ↓e_pSome, ↓e_sLc, ↓e_sYes, ↓e_sStep, ↓e_sIxG, ↓e_oAdd, ↓e_oI, ↓e_oI0, ↓e_oSub, ↓e_oMul, ↓e_oFdiv, ↓e_oMod, ↓e_oPow, ↓e_oShl, ↓e_oShr, ↓e_oNeg, ↓e_oEq, ↓e_oNe, ↓e_oLtI, ↓e_oLeI, ↓e_oGtI, ↓e_oGeI, ↓e_oIs, ↓e_oIn, ↓e_oIx, ↓e_oSl, ↓e_oLen, ↓e_oAbs, ↓e_oInt, ↓e_oMax2, ↓e_oMin2, ↓e_oList, ↓e_oTuple, ↓e_oIsi, ↓e_oAddI, ↓e_mAppend, ↓e_mExtend, ↓e_mPop, ↓e_mPopAt, ↓e_mInsert, ↓ng, ↓isNone, ↓e_noFd, ↓e_cells0, ↓arCell, ↓e_sTurn, ↓e_wip0, ↓e_wip1, ↓e_sIndex, List.map_cons, List.map_nil, List.length_cons, List.length_nil, List.cons_append, List.nil_append, List.replicate, Nat.reduceAdd, Nat.reduceSub, Nat.zero_add, List.getElem?_cons_zero, List.getElem?_cons_succ, List.set_cons_zero, List.set_cons_succ, if_true, if_false, ↓reduceIte, Bool.false_eq_true, true_and, and_true, not_true_eq_false, not_false_eq_true, decide_eq_true_eq, Bool.not_true, Bool.not_false, Bool.not_not, Bool.not_eq_true', decide_eq_false_iff_not, List.length_map, atI0, atI1, atI2, Nat.reduceLeDiff, Int.reduceEq, Int.reduceLT, Int.reduceLE, Int.reduceAdd, Int.reduceSub, Int.cast_ofNat_Int, isi_tuple, isi_list, isi_int, isi_bool, isi_str, isi_none, reduceCtorEq, Bool.true_eq_false, Nat.min_self, dN, rk_at (ns := rs) hr.2.1 (by omega)]
    exact hK _ _ rfl
  simp only [↓e_sSeq, ↓e_sNext, ↓e_sBreak, ↓e_sCont, ↓e_sDrop, ↓e_sRet, ↓e_sRetV, ↓e_sRetN, ↓e_sIfS, ↓e_sAsg, ↓e_sFor, ↓e_sVar, ↓e_sRV, ↓e_sRE, ↓e_sC, ↓e_aNil, ↓e_aCons, ↓e_ar, ↓e_dNil, ↓e_dCons, ↓e_fz, ↓e_sLst, ↓e_sTup, ↓e_s1, ↓e_s2, ↓e_s3, ↓e_s4, ↓e_rs, ↓e_sT, ↓e_sAnd, ↓e_sOr, ↓e_sNot, ↓e_vB, ↓e_sAndV, ↓e_sOrV, ↓e_sNotV, ↓e_sIf, ↓e_sgName, ↓e_cellOf, ↓e_sgNil, ↓e_sgCons, ↓e_sgTup, ↓e_sIt, ↓e_sRng1, ↓e_sRng2, ↓e_sEnum, ↓e_sZip, ↓e_sRev, ↓e_sRevR, ↓e_sRg1, ↓e_sRg2, ↓sI, ↓e_sLstR, ↓e_sCall, ↓e_sMeth, ↓e_sSetIx, ↓e_sAugIx, ↓e_sAug, ↓e_sSl, ↓e_pNo, ↓e_pSome, ↓e_sLc, ↓e_sYes, ↓e_sStep, ↓e_sIxG, ↓e_oAdd, ↓e_oI, ↓e_oI0, ↓e_oSub, ↓e_oMul, ↓e_oFdiv, ↓e_oMod, ↓e_oPow, ↓e_oShl, ↓e_oShr, ↓e_oNeg, ↓e_oEq, ↓e_oNe, ↓e_oLtI, ↓e_oLeI, ↓e_oGtI, ↓e_oGeI, ↓e_oIs, ↓e_oIn, ↓e_oIx, ↓e_oSl, ↓e_oLen, ↓e_oAbs, ↓e_oInt, ↓e_oMax2, ↓e_oMin2, ↓e_oList, ↓e_oTuple, ↓e_oIsi, ↓e_oAddI, ↓e_mAppend, ↓e_mExtend, ↓e_mPop, ↓e_mPopAt, ↓e_mInsert, ↓ng, ↓isNone, ↓e_noFd, ↓e_cells0, ↓arCell, ↓e_sTurn, ↓e_wip0, ↓e_wip1, ↓e_sIndex, List.map_cons, List.map_nil, List.length_cons, List.length_nil, List.cons_append, List.nil_append, List.replicate, Nat.reduceAdd, Nat.reduceSub, Nat.zero_add, List.getElem?_cons_zero, List.getElem?_cons_succ, List.set_cons_zero, List.set_cons_succ, if_true, if_false, ↓reduceIte, Bool.false_eq_true, true_and, and_true, not_true_eq_false, not_false_eq_true, decide_eq_true_eq, Bool.not_true, Bool.not_false, Bool.not_not, Bool.not_eq_true', decide_eq_false_iff_not, List.length_map, atI0, atI1, atI2, Nat.reduceLeDiff, Int.reduceEq, Int.reduceLT, Int.reduceLE, Int.reduceAdd, Int.reduceSub, Int.cast_ofNat_Int, isi_tuple, isi_list, isi_int, isi_bool, isi_str, isi_none, reduceCtorEq, Bool.true_eq_false, Nat.min_self]
  refine ⟨⟨by omega, by omega, by omega⟩, ⟨by omega, by omega, by omega⟩, by omega, wComp_mapA PyData.int (fun x => .int (10 ^ Int.toNat 59 - x)) (fun x hx K hK => ?_) ?_⟩
  · simp only [↓e_sSeq, ↓e_sNext, ↓e_sBreak, ↓e_sCont, ↓e_sDrop, ↓e_sRet, ↓e_sRetV, ↓e_sRetN, ↓e_sIfS, ↓e_sAsg, ↓e_sFor, ↓e_sVar, ↓e_sRV, ↓e_sRE, ↓e_sC, ↓e_aNil, ↓e_aCons, ↓e_ar, ↓e_dNil, ↓e_dCons, ↓e_fz, ↓e_sLst, ↓e_sTup, ↓e_s1, ↓e_s2, ↓e_s3, ↓e_s4, ↓e_rs, ↓e_sT, ↓e_sAnd, ↓e_sOr, ↓e_sNot, ↓e_vB, ↓e_sAndV, ↓e_sOrV, ↓e_sNotV, ↓e_sIf, ↓e_sgName, ↓e_cellOf, ↓e_sgNil, ↓e_sgCons, ↓e_sgTup, ↓e_sIt, ↓e_sRng1, ↓e_sRng2, ↓e_sEnum, ↓e_sZip, ↓e_sRev, ↓e_sRevR, ↓e_sRg1, ↓e_sRg2, ↓sI, ↓e_sLstR, ↓e_sCall, ↓e_sMeth, ↓e_sSetIx, ↓e_sAugIx, ↓e_sAug, ↓e_sSl, ↓e_pNo, ↓e_pSome, ↓e_sLc, ↓e_sYes, ↓e_sStep, ↓e_sIxG, ↓e_oAdd, ↓e_oI, ↓e_oI0, ↓e_oSub, ↓e_oMul, ↓e_oFdiv, ↓e_oMod, ↓e_oPow, ↓e_oShl, ↓e_oShr, ↓e_oNeg, ↓e_oEq, ↓e_oNe, ↓e_oLtI, ↓e_oLeI, ↓e_oGtI, ↓e_oGeI, ↓e_oIs, ↓e_oIn, ↓e_oIx, ↓e_oSl, ↓e_oLen, ↓e_oAbs, ↓e_oInt, ↓e_oMax2, ↓e_oMin2, ↓e_oList, ↓e_oTuple, ↓e_oIsi, ↓e_oAddI, ↓e_mAppend, ↓e_mExtend, ↓e_mPop, ↓e_mPopAt, ↓e_mInsert, ↓ng, ↓isNone, ↓e_noFd, ↓e_cells0, ↓arCell, ↓e_sTurn, ↓e_wip0, ↓e_wip1, ↓e_sIndex, List.map_cons, List.map_nil, List.length_cons, List.length_nil, List.cons_append, List.nil_append, List.replicate, Nat.reduceAdd, Nat.reduceSub, Nat.zero_add, List.getElem?_cons_zero, List.getElem?_cons_succ, List.set_cons_zero, List.set_cons_succ, if_true, if_false, ↓reduceIte, Bool.false_eq_true, true_and, and_true, not_true_eq_false, not_false_eq_true, decide_eq_true_eq, Bool.not_true, Bool.not_false, Bool.not_not, Bool.not_eq_true', decide_eq_false_iff_not, List.length_map, atI0, atI1, atI2, Nat.reduceLeDiff, Int.reduceEq, Int.reduceLT, Int.reduceLE, Int.reduceAdd, Int.reduceSub, Int.cast_ofNat_Int, isi_tuple, isi_list, isi_int, isi_bool, isi_str, isi_none, reduceCtorEq, Bool.true_eq_false, Nat.min_self]
    exact ⟨by unfold CPow; decide, hK _ _ rfl⟩
  simp only [↓e_sSeq, ↓e_sNext, ↓e_sBreak, ↓e_sCont, ↓e_sDrop, ↓e_sRet, ↓e_sRetV, ↓e_sRetN, ↓e_sIfS, ↓e_sAsg, ↓e_sFor, ↓e_sVar, ↓e_sRV, ↓e_sRE, ↓e_sC, ↓e_aNil, ↓e_aCons, ↓e_ar, ↓e_dNil, ↓e_dCons, ↓e_fz, ↓e_sLst, ↓e_sTup, ↓e_s1, ↓e_s2, ↓e_s3, ↓e_s4, ↓e_rs, ↓e_sT, ↓e_sAnd, ↓e_sOr, ↓e_sNot, ↓e_vB, ↓e_sAndV, ↓e_sOrV, ↓e_sNotV, ↓e_sIf, ↓e_sgName, ↓e_cellOf, ↓e_sgNil, ↓e_sgCons, ↓e_sgTup, ↓e_sIt, ↓e_sRng1, ↓e_sRng2, ↓e_sEnum, ↓e_sZip, ↓e_sRev, ↓e_sRevR, ↓e_sRg1, ↓e_sRg2, ↓sI, ↓e_sLstR, ↓e_sCall, ↓e_sMeth, ↓e_sSetIx, ↓e_sAugIx, ↓e_sAug, ↓e_sSl, ↓e_pNo, ↓e_pSome, ↓e_sLc, ↓e_sYes, ↓e_sStep, ↓e_sIxG, ↓e_oAdd, ↓e_oI, ↓e_oI0, ↓e_oSub, ↓e_oMul, ↓e_oFdiv, ↓e_oMod, ↓e_oPow, ↓e_oShl, ↓e_oShr, ↓e_oNeg, ↓e_oEq, ↓e_oNe, ↓e_oLtI, ↓e_oLeI, ↓e_oGtI, ↓e_oGeI, ↓e_oIs, ↓e_oIn, ↓e_oIx, ↓e_oSl, ↓e_oLen, ↓e_oAbs, ↓e_oInt, ↓e_oMax2, ↓e_oMin2, ↓e_oList, ↓e_oTuple, ↓e_oIsi, ↓e_oAddI, ↓e_mAppend, ↓e_mExtend, ↓e_mPop, ↓e_mPopAt, ↓e_mInsert, ↓ng, ↓isNone, ↓e_noFd, ↓e_cells0, ↓arCell, ↓e_sTurn, ↓e_wip0, ↓e_wip1, ↓e_sIndex, List.map_cons, List.map_nil, List.length_cons, List.length_nil, List.cons_append, List.nil_append, List.replicate, Nat.reduceAdd, Nat.reduceSub, Nat.zero_add, List.getElem?_cons_zero, List.getElem?_cons_succ, List.set_cons_zero, List.set_cons_succ, if_true, if_false, ↓reduceIte, Bool.false_eq_true, true_and, and_true, not_true_eq_false, not_false_eq_true, decide_eq_true_eq, Bool.not_true, Bool.not_false, Bool.not_not, Bool.not_eq_true', decide_eq_false_iff_not, List.length_map, atI0, atI1, atI2, Nat.reduceLeDiff, Int.reduceEq, Int.reduceLT, Int.reduceLE, Int.reduceAdd, Int.reduceSub, Int.cast_ofNat_Int, isi_tuple, isi_list, isi_int, isi_bool, isi_str, isi_none, reduceCtorEq, Bool.true_eq_false, Nat.min_self]
  refine ⟨by omega, ?_⟩
  generalize (10 : Int) ^ Int.toNat 59 = big
  refine hK _ ?_; clear hK; clear K
  have hps5 := hps4.append (.cons (pap_list _ (by rw [List.length_map]; omega)) (.cons (pap_list _ (by rw [rep_len]; omega)) (.cons (pap_list _ (by rw [rep_len]; omega)) (.one (pap_list _ (by rw [List.length_map]; omega))))) : Paps [PyData.list (List.map (fun p => PyData.int (rk rs p.snd.fst)) t), PyData.list (List.replicate (n : Int).toNat [PyData.int 0]).flatten, PyData.list (List.replicate (n : Int).toNat [PyData.int 1]).flatten, PyData.list (List.map (fun x => PyData.int (big - x)) rs)])
  have hpl5 : (ps4 ++ [PyData.list (List.map (fun p => PyData.int (rk rs p.snd.fst)) t), PyData.list (List.replicate (n : Int).toNat [PyData.int 0]).flatten, PyData.list (List.replicate (n : Int).toNat [PyData.int 1]).flatten, PyData.list (List.map (fun x => PyData.int (big - x)) rs)]).length ≤ 2006 := by
    rw [List.length_append]; simp only [List.length_cons, List.length_nil]; omega
  generalize ps4 ++ [PyData.list (List.map (fun p => PyData.int (rk rs p.snd.fst)) t), PyData.list (List.replicate (n : Int).toNat [PyData.int 0]).flatten, PyData.list (List.replicate (n : Int).toNat [PyData.int 1]).flatten, PyData.list (List.map (fun x => PyData.int (big - x)) rs)] = ps5 at hps5 hpl5
  have cut4 : ∀ xs : List D, Dv.cutD xs none (some 4) = xs.take 4 := fun xs => cutN_to xs 4
  refine seq_step fun K hK => ?_; simp only [↓e_sNext, ↓e_sBreak, ↓e_sCont, ↓e_sDrop, ↓e_sRet, ↓e_sRetV, ↓e_sRetN, ↓e_sIfS, ↓e_sAsg, ↓e_sFor, ↓e_sVar, ↓e_sRV, ↓e_sRE, ↓e_sC, ↓e_aNil, ↓e_aCons, ↓e_ar, ↓e_dNil, ↓e_dCons, ↓e_fz, ↓e_sLst, ↓e_sTup, ↓e_s1, ↓e_s2, ↓e_s3, ↓e_s4, ↓e_rs, ↓e_sT, ↓e_sAnd, ↓e_sOr, ↓e_sNot, ↓e_vB, ↓e_sAndV, ↓e_sOrV, ↓e_sNotV, ↓e_sIf, ↓e_sgName, ↓e_cellOf, ↓e_sgNil, ↓e_sgCons, ↓e_sgTup, ↓e_sIt, ↓e_sRng1, ↓e_sRng2, ↓e_sEnum, ↓e_sZip, ↓e_sRev, ↓e_sRevR, ↓e_sRg1, ↓e_sRg2, ↓sI, ↓e_sLstR, ↓e_sCall, ↓e_sMeth, ↓e_sSetIx, ↓e_sAugIx, ↓e_sAug, ↓e_sSl, ↓e_pNo, ↓e_pSome, ↓e_sLc, ↓e_sYes, ↓e_sStep, ↓e_sIxG, ↓e_oAdd, ↓e_oI, ↓e_oI0, ↓e_oSub, ↓e_oMul, ↓e_oFdiv, ↓e_oMod, ↓e_oPow, ↓e_oShl, ↓e_oShr, ↓e_oNeg, ↓e_oEq, ↓e_oNe, ↓e_oLtI, ↓e_oLeI, ↓e_oGtI, ↓e_oGeI, ↓e_oIs, ↓e_oIn, ↓e_oIx, ↓e_oSl, ↓e_oLen, ↓e_oAbs, ↓e_oInt, ↓e_oMax2, ↓e_oMin2, ↓e_oList, ↓e_oTuple, ↓e_oIsi, ↓e_oAddI, ↓e_mAppend, ↓e_mExtend, ↓e_mPop, ↓e_mPopAt, ↓e_mInsert, ↓ng, ↓isNone, ↓e_noFd, ↓e_cells0, ↓arCell, ↓e_sTurn, ↓e_wip0, ↓e_wip1, ↓e_sIndex, List.map_cons, List.map_nil, List.length_cons, List.length_nil, List.cons_append, List.nil_append, List.replicate, Nat.reduceAdd, Nat.reduceSub, Nat.zero_add, List.getElem?_cons_zero, List.getElem?_cons_succ, List.set_cons_zero, List.set_cons_succ, if_true, if_false, ↓reduceIte, Bool.false_eq_true, true_and, and_true, not_true_eq_false, not_false_eq_true, decide_eq_true_eq, Bool.not_true, Bool.not_false, Bool.not_not, Bool.not_eq_true', decide_eq_false_iff_not, List.length_map, atI0, atI1, atI2, Nat.reduceLeDiff, Int.reduceEq, Int.reduceLT, Int.reduceLE, Int.reduceAdd, Int.reduceSub, Int.cast_ofNat_Int, isi_tuple, isi_list, isi_int, isi_bool, isi_str, isi_none, reduceCtorEq, Bool.true_eq_false, Nat.min_self, cut4]
  rw [← List.map_take]
  refine wLoop_map (fun i ρ => ∃ (out : List D) (a b c d : Cell), ρ = ⟨[.fd, .im (.int n), .im (.list (t.map dN)), .im (.list (rs.map .int)), .im (.int more), .mu out, .un, a, b, c, d, .un, .un], kx⟩ ∧ Paps out ∧ out.length ≤ 2006 + i) ⟨ps5, .un, .un, .un, .un, rfl, hps5, hpl5⟩ ?_ ?_
  · rintro ρ ⟨out, a, b, c, d, rfl, hpo, hlo⟩
    refine hK _ ?_; clear hK; clear K
    rw [List.length_take] at hlo
    refine seq_step fun K hK => ?_; simp only [↓e_sNext, ↓e_sBreak, ↓e_sCont, ↓e_sDrop, ↓e_sRet, ↓e_sRetV, ↓e_sRetN, ↓e_sIfS, ↓e_sAsg, ↓e_sFor, ↓e_sVar, ↓e_sRV, ↓e_sRE, ↓e_sC, ↓e_aNil, ↓e_aCons, ↓e_ar, ↓e_dNil, ↓e_dCons, ↓e_fz, ↓e_sLst, ↓e_sTup, ↓e_s1, ↓e_s2, ↓e_s3, ↓e_s4, ↓e_rs, ↓e_sT, ↓e_sAnd, ↓e_sOr, ↓e_sNot, ↓e_vB, ↓e_sAndV, ↓e_sOrV, ↓e_sNotV, ↓e_sIf, ↓e_sgName, ↓e_cellOf, ↓e_sgNil, ↓e_sgCons, ↓e_sgTup, ↓e_sIt, ↓e_sRng1, ↓e_sRng2, ↓e_sEnum, ↓e_sZip, ↓e_sRev, ↓e_sRevR, ↓e_sRg1, ↓e_sRg2, ↓sI, ↓e_sLstR, ↓e_sCall, ↓e_sMeth, ↓e_sSetIx, ↓e_sAugIx, ↓e_sAug, ↓e_sSl, ↓e_pNo, ↓e_pSome, ↓e_sLc, ↓e_sYes, ↓e_sStep, ↓e_sIxG, ↓e_oAdd, ↓e_oI, ↓e_oI0, ↓e_oSub, ↓e_oMul, ↓e_oFdiv, ↓e_oMod, ↓e_oPow, ↓e_oShl, ↓e_oShr, ↓e_oNeg, ↓e_oEq, ↓e_oNe, ↓e_oLtI, ↓e_oLeI, ↓e_oGtI, ↓e_oGeI, ↓e_oIs, ↓e_oIn, ↓e_oIx, ↓e_oSl, ↓e_oLen, ↓e_oAbs, ↓e_oInt, ↓e_oMax2, ↓e_oMin2, ↓e_oList, ↓e_oTuple, ↓e_oIsi, ↓e_oAddI, ↓e_mAppend, ↓e_mExtend, ↓e_mPop, ↓e_mPopAt, ↓e_mInsert, ↓ng, ↓isNone, ↓e_noFd, ↓e_cells0, ↓arCell, ↓e_sTurn, ↓e_wip0, ↓e_wip1, ↓e_sIndex, List.map_cons, List.map_nil, List.length_cons, List.length_nil, List.cons_append, List.nil_append, List.replicate, Nat.reduceAdd, Nat.reduceSub, Nat.zero_add, List.getElem?_cons_zero, List.getElem?_cons_succ, List.set_cons_zero, List.set_cons_succ, if_true, if_false, ↓reduceIte, Bool.false_eq_true, true_and, and_true, not_true_eq_false, not_false_eq_true, decide_eq_true_eq, Bool.not_true, Bool.not_false, Bool.not_not, Bool.not_eq_true', decide_eq_false_iff_not, List.length_map, atI0, atI1, atI2, Nat.reduceLeDiff, Int.reduceEq, Int.reduceLT, Int.reduceLE, Int.reduceAdd, Int.reduceSub, Int.cast_ofNat_Int, isi_tuple, isi_list, isi_int, isi_bool, isi_str, isi_none, reduceCtorEq, Bool.true_eq_false, Nat.min_self]
    refine wLoop_ix (fun i ρ => ∃ (x y : Cell), ρ = ⟨[.fd, .im (.int n), .im (.list (t.map dN)), .im (.list (rs.map .int)), .im (.int more), .im (.list out), .un, a, b, c, d, x, y], kx⟩) ⟨.un, .un, rfl⟩ ?_ ?_
    · rintro ρ ⟨x, y, rfl⟩
      refine hK _ ?_; clear hK; clear K
      simp only [↓e_sSeq, ↓e_sNext, ↓e_sBreak, ↓e_sCont, ↓e_sDrop, ↓e_sRet, ↓e_sRetV, ↓e_sRetN, ↓e_sIfS, ↓e_sAsg, ↓e_sFor, ↓e_sVar, ↓e_sRV, ↓e_sRE, ↓e_sC, ↓e_aNil, ↓e_aCons, ↓e_ar, ↓e_dNil, ↓e_dCons, ↓e_fz, ↓e_sLst, ↓e_sTup, ↓e_s1, ↓e_s2, ↓e_s3, ↓e_s4, ↓e_rs, ↓e_sT, ↓e_sAnd, ↓e_sOr, ↓e_sNot, ↓e_vB, ↓e_sAndV, ↓e_sOrV, ↓e_sNotV, ↓e_sIf, ↓e_sgName, ↓e_cellOf, ↓e_sgNil, ↓e_sgCons, ↓e_sgTup, ↓e_sIt, ↓e_sRng1, ↓e_sRng2, ↓e_sEnum, ↓e_sZip, ↓e_sRev, ↓e_sRevR, ↓e_sRg1, ↓e_sRg2, ↓sI, ↓e_sLstR, ↓e_sCall, ↓e_sMeth, ↓e_sSetIx, ↓e_sAugIx, ↓e_sAug, ↓e_sSl, ↓e_pNo, ↓e_pSome, ↓e_sLc, ↓e_sYes, ↓e_sStep, ↓e_sIxG, ↓e_oAdd, ↓e_oI, ↓e_oI0, ↓e_oSub, ↓e_oMul, ↓e_oFdiv, ↓e_oMod, ↓e_oPow, ↓e_oShl, ↓e_oShr, ↓e_oNeg, ↓e_oEq, ↓e_oNe, ↓e_oLtI, ↓e_oLeI, ↓e_oGtI, ↓e_oGeI, ↓e_oIs, ↓e_oIn, ↓e_oIx, ↓e_oSl, ↓e_oLen, ↓e_oAbs, ↓e_oInt, ↓e_oMax2, ↓e_oMin2, ↓e_oList, ↓e_oTuple, ↓e_oIsi, ↓e_oAddI, ↓e_mAppend, ↓e_mExtend, ↓e_mPop, ↓e_mPopAt, ↓e_mInsert, ↓ng, ↓isNone, ↓e_noFd, ↓e_cells0, ↓arCell, ↓e_sTurn, ↓e_wip0, ↓e_wip1, ↓e_sIndex, List.map_cons, List.map_nil, List.length_cons, List.length_nil, List.cons_append, List.nil_append, List.replicate, Nat.reduceAdd, Nat.reduceSub, Nat.zero_add, List.getElem?_cons_zero, List.getElem?_cons_succ, List.set_cons_zero, List.set_cons_succ, if_true, if_false, ↓reduceIte, Bool.false_eq_true, true_and, and_true, not_true_eq_false, not_false_eq_true, decide_eq_true_eq, Bool.not_true, Bool.not_false, Bool.not_not, Bool.not_eq_true', decide_eq_false_iff_not, List.length_map, atI0, atI1, atI2, Nat.reduceLeDiff, Int.reduceEq, Int.reduceLT, Int.reduceLE, Int.reduceAdd, Int.reduceSub, Int.cast_ofNat_Int, isi_tuple, isi_list, isi_int, isi_bool, isi_str, isi_none, reduceCtorEq, Bool.true_eq_false, Nat.min_self]
      exact h
    · rintro i dd ρ kk hx ⟨x, y, rfl⟩ hk
      have hpd := hpo dd (List.mem_of_getElem? hx)
      unfold b2__law_ranks_judged
      refine seq_step fun K hK => ?_; simp only [↓e_sNext, ↓e_sBreak, ↓e_sCont, ↓e_sDrop, ↓e_sRet, ↓e_sRetV, ↓e_sRetN, ↓e_sIfS, ↓e_sAsg, ↓e_sFor, ↓e_sVar, ↓e_sRV, ↓e_sRE, ↓e_sC, ↓e_aNil, ↓e_aCons, ↓e_ar, ↓e_dNil, ↓e_dCons, ↓e_fz, ↓e_sLst, ↓e_sTup, ↓e_s1, ↓e_s2, ↓e_s3, ↓e_s4, ↓e_rs, ↓e_sT, ↓e_sAnd, ↓e_sOr, ↓e_sNot, ↓e_vB, ↓e_sAndV, ↓e_sOrV, ↓e_sNotV, ↓e_sIf, ↓e_sgName, ↓e_cellOf, ↓e_sgNil, ↓e_sgCons, ↓e_sgTup, ↓e_sIt, ↓e_sRng1, ↓e_sRng2, ↓e_sEnum, ↓e_sZip, ↓e_sRev, ↓e_sRevR, ↓e_sRg1, ↓e_sRg2, ↓sI, ↓e_sLstR, ↓e_sCall, ↓e_sMeth, ↓e_sSetIx, ↓e_sAugIx, ↓e_sAug, ↓e_sSl, ↓e_pNo, ↓e_pSome, ↓e_sLc, ↓e_sYes, ↓e_sStep, ↓e_sIxG, ↓e_oAdd, ↓e_oI, ↓e_oI0, ↓e_oSub, ↓e_oMul, ↓e_oFdiv, ↓e_oMod, ↓e_oPow, ↓e_oShl, ↓e_oShr, ↓e_oNeg, ↓e_oEq, ↓e_oNe, ↓e_oLtI, ↓e_oLeI, ↓e_oGtI, ↓e_oGeI, ↓e_oIs, ↓e_oIn, ↓e_oIx, ↓e_oSl, ↓e_oLen, ↓e_oAbs, ↓e_oInt, ↓e_oMax2, ↓e_oMin2, ↓e_oList, ↓e_oTuple, ↓e_oIsi, ↓e_oAddI, ↓e_mAppend, ↓e_mExtend, ↓e_mPop, ↓e_mPopAt, ↓e_mInsert, ↓ng, ↓isNone, ↓e_noFd, ↓e_cells0, ↓arCell, ↓e_sTurn, ↓e_wip0, ↓e_wip1, ↓e_sIndex, List.map_cons, List.map_nil, List.length_cons, List.length_nil, List.cons_append, List.nil_append, List.replicate, Nat.reduceAdd, Nat.reduceSub, Nat.zero_add, List.getElem?_cons_zero, List.getElem?_cons_succ, List.set_cons_zero, List.set_cons_succ, if_true, if_false, ↓reduceIte, Bool.false_eq_true, true_and, and_true, not_true_eq_false, not_false_eq_true, decide_eq_true_eq, Bool.not_true, Bool.not_false, Bool.not_not, Bool.not_eq_true', decide_eq_false_iff_not, List.length_map, atI0, atI1, atI2, Nat.reduceLeDiff, Int.reduceEq, Int.reduceLT, Int.reduceLE, Int.reduceAdd, Int.reduceSub, Int.cast_ofNat_Int, isi_tuple, isi_list, isi_int, isi_bool, isi_str, isi_none, reduceCtorEq, Bool.true_eq_false, Nat.min_self]
      refine F__law_is_ranks_ap ok hpd ?_
      simp only [↓e_sSeq, ↓e_sNext, ↓e_sBreak, ↓e_sCont, ↓e_sDrop, ↓e_sRet, ↓e_sRetV, ↓e_sRetN, ↓e_sIfS, ↓e_sAsg, ↓e_sFor, ↓e_sVar, ↓e_sRV, ↓e_sRE, ↓e_sC, ↓e_aNil, ↓e_aCons, ↓e_ar, ↓e_dNil, ↓e_dCons, ↓e_fz, ↓e_sLst, ↓e_sTup, ↓e_s1, ↓e_s2, ↓e_s3, ↓e_s4, ↓e_rs, ↓e_sT, ↓e_sAnd, ↓e_sOr, ↓e_sNot, ↓e_vB, ↓e_sAndV, ↓e_sOrV, ↓e_sNotV, ↓e_sIf, ↓e_sgName, ↓e_cellOf, ↓e_sgNil, ↓e_sgCons, ↓e_sgTup, ↓e_sIt, ↓e_sRng1, ↓e_sRng2, ↓e_sEnum, ↓e_sZip, ↓e_sRev, ↓e_sRevR, ↓e_sRg1, ↓e_sRg2, ↓sI, ↓e_sLstR, ↓e_sCall, ↓e_sMeth, ↓e_sSetIx, ↓e_sAugIx, ↓e_sAug, ↓e_sSl, ↓e_pNo, ↓e_pSome, ↓e_sLc, ↓e_sYes, ↓e_sStep, ↓e_sIxG, ↓e_oAdd, ↓e_oI, ↓e_oI0, ↓e_oSub, ↓e_oMul, ↓e_oFdiv, ↓e_oMod, ↓e_oPow, ↓e_oShl, ↓e_oShr, ↓e_oNeg, ↓e_oEq, ↓e_oNe, ↓e_oLtI, ↓e_oLeI, ↓e_oGtI, ↓e_oGeI, ↓e_oIs, ↓e_oIn, ↓e_oIx, ↓e_oSl, ↓e_oLen, ↓e_oAbs, ↓e_oInt, ↓e_oMax2, ↓e_oMin2, ↓e_oList, ↓e_oTuple, ↓e_oIsi, ↓e_oAddI, ↓e_mAppend, ↓e_mExtend, ↓e_mPop, ↓e_mPopAt, ↓e_mInsert, ↓ng, ↓isNone, ↓e_noFd, ↓e_cells0, ↓arCell, ↓e_sTurn, ↓e_wip0, ↓e_wip1, ↓e_sIndex, List.map_cons, List.map_nil, List.length_cons, List.length_nil, List.cons_append, List.nil_append, List.replicate, Nat.reduceAdd, Nat.reduceSub, Nat.zero_add, List.getElem?_cons_zero, List.getElem?_cons_succ, List.set_cons_zero, List.set_cons_succ, if_true, if_false, ↓reduceIte, Bool.false_eq_true, true_and, and_true, not_true_eq_false, not_false_eq_true, decide_eq_true_eq, Bool.not_true, Bool.not_false, Bool.not_not, Bool.not_eq_true', decide_eq_false_iff_not, List.length_map, atI0, atI1, atI2, Nat.reduceLeDiff, Int.reduceEq, Int.reduceLT, Int.reduceLE, Int.reduceAdd, Int.reduceSub, Int.cast_ofNat_Int, isi_tuple, isi_list, isi_int, isi_bool, isi_str, isi_none, reduceCtorEq, Bool.true_eq_false, Nat.min_self]
      refine hK _ ?_; clear hK; clear K
      simp only [↓e_sSeq, ↓e_sNext, ↓e_sBreak, ↓e_sCont, ↓e_sDrop, ↓e_sRet, ↓e_sRetV, ↓e_sRetN, ↓e_sIfS, ↓e_sAsg, ↓e_sFor, ↓e_sVar, ↓e_sRV, ↓e_sRE, ↓e_sC, ↓e_aNil, ↓e_aCons, ↓e_ar, ↓e_dNil, ↓e_dCons, ↓e_fz, ↓e_sLst, ↓e_sTup, ↓e_s1, ↓e_s2, ↓e_s3, ↓e_s4, ↓e_rs, ↓e_sT, ↓e_sAnd, ↓e_sOr, ↓e_sNot, ↓e_vB, ↓e_sAndV, ↓e_sOrV, ↓e_sNotV, ↓e_sIf, ↓e_sgName, ↓e_cellOf, ↓e_sgNil, ↓e_sgCons, ↓e_sgTup, ↓e_sIt, ↓e_sRng1, ↓e_sRng2, ↓e_sEnum, ↓e_sZip, ↓e_sRev, ↓e_sRevR, ↓e_sRg1, ↓e_sRg2, ↓sI, ↓e_sLstR, ↓e_sCall, ↓e_sMeth, ↓e_sSetIx, ↓e_sAugIx, ↓e_sAug, ↓e_sSl, ↓e_pNo, ↓e_pSome, ↓e_sLc, ↓e_sYes, ↓e_sStep, ↓e_sIxG, ↓e_oAdd, ↓e_oI, ↓e_oI0, ↓e_oSub, ↓e_oMul, ↓e_oFdiv, ↓e_oMod, ↓e_oPow, ↓e_oShl, ↓e_oShr, ↓e_oNeg, ↓e_oEq, ↓e_oNe, ↓e_oLtI, ↓e_oLeI, ↓e_oGtI, ↓e_oGeI, ↓e_oIs, ↓e_oIn, ↓e_oIx, ↓e_oSl, ↓e_oLen, ↓e_oAbs, ↓e_oInt, ↓e_oMax2, ↓e_oMin2, ↓e_oList, ↓e_oTuple, ↓e_oIsi, ↓e_oAddI, ↓e_mAppend, ↓e_mExtend, ↓e_mPop, ↓e_mPopAt, ↓e_mInsert, ↓ng, ↓isNone, ↓e_noFd, ↓e_cells0, ↓arCell, ↓e_sTurn, ↓e_wip0, ↓e_wip1, ↓e_sIndex, List.map_cons, List.map_nil, List.length_cons, List.length_nil, List.cons_append, List.nil_append, List.replicate, Nat.reduceAdd, Nat.reduceSub, Nat.zero_add, List.getElem?_cons_zero, List.getElem?_cons_succ, List.set_cons_zero, List.set_cons_succ, if_true, if_false, ↓reduceIte, Bool.false_eq_true, true_and, and_true, not_true_eq_false, not_false_eq_true, decide_eq_true_eq, Bool.not_true, Bool.not_false, Bool.not_not, Bool.not_eq_true', decide_eq_false_iff_not, List.length_map, atI0, atI1, atI2, Nat.reduceLeDiff, Int.reduceEq, Int.reduceLT, Int.reduceLE, Int.reduceAdd, Int.reduceSub, Int.cast_ofNat_Int, isi_tuple, isi_list, isi_int, isi_bool, isi_str, isi_none, reduceCtorEq, Bool.true_eq_false, Nat.min_self]
      refine F_shows_ranks_ap ok hpd ?_
      simp only [↓e_sSeq, ↓e_sNext, ↓e_sBreak, ↓e_sCont, ↓e_sDrop, ↓e_sRet, ↓e_sRetV, ↓e_sRetN, ↓e_sIfS, ↓e_sAsg, ↓e_sFor, ↓e_sVar, ↓e_sRV, ↓e_sRE, ↓e_sC, ↓e_aNil, ↓e_aCons, ↓e_ar, ↓e_dNil, ↓e_dCons, ↓e_fz, ↓e_sLst, ↓e_sTup, ↓e_s1, ↓e_s2, ↓e_s3, ↓e_s4, ↓e_rs, ↓e_sT, ↓e_sAnd, ↓e_sOr, ↓e_sNot, ↓e_vB, ↓e_sAndV, ↓e_sOrV, ↓e_sNotV, ↓e_sIf, ↓e_sgName, ↓e_cellOf, ↓e_sgNil, ↓e_sgCons, ↓e_sgTup, ↓e_sIt, ↓e_sRng1, ↓e_sRng2, ↓e_sEnum, ↓e_sZip, ↓e_sRev, ↓e_sRevR, ↓e_sRg1, ↓e_sRg2, ↓sI, ↓e_sLstR, ↓e_sCall, ↓e_sMeth, ↓e_sSetIx, ↓e_sAugIx, ↓e_sAug, ↓e_sSl, ↓e_pNo, ↓e_pSome, ↓e_sLc, ↓e_sYes, ↓e_sStep, ↓e_sIxG, ↓e_oAdd, ↓e_oI, ↓e_oI0, ↓e_oSub, ↓e_oMul, ↓e_oFdiv, ↓e_oMod, ↓e_oPow, ↓e_oShl, ↓e_oShr, ↓e_oNeg, ↓e_oEq, ↓e_oNe, ↓e_oLtI, ↓e_oLeI, ↓e_oGtI, ↓e_oGeI, ↓e_oIs, ↓e_oIn, ↓e_oIx, ↓e_oSl, ↓e_oLen, ↓e_oAbs, ↓e_oInt, ↓e_oMax2, ↓e_oMin2, ↓e_oList, ↓e_oTuple, ↓e_oIsi, ↓e_oAddI, ↓e_mAppend, ↓e_mExtend, ↓e_mPop, ↓e_mPopAt, ↓e_mInsert, ↓ng, ↓isNone, ↓e_noFd, ↓e_cells0, ↓arCell, ↓e_sTurn, ↓e_wip0, ↓e_wip1, ↓e_sIndex, List.map_cons, List.map_nil, List.length_cons, List.length_nil, List.cons_append, List.nil_append, List.replicate, Nat.reduceAdd, Nat.reduceSub, Nat.zero_add, List.getElem?_cons_zero, List.getElem?_cons_succ, List.set_cons_zero, List.set_cons_succ, if_true, if_false, ↓reduceIte, Bool.false_eq_true, true_and, and_true, not_true_eq_false, not_false_eq_true, decide_eq_true_eq, Bool.not_true, Bool.not_false, Bool.not_not, Bool.not_eq_true', decide_eq_false_iff_not, List.length_map, atI0, atI1, atI2, Nat.reduceLeDiff, Int.reduceEq, Int.reduceLT, Int.reduceLE, Int.reduceAdd, Int.reduceSub, Int.cast_ofNat_Int, isi_tuple, isi_list, isi_int, isi_bool, isi_str, isi_none, reduceCtorEq, Bool.true_eq_false, Nat.min_self, F__law_says_ap, decide_true]
      exact hk _ ⟨_, _, rfl⟩
  · rintro i p ρ kk hx ⟨out, a, b, c, d, rfl, hpo, hlo⟩ hk
    have hi := (List.getElem?_eq_some_iff.mp hx).1
    rw [List.length_take] at hi
    have hr := ok.1 p (List.mem_of_mem_take (List.mem_of_getElem? hx))
    unfold b1__law_ranks_judged
    simp only [↓e_sSeq, ↓e_sNext, ↓e_sBreak, ↓e_sCont, ↓e_sDrop, ↓e_sRet, ↓e_sRetV, ↓e_sRetN, ↓e_sIfS, ↓e_sAsg, ↓e_sFor, ↓e_sVar, ↓e_sRV, ↓e_sRE, ↓e_sC, ↓e_aNil, ↓e_aCons, ↓e_ar, ↓e_dNil, ↓e_dCons, ↓e_fz, ↓e_sLst, ↓e_sTup, ↓e_s1, ↓e_s2, ↓e_s3, ↓e_s4, ↓e_rs, ↓e_sT, ↓e_sAnd, ↓e_sOr, ↓e_sNot, ↓e_vB, ↓e_sAndV, ↓e_sOrV, ↓e_sNotV, ↓e_sIf, ↓e_sgName, ↓e_cellOf, ↓e_sgNil, ↓e_sgCons, ↓e_sgTup, ↓e_sIt, ↓e_sRng1, ↓e_sRng2, ↓e_sEnum, ↓e_sZip, ↓e_sRev, ↓e_sRevR, ↓e_sRg1, ↓e_sRg2, ↓sI, ↓e_sLstR, ↓e_sCall, ↓e_sMeth, ↓e_sSetIx, ↓e_sAugIx, ↓e_sAug, ↓e_sSl, ↓e_pNo, ↓e_pSome, ↓e_sLc, ↓e_sYes, ↓e_sStep, ↓e_sIxG, ↓e_oAdd, ↓e_oI, ↓e_oI0, ↓e_oSub, ↓e_oMul, ↓e_oFdiv, ↓e_oMod, ↓e_oPow, ↓e_oShl, ↓e_oShr, ↓e_oNeg, ↓e_oEq, ↓e_oNe, ↓e_oLtI, ↓e_oLeI, ↓e_oGtI, ↓e_oGeI, ↓e_oIs, ↓e_oIn, ↓e_oIx, ↓e_oSl, ↓e_oLen, ↓e_oAbs, ↓e_oInt, ↓e_oMax2, ↓e_oMin2, ↓e_oList, ↓e_oTuple, ↓e_oIsi, ↓e_oAddI, ↓e_mAppend, ↓e_mExtend, ↓e_mPop, ↓e_mPopAt, ↓e_mInsert, ↓ng, ↓isNone, ↓e_noFd, ↓e_cells0, ↓arCell, ↓e_sTurn, ↓e_wip0, ↓e_wip1, ↓e_sIndex, List.map_cons, List.map_nil, List.length_cons, List.length_nil, List.cons_append, List.nil_append, List.replicate, Nat.reduceAdd, Nat.reduceSub, Nat.zero_add, List.getElem?_cons_zero, List.getElem?_cons_succ, List.set_cons_zero, List.set_cons_succ, if_true, if_false, ↓reduceIte, Bool.false_eq_true, true_and, and_true, not_true_eq_false, not_false_eq_true, decide_eq_true_eq, Bool.not_true, Bool.not_false, Bool.not_not, Bool.not_eq_true', decide_eq_false_iff_not, List.length_map, atI0, atI1, atI2, Nat.reduceLeDiff, Int.reduceEq, Int.reduceLT, Int.reduceLE, Int.reduceAdd, Int.reduceSub, Int.cast_ofNat_Int, isi_tuple, isi_list, isi_int, isi_bool, isi_str, isi_none, reduceCtorEq, Bool.true_eq_false, Nat.min_self, dN, rk_at (ns := rs) hr.2.1 (by omega), cutD_to (rs.map PyData.int) p.1 hr.1.1, cutD_from (rs.map PyData.int) (p.1 + 1) (by omega)]
    have e1 : (List.take p.1.toNat (rs.map PyData.int)).length ≤ 100 := by rw [List.length_take, List.length_map]; omega
    have e2 : (List.drop (p.1 + 1).toNat (rs.map PyData.int)).length ≤ 100 := by rw [List.length_drop, List.length_map]; omega
    refine ⟨by omega, ?_, by omega, hk _ ⟨out ++ [_], _, _, _, _, rfl, hpo.append (.one (pap_list _ ?_)), ?_⟩⟩
    · rw [List.length_append]; simp only [List.length_cons, List.length_nil]; omega
    · rw [List.length_append, List.length_append]; simp only [List.length_cons, List.length_nil]; omega
    · rw [List.length_append]; simp only [List.length_cons, List.length_nil]; omega
theorem F__law_ranks_judged_ap {n : Nat} {t : NT} (hn : n ≤ 100) (ok : OkN n t) {k kx} (h : k (.im (.bool true))) : F__law_ranks_judged [.fd, .d (.int n), .d (.list (t.map dN))] k kx := ⟨n, t, rfl, hn, ok, h⟩
end Lw

namespace Lw
open PySem PySem.Spec L2 Dv
open PyProof.Rows hiding St
def F__law_rings_judged : Fn := fun as k _ => ∃ (n : Nat) (t : NT) (ring : List Int), as = [.fd, .d (.int n), .d (.list (t.map dN)), .d (.list (ring.map .int))] ∧ n ≤ 100 ∧ t.length ≤ 1000 ∧ ring.length ≤ 200 ∧ k (.im (.bool true))
theorem len__law_rings_judged : ∀ as k kx, F__law_rings_judged as k kx → as.length = 4 := by rintro as k kx ⟨_, _, _, rfl, _⟩; rfl
theorem w__law_rings_judged : ∀ as k kx, F__law_rings_judged as k kx → m__law_rings_judged F__law_changed F__law_is_ring F__law_says F_shows_parts_ring ⟨cells0 11 as, kx⟩ { nx := fun _ => k (.im .none), rt := fun v _ => noFd k v } := by
  rintro as k kx ⟨n, t, ring, rfl, hn, ht, hr, h⟩
  unfold m__law_rings_judged
  have hc : ∀ lo hi, (Dv.cutD (ring.map PyData.int) lo hi).length ≤ 200 := fun lo hi => by have := cut_len (ring.map PyData.int) lo hi; rw [List.length_map] at this; omega
  have hrl : (ring.map PyData.int).length ≤ 200 := by rw [List.length_map]; exact hr
  refine seq_step fun K hK => ?_; simp only [↓e_sNext, ↓e_sBreak, ↓e_sCont, ↓e_sDrop, ↓e_sRet, ↓e_sRetV, ↓e_sRetN, ↓e_sIfS, ↓e_sAsg, ↓e_sFor, ↓e_sVar, ↓e_sRV, ↓e_sRE, ↓e_sC, ↓e_aNil, ↓e_aCons, ↓e_ar, ↓e_dNil, ↓e_dCons, ↓e_fz, ↓e_sLst, ↓e_sTup, ↓e_s1, ↓e_s2, ↓e_s3, ↓e_s4, ↓e_rs, ↓e_sT, ↓e_sAnd, ↓e_sOr, ↓e_sNot, ↓e_vB, ↓e_sAndV, ↓e_sOrV, ↓e_sNotV, ↓e_sIf, ↓e_sgName, ↓e_cellOf, ↓e_sgNil, ↓e_sgCons, ↓e_sgTup, ↓e_sIt, ↓e_sRng1, ↓e_sRng2, ↓e_sEnum, ↓e_sZip, ↓e_sRev, ↓e_sRevR, ↓e_sRg1, ↓e_sRg2, ↓sI, ↓e_sLstR, ↓e_sCall, ↓e_sMeth, ↓e_sSetIx, ↓e_sAugIx, ↓e_sAug, ↓e_sSl, ↓e_pNo, ↓e_pSome, ↓e_sLc, ↓e_sYes, ↓e_sStep, ↓e_sIxG, ↓e_oAdd, ↓e_oI, ↓e_oI0, ↓e_oSub, ↓e_oMul, ↓e_oFdiv, ↓e_oMod, ↓e_oPow, ↓e_oShl, ↓e_oShr, ↓e_oNeg, ↓e_oEq, ↓e_oNe, ↓e_oLtI, ↓e_oLeI, ↓e_oGtI, ↓e_oGeI, ↓e_oIs, ↓e_oIn, ↓e_oIx, ↓e_oSl, ↓e_oLen, ↓e_oAbs, ↓e_oInt, ↓e_oMax2, ↓e_oMin2, ↓e_oList, ↓e_oTuple, ↓e_oIsi, ↓e_oAddI, ↓e_mAppend, ↓e_mExtend, ↓e_mPop, ↓e_mPopAt, ↓e_mInsert, ↓ng, ↓isNone, ↓e_noFd, ↓e_cells0, ↓arCell, ↓e_sTurn, ↓e_wip0, ↓e_wip1, ↓e_sIndex, List.map_cons, List.map_nil, List.length_cons, List.length_nil, List.cons_append, List.nil_append, List.replicate, Nat.reduceAdd, Nat.reduceSub, Nat.zero_add, List.getElem?_cons_zero, List.getElem?_cons_succ, List.set_cons_zero, List.set_cons_succ, if_true, if_false, ↓reduceIte, Bool.false_eq_true, true_and, and_true, not_true_eq_false, not_false_eq_true, decide_eq_true_eq, Bool.not_true, Bool.not_false, Bool.not_not, Bool.not_eq_true', decide_eq_false_iff_not, List.length_map, atI0, atI1, atI2, Nat.reduceLeDiff, Int.reduceEq, Int.reduceLT, Int.reduceLE, Int.reduceAdd, Int.reduceSub, Int.cast_ofNat_Int, isi_tuple, isi_list, isi_int, isi_bool, isi_str, isi_none, reduceCtorEq, Bool.true_eq_false, Nat.min_self]
  refine ⟨by have := hc (some 1) none; have := hc none (some 1); omega, ?_⟩
  refine hK _ ?_; clear hK; clear K
  have htu : (Dv.cutD (ring.map PyData.int) (some 1) none ++ Dv.cutD (ring.map PyData.int) none (some 1)).length ≤ 400 := by have := hc (some 1) none; have := hc none (some 1); rw [List.length_append]; omega
  generalize Dv.cutD (ring.map PyData.int) (some 1) none ++ Dv.cutD (ring.map PyData.int) none (some 1) = turned at htu
  refine seq_step fun K hK => ?_; simp only [↓e_sNext, ↓e_sBreak, ↓e_sCont, ↓e_sDrop, ↓e_sRet, ↓e_sRetV, ↓e_sRetN, ↓e_sIfS, ↓e_sAsg, ↓e_sFor, ↓e_sVar, ↓e_sRV, ↓e_sRE, ↓e_sC, ↓e_aNil, ↓e_aCons, ↓e_ar, ↓e_dNil, ↓e_dCons, ↓e_fz, ↓e_sLst, ↓e_sTup, ↓e_s1, ↓e_s2, ↓e_s3, ↓e_s4, ↓e_rs, ↓e_sT, ↓e_sAnd, ↓e_sOr, ↓e_sNot, ↓e_vB, ↓e_sAndV, ↓e_sOrV, ↓e_sNotV, ↓e_sIf, ↓e_sgName, ↓e_cellOf, ↓e_sgNil, ↓e_sgCons, ↓e_sgTup, ↓e_sIt, ↓e_sRng1, ↓e_sRng2, ↓e_sEnum, ↓e_sZip, ↓e_sRev, ↓e_sRevR, ↓e_sRg1, ↓e_sRg2, ↓sI, ↓e_sLstR, ↓e_sCall, ↓e_sMeth, ↓e_sSetIx, ↓e_sAugIx, ↓e_sAug, ↓e_sSl, ↓e_pNo, ↓e_pSome, ↓e_sLc, ↓e_sYes, ↓e_sStep, ↓e_sIxG, ↓e_oAdd, ↓e_oI, ↓e_oI0, ↓e_oSub, ↓e_oMul, ↓e_oFdiv, ↓e_oMod, ↓e_oPow, ↓e_oShl, ↓e_oShr, ↓e_oNeg, ↓e_oEq, ↓e_oNe, ↓e_oLtI, ↓e_oLeI, ↓e_oGtI, ↓e_oGeI, ↓e_oIs, ↓e_oIn, ↓e_oIx, ↓e_oSl, ↓e_oLen, ↓e_oAbs, ↓e_oInt, ↓e_oMax2, ↓e_oMin2, ↓e_oList, ↓e_oTuple, ↓e_oIsi, ↓e_oAddI, ↓e_mAppend, ↓e_mExtend, ↓e_mPop, ↓e_mPopAt, ↓e_mInsert, ↓ng, ↓isNone, ↓e_noFd, ↓e_cells0, ↓arCell, ↓e_sTurn, ↓e_wip0, ↓e_wip1, ↓e_sIndex, List.map_cons, List.map_nil, List.length_cons, List.length_nil, List.cons_append, List.nil_append, List.replicate, Nat.reduceAdd, Nat.reduceSub, Nat.zero_add, List.getElem?_cons_zero, List.getElem?_cons_succ, List.set_cons_zero, List.set_cons_succ, if_true, if_false, ↓reduceIte, Bool.false_eq_true, true_and, and_true, not_true_eq_false, not_false_eq_true, decide_eq_true_eq, Bool.not_true, Bool.not_false, Bool.not_not, Bool.not_eq_true', decide_eq_false_iff_not, List.length_map, atI0, atI1, atI2, Nat.reduceLeDiff, Int.reduceEq, Int.reduceLT, Int.reduceLE, Int.reduceAdd, Int.reduceSub, Int.cast_ofNat_Int, isi_tuple, isi_list, isi_int, isi_bool, isi_str, isi_none, reduceCtorEq, Bool.true_eq_false, Nat.min_self]
  refine F__law_changed_ap (by omega) fun ps hps hpl => ?_
  simp only [↓e_sSeq, ↓e_sNext, ↓e_sBreak, ↓e_sCont, ↓e_sDrop, ↓e_sRet, ↓e_sRetV, ↓e_sRetN, ↓e_sIfS, ↓e_sAsg, ↓e_sFor, ↓e_sVar, ↓e_sRV, ↓e_sRE, ↓e_sC, ↓e_aNil, ↓e_aCons, ↓e_ar, ↓e_dNil, ↓e_dCons, ↓e_fz, ↓e_sLst, ↓e_sTup, ↓e_s1, ↓e_s2, ↓e_s3, ↓e_s4, ↓e_rs, ↓e_sT, ↓e_sAnd, ↓e_sOr, ↓e_sNot, ↓e_vB, ↓e_sAndV, ↓e_sOrV, ↓e_sNotV, ↓e_sIf, ↓e_sgName, ↓e_cellOf, ↓e_sgNil, ↓e_sgCons, ↓e_sgTup, ↓e_sIt, ↓e_sRng1, ↓e_sRng2, ↓e_sEnum, ↓e_sZip, ↓e_sRev, ↓e_sRevR, ↓e_sRg1, ↓e_sRg2, ↓sI, ↓e_sLstR, ↓e_sCall, ↓e_sMeth, ↓e_sSetIx, ↓e_sAugIx, ↓e_sAug, ↓e_sSl, ↓e_pNo, ↓e_pSome, ↓e_sLc, ↓e_sYes, ↓e_sStep, ↓e_sIxG, ↓e_oAdd, ↓e_oI, ↓e_oI0, ↓e_oSub, ↓e_oMul, ↓e_oFdiv, ↓e_oMod, ↓e_oPow, ↓e_oShl, ↓e_oShr, ↓e_oNeg, ↓e_oEq, ↓e_oNe, ↓e_oLtI, ↓e_oLeI, ↓e_oGtI, ↓e_oGeI, ↓e_oIs, ↓e_oIn, ↓e_oIx, ↓e_oSl, ↓e_oLen, ↓e_oAbs, ↓e_oInt, ↓e_oMax2, ↓e_oMin2, ↓e_oList, ↓e_oTuple, ↓e_oIsi, ↓e_oAddI, ↓e_mAppend, ↓e_mExtend, ↓e_mPop, ↓e_mPopAt, ↓e_mInsert, ↓ng, ↓isNone, ↓e_noFd, ↓e_cells0, ↓arCell, ↓e_sTurn, ↓e_wip0, ↓e_wip1, ↓e_sIndex, List.map_cons, List.map_nil, List.length_cons, List.length_nil, List.cons_append, List.nil_append, List.replicate, Nat.reduceAdd, Nat.reduceSub, Nat.zero_add, List.getElem?_cons_zero, List.getElem?_cons_succ, List.set_cons_zero, List.set_cons_succ, if_true, if_false, ↓reduceIte, Bool.false_eq_true, true_and, and_true, not_true_eq_false, not_false_eq_true, decide_eq_true_eq, Bool.not_true, Bool.not_false, Bool.not_not, Bool.not_eq_true', decide_eq_false_iff_not, List.length_map, atI0, atI1, atI2, Nat.reduceLeDiff, Int.reduceEq, Int.reduceLT, Int.reduceLE, Int.reduceAdd, Int.reduceSub, Int.cast_ofNat_Int, isi_tuple, isi_list, isi_int, isi_bool, isi_str, isi_none, reduceCtorEq, Bool.true_eq_false, Nat.min_self]
  refine ⟨by omega, by omega, by omega, ?_, by omega, ?_⟩
  · rw [List.length_append, List.length_map]; omega
  refine hK _ ?_; clear hK; clear K
  have pl : ∀ l : List D, l.length ≤ 2000 → Pap (.list l) := fun l h => pap_list l (by omega)
  have hps2 := hps.append (.cons (pl turned (by omega)) (.cons (pl (ring.map .int ++ ring.map .int) (by rw [List.length_append]; omega)) (.cons (pl (ring.map .int ++ turned) (by rw [List.length_append]; omega)) (.one (pl (turned ++ ring.map .int ++ ring.map .int) (by rw [List.length_append, List.length_append]; omega))))))
  have hpl2 : (ps ++ [PyData.list turned, .list (ring.map .int ++ ring.map .int), .list (ring.map .int ++ turned), .list (turned ++ ring.map .int ++ ring.map .int)]).length ≤ 1004 := by rw [List.length_append]; simp only [List.length_cons, List.length_nil]; omega
  generalize ps ++ [PyData.list turned, .list (ring.map .int ++ ring.map .int), .list (ring.map .int ++ turned), .list (turned ++ ring.map .int ++ ring.map .int)] = ps2 at hps2 hpl2
  refine seq_step fun K hK => ?_; simp only [↓e_sNext, ↓e_sBreak, ↓e_sCont, ↓e_sDrop, ↓e_sRet, ↓e_sRetV, ↓e_sRetN, ↓e_sIfS, ↓e_sAsg, ↓e_sFor, ↓e_sVar, ↓e_sRV, ↓e_sRE, ↓e_sC, ↓e_aNil, ↓e_aCons, ↓e_ar, ↓e_dNil, ↓e_dCons, ↓e_fz, ↓e_sLst, ↓e_sTup, ↓e_s1, ↓e_s2, ↓e_s3, ↓e_s4, ↓e_rs, ↓e_sT, ↓e_sAnd, ↓e_sOr, ↓e_sNot, ↓e_vB, ↓e_sAndV, ↓e_sOrV, ↓e_sNotV, ↓e_sIf, ↓e_sgName, ↓e_cellOf, ↓e_sgNil, ↓e_sgCons, ↓e_sgTup, ↓e_sIt, ↓e_sRng1, ↓e_sRng2, ↓e_sEnum, ↓e_sZip, ↓e_sRev, ↓e_sRevR, ↓e_sRg1, ↓e_sRg2, ↓sI, ↓e_sLstR, ↓e_sCall, ↓e_sMeth, ↓e_sSetIx, ↓e_sAugIx, ↓e_sAug, ↓e_sSl, ↓e_pNo, ↓e_pSome, ↓e_sLc, ↓e_sYes, ↓e_sStep, ↓e_sIxG, ↓e_oAdd, ↓e_oI, ↓e_oI0, ↓e_oSub, ↓e_oMul, ↓e_oFdiv, ↓e_oMod, ↓e_oPow, ↓e_oShl, ↓e_oShr, ↓e_oNeg, ↓e_oEq, ↓e_oNe, ↓e_oLtI, ↓e_oLeI, ↓e_oGtI, ↓e_oGeI, ↓e_oIs, ↓e_oIn, ↓e_oIx, ↓e_oSl, ↓e_oLen, ↓e_oAbs, ↓e_oInt, ↓e_oMax2, ↓e_oMin2, ↓e_oList, ↓e_oTuple, ↓e_oIsi, ↓e_oAddI, ↓e_mAppend, ↓e_mExtend, ↓e_mPop, ↓e_mPopAt, ↓e_mInsert, ↓ng, ↓isNone, ↓e_noFd, ↓e_cells0, ↓arCell, ↓e_sTurn, ↓e_wip0, ↓e_wip1, ↓e_sIndex, List.map_cons, List.map_nil, List.length_cons, List.length_nil, List.cons_append, List.nil_append, List.replicate, Nat.reduceAdd, Nat.reduceSub, Nat.zero_add, List.getElem?_cons_zero, List.getElem?_cons_succ, List.set_cons_zero, List.set_cons_succ, if_true, if_false, ↓reduceIte, Bool.false_eq_true, true_and, and_true, not_true_eq_false, not_false_eq_true, decide_eq_true_eq, Bool.not_true, Bool.not_false, Bool.not_not, Bool.not_eq_true', decide_eq_false_iff_not, List.length_map, atI0, atI1, atI2, Nat.reduceLeDiff, Int.reduceEq, Int.reduceLT, Int.reduceLE, Int.reduceAdd, Int.reduceSub, Int.cast_ofNat_Int, isi_tuple, isi_list, isi_int, isi_bool, isi_str, isi_none, reduceCtorEq, Bool.true_eq_false, Nat.min_self, e_oSortedR, e_sLstR]
  refine ⟨ring, rfl, by omega, by omega, by rw [rngD_length]; omega, ?_⟩
  refine wComp_rngM (fun j => .int (rk ring ((ring.length : Int) - 1 - (j : Int)))) (fun j hj K hK => ?_) ?_
  · simp only [↓e_sSeq, ↓e_sNext, ↓e_sBreak, ↓e_sCont, ↓e_sDrop, ↓e_sRet, ↓e_sRetV, ↓e_sRetN, ↓e_sIfS, ↓e_sAsg, ↓e_sFor, ↓e_sVar, ↓e_sRV, ↓e_sRE, ↓e_sC, ↓e_aNil, ↓e_aCons, ↓e_ar, ↓e_dNil, ↓e_dCons, ↓e_fz, ↓e_sLst, ↓e_sTup, ↓e_s1, ↓e_s2, ↓e_s3, ↓e_s4, ↓e_rs, ↓e_sT, ↓e_sAnd, ↓e_sOr, ↓e_sNot, ↓e_vB, ↓e_sAndV, ↓e_sOrV, ↓e_sNotV, ↓e_sIf, ↓e_sgName, ↓e_cellOf, ↓e_sgNil, ↓e_sgCons, ↓e_sgTup, ↓e_sIt, ↓e_sRng1, ↓e_sRng2, ↓e_sEnum, ↓e_sZip, ↓e_sRev, ↓e_sRevR, ↓e_sRg1, ↓e_sRg2, ↓sI, ↓e_sLstR, ↓e_sCall, ↓e_sMeth, ↓e_sSetIx, ↓e_sAugIx, ↓e_sAug, ↓e_sSl, ↓e_pNo, ↓e_pSome, ↓e_sLc, ↓e_sYes, ↓e_sStep, ↓e_sIxG, ↓e_oAdd, ↓e_oI, ↓e_oI0, ↓e_oSub, ↓e_oMul, ↓e_oFdiv, ↓e_oMod, ↓e_oPow, ↓e_oShl, ↓e_oShr, ↓e_oNeg, ↓e_oEq, ↓e_oNe, ↓e_oLtI, ↓e_oLeI, ↓e_oGtI, ↓e_oGeI, ↓e_oIs, ↓e_oIn, ↓e_oIx, ↓e_oSl, ↓e_oLen, ↓e_oAbs, ↓e_oInt, ↓e_oMax2, ↓e_oMin2, ↓e_oList, ↓e_oTuple, ↓e_oIsi, ↓e_oAddI, ↓e_mAppend, ↓e_mExtend, ↓e_mPop, ↓e_mPopAt, ↓e_mInsert, ↓ng, ↓isNone, ↓e_noFd, ↓e_cells0, ↓arCell, ↓e_sTurn, ↓e_wip0, ↓e_wip1, ↓e_sIndex, List.map_cons, List.map_nil, List.length_cons, List.length_nil, List.cons_append, List.nil_append, List.replicate, Nat.reduceAdd, Nat.reduceSub, Nat.zero_add, List.getElem?_cons_zero, List.getElem?_cons_succ, List.set_cons_zero, List.set_cons_succ, if_true, if_false, ↓reduceIte, Bool.false_eq_true, true_and, and_true, not_true_eq_false, not_false_eq_true, decide_eq_true_eq, Bool.not_true, Bool.not_false, Bool.not_not, Bool.not_eq_true', decide_eq_false_iff_not, List.length_map, atI0, atI1, atI2, Nat.reduceLeDiff, Int.reduceEq, Int.reduceLT, Int.reduceLE, Int.reduceAdd, Int.reduceSub, Int.cast_ofNat_Int, isi_tuple, isi_list, isi_int, isi_bool, isi_str, isi_none, reduceCtorEq, Bool.true_eq_false, Nat.min_self, Int.zero_add, rk_at (ns := ring) (i := (ring.length : Int) - 1 - (j : Int)) (by omega) (by omega)]
    exact hK _ _ rfl
  simp only [↓e_sSeq, ↓e_sNext, ↓e_sBreak, ↓e_sCont, ↓e_sDrop, ↓e_sRet, ↓e_sRetV, ↓e_sRetN, ↓e_sIfS, ↓e_sAsg, ↓e_sFor, ↓e_sVar, ↓e_sRV, ↓e_sRE, ↓e_sC, ↓e_aNil, ↓e_aCons, ↓e_ar, ↓e_dNil, ↓e_dCons, ↓e_fz, ↓e_sLst, ↓e_sTup, ↓e_s1, ↓e_s2, ↓e_s3, ↓e_s4, ↓e_rs, ↓e_sT, ↓e_sAnd, ↓e_sOr, ↓e_sNot, ↓e_vB, ↓e_sAndV, ↓e_sOrV, ↓e_sNotV, ↓e_sIf, ↓e_sgName, ↓e_cellOf, ↓e_sgNil, ↓e_sgCons, ↓e_sgTup, ↓e_sIt, ↓e_sRng1, ↓e_sRng2, ↓e_sEnum, ↓e_sZip, ↓e_sRev, ↓e_sRevR, ↓e_sRg1, ↓e_sRg2, ↓sI, ↓e_sLstR, ↓e_sCall, ↓e_sMeth, ↓e_sSetIx, ↓e_sAugIx, ↓e_sAug, ↓e_sSl, ↓e_pNo, ↓e_pSome, ↓e_sLc, ↓e_sYes, ↓e_sStep, ↓e_sIxG, ↓e_oAdd, ↓e_oI, ↓e_oI0, ↓e_oSub, ↓e_oMul, ↓e_oFdiv, ↓e_oMod, ↓e_oPow, ↓e_oShl, ↓e_oShr, ↓e_oNeg, ↓e_oEq, ↓e_oNe, ↓e_oLtI, ↓e_oLeI, ↓e_oGtI, ↓e_oGeI, ↓e_oIs, ↓e_oIn, ↓e_oIx, ↓e_oSl, ↓e_oLen, ↓e_oAbs, ↓e_oInt, ↓e_oMax2, ↓e_oMin2, ↓e_oList, ↓e_oTuple, ↓e_oIsi, ↓e_oAddI, ↓e_mAppend, ↓e_mExtend, ↓e_mPop, ↓e_mPopAt, ↓e_mInsert, ↓ng, ↓isNone, ↓e_noFd, ↓e_cells0, ↓arCell, ↓e_sTurn, ↓e_wip0, ↓e_wip1, ↓e_sIndex, List.map_cons, List.map_nil, List.length_cons, List.length_nil, List.cons_append, List.nil_append, List.replicate, Nat.reduceAdd, Nat.reduceSub, Nat.zero_add, List.getElem?_cons_zero, List.getElem?_cons_succ, List.set_cons_zero, List.set_cons_succ, if_true, if_false, ↓reduceIte, Bool.false_eq_true, true_and, and_true, not_true_eq_false, not_false_eq_true, decide_eq_true_eq, Bool.not_true, Bool.not_false, Bool.not_not, Bool.not_eq_true', decide_eq_false_iff_not, List.length_map, atI0, atI1, atI2, Nat.reduceLeDiff, Int.reduceEq, Int.reduceLT, Int.reduceLE, Int.reduceAdd, Int.reduceSub, Int.cast_ofNat_Int, isi_tuple, isi_list, isi_int, isi_bool, isi_str, isi_none, reduceCtorEq, Bool.true_eq_false, Nat.min_self, e_sLstR]
  refine ⟨⟨by omega, by omega, by omega, by omega, by omega⟩, by omega, ?_⟩
  refine hK _ ?_; clear hK; clear K
  have hps3 := hps2.append (.cons (pl ((srt ring).reverse.map PyData.int) (by rw [List.length_map, List.length_reverse, (srt_perm ring).length_eq]; omega)) (.cons (pl ((List.range (ring.length : Int).toNat).map fun j : Nat => PyData.int (rk ring ((ring.length : Int) - 1 - (j : Int)))) (by rw [List.length_map, List.length_range]; omega)) (.one (pl (rngD 0 ((n : Int) - 0).toNat) (by rw [rngD_length]; omega)))))
  have hpl3 : (ps2 ++ [PyData.list ((srt ring).reverse.map PyData.int), .list ((List.range (ring.length : Int).toNat).map fun j : Nat => PyData.int (rk ring ((ring.length : Int) - 1 - (j : Int)))), .list (rngD 0 ((n : Int) - 0).toNat)]).length ≤ 1007 := by rw [List.length_append]; simp only [List.length_cons, List.length_nil]; omega
  generalize ps2 ++ [PyData.list ((srt ring).reverse.map PyData.int), .list ((List.range (ring.length : Int).toNat).map fun j : Nat => PyData.int (rk ring ((ring.length : Int) - 1 - (j : Int)))), .list (rngD 0 ((n : Int) - 0).toNat)] = ps3 at hps3 hpl3
  have cut3 : ∀ xs : List D, Dv.cutD xs none (some 3) = xs.take 3 := fun xs => cutN_to xs 3
  have cut2 : ∀ xs : List D, Dv.cutD xs none (some 2) = xs.take 2 := fun xs => cutN_to xs 2
  refine seq_step fun K hK => ?_; simp only [↓e_sNext, ↓e_sBreak, ↓e_sCont, ↓e_sDrop, ↓e_sRet, ↓e_sRetV, ↓e_sRetN, ↓e_sIfS, ↓e_sAsg, ↓e_sFor, ↓e_sVar, ↓e_sRV, ↓e_sRE, ↓e_sC, ↓e_aNil, ↓e_aCons, ↓e_ar, ↓e_dNil, ↓e_dCons, ↓e_fz, ↓e_sLst, ↓e_sTup, ↓e_s1, ↓e_s2, ↓e_s3, ↓e_s4, ↓e_rs, ↓e_sT, ↓e_sAnd, ↓e_sOr, ↓e_sNot, ↓e_vB, ↓e_sAndV, ↓e_sOrV, ↓e_sNotV, ↓e_sIf, ↓e_sgName, ↓e_cellOf, ↓e_sgNil, ↓e_sgCons, ↓e_sgTup, ↓e_sIt, ↓e_sRng1, ↓e_sRng2, ↓e_sEnum, ↓e_sZip, ↓e_sRev, ↓e_sRevR, ↓e_sRg1, ↓e_sRg2, ↓sI, ↓e_sLstR, ↓e_sCall, ↓e_sMeth, ↓e_sSetIx, ↓e_sAugIx, ↓e_sAug, ↓e_sSl, ↓e_pNo, ↓e_pSome, ↓e_sLc, ↓e_sYes, ↓e_sStep, ↓e_sIxG, ↓e_oAdd, ↓e_oI, ↓e_oI0, ↓e_oSub, ↓e_oMul, ↓e_oFdiv, ↓e_oMod, ↓e_oPow, ↓e_oShl, ↓e_oShr, ↓e_oNeg, ↓e_oEq, ↓e_oNe, ↓e_oLtI, ↓e_oLeI, ↓e_oGtI, ↓e_oGeI, ↓e_oIs, ↓e_oIn, ↓e_oIx, ↓e_oSl, ↓e_oLen, ↓e_oAbs, ↓e_oInt, ↓e_oMax2, ↓e_oMin2, ↓e_oList, ↓e_oTuple, ↓e_oIsi, ↓e_oAddI, ↓e_mAppend, ↓e_mExtend, ↓e_mPop, ↓e_mPopAt, ↓e_mInsert, ↓ng, ↓isNone, ↓e_noFd, ↓e_cells0, ↓arCell, ↓e_sTurn, ↓e_wip0, ↓e_wip1, ↓e_sIndex, List.map_cons, List.map_nil, List.length_cons, List.length_nil, List.cons_append, List.nil_append, List.replicate, Nat.reduceAdd, Nat.reduceSub, Nat.zero_add, List.getElem?_cons_zero, List.getElem?_cons_succ, List.set_cons_zero, List.set_cons_succ, if_true, if_false, ↓reduceIte, Bool.false_eq_true, true_and, and_true, not_true_eq_false, not_false_eq_true, decide_eq_true_eq, Bool.not_true, Bool.not_false, Bool.not_not, Bool.not_eq_true', decide_eq_false_iff_not, List.length_map, atI0, atI1, atI2, Nat.reduceLeDiff, Int.reduceEq, Int.reduceLT, Int.reduceLE, Int.reduceAdd, Int.reduceSub, Int.cast_ofNat_Int, isi_tuple, isi_list, isi_int, isi_bool, isi_str, isi_none, reduceCtorEq, Bool.true_eq_false, Nat.min_self, cut3, cut2]
  rw [← List.map_take]
  refine ⟨by rw [List.length_map, List.length_take]; omega, wComp_mapA dN (fun p => .list [.int p.1, .int p.2.1]) (fun p hp K hK => ?_) ?_⟩
  · simp only [↓e_sSeq, ↓e_sNext, ↓e_sBreak, ↓e_sCont, ↓e_sDrop, ↓e_sRet, ↓e_sRetV, ↓e_sRetN, ↓e_sIfS, ↓e_sAsg, ↓e_sFor, ↓e_sVar, ↓e_sRV, ↓e_sRE, ↓e_sC, ↓e_aNil, ↓e_aCons, ↓e_ar, ↓e_dNil, ↓e_dCons, ↓e_fz, ↓e_sLst, ↓e_sTup, ↓e_s1, ↓e_s2, ↓e_s3, ↓e_s4, ↓e_rs, ↓e_sT, ↓e_sAnd, ↓e_sOr, ↓e_sNot, ↓e_vB, ↓e_sAndV, ↓e_sOrV, ↓e_sNotV, ↓e_sIf, ↓e_sgName, ↓e_cellOf, ↓e_sgNil, ↓e_sgCons, ↓e_sgTup, ↓e_sIt, ↓e_sRng1, ↓e_sRng2, ↓e_sEnum, ↓e_sZip, ↓e_sRev, ↓e_sRevR, ↓e_sRg1, ↓e_sRg2, ↓sI, ↓e_sLstR, ↓e_sCall, ↓e_sMeth, ↓e_sSetIx, ↓e_sAugIx, ↓e_sAug, ↓e_sSl, ↓e_pNo, ↓e_pSome, ↓e_sLc, ↓e_sYes, ↓e_sStep, ↓e_sIxG, ↓e_oAdd, ↓e_oI, ↓e_oI0, ↓e_oSub, ↓e_oMul, ↓e_oFdiv, ↓e_oMod, ↓e_oPow, ↓e_oShl, ↓e_oShr, ↓e_oNeg, ↓e_oEq, ↓e_oNe, ↓e_oLtI, ↓e_oLeI, ↓e_oGtI, ↓e_oGeI, ↓e_oIs, ↓e_oIn, ↓e_oIx, ↓e_oSl, ↓e_oLen, ↓e_oAbs, ↓e_oInt, ↓e_oMax2, ↓e_oMin2, ↓e_oList, ↓e_oTuple, ↓e_oIsi, ↓e_oAddI, ↓e_mAppend, ↓e_mExtend, ↓e_mPop, ↓e_mPopAt, ↓e_mInsert, ↓ng, ↓isNone, ↓e_noFd, ↓e_cells0, ↓arCell, ↓e_sTurn, ↓e_wip0, ↓e_wip1, ↓e_sIndex, List.map_cons, List.map_nil, List.length_cons, List.length_nil, List.cons_append, List.nil_append, List.replicate, Nat.reduceAdd, Nat.reduceSub, Nat.zero_add, List.getElem?_cons_zero, List.getElem?_cons_succ, List.set_cons_zero, List.set_cons_succ, if_true, if_false, ↓reduceIte, Bool.false_eq_true, true_and, and_true, not_true_eq_false, not_false_eq_true, decide_eq_true_eq, Bool.not_true, Bool.not_false, Bool.not_not, Bool.not_eq_true', decide_eq_false_iff_not, List.length_map, atI0, atI1, atI2, Nat.reduceLeDiff, Int.reduceEq, Int.reduceLT, Int.reduceLE, Int.reduceAdd, Int.reduceSub, Int.cast_ofNat_Int, isi_tuple, isi_list, isi_int, isi_bool, isi_str, isi_none, reduceCtorEq, Bool.true_eq_false, Nat.min_self, dN]
    exact hK _ _ rfl
  simp only [↓e_sSeq, ↓e_sNext, ↓e_sBreak, ↓e_sCont, ↓e_sDrop, ↓e_sRet, ↓e_sRetV, ↓e_sRetN, ↓e_sIfS, ↓e_sAsg, ↓e_sFor, ↓e_sVar, ↓e_sRV, ↓e_sRE, ↓e_sC, ↓e_aNil, ↓e_aCons, ↓e_ar, ↓e_dNil, ↓e_dCons, ↓e_fz, ↓e_sLst, ↓e_sTup, ↓e_s1, ↓e_s2, ↓e_s3, ↓e_s4, ↓e_rs, ↓e_sT, ↓e_sAnd, ↓e_sOr, ↓e_sNot, ↓e_vB, ↓e_sAndV, ↓e_sOrV, ↓e_sNotV, ↓e_sIf, ↓e_sgName, ↓e_cellOf, ↓e_sgNil, ↓e_sgCons, ↓e_sgTup, ↓e_sIt, ↓e_sRng1, ↓e_sRng2, ↓e_sEnum, ↓e_sZip, ↓e_sRev, ↓e_sRevR, ↓e_sRg1, ↓e_sRg2, ↓sI, ↓e_sLstR, ↓e_sCall, ↓e_sMeth, ↓e_sSetIx, ↓e_sAugIx, ↓e_sAug, ↓e_sSl, ↓e_pNo, ↓e_pSome, ↓e_sLc, ↓e_sYes, ↓e_sStep, ↓e_sIxG, ↓e_oAdd, ↓e_oI, ↓e_oI0, ↓e_oSub, ↓e_oMul, ↓e_oFdiv, ↓e_oMod, ↓e_oPow, ↓e_oShl, ↓e_oShr, ↓e_oNeg, ↓e_oEq, ↓e_oNe, ↓e_oLtI, ↓e_oLeI, ↓e_oGtI, ↓e_oGeI, ↓e_oIs, ↓e_oIn, ↓e_oIx, ↓e_oSl, ↓e_oLen, ↓e_oAbs, ↓e_oInt, ↓e_oMax2, ↓e_oMin2, ↓e_oList, ↓e_oTuple, ↓e_oIsi, ↓e_oAddI, ↓e_mAppend, ↓e_mExtend, ↓e_mPop, ↓e_mPopAt, ↓e_mInsert, ↓ng, ↓isNone, ↓e_noFd, ↓e_cells0, ↓arCell, ↓e_sTurn, ↓e_wip0, ↓e_wip1, ↓e_sIndex, List.map_cons, List.map_nil, List.length_cons, List.length_nil, List.cons_append, List.nil_append, List.replicate, Nat.reduceAdd, Nat.reduceSub, Nat.zero_add, List.getElem?_cons_zero, List.getElem?_cons_succ, List.set_cons_zero, List.set_cons_succ, if_true, if_false, ↓reduceIte, Bool.false_eq_true, true_and, and_true, not_true_eq_false, not_false_eq_true, decide_eq_true_eq, Bool.not_true, Bool.not_false, Bool.not_not, Bool.not_eq_true', decide_eq_false_iff_not, List.length_map, atI0, atI1, atI2, Nat.reduceLeDiff, Int.reduceEq, Int.reduceLT, Int.reduceLE, Int.reduceAdd, Int.reduceSub, Int.cast_ofNat_Int, isi_tuple, isi_list, isi_int, isi_bool, isi_str, isi_none, reduceCtorEq, Bool.true_eq_false, Nat.min_self, cut2]
  rw [← List.map_take]
  refine ⟨by rw [List.length_take]; omega, by rw [List.length_map, List.length_take]; omega, wComp_mapA dN (fun p => .list [.int (p.1 - n), .int (p.2.1 - n)]) (fun p hp K hK => ?_) ?_⟩
  · simp only [↓e_sSeq, ↓e_sNext, ↓e_sBreak, ↓e_sCont, ↓e_sDrop, ↓e_sRet, ↓e_sRetV, ↓e_sRetN, ↓e_sIfS, ↓e_sAsg, ↓e_sFor, ↓e_sVar, ↓e_sRV, ↓e_sRE, ↓e_sC, ↓e_aNil, ↓e_aCons, ↓e_ar, ↓e_dNil, ↓e_dCons, ↓e_fz, ↓e_sLst, ↓e_sTup, ↓e_s1, ↓e_s2, ↓e_s3, ↓e_s4, ↓e_rs, ↓e_sT, ↓e_sAnd, ↓e_sOr, ↓e_sNot, ↓e_vB, ↓e_sAndV, ↓e_sOrV, ↓e_sNotV, ↓e_sIf, ↓e_sgName, ↓e_cellOf, ↓e_sgNil, ↓e_sgCons, ↓e_sgTup, ↓e_sIt, ↓e_sRng1, ↓e_sRng2, ↓e_sEnum, ↓e_sZip, ↓e_sRev, ↓e_sRevR, ↓e_sRg1, ↓e_sRg2, ↓sI, ↓e_sLstR, ↓e_sCall, ↓e_sMeth, ↓e_sSetIx, ↓e_sAugIx, ↓e_sAug, ↓e_sSl, ↓e_pNo, ↓e_pSome, ↓e_sLc, ↓e_sYes, ↓e_sStep, ↓e_sIxG, ↓e_oAdd, ↓e_oI, ↓e_oI0, ↓e_oSub, ↓e_oMul, ↓e_oFdiv, ↓e_oMod, ↓e_oPow, ↓e_oShl, ↓e_oShr, ↓e_oNeg, ↓e_oEq, ↓e_oNe, ↓e_oLtI, ↓e_oLeI, ↓e_oGtI, ↓e_oGeI, ↓e_oIs, ↓e_oIn, ↓e_oIx, ↓e_oSl, ↓e_oLen, ↓e_oAbs, ↓e_oInt, ↓e_oMax2, ↓e_oMin2, ↓e_oList, ↓e_oTuple, ↓e_oIsi, ↓e_oAddI, ↓e_mAppend, ↓e_mExtend, ↓e_mPop, ↓e_mPopAt, ↓e_mInsert, ↓ng, ↓isNone, ↓e_noFd, ↓e_cells0, ↓arCell, ↓e_sTurn, ↓e_wip0, ↓e_wip1, ↓e_sIndex, List.map_cons, List.map_nil, List.length_cons, List.length_nil, List.cons_append, List.nil_append, List.replicate, Nat.reduceAdd, Nat.reduceSub, Nat.zero_add, List.getElem?_cons_zero, List.getElem?_cons_succ, List.set_cons_zero, List.set_cons_succ, if_true, if_false, ↓reduceIte, Bool.false_eq_true, true_and, and_true, not_true_eq_false, not_false_eq_true, decide_eq_true_eq, Bool.not_true, Bool.not_false, Bool.not_not, Bool.not_eq_true', decide_eq_false_iff_not, List.length_map, atI0, atI1, atI2, Nat.reduceLeDiff, Int.reduceEq, Int.reduceLT, Int.reduceLE, Int.reduceAdd, Int.reduceSub, Int.cast_ofNat_Int, isi_tuple, isi_list, isi_int, isi_bool, isi_str, isi_none, reduceCtorEq, Bool.true_eq_false, Nat.min_self, dN]
    exact hK _ _ rfl
  simp only [↓e_sSeq, ↓e_sNext, ↓e_sBreak, ↓e_sCont, ↓e_sDrop, ↓e_sRet, ↓e_sRetV, ↓e_sRetN, ↓e_sIfS, ↓e_sAsg, ↓e_sFor, ↓e_sVar, ↓e_sRV, ↓e_sRE, ↓e_sC, ↓e_aNil, ↓e_aCons, ↓e_ar, ↓e_dNil, ↓e_dCons, ↓e_fz, ↓e_sLst, ↓e_sTup, ↓e_s1, ↓e_s2, ↓e_s3, ↓e_s4, ↓e_rs, ↓e_sT, ↓e_sAnd, ↓e_sOr, ↓e_sNot, ↓e_vB, ↓e_sAndV, ↓e_sOrV, ↓e_sNotV, ↓e_sIf, ↓e_sgName, ↓e_cellOf, ↓e_sgNil, ↓e_sgCons, ↓e_sgTup, ↓e_sIt, ↓e_sRng1, ↓e_sRng2, ↓e_sEnum, ↓e_sZip, ↓e_sRev, ↓e_sRevR, ↓e_sRg1, ↓e_sRg2, ↓sI, ↓e_sLstR, ↓e_sCall, ↓e_sMeth, ↓e_sSetIx, ↓e_sAugIx, ↓e_sAug, ↓e_sSl, ↓e_pNo, ↓e_pSome, ↓e_sLc, ↓e_sYes, ↓e_sStep, ↓e_sIxG, ↓e_oAdd, ↓e_oI, ↓e_oI0, ↓e_oSub, ↓e_oMul, ↓e_oFdiv, ↓e_oMod, ↓e_oPow, ↓e_oShl, ↓e_oShr, ↓e_oNeg, ↓e_oEq, ↓e_oNe, ↓e_oLtI, ↓e_oLeI, ↓e_oGtI, ↓e_oGeI, ↓e_oIs, ↓e_oIn, ↓e_oIx, ↓e_oSl, ↓e_oLen, ↓e_oAbs, ↓e_oInt, ↓e_oMax2, ↓e_oMin2, ↓e_oList, ↓e_oTuple, ↓e_oIsi, ↓e_oAddI, ↓e_mAppend, ↓e_mExtend, ↓e_mPop, ↓e_mPopAt, ↓e_mInsert, ↓ng, ↓isNone, ↓e_noFd, ↓e_cells0, ↓arCell, ↓e_sTurn, ↓e_wip0, ↓e_wip1, ↓e_sIndex, List.map_cons, List.map_nil, List.length_cons, List.length_nil, List.cons_append, List.nil_append, List.replicate, Nat.reduceAdd, Nat.reduceSub, Nat.zero_add, List.getElem?_cons_zero, List.getElem?_cons_succ, List.set_cons_zero, List.set_cons_succ, if_true, if_false, ↓reduceIte, Bool.false_eq_true, true_and, and_true, not_true_eq_false, not_false_eq_true, decide_eq_true_eq, Bool.not_true, Bool.not_false, Bool.not_not, Bool.not_eq_true', decide_eq_false_iff_not, List.length_map, atI0, atI1, atI2, Nat.reduceLeDiff, Int.reduceEq, Int.reduceLT, Int.reduceLE, Int.reduceAdd, Int.reduceSub, Int.cast_ofNat_Int, isi_tuple, isi_list, isi_int, isi_bool, isi_str, isi_none, reduceCtorEq, Bool.true_eq_false, Nat.min_self]
  refine ⟨by rw [List.length_append, List.length_map, List.length_take, List.length_take]; omega, ?_⟩
  refine hK _ ?_; clear hK; clear K
  have hmp : ∀ (m : Nat) (f : Int × Int × Int → D), (∀ p, Pap (f p)) → Paps ((t.take m).map f) := fun m f hf d hd => by
    obtain ⟨p, _, rfl⟩ := List.mem_map.mp hd
    exact hf p
  have hps4 := (hps3.append (hmp 3 (fun p => PyData.list [PyData.int p.fst, PyData.int p.snd.fst]) fun p => pl _ (by simp))).append (hmp 2 (fun p => PyData.list [PyData.int (p.fst - n), PyData.int (p.snd.fst - n)]) fun p => pl _ (by simp))
  have hpl4 : (ps3 ++ List.map (fun p => PyData.list [PyData.int p.fst, PyData.int p.snd.fst]) (List.take 3 t) ++ List.map (fun p => PyData.list [PyData.int (p.fst - (n : Int)), PyData.int (p.snd.fst - (n : Int))]) (List.take 2 t)).length ≤ 1012 := by
    rw [List.length_append, List.length_append, List.length_map, List.length_map, List.length_take, List.length_take]; omega
  generalize ps3 ++ List.map (fun p => PyData.list [PyData.int p.fst, PyData.int p.snd.fst]) (List.take 3 t) ++ List.map (fun p => PyData.list [PyData.int (p.fst - (n : Int)), PyData.int (p.snd.fst - (n : Int))]) (List.take 2 t) = ps4 at hps4 hpl4
  refine seq_step fun K hK => ?_; simp only [↓e_sNext, ↓e_sBreak, ↓e_sCont, ↓e_sDrop, ↓e_sRet, ↓e_sRetV, ↓e_sRetN, ↓e_sIfS, ↓e_sAsg, ↓e_sFor, ↓e_sVar, ↓e_sRV, ↓e_sRE, ↓e_sC, ↓e_aNil, ↓e_aCons, ↓e_ar, ↓e_dNil, ↓e_dCons, ↓e_fz, ↓e_sLst, ↓e_sTup, ↓e_s1, ↓e_s2, ↓e_s3, ↓e_s4, ↓e_rs, ↓e_sT, ↓e_sAnd, ↓e_sOr, ↓e_sNot, ↓e_vB, ↓e_sAndV, ↓e_sOrV, ↓e_sNotV, ↓e_sIf, ↓e_sgName, ↓e_cellOf, ↓e_sgNil, ↓e_sgCons, ↓e_sgTup, ↓e_sIt, ↓e_sRng1, ↓e_sRng2, ↓e_sEnum, ↓e_sZip, ↓e_sRev, ↓e_sRevR, ↓e_sRg1, ↓e_sRg2, ↓sI, ↓e_sLstR, ↓e_sCall, ↓e_sMeth, ↓e_sSetIx, ↓e_sAugIx, ↓e_sAug, ↓e_sSl, ↓e_pNo, ↓e_pSome, ↓e_sLc, ↓e_sYes, ↓e_sStep, ↓e_sIxG, ↓e_oAdd, ↓e_oI, ↓e_oI0, ↓e_oSub, ↓e_oMul, ↓e_oFdiv, ↓e_oMod, ↓e_oPow, ↓e_oShl, ↓e_oShr, ↓e_oNeg, ↓e_oEq, ↓e_oNe, ↓e_oLtI, ↓e_oLeI, ↓e_oGtI, ↓e_oGeI, ↓e_oIs, ↓e_oIn, ↓e_oIx, ↓e_oSl, ↓e_oLen, ↓e_oAbs, ↓e_oInt, ↓e_oMax2, ↓e_oMin2, ↓e_oList, ↓e_oTuple, ↓e_oIsi, ↓e_oAddI, ↓e_mAppend, ↓e_mExtend, ↓e_mPop, ↓e_mPopAt, ↓e_mInsert, ↓ng, ↓isNone, ↓e_noFd, ↓e_cells0, ↓arCell, ↓e_sTurn, ↓e_wip0, ↓e_wip1, ↓e_sIndex, List.map_cons, List.map_nil, List.length_cons, List.length_nil, List.cons_append, List.nil_append, List.replicate, Nat.reduceAdd, Nat.reduceSub, Nat.zero_add, List.getElem?_cons_zero, List.getElem?_cons_succ, List.set_cons_zero, List.set_cons_succ, if_true, if_false, ↓reduceIte, Bool.false_eq_true, true_and, and_true, not_true_eq_false, not_false_eq_true, decide_eq_true_eq, Bool.not_true, Bool.not_false, Bool.not_not, Bool.not_eq_true', decide_eq_false_iff_not, List.length_map, atI0, atI1, atI2, Nat.reduceLeDiff, Int.reduceEq, Int.reduceLT, Int.reduceLE, Int.reduceAdd, Int.reduceSub, Int.cast_ofNat_Int, isi_tuple, isi_list, isi_int, isi_bool, isi_str, isi_none, reduceCtorEq, Bool.true_eq_false, Nat.min_self]
  refine ⟨by omega, wComp_mapA PyData.int (fun x => .int (x - n)) (fun x hx K hK => ?_) ?_⟩
  · simp only [↓e_sSeq, ↓e_sNext, ↓e_sBreak, ↓e_sCont, ↓e_sDrop, ↓e_sRet, ↓e_sRetV, ↓e_sRetN, ↓e_sIfS, ↓e_sAsg, ↓e_sFor, ↓e_sVar, ↓e_sRV, ↓e_sRE, ↓e_sC, ↓e_aNil, ↓e_aCons, ↓e_ar, ↓e_dNil, ↓e_dCons, ↓e_fz, ↓e_sLst, ↓e_sTup, ↓e_s1, ↓e_s2, ↓e_s3, ↓e_s4, ↓e_rs, ↓e_sT, ↓e_sAnd, ↓e_sOr, ↓e_sNot, ↓e_vB, ↓e_sAndV, ↓e_sOrV, ↓e_sNotV, ↓e_sIf, ↓e_sgName, ↓e_cellOf, ↓e_sgNil, ↓e_sgCons, ↓e_sgTup, ↓e_sIt, ↓e_sRng1, ↓e_sRng2, ↓e_sEnum, ↓e_sZip, ↓e_sRev, ↓e_sRevR, ↓e_sRg1, ↓e_sRg2, ↓sI, ↓e_sLstR, ↓e_sCall, ↓e_sMeth, ↓e_sSetIx, ↓e_sAugIx, ↓e_sAug, ↓e_sSl, ↓e_pNo, ↓e_pSome, ↓e_sLc, ↓e_sYes, ↓e_sStep, ↓e_sIxG, ↓e_oAdd, ↓e_oI, ↓e_oI0, ↓e_oSub, ↓e_oMul, ↓e_oFdiv, ↓e_oMod, ↓e_oPow, ↓e_oShl, ↓e_oShr, ↓e_oNeg, ↓e_oEq, ↓e_oNe, ↓e_oLtI, ↓e_oLeI, ↓e_oGtI, ↓e_oGeI, ↓e_oIs, ↓e_oIn, ↓e_oIx, ↓e_oSl, ↓e_oLen, ↓e_oAbs, ↓e_oInt, ↓e_oMax2, ↓e_oMin2, ↓e_oList, ↓e_oTuple, ↓e_oIsi, ↓e_oAddI, ↓e_mAppend, ↓e_mExtend, ↓e_mPop, ↓e_mPopAt, ↓e_mInsert, ↓ng, ↓isNone, ↓e_noFd, ↓e_cells0, ↓arCell, ↓e_sTurn, ↓e_wip0, ↓e_wip1, ↓e_sIndex, List.map_cons, List.map_nil, List.length_cons, List.length_nil, List.cons_append, List.nil_append, List.replicate, Nat.reduceAdd, Nat.reduceSub, Nat.zero_add, List.getElem?_cons_zero, List.getElem?_cons_succ, List.set_cons_zero, List.set_cons_succ, if_true, if_false, ↓reduceIte, Bool.false_eq_true, true_and, and_true, not_true_eq_false, not_false_eq_true, decide_eq_true_eq, Bool.not_true, Bool.not_false, Bool.not_not, Bool.not_eq_true', decide_eq_false_iff_not, List.length_map, atI0, atI1, atI2, Nat.reduceLeDiff, Int.reduceEq, Int.reduceLT, Int.reduceLE, Int.reduceAdd, Int.reduceSub, Int.cast_ofNat_Int, isi_tuple, isi_list, isi_int, isi_bool, isi_str, isi_none, reduceCtorEq, Bool.true_eq_false, Nat.min_self]
    exact hK _ _ rfl
  simp only [↓e_sSeq, ↓e_sNext, ↓e_sBreak, ↓e_sCont, ↓e_sDrop, ↓e_sRet, ↓e_sRetV, ↓e_sRetN, ↓e_sIfS, ↓e_sAsg, ↓e_sFor, ↓e_sVar, ↓e_sRV, ↓e_sRE, ↓e_sC, ↓e_aNil, ↓e_aCons, ↓e_ar, ↓e_dNil, ↓e_dCons, ↓e_fz, ↓e_sLst, ↓e_sTup, ↓e_s1, ↓e_s2, ↓e_s3, ↓e_s4, ↓e_rs, ↓e_sT, ↓e_sAnd, ↓e_sOr, ↓e_sNot, ↓e_vB, ↓e_sAndV, ↓e_sOrV, ↓e_sNotV, ↓e_sIf, ↓e_sgName, ↓e_cellOf, ↓e_sgNil, ↓e_sgCons, ↓e_sgTup, ↓e_sIt, ↓e_sRng1, ↓e_sRng2, ↓e_sEnum, ↓e_sZip, ↓e_sRev, ↓e_sRevR, ↓e_sRg1, ↓e_sRg2, ↓sI, ↓e_sLstR, ↓e_sCall, ↓e_sMeth, ↓e_sSetIx, ↓e_sAugIx, ↓e_sAug, ↓e_sSl, ↓e_pNo, ↓e_pSome, ↓e_sLc, ↓e_sYes, ↓e_sStep, ↓e_sIxG, ↓e_oAdd, ↓e_oI, ↓e_oI0, ↓e_oSub, ↓e_oMul, ↓e_oFdiv, ↓e_oMod, ↓e_oPow, ↓e_oShl, ↓e_oShr, ↓e_oNeg, ↓e_oEq, ↓e_oNe, ↓e_oLtI, ↓e_oLeI, ↓e_oGtI, ↓e_oGeI, ↓e_oIs, ↓e_oIn, ↓e_oIx, ↓e_oSl, ↓e_oLen, ↓e_oAbs, ↓e_oInt, ↓e_oMax2, ↓e_oMin2, ↓e_oList, ↓e_oTuple, ↓e_oIsi, ↓e_oAddI, ↓e_mAppend, ↓e_mExtend, ↓e_mPop, ↓e_mPopAt, ↓e_mInsert, ↓ng, ↓isNone, ↓e_noFd, ↓e_cells0, ↓arCell, ↓e_sTurn, ↓e_wip0, ↓e_wip1, ↓e_sIndex, List.map_cons, List.map_nil, List.length_cons, List.length_nil, List.cons_append, List.nil_append, List.replicate, Nat.reduceAdd, Nat.reduceSub, Nat.zero_add, List.getElem?_cons_zero, List.getElem?_cons_succ, List.set_cons_zero, List.set_cons_succ, if_true, if_false, ↓reduceIte, Bool.false_eq_true, true_and, and_true, not_true_eq_false, not_false_eq_true, decide_eq_true_eq, Bool.not_true, Bool.not_false, Bool.not_not, Bool.not_eq_true', decide_eq_false_iff_not, List.length_map, atI0, atI1, atI2, Nat.reduceLeDiff, Int.reduceEq, Int.reduceLT, Int.reduceLE, Int.reduceAdd, Int.reduceSub, Int.cast_ofNat_Int, isi_tuple, isi_list, isi_int, isi_bool, isi_str, isi_none, reduceCtorEq, Bool.true_eq_false, Nat.min_self]
  refine ⟨by omega, ?_⟩
  refine hK _ ?_; clear hK; clear K
  have hps5 := hps4.append (.cons (pl (ring.map fun x => PyData.int (x - n)) (by rw [List.length_map]; omega)) (.one (show Pap (.tuple [PyData.list (ring.map .int), .list (ring.map .int)]) from trivial)))
  generalize ps4 ++ [PyData.list (ring.map fun x => PyData.int (x - n)), .tuple [PyData.list (ring.map .int), .list (ring.map .int)]] = ps5 at hps5
  refine seq_step fun K hK => ?_; simp only [↓e_sNext, ↓e_sBreak, ↓e_sCont, ↓e_sDrop, ↓e_sRet, ↓e_sRetV, ↓e_sRetN, ↓e_sIfS, ↓e_sAsg, ↓e_sFor, ↓e_sVar, ↓e_sRV, ↓e_sRE, ↓e_sC, ↓e_aNil, ↓e_aCons, ↓e_ar, ↓e_dNil, ↓e_dCons, ↓e_fz, ↓e_sLst, ↓e_sTup, ↓e_s1, ↓e_s2, ↓e_s3, ↓e_s4, ↓e_rs, ↓e_sT, ↓e_sAnd, ↓e_sOr, ↓e_sNot, ↓e_vB, ↓e_sAndV, ↓e_sOrV, ↓e_sNotV, ↓e_sIf, ↓e_sgName, ↓e_cellOf, ↓e_sgNil, ↓e_sgCons, ↓e_sgTup, ↓e_sIt, ↓e_sRng1, ↓e_sRng2, ↓e_sEnum, ↓e_sZip, ↓e_sRev, ↓e_sRevR, ↓e_sRg1, ↓e_sRg2, ↓sI, ↓e_sLstR, ↓e_sCall, ↓e_sMeth, ↓e_sSetIx, ↓e_sAugIx, ↓e_sAug, ↓e_sSl, ↓e_pNo, ↓e_pSome, ↓e_sLc, ↓e_sYes, ↓e_sStep, ↓e_sIxG, ↓e_oAdd, ↓e_oI, ↓e_oI0, ↓e_oSub, ↓e_oMul, ↓e_oFdiv, ↓e_oMod, ↓e_oPow, ↓e_oShl, ↓e_oShr, ↓e_oNeg, ↓e_oEq, ↓e_oNe, ↓e_oLtI, ↓e_oLeI, ↓e_oGtI, ↓e_oGeI, ↓e_oIs, ↓e_oIn, ↓e_oIx, ↓e_oSl, ↓e_oLen, ↓e_oAbs, ↓e_oInt, ↓e_oMax2, ↓e_oMin2, ↓e_oList, ↓e_oTuple, ↓e_oIsi, ↓e_oAddI, ↓e_mAppend, ↓e_mExtend, ↓e_mPop, ↓e_mPopAt, ↓e_mInsert, ↓ng, ↓isNone, ↓e_noFd, ↓e_cells0, ↓arCell, ↓e_sTurn, ↓e_wip0, ↓e_wip1, ↓e_sIndex, List.map_cons, List.map_nil, List.length_cons, List.length_nil, List.cons_append, List.nil_append, List.replicate, Nat.reduceAdd, Nat.reduceSub, Nat.zero_add, List.getElem?_cons_zero, List.getElem?_cons_succ, List.set_cons_zero, List.set_cons_succ, if_true, if_false, ↓reduceIte, Bool.false_eq_true, true_and, and_true, not_true_eq_false, not_false_eq_true, decide_eq_true_eq, Bool.not_true, Bool.not_false, Bool.not_not, Bool.not_eq_true', decide_eq_false_iff_not, List.length_map, atI0, atI1, atI2, Nat.reduceLeDiff, Int.reduceEq, Int.reduceLT, Int.reduceLE, Int.reduceAdd, Int.reduceSub, Int.cast_ofNat_Int, isi_tuple, isi_list, isi_int, isi_bool, isi_str, isi_none, reduceCtorEq, Bool.true_eq_false, Nat.min_self]
  refine wLoop_ix (fun i ρ => ∃ (x y : Cell), ρ = ⟨[.fd, .im (.int n), .im (.list (t.map dN)), .im (.list (ring.map .int)), .im (.list turned), .im (.list ps5), .un, .un, .un, x, y], kx⟩) ⟨.un, .un, rfl⟩ ?_ ?_
  · rintro ρ ⟨x, y, rfl⟩
    refine hK _ ?_; clear hK; clear K
    simp only [↓e_sSeq, ↓e_sNext, ↓e_sBreak, ↓e_sCont, ↓e_sDrop, ↓e_sRet, ↓e_sRetV, ↓e_sRetN, ↓e_sIfS, ↓e_sAsg, ↓e_sFor, ↓e_sVar, ↓e_sRV, ↓e_sRE, ↓e_sC, ↓e_aNil, ↓e_aCons, ↓e_ar, ↓e_dNil, ↓e_dCons, ↓e_fz, ↓e_sLst, ↓e_sTup, ↓e_s1, ↓e_s2, ↓e_s3, ↓e_s4, ↓e_rs, ↓e_sT, ↓e_sAnd, ↓e_sOr, ↓e_sNot, ↓e_vB, ↓e_sAndV, ↓e_sOrV, ↓e_sNotV, ↓e_sIf, ↓e_sgName, ↓e_cellOf, ↓e_sgNil, ↓e_sgCons, ↓e_sgTup, ↓e_sIt, ↓e_sRng1, ↓e_sRng2, ↓e_sEnum, ↓e_sZip, ↓e_sRev, ↓e_sRevR, ↓e_sRg1, ↓e_sRg2, ↓sI, ↓e_sLstR, ↓e_sCall, ↓e_sMeth, ↓e_sSetIx, ↓e_sAugIx, ↓e_sAug, ↓e_sSl, ↓e_pNo, ↓e_pSome, ↓e_sLc, ↓e_sYes, ↓e_sStep, ↓e_sIxG, ↓e_oAdd, ↓e_oI, ↓e_oI0, ↓e_oSub, ↓e_oMul, ↓e_oFdiv, ↓e_oMod, ↓e_oPow, ↓e_oShl, ↓e_oShr, ↓e_oNeg, ↓e_oEq, ↓e_oNe, ↓e_oLtI, ↓e_oLeI, ↓e_oGtI, ↓e_oGeI, ↓e_oIs, ↓e_oIn, ↓e_oIx, ↓e_oSl, ↓e_oLen, ↓e_oAbs, ↓e_oInt, ↓e_oMax2, ↓e_oMin2, ↓e_oList, ↓e_oTuple, ↓e_oIsi, ↓e_oAddI, ↓e_mAppend, ↓e_mExtend, ↓e_mPop, ↓e_mPopAt, ↓e_mInsert, ↓ng, ↓isNone, ↓e_noFd, ↓e_cells0, ↓arCell, ↓e_sTurn, ↓e_wip0, ↓e_wip1, ↓e_sIndex, List.map_cons, List.map_nil, List.length_cons, List.length_nil, List.cons_append, List.nil_append, List.replicate, Nat.reduceAdd, Nat.reduceSub, Nat.zero_add, List.getElem?_cons_zero, List.getElem?_cons_succ, List.set_cons_zero, List.set_cons_succ, if_true, if_false, ↓reduceIte, Bool.false_eq_true, true_and, and_true, not_true_eq_false, not_false_eq_true, decide_eq_true_eq, Bool.not_true, Bool.not_false, Bool.not_not, Bool.not_eq_true', decide_eq_false_iff_not, List.length_map, atI0, atI1, atI2, Nat.reduceLeDiff, Int.reduceEq, Int.reduceLT, Int.reduceLE, Int.reduceAdd, Int.reduceSub, Int.cast_ofNat_Int, isi_tuple, isi_list, isi_int, isi_bool, isi_str, isi_none, reduceCtorEq, Bool.true_eq_false, Nat.min_self]
    exact h
  · rintro i dd ρ kk hx ⟨x, y, rfl⟩ hk
    have hpd := hps5 dd (List.mem_of_getElem? hx)
    unfold b1__law_rings_judged
    refine seq_step fun K hK => ?_; simp only [↓e_sNext, ↓e_sBreak, ↓e_sCont, ↓e_sDrop, ↓e_sRet, ↓e_sRetV, ↓e_sRetN, ↓e_sIfS, ↓e_sAsg, ↓e_sFor, ↓e_sVar, ↓e_sRV, ↓e_sRE, ↓e_sC, ↓e_aNil, ↓e_aCons, ↓e_ar, ↓e_dNil, ↓e_dCons, ↓e_fz, ↓e_sLst, ↓e_sTup, ↓e_s1, ↓e_s2, ↓e_s3, ↓e_s4, ↓e_rs, ↓e_sT, ↓e_sAnd, ↓e_sOr, ↓e_sNot, ↓e_vB, ↓e_sAndV, ↓e_sOrV, ↓e_sNotV, ↓e_sIf, ↓e_sgName, ↓e_cellOf, ↓e_sgNil, ↓e_sgCons, ↓e_sgTup, ↓e_sIt, ↓e_sRng1, ↓e_sRng2, ↓e_sEnum, ↓e_sZip, ↓e_sRev, ↓e_sRevR, ↓e_sRg1, ↓e_sRg2, ↓sI, ↓e_sLstR, ↓e_sCall, ↓e_sMeth, ↓e_sSetIx, ↓e_sAugIx, ↓e_sAug, ↓e_sSl, ↓e_pNo, ↓e_pSome, ↓e_sLc, ↓e_sYes, ↓e_sStep, ↓e_sIxG, ↓e_oAdd, ↓e_oI, ↓e_oI0, ↓e_oSub, ↓e_oMul, ↓e_oFdiv, ↓e_oMod, ↓e_oPow, ↓e_oShl, ↓e_oShr, ↓e_oNeg, ↓e_oEq, ↓e_oNe, ↓e_oLtI, ↓e_oLeI, ↓e_oGtI, ↓e_oGeI, ↓e_oIs, ↓e_oIn, ↓e_oIx, ↓e_oSl, ↓e_oLen, ↓e_oAbs, ↓e_oInt, ↓e_oMax2, ↓e_oMin2, ↓e_oList, ↓e_oTuple, ↓e_oIsi, ↓e_oAddI, ↓e_mAppend, ↓e_mExtend, ↓e_mPop, ↓e_mPopAt, ↓e_mInsert, ↓ng, ↓isNone, ↓e_noFd, ↓e_cells0, ↓arCell, ↓e_sTurn, ↓e_wip0, ↓e_wip1, ↓e_sIndex, List.map_cons, List.map_nil, List.length_cons, List.length_nil, List.cons_append, List.nil_append, List.replicate, Nat.reduceAdd, Nat.reduceSub, Nat.zero_add, List.getElem?_cons_zero, List.getElem?_cons_succ, List.set_cons_zero, List.set_cons_succ, if_true, if_false, ↓reduceIte, Bool.false_eq_true, true_and, and_true, not_true_eq_false, not_false_eq_true, decide_eq_true_eq, Bool.not_true, Bool.not_false, Bool.not_not, Bool.not_eq_true', decide_eq_false_iff_not, List.length_map, atI0, atI1, atI2, Nat.reduceLeDiff, Int.reduceEq, Int.reduceLT, Int.reduceLE, Int.reduceAdd, Int.reduceSub, Int.cast_ofNat_Int, isi_tuple, isi_list, isi_int, isi_bool, isi_str, isi_none, reduceCtorEq, Bool.true_eq_false, Nat.min_self]
    refine F__law_is_ring_ap ht hpd ?_
    simp only [↓e_sSeq, ↓e_sNext, ↓e_sBreak, ↓e_sCont, ↓e_sDrop, ↓e_sRet, ↓e_sRetV, ↓e_sRetN, ↓e_sIfS, ↓e_sAsg, ↓e_sFor, ↓e_sVar, ↓e_sRV, ↓e_sRE, ↓e_sC, ↓e_aNil, ↓e_aCons, ↓e_ar, ↓e_dNil, ↓e_dCons, ↓e_fz, ↓e_sLst, ↓e_sTup, ↓e_s1, ↓e_s2, ↓e_s3, ↓e_s4, ↓e_rs, ↓e_sT, ↓e_sAnd, ↓e_sOr, ↓e_sNot, ↓e_vB, ↓e_sAndV, ↓e_sOrV, ↓e_sNotV, ↓e_sIf, ↓e_sgName, ↓e_cellOf, ↓e_sgNil, ↓e_sgCons, ↓e_sgTup, ↓e_sIt, ↓e_sRng1, ↓e_sRng2, ↓e_sEnum, ↓e_sZip, ↓e_sRev, ↓e_sRevR, ↓e_sRg1, ↓e_sRg2, ↓sI, ↓e_sLstR, ↓e_sCall, ↓e_sMeth, ↓e_sSetIx, ↓e_sAugIx, ↓e_sAug, ↓e_sSl, ↓e_pNo, ↓e_pSome, ↓e_sLc, ↓e_sYes, ↓e_sStep, ↓e_sIxG, ↓e_oAdd, ↓e_oI, ↓e_oI0, ↓e_oSub, ↓e_oMul, ↓e_oFdiv, ↓e_oMod, ↓e_oPow, ↓e_oShl, ↓e_oShr, ↓e_oNeg, ↓e_oEq, ↓e_oNe, ↓e_oLtI, ↓e_oLeI, ↓e_oGtI, ↓e_oGeI, ↓e_oIs, ↓e_oIn, ↓e_oIx, ↓e_oSl, ↓e_oLen, ↓e_oAbs, ↓e_oInt, ↓e_oMax2, ↓e_oMin2, ↓e_oList, ↓e_oTuple, ↓e_oIsi, ↓e_oAddI, ↓e_mAppend, ↓e_mExtend, ↓e_mPop, ↓e_mPopAt, ↓e_mInsert, ↓ng, ↓isNone, ↓e_noFd, ↓e_cells0, ↓arCell, ↓e_sTurn, ↓e_wip0, ↓e_wip1, ↓e_sIndex, List.map_cons, List.map_nil, List.length_cons, List.length_nil, List.cons_append, List.nil_append, List.replicate, Nat.reduceAdd, Nat.reduceSub, Nat.zero_add, List.getElem?_cons_zero, List.getElem?_cons_succ, List.set_cons_zero, List.set_cons_succ, if_true, if_false, ↓reduceIte, Bool.false_eq_true, true_and, and_true, not_true_eq_false, not_false_eq_true, decide_eq_true_eq, Bool.not_true, Bool.not_false, Bool.not_not, Bool.not_eq_true', decide_eq_false_iff_not, List.length_map, atI0, atI1, atI2, Nat.reduceLeDiff, Int.reduceEq, Int.reduceLT, Int.reduceLE, Int.reduceAdd, Int.reduceSub, Int.cast_ofNat_Int, isi_tuple, isi_list, isi_int, isi_bool, isi_str, isi_none, reduceCtorEq, Bool.true_eq_false, Nat.min_self]
    refine hK _ ?_; clear hK; clear K
    simp only [↓e_sSeq, ↓e_sNext, ↓e_sBreak, ↓e_sCont, ↓e_sDrop, ↓e_sRet, ↓e_sRetV, ↓e_sRetN, ↓e_sIfS, ↓e_sAsg, ↓e_sFor, ↓e_sVar, ↓e_sRV, ↓e_sRE, ↓e_sC, ↓e_aNil, ↓e_aCons, ↓e_ar, ↓e_dNil, ↓e_dCons, ↓e_fz, ↓e_sLst, ↓e_sTup, ↓e_s1, ↓e_s2, ↓e_s3, ↓e_s4, ↓e_rs, ↓e_sT, ↓e_sAnd, ↓e_sOr, ↓e_sNot, ↓e_vB, ↓e_sAndV, ↓e_sOrV, ↓e_sNotV, ↓e_sIf, ↓e_sgName, ↓e_cellOf, ↓e_sgNil, ↓e_sgCons, ↓e_sgTup, ↓e_sIt, ↓e_sRng1, ↓e_sRng2, ↓e_sEnum, ↓e_sZip, ↓e_sRev, ↓e_sRevR, ↓e_sRg1, ↓e_sRg2, ↓sI, ↓e_sLstR, ↓e_sCall, ↓e_sMeth, ↓e_sSetIx, ↓e_sAugIx, ↓e_sAug, ↓e_sSl, ↓e_pNo, ↓e_pSome, ↓e_sLc, ↓e_sYes, ↓e_sStep, ↓e_sIxG, ↓e_oAdd, ↓e_oI, ↓e_oI0, ↓e_oSub, ↓e_oMul, ↓e_oFdiv, ↓e_oMod, ↓e_oPow, ↓e_oShl, ↓e_oShr, ↓e_oNeg, ↓e_oEq, ↓e_oNe, ↓e_oLtI, ↓e_oLeI, ↓e_oGtI, ↓e_oGeI, ↓e_oIs, ↓e_oIn, ↓e_oIx, ↓e_oSl, ↓e_oLen, ↓e_oAbs, ↓e_oInt, ↓e_oMax2, ↓e_oMin2, ↓e_oList, ↓e_oTuple, ↓e_oIsi, ↓e_oAddI, ↓e_mAppend, ↓e_mExtend, ↓e_mPop, ↓e_mPopAt, ↓e_mInsert, ↓ng, ↓isNone, ↓e_noFd, ↓e_cells0, ↓arCell, ↓e_sTurn, ↓e_wip0, ↓e_wip1, ↓e_sIndex, List.map_cons, List.map_nil, List.length_cons, List.length_nil, List.cons_append, List.nil_append, List.replicate, Nat.reduceAdd, Nat.reduceSub, Nat.zero_add, List.getElem?_cons_zero, List.getElem?_cons_succ, List.set_cons_zero, List.set_cons_succ, if_true, if_false, ↓reduceIte, Bool.false_eq_true, true_and, and_true, not_true_eq_false, not_false_eq_true, decide_eq_true_eq, Bool.not_true, Bool.not_false, Bool.not_not, Bool.not_eq_true', decide_eq_false_iff_not, List.length_map, atI0, atI1, atI2, Nat.reduceLeDiff, Int.reduceEq, Int.reduceLT, Int.reduceLE, Int.reduceAdd, Int.reduceSub, Int.cast_ofNat_Int, isi_tuple, isi_list, isi_int, isi_bool, isi_str, isi_none, reduceCtorEq, Bool.true_eq_false, Nat.min_self]
    refine F_shows_parts_ring_ap ht hpd ?_
    simp only [↓e_sSeq, ↓e_sNext, ↓e_sBreak, ↓e_sCont, ↓e_sDrop, ↓e_sRet, ↓e_sRetV, ↓e_sRetN, ↓e_sIfS, ↓e_sAsg, ↓e_sFor, ↓e_sVar, ↓e_sRV, ↓e_sRE, ↓e_sC, ↓e_aNil, ↓e_aCons, ↓e_ar, ↓e_dNil, ↓e_dCons, ↓e_fz, ↓e_sLst, ↓e_sTup, ↓e_s1, ↓e_s2, ↓e_s3, ↓e_s4, ↓e_rs, ↓e_sT, ↓e_sAnd, ↓e_sOr, ↓e_sNot, ↓e_vB, ↓e_sAndV, ↓e_sOrV, ↓e_sNotV, ↓e_sIf, ↓e_sgName, ↓e_cellOf, ↓e_sgNil, ↓e_sgCons, ↓e_sgTup, ↓e_sIt, ↓e_sRng1, ↓e_sRng2, ↓e_sEnum, ↓e_sZip, ↓e_sRev, ↓e_sRevR, ↓e_sRg1, ↓e_sRg2, ↓sI, ↓e_sLstR, ↓e_sCall, ↓e_sMeth, ↓e_sSetIx, ↓e_sAugIx, ↓e_sAug, ↓e_sSl, ↓e_pNo, ↓e_pSome, ↓e_sLc, ↓e_sYes, ↓e_sStep, ↓e_sIxG, ↓e_oAdd, ↓e_oI, ↓e_oI0, ↓e_oSub, ↓e_oMul, ↓e_oFdiv, ↓e_oMod, ↓e_oPow, ↓e_oShl, ↓e_oShr, ↓e_oNeg, ↓e_oEq, ↓e_oNe, ↓e_oLtI, ↓e_oLeI, ↓e_oGtI, ↓e_oGeI, ↓e_oIs, ↓e_oIn, ↓e_oIx, ↓e_oSl, ↓e_oLen, ↓e_oAbs, ↓e_oInt, ↓e_oMax2, ↓e_oMin2, ↓e_oList, ↓e_oTuple, ↓e_oIsi, ↓e_oAddI, ↓e_mAppend, ↓e_mExtend, ↓e_mPop, ↓e_mPopAt, ↓e_mInsert, ↓ng, ↓isNone, ↓e_noFd, ↓e_cells0, ↓arCell, ↓e_sTurn, ↓e_wip0, ↓e_wip1, ↓e_sIndex, List.map_cons, List.map_nil, List.length_cons, List.length_nil, List.cons_append, List.nil_append, List.replicate, Nat.reduceAdd, Nat.reduceSub, Nat.zero_add, List.getElem?_cons_zero, List.getElem?_cons_succ, List.set_cons_zero, List.set_cons_succ, if_true, if_false, ↓reduceIte, Bool.false_eq_true, true_and, and_true, not_true_eq_false, not_false_eq_true, decide_eq_true_eq, Bool.not_true, Bool.not_false, Bool.not_not, Bool.not_eq_true', decide_eq_false_iff_not, List.length_map, atI0, atI1, atI2, Nat.reduceLeDiff, Int.reduceEq, Int.reduceLT, Int.reduceLE, Int.reduceAdd, Int.reduceSub, Int.cast_ofNat_Int, isi_tuple, isi_list, isi_int, isi_bool, isi_str, isi_none, reduceCtorEq, Bool.true_eq_false, Nat.min_self, F__law_says_ap, decide_true]
    exact hk _ ⟨_, _, rfl⟩
theorem F__law_rings_judged_ap {n : Nat} {t : NT} {ring : List Int} (hn : n ≤ 100) (ht : t.length ≤ 1000) (hr : ring.length ≤ 200) {k kx} (h : k (.im (.bool true))) : F__law_rings_judged [.fd, .d (.int n), .d (.list (t.map dN)), .d (.list (ring.map .int))] k kx := ⟨n, t, ring, rfl, hn, ht, hr, h⟩
end Lw

namespace Lw
open PySem PySem.Spec L2 Dv
open PyProof.Rows hiding St
theorem w_law : ∀ x, m_law F_draw F__law_needs F__law_ring F__law_ranks_judged F__law_rings_judged F__law_says F_shows_parts_ring F_shows_ranks ⟨.un :: .fd :: List.replicate (N_law.length - 2) .un, x⟩ { nx := fun _ => False, rt := fun v _ => v = .im (.bool true) } := by
  intro x
  unfold m_law
  refine seq_step fun K hK => ?_; simp only [↓e_sNext, ↓e_sBreak, ↓e_sCont, ↓e_sDrop, ↓e_sRet, ↓e_sRetV, ↓e_sRetN, ↓e_sIfS, ↓e_sAsg, ↓e_sFor, ↓e_sVar, ↓e_sRV, ↓e_sRE, ↓e_sC, ↓e_aNil, ↓e_aCons, ↓e_ar, ↓e_dNil, ↓e_dCons, ↓e_fz, ↓e_sLst, ↓e_sTup, ↓e_s1, ↓e_s2, ↓e_s3, ↓e_s4, ↓e_rs, ↓e_sT, ↓e_sAnd, ↓e_sOr, ↓e_sNot, ↓e_vB, ↓e_sAndV, ↓e_sOrV, ↓e_sNotV, ↓e_sIf, ↓e_sgName, ↓e_cellOf, ↓e_sgNil, ↓e_sgCons, ↓e_sgTup, ↓e_sIt, ↓e_sRng1, ↓e_sRng2, ↓e_sEnum, ↓e_sZip, ↓e_sRev, ↓e_sRevR, ↓e_sRg1, ↓e_sRg2, ↓sI, ↓e_sLstR, ↓e_sCall, ↓e_sMeth, ↓e_sSetIx, ↓e_sAugIx, ↓e_sAug, ↓e_sSl, ↓e_pNo, ↓e_pSome, ↓e_sLc, ↓e_sYes, ↓e_sStep, ↓e_sIxG, ↓e_oAdd, ↓e_oI, ↓e_oI0, ↓e_oSub, ↓e_oMul, ↓e_oFdiv, ↓e_oMod, ↓e_oPow, ↓e_oShl, ↓e_oShr, ↓e_oNeg, ↓e_oEq, ↓e_oNe, ↓e_oLtI, ↓e_oLeI, ↓e_oGtI, ↓e_oGeI, ↓e_oIs, ↓e_oIn, ↓e_oIx, ↓e_oSl, ↓e_oLen, ↓e_oAbs, ↓e_oInt, ↓e_oMax2, ↓e_oMin2, ↓e_oList, ↓e_oTuple, ↓e_oIsi, ↓e_oAddI, ↓e_mAppend, ↓e_mExtend, ↓e_mPop, ↓e_mPopAt, ↓e_mInsert, ↓ng, ↓isNone, ↓e_noFd, ↓e_cells0, ↓arCell, ↓e_sTurn, ↓e_wip0, ↓e_wip1, ↓e_sIndex, List.map_cons, List.map_nil, List.length_cons, List.length_nil, List.cons_append, List.nil_append, List.replicate, Nat.reduceAdd, Nat.reduceSub, Nat.zero_add, List.getElem?_cons_zero, List.getElem?_cons_succ, List.set_cons_zero, List.set_cons_succ, if_true, if_false, ↓reduceIte, Bool.false_eq_true, true_and, and_true, not_true_eq_false, not_false_eq_true, decide_eq_true_eq, Bool.not_true, Bool.not_false, Bool.not_not, Bool.not_eq_true', decide_eq_false_iff_not, List.length_map, atI0, atI1, atI2, Nat.reduceLeDiff, Int.reduceEq, Int.reduceLT, Int.reduceLE, Int.reduceAdd, Int.reduceSub, Int.cast_ofNat_Int, isi_tuple, isi_list, isi_int, isi_bool, isi_str, isi_none, reduceCtorEq, Bool.true_eq_false, Nat.min_self]
  refine ⟨by decide, by decide, ?_⟩
  refine wLoop_rng (fun i ρ => ∃ (a b c d e f g : Cell), ρ = ⟨[.un, .fd, a, b, c, d, e, f, g], x⟩) ⟨_, _, _, _, _, _, _, rfl⟩ ?_ ?_
  · rintro ρ ⟨a, b, c, d, e, f, g, rfl⟩
    refine hK _ ?_; clear hK; clear K
    have t3 : PyData.list [.tuple [.int 0, .int 1, .int 1], .tuple [.int 1, .int 2, .int 5], .tuple [.int 2, .int 0, .int 1]] = .list (([(0, 1, 1), (1, 2, 5), (2, 0, 1)] : NT).map dN) := rfl
    have t2 : PyData.list [.tuple [.int 0, .int 1, .int 1], .tuple [.int 1, .int 2, .int 5]] = .list (([(0, 1, 1), (1, 2, 5)] : NT).map dN) := rfl
    have cut2 : ∀ xs : List D, Dv.cutD xs none (some 2) = xs.take 2 := fun xs => cutN_to xs 2
    refine seq_step fun K hK => ?_; simp only [↓e_sNext, ↓e_sBreak, ↓e_sCont, ↓e_sDrop, ↓e_sRet, ↓e_sRetV, ↓e_sRetN, ↓e_sIfS, ↓e_sAsg, ↓e_sFor, ↓e_sVar, ↓e_sRV, ↓e_sRE, ↓e_sC, ↓e_aNil, ↓e_aCons, ↓e_ar, ↓e_dNil, ↓e_dCons, ↓e_fz, ↓e_sLst, ↓e_sTup, ↓e_s1, ↓e_s2, ↓e_s3, ↓e_s4, ↓e_rs, ↓e_sT, ↓e_sAnd, ↓e_sOr, ↓e_sNot, ↓e_vB, ↓e_sAndV, ↓e_sOrV, ↓e_sNotV, ↓e_sIf, ↓e_sgName, ↓e_cellOf, ↓e_sgNil, ↓e_sgCons, ↓e_sgTup, ↓e_sIt, ↓e_sRng1, ↓e_sRng2, ↓e_sEnum, ↓e_sZip, ↓e_sRev, ↓e_sRevR, ↓e_sRg1, ↓e_sRg2, ↓sI, ↓e_sLstR, ↓e_sCall, ↓e_sMeth, ↓e_sSetIx, ↓e_sAugIx, ↓e_sAug, ↓e_sSl, ↓e_pNo, ↓e_pSome, ↓e_sLc, ↓e_sYes, ↓e_sStep, ↓e_sIxG, ↓e_oAdd, ↓e_oI, ↓e_oI0, ↓e_oSub, ↓e_oMul, ↓e_oFdiv, ↓e_oMod, ↓e_oPow, ↓e_oShl, ↓e_oShr, ↓e_oNeg, ↓e_oEq, ↓e_oNe, ↓e_oLtI, ↓e_oLeI, ↓e_oGtI, ↓e_oGeI, ↓e_oIs, ↓e_oIn, ↓e_oIx, ↓e_oSl, ↓e_oLen, ↓e_oAbs, ↓e_oInt, ↓e_oMax2, ↓e_oMin2, ↓e_oList, ↓e_oTuple, ↓e_oIsi, ↓e_oAddI, ↓e_mAppend, ↓e_mExtend, ↓e_mPop, ↓e_mPopAt, ↓e_mInsert, ↓ng, ↓isNone, ↓e_noFd, ↓e_cells0, ↓arCell, ↓e_sTurn, ↓e_wip0, ↓e_wip1, ↓e_sIndex, List.map_cons, List.map_nil, List.length_cons, List.length_nil, List.cons_append, List.nil_append, List.replicate, Nat.reduceAdd, Nat.reduceSub, Nat.zero_add, List.getElem?_cons_zero, List.getElem?_cons_succ, List.set_cons_zero, List.set_cons_succ, if_true, if_false, ↓reduceIte, Bool.false_eq_true, true_and, and_true, not_true_eq_false, not_false_eq_true, decide_eq_true_eq, Bool.not_true, Bool.not_false, Bool.not_not, Bool.not_eq_true', decide_eq_false_iff_not, List.length_map, atI0, atI1, atI2, Nat.reduceLeDiff, Int.reduceEq, Int.reduceLT, Int.reduceLE, Int.reduceAdd, Int.reduceSub, Int.cast_ofNat_Int, isi_tuple, isi_list, isi_int, isi_bool, isi_str, isi_none, reduceCtorEq, Bool.true_eq_false, Nat.min_self]
    refine hK _ ?_; clear hK; clear K
    refine seq_step fun K hK => ?_; simp only [↓e_sNext, ↓e_sBreak, ↓e_sCont, ↓e_sDrop, ↓e_sRet, ↓e_sRetV, ↓e_sRetN, ↓e_sIfS, ↓e_sAsg, ↓e_sFor, ↓e_sVar, ↓e_sRV, ↓e_sRE, ↓e_sC, ↓e_aNil, ↓e_aCons, ↓e_ar, ↓e_dNil, ↓e_dCons, ↓e_fz, ↓e_sLst, ↓e_sTup, ↓e_s1, ↓e_s2, ↓e_s3, ↓e_s4, ↓e_rs, ↓e_sT, ↓e_sAnd, ↓e_sOr, ↓e_sNot, ↓e_vB, ↓e_sAndV, ↓e_sOrV, ↓e_sNotV, ↓e_sIf, ↓e_sgName, ↓e_cellOf, ↓e_sgNil, ↓e_sgCons, ↓e_sgTup, ↓e_sIt, ↓e_sRng1, ↓e_sRng2, ↓e_sEnum, ↓e_sZip, ↓e_sRev, ↓e_sRevR, ↓e_sRg1, ↓e_sRg2, ↓sI, ↓e_sLstR, ↓e_sCall, ↓e_sMeth, ↓e_sSetIx, ↓e_sAugIx, ↓e_sAug, ↓e_sSl, ↓e_pNo, ↓e_pSome, ↓e_sLc, ↓e_sYes, ↓e_sStep, ↓e_sIxG, ↓e_oAdd, ↓e_oI, ↓e_oI0, ↓e_oSub, ↓e_oMul, ↓e_oFdiv, ↓e_oMod, ↓e_oPow, ↓e_oShl, ↓e_oShr, ↓e_oNeg, ↓e_oEq, ↓e_oNe, ↓e_oLtI, ↓e_oLeI, ↓e_oGtI, ↓e_oGeI, ↓e_oIs, ↓e_oIn, ↓e_oIx, ↓e_oSl, ↓e_oLen, ↓e_oAbs, ↓e_oInt, ↓e_oMax2, ↓e_oMin2, ↓e_oList, ↓e_oTuple, ↓e_oIsi, ↓e_oAddI, ↓e_mAppend, ↓e_mExtend, ↓e_mPop, ↓e_mPopAt, ↓e_mInsert, ↓ng, ↓isNone, ↓e_noFd, ↓e_cells0, ↓arCell, ↓e_sTurn, ↓e_wip0, ↓e_wip1, ↓e_sIndex, List.map_cons, List.map_nil, List.length_cons, List.length_nil, List.cons_append, List.nil_append, List.replicate, Nat.reduceAdd, Nat.reduceSub, Nat.zero_add, List.getElem?_cons_zero, List.getElem?_cons_succ, List.set_cons_zero, List.set_cons_succ, if_true, if_false, ↓reduceIte, Bool.false_eq_true, true_and, and_true, not_true_eq_false, not_false_eq_true, decide_eq_true_eq, Bool.not_true, Bool.not_false, Bool.not_not, Bool.not_eq_true', decide_eq_false_iff_not, List.length_map, atI0, atI1, atI2, Nat.reduceLeDiff, Int.reduceEq, Int.reduceLT, Int.reduceLE, Int.reduceAdd, Int.reduceSub, Int.cast_ofNat_Int, isi_tuple, isi_list, isi_int, isi_bool, isi_str, isi_none, reduceCtorEq, Bool.true_eq_false, Nat.min_self]
    have v1 : jG 3 [(0, 1, 1), (1, 2, 5), (2, 0, 1)] (.list [.int 0, .int 1, .int 2, .int 0, .int 1, .int 2]) = true := by simp [jG, idxB, wholeB, toI, hasP, prs, nb, rk, PyData.eqv, PyData.eqvAll, List.range, List.range.loop]
    have v2 : jG 3 [(0, 1, 1), (1, 2, 5), (2, 0, 1)] (.list [.int 2, .int 0, .int 1]) = true := by simp [jG, idxB, wholeB, toI, hasP, prs, nb, rk, PyData.eqv, PyData.eqvAll, List.range, List.range.loop]
    have v3 : jG 3 [(0, 1, 1), (1, 2, 5), (2, 0, 1)] (.list [.int 0, .bool true, .int 2]) = false := rfl
    have v4 : jR 3 [(0, 1, 1), (1, 2, 5)] (.list [.int 2, .bool true, .int 0]) = false := rfl
    have v5 : jR 3 [(0, 1, 1), (1, 2, 5)] (.list [.int 9, .int 4, .int 0]) = true := by decide
    have ok2 : OkN 3 [(0, 1, 1), (1, 2, 5)] := ⟨by decide, by decide⟩
    refine F_shows_parts_ring_ap (t := [(0, 1, 1), (1, 2, 5), (2, 0, 1)]) (by decide) (by show (6 : Nat) ≤ 10000; decide) ?_
    simp only [↓e_sSeq, ↓e_sNext, ↓e_sBreak, ↓e_sCont, ↓e_sDrop, ↓e_sRet, ↓e_sRetV, ↓e_sRetN, ↓e_sIfS, ↓e_sAsg, ↓e_sFor, ↓e_sVar, ↓e_sRV, ↓e_sRE, ↓e_sC, ↓e_aNil, ↓e_aCons, ↓e_ar, ↓e_dNil, ↓e_dCons, ↓e_fz, ↓e_sLst, ↓e_sTup, ↓e_s1, ↓e_s2, ↓e_s3, ↓e_s4, ↓e_rs, ↓e_sT, ↓e_sAnd, ↓e_sOr, ↓e_sNot, ↓e_vB, ↓e_sAndV, ↓e_sOrV, ↓e_sNotV, ↓e_sIf, ↓e_sgName, ↓e_cellOf, ↓e_sgNil, ↓e_sgCons, ↓e_sgTup, ↓e_sIt, ↓e_sRng1, ↓e_sRng2, ↓e_sEnum, ↓e_sZip, ↓e_sRev, ↓e_sRevR, ↓e_sRg1, ↓e_sRg2, ↓sI, ↓e_sLstR, ↓e_sCall, ↓e_sMeth, ↓e_sSetIx, ↓e_sAugIx, ↓e_sAug, ↓e_sSl, ↓e_pNo, ↓e_pSome, ↓e_sLc, ↓e_sYes, ↓e_sStep, ↓e_sIxG, ↓e_oAdd, ↓e_oI, ↓e_oI0, ↓e_oSub, ↓e_oMul, ↓e_oFdiv, ↓e_oMod, ↓e_oPow, ↓e_oShl, ↓e_oShr, ↓e_oNeg, ↓e_oEq, ↓e_oNe, ↓e_oLtI, ↓e_oLeI, ↓e_oGtI, ↓e_oGeI, ↓e_oIs, ↓e_oIn, ↓e_oIx, ↓e_oSl, ↓e_oLen, ↓e_oAbs, ↓e_oInt, ↓e_oMax2, ↓e_oMin2, ↓e_oList, ↓e_oTuple, ↓e_oIsi, ↓e_oAddI, ↓e_mAppend, ↓e_mExtend, ↓e_mPop, ↓e_mPopAt, ↓e_mInsert, ↓ng, ↓isNone, ↓e_noFd, ↓e_cells0, ↓arCell, ↓e_sTurn, ↓e_wip0, ↓e_wip1, ↓e_sIndex, List.map_cons, List.map_nil, List.length_cons, List.length_nil, List.cons_append, List.nil_append, List.replicate, Nat.reduceAdd, Nat.reduceSub, Nat.zero_add, List.getElem?_cons_zero, List.getElem?_cons_succ, List.set_cons_zero, List.set_cons_succ, if_true, if_false, ↓reduceIte, Bool.false_eq_true, true_and, and_true, not_true_eq_false, not_false_eq_true, decide_eq_true_eq, Bool.not_true, Bool.not_false, Bool.not_not, Bool.not_eq_true', decide_eq_false_iff_not, List.length_map, atI0, atI1, atI2, Nat.reduceLeDiff, Int.reduceEq, Int.reduceLT, Int.reduceLE, Int.reduceAdd, Int.reduceSub, Int.cast_ofNat_Int, isi_tuple, isi_list, isi_int, isi_bool, isi_str, isi_none, reduceCtorEq, Bool.true_eq_false, Nat.min_self, v1, F__law_says_ap]
    refine hK _ ?_; clear hK; clear K
    refine seq_step fun K hK => ?_; simp only [↓e_sNext, ↓e_sBreak, ↓e_sCont, ↓e_sDrop, ↓e_sRet, ↓e_sRetV, ↓e_sRetN, ↓e_sIfS, ↓e_sAsg, ↓e_sFor, ↓e_sVar, ↓e_sRV, ↓e_sRE, ↓e_sC, ↓e_aNil, ↓e_aCons, ↓e_ar, ↓e_dNil, ↓e_dCons, ↓e_fz, ↓e_sLst, ↓e_sTup, ↓e_s1, ↓e_s2, ↓e_s3, ↓e_s4, ↓e_rs, ↓e_sT, ↓e_sAnd, ↓e_sOr, ↓e_sNot, ↓e_vB, ↓e_sAndV, ↓e_sOrV, ↓e_sNotV, ↓e_sIf, ↓e_sgName, ↓e_cellOf, ↓e_sgNil, ↓e_sgCons, ↓e_sgTup, ↓e_sIt, ↓e_sRng1, ↓e_sRng2, ↓e_sEnum, ↓e_sZip, ↓e_sRev, ↓e_sRevR, ↓e_sRg1, ↓e_sRg2, ↓sI, ↓e_sLstR, ↓e_sCall, ↓e_sMeth, ↓e_sSetIx, ↓e_sAugIx, ↓e_sAug, ↓e_sSl, ↓e_pNo, ↓e_pSome, ↓e_sLc, ↓e_sYes, ↓e_sStep, ↓e_sIxG, ↓e_oAdd, ↓e_oI, ↓e_oI0, ↓e_oSub, ↓e_oMul, ↓e_oFdiv, ↓e_oMod, ↓e_oPow, ↓e_oShl, ↓e_oShr, ↓e_oNeg, ↓e_oEq, ↓e_oNe, ↓e_oLtI, ↓e_oLeI, ↓e_oGtI, ↓e_oGeI, ↓e_oIs, ↓e_oIn, ↓e_oIx, ↓e_oSl, ↓e_oLen, ↓e_oAbs, ↓e_oInt, ↓e_oMax2, ↓e_oMin2, ↓e_oList, ↓e_oTuple, ↓e_oIsi, ↓e_oAddI, ↓e_mAppend, ↓e_mExtend, ↓e_mPop, ↓e_mPopAt, ↓e_mInsert, ↓ng, ↓isNone, ↓e_noFd, ↓e_cells0, ↓arCell, ↓e_sTurn, ↓e_wip0, ↓e_wip1, ↓e_sIndex, List.map_cons, List.map_nil, List.length_cons, List.length_nil, List.cons_append, List.nil_append, List.replicate, Nat.reduceAdd, Nat.reduceSub, Nat.zero_add, List.getElem?_cons_zero, List.getElem?_cons_succ, List.set_cons_zero, List.set_cons_succ, if_true, if_false, ↓reduceIte, Bool.false_eq_true, true_and, and_true, not_true_eq_false, not_false_eq_true, decide_eq_true_eq, Bool.not_true, Bool.not_false, Bool.not_not, Bool.not_eq_true', decide_eq_false_iff_not, List.length_map, atI0, atI1, atI2, Nat.reduceLeDiff, Int.reduceEq, Int.reduceLT, Int.reduceLE, Int.reduceAdd, Int.reduceSub, Int.cast_ofNat_Int, isi_tuple, isi_list, isi_int, isi_bool, isi_str, isi_none, reduceCtorEq, Bool.true_eq_false, Nat.min_self]
    refine F_shows_parts_ring_ap (t := [(0, 1, 1), (1, 2, 5), (2, 0, 1)]) (by decide) (by show (3 : Nat) ≤ 10000; decide) ?_
    simp only [↓e_sSeq, ↓e_sNext, ↓e_sBreak, ↓e_sCont, ↓e_sDrop, ↓e_sRet, ↓e_sRetV, ↓e_sRetN, ↓e_sIfS, ↓e_sAsg, ↓e_sFor, ↓e_sVar, ↓e_sRV, ↓e_sRE, ↓e_sC, ↓e_aNil, ↓e_aCons, ↓e_ar, ↓e_dNil, ↓e_dCons, ↓e_fz, ↓e_sLst, ↓e_sTup, ↓e_s1, ↓e_s2, ↓e_s3, ↓e_s4, ↓e_rs, ↓e_sT, ↓e_sAnd, ↓e_sOr, ↓e_sNot, ↓e_vB, ↓e_sAndV, ↓e_sOrV, ↓e_sNotV, ↓e_sIf, ↓e_sgName, ↓e_cellOf, ↓e_sgNil, ↓e_sgCons, ↓e_sgTup, ↓e_sIt, ↓e_sRng1, ↓e_sRng2, ↓e_sEnum, ↓e_sZip, ↓e_sRev, ↓e_sRevR, ↓e_sRg1, ↓e_sRg2, ↓sI, ↓e_sLstR, ↓e_sCall, ↓e_sMeth, ↓e_sSetIx, ↓e_sAugIx, ↓e_sAug, ↓e_sSl, ↓e_pNo, ↓e_pSome, ↓e_sLc, ↓e_sYes, ↓e_sStep, ↓e_sIxG, ↓e_oAdd, ↓e_oI, ↓e_oI0, ↓e_oSub, ↓e_oMul, ↓e_oFdiv, ↓e_oMod, ↓e_oPow, ↓e_oShl, ↓e_oShr, ↓e_oNeg, ↓e_oEq, ↓e_oNe, ↓e_oLtI, ↓e_oLeI, ↓e_oGtI, ↓e_oGeI, ↓e_oIs, ↓e_oIn, ↓e_oIx, ↓e_oSl, ↓e_oLen, ↓e_oAbs, ↓e_oInt, ↓e_oMax2, ↓e_oMin2, ↓e_oList, ↓e_oTuple, ↓e_oIsi, ↓e_oAddI, ↓e_mAppend, ↓e_mExtend, ↓e_mPop, ↓e_mPopAt, ↓e_mInsert, ↓ng, ↓isNone, ↓e_noFd, ↓e_cells0, ↓arCell, ↓e_sTurn, ↓e_wip0, ↓e_wip1, ↓e_sIndex, List.map_cons, List.map_nil, List.length_cons, List.length_nil, List.cons_append, List.nil_append, List.replicate, Nat.reduceAdd, Nat.reduceSub, Nat.zero_add, List.getElem?_cons_zero, List.getElem?_cons_succ, List.set_cons_zero, List.set_cons_succ, if_true, if_false, ↓reduceIte, Bool.false_eq_true, true_and, and_true, not_true_eq_false, not_false_eq_true, decide_eq_true_eq, Bool.not_true, Bool.not_false, Bool.not_not, Bool.not_eq_true', decide_eq_false_iff_not, List.length_map, atI0, atI1, atI2, Nat.reduceLeDiff, Int.reduceEq, Int.reduceLT, Int.reduceLE, Int.reduceAdd, Int.reduceSub, Int.cast_ofNat_Int, isi_tuple, isi_list, isi_int, isi_bool, isi_str, isi_none, reduceCtorEq, Bool.true_eq_false, Nat.min_self, v2, F__law_says_ap]
    refine hK _ ?_; clear hK; clear K
    refine seq_step fun K hK => ?_; simp only [↓e_sNext, ↓e_sBreak, ↓e_sCont, ↓e_sDrop, ↓e_sRet, ↓e_sRetV, ↓e_sRetN, ↓e_sIfS, ↓e_sAsg, ↓e_sFor, ↓e_sVar, ↓e_sRV, ↓e_sRE, ↓e_sC, ↓e_aNil, ↓e_aCons, ↓e_ar, ↓e_dNil, ↓e_dCons, ↓e_fz, ↓e_sLst, ↓e_sTup, ↓e_s1, ↓e_s2, ↓e_s3, ↓e_s4, ↓e_rs, ↓e_sT, ↓e_sAnd, ↓e_sOr, ↓e_sNot, ↓e_vB, ↓e_sAndV, ↓e_sOrV, ↓e_sNotV, ↓e_sIf, ↓e_sgName, ↓e_cellOf, ↓e_sgNil, ↓e_sgCons, ↓e_sgTup, ↓e_sIt, ↓e_sRng1, ↓e_sRng2, ↓e_sEnum, ↓e_sZip, ↓e_sRev, ↓e_sRevR, ↓e_sRg1, ↓e_sRg2, ↓sI, ↓e_sLstR, ↓e_sCall, ↓e_sMeth, ↓e_sSetIx, ↓e_sAugIx, ↓e_sAug, ↓e_sSl, ↓e_pNo, ↓e_pSome, ↓e_sLc, ↓e_sYes, ↓e_sStep, ↓e_sIxG, ↓e_oAdd, ↓e_oI, ↓e_oI0, ↓e_oSub, ↓e_oMul, ↓e_oFdiv, ↓e_oMod, ↓e_oPow, ↓e_oShl, ↓e_oShr, ↓e_oNeg, ↓e_oEq, ↓e_oNe, ↓e_oLtI, ↓e_oLeI, ↓e_oGtI, ↓e_oGeI, ↓e_oIs, ↓e_oIn, ↓e_oIx, ↓e_oSl, ↓e_oLen, ↓e_oAbs, ↓e_oInt, ↓e_oMax2, ↓e_oMin2, ↓e_oList, ↓e_oTuple, ↓e_oIsi, ↓e_oAddI, ↓e_mAppend, ↓e_mExtend, ↓e_mPop, ↓e_mPopAt, ↓e_mInsert, ↓ng, ↓isNone, ↓e_noFd, ↓e_cells0, ↓arCell, ↓e_sTurn, ↓e_wip0, ↓e_wip1, ↓e_sIndex, List.map_cons, List.map_nil, List.length_cons, List.length_nil, List.cons_append, List.nil_append, List.replicate, Nat.reduceAdd, Nat.reduceSub, Nat.zero_add, List.getElem?_cons_zero, List.getElem?_cons_succ, List.set_cons_zero, List.set_cons_succ, if_true, if_false, ↓reduceIte, Bool.false_eq_true, true_and, and_true, not_true_eq_false, not_false_eq_true, decide_eq_true_eq, Bool.not_true, Bool.not_false, Bool.not_not, Bool.not_eq_true', decide_eq_false_iff_not, List.length_map, atI0, atI1, atI2, Nat.reduceLeDiff, Int.reduceEq, Int.reduceLT, Int.reduceLE, Int.reduceAdd, Int.reduceSub, Int.cast_ofNat_Int, isi_tuple, isi_list, isi_int, isi_bool, isi_str, isi_none, reduceCtorEq, Bool.true_eq_false, Nat.min_self]
    refine F_shows_parts_ring_ap (t := [(0, 1, 1), (1, 2, 5), (2, 0, 1)]) (by decide) (by show (3 : Nat) ≤ 10000; decide) ?_
    simp only [↓e_sSeq, ↓e_sNext, ↓e_sBreak, ↓e_sCont, ↓e_sDrop, ↓e_sRet, ↓e_sRetV, ↓e_sRetN, ↓e_sIfS, ↓e_sAsg, ↓e_sFor, ↓e_sVar, ↓e_sRV, ↓e_sRE, ↓e_sC, ↓e_aNil, ↓e_aCons, ↓e_ar, ↓e_dNil, ↓e_dCons, ↓e_fz, ↓e_sLst, ↓e_sTup, ↓e_s1, ↓e_s2, ↓e_s3, ↓e_s4, ↓e_rs, ↓e_sT, ↓e_sAnd, ↓e_sOr, ↓e_sNot, ↓e_vB, ↓e_sAndV, ↓e_sOrV, ↓e_sNotV, ↓e_sIf, ↓e_sgName, ↓e_cellOf, ↓e_sgNil, ↓e_sgCons, ↓e_sgTup, ↓e_sIt, ↓e_sRng1, ↓e_sRng2, ↓e_sEnum, ↓e_sZip, ↓e_sRev, ↓e_sRevR, ↓e_sRg1, ↓e_sRg2, ↓sI, ↓e_sLstR, ↓e_sCall, ↓e_sMeth, ↓e_sSetIx, ↓e_sAugIx, ↓e_sAug, ↓e_sSl, ↓e_pNo, ↓e_pSome, ↓e_sLc, ↓e_sYes, ↓e_sStep, ↓e_sIxG, ↓e_oAdd, ↓e_oI, ↓e_oI0, ↓e_oSub, ↓e_oMul, ↓e_oFdiv, ↓e_oMod, ↓e_oPow, ↓e_oShl, ↓e_oShr, ↓e_oNeg, ↓e_oEq, ↓e_oNe, ↓e_oLtI, ↓e_oLeI, ↓e_oGtI, ↓e_oGeI, ↓e_oIs, ↓e_oIn, ↓e_oIx, ↓e_oSl, ↓e_oLen, ↓e_oAbs, ↓e_oInt, ↓e_oMax2, ↓e_oMin2, ↓e_oList, ↓e_oTuple, ↓e_oIsi, ↓e_oAddI, ↓e_mAppend, ↓e_mExtend, ↓e_mPop, ↓e_mPopAt, ↓e_mInsert, ↓ng, ↓isNone, ↓e_noFd, ↓e_cells0, ↓arCell, ↓e_sTurn, ↓e_wip0, ↓e_wip1, ↓e_sIndex, List.map_cons, List.map_nil, List.length_cons, List.length_nil, List.cons_append, List.nil_append, List.replicate, Nat.reduceAdd, Nat.reduceSub, Nat.zero_add, List.getElem?_cons_zero, List.getElem?_cons_succ, List.set_cons_zero, List.set_cons_succ, if_true, if_false, ↓reduceIte, Bool.false_eq_true, true_and, and_true, not_true_eq_false, not_false_eq_true, decide_eq_true_eq, Bool.not_true, Bool.not_false, Bool.not_not, Bool.not_eq_true', decide_eq_false_iff_not, List.length_map, atI0, atI1, atI2, Nat.reduceLeDiff, Int.reduceEq, Int.reduceLT, Int.reduceLE, Int.reduceAdd, Int.reduceSub, Int.cast_ofNat_Int, isi_tuple, isi_list, isi_int, isi_bool, isi_str, isi_none, reduceCtorEq, Bool.true_eq_false, Nat.min_self, v3, F__law_says_ap]
    refine hK _ ?_; clear hK; clear K
    refine seq_step fun K hK => ?_; simp only [↓e_sNext, ↓e_sBreak, ↓e_sCont, ↓e_sDrop, ↓e_sRet, ↓e_sRetV, ↓e_sRetN, ↓e_sIfS, ↓e_sAsg, ↓e_sFor, ↓e_sVar, ↓e_sRV, ↓e_sRE, ↓e_sC, ↓e_aNil, ↓e_aCons, ↓e_ar, ↓e_dNil, ↓e_dCons, ↓e_fz, ↓e_sLst, ↓e_sTup, ↓e_s1, ↓e_s2, ↓e_s3, ↓e_s4, ↓e_rs, ↓e_sT, ↓e_sAnd, ↓e_sOr, ↓e_sNot, ↓e_vB, ↓e_sAndV, ↓e_sOrV, ↓e_sNotV, ↓e_sIf, ↓e_sgName, ↓e_cellOf, ↓e_sgNil, ↓e_sgCons, ↓e_sgTup, ↓e_sIt, ↓e_sRng1, ↓e_sRng2, ↓e_sEnum, ↓e_sZip, ↓e_sRev, ↓e_sRevR, ↓e_sRg1, ↓e_sRg2, ↓sI, ↓e_sLstR, ↓e_sCall, ↓e_sMeth, ↓e_sSetIx, ↓e_sAugIx, ↓e_sAug, ↓e_sSl, ↓e_pNo, ↓e_pSome, ↓e_sLc, ↓e_sYes, ↓e_sStep, ↓e_sIxG, ↓e_oAdd, ↓e_oI, ↓e_oI0, ↓e_oSub, ↓e_oMul, ↓e_oFdiv, ↓e_oMod, ↓e_oPow, ↓e_oShl, ↓e_oShr, ↓e_oNeg, ↓e_oEq, ↓e_oNe, ↓e_oLtI, ↓e_oLeI, ↓e_oGtI, ↓e_oGeI, ↓e_oIs, ↓e_oIn, ↓e_oIx, ↓e_oSl, ↓e_oLen, ↓e_oAbs, ↓e_oInt, ↓e_oMax2, ↓e_oMin2, ↓e_oList, ↓e_oTuple, ↓e_oIsi, ↓e_oAddI, ↓e_mAppend, ↓e_mExtend, ↓e_mPop, ↓e_mPopAt, ↓e_mInsert, ↓ng, ↓isNone, ↓e_noFd, ↓e_cells0, ↓arCell, ↓e_sTurn, ↓e_wip0, ↓e_wip1, ↓e_sIndex, List.map_cons, List.map_nil, List.length_cons, List.length_nil, List.cons_append, List.nil_append, List.replicate, Nat.reduceAdd, Nat.reduceSub, Nat.zero_add, List.getElem?_cons_zero, List.getElem?_cons_succ, List.set_cons_zero, List.set_cons_succ, if_true, if_false, ↓reduceIte, Bool.false_eq_true, true_and, and_true, not_true_eq_false, not_false_eq_true, decide_eq_true_eq, Bool.not_true, Bool.not_false, Bool.not_not, Bool.not_eq_true', decide_eq_false_iff_not, List.length_map, atI0, atI1, atI2, Nat.reduceLeDiff, Int.reduceEq, Int.reduceLT, Int.reduceLE, Int.reduceAdd, Int.reduceSub, Int.cast_ofNat_Int, isi_tuple, isi_list, isi_int, isi_bool, isi_str, isi_none, reduceCtorEq, Bool.true_eq_false, Nat.min_self, cut2, List.take]
    refine F_shows_ranks_ap (t := [(0, 1, 1), (1, 2, 5)]) ok2 (by show (3 : Nat) ≤ 10000; decide) ?_
    simp only [↓e_sSeq, ↓e_sNext, ↓e_sBreak, ↓e_sCont, ↓e_sDrop, ↓e_sRet, ↓e_sRetV, ↓e_sRetN, ↓e_sIfS, ↓e_sAsg, ↓e_sFor, ↓e_sVar, ↓e_sRV, ↓e_sRE, ↓e_sC, ↓e_aNil, ↓e_aCons, ↓e_ar, ↓e_dNil, ↓e_dCons, ↓e_fz, ↓e_sLst, ↓e_sTup, ↓e_s1, ↓e_s2, ↓e_s3, ↓e_s4, ↓e_rs, ↓e_sT, ↓e_sAnd, ↓e_sOr, ↓e_sNot, ↓e_vB, ↓e_sAndV, ↓e_sOrV, ↓e_sNotV, ↓e_sIf, ↓e_sgName, ↓e_cellOf, ↓e_sgNil, ↓e_sgCons, ↓e_sgTup, ↓e_sIt, ↓e_sRng1, ↓e_sRng2, ↓e_sEnum, ↓e_sZip, ↓e_sRev, ↓e_sRevR, ↓e_sRg1, ↓e_sRg2, ↓sI, ↓e_sLstR, ↓e_sCall, ↓e_sMeth, ↓e_sSetIx, ↓e_sAugIx, ↓e_sAug, ↓e_sSl, ↓e_pNo, ↓e_pSome, ↓e_sLc, ↓e_sYes, ↓e_sStep, ↓e_sIxG, ↓e_oAdd, ↓e_oI, ↓e_oI0, ↓e_oSub, ↓e_oMul, ↓e_oFdiv, ↓e_oMod, ↓e_oPow, ↓e_oShl, ↓e_oShr, ↓e_oNeg, ↓e_oEq, ↓e_oNe, ↓e_oLtI, ↓e_oLeI, ↓e_oGtI, ↓e_oGeI, ↓e_oIs, ↓e_oIn, ↓e_oIx, ↓e_oSl, ↓e_oLen, ↓e_oAbs, ↓e_oInt, ↓e_oMax2, ↓e_oMin2, ↓e_oList, ↓e_oTuple, ↓e_oIsi, ↓e_oAddI, ↓e_mAppend, ↓e_mExtend, ↓e_mPop, ↓e_mPopAt, ↓e_mInsert, ↓ng, ↓isNone, ↓e_noFd, ↓e_cells0, ↓arCell, ↓e_sTurn, ↓e_wip0, ↓e_wip1, ↓e_sIndex, List.map_cons, List.map_nil, List.length_cons, List.length_nil, List.cons_append, List.nil_append, List.replicate, Nat.reduceAdd, Nat.reduceSub, Nat.zero_add, List.getElem?_cons_zero, List.getElem?_cons_succ, List.set_cons_zero, List.set_cons_succ, if_true, if_false, ↓reduceIte, Bool.false_eq_true, true_and, and_true, not_true_eq_false, not_false_eq_true, decide_eq_true_eq, Bool.not_true, Bool.not_false, Bool.not_not, Bool.not_eq_true', decide_eq_false_iff_not, List.length_map, atI0, atI1, atI2, Nat.reduceLeDiff, Int.reduceEq, Int.reduceLT, Int.reduceLE, Int.reduceAdd, Int.reduceSub, Int.cast_ofNat_Int, isi_tuple, isi_list, isi_int, isi_bool, isi_str, isi_none, reduceCtorEq, Bool.true_eq_false, Nat.min_self, v4, F__law_says_ap]
    refine hK _ ?_; clear hK; clear K
    simp only [↓e_sSeq, ↓e_sNext, ↓e_sBreak, ↓e_sCont, ↓e_sDrop, ↓e_sRet, ↓e_sRetV, ↓e_sRetN, ↓e_sIfS, ↓e_sAsg, ↓e_sFor, ↓e_sVar, ↓e_sRV, ↓e_sRE, ↓e_sC, ↓e_aNil, ↓e_aCons, ↓e_ar, ↓e_dNil, ↓e_dCons, ↓e_fz, ↓e_sLst, ↓e_sTup, ↓e_s1, ↓e_s2, ↓e_s3, ↓e_s4, ↓e_rs, ↓e_sT, ↓e_sAnd, ↓e_sOr, ↓e_sNot, ↓e_vB, ↓e_sAndV, ↓e_sOrV, ↓e_sNotV, ↓e_sIf, ↓e_sgName, ↓e_cellOf, ↓e_sgNil, ↓e_sgCons, ↓e_sgTup, ↓e_sIt, ↓e_sRng1, ↓e_sRng2, ↓e_sEnum, ↓e_sZip, ↓e_sRev, ↓e_sRevR, ↓e_sRg1, ↓e_sRg2, ↓sI, ↓e_sLstR, ↓e_sCall, ↓e_sMeth, ↓e_sSetIx, ↓e_sAugIx, ↓e_sAug, ↓e_sSl, ↓e_pNo, ↓e_pSome, ↓e_sLc, ↓e_sYes, ↓e_sStep, ↓e_sIxG, ↓e_oAdd, ↓e_oI, ↓e_oI0, ↓e_oSub, ↓e_oMul, ↓e_oFdiv, ↓e_oMod, ↓e_oPow, ↓e_oShl, ↓e_oShr, ↓e_oNeg, ↓e_oEq, ↓e_oNe, ↓e_oLtI, ↓e_oLeI, ↓e_oGtI, ↓e_oGeI, ↓e_oIs, ↓e_oIn, ↓e_oIx, ↓e_oSl, ↓e_oLen, ↓e_oAbs, ↓e_oInt, ↓e_oMax2, ↓e_oMin2, ↓e_oList, ↓e_oTuple, ↓e_oIsi, ↓e_oAddI, ↓e_mAppend, ↓e_mExtend, ↓e_mPop, ↓e_mPopAt, ↓e_mInsert, ↓ng, ↓isNone, ↓e_noFd, ↓e_cells0, ↓arCell, ↓e_sTurn, ↓e_wip0, ↓e_wip1, ↓e_sIndex, List.map_cons, List.map_nil, List.length_cons, List.length_nil, List.cons_append, List.nil_append, List.replicate, Nat.reduceAdd, Nat.reduceSub, Nat.zero_add, List.getElem?_cons_zero, List.getElem?_cons_succ, List.set_cons_zero, List.set_cons_succ, if_true, if_false, ↓reduceIte, Bool.false_eq_true, true_and, and_true, not_true_eq_false, not_false_eq_true, decide_eq_true_eq, Bool.not_true, Bool.not_false, Bool.not_not, Bool.not_eq_true', decide_eq_false_iff_not, List.length_map, atI0, atI1, atI2, Nat.reduceLeDiff, Int.reduceEq, Int.reduceLT, Int.reduceLE, Int.reduceAdd, Int.reduceSub, Int.cast_ofNat_Int, isi_tuple, isi_list, isi_int, isi_bool, isi_str, isi_none, reduceCtorEq, Bool.true_eq_false, Nat.min_self, cut2, List.take]
    refine F_shows_ranks_ap (t := [(0, 1, 1), (1, 2, 5)]) ok2 (by show (3 : Nat) ≤ 10000; decide) ?_
    simp only [↓e_sSeq, ↓e_sNext, ↓e_sBreak, ↓e_sCont, ↓e_sDrop, ↓e_sRet, ↓e_sRetV, ↓e_sRetN, ↓e_sIfS, ↓e_sAsg, ↓e_sFor, ↓e_sVar, ↓e_sRV, ↓e_sRE, ↓e_sC, ↓e_aNil, ↓e_aCons, ↓e_ar, ↓e_dNil, ↓e_dCons, ↓e_fz, ↓e_sLst, ↓e_sTup, ↓e_s1, ↓e_s2, ↓e_s3, ↓e_s4, ↓e_rs, ↓e_sT, ↓e_sAnd, ↓e_sOr, ↓e_sNot, ↓e_vB, ↓e_sAndV, ↓e_sOrV, ↓e_sNotV, ↓e_sIf, ↓e_sgName, ↓e_cellOf, ↓e_sgNil, ↓e_sgCons, ↓e_sgTup, ↓e_sIt, ↓e_sRng1, ↓e_sRng2, ↓e_sEnum, ↓e_sZip, ↓e_sRev, ↓e_sRevR, ↓e_sRg1, ↓e_sRg2, ↓sI, ↓e_sLstR, ↓e_sCall, ↓e_sMeth, ↓e_sSetIx, ↓e_sAugIx, ↓e_sAug, ↓e_sSl, ↓e_pNo, ↓e_pSome, ↓e_sLc, ↓e_sYes, ↓e_sStep, ↓e_sIxG, ↓e_oAdd, ↓e_oI, ↓e_oI0, ↓e_oSub, ↓e_oMul, ↓e_oFdiv, ↓e_oMod, ↓e_oPow, ↓e_oShl, ↓e_oShr, ↓e_oNeg, ↓e_oEq, ↓e_oNe, ↓e_oLtI, ↓e_oLeI, ↓e_oGtI, ↓e_oGeI, ↓e_oIs, ↓e_oIn, ↓e_oIx, ↓e_oSl, ↓e_oLen, ↓e_oAbs, ↓e_oInt, ↓e_oMax2, ↓e_oMin2, ↓e_oList, ↓e_oTuple, ↓e_oIsi, ↓e_oAddI, ↓e_mAppend, ↓e_mExtend, ↓e_mPop, ↓e_mPopAt, ↓e_mInsert, ↓ng, ↓isNone, ↓e_noFd, ↓e_cells0, ↓arCell, ↓e_sTurn, ↓e_wip0, ↓e_wip1, ↓e_sIndex, List.map_cons, List.map_nil, List.length_cons, List.length_nil, List.cons_append, List.nil_append, List.replicate, Nat.reduceAdd, Nat.reduceSub, Nat.zero_add, List.getElem?_cons_zero, List.getElem?_cons_succ, List.set_cons_zero, List.set_cons_succ, if_true, if_false, ↓reduceIte, Bool.false_eq_true, true_and, and_true, not_true_eq_false, not_false_eq_true, decide_eq_true_eq, Bool.not_true, Bool.not_false, Bool.not_not, Bool.not_eq_true', decide_eq_false_iff_not, List.length_map, atI0, atI1, atI2, Nat.reduceLeDiff, Int.reduceEq, Int.reduceLT, Int.reduceLE, Int.reduceAdd, Int.reduceSub, Int.cast_ofNat_Int, isi_tuple, isi_list, isi_int, isi_bool, isi_str, isi_none, reduceCtorEq, Bool.true_eq_false, Nat.min_self, v5, F__law_says_ap]
    rfl
  · rintro i ρ kk hi ⟨a, b, c, d, e, f, g, rfl⟩ hk
    unfold b1_law
    refine seq_step fun K hK => ?_; simp only [↓e_sNext, ↓e_sBreak, ↓e_sCont, ↓e_sDrop, ↓e_sRet, ↓e_sRetV, ↓e_sRetN, ↓e_sIfS, ↓e_sAsg, ↓e_sFor, ↓e_sVar, ↓e_sRV, ↓e_sRE, ↓e_sC, ↓e_aNil, ↓e_aCons, ↓e_ar, ↓e_dNil, ↓e_dCons, ↓e_fz, ↓e_sLst, ↓e_sTup, ↓e_s1, ↓e_s2, ↓e_s3, ↓e_s4, ↓e_rs, ↓e_sT, ↓e_sAnd, ↓e_sOr, ↓e_sNot, ↓e_vB, ↓e_sAndV, ↓e_sOrV, ↓e_sNotV, ↓e_sIf, ↓e_sgName, ↓e_cellOf, ↓e_sgNil, ↓e_sgCons, ↓e_sgTup, ↓e_sIt, ↓e_sRng1, ↓e_sRng2, ↓e_sEnum, ↓e_sZip, ↓e_sRev, ↓e_sRevR, ↓e_sRg1, ↓e_sRg2, ↓sI, ↓e_sLstR, ↓e_sCall, ↓e_sMeth, ↓e_sSetIx, ↓e_sAugIx, ↓e_sAug, ↓e_sSl, ↓e_pNo, ↓e_pSome, ↓e_sLc, ↓e_sYes, ↓e_sStep, ↓e_sIxG, ↓e_oAdd, ↓e_oI, ↓e_oI0, ↓e_oSub, ↓e_oMul, ↓e_oFdiv, ↓e_oMod, ↓e_oPow, ↓e_oShl, ↓e_oShr, ↓e_oNeg, ↓e_oEq, ↓e_oNe, ↓e_oLtI, ↓e_oLeI, ↓e_oGtI, ↓e_oGeI, ↓e_oIs, ↓e_oIn, ↓e_oIx, ↓e_oSl, ↓e_oLen, ↓e_oAbs, ↓e_oInt, ↓e_oMax2, ↓e_oMin2, ↓e_oList, ↓e_oTuple, ↓e_oIsi, ↓e_oAddI, ↓e_mAppend, ↓e_mExtend, ↓e_mPop, ↓e_mPopAt, ↓e_mInsert, ↓ng, ↓isNone, ↓e_noFd, ↓e_cells0, ↓arCell, ↓e_sTurn, ↓e_wip0, ↓e_wip1, ↓e_sIndex, List.map_cons, List.map_nil, List.length_cons, List.length_nil, List.cons_append, List.nil_append, List.replicate, Nat.reduceAdd, Nat.reduceSub, Nat.zero_add, List.getElem?_cons_zero, List.getElem?_cons_succ, List.set_cons_zero, List.set_cons_succ, if_true, if_false, ↓reduceIte, Bool.false_eq_true, true_and, and_true, not_true_eq_false, not_false_eq_true, decide_eq_true_eq, Bool.not_true, Bool.not_false, Bool.not_not, Bool.not_eq_true', decide_eq_false_iff_not, List.length_map, atI0, atI1, atI2, Nat.reduceLeDiff, Int.reduceEq, Int.reduceLT, Int.reduceLE, Int.reduceAdd, Int.reduceSub, Int.cast_ofNat_Int, isi_tuple, isi_list, isi_int, isi_bool, isi_str, isi_none, reduceCtorEq, Bool.true_eq_false, Nat.min_self, F__law_draw_ap]
    refine fun r r0 r1 => ?_
    obtain ⟨n, hn⟩ : ∃ n : Nat, 1 + r = n := ⟨(1 + r).toNat, by omega⟩
    rw [hn]
    refine hK _ ?_; clear hK; clear K
    refine seq_step fun K hK => ?_; simp only [↓e_sNext, ↓e_sBreak, ↓e_sCont, ↓e_sDrop, ↓e_sRet, ↓e_sRetV, ↓e_sRetN, ↓e_sIfS, ↓e_sAsg, ↓e_sFor, ↓e_sVar, ↓e_sRV, ↓e_sRE, ↓e_sC, ↓e_aNil, ↓e_aCons, ↓e_ar, ↓e_dNil, ↓e_dCons, ↓e_fz, ↓e_sLst, ↓e_sTup, ↓e_s1, ↓e_s2, ↓e_s3, ↓e_s4, ↓e_rs, ↓e_sT, ↓e_sAnd, ↓e_sOr, ↓e_sNot, ↓e_vB, ↓e_sAndV, ↓e_sOrV, ↓e_sNotV, ↓e_sIf, ↓e_sgName, ↓e_cellOf, ↓e_sgNil, ↓e_sgCons, ↓e_sgTup, ↓e_sIt, ↓e_sRng1, ↓e_sRng2, ↓e_sEnum, ↓e_sZip, ↓e_sRev, ↓e_sRevR, ↓e_sRg1, ↓e_sRg2, ↓sI, ↓e_sLstR, ↓e_sCall, ↓e_sMeth, ↓e_sSetIx, ↓e_sAugIx, ↓e_sAug, ↓e_sSl, ↓e_pNo, ↓e_pSome, ↓e_sLc, ↓e_sYes, ↓e_sStep, ↓e_sIxG, ↓e_oAdd, ↓e_oI, ↓e_oI0, ↓e_oSub, ↓e_oMul, ↓e_oFdiv, ↓e_oMod, ↓e_oPow, ↓e_oShl, ↓e_oShr, ↓e_oNeg, ↓e_oEq, ↓e_oNe, ↓e_oLtI, ↓e_oLeI, ↓e_oGtI, ↓e_oGeI, ↓e_oIs, ↓e_oIn, ↓e_oIx, ↓e_oSl, ↓e_oLen, ↓e_oAbs, ↓e_oInt, ↓e_oMax2, ↓e_oMin2, ↓e_oList, ↓e_oTuple, ↓e_oIsi, ↓e_oAddI, ↓e_mAppend, ↓e_mExtend, ↓e_mPop, ↓e_mPopAt, ↓e_mInsert, ↓ng, ↓isNone, ↓e_noFd, ↓e_cells0, ↓arCell, ↓e_sTurn, ↓e_wip0, ↓e_wip1, ↓e_sIndex, List.map_cons, List.map_nil, List.length_cons, List.length_nil, List.cons_append, List.nil_append, List.replicate, Nat.reduceAdd, Nat.reduceSub, Nat.zero_add, List.getElem?_cons_zero, List.getElem?_cons_succ, List.set_cons_zero, List.set_cons_succ, if_true, if_false, ↓reduceIte, Bool.false_eq_true, true_and, and_true, not_true_eq_false, not_false_eq_true, decide_eq_true_eq, Bool.not_true, Bool.not_false, Bool.not_not, Bool.not_eq_true', decide_eq_false_iff_not, List.length_map, atI0, atI1, atI2, Nat.reduceLeDiff, Int.reduceEq, Int.reduceLT, Int.reduceLE, Int.reduceAdd, Int.reduceSub, Int.cast_ofNat_Int, isi_tuple, isi_list, isi_int, isi_bool, isi_str, isi_none, reduceCtorEq, Bool.true_eq_false, Nat.min_self, F__law_draw_ap]
    refine fun r2 r20 r21 => ?_
    obtain ⟨m, hm⟩ : ∃ m : Nat, r2 = m := ⟨r2.toNat, by omega⟩
    rw [hm, F__law_needs_ap (by omega) (by decide) (by decide)]
    refine fun t ok htl => ?_
    simp only [↓e_sSeq, ↓e_sNext, ↓e_sBreak, ↓e_sCont, ↓e_sDrop, ↓e_sRet, ↓e_sRetV, ↓e_sRetN, ↓e_sIfS, ↓e_sAsg, ↓e_sFor, ↓e_sVar, ↓e_sRV, ↓e_sRE, ↓e_sC, ↓e_aNil, ↓e_aCons, ↓e_ar, ↓e_dNil, ↓e_dCons, ↓e_fz, ↓e_sLst, ↓e_sTup, ↓e_s1, ↓e_s2, ↓e_s3, ↓e_s4, ↓e_rs, ↓e_sT, ↓e_sAnd, ↓e_sOr, ↓e_sNot, ↓e_vB, ↓e_sAndV, ↓e_sOrV, ↓e_sNotV, ↓e_sIf, ↓e_sgName, ↓e_cellOf, ↓e_sgNil, ↓e_sgCons, ↓e_sgTup, ↓e_sIt, ↓e_sRng1, ↓e_sRng2, ↓e_sEnum, ↓e_sZip, ↓e_sRev, ↓e_sRevR, ↓e_sRg1, ↓e_sRg2, ↓sI, ↓e_sLstR, ↓e_sCall, ↓e_sMeth, ↓e_sSetIx, ↓e_sAugIx, ↓e_sAug, ↓e_sSl, ↓e_pNo, ↓e_pSome, ↓e_sLc, ↓e_sYes, ↓e_sStep, ↓e_sIxG, ↓e_oAdd, ↓e_oI, ↓e_oI0, ↓e_oSub, ↓e_oMul, ↓e_oFdiv, ↓e_oMod, ↓e_oPow, ↓e_oShl, ↓e_oShr, ↓e_oNeg, ↓e_oEq, ↓e_oNe, ↓e_oLtI, ↓e_oLeI, ↓e_oGtI, ↓e_oGeI, ↓e_oIs, ↓e_oIn, ↓e_oIx, ↓e_oSl, ↓e_oLen, ↓e_oAbs, ↓e_oInt, ↓e_oMax2, ↓e_oMin2, ↓e_oList, ↓e_oTuple, ↓e_oIsi, ↓e_oAddI, ↓e_mAppend, ↓e_mExtend, ↓e_mPop, ↓e_mPopAt, ↓e_mInsert, ↓ng, ↓isNone, ↓e_noFd, ↓e_cells0, ↓arCell, ↓e_sTurn, ↓e_wip0, ↓e_wip1, ↓e_sIndex, List.map_cons, List.map_nil, List.length_cons, List.length_nil, List.cons_append, List.nil_append, List.replicate, Nat.reduceAdd, Nat.reduceSub, Nat.zero_add, List.getElem?_cons_zero, List.getElem?_cons_succ, List.set_cons_zero, List.set_cons_succ, if_true, if_false, ↓reduceIte, Bool.false_eq_true, true_and, and_true, not_true_eq_false, not_false_eq_true, decide_eq_true_eq, Bool.not_true, Bool.not_false, Bool.not_not, Bool.not_eq_true', decide_eq_false_iff_not, List.length_map, atI0, atI1, atI2, Nat.reduceLeDiff, Int.reduceEq, Int.reduceLT, Int.reduceLE, Int.reduceAdd, Int.reduceSub, Int.cast_ofNat_Int, isi_tuple, isi_list, isi_int, isi_bool, isi_str, isi_none, reduceCtorEq, Bool.true_eq_false, Nat.min_self]
    refine hK _ ?_; clear hK; clear K
    refine seq_step fun K hK => ?_; simp only [↓e_sNext, ↓e_sBreak, ↓e_sCont, ↓e_sDrop, ↓e_sRet, ↓e_sRetV, ↓e_sRetN, ↓e_sIfS, ↓e_sAsg, ↓e_sFor, ↓e_sVar, ↓e_sRV, ↓e_sRE, ↓e_sC, ↓e_aNil, ↓e_aCons, ↓e_ar, ↓e_dNil, ↓e_dCons, ↓e_fz, ↓e_sLst, ↓e_sTup, ↓e_s1, ↓e_s2, ↓e_s3, ↓e_s4, ↓e_rs, ↓e_sT, ↓e_sAnd, ↓e_sOr, ↓e_sNot, ↓e_vB, ↓e_sAndV, ↓e_sOrV, ↓e_sNotV, ↓e_sIf, ↓e_sgName, ↓e_cellOf, ↓e_sgNil, ↓e_sgCons, ↓e_sgTup, ↓e_sIt, ↓e_sRng1, ↓e_sRng2, ↓e_sEnum, ↓e_sZip, ↓e_sRev, ↓e_sRevR, ↓e_sRg1, ↓e_sRg2, ↓sI, ↓e_sLstR, ↓e_sCall, ↓e_sMeth, ↓e_sSetIx, ↓e_sAugIx, ↓e_sAug, ↓e_sSl, ↓e_pNo, ↓e_pSome, ↓e_sLc, ↓e_sYes, ↓e_sStep, ↓e_sIxG, ↓e_oAdd, ↓e_oI, ↓e_oI0, ↓e_oSub, ↓e_oMul, ↓e_oFdiv, ↓e_oMod, ↓e_oPow, ↓e_oShl, ↓e_oShr, ↓e_oNeg, ↓e_oEq, ↓e_oNe, ↓e_oLtI, ↓e_oLeI, ↓e_oGtI, ↓e_oGeI, ↓e_oIs, ↓e_oIn, ↓e_oIx, ↓e_oSl, ↓e_oLen, ↓e_oAbs, ↓e_oInt, ↓e_oMax2, ↓e_oMin2, ↓e_oList, ↓e_oTuple, ↓e_oIsi, ↓e_oAddI, ↓e_mAppend, ↓e_mExtend, ↓e_mPop, ↓e_mPopAt, ↓e_mInsert, ↓ng, ↓isNone, ↓e_noFd, ↓e_cells0, ↓arCell, ↓e_sTurn, ↓e_wip0, ↓e_wip1, ↓e_sIndex, List.map_cons, List.map_nil, List.length_cons, List.length_nil, List.cons_append, List.nil_append, List.replicate, Nat.reduceAdd, Nat.reduceSub, Nat.zero_add, List.getElem?_cons_zero, List.getElem?_cons_succ, List.set_cons_zero, List.set_cons_succ, if_true, if_false, ↓reduceIte, Bool.false_eq_true, true_and, and_true, not_true_eq_false, not_false_eq_true, decide_eq_true_eq, Bool.not_true, Bool.not_false, Bool.not_not, Bool.not_eq_true', decide_eq_false_iff_not, List.length_map, atI0, atI1, atI2, Nat.reduceLeDiff, Int.reduceEq, Int.reduceLT, Int.reduceLE, Int.reduceAdd, Int.reduceSub, Int.cast_ofNat_Int, isi_tuple, isi_list, isi_int, isi_bool, isi_str, isi_none, reduceCtorEq, Bool.true_eq_false, Nat.min_self]
    refine hK _ ?_; clear hK; clear K
    have fin : ∀ (t : NT) (ring : List Int) (c4 c5 c6 c7 c8 : Cell), OkN n t → ring.length ≤ 200 → (c5 = .mu (ring.map .int)) → (c4 = .mu (t.map dN) ∨ c4 = .im (.list (t.map dN))) →
      sIfS (sOr (sNot (sT (sCall F__law_ranks_judged (aCons (sVar 1) (aCons (sVar 3) (aCons (sVar 4) aNil)))))) (sNot (sT (sCall F__law_rings_judged (aCons (sVar 1) (aCons (sVar 3) (aCons (sVar 4) (aCons (sVar 5) aNil)))))))) (sRet (sC (.bool false))) (sNext)
        ⟨[.un, .fd, .im (.int (0 + (i : Int))), .im (.int n), c4, c5, c6, c7, c8], x⟩ { nx := kk, ct := kk, bk := fun _ => False, rt := fun v _ => v = .im (.bool true) } := by
      intro t ring c4 c5 c6 c7 c8 ok hr e5 e4
      subst e5
      rcases e4 with rfl | rfl
      all_goals
        simp only [↓e_sSeq, ↓e_sNext, ↓e_sBreak, ↓e_sCont, ↓e_sDrop, ↓e_sRet, ↓e_sRetV, ↓e_sRetN, ↓e_sIfS, ↓e_sAsg, ↓e_sFor, ↓e_sVar, ↓e_sRV, ↓e_sRE, ↓e_sC, ↓e_aNil, ↓e_aCons, ↓e_ar, ↓e_dNil, ↓e_dCons, ↓e_fz, ↓e_sLst, ↓e_sTup, ↓e_s1, ↓e_s2, ↓e_s3, ↓e_s4, ↓e_rs, ↓e_sT, ↓e_sAnd, ↓e_sOr, ↓e_sNot, ↓e_vB, ↓e_sAndV, ↓e_sOrV, ↓e_sNotV, ↓e_sIf, ↓e_sgName, ↓e_cellOf, ↓e_sgNil, ↓e_sgCons, ↓e_sgTup, ↓e_sIt, ↓e_sRng1, ↓e_sRng2, ↓e_sEnum, ↓e_sZip, ↓e_sRev, ↓e_sRevR, ↓e_sRg1, ↓e_sRg2, ↓sI, ↓e_sLstR, ↓e_sCall, ↓e_sMeth, ↓e_sSetIx, ↓e_sAugIx, ↓e_sAug, ↓e_sSl, ↓e_pNo, ↓e_pSome, ↓e_sLc, ↓e_sYes, ↓e_sStep, ↓e_sIxG, ↓e_oAdd, ↓e_oI, ↓e_oI0, ↓e_oSub, ↓e_oMul, ↓e_oFdiv, ↓e_oMod, ↓e_oPow, ↓e_oShl, ↓e_oShr, ↓e_oNeg, ↓e_oEq, ↓e_oNe, ↓e_oLtI, ↓e_oLeI, ↓e_oGtI, ↓e_oGeI, ↓e_oIs, ↓e_oIn, ↓e_oIx, ↓e_oSl, ↓e_oLen, ↓e_oAbs, ↓e_oInt, ↓e_oMax2, ↓e_oMin2, ↓e_oList, ↓e_oTuple, ↓e_oIsi, ↓e_oAddI, ↓e_mAppend, ↓e_mExtend, ↓e_mPop, ↓e_mPopAt, ↓e_mInsert, ↓ng, ↓isNone, ↓e_noFd, ↓e_cells0, ↓arCell, ↓e_sTurn, ↓e_wip0, ↓e_wip1, ↓e_sIndex, List.map_cons, List.map_nil, List.length_cons, List.length_nil, List.cons_append, List.nil_append, List.replicate, Nat.reduceAdd, Nat.reduceSub, Nat.zero_add, List.getElem?_cons_zero, List.getElem?_cons_succ, List.set_cons_zero, List.set_cons_succ, if_true, if_false, ↓reduceIte, Bool.false_eq_true, true_and, and_true, not_true_eq_false, not_false_eq_true, decide_eq_true_eq, Bool.not_true, Bool.not_false, Bool.not_not, Bool.not_eq_true', decide_eq_false_iff_not, List.length_map, atI0, atI1, atI2, Nat.reduceLeDiff, Int.reduceEq, Int.reduceLT, Int.reduceLE, Int.reduceAdd, Int.reduceSub, Int.cast_ofNat_Int, isi_tuple, isi_list, isi_int, isi_bool, isi_str, isi_none, reduceCtorEq, Bool.true_eq_false, Nat.min_self]
        refine F__law_ranks_judged_ap (by omega) ok ?_
        simp only [↓e_sSeq, ↓e_sNext, ↓e_sBreak, ↓e_sCont, ↓e_sDrop, ↓e_sRet, ↓e_sRetV, ↓e_sRetN, ↓e_sIfS, ↓e_sAsg, ↓e_sFor, ↓e_sVar, ↓e_sRV, ↓e_sRE, ↓e_sC, ↓e_aNil, ↓e_aCons, ↓e_ar, ↓e_dNil, ↓e_dCons, ↓e_fz, ↓e_sLst, ↓e_sTup, ↓e_s1, ↓e_s2, ↓e_s3, ↓e_s4, ↓e_rs, ↓e_sT, ↓e_sAnd, ↓e_sOr, ↓e_sNot, ↓e_vB, ↓e_sAndV, ↓e_sOrV, ↓e_sNotV, ↓e_sIf, ↓e_sgName, ↓e_cellOf, ↓e_sgNil, ↓e_sgCons, ↓e_sgTup, ↓e_sIt, ↓e_sRng1, ↓e_sRng2, ↓e_sEnum, ↓e_sZip, ↓e_sRev, ↓e_sRevR, ↓e_sRg1, ↓e_sRg2, ↓sI, ↓e_sLstR, ↓e_sCall, ↓e_sMeth, ↓e_sSetIx, ↓e_sAugIx, ↓e_sAug, ↓e_sSl, ↓e_pNo, ↓e_pSome, ↓e_sLc, ↓e_sYes, ↓e_sStep, ↓e_sIxG, ↓e_oAdd, ↓e_oI, ↓e_oI0, ↓e_oSub, ↓e_oMul, ↓e_oFdiv, ↓e_oMod, ↓e_oPow, ↓e_oShl, ↓e_oShr, ↓e_oNeg, ↓e_oEq, ↓e_oNe, ↓e_oLtI, ↓e_oLeI, ↓e_oGtI, ↓e_oGeI, ↓e_oIs, ↓e_oIn, ↓e_oIx, ↓e_oSl, ↓e_oLen, ↓e_oAbs, ↓e_oInt, ↓e_oMax2, ↓e_oMin2, ↓e_oList, ↓e_oTuple, ↓e_oIsi, ↓e_oAddI, ↓e_mAppend, ↓e_mExtend, ↓e_mPop, ↓e_mPopAt, ↓e_mInsert, ↓ng, ↓isNone, ↓e_noFd, ↓e_cells0, ↓arCell, ↓e_sTurn, ↓e_wip0, ↓e_wip1, ↓e_sIndex, List.map_cons, List.map_nil, List.length_cons, List.length_nil, List.cons_append, List.nil_append, List.replicate, Nat.reduceAdd, Nat.reduceSub, Nat.zero_add, List.getElem?_cons_zero, List.getElem?_cons_succ, List.set_cons_zero, List.set_cons_succ, if_true, if_false, ↓reduceIte, Bool.false_eq_true, true_and, and_true, not_true_eq_false, not_false_eq_true, decide_eq_true_eq, Bool.not_true, Bool.not_false, Bool.not_not, Bool.not_eq_true', decide_eq_false_iff_not, List.length_map, atI0, atI1, atI2, Nat.reduceLeDiff, Int.reduceEq, Int.reduceLT, Int.reduceLE, Int.reduceAdd, Int.reduceSub, Int.cast_ofNat_Int, isi_tuple, isi_list, isi_int, isi_bool, isi_str, isi_none, reduceCtorEq, Bool.true_eq_false, Nat.min_self]
        refine F__law_rings_judged_ap (by omega) ok.2 hr ?_
        simp only [↓e_sSeq, ↓e_sNext, ↓e_sBreak, ↓e_sCont, ↓e_sDrop, ↓e_sRet, ↓e_sRetV, ↓e_sRetN, ↓e_sIfS, ↓e_sAsg, ↓e_sFor, ↓e_sVar, ↓e_sRV, ↓e_sRE, ↓e_sC, ↓e_aNil, ↓e_aCons, ↓e_ar, ↓e_dNil, ↓e_dCons, ↓e_fz, ↓e_sLst, ↓e_sTup, ↓e_s1, ↓e_s2, ↓e_s3, ↓e_s4, ↓e_rs, ↓e_sT, ↓e_sAnd, ↓e_sOr, ↓e_sNot, ↓e_vB, ↓e_sAndV, ↓e_sOrV, ↓e_sNotV, ↓e_sIf, ↓e_sgName, ↓e_cellOf, ↓e_sgNil, ↓e_sgCons, ↓e_sgTup, ↓e_sIt, ↓e_sRng1, ↓e_sRng2, ↓e_sEnum, ↓e_sZip, ↓e_sRev, ↓e_sRevR, ↓e_sRg1, ↓e_sRg2, ↓sI, ↓e_sLstR, ↓e_sCall, ↓e_sMeth, ↓e_sSetIx, ↓e_sAugIx, ↓e_sAug, ↓e_sSl, ↓e_pNo, ↓e_pSome, ↓e_sLc, ↓e_sYes, ↓e_sStep, ↓e_sIxG, ↓e_oAdd, ↓e_oI, ↓e_oI0, ↓e_oSub, ↓e_oMul, ↓e_oFdiv, ↓e_oMod, ↓e_oPow, ↓e_oShl, ↓e_oShr, ↓e_oNeg, ↓e_oEq, ↓e_oNe, ↓e_oLtI, ↓e_oLeI, ↓e_oGtI, ↓e_oGeI, ↓e_oIs, ↓e_oIn, ↓e_oIx, ↓e_oSl, ↓e_oLen, ↓e_oAbs, ↓e_oInt, ↓e_oMax2, ↓e_oMin2, ↓e_oList, ↓e_oTuple, ↓e_oIsi, ↓e_oAddI, ↓e_mAppend, ↓e_mExtend, ↓e_mPop, ↓e_mPopAt, ↓e_mInsert, ↓ng, ↓isNone, ↓e_noFd, ↓e_cells0, ↓arCell, ↓e_sTurn, ↓e_wip0, ↓e_wip1, ↓e_sIndex, List.map_cons, List.map_nil, List.length_cons, List.length_nil, List.cons_append, List.nil_append, List.replicate, Nat.reduceAdd, Nat.reduceSub, Nat.zero_add, List.getElem?_cons_zero, List.getElem?_cons_succ, List.set_cons_zero, List.set_cons_succ, if_true, if_false, ↓reduceIte, Bool.false_eq_true, true_and, and_true, not_true_eq_false, not_false_eq_true, decide_eq_true_eq, Bool.not_true, Bool.not_false, Bool.not_not, Bool.not_eq_true', decide_eq_false_iff_not, List.length_map, atI0, atI1, atI2, Nat.reduceLeDiff, Int.reduceEq, Int.reduceLT, Int.reduceLE, Int.reduceAdd, Int.reduceSub, Int.cast_ofNat_Int, isi_tuple, isi_list, isi_int, isi_bool, isi_str, isi_none, reduceCtorEq, Bool.true_eq_false, Nat.min_self]
        exact hk _ ⟨_, _, _, _, _, _, _, rfl⟩
    by_cases hg : (0 : Int) < (t.length : Int)
    · refine seq_step fun K hK => ?_; simp only [↓e_sNext, ↓e_sBreak, ↓e_sCont, ↓e_sDrop, ↓e_sRet, ↓e_sRetV, ↓e_sRetN, ↓e_sIfS, ↓e_sAsg, ↓e_sFor, ↓e_sVar, ↓e_sRV, ↓e_sRE, ↓e_sC, ↓e_aNil, ↓e_aCons, ↓e_ar, ↓e_dNil, ↓e_dCons, ↓e_fz, ↓e_sLst, ↓e_sTup, ↓e_s1, ↓e_s2, ↓e_s3, ↓e_s4, ↓e_rs, ↓e_sT, ↓e_sAnd, ↓e_sOr, ↓e_sNot, ↓e_vB, ↓e_sAndV, ↓e_sOrV, ↓e_sNotV, ↓e_sIf, ↓e_sgName, ↓e_cellOf, ↓e_sgNil, ↓e_sgCons, ↓e_sgTup, ↓e_sIt, ↓e_sRng1, ↓e_sRng2, ↓e_sEnum, ↓e_sZip, ↓e_sRev, ↓e_sRevR, ↓e_sRg1, ↓e_sRg2, ↓sI, ↓e_sLstR, ↓e_sCall, ↓e_sMeth, ↓e_sSetIx, ↓e_sAugIx, ↓e_sAug, ↓e_sSl, ↓e_pNo, ↓e_pSome, ↓e_sLc, ↓e_sYes, ↓e_sStep, ↓e_sIxG, ↓e_oAdd, ↓e_oI, ↓e_oI0, ↓e_oSub, ↓e_oMul, ↓e_oFdiv, ↓e_oMod, ↓e_oPow, ↓e_oShl, ↓e_oShr, ↓e_oNeg, ↓e_oEq, ↓e_oNe, ↓e_oLtI, ↓e_oLeI, ↓e_oGtI, ↓e_oGeI, ↓e_oIs, ↓e_oIn, ↓e_oIx, ↓e_oSl, ↓e_oLen, ↓e_oAbs, ↓e_oInt, ↓e_oMax2, ↓e_oMin2, ↓e_oList, ↓e_oTuple, ↓e_oIsi, ↓e_oAddI, ↓e_mAppend, ↓e_mExtend, ↓e_mPop, ↓e_mPopAt, ↓e_mInsert, ↓ng, ↓isNone, ↓e_noFd, ↓e_cells0, ↓arCell, ↓e_sTurn, ↓e_wip0, ↓e_wip1, ↓e_sIndex, List.map_cons, List.map_nil, List.length_cons, List.length_nil, List.cons_append, List.nil_append, List.replicate, Nat.reduceAdd, Nat.reduceSub, Nat.zero_add, List.getElem?_cons_zero, List.getElem?_cons_succ, List.set_cons_zero, List.set_cons_succ, if_true, if_false, ↓reduceIte, Bool.false_eq_true, true_and, and_true, not_true_eq_false, not_false_eq_true, decide_eq_true_eq, Bool.not_true, Bool.not_false, Bool.not_not, Bool.not_eq_true', decide_eq_false_iff_not, List.length_map, atI0, atI1, atI2, Nat.reduceLeDiff, Int.reduceEq, Int.reduceLT, Int.reduceLE, Int.reduceAdd, Int.reduceSub, Int.cast_ofNat_Int, isi_tuple, isi_list, isi_int, isi_bool, isi_str, isi_none, reduceCtorEq, Bool.true_eq_false, Nat.min_self, hg]
      refine seq_step fun K hK => ?_; simp only [↓e_sNext, ↓e_sBreak, ↓e_sCont, ↓e_sDrop, ↓e_sRet, ↓e_sRetV, ↓e_sRetN, ↓e_sIfS, ↓e_sAsg, ↓e_sFor, ↓e_sVar, ↓e_sRV, ↓e_sRE, ↓e_sC, ↓e_aNil, ↓e_aCons, ↓e_ar, ↓e_dNil, ↓e_dCons, ↓e_fz, ↓e_sLst, ↓e_sTup, ↓e_s1, ↓e_s2, ↓e_s3, ↓e_s4, ↓e_rs, ↓e_sT, ↓e_sAnd, ↓e_sOr, ↓e_sNot, ↓e_vB, ↓e_sAndV, ↓e_sOrV, ↓e_sNotV, ↓e_sIf, ↓e_sgName, ↓e_cellOf, ↓e_sgNil, ↓e_sgCons, ↓e_sgTup, ↓e_sIt, ↓e_sRng1, ↓e_sRng2, ↓e_sEnum, ↓e_sZip, ↓e_sRev, ↓e_sRevR, ↓e_sRg1, ↓e_sRg2, ↓sI, ↓e_sLstR, ↓e_sCall, ↓e_sMeth, ↓e_sSetIx, ↓e_sAugIx, ↓e_sAug, ↓e_sSl, ↓e_pNo, ↓e_pSome, ↓e_sLc, ↓e_sYes, ↓e_sStep, ↓e_sIxG, ↓e_oAdd, ↓e_oI, ↓e_oI0, ↓e_oSub, ↓e_oMul, ↓e_oFdiv, ↓e_oMod, ↓e_oPow, ↓e_oShl, ↓e_oShr, ↓e_oNeg, ↓e_oEq, ↓e_oNe, ↓e_oLtI, ↓e_oLeI, ↓e_oGtI, ↓e_oGeI, ↓e_oIs, ↓e_oIn, ↓e_oIx, ↓e_oSl, ↓e_oLen, ↓e_oAbs, ↓e_oInt, ↓e_oMax2, ↓e_oMin2, ↓e_oList, ↓e_oTuple, ↓e_oIsi, ↓e_oAddI, ↓e_mAppend, ↓e_mExtend, ↓e_mPop, ↓e_mPopAt, ↓e_mInsert, ↓ng, ↓isNone, ↓e_noFd, ↓e_cells0, ↓arCell, ↓e_sTurn, ↓e_wip0, ↓e_wip1, ↓e_sIndex, List.map_cons, List.map_nil, List.length_cons, List.length_nil, List.cons_append, List.nil_append, List.replicate, Nat.reduceAdd, Nat.reduceSub, Nat.zero_add, List.getElem?_cons_zero, List.getElem?_cons_succ, List.set_cons_zero, List.set_cons_succ, if_true, if_false, ↓reduceIte, Bool.false_eq_true, true_and, and_true, not_true_eq_false, not_false_eq_true, decide_eq_true_eq, Bool.not_true, Bool.not_false, Bool.not_not, Bool.not_eq_true', decide_eq_false_iff_not, List.length_map, atI0, atI1, atI2, Nat.reduceLeDiff, Int.reduceEq, Int.reduceLT, Int.reduceLE, Int.reduceAdd, Int.reduceSub, Int.cast_ofNat_Int, isi_tuple, isi_list, isi_int, isi_bool, isi_str, isi_none, reduceCtorEq, Bool.true_eq_false, Nat.min_self, F__law_draw_ap]
      refine ⟨by omega, by have := ok.2; omega, fun q q0 q1 => ?_⟩
      obtain ⟨p, hp⟩ : ∃ p, t[q.toNat]? = some p := ⟨_, List.getElem?_eq_getElem (by omega)⟩
      have e1 : L2.atI (t.map dN) q = some (.tuple [.int p.1, .int p.2.1, .int p.2.2]) := by rw [atI_nn _ _ q0, List.getElem?_map, hp]; rfl
      simp only [↓e_sSeq, ↓e_sNext, ↓e_sBreak, ↓e_sCont, ↓e_sDrop, ↓e_sRet, ↓e_sRetV, ↓e_sRetN, ↓e_sIfS, ↓e_sAsg, ↓e_sFor, ↓e_sVar, ↓e_sRV, ↓e_sRE, ↓e_sC, ↓e_aNil, ↓e_aCons, ↓e_ar, ↓e_dNil, ↓e_dCons, ↓e_fz, ↓e_sLst, ↓e_sTup, ↓e_s1, ↓e_s2, ↓e_s3, ↓e_s4, ↓e_rs, ↓e_sT, ↓e_sAnd, ↓e_sOr, ↓e_sNot, ↓e_vB, ↓e_sAndV, ↓e_sOrV, ↓e_sNotV, ↓e_sIf, ↓e_sgName, ↓e_cellOf, ↓e_sgNil, ↓e_sgCons, ↓e_sgTup, ↓e_sIt, ↓e_sRng1, ↓e_sRng2, ↓e_sEnum, ↓e_sZip, ↓e_sRev, ↓e_sRevR, ↓e_sRg1, ↓e_sRg2, ↓sI, ↓e_sLstR, ↓e_sCall, ↓e_sMeth, ↓e_sSetIx, ↓e_sAugIx, ↓e_sAug, ↓e_sSl, ↓e_pNo, ↓e_pSome, ↓e_sLc, ↓e_sYes, ↓e_sStep, ↓e_sIxG, ↓e_oAdd, ↓e_oI, ↓e_oI0, ↓e_oSub, ↓e_oMul, ↓e_oFdiv, ↓e_oMod, ↓e_oPow, ↓e_oShl, ↓e_oShr, ↓e_oNeg, ↓e_oEq, ↓e_oNe, ↓e_oLtI, ↓e_oLeI, ↓e_oGtI, ↓e_oGeI, ↓e_oIs, ↓e_oIn, ↓e_oIx, ↓e_oSl, ↓e_oLen, ↓e_oAbs, ↓e_oInt, ↓e_oMax2, ↓e_oMin2, ↓e_oList, ↓e_oTuple, ↓e_oIsi, ↓e_oAddI, ↓e_mAppend, ↓e_mExtend, ↓e_mPop, ↓e_mPopAt, ↓e_mInsert, ↓ng, ↓isNone, ↓e_noFd, ↓e_cells0, ↓arCell, ↓e_sTurn, ↓e_wip0, ↓e_wip1, ↓e_sIndex, List.map_cons, List.map_nil, List.length_cons, List.length_nil, List.cons_append, List.nil_append, List.replicate, Nat.reduceAdd, Nat.reduceSub, Nat.zero_add, List.getElem?_cons_zero, List.getElem?_cons_succ, List.set_cons_zero, List.set_cons_succ, if_true, if_false, ↓reduceIte, Bool.false_eq_true, true_and, and_true, not_true_eq_false, not_false_eq_true, decide_eq_true_eq, Bool.not_true, Bool.not_false, Bool.not_not, Bool.not_eq_true', decide_eq_false_iff_not, List.length_map, atI0, atI1, atI2, Nat.reduceLeDiff, Int.reduceEq, Int.reduceLT, Int.reduceLE, Int.reduceAdd, Int.reduceSub, Int.cast_ofNat_Int, isi_tuple, isi_list, isi_int, isi_bool, isi_str, isi_none, reduceCtorEq, Bool.true_eq_false, Nat.min_self, e1]
      refine hK _ ?_; clear hK; clear K
      refine seq_step fun K hK => ?_; simp only [↓e_sNext, ↓e_sBreak, ↓e_sCont, ↓e_sDrop, ↓e_sRet, ↓e_sRetV, ↓e_sRetN, ↓e_sIfS, ↓e_sAsg, ↓e_sFor, ↓e_sVar, ↓e_sRV, ↓e_sRE, ↓e_sC, ↓e_aNil, ↓e_aCons, ↓e_ar, ↓e_dNil, ↓e_dCons, ↓e_fz, ↓e_sLst, ↓e_sTup, ↓e_s1, ↓e_s2, ↓e_s3, ↓e_s4, ↓e_rs, ↓e_sT, ↓e_sAnd, ↓e_sOr, ↓e_sNot, ↓e_vB, ↓e_sAndV, ↓e_sOrV, ↓e_sNotV, ↓e_sIf, ↓e_sgName, ↓e_cellOf, ↓e_sgNil, ↓e_sgCons, ↓e_sgTup, ↓e_sIt, ↓e_sRng1, ↓e_sRng2, ↓e_sEnum, ↓e_sZip, ↓e_sRev, ↓e_sRevR, ↓e_sRg1, ↓e_sRg2, ↓sI, ↓e_sLstR, ↓e_sCall, ↓e_sMeth, ↓e_sSetIx, ↓e_sAugIx, ↓e_sAug, ↓e_sSl, ↓e_pNo, ↓e_pSome, ↓e_sLc, ↓e_sYes, ↓e_sStep, ↓e_sIxG, ↓e_oAdd, ↓e_oI, ↓e_oI0, ↓e_oSub, ↓e_oMul, ↓e_oFdiv, ↓e_oMod, ↓e_oPow, ↓e_oShl, ↓e_oShr, ↓e_oNeg, ↓e_oEq, ↓e_oNe, ↓e_oLtI, ↓e_oLeI, ↓e_oGtI, ↓e_oGeI, ↓e_oIs, ↓e_oIn, ↓e_oIx, ↓e_oSl, ↓e_oLen, ↓e_oAbs, ↓e_oInt, ↓e_oMax2, ↓e_oMin2, ↓e_oList, ↓e_oTuple, ↓e_oIsi, ↓e_oAddI, ↓e_mAppend, ↓e_mExtend, ↓e_mPop, ↓e_mPopAt, ↓e_mInsert, ↓ng, ↓isNone, ↓e_noFd, ↓e_cells0, ↓arCell, ↓e_sTurn, ↓e_wip0, ↓e_wip1, ↓e_sIndex, List.map_cons, List.map_nil, List.length_cons, List.length_nil, List.cons_append, List.nil_append, List.replicate, Nat.reduceAdd, Nat.reduceSub, Nat.zero_add, List.getElem?_cons_zero, List.getElem?_cons_succ, List.set_cons_zero, List.set_cons_succ, if_true, if_false, ↓reduceIte, Bool.false_eq_true, true_and, and_true, not_true_eq_false, not_false_eq_true, decide_eq_true_eq, Bool.not_true, Bool.not_false, Bool.not_not, Bool.not_eq_true', decide_eq_false_iff_not, List.length_map, atI0, atI1, atI2, Nat.reduceLeDiff, Int.reduceEq, Int.reduceLT, Int.reduceLE, Int.reduceAdd, Int.reduceSub, Int.cast_ofNat_Int, isi_tuple, isi_list, isi_int, isi_bool, isi_str, isi_none, reduceCtorEq, Bool.true_eq_false, Nat.min_self]
      refine hK _ ?_; clear hK; clear K
      simp only [↓e_sSeq, ↓e_sNext, ↓e_sBreak, ↓e_sCont, ↓e_sDrop, ↓e_sRet, ↓e_sRetV, ↓e_sRetN, ↓e_sIfS, ↓e_sAsg, ↓e_sFor, ↓e_sVar, ↓e_sRV, ↓e_sRE, ↓e_sC, ↓e_aNil, ↓e_aCons, ↓e_ar, ↓e_dNil, ↓e_dCons, ↓e_fz, ↓e_sLst, ↓e_sTup, ↓e_s1, ↓e_s2, ↓e_s3, ↓e_s4, ↓e_rs, ↓e_sT, ↓e_sAnd, ↓e_sOr, ↓e_sNot, ↓e_vB, ↓e_sAndV, ↓e_sOrV, ↓e_sNotV, ↓e_sIf, ↓e_sgName, ↓e_cellOf, ↓e_sgNil, ↓e_sgCons, ↓e_sgTup, ↓e_sIt, ↓e_sRng1, ↓e_sRng2, ↓e_sEnum, ↓e_sZip, ↓e_sRev, ↓e_sRevR, ↓e_sRg1, ↓e_sRg2, ↓sI, ↓e_sLstR, ↓e_sCall, ↓e_sMeth, ↓e_sSetIx, ↓e_sAugIx, ↓e_sAug, ↓e_sSl, ↓e_pNo, ↓e_pSome, ↓e_sLc, ↓e_sYes, ↓e_sStep, ↓e_sIxG, ↓e_oAdd, ↓e_oI, ↓e_oI0, ↓e_oSub, ↓e_oMul, ↓e_oFdiv, ↓e_oMod, ↓e_oPow, ↓e_oShl, ↓e_oShr, ↓e_oNeg, ↓e_oEq, ↓e_oNe, ↓e_oLtI, ↓e_oLeI, ↓e_oGtI, ↓e_oGeI, ↓e_oIs, ↓e_oIn, ↓e_oIx, ↓e_oSl, ↓e_oLen, ↓e_oAbs, ↓e_oInt, ↓e_oMax2, ↓e_oMin2, ↓e_oList, ↓e_oTuple, ↓e_oIsi, ↓e_oAddI, ↓e_mAppend, ↓e_mExtend, ↓e_mPop, ↓e_mPopAt, ↓e_mInsert, ↓ng, ↓isNone, ↓e_noFd, ↓e_cells0, ↓arCell, ↓e_sTurn, ↓e_wip0, ↓e_wip1, ↓e_sIndex, List.map_cons, List.map_nil, List.length_cons, List.length_nil, List.cons_append, List.nil_append, List.replicate, Nat.reduceAdd, Nat.reduceSub, Nat.zero_add, List.getElem?_cons_zero, List.getElem?_cons_succ, List.set_cons_zero, List.set_cons_succ, if_true, if_false, ↓reduceIte, Bool.false_eq_true, true_and, and_true, not_true_eq_false, not_false_eq_true, decide_eq_true_eq, Bool.not_true, Bool.not_false, Bool.not_not, Bool.not_eq_true', decide_eq_false_iff_not, List.length_map, atI0, atI1, atI2, Nat.reduceLeDiff, Int.reduceEq, Int.reduceLT, Int.reduceLE, Int.reduceAdd, Int.reduceSub, Int.cast_ofNat_Int, isi_tuple, isi_list, isi_int, isi_bool, isi_str, isi_none, reduceCtorEq, Bool.true_eq_false, Nat.min_self, F__law_draw_ap]
      refine fun w w0 w1 => ?_
      have hpr := ok.1 p (List.mem_of_getElem? hp)
      by_cases hw : w = 0
      · simp only [↓e_sSeq, ↓e_sNext, ↓e_sBreak, ↓e_sCont, ↓e_sDrop, ↓e_sRet, ↓e_sRetV, ↓e_sRetN, ↓e_sIfS, ↓e_sAsg, ↓e_sFor, ↓e_sVar, ↓e_sRV, ↓e_sRE, ↓e_sC, ↓e_aNil, ↓e_aCons, ↓e_ar, ↓e_dNil, ↓e_dCons, ↓e_fz, ↓e_sLst, ↓e_sTup, ↓e_s1, ↓e_s2, ↓e_s3, ↓e_s4, ↓e_rs, ↓e_sT, ↓e_sAnd, ↓e_sOr, ↓e_sNot, ↓e_vB, ↓e_sAndV, ↓e_sOrV, ↓e_sNotV, ↓e_sIf, ↓e_sgName, ↓e_cellOf, ↓e_sgNil, ↓e_sgCons, ↓e_sgTup, ↓e_sIt, ↓e_sRng1, ↓e_sRng2, ↓e_sEnum, ↓e_sZip, ↓e_sRev, ↓e_sRevR, ↓e_sRg1, ↓e_sRg2, ↓sI, ↓e_sLstR, ↓e_sCall, ↓e_sMeth, ↓e_sSetIx, ↓e_sAugIx, ↓e_sAug, ↓e_sSl, ↓e_pNo, ↓e_pSome, ↓e_sLc, ↓e_sYes, ↓e_sStep, ↓e_sIxG, ↓e_oAdd, ↓e_oI, ↓e_oI0, ↓e_oSub, ↓e_oMul, ↓e_oFdiv, ↓e_oMod, ↓e_oPow, ↓e_oShl, ↓e_oShr, ↓e_oNeg, ↓e_oEq, ↓e_oNe, ↓e_oLtI, ↓e_oLeI, ↓e_oGtI, ↓e_oGeI, ↓e_oIs, ↓e_oIn, ↓e_oIx, ↓e_oSl, ↓e_oLen, ↓e_oAbs, ↓e_oInt, ↓e_oMax2, ↓e_oMin2, ↓e_oList, ↓e_oTuple, ↓e_oIsi, ↓e_oAddI, ↓e_mAppend, ↓e_mExtend, ↓e_mPop, ↓e_mPopAt, ↓e_mInsert, ↓ng, ↓isNone, ↓e_noFd, ↓e_cells0, ↓arCell, ↓e_sTurn, ↓e_wip0, ↓e_wip1, ↓e_sIndex, List.map_cons, List.map_nil, List.length_cons, List.length_nil, List.cons_append, List.nil_append, List.replicate, Nat.reduceAdd, Nat.reduceSub, Nat.zero_add, List.getElem?_cons_zero, List.getElem?_cons_succ, List.set_cons_zero, List.set_cons_succ, if_true, if_false, ↓reduceIte, Bool.false_eq_true, true_and, and_true, not_true_eq_false, not_false_eq_true, decide_eq_true_eq, Bool.not_true, Bool.not_false, Bool.not_not, Bool.not_eq_true', decide_eq_false_iff_not, List.length_map, atI0, atI1, atI2, Nat.reduceLeDiff, Int.reduceEq, Int.reduceLT, Int.reduceLE, Int.reduceAdd, Int.reduceSub, Int.cast_ofNat_Int, isi_tuple, isi_list, isi_int, isi_bool, isi_str, isi_none, reduceCtorEq, Bool.true_eq_false, Nat.min_self, eq_true hw]
        have okc : OkN n ((p.2.1, p.1, 1) :: t) := ⟨fun z hz => by
          rcases List.mem_cons.mp hz with rfl | hz
          · exact ⟨hpr.2, hpr.1⟩
          · exact ok.1 z hz, by simp only [List.length_cons]; omega⟩
        refine ⟨by omega, F__law_ring_ap (t := (p.2.1, p.1, 1) :: t) (by omega) (by simp) okc fun rg _ hrg => ?_⟩
        simp only [↓e_sSeq, ↓e_sNext, ↓e_sBreak, ↓e_sCont, ↓e_sDrop, ↓e_sRet, ↓e_sRetV, ↓e_sRetN, ↓e_sIfS, ↓e_sAsg, ↓e_sFor, ↓e_sVar, ↓e_sRV, ↓e_sRE, ↓e_sC, ↓e_aNil, ↓e_aCons, ↓e_ar, ↓e_dNil, ↓e_dCons, ↓e_fz, ↓e_sLst, ↓e_sTup, ↓e_s1, ↓e_s2, ↓e_s3, ↓e_s4, ↓e_rs, ↓e_sT, ↓e_sAnd, ↓e_sOr, ↓e_sNot, ↓e_vB, ↓e_sAndV, ↓e_sOrV, ↓e_sNotV, ↓e_sIf, ↓e_sgName, ↓e_cellOf, ↓e_sgNil, ↓e_sgCons, ↓e_sgTup, ↓e_sIt, ↓e_sRng1, ↓e_sRng2, ↓e_sEnum, ↓e_sZip, ↓e_sRev, ↓e_sRevR, ↓e_sRg1, ↓e_sRg2, ↓sI, ↓e_sLstR, ↓e_sCall, ↓e_sMeth, ↓e_sSetIx, ↓e_sAugIx, ↓e_sAug, ↓e_sSl, ↓e_pNo, ↓e_pSome, ↓e_sLc, ↓e_sYes, ↓e_sStep, ↓e_sIxG, ↓e_oAdd, ↓e_oI, ↓e_oI0, ↓e_oSub, ↓e_oMul, ↓e_oFdiv, ↓e_oMod, ↓e_oPow, ↓e_oShl, ↓e_oShr, ↓e_oNeg, ↓e_oEq, ↓e_oNe, ↓e_oLtI, ↓e_oLeI, ↓e_oGtI, ↓e_oGeI, ↓e_oIs, ↓e_oIn, ↓e_oIx, ↓e_oSl, ↓e_oLen, ↓e_oAbs, ↓e_oInt, ↓e_oMax2, ↓e_oMin2, ↓e_oList, ↓e_oTuple, ↓e_oIsi, ↓e_oAddI, ↓e_mAppend, ↓e_mExtend, ↓e_mPop, ↓e_mPopAt, ↓e_mInsert, ↓ng, ↓isNone, ↓e_noFd, ↓e_cells0, ↓arCell, ↓e_sTurn, ↓e_wip0, ↓e_wip1, ↓e_sIndex, List.map_cons, List.map_nil, List.length_cons, List.length_nil, List.cons_append, List.nil_append, List.replicate, Nat.reduceAdd, Nat.reduceSub, Nat.zero_add, List.getElem?_cons_zero, List.getElem?_cons_succ, List.set_cons_zero, List.set_cons_succ, if_true, if_false, ↓reduceIte, Bool.false_eq_true, true_and, and_true, not_true_eq_false, not_false_eq_true, decide_eq_true_eq, Bool.not_true, Bool.not_false, Bool.not_not, Bool.not_eq_true', decide_eq_false_iff_not, List.length_map, atI0, atI1, atI2, Nat.reduceLeDiff, Int.reduceEq, Int.reduceLT, Int.reduceLE, Int.reduceAdd, Int.reduceSub, Int.cast_ofNat_Int, isi_tuple, isi_list, isi_int, isi_bool, isi_str, isi_none, reduceCtorEq, Bool.true_eq_false, Nat.min_self]
        refine hK _ ?_
        exact fin ((p.2.1, p.1, 1) :: t) rg _ _ _ _ _ okc hrg rfl (.inr rfl)
      · simp only [↓e_sSeq, ↓e_sNext, ↓e_sBreak, ↓e_sCont, ↓e_sDrop, ↓e_sRet, ↓e_sRetV, ↓e_sRetN, ↓e_sIfS, ↓e_sAsg, ↓e_sFor, ↓e_sVar, ↓e_sRV, ↓e_sRE, ↓e_sC, ↓e_aNil, ↓e_aCons, ↓e_ar, ↓e_dNil, ↓e_dCons, ↓e_fz, ↓e_sLst, ↓e_sTup, ↓e_s1, ↓e_s2, ↓e_s3, ↓e_s4, ↓e_rs, ↓e_sT, ↓e_sAnd, ↓e_sOr, ↓e_sNot, ↓e_vB, ↓e_sAndV, ↓e_sOrV, ↓e_sNotV, ↓e_sIf, ↓e_sgName, ↓e_cellOf, ↓e_sgNil, ↓e_sgCons, ↓e_sgTup, ↓e_sIt, ↓e_sRng1, ↓e_sRng2, ↓e_sEnum, ↓e_sZip, ↓e_sRev, ↓e_sRevR, ↓e_sRg1, ↓e_sRg2, ↓sI, ↓e_sLstR, ↓e_sCall, ↓e_sMeth, ↓e_sSetIx, ↓e_sAugIx, ↓e_sAug, ↓e_sSl, ↓e_pNo, ↓e_pSome, ↓e_sLc, ↓e_sYes, ↓e_sStep, ↓e_sIxG, ↓e_oAdd, ↓e_oI, ↓e_oI0, ↓e_oSub, ↓e_oMul, ↓e_oFdiv, ↓e_oMod, ↓e_oPow, ↓e_oShl, ↓e_oShr, ↓e_oNeg, ↓e_oEq, ↓e_oNe, ↓e_oLtI, ↓e_oLeI, ↓e_oGtI, ↓e_oGeI, ↓e_oIs, ↓e_oIn, ↓e_oIx, ↓e_oSl, ↓e_oLen, ↓e_oAbs, ↓e_oInt, ↓e_oMax2, ↓e_oMin2, ↓e_oList, ↓e_oTuple, ↓e_oIsi, ↓e_oAddI, ↓e_mAppend, ↓e_mExtend, ↓e_mPop, ↓e_mPopAt, ↓e_mInsert, ↓ng, ↓isNone, ↓e_noFd, ↓e_cells0, ↓arCell, ↓e_sTurn, ↓e_wip0, ↓e_wip1, ↓e_sIndex, List.map_cons, List.map_nil, List.length_cons, List.length_nil, List.cons_append, List.nil_append, List.replicate, Nat.reduceAdd, Nat.reduceSub, Nat.zero_add, List.getElem?_cons_zero, List.getElem?_cons_succ, List.set_cons_zero, List.set_cons_succ, if_true, if_false, ↓reduceIte, Bool.false_eq_true, true_and, and_true, not_true_eq_false, not_false_eq_true, decide_eq_true_eq, Bool.not_true, Bool.not_false, Bool.not_not, Bool.not_eq_true', decide_eq_false_iff_not, List.length_map, atI0, atI1, atI2, Nat.reduceLeDiff, Int.reduceEq, Int.reduceLT, Int.reduceLE, Int.reduceAdd, Int.reduceSub, Int.cast_ofNat_Int, isi_tuple, isi_list, isi_int, isi_bool, isi_str, isi_none, reduceCtorEq, Bool.true_eq_false, Nat.min_self, eq_false hw]
        refine hK _ ?_
        exact fin t [p.1, p.2.1] _ _ _ _ _ ok (by simp) rfl (.inl rfl)
    · refine seq_step fun K hK => ?_; simp only [↓e_sNext, ↓e_sBreak, ↓e_sCont, ↓e_sDrop, ↓e_sRet, ↓e_sRetV, ↓e_sRetN, ↓e_sIfS, ↓e_sAsg, ↓e_sFor, ↓e_sVar, ↓e_sRV, ↓e_sRE, ↓e_sC, ↓e_aNil, ↓e_aCons, ↓e_ar, ↓e_dNil, ↓e_dCons, ↓e_fz, ↓e_sLst, ↓e_sTup, ↓e_s1, ↓e_s2, ↓e_s3, ↓e_s4, ↓e_rs, ↓e_sT, ↓e_sAnd, ↓e_sOr, ↓e_sNot, ↓e_vB, ↓e_sAndV, ↓e_sOrV, ↓e_sNotV, ↓e_sIf, ↓e_sgName, ↓e_cellOf, ↓e_sgNil, ↓e_sgCons, ↓e_sgTup, ↓e_sIt, ↓e_sRng1, ↓e_sRng2, ↓e_sEnum, ↓e_sZip, ↓e_sRev, ↓e_sRevR, ↓e_sRg1, ↓e_sRg2, ↓sI, ↓e_sLstR, ↓e_sCall, ↓e_sMeth, ↓e_sSetIx, ↓e_sAugIx, ↓e_sAug, ↓e_sSl, ↓e_pNo, ↓e_pSome, ↓e_sLc, ↓e_sYes, ↓e_sStep, ↓e_sIxG, ↓e_oAdd, ↓e_oI, ↓e_oI0, ↓e_oSub, ↓e_oMul, ↓e_oFdiv, ↓e_oMod, ↓e_oPow, ↓e_oShl, ↓e_oShr, ↓e_oNeg, ↓e_oEq, ↓e_oNe, ↓e_oLtI, ↓e_oLeI, ↓e_oGtI, ↓e_oGeI, ↓e_oIs, ↓e_oIn, ↓e_oIx, ↓e_oSl, ↓e_oLen, ↓e_oAbs, ↓e_oInt, ↓e_oMax2, ↓e_oMin2, ↓e_oList, ↓e_oTuple, ↓e_oIsi, ↓e_oAddI, ↓e_mAppend, ↓e_mExtend, ↓e_mPop, ↓e_mPopAt, ↓e_mInsert, ↓ng, ↓isNone, ↓e_noFd, ↓e_cells0, ↓arCell, ↓e_sTurn, ↓e_wip0, ↓e_wip1, ↓e_sIndex, List.map_cons, List.map_nil, List.length_cons, List.length_nil, List.cons_append, List.nil_append, List.replicate, Nat.reduceAdd, Nat.reduceSub, Nat.zero_add, List.getElem?_cons_zero, List.getElem?_cons_succ, List.set_cons_zero, List.set_cons_succ, if_true, if_false, ↓reduceIte, Bool.false_eq_true, true_and, and_true, not_true_eq_false, not_false_eq_true, decide_eq_true_eq, Bool.not_true, Bool.not_false, Bool.not_not, Bool.not_eq_true', decide_eq_false_iff_not, List.length_map, atI0, atI1, atI2, Nat.reduceLeDiff, Int.reduceEq, Int.reduceLT, Int.reduceLE, Int.reduceAdd, Int.reduceSub, Int.cast_ofNat_Int, isi_tuple, isi_list, isi_int, isi_bool, isi_str, isi_none, reduceCtorEq, Bool.true_eq_false, Nat.min_self, hg]
      refine hK _ ?_; clear hK; clear K
      exact fin t [0] _ _ _ _ _ ok (by simp) rfl (.inl rfl)
end Lw

namespace Lw
open PySem PySem.Spec L2 Dv
open PyProof.Rows hiding St
abbrev F__law_draw := F_draw
theorem all_mk {l : PySem.W.OpenLaw} {w : World} {K : PySem.W.Frag} {h : Heap} {mg : Str → Option Value} {fa : Addr} (X : K.In h) (G : h.Ns mainGlobals mg) (hfa : mg "law" = some (.ref fa))
    {od_is_whole an_is_whole : Option Addr} {sl_is_whole : Array (Option Value)} {oc_is_whole kV_is_whole dc_is_whole pm_is_whole cd_is_whole ct_is_whole : Value} {f_is_whole : Addr}
    (a_is_whole : PySem.W.nsIn K mainGlobals "is_whole" = some (some (.ref f_is_whole))) (l_is_whole : K.lookup f_is_whole = some ⟨oc_is_whole, od_is_whole, .func (PySem.W.fnOf "is_whole" "is_whole" (defArgs st_is_whole) (defBody st_is_whole) (defScope st_is_whole) .none kV_is_whole dc_is_whole pm_is_whole an_is_whole cd_is_whole ct_is_whole), sl_is_whole⟩) (e_is_whole : PySem.W.codeIn K cd_is_whole "is_whole" = true) (k_is_whole : PySem.W.keepIn K (.ref f_is_whole) = true)
    {od_are_wholes an_are_wholes : Option Addr} {sl_are_wholes : Array (Option Value)} {oc_are_wholes kV_are_wholes dc_are_wholes pm_are_wholes cd_are_wholes ct_are_wholes : Value} {f_are_wholes : Addr}
    (a_are_wholes : PySem.W.nsIn K mainGlobals "are_wholes" = some (some (.ref f_are_wholes))) (l_are_wholes : K.lookup f_are_wholes = some ⟨oc_are_wholes, od_are_wholes, .func (PySem.W.fnOf "are_wholes" "are_wholes" (defArgs st_are_wholes) (defBody st_are_wholes) (defScope st_are_wholes) .none kV_are_wholes dc_are_wholes pm_are_wholes an_are_wholes cd_are_wholes ct_are_wholes), sl_are_wholes⟩) (e_are_wholes : PySem.W.codeIn K cd_are_wholes "are_wholes" = true) (k_are_wholes : PySem.W.keepIn K (.ref f_are_wholes) = true)
    {od_are_indexes an_are_indexes : Option Addr} {sl_are_indexes : Array (Option Value)} {oc_are_indexes kV_are_indexes dc_are_indexes pm_are_indexes cd_are_indexes ct_are_indexes : Value} {f_are_indexes : Addr}
    (a_are_indexes : PySem.W.nsIn K mainGlobals "are_indexes" = some (some (.ref f_are_indexes))) (l_are_indexes : K.lookup f_are_indexes = some ⟨oc_are_indexes, od_are_indexes, .func (PySem.W.fnOf "are_indexes" "are_indexes" (defArgs st_are_indexes) (defBody st_are_indexes) (defScope st_are_indexes) .none kV_are_indexes dc_are_indexes pm_are_indexes an_are_indexes cd_are_indexes ct_are_indexes), sl_are_indexes⟩) (e_are_indexes : PySem.W.codeIn K cd_are_indexes "are_indexes" = true) (k_are_indexes : PySem.W.keepIn K (.ref f_are_indexes) = true)
    {od_are_amounts an_are_amounts : Option Addr} {sl_are_amounts : Array (Option Value)} {oc_are_amounts kV_are_amounts dc_are_amounts pm_are_amounts cd_are_amounts ct_are_amounts : Value} {f_are_amounts : Addr}
    (a_are_amounts : PySem.W.nsIn K mainGlobals "are_amounts" = some (some (.ref f_are_amounts))) (l_are_amounts : K.lookup f_are_amounts = some ⟨oc_are_amounts, od_are_amounts, .func (PySem.W.fnOf "are_amounts" "are_amounts" (defArgs st_are_amounts) (defBody st_are_amounts) (defScope st_are_amounts) .none kV_are_amounts dc_are_amounts pm_are_amounts an_are_amounts cd_are_amounts ct_are_amounts), sl_are_amounts⟩) (e_are_amounts : PySem.W.codeIn K cd_are_amounts "are_amounts" = true) (k_are_amounts : PySem.W.keepIn K (.ref f_are_amounts) = true)
    {od_shows_ranks an_shows_ranks : Option Addr} {sl_shows_ranks : Array (Option Value)} {oc_shows_ranks kV_shows_ranks dc_shows_ranks pm_shows_ranks cd_shows_ranks ct_shows_ranks : Value} {f_shows_ranks : Addr}
    (a_shows_ranks : PySem.W.nsIn K mainGlobals "shows_ranks" = some (some (.ref f_shows_ranks))) (l_shows_ranks : K.lookup f_shows_ranks = some ⟨oc_shows_ranks, od_shows_ranks, .func (PySem.W.fnOf "shows_ranks" "shows_ranks" (defArgs st_shows_ranks) (defBody st_shows_ranks) (defScope st_shows_ranks) .none kV_shows_ranks dc_shows_ranks pm_shows_ranks an_shows_ranks cd_shows_ranks ct_shows_ranks), sl_shows_ranks⟩) (e_shows_ranks : PySem.W.codeIn K cd_shows_ranks "shows_ranks" = true) (k_shows_ranks : PySem.W.keepIn K (.ref f_shows_ranks) = true)
    {od_shows_parts_ring an_shows_parts_ring : Option Addr} {sl_shows_parts_ring : Array (Option Value)} {oc_shows_parts_ring kV_shows_parts_ring dc_shows_parts_ring pm_shows_parts_ring cd_shows_parts_ring ct_shows_parts_ring : Value} {f_shows_parts_ring : Addr}
    (a_shows_parts_ring : PySem.W.nsIn K mainGlobals "shows_parts_ring" = some (some (.ref f_shows_parts_ring))) (l_shows_parts_ring : K.lookup f_shows_parts_ring = some ⟨oc_shows_parts_ring, od_shows_parts_ring, .func (PySem.W.fnOf "shows_parts_ring" "shows_parts_ring" (defArgs st_shows_parts_ring) (defBody st_shows_parts_ring) (defScope st_shows_parts_ring) .none kV_shows_parts_ring dc_shows_parts_ring pm_shows_parts_ring an_shows_parts_ring cd_shows_parts_ring ct_shows_parts_ring), sl_shows_parts_ring⟩) (e_shows_parts_ring : PySem.W.codeIn K cd_shows_parts_ring "shows_parts_ring" = true) (k_shows_parts_ring : PySem.W.keepIn K (.ref f_shows_parts_ring) = true)
    {od__law_feed an__law_feed : Option Addr} {sl__law_feed : Array (Option Value)} {oc__law_feed kV__law_feed dc__law_feed pm__law_feed cd__law_feed ct__law_feed : Value} {f__law_feed : Addr}
    (a__law_feed : PySem.W.nsIn K mainGlobals "_law_feed" = some (some (.ref f__law_feed))) (l__law_feed : K.lookup f__law_feed = some ⟨oc__law_feed, od__law_feed, .func (PySem.W.fnOf "_law_feed" "_law_feed" (defArgs st__law_feed) (defBody st__law_feed) (defScope st__law_feed) .none kV__law_feed dc__law_feed pm__law_feed an__law_feed cd__law_feed ct__law_feed), sl__law_feed⟩) (e__law_feed : PySem.W.codeIn K cd__law_feed "_law_feed" = true) (k__law_feed : PySem.W.keepIn K (.ref f__law_feed) = true)
    {od__law_draw an__law_draw : Option Addr} {sl__law_draw : Array (Option Value)} {oc__law_draw kV__law_draw dc__law_draw pm__law_draw cd__law_draw ct__law_draw : Value} {f__law_draw : Addr}
    (a__law_draw : PySem.W.nsIn K mainGlobals "_law_draw" = some (some (.ref f__law_draw))) (l__law_draw : K.lookup f__law_draw = some ⟨oc__law_draw, od__law_draw, .func (PySem.W.fnOf "_law_draw" "_law_draw" (defArgs st__law_draw) (defBody st__law_draw) (defScope st__law_draw) .none kV__law_draw dc__law_draw pm__law_draw an__law_draw cd__law_draw ct__law_draw), sl__law_draw⟩) (e__law_draw : PySem.W.codeIn K cd__law_draw "_law_draw" = true) (k__law_draw : PySem.W.keepIn K (.ref f__law_draw) = true)
    {od__law_is_whole an__law_is_whole : Option Addr} {sl__law_is_whole : Array (Option Value)} {oc__law_is_whole kV__law_is_whole dc__law_is_whole pm__law_is_whole cd__law_is_whole ct__law_is_whole : Value} {f__law_is_whole : Addr}
    (a__law_is_whole : PySem.W.nsIn K mainGlobals "_law_is_whole" = some (some (.ref f__law_is_whole))) (l__law_is_whole : K.lookup f__law_is_whole = some ⟨oc__law_is_whole, od__law_is_whole, .func (PySem.W.fnOf "_law_is_whole" "_law_is_whole" (defArgs st__law_is_whole) (defBody st__law_is_whole) (defScope st__law_is_whole) .none kV__law_is_whole dc__law_is_whole pm__law_is_whole an__law_is_whole cd__law_is_whole ct__law_is_whole), sl__law_is_whole⟩) (e__law_is_whole : PySem.W.codeIn K cd__law_is_whole "_law_is_whole" = true) (k__law_is_whole : PySem.W.keepIn K (.ref f__law_is_whole) = true)
    {od__law_says an__law_says : Option Addr} {sl__law_says : Array (Option Value)} {oc__law_says kV__law_says dc__law_says pm__law_says cd__law_says ct__law_says : Value} {f__law_says : Addr}
    (a__law_says : PySem.W.nsIn K mainGlobals "_law_says" = some (some (.ref f__law_says))) (l__law_says : K.lookup f__law_says = some ⟨oc__law_says, od__law_says, .func (PySem.W.fnOf "_law_says" "_law_says" (defArgs st__law_says) (defBody st__law_says) (defScope st__law_says) .none kV__law_says dc__law_says pm__law_says an__law_says cd__law_says ct__law_says), sl__law_says⟩) (e__law_says : PySem.W.codeIn K cd__law_says "_law_says" = true) (k__law_says : PySem.W.keepIn K (.ref f__law_says) = true)
    {od__law_mixed an__law_mixed : Option Addr} {sl__law_mixed : Array (Option Value)} {oc__law_mixed kV__law_mixed dc__law_mixed pm__law_mixed cd__law_mixed ct__law_mixed : Value} {f__law_mixed : Addr}
    (a__law_mixed : PySem.W.nsIn K mainGlobals "_law_mixed" = some (some (.ref f__law_mixed))) (l__law_mixed : K.lookup f__law_mixed = some ⟨oc__law_mixed, od__law_mixed, .func (PySem.W.fnOf "_law_mixed" "_law_mixed" (defArgs st__law_mixed) (defBody st__law_mixed) (defScope st__law_mixed) .none kV__law_mixed dc__law_mixed pm__law_mixed an__law_mixed cd__law_mixed ct__law_mixed), sl__law_mixed⟩) (e__law_mixed : PySem.W.codeIn K cd__law_mixed "_law_mixed" = true) (k__law_mixed : PySem.W.keepIn K (.ref f__law_mixed) = true)
    {od__law_pairs an__law_pairs : Option Addr} {sl__law_pairs : Array (Option Value)} {oc__law_pairs kV__law_pairs dc__law_pairs pm__law_pairs cd__law_pairs ct__law_pairs : Value} {f__law_pairs : Addr}
    (a__law_pairs : PySem.W.nsIn K mainGlobals "_law_pairs" = some (some (.ref f__law_pairs))) (l__law_pairs : K.lookup f__law_pairs = some ⟨oc__law_pairs, od__law_pairs, .func (PySem.W.fnOf "_law_pairs" "_law_pairs" (defArgs st__law_pairs) (defBody st__law_pairs) (defScope st__law_pairs) .none kV__law_pairs dc__law_pairs pm__law_pairs an__law_pairs cd__law_pairs ct__law_pairs), sl__law_pairs⟩) (e__law_pairs : PySem.W.codeIn K cd__law_pairs "_law_pairs" = true) (k__law_pairs : PySem.W.keepIn K (.ref f__law_pairs) = true)
    {od__law_needs an__law_needs : Option Addr} {sl__law_needs : Array (Option Value)} {oc__law_needs kV__law_needs dc__law_needs pm__law_needs cd__law_needs ct__law_needs : Value} {f__law_needs : Addr}
    (a__law_needs : PySem.W.nsIn K mainGlobals "_law_needs" = some (some (.ref f__law_needs))) (l__law_needs : K.lookup f__law_needs = some ⟨oc__law_needs, od__law_needs, .func (PySem.W.fnOf "_law_needs" "_law_needs" (defArgs st__law_needs) (defBody st__law_needs) (defScope st__law_needs) .none kV__law_needs dc__law_needs pm__law_needs an__law_needs cd__law_needs ct__law_needs), sl__law_needs⟩) (e__law_needs : PySem.W.codeIn K cd__law_needs "_law_needs" = true) (k__law_needs : PySem.W.keepIn K (.ref f__law_needs) = true)
    {od__law_ranks an__law_ranks : Option Addr} {sl__law_ranks : Array (Option Value)} {oc__law_ranks kV__law_ranks dc__law_ranks pm__law_ranks cd__law_ranks ct__law_ranks : Value} {f__law_ranks : Addr}
    (a__law_ranks : PySem.W.nsIn K mainGlobals "_law_ranks" = some (some (.ref f__law_ranks))) (l__law_ranks : K.lookup f__law_ranks = some ⟨oc__law_ranks, od__law_ranks, .func (PySem.W.fnOf "_law_ranks" "_law_ranks" (defArgs st__law_ranks) (defBody st__law_ranks) (defScope st__law_ranks) .none kV__law_ranks dc__law_ranks pm__law_ranks an__law_ranks cd__law_ranks ct__law_ranks), sl__law_ranks⟩) (e__law_ranks : PySem.W.codeIn K cd__law_ranks "_law_ranks" = true) (k__law_ranks : PySem.W.keepIn K (.ref f__law_ranks) = true)
    {od__law_ring an__law_ring : Option Addr} {sl__law_ring : Array (Option Value)} {oc__law_ring kV__law_ring dc__law_ring pm__law_ring cd__law_ring ct__law_ring : Value} {f__law_ring : Addr}
    (a__law_ring : PySem.W.nsIn K mainGlobals "_law_ring" = some (some (.ref f__law_ring))) (l__law_ring : K.lookup f__law_ring = some ⟨oc__law_ring, od__law_ring, .func (PySem.W.fnOf "_law_ring" "_law_ring" (defArgs st__law_ring) (defBody st__law_ring) (defScope st__law_ring) .none kV__law_ring dc__law_ring pm__law_ring an__law_ring cd__law_ring ct__law_ring), sl__law_ring⟩) (e__law_ring : PySem.W.codeIn K cd__law_ring "_law_ring" = true) (k__law_ring : PySem.W.keepIn K (.ref f__law_ring) = true)
    {od__law_is_ranks an__law_is_ranks : Option Addr} {sl__law_is_ranks : Array (Option Value)} {oc__law_is_ranks kV__law_is_ranks dc__law_is_ranks pm__law_is_ranks cd__law_is_ranks ct__law_is_ranks : Value} {f__law_is_ranks : Addr}
    (a__law_is_ranks : PySem.W.nsIn K mainGlobals "_law_is_ranks" = some (some (.ref f__law_is_ranks))) (l__law_is_ranks : K.lookup f__law_is_ranks = some ⟨oc__law_is_ranks, od__law_is_ranks, .func (PySem.W.fnOf "_law_is_ranks" "_law_is_ranks" (defArgs st__law_is_ranks) (defBody st__law_is_ranks) (defScope st__law_is_ranks) .none kV__law_is_ranks dc__law_is_ranks pm__law_is_ranks an__law_is_ranks cd__law_is_ranks ct__law_is_ranks), sl__law_is_ranks⟩) (e__law_is_ranks : PySem.W.codeIn K cd__law_is_ranks "_law_is_ranks" = true) (k__law_is_ranks : PySem.W.keepIn K (.ref f__law_is_ranks) = true)
    {od__law_is_ring an__law_is_ring : Option Addr} {sl__law_is_ring : Array (Option Value)} {oc__law_is_ring kV__law_is_ring dc__law_is_ring pm__law_is_ring cd__law_is_ring ct__law_is_ring : Value} {f__law_is_ring : Addr}
    (a__law_is_ring : PySem.W.nsIn K mainGlobals "_law_is_ring" = some (some (.ref f__law_is_ring))) (l__law_is_ring : K.lookup f__law_is_ring = some ⟨oc__law_is_ring, od__law_is_ring, .func (PySem.W.fnOf "_law_is_ring" "_law_is_ring" (defArgs st__law_is_ring) (defBody st__law_is_ring) (defScope st__law_is_ring) .none kV__law_is_ring dc__law_is_ring pm__law_is_ring an__law_is_ring cd__law_is_ring ct__law_is_ring), sl__law_is_ring⟩) (e__law_is_ring : PySem.W.codeIn K cd__law_is_ring "_law_is_ring" = true) (k__law_is_ring : PySem.W.keepIn K (.ref f__law_is_ring) = true)
    {od__law_changed an__law_changed : Option Addr} {sl__law_changed : Array (Option Value)} {oc__law_changed kV__law_changed dc__law_changed pm__law_changed cd__law_changed ct__law_changed : Value} {f__law_changed : Addr}
    (a__law_changed : PySem.W.nsIn K mainGlobals "_law_changed" = some (some (.ref f__law_changed))) (l__law_changed : K.lookup f__law_changed = some ⟨oc__law_changed, od__law_changed, .func (PySem.W.fnOf "_law_changed" "_law_changed" (defArgs st__law_changed) (defBody st__law_changed) (defScope st__law_changed) .none kV__law_changed dc__law_changed pm__law_changed an__law_changed cd__law_changed ct__law_changed), sl__law_changed⟩) (e__law_changed : PySem.W.codeIn K cd__law_changed "_law_changed" = true) (k__law_changed : PySem.W.keepIn K (.ref f__law_changed) = true)
    {od__law_ranks_judged an__law_ranks_judged : Option Addr} {sl__law_ranks_judged : Array (Option Value)} {oc__law_ranks_judged kV__law_ranks_judged dc__law_ranks_judged pm__law_ranks_judged cd__law_ranks_judged ct__law_ranks_judged : Value} {f__law_ranks_judged : Addr}
    (a__law_ranks_judged : PySem.W.nsIn K mainGlobals "_law_ranks_judged" = some (some (.ref f__law_ranks_judged))) (l__law_ranks_judged : K.lookup f__law_ranks_judged = some ⟨oc__law_ranks_judged, od__law_ranks_judged, .func (PySem.W.fnOf "_law_ranks_judged" "_law_ranks_judged" (defArgs st__law_ranks_judged) (defBody st__law_ranks_judged) (defScope st__law_ranks_judged) .none kV__law_ranks_judged dc__law_ranks_judged pm__law_ranks_judged an__law_ranks_judged cd__law_ranks_judged ct__law_ranks_judged), sl__law_ranks_judged⟩) (e__law_ranks_judged : PySem.W.codeIn K cd__law_ranks_judged "_law_ranks_judged" = true) (k__law_ranks_judged : PySem.W.keepIn K (.ref f__law_ranks_judged) = true)
    {od__law_rings_judged an__law_rings_judged : Option Addr} {sl__law_rings_judged : Array (Option Value)} {oc__law_rings_judged kV__law_rings_judged dc__law_rings_judged pm__law_rings_judged cd__law_rings_judged ct__law_rings_judged : Value} {f__law_rings_judged : Addr}
    (a__law_rings_judged : PySem.W.nsIn K mainGlobals "_law_rings_judged" = some (some (.ref f__law_rings_judged))) (l__law_rings_judged : K.lookup f__law_rings_judged = some ⟨oc__law_rings_judged, od__law_rings_judged, .func (PySem.W.fnOf "_law_rings_judged" "_law_rings_judged" (defArgs st__law_rings_judged) (defBody st__law_rings_judged) (defScope st__law_rings_judged) .none kV__law_rings_judged dc__law_rings_judged pm__law_rings_judged an__law_rings_judged cd__law_rings_judged ct__law_rings_judged), sl__law_rings_judged⟩) (e__law_rings_judged : PySem.W.codeIn K cd__law_rings_judged "_law_rings_judged" = true) (k__law_rings_judged : PySem.W.keepIn K (.ref f__law_rings_judged) = true)
    {od_law an_law : Option Addr} {sl_law : Array (Option Value)} {oc_law kV_law dc_law pm_law cd_law ct_law : Value} {f_law : Addr}
    (a_law : PySem.W.nsIn K mainGlobals "law" = some (some (.ref f_law))) (l_law : K.lookup f_law = some ⟨oc_law, od_law, .func (PySem.W.fnOf "law" "law" (defArgs st_law) (defBody st_law) (defScope st_law) .none kV_law dc_law pm_law an_law cd_law ct_law), sl_law⟩) (e_law : PySem.W.codeIn K cd_law "law" = true) (k_law : PySem.W.keepIn K (.ref f_law) = true)
    (z_isinstance : PySem.W.nsIn K mainGlobals "isinstance" = some none)
    (z_int : PySem.W.nsIn K mainGlobals "int" = some none)
    (z_bool : PySem.W.nsIn K mainGlobals "bool" = some none)
    (z_list : PySem.W.nsIn K mainGlobals "list" = some none)
    (z_all : PySem.W.nsIn K mainGlobals "all" = some none)
    (z_len : PySem.W.nsIn K mainGlobals "len" = some none)
    (z_min : PySem.W.nsIn K mainGlobals "min" = some none)
    (z_range : PySem.W.nsIn K mainGlobals "range" = some none)
    (z_max : PySem.W.nsIn K mainGlobals "max" = some none)
    (z_tuple : PySem.W.nsIn K mainGlobals "tuple" = some none)
    (z_sorted : PySem.W.nsIn K mainGlobals "sorted" = some none)
    (z_abs : PySem.W.nsIn K mainGlobals "abs" = some none) :
    ∃ fd : FuncData, (∀ (s : Shared) (v : Value), BindsTo s fd ⟨[v], []⟩ [("script", v)]) ∧ ∀ base : Heap, K.In base → base.Ns mainGlobals mg → FnOk l.prog w K mg base CX0 6 fa fd ["script"] (spLaw K) := by
  have e := hfa.symm.trans (PySem.W.mg_of X G a_law)
  cases e
  have b_isinstance := PySem.W.mg_none_of X G z_isinstance
  have b_int := PySem.W.mg_none_of X G z_int
  have b_bool := PySem.W.mg_none_of X G z_bool
  have b_list := PySem.W.mg_none_of X G z_list
  have b_all := PySem.W.mg_none_of X G z_all
  have b_len := PySem.W.mg_none_of X G z_len
  have b_min := PySem.W.mg_none_of X G z_min
  have b_range := PySem.W.mg_none_of X G z_range
  have b_max := PySem.W.mg_none_of X G z_max
  have b_tuple := PySem.W.mg_none_of X G z_tuple
  have b_sorted := PySem.W.mg_none_of X G z_sorted
  have b_abs := PySem.W.mg_none_of X G z_abs
  have Fu_is_whole := fun_mk (st := st_is_whole) l_is_whole e_is_whole k_is_whole
  have mg_is_whole := PySem.W.mg_of X G a_is_whole
  have Fu_are_wholes := fun_mk (st := st_are_wholes) l_are_wholes e_are_wholes k_are_wholes
  have mg_are_wholes := PySem.W.mg_of X G a_are_wholes
  have Fu_are_indexes := fun_mk (st := st_are_indexes) l_are_indexes e_are_indexes k_are_indexes
  have mg_are_indexes := PySem.W.mg_of X G a_are_indexes
  have Fu_are_amounts := fun_mk (st := st_are_amounts) l_are_amounts e_are_amounts k_are_amounts
  have mg_are_amounts := PySem.W.mg_of X G a_are_amounts
  have Fu_shows_ranks := fun_mk (st := st_shows_ranks) l_shows_ranks e_shows_ranks k_shows_ranks
  have mg_shows_ranks := PySem.W.mg_of X G a_shows_ranks
  have Fu_shows_parts_ring := fun_mk (st := st_shows_parts_ring) l_shows_parts_ring e_shows_parts_ring k_shows_parts_ring
  have mg_shows_parts_ring := PySem.W.mg_of X G a_shows_parts_ring
  have Fu__law_feed := fun_mk (st := st__law_feed) l__law_feed e__law_feed k__law_feed
  have mg__law_feed := PySem.W.mg_of X G a__law_feed
  have Fu__law_draw := fun_mk (st := st__law_draw) l__law_draw e__law_draw k__law_draw
  have mg__law_draw := PySem.W.mg_of X G a__law_draw
  have Fu__law_is_whole := fun_mk (st := st__law_is_whole) l__law_is_whole e__law_is_whole k__law_is_whole
  have mg__law_is_whole := PySem.W.mg_of X G a__law_is_whole
  have Fu__law_says := fun_mk (st := st__law_says) l__law_says e__law_says k__law_says
  have mg__law_says := PySem.W.mg_of X G a__law_says
  have Fu__law_mixed := fun_mk (st := st__law_mixed) l__law_mixed e__law_mixed k__law_mixed
  have mg__law_mixed := PySem.W.mg_of X G a__law_mixed
  have Fu__law_pairs := fun_mk (st := st__law_pairs) l__law_pairs e__law_pairs k__law_pairs
  have mg__law_pairs := PySem.W.mg_of X G a__law_pairs
  have Fu__law_needs := fun_mk (st := st__law_needs) l__law_needs e__law_needs k__law_needs
  have mg__law_needs := PySem.W.mg_of X G a__law_needs
  have Fu__law_ranks := fun_mk (st := st__law_ranks) l__law_ranks e__law_ranks k__law_ranks
  have mg__law_ranks := PySem.W.mg_of X G a__law_ranks
  have Fu__law_ring := fun_mk (st := st__law_ring) l__law_ring e__law_ring k__law_ring
  have mg__law_ring := PySem.W.mg_of X G a__law_ring
  have Fu__law_is_ranks := fun_mk (st := st__law_is_ranks) l__law_is_ranks e__law_is_ranks k__law_is_ranks
  have mg__law_is_ranks := PySem.W.mg_of X G a__law_is_ranks
  have Fu__law_is_ring := fun_mk (st := st__law_is_ring) l__law_is_ring e__law_is_ring k__law_is_ring
  have mg__law_is_ring := PySem.W.mg_of X G a__law_is_ring
  have Fu__law_changed := fun_mk (st := st__law_changed) l__law_changed e__law_changed k__law_changed
  have mg__law_changed := PySem.W.mg_of X G a__law_changed
  have Fu__law_ranks_judged := fun_mk (st := st__law_ranks_judged) l__law_ranks_judged e__law_ranks_judged k__law_ranks_judged
  have mg__law_ranks_judged := PySem.W.mg_of X G a__law_ranks_judged
  have Fu__law_rings_judged := fun_mk (st := st__law_rings_judged) l__law_rings_judged e__law_rings_judged k__law_rings_judged
  have mg__law_rings_judged := PySem.W.mg_of X G a__law_rings_judged
  have Fu_law := fun_mk (st := st_law) l_law e_law k_law
  have mg_law := PySem.W.mg_of X G a_law
  refine ⟨PySem.W.fnOf "law" "law" (defArgs st_law) (defBody st_law) (defScope st_law) .none kV_law dc_law pm_law an_law cd_law ct_law, fun s v => .of_eq rfl, fun base _ _ => ?_⟩
  have G_feed := fn_feed (P := l.prog) (w := w) (mg := mg) (base := base) Fu__law_feed sc__law_feed fun cdv A outer s H E => d__law_feed b_list cdv A outer s H E
  have C__law_draw : Cal l.prog w K mg base CX0 1 "_law_draw" ["feed", "many"] XL0 F__law_draw := ⟨_, _, fn_draw Fu__law_draw sc__law_draw (fun cdv A outer s H E => d__law_draw b_abs b_int b_len cdv A outer s H E), mg__law_draw, Fu__law_draw.kp, Fu__law_draw.binds (ps := ["feed", "many"]) fun _ _ _ _ _ _ us hl => match us, hl with | [_, _], _ => rfl⟩
  have C_is_whole : Cal l.prog w K mg base CX0 1 "is_whole" ["value"] XL0 F_is_whole := c_is_whole b_isinstance b_int b_bool Fu_is_whole mg_is_whole len_is_whole w_is_whole
  have C__law_is_whole : Cal l.prog w K mg base CX0 1 "_law_is_whole" ["x"] XL0 F__law_is_whole := c__law_is_whole b_isinstance b_int b_bool Fu__law_is_whole mg__law_is_whole len__law_is_whole w__law_is_whole
  have C__law_says : Cal l.prog w K mg base CX0 1 "_law_says" ["told", "due"] XL0 F__law_says := c__law_says b_isinstance b_bool Fu__law_says mg__law_says len__law_says w__law_says
  have C__law_ranks : Cal l.prog w K mg base CX0 1 "_law_ranks" ["n", "needs"] XL0 F__law_ranks := c__law_ranks b_range b_max Fu__law_ranks mg__law_ranks len__law_ranks w__law_ranks
  have C__law_ring : Cal l.prog w K mg base CX0 1 "_law_ring" ["n", "needs"] XL0 F__law_ring := c__law_ring b_range b_len Fu__law_ring mg__law_ring len__law_ring w__law_ring
  have C_are_wholes : Cal l.prog w K mg base CX0 2 "are_wholes" ["value"] XL0 F_are_wholes := c_are_wholes b_isinstance b_list b_all C_is_whole Fu_are_wholes mg_are_wholes len_are_wholes w_are_wholes
  have C__law_mixed : Cal l.prog w K mg base CX0 2 "_law_mixed" ["feed", "n"] XL0 F__law_mixed := c__law_mixed b_list b_range b_len C__law_draw Fu__law_mixed mg__law_mixed len__law_mixed w__law_mixed
  have C__law_is_ranks : Cal l.prog w K mg base CX0 2 "_law_is_ranks" ["n", "needs", "ranks"] XL0 F__law_is_ranks := c__law_is_ranks b_isinstance b_list b_len C__law_is_whole Fu__law_is_ranks mg__law_is_ranks len__law_is_ranks w__law_is_ranks
  have C__law_is_ring : Cal l.prog w K mg base CX0 2 "_law_is_ring" ["n", "needs", "ring"] XL0 F__law_is_ring := c__law_is_ring b_isinstance b_list b_len b_range C__law_is_whole Fu__law_is_ring mg__law_is_ring len__law_is_ring w__law_is_ring
  have C__law_changed : Cal l.prog w K mg base CX0 2 "_law_changed" ["feed", "row", "most"] XL0 F__law_changed := c__law_changed b_tuple b_range b_len C__law_draw Fu__law_changed mg__law_changed len__law_changed w__law_changed
  have C_are_indexes : Cal l.prog w K mg base CX0 3 "are_indexes" ["value", "many"] XL0 F_are_indexes := c_are_indexes b_all C_are_wholes Fu_are_indexes mg_are_indexes len_are_indexes w_are_indexes
  have C_are_amounts : Cal l.prog w K mg base CX0 3 "are_amounts" ["value", "n"] XL0 F_are_amounts := c_are_amounts b_len b_min C_are_wholes Fu_are_amounts mg_are_amounts len_are_amounts w_are_amounts
  have C__law_pairs : Cal l.prog w K mg base CX0 3 "_law_pairs" ["feed", "n", "many"] XL0 F__law_pairs := c__law_pairs b_range b_len C__law_mixed Fu__law_pairs mg__law_pairs len__law_pairs w__law_pairs
  have C_shows_ranks : Cal l.prog w K mg base CX0 4 "shows_ranks" ["n", "needs", "ranks"] XL0 F_shows_ranks := c_shows_ranks b_all C_are_amounts Fu_shows_ranks mg_shows_ranks len_shows_ranks w_shows_ranks
  have C_shows_parts_ring : Cal l.prog w K mg base CX0 4 "shows_parts_ring" ["n", "needs", "ring"] XL0 F_shows_parts_ring := c_shows_parts_ring b_len b_all b_range C_are_indexes Fu_shows_parts_ring mg_shows_parts_ring len_shows_parts_ring w_shows_parts_ring
  have C__law_needs : Cal l.prog w K mg base CX0 4 "_law_needs" ["feed", "n", "many", "most"] XL0 F__law_needs := c__law_needs C__law_pairs C__law_draw Fu__law_needs mg__law_needs len__law_needs w__law_needs
  have C__law_ranks_judged : Cal l.prog w K mg base CX0 5 "_law_ranks_judged" ["feed", "n", "needs"] XL0 F__law_ranks_judged := c__law_ranks_judged b_list C__law_ranks C__law_draw C__law_changed C__law_is_ranks C__law_says C_shows_ranks Fu__law_ranks_judged mg__law_ranks_judged len__law_ranks_judged w__law_ranks_judged
  have C__law_rings_judged : Cal l.prog w K mg base CX0 5 "_law_rings_judged" ["feed", "n", "needs", "ring"] XL0 F__law_rings_judged := c__law_rings_judged b_sorted b_range b_len b_list C__law_changed C__law_is_ring C__law_says C_shows_parts_ring Fu__law_rings_judged mg__law_rings_judged len__law_rings_judged w__law_rings_judged
  exact fn_law (XL := XL0) (st1 := law1) (rest := (defBody st_law).drop 1) Fu_law sc_law rfl (by decide) (fun cdv A outer s H E hr => d1_law G_feed mg__law_feed Fu__law_feed.kp (Fu__law_feed.binds (ps := ["script"]) fun _ _ _ _ _ _ us hl => match us, hl with | [_], _ => rfl) cdv A outer s H E hr)
    (fun cdv A outer s H E Z hr => d_law b_range b_len b_list C__law_draw C__law_needs C__law_ring C__law_ranks_judged C__law_rings_judged C__law_says C_shows_parts_ring C_shows_ranks cdv A outer s H E Z hr) w_law
end Lw
open PySem PySem.W PyProof.Rows
set_option maxRecDepth 100000 in
set_option maxHeartbeats 0 in
theorem PySem.Challenge.cw_daybooktold_k70_judges_of_ranks_and_ring_holds : PySem.Challenge.rw_daybooktold_k70_judges_of_ranks_and_ring.Holds := by
  w_on; o_law; k_head; (case hw => w_witness2)
  k_fill
  refine L2.walk_of (l := PySem.Challenge.rw_daybooktold_k70_judges_of_ranks_and_ring) (n := 63) (k := 6) (x := "script") (CX := fun _ => L2.CX0) (sp := fun w => Dv.spLaw _) rfl (by decide) rfl ⟨rfl, by decide, by decide⟩ (fun w h Y => PySem.W.kIn_of Y) ?F (fun _ _ a ns hl _ hS => ⟨a, ns, rfl, hS, hl, fun _ => rfl⟩) (fun _ _ _ _ _ h => h)
  case F =>
    intro w mg fa h KX G hmg
    refine' Lw.all_mk KX G hmg ?a_is_whole ?l_is_whole ?e_is_whole ?k_is_whole ?a_are_wholes ?l_are_wholes ?e_are_wholes ?k_are_wholes ?a_are_indexes ?l_are_indexes ?e_are_indexes ?k_are_indexes ?a_are_amounts ?l_are_amounts ?e_are_amounts ?k_are_amounts ?a_shows_ranks ?l_shows_ranks ?e_shows_ranks ?k_shows_ranks ?a_shows_parts_ring ?l_shows_parts_ring ?e_shows_parts_ring ?k_shows_parts_ring ?a__law_feed ?l__law_feed ?e__law_feed ?k__law_feed ?a__law_draw ?l__law_draw ?e__law_draw ?k__law_draw ?a__law_is_whole ?l__law_is_whole ?e__law_is_whole ?k__law_is_whole ?a__law_says ?l__law_says ?e__law_says ?k__law_says ?a__law_mixed ?l__law_mixed ?e__law_mixed ?k__law_mixed ?a__law_pairs ?l__law_pairs ?e__law_pairs ?k__law_pairs ?a__law_needs ?l__law_needs ?e__law_needs ?k__law_needs ?a__law_ranks ?l__law_ranks ?e__law_ranks ?k__law_ranks ?a__law_ring ?l__law_ring ?e__law_ring ?k__law_ring ?a__law_is_ranks ?l__law_is_ranks ?e__law_is_ranks ?k__law_is_ranks ?a__law_is_ring ?l__law_is_ring ?e__law_is_ring ?k__law_is_ring ?a__law_changed ?l__law_changed ?e__law_changed ?k__law_changed ?a__law_ranks_judged ?l__law_ranks_judged ?e__law_ranks_judged ?k__law_ranks_judged ?a__law_rings_judged ?l__law_rings_judged ?e__law_rings_judged ?k__law_rings_judged ?a_law ?l_law ?e_law ?k_law ?z_isinstance ?z_int ?z_bool ?z_list ?z_all ?z_len ?z_min ?z_range ?z_max ?z_tuple ?z_sorted ?z_abs 
    (case a_is_whole => k_is); (case l_is_whole => k_is); (case e_is_whole => k_is); (case k_is_whole => k_is); (case a_are_wholes => k_is); (case l_are_wholes => k_is); (case e_are_wholes => k_is); (case k_are_wholes => k_is); (case a_are_indexes => k_is); (case l_are_indexes => k_is); (case e_are_indexes => k_is); (case k_are_indexes => k_is); (case a_are_amounts => k_is); (case l_are_amounts => k_is); (case e_are_amounts => k_is); (case k_are_amounts => k_is); (case a_shows_ranks => k_is); (case l_shows_ranks => k_is); (case e_shows_ranks => k_is); (case k_shows_ranks => k_is); (case a_shows_parts_ring => k_is); (case l_shows_parts_ring => k_is); (case e_shows_parts_ring => k_is); (case k_shows_parts_ring => k_is); (case a__law_feed => k_is); (case l__law_feed => k_is); (case e__law_feed => k_is); (case k__law_feed => k_is); (case a__law_draw => k_is); (case l__law_draw => k_is); (case e__law_draw => k_is); (case k__law_draw => k_is); (case a__law_is_whole => k_is); (case l__law_is_whole => k_is); (case e__law_is_whole => k_is); (case k__law_is_whole => k_is); (case a__law_says => k_is); (case l__law_says => k_is); (case e__law_says => k_is); (case k__law_says => k_is); (case a__law_mixed => k_is); (case l__law_mixed => k_is); (case e__law_mixed => k_is); (case k__law_mixed => k_is); (case a__law_pairs => k_is); (case l__law_pairs => k_is); (case e__law_pairs => k_is); (case k__law_pairs => k_is); (case a__law_needs => k_is); (case l__law_needs => k_is); (case e__law_needs => k_is); (case k__law_needs => k_is); (case a__law_ranks => k_is); (case l__law_ranks => k_is); (case e__law_ranks => k_is); (case k__law_ranks => k_is); (case a__law_ring => k_is); (case l__law_ring => k_is); (case e__law_ring => k_is); (case k__law_ring => k_is); (case a__law_is_ranks => k_is); (case l__law_is_ranks => k_is); (case e__law_is_ranks => k_is); (case k__law_is_ranks => k_is); (case a__law_is_ring => k_is); (case l__law_is_ring => k_is); (case e__law_is_ring => k_is); (case k__law_is_ring => k_is); (case a__law_changed => k_is); (case l__law_changed => k_is); (case e__law_changed => k_is); (case k__law_changed => k_is); (case a__law_ranks_judged => k_is); (case l__law_ranks_judged => k_is); (case e__law_ranks_judged => k_is); (case k__law_ranks_judged => k_is); (case a__law_rings_judged => k_is); (case l__law_rings_judged => k_is); (case e__law_rings_judged => k_is); (case k__law_rings_judged => k_is); (case a_law => k_is); (case l_law => k_is); (case e_law => k_is); (case k_law => k_is); (case z_isinstance => k_is); (case z_int => k_is); (case z_bool => k_is); (case z_list => k_is); (case z_all => k_is); (case z_len => k_is); (case z_min => k_is); (case z_range => k_is); (case z_max => k_is); (case z_tuple => k_is); (case z_sorted => k_is); (case z_abs => k_is)

