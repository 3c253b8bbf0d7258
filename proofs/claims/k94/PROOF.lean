import PyProof.Rows.All
import HandS.ForMost
import HandS.ForExc
import HandS.ExcInit
import HandS.IsInst
import HandS.Deep
import HandS.Flow
import HandS.Style
import HandS.Walk
import HandS.Rev
import HandS.RevRange
import HandS.TupLe
import HandS.Text
import HandS.SortInts
import KE.DataEq
import HandS.Conv
import HandS.More
import PySem.Challenge.RW_daybooktold_k94_whole_better_tariffs
set_option Elab.async false
set_option linter.all false
set_option maxRecDepth 100000
set_option autoImplicit false
/-! DvA: a layer of values over HandS: data (PyData) stand in a region of the heap that is never written; a slot holds data, a list of its own, or the law's feed. -/
namespace Dv
open PySem PySem.Spec L2
open PyProof.Rows hiding St

abbrev D := PyData

/-! ### data in a region -/
mutual
inductive Dt (B : Hp) : V → D → Prop
  | non : Dt B .non .none
  | bl (b : Bool) : Dt B (.bl b) (.bool b)
  | int (i : Int) : Dt B (.int i) (.int i)
  | str (x : Str) : Dt B (.str x) (.str x)
  | lst {a : Addr} {vs : List V} {ds : List D} : B a = some (.lst vs) → DtA B vs ds → Dt B (.ref a) (.list ds)
  | tup {a : Addr} {vs : List V} {ds : List D} : B a = some (.tup vs) → DtA B vs ds → Dt B (.ref a) (.tuple ds)
inductive DtA (B : Hp) : List V → List D → Prop
  | nil : DtA B [] []
  | cons {v : V} {vs : List V} {d : D} {ds : List D} : Dt B v d → DtA B vs ds → DtA B (v :: vs) (d :: ds)
end

mutual
theorem Dt.mono {B B' : Hp} (e : Same B B') : ∀ {v : V} {d : D}, Dt B v d → Dt B' v d
  | _, _, .non => .non
  | _, _, .bl b => .bl b
  | _, _, .int i => .int i
  | _, _, .str x => .str x
  | _, _, .lst h t => .lst (e _ _ h) (DtA.mono e t)
  | _, _, .tup h t => .tup (e _ _ h) (DtA.mono e t)
theorem DtA.mono {B B' : Hp} (e : Same B B') : ∀ {vs : List V} {ds : List D}, DtA B vs ds → DtA B' vs ds
  | _, _, .nil => .nil
  | _, _, .cons h t => .cons (Dt.mono e h) (DtA.mono e t)
end
mutual
theorem Dt.toDp {B H : Hp} {K : PySem.W.Frag} (e : Same B H) : ∀ {v : V} {d : D}, Dt B v d → Dp K H v d
  | _, _, .non => .non
  | _, _, .bl b => .bl b
  | _, _, .int i => .int i
  | _, _, .str x => .str x
  | _, _, .lst h t => .lst (SqL.of (e _ _ h)) (DtA.toDp e t)
  | _, _, .tup h t => .tup (SqT.of (e _ _ h)) (DtA.toDp e t)
theorem DtA.toDp {B H : Hp} {K : PySem.W.Frag} (e : Same B H) : ∀ {vs : List V} {ds : List D}, DtA B vs ds → DpAll K H vs ds
  | _, _, .nil => .nil
  | _, _, .cons h t => .cons (Dt.toDp e h) (DtA.toDp e t)
end
theorem DtA.length {B : Hp} : ∀ {vs : List V} {ds : List D}, DtA B vs ds → vs.length = ds.length
  | _, _, .nil => rfl
  | _, _, .cons _ t => by simp [DtA.length t]
theorem DtA.get {B : Hp} : ∀ {vs : List V} {ds : List D} {i : Nat} {d : D}, DtA B vs ds → ds[i]? = some d → ∃ v, vs[i]? = some v ∧ Dt B v d
  | _, _, _, _, .nil, e => by simp at e
  | _, _, 0, _, .cons h _, e => by simp at e; subst e; exact ⟨_, rfl, h⟩
  | _, _, i + 1, _, .cons _ t, e => by
    obtain ⟨v, h1, h2⟩ := DtA.get (i := i) t (by simpa using e)
    exact ⟨v, by simpa using h1, h2⟩
theorem DtA.get' {B : Hp} : ∀ {vs : List V} {ds : List D} {i : Nat} {v : V}, DtA B vs ds → vs[i]? = some v → ∃ d, ds[i]? = some d ∧ Dt B v d
  | _, _, _, _, .nil, e => by simp at e
  | _, _, 0, _, .cons h _, e => by simp at e; subst e; exact ⟨_, rfl, h⟩
  | _, _, i + 1, _, .cons _ t, e => by
    obtain ⟨v, h1, h2⟩ := DtA.get' (i := i) t (by simpa using e)
    exact ⟨v, by simpa using h1, h2⟩
theorem DtA.append {B : Hp} : ∀ {vs ws : List V} {ds es : List D}, DtA B vs ds → DtA B ws es → DtA B (vs ++ ws) (ds ++ es)
  | _, _, _, _, .nil, s => s
  | _, _, _, _, .cons h t, s => .cons h (DtA.append t s)
theorem DtA.take {B : Hp} : ∀ {vs : List V} {ds : List D} (n : Nat), DtA B vs ds → DtA B (vs.take n) (ds.take n)
  | _, _, 0, _ => .nil
  | _, _, _ + 1, .nil => .nil
  | _, _, n + 1, .cons h t => .cons h (DtA.take n t)
theorem DtA.drop {B : Hp} : ∀ {vs : List V} {ds : List D} (n : Nat), DtA B vs ds → DtA B (vs.drop n) (ds.drop n)
  | _, _, 0, r => r
  | _, _, _ + 1, .nil => .nil
  | _, _, n + 1, .cons _ t => DtA.drop n t
theorem DtA.set {B : Hp} {v : V} {d : D} (h : Dt B v d) : ∀ {vs : List V} {ds : List D} (i : Nat), DtA B vs ds → DtA B (vs.set i v) (ds.set i d)
  | _, _, _, .nil => .nil
  | _, _, 0, .cons _ t => .cons h t
  | _, _, i + 1, .cons q t => .cons q (DtA.set h i t)
theorem DtA.eraseIdx {B : Hp} : ∀ {vs : List V} {ds : List D} (i : Nat), DtA B vs ds → DtA B (vs.eraseIdx i) (ds.eraseIdx i)
  | _, _, _, .nil => .nil
  | _, _, 0, .cons _ t => t
  | _, _, i + 1, .cons h t => .cons h (DtA.eraseIdx i t)
theorem DtA.dropLast {B : Hp} {vs : List V} {ds : List D} (h : DtA B vs ds) : DtA B vs.dropLast ds.dropLast := by
  rw [List.dropLast_eq_take, List.dropLast_eq_take, h.length]
  exact h.take _
theorem DtA.ints {B : Hp} : ∀ {vs : List V} {ns : List Int}, DtA B vs (ns.map .int) → vs = ns.map V.int
  | _, [], h => by cases h; rfl
  | _, n :: ns, h => by
    cases h with
    | cons h t =>
      cases h
      rw [DtA.ints t]
      rfl
theorem DtA.of_ints {B : Hp} : ∀ (ns : List Int), DtA B (ns.map V.int) (ns.map .int)
  | [] => .nil
  | n :: ns => .cons (.int n) (DtA.of_ints ns)
theorem DtA.bls {B : Hp} : ∀ {vs : List V} {bs : List Bool}, DtA B vs (bs.map .bool) → vs = bs.map V.bl
  | _, [], h => by cases h; rfl
  | _, n :: ns, h => by
    cases h with
    | cons h t =>
      cases h
      rw [DtA.bls t]
      rfl
theorem DtA.strs {B : Hp} : ∀ {vs : List V} {bs : List Str}, DtA B vs (bs.map .str) → vs = bs.map V.str
  | _, [], h => by cases h; rfl
  | _, n :: ns, h => by
    cases h with
    | cons h t =>
      cases h
      rw [DtA.strs t]
      rfl

/-! ### the ghost state -/
/-- what a slot holds: not known; data; a list of its own; the feed -/
inductive Cell where
  | un | im (d : D) | mu (ds : List D) | fd
/-- what an expression hands on: data; a new list that nobody else holds; the feed -/
inductive Vl where
  | im (d : D) | fr (ds : List D) | fd
/-- an exception: its class by name, its one field by name -/
inductive Xn where
  | mk (cls : Str) (field : Option (Str × D))
structure Rho where
  c : List Cell
  x : Xn → Prop
/-- B0, H0: region and heap at the entry; B: the region now; fa: where the feed stands; pr: objects in the making, known as they stand -/
structure Gs where
  B0 : Hp
  H0 : Hp
  B : Hp
  fa0 : Option Addr
  fa : Option Addr
  pr : List (Addr × HO)
structure Gs.le (G G' : Gs) : Prop where
  b0 : G'.B0 = G.B0
  h0 : G'.H0 = G.H0
  same : Same G.B G'.B
  fa : ∀ p, G.fa = some p → G'.fa = some p
  pr : G'.pr = G.pr
  fa0 : G'.fa0 = G.fa0
theorem Gs.le.refl (G : Gs) : G.le G := ⟨rfl, rfl, Same.refl _, fun _ h => h, rfl, rfl⟩
theorem Gs.le.trans {G G1 G2 : Gs} (a : G.le G1) (b : G1.le G2) : G.le G2 := ⟨b.b0.trans a.b0, b.h0.trans a.h0, a.same.trans b.same, fun p h => b.fa p (a.fa p h), b.pr.trans a.pr, b.fa0.trans a.fa0⟩

/-- the feed: a list of the script's ints, a place, a rest, a state -/
def FeedOk (B H : Hp) (p : Addr) : Prop := ∃ (sp : Addr) (ns : List Int) (c a b : Int), H p = some (.lst [.ref sp, .int c, .int a, .int b]) ∧ B sp = some (.lst (ns.map V.int)) ∧ 0 ≤ c ∧ 0 ≤ a ∧ 0 ≤ b ∧ b < 2147483648 ∧ ns.length ≤ 63

def CellOk (G : Gs) (H : Hp) : Cell → Option V → Prop
  | .un, _ => True
  | .im d, o => ∃ v, o = some v ∧ Dt G.B v d
  | .mu ds, o => ∃ p vs, o = some (.ref p) ∧ G.B p = none ∧ G.H0 p = none ∧ G.fa ≠ some p ∧ H p = some (.lst vs) ∧ DtA G.B vs ds
  | .fd, o => ∃ p, o = some (.ref p) ∧ G.fa = some p

/-- no slot's own list stands at p -/
def NoMu (ρ : List Cell) (σ : St) (p : Addr) : Prop := ∀ (i : Nat) (ds : List D), ρ[i]? = some (.mu ds) → σ[i]? ≠ some (some (.ref p))

structure RelC (G : Gs) (ρ : List Cell) (σ : St) (H : Hp) : Prop where
  same : Same G.B H
  same0 : Same G.B0 G.B
  old : ∀ q o, G.H0 q = some o → H q = some o ∨ G.fa = some q
  newB : ∀ q o, G.B q = some o → G.H0 q = none ∨ G.B0 q = some o
  len : ρ.length = σ.length
  cells : ∀ (i : Nat) (c : Cell) (o : Option V), ρ[i]? = some c → σ[i]? = some o → CellOk G H c o
  dist : ∀ (i j : Nat) (p : Addr) (ds es : List D), i ≠ j → ρ[i]? = some (.mu ds) → ρ[j]? = some (.mu es) → σ[i]? = some (some (.ref p)) → σ[j]? = some (some (.ref p)) → False
  feed : ∀ p, G.fa = some p → G.B p = none ∧ FeedOk G.B H p
  priv : ∀ p o, (p, o) ∈ G.pr → H p = some o ∧ G.B p = none ∧ G.H0 p = none ∧ G.fa ≠ some p ∧ NoMu ρ σ p
  fa0 : ∀ p, G.fa = some p → G.fa0 = some p ∨ G.H0 p = none

def NoPr (G : Gs) (p : Addr) : Prop := ∀ o, (p, o) ∉ G.pr
def VlOk (G : Gs) (H : Hp) (ρ : List Cell) (σ : St) : Vl → V → Prop
  | .im d, v => Dt G.B v d
  | .fr ds, v => ∃ p vs, v = .ref p ∧ G.B p = none ∧ G.H0 p = none ∧ G.fa ≠ some p ∧ H p = some (.lst vs) ∧ DtA G.B vs ds ∧ NoMu ρ σ p ∧ NoPr G p
  | .fd, v => ∃ p, v = .ref p ∧ G.fa = some p

/-- what is wanted of an exception, in the words of HandS; how it lies is told by a Prop of ours -/
abbrev XW := Xn → Value → Option Addr → Hp → Prop

structure Zx where
  W : WX
  XL : XW
structure Rel (Z : Zx) (G : Gs) (ρ : Rho) (σ : St) (H : Hp) : Prop where
  rc : RelC G ρ.c σ H
  ex : ∀ (xn : Xn) (G' : Gs) (ρ' : List Cell) (σ' : St) (H' : Hp) (cls : Value) (d : Option Addr), G.le G' → RelC G' ρ' σ' H' → Z.XL xn cls d H' → ρ.x xn → Z.W cls d σ' H'

theorem FeedOk.some {B H : Hp} {p : Addr} (h : FeedOk B H p) : ∃ o, H p = some o := by
  obtain ⟨_, _, _, _, _, e, _⟩ := h
  exact ⟨_, e⟩
theorem FeedOk.mono {B B' H H' : Hp} {p : Addr} (h : FeedOk B H p) (e : Same B B') (hp : H' p = H p) : FeedOk B' H' p := by
  obtain ⟨sp, ns, c, a, b, h1, h2, h3⟩ := h
  exact ⟨sp, ns, c, a, b, hp.trans h1, e _ _ h2, h3⟩

section
variable {G G' : Gs} {ρ ρ' : List Cell} {σ : St} {H H' : Hp} {p : Addr} {o : HO} {W : WX}

theorem CellOk.mono {c : Cell} {x : Option V} (h : CellOk G H c x) (le : G.le G') (hm : ∀ p vs, x = some (.ref p) → G.B p = none → H p = some (.lst vs) → H' p = some (.lst vs) ∧ G'.B p = none ∧ G'.fa ≠ some p ∨ (∀ ds, c ≠ .mu ds)) : CellOk G' H' c x := by
  cases c with
  | un => trivial
  | im d =>
    obtain ⟨v, e, t⟩ := h
    exact ⟨v, e, t.mono le.same⟩
  | mu ds =>
    obtain ⟨q, vs, e, b, h0, f, hq, t⟩ := h
    rcases hm q vs e b hq with ⟨a1, a2, a3⟩ | z
    · exact ⟨q, vs, e, a2, le.h0 ▸ h0, a3, a1, t.mono le.same⟩
    · exact absurd rfl (z ds)
  | fd =>
    obtain ⟨q, e, f⟩ := h
    exact ⟨q, e, le.fa q f⟩

/-- a free address is neither the feed nor in the region nor at the entry -/
theorem RelC.free (R : RelC G ρ σ H) (h : H p = none) : G.B p = none ∧ G.H0 p = none ∧ G.fa ≠ some p ∧ NoMu ρ σ p ∧ NoPr G p := by
  have hf : G.fa ≠ some p := fun e => by
    obtain ⟨o, q⟩ := (R.feed p e).2.some
    rw [h] at q
    cases q
  refine ⟨R.same.free h, ?_, hf, fun i ds e1 e2 => ?_, fun o e => ?_⟩
  · cases q : G.H0 p with
    | none => rfl
    | some u =>
      rcases R.old p u q with z | z
      · rw [h] at z
        cases z
      · exact absurd z hf
  · obtain ⟨q, vs, e, _, _, _, hq, _⟩ := R.cells i _ _ e1 e2
    cases e
    rw [h] at hq
    cases hq
  · have := (R.priv p o e).1
    rw [h] at this
    cases this

/-- an object that no slot knows of is laid or changed -/
theorem RelC.put (R : RelC G ρ σ H) (hB : G.B p = none) (h0 : G.H0 p = none) (hf : G.fa ≠ some p) (hm : NoMu ρ σ p) (hr : NoPr G p) : RelC G ρ σ (upd H p o) := by
  have ne : ∀ q u, G.B q = some u → q ≠ p := fun q u e => ne_of_none e hB
  refine ⟨fun q u e => by rw [upd_ne (ne q u e)]; exact R.same q u e, R.same0, fun q u e => ?_, R.newB, R.len, fun i c x e1 e2 => ?_, R.dist, fun q e => ?_, fun q u e => ?_, R.fa0⟩
  · rw [upd_ne (ne_of_none e h0)]
    exact R.old q u e
  · cases c with
    | mu ds =>
      obtain ⟨q, vs, e, b, h0', f, hq, t⟩ := R.cells i _ _ e1 e2
      refine ⟨q, vs, e, b, h0', f, ?_, t⟩
      have : q ≠ p := fun z => hm i ds e1 (by rw [e2, e, z])
      rw [upd_ne this]
      exact hq
    | un => trivial
    | im d => exact R.cells i _ _ e1 e2
    | fd => exact R.cells i _ _ e1 e2
  · have : q ≠ p := fun z => hf (z ▸ e)
    exact ⟨(R.feed q e).1, (R.feed q e).2.mono (Same.refl _) (upd_ne this)⟩
  · have : q ≠ p := fun z => hr u (z ▸ e)
    obtain ⟨h1, h2⟩ := R.priv q u e
    exact ⟨(upd_ne this).trans h1, h2⟩
theorem RelC.alloc (R : RelC G ρ σ H) (h : H p = none) : RelC G ρ σ (upd H p o) :=
  let ⟨a, b, c, d, e⟩ := R.free h
  R.put a b c d e

/-- an object joins the region -/
theorem RelC.join (R : RelC G ρ σ H) (hB : G.B p = none) (h0 : G.H0 p = none) (hf : G.fa ≠ some p) (hm : NoMu ρ σ p) (hr : NoPr G p) (hp : H p = some o) : RelC { G with B := upd G.B p o } ρ σ H ∧ G.le { G with B := upd G.B p o } := by
  have sm : Same G.B (upd G.B p o) := fun q u e => by rw [upd_ne (ne_of_none e hB)]; exact e
  have le : G.le { G with B := upd G.B p o } := ⟨rfl, rfl, sm, fun _ e => e, rfl, rfl⟩
  refine ⟨⟨fun q u e => ?_, R.same0.trans sm, R.old, fun q u e => ?_, R.len, fun i c x e1 e2 => ?_, R.dist, fun q e => ?_, fun q u e => ?_, R.fa0⟩, le⟩
  · by_cases z : q = p
    · subst z
      have e : upd G.B q o q = some u := e
      rw [upd_same] at e
      cases e
      exact hp
    · have e : upd G.B p o q = some u := e
      rw [upd_ne z] at e
      exact R.same q u e
  · by_cases z : q = p
    · subst z
      exact .inl h0
    · have e : upd G.B p o q = some u := e
      rw [upd_ne z] at e
      exact R.newB q u e
  · cases c with
    | mu ds =>
      obtain ⟨q, vs, e, b, h0', f, hq, t⟩ := R.cells i _ _ e1 e2
      refine ⟨q, vs, e, ?_, h0', f, hq, t.mono sm⟩
      have : q ≠ p := fun z => hm i ds e1 (by rw [e2, e, z])
      show upd G.B p o q = none
      rw [upd_ne this]
      exact b
    | un => trivial
    | im d =>
      obtain ⟨v, e, t⟩ := R.cells i _ _ e1 e2
      exact ⟨v, e, t.mono sm⟩
    | fd => exact R.cells i _ _ e1 e2
  · have : q ≠ p := fun z => hf (z ▸ e)
    refine ⟨?_, (R.feed q e).2.mono sm rfl⟩
    show upd G.B p o q = none
    rw [upd_ne this]
    exact (R.feed q e).1
  · have : q ≠ p := fun z => hr u (z ▸ e)
    obtain ⟨h1, h2, h3⟩ := R.priv q u e
    exact ⟨h1, (upd_ne this).trans h2, h3⟩

/-- a new object of data -/
theorem RelC.new (R : RelC G ρ σ H) (h : H p = none) : RelC { G with B := upd G.B p o } ρ σ (upd H p o) ∧ G.le { G with B := upd G.B p o } :=
  let ⟨a, b, c, d, e⟩ := R.free h
  (R.alloc h).join a b c d e upd_same

/-- slots forgotten, data forgotten -/
theorem RelC.weak (R : RelC G ρ σ H) (hl : ρ'.length = ρ.length) (h : ∀ (i : Nat) (c' : Cell), ρ'[i]? = some c' → c' = .un ∨ ρ[i]? = some c') : RelC G ρ' σ H where
  same := R.same
  same0 := R.same0
  old := R.old
  newB := R.newB
  len := hl.trans R.len
  cells := fun i c x e1 e2 => by
    rcases h i c e1 with z | z
    · subst z
      trivial
    · exact R.cells i c x z e2
  dist := fun i j p ds es ne e1 e2 => by
    rcases h i _ e1 with z | z
    · cases z
    · rcases h j _ e2 with y | y
      · cases y
      · exact R.dist i j p ds es ne z y
  feed := R.feed
  priv := fun p o e => by
    obtain ⟨h1, h2, h3, h4, h5⟩ := R.priv p o e
    refine ⟨h1, h2, h3, h4, fun i ds e1 => ?_⟩
    rcases h i _ e1 with z | z
    · cases z
    · exact h5 i ds z
  fa0 := R.fa0
end
end Dv

/-! DvB: readings by data: expressions. -/
namespace Dv
open PySem PySem.Spec L2
open PyProof.Rows hiding St

variable {Z : Zx} {X : Cx}

theorem Rel.up {G G' : Gs} {ρ : Rho} {c : List Cell} {σ σ' : St} {H H' : Hp} (R : Rel Z G ρ σ H) (le : G.le G') (R' : RelC G' c σ' H') : Rel Z G' ⟨c, ρ.x⟩ σ' H' :=
  ⟨R', fun xn G2 ρ' σ2 H2 cls d le2 R2 l h => R.ex xn G2 ρ' σ2 H2 cls d (le.trans le2) R2 l h⟩
theorem Rel.put {G : Gs} {ρ : Rho} {σ : St} {H : Hp} {p : Addr} {o : HO} (R : Rel Z G ρ σ H) (h : H p = none) : Rel Z G ρ σ (upd H p o) := R.up (Gs.le.refl G) (R.rc.alloc h)
theorem Rel.new {G : Gs} {ρ : Rho} {σ : St} {H : Hp} {p : Addr} {o : HO} (R : Rel Z G ρ σ H) (h : H p = none) : ∃ G', G.le G' ∧ Rel Z G' ρ σ (upd H p o) ∧ G'.B p = some o := by
  obtain ⟨R', le⟩ := R.rc.new (o := o) h
  exact ⟨_, le, R.up le R', upd_same⟩
/-- a new list is data from now on -/
theorem Rel.freeze {G : Gs} {ρ : Rho} {σ : St} {H : Hp} {ds : List D} {v : V} (R : Rel Z G ρ σ H) (h : VlOk G H ρ.c σ (.fr ds) v) : ∃ G', G.le G' ∧ Rel Z G' ρ σ H ∧ Dt G'.B v (.list ds) := by
  obtain ⟨p, vs, rfl, hB, h0, hf, hp, t, hm, hr⟩ := h
  obtain ⟨R', le⟩ := R.rc.join hB h0 hf hm hr hp
  exact ⟨_, le, R.up le R', .lst upd_same (t.mono le.same)⟩
/-- a new list, not yet data -/
theorem Rel.frNew {G : Gs} {ρ : Rho} {σ : St} {H : Hp} {p : Addr} {vs : List V} {ds : List D} (R : Rel Z G ρ σ H) (h : H p = none) (t : DtA G.B vs ds) : Rel Z G ρ σ (upd H p (.lst vs)) ∧ VlOk G (upd H p (.lst vs)) ρ.c σ (.fr ds) (.ref p) := by
  obtain ⟨a, b, c, d, e⟩ := R.rc.free h
  exact ⟨R.put h, p, vs, rfl, a, b, c, upd_same, t, d, e⟩

/-- data of a value -/
def fz (v : Vl) (k : D → Prop) : Prop := match v with
  | .im d => k d
  | .fr ds => k (.list ds)
  | .fd => False
theorem Rel.fz {G : Gs} {ρ : Rho} {σ : St} {H : Hp} {val : Vl} {v : V} {k : D → Prop} (R : Rel Z G ρ σ H) (h : VlOk G H ρ.c σ val v) (hk : Dv.fz val k) : ∃ G' d, G.le G' ∧ Rel Z G' ρ σ H ∧ Dt G'.B v d ∧ k d := by
  cases val with
  | im d => exact ⟨G, d, .refl G, R, h, hk⟩
  | fr ds =>
    obtain ⟨G', le, R', t⟩ := R.freeze h
    exact ⟨G', _, le, R', t, hk⟩
  | fd => exact hk.elim

/-! ### the readings -/
abbrev SE := Rho → (Vl → Rho → Prop) → Prop
abbrev ST := Rho → (Bool → Rho → Prop) → Prop
/-- an operand that is only read: data, or what stands in a slot -/
inductive Op where
  | d (d : D) | s (i : Nat)
abbrev SR := Rho → (Op → Rho → Prop) → Prop
/-- an argument: data or the feed -/
inductive Ar where
  | d (d : D) | fd
abbrev SA := Rho → (List Ar → Rho → Prop) → Prop
abbrev SDs := Rho → (List D → Rho → Prop) → Prop

def tE (Z : Zx) (f : SE) : TE := fun σ H Q => ∃ G ρ Q', Rel Z G ρ σ H ∧ f ρ Q' ∧ ∀ v G' ρ' H' val, G.le G' → Rel Z G' ρ' σ H' → VlOk G' H' ρ'.c σ val v → Q' val ρ' → Q v H'
def tT (Z : Zx) (f : ST) : TT := fun σ H Q => ∃ G ρ Q', Rel Z G ρ σ H ∧ f ρ Q' ∧ ∀ b G' ρ' H', G.le G' → Rel Z G' ρ' σ H' → Q' b ρ' → Q b H'
def OpOk (G : Gs) (σ : St) : Op → V → Prop
  | .d d, v => Dt G.B v d
  | .s i, v => σ[i]? = some (some v)
def tR (Z : Zx) (f : SR) : TE := fun σ H Q => ∃ G ρ Q', Rel Z G ρ σ H ∧ f ρ Q' ∧ ∀ v G' ρ' H' op, G.le G' → Rel Z G' ρ' σ H' → OpOk G' σ op v → Q' op ρ' → Q v H'
def ArOk (G : Gs) : Ar → V → Prop
  | .d d, v => Dt G.B v d
  | .fd, v => ∃ p, v = .ref p ∧ G.fa = some p
inductive ArsOk (G : Gs) : List Ar → List V → Prop
  | nil : ArsOk G [] []
  | cons {a : Ar} {v : V} {as : List Ar} {vs : List V} : ArOk G a v → ArsOk G as vs → ArsOk G (a :: as) (v :: vs)
def tA (Z : Zx) (f : SA) : TA := fun σ H Q => ∃ G ρ Q', Rel Z G ρ σ H ∧ f ρ Q' ∧ ∀ vs G' ρ' H' as, G.le G' → Rel Z G' ρ' σ H' → ArsOk G' as vs → Q' as ρ' → Q vs H'
def tDs (Z : Zx) (f : SDs) : TA := fun σ H Q => ∃ G ρ Q', Rel Z G ρ σ H ∧ f ρ Q' ∧ ∀ vs G' ρ' H' ds, G.le G' → Rel Z G' ρ' σ H' → DtA G'.B vs ds → Q' ds ρ' → Q vs H'

theorem PE.imp {e : Expr} {t t' : TE} (h : PE X e t) (i : ∀ σ H Q, t' σ H Q → t σ H Q) : PE X e t' := ⟨fun pins s σ H Q I q => h.run pins s σ H Q I (i σ H Q q)⟩
theorem PT.imp {e : Expr} {t t' : TT} (h : PT X e t) (i : ∀ σ H Q, t' σ H Q → t σ H Q) : PT X e t' := ⟨fun pins s σ H Q I q => h.run pins s σ H Q I (i σ H Q q)⟩
theorem PW.imp {e : Expr} {t t' : TT} (h : PW X e t) (i : ∀ σ H Q, t' σ H Q → t σ H Q) : PW X e t' := ⟨fun wh pins s σ H Q I q => h.run wh pins s σ H Q I (i σ H Q q)⟩
theorem PA.imp {e : List Expr} {t t' : TA} (h : PA X e t) (i : ∀ σ H Q, t' σ H Q → t σ H Q) : PA X e t' := ⟨fun pos pins s σ H Q I q => h.run pos pins s σ H Q I (i σ H Q q)⟩

theorem ArOk.mono {G G' : Gs} (le : G.le G') {a : Ar} {v : V} (h : ArOk G a v) : ArOk G' a v := by
  cases a with
  | d d => exact Dt.mono le.same h
  | fd =>
    obtain ⟨p, e, f⟩ := h
    exact ⟨p, e, le.fa p f⟩
theorem ArsOk.mono {G G' : Gs} (le : G.le G') : ∀ {as : List Ar} {vs : List V}, ArsOk G as vs → ArsOk G' as vs
  | _, _, .nil => .nil
  | _, _, .cons h t => .cons (h.mono le) (ArsOk.mono le t)
theorem OpOk.mono {G G' : Gs} (le : G.le G') {σ : St} {a : Op} {v : V} (h : OpOk G σ a v) : OpOk G' σ a v := by
  cases a with
  | d d => exact Dt.mono le.same h
  | s i => exact h

/-! ### what an operand stands for, when it is used -/
def rs (o : Op) (ρ : Rho) (k : D → Prop) : Prop := match o with
  | .d d => k d
  | .s i => match ρ.c[i]? with
    | some (.im d) => k d
    | some (.mu ds) => k (.list ds)
    | _ => False
/-- v is d in the heap H: if a list, then of data in B -/
def Tp (B H : Hp) (v : V) : D → Prop
  | .list ds => ∃ p vs, v = .ref p ∧ H p = some (.lst vs) ∧ DtA B vs ds
  | d => Dt B v d
theorem Tp.of {B H : Hp} (e : Same B H) {v : V} {d : D} (h : Dt B v d) : Tp B H v d := by
  cases d with
  | list ds =>
    cases h with
    | lst h t => exact ⟨_, _, rfl, e _ _ h, t⟩
  | none => exact h
  | bool b => exact h
  | int i => exact h
  | str x => exact h
  | tuple ds => exact h
  | dict k => cases h
theorem Rel.rs {G : Gs} {ρ : Rho} {σ : St} {H : Hp} {o : Op} {v : V} {k : D → Prop} (R : Rel Z G ρ σ H) (h : OpOk G σ o v) (hk : Dv.rs o ρ k) : ∃ d, Tp G.B H v d ∧ k d := by
  cases o with
  | d d => exact ⟨d, .of R.rc.same h, hk⟩
  | s i =>
    have h : σ[i]? = some (some v) := h
    simp only [Dv.rs] at hk
    split at hk
    · rename_i d e
      obtain ⟨w, e2, t⟩ := R.rc.cells i _ _ e h
      cases e2
      exact ⟨d, .of R.rc.same t, hk⟩
    · rename_i ds e
      obtain ⟨p, vs, e2, _, _, _, hp, t⟩ := R.rc.cells i _ _ e h
      cases e2
      exact ⟨.list ds, ⟨p, vs, rfl, hp, t⟩, hk⟩
    · exact hk.elim
theorem Tp.dp {B H : Hp} {K : PySem.W.Frag} (e : Same B H) {v : V} {d : D} (h : Tp B H v d) : Dp K H v d := by
  cases d with
  | list ds =>
    obtain ⟨p, vs, rfl, hp, t⟩ := h
    exact .lst (SqL.of hp) (t.toDp e)
  | none => exact Dt.toDp e h
  | bool b => exact Dt.toDp e h
  | int i => exact Dt.toDp e h
  | str x => exact Dt.toDp e h
  | tuple ds => exact Dt.toDp e h
  | dict k => cases h
theorem Tp.int {B H : Hp} {v : V} {i : Int} (h : Tp B H v (.int i)) : v = .int i := by cases h; rfl
theorem Tp.str {B H : Hp} {v : V} {i : Str} (h : Tp B H v (.str i)) : v = .str i := by cases h; rfl
theorem Tp.bool {B H : Hp} {v : V} {i : Bool} (h : Tp B H v (.bool i)) : v = .bl i := by cases h; rfl
theorem Tp.tup {B H : Hp} {v : V} {ds : List D} (h : Tp B H v (.tuple ds)) : ∃ p vs, v = .ref p ∧ B p = some (.tup vs) ∧ DtA B vs ds := by
  cases h with
  | tup a b => exact ⟨_, _, rfl, a, b⟩

/-! ### names, constants -/
def sVar (i : Nat) : SE := fun ρ Q => match ρ.c[i]? with
  | some (.im d) => Q (.im d) ρ
  | some (.mu ds) => Q (.im (.list ds)) ⟨ρ.c.set i (.im (.list ds)), ρ.x⟩
  | some .fd => Q .fd ρ
  | _ => False
theorem getElem?_set_cases {α : Type} {l : List α} {i j : Nat} {a c : α} (h : (l.set i a)[j]? = some c) : (i = j ∧ a = c) ∨ (i ≠ j ∧ l[j]? = some c) := by
  by_cases e : i = j
  · subst e
    by_cases hi : i < l.length
    · rw [List.getElem?_set_self hi] at h
      exact .inl ⟨rfl, Option.some.inj h⟩
    · rw [List.getElem?_eq_none (by simpa using hi)] at h
      cases h
  · rw [List.getElem?_set_ne e] at h
    exact .inr ⟨e, h⟩
/-- the list of a slot becomes data -/
theorem RelC.slot {G : Gs} {ρ : List Cell} {σ : St} {H : Hp} {i : Nat} {ds : List D} {v : V} (R : RelC G ρ σ H) (h : ρ[i]? = some (.mu ds)) (hv : σ[i]? = some (some v)) :
    ∃ G', G.le G' ∧ RelC G' (ρ.set i (.im (.list ds))) σ H ∧ Dt G'.B v (.list ds) := by
  obtain ⟨p, vs, e, hB, h0, hf, hp, t⟩ := R.cells i _ _ h hv
  cases e
  have hr : NoPr G p := fun o e => (R.priv p o e).2.2.2.2 i ds h hv
  -- the slot forgotten
  have R1 : RelC G (ρ.set i .un) σ H := R.weak (by simp) fun j c' e => by
    rcases getElem?_set_cases e with ⟨_, e2⟩ | ⟨_, e2⟩
    · exact .inl e2.symm
    · exact .inr e2
  have hm : NoMu (ρ.set i .un) σ p := fun j es e1 e2 => by
    rcases getElem?_set_cases e1 with ⟨_, e3⟩ | ⟨ne, e3⟩
    · cases e3
    · exact R.dist i j p ds es ne h e3 hv e2
  obtain ⟨R2, le⟩ := R1.join hB h0 hf hm hr hp
  refine ⟨_, le, ⟨R2.same, R2.same0, R2.old, R2.newB, by rw [← R2.len]; simp, fun j c x e1 e2 => ?_, fun j k q d1 d2 ne e1 e2 e3 e4 => ?_, R2.feed, fun q o e => ?_, R2.fa0⟩, .lst upd_same (t.mono le.same)⟩
  · rcases getElem?_set_cases e1 with ⟨e3, e4⟩ | ⟨ne, e3⟩
    · subst e3 e4
      rw [hv] at e2
      cases e2
      exact ⟨_, rfl, .lst upd_same (t.mono le.same)⟩
    · exact R2.cells j c x (by rw [List.getElem?_set_ne ne]; exact e3) e2
  · rcases getElem?_set_cases e1 with ⟨_, e5⟩ | ⟨n1, e5⟩
    · cases e5
    · rcases getElem?_set_cases e2 with ⟨_, e6⟩ | ⟨n2, e6⟩
      · cases e6
      · exact R.dist j k q d1 d2 ne e5 e6 e3 e4
  · obtain ⟨h1, h2, h3, h4, h5⟩ := R2.priv q o e
    refine ⟨h1, h2, h3, h4, fun j es e1 => ?_⟩
    rcases getElem?_set_cases e1 with ⟨_, e5⟩ | ⟨n1, e5⟩
    · cases e5
    · exact h5 j es (by rw [List.getElem?_set_ne n1]; exact e5)

theorem ev_var (i : Nat) {x : Str} {pos : Pos} (hN : X.N[i]? = some x := by rfl) (hv : Vis X.env.scope x := by first | exact Or.inl rfl | exact Or.inr (Or.inl rfl) | exact Or.inr (Or.inr rfl)) (hd : (x == ("__debug__" : Str)) = false := by decide)
    (hcd : (x == ("__classdict__" : Str)) = false := by decide) : PE X (.Name x pos) (tE Z (sVar i)) := by
  refine PE.imp (pe_var hN hv hd hcd) fun σ H Q h => ?_
  obtain ⟨G, ρ, Q', R, h, q⟩ := h
  have hl : ∀ {c : Cell}, ρ.c[i]? = some c → ∃ o, σ[i]? = some o := fun {c} e => by
    have h1 : i < ρ.c.length := (List.getElem?_eq_some_iff.mp e).1
    rw [R.rc.len] at h1
    exact ⟨_, List.getElem?_eq_getElem h1⟩
  unfold sVar at h
  split at h
  · rename_i d e
    obtain ⟨o, eo⟩ := hl e
    obtain ⟨v, e2, t⟩ := R.rc.cells i _ _ e eo
    subst e2
    exact ⟨v, eo, q v G ρ H (.im d) (.refl G) R t h⟩
  · rename_i ds e
    obtain ⟨o, eo⟩ := hl e
    obtain ⟨p, vs, e2, _⟩ := R.rc.cells i _ _ e eo
    subst e2
    obtain ⟨G', le, R', t⟩ := R.rc.slot e eo
    exact ⟨_, eo, q _ G' _ H (.im (.list ds)) le (R.up le R') t h⟩
  · rename_i e
    obtain ⟨o, eo⟩ := hl e
    obtain ⟨p, e2, f⟩ := R.rc.cells i _ _ e eo
    subst e2
    exact ⟨_, eo, q _ G ρ H .fd (.refl G) R ⟨p, rfl, f⟩ h⟩
  · exact h.elim
/-- a slot that is only read -/
def sRV (i : Nat) : SR := fun ρ Q => (match ρ.c[i]? with | some (.im _) => True | some (.mu _) => True | _ => False) ∧ Q (.s i) ρ
theorem er_var (i : Nat) {x : Str} {pos : Pos} (hN : X.N[i]? = some x := by rfl) (hv : Vis X.env.scope x := by first | exact Or.inl rfl | exact Or.inr (Or.inl rfl) | exact Or.inr (Or.inr rfl)) (hd : (x == ("__debug__" : Str)) = false := by decide)
    (hcd : (x == ("__classdict__" : Str)) = false := by decide) : PE X (.Name x pos) (tR Z (sRV i)) := by
  refine PE.imp (pe_var hN hv hd hcd) fun σ H Q h => ?_
  obtain ⟨G, ρ, Q', R, ⟨h0, h⟩, q⟩ := h
  have hl : ∀ {c : Cell}, ρ.c[i]? = some c → ∃ o, σ[i]? = some o := fun {c} e => by
    have h1 : i < ρ.c.length := (List.getElem?_eq_some_iff.mp e).1
    rw [R.rc.len] at h1
    exact ⟨_, List.getElem?_eq_getElem h1⟩
  split at h0
  · rename_i d e
    obtain ⟨o, eo⟩ := hl e
    obtain ⟨v, e2, t⟩ := R.rc.cells i _ _ e eo
    subst e2
    exact ⟨v, eo, q v G ρ H (.s i) (.refl G) R eo h⟩
  · rename_i ds e
    obtain ⟨o, eo⟩ := hl e
    obtain ⟨p, vs, e2, _⟩ := R.rc.cells i _ _ e eo
    subst e2
    exact ⟨_, eo, q _ G ρ H (.s i) (.refl G) R eo h⟩
  · exact h0.elim
/-- an operand that is made on the way -/
def sRE (f : SE) : SR := fun ρ Q => f ρ fun v ρ' => fz v fun d => Q (.d d) ρ'
theorem er_of {e : Expr} {f : SE} (h : PE X e (tE Z f)) : PE X e (tR Z (sRE f)) := by
  refine PE.imp h fun σ H Q h => ?_
  obtain ⟨G, ρ, Q', R, h, q⟩ := h
  refine ⟨G, ρ, _, R, h, fun v G' ρ' H' val le R' vo hq => ?_⟩
  obtain ⟨G2, d, le2, R2, t, hk⟩ := R'.fz vo hq
  exact q v G2 ρ' H' (.d d) (le.trans le2) R2 t hk
def sC (d : D) : SE := fun ρ Q => Q (.im d) ρ
theorem tE_c {v : V} {d : D} (h : ∀ B, Dt B v d) : ∀ σ H Q, tE Z (sC d) σ H Q → tC v σ H Q := fun σ H Q ⟨G, ρ, Q', R, hq, q⟩ => q v G ρ H (.im d) (.refl G) R (h G.B) hq
theorem ev_int {i : Int} {j : Nat} {pos : Pos} : PE X (.Constant (.int i) j pos) (tE Z (sC (.int i))) := PE.imp pe_int (tE_c fun _ => .int i)
theorem ev_str {x : Str} {j : Nat} {pos : Pos} : PE X (.Constant (.str x) j pos) (tE Z (sC (.str x))) := PE.imp pe_str (tE_c fun _ => .str x)
theorem ev_bl {b : Bool} {j : Nat} {pos : Pos} : PE X (.Constant (.bool b) j pos) (tE Z (sC (.bool b))) := PE.imp pe_bl (tE_c fun _ => .bl b)
theorem ev_non {j : Nat} {pos : Pos} : PE X (.Constant .none j pos) (tE Z (sC .none)) := PE.imp pe_non (tE_c fun _ => .non)
/-- a module's constant -/
theorem ev_glob {x : Str} {v : V} {d : D} {u : Value} {pos : Pos} (hg : Gl X x) (hm : X.mg x = some u) (r : RelV v u) (h : ∀ B, Dt B v d) (hd : (x == ("__debug__" : Str)) = false := by decide) : PE X (.Name x pos) (tE Z (sC d)) :=
  PE.imp (pe_glob hg hm r hd) (tE_c h)

/-! ### argument lists, displays -/
def ar (v : Vl) (k : Ar → Prop) : Prop := match v with
  | .im d => k (.d d)
  | .fr ds => k (.d (.list ds))
  | .fd => k .fd
theorem Rel.ar {G : Gs} {ρ : Rho} {σ : St} {H : Hp} {val : Vl} {v : V} {k : Ar → Prop} (R : Rel Z G ρ σ H) (h : VlOk G H ρ.c σ val v) (hk : Dv.ar val k) : ∃ G' a, G.le G' ∧ Rel Z G' ρ σ H ∧ ArOk G' a v ∧ k a := by
  cases val with
  | im d => exact ⟨G, .d d, .refl G, R, h, hk⟩
  | fr ds =>
    obtain ⟨G', le, R', t⟩ := R.freeze h
    exact ⟨G', .d _, le, R', t, hk⟩
  | fd => exact ⟨G, .fd, .refl G, R, h, hk⟩
def aNil : SA := fun ρ Q => Q [] ρ
def aCons (f : SE) (t : SA) : SA := fun ρ Q => f ρ fun v ρ1 => ar v fun a => t ρ1 fun as ρ2 => Q (a :: as) ρ2
theorem ea_nil : PA X [] (tA Z aNil) := PA.imp pa_nil fun σ H Q ⟨G, ρ, Q', R, h, q⟩ => q [] G ρ H [] (.refl G) R .nil h
theorem ea_cons {e : Expr} {es : List Expr} {f : SE} {t : SA} (ha : PE X e (tE Z f)) (hr : PA X es (tA Z t)) (hs : starEach (e :: es) X.env = (false, eval e X.env) :: starEach es X.env := by rfl) : PA X (e :: es) (tA Z (aCons f t)) := by
  refine PA.imp (pa_cons ha hr hs) fun σ H Q ⟨G, ρ, Q', R, h, q⟩ => ?_
  refine ⟨G, ρ, _, R, h, fun v G1 ρ1 H1 val le1 R1 vo hq => ?_⟩
  obtain ⟨G2, a, le2, R2, t, hk⟩ := R1.ar vo hq
  refine ⟨G2, ρ1, _, R2, hk, fun vs G3 ρ3 H3 as le3 R3 ao hq3 => ?_⟩
  exact q (v :: vs) G3 ρ3 H3 (a :: as) ((le1.trans le2).trans le3) R3 (.cons (t.mono le3) ao) hq3
def dNil : SDs := fun ρ Q => Q [] ρ
def dCons (f : SE) (t : SDs) : SDs := fun ρ Q => f ρ fun v ρ1 => fz v fun a => t ρ1 fun as ρ2 => Q (a :: as) ρ2
theorem ed_nil : PA X [] (tDs Z dNil) := PA.imp pa_nil fun σ H Q ⟨G, ρ, Q', R, h, q⟩ => q [] G ρ H [] (.refl G) R .nil h
theorem ed_cons {e : Expr} {es : List Expr} {f : SE} {t : SDs} (ha : PE X e (tE Z f)) (hr : PA X es (tDs Z t)) (hs : starEach (e :: es) X.env = (false, eval e X.env) :: starEach es X.env := by rfl) : PA X (e :: es) (tDs Z (dCons f t)) := by
  refine PA.imp (pa_cons ha hr hs) fun σ H Q ⟨G, ρ, Q', R, h, q⟩ => ?_
  refine ⟨G, ρ, _, R, h, fun v G1 ρ1 H1 val le1 R1 vo hq => ?_⟩
  obtain ⟨G2, a, le2, R2, t, hk⟩ := R1.fz vo hq
  refine ⟨G2, ρ1, _, R2, hk, fun vs G3 ρ3 H3 as le3 R3 ao hq3 => ?_⟩
  exact q (v :: vs) G3 ρ3 H3 (a :: as) ((le1.trans le2).trans le3) R3 (.cons (t.mono le3.same) ao) hq3
def sLst (t : SDs) : SE := fun ρ Q => t ρ fun ds ρ' => ds.length ≤ 1000 ∧ Q (.fr ds) ρ'
def sTup (t : SDs) : SE := fun ρ Q => t ρ fun ds ρ' => ds.length ≤ 1000 ∧ Q (.im (.tuple ds)) ρ'
theorem le1000 {n : Nat} (h : n ≤ 1000) : n ≤ sizeLine := Nat.le_trans h (by decide)
theorem ev_lst {es : List Expr} {t : SDs} {pos : Pos} (h : PA X es (tDs Z t)) : PE X (.List es pos) (tE Z (sLst t)) := by
  refine PE.imp (pe_lst h) fun σ H Q ⟨G, ρ, Q', R, h, q⟩ => ?_
  refine ⟨G, ρ, _, R, h, fun vs G1 ρ1 H1 ds le1 R1 t hq => ⟨?_, fun p hp => ?_⟩⟩
  · rw [t.length]
    exact le1000 hq.1
  · obtain ⟨R2, v⟩ := R1.frNew hp t
    exact q _ G1 ρ1 _ (.fr ds) le1 R2 v hq.2
theorem ev_tup {es : List Expr} {t : SDs} {pos : Pos} {x1 : Nat} (h : PA X es (tDs Z t)) : PE X (.Tuple es x1 pos) (tE Z (sTup t)) := by
  refine PE.imp (pe_tup h) fun σ H Q ⟨G, ρ, Q', R, h, q⟩ => ?_
  refine ⟨G, ρ, _, R, h, fun vs G1 ρ1 H1 ds le1 R1 t hq => ⟨?_, fun p hp => ?_⟩⟩
  · rw [t.length]
    exact le1000 hq.1
  · obtain ⟨G2, le2, R2, e⟩ := R1.new (o := .tup vs) hp
    exact q _ G2 ρ1 _ (.im (.tuple ds)) (le1.trans le2) R2 (.tup e (t.mono le2.same)) hq.2

/-! ### operations by values -/
abbrev O1 := D → (Vl → Prop) → Prop
abbrev O2 := D → D → (Vl → Prop) → Prop
/-- what a rule r of HandS must do for the operation o of ours -/
def Ok1 (r : V → Hp → VK → Prop) (o : O1) : Prop := ∀ (Z : Zx) (G : Gs) (ρ : Rho) (σ : St) (H : Hp) (v : V) (d : D) (k : Vl → Prop) (Q : VK), Rel Z G ρ σ H → Tp G.B H v d → o d k →
  (∀ val v' G' H', G.le G' → Rel Z G' ρ σ H' → VlOk G' H' ρ.c σ val v' → k val → Q v' H') → r v H Q
def Ok2 (r : R2) (o : O2) : Prop := ∀ (Z : Zx) (G : Gs) (ρ : Rho) (σ : St) (H : Hp) (v w : V) (d e : D) (k : Vl → Prop) (Q : VK), Rel Z G ρ σ H → Tp G.B H v d → Tp G.B H w e → o d e k →
  (∀ val v' G' H', G.le G' → Rel Z G' ρ σ H' → VlOk G' H' ρ.c σ val v' → k val → Q v' H') → r v w H Q
def s1 (o : O1) (g : SR) : SE := fun ρ Q => g ρ fun x ρ1 => rs x ρ1 fun d => o d fun v => Q v ρ1
def s2 (o : O2) (g h : SR) : SE := fun ρ Q => g ρ fun x ρ1 => h ρ1 fun y ρ2 => rs x ρ2 fun d => rs y ρ2 fun e => o d e fun v => Q v ρ2
theorem t_un {r : V → Hp → VK → Prop} {o : O1} (ok : Ok1 r o) {g : SR} : ∀ σ H Q, tE Z (s1 o g) σ H Q → tUn r (tR Z g) σ H Q := fun σ H Q ⟨G, ρ, Q', R, h, q⟩ => by
  refine ⟨G, ρ, _, R, h, fun v G1 ρ1 H1 op le1 R1 oo hq => ?_⟩
  obtain ⟨d, t, hk⟩ := R1.rs oo hq
  exact ok Z G1 ρ1 σ H1 v d _ Q R1 t hk fun val v' G' H' le R' vo hv => q v' G' ρ1 H' val (le1.trans le) R' vo hv
theorem t_op {r : R2} {o : O2} (ok : Ok2 r o) {g h : SR} : ∀ σ H Q, tE Z (s2 o g h) σ H Q → tOp r (tR Z g) (tR Z h) σ H Q := fun σ H Q ⟨G, ρ, Q', R, hh, q⟩ => by
  refine ⟨G, ρ, _, R, hh, fun v G1 ρ1 H1 op1 le1 R1 oo1 hq1 => ?_⟩
  refine ⟨G1, ρ1, _, R1, hq1, fun w G2 ρ2 H2 op2 le2 R2 oo2 hq2 => ?_⟩
  obtain ⟨d, t1, hk⟩ := R2.rs (oo1.mono le2) hq2
  obtain ⟨e, t2, hk⟩ := R2.rs oo2 hk
  exact ok Z G2 ρ2 σ H2 v w d e _ Q R2 t1 t2 hk fun val v' G' H' le R' vo hv => q v' G' ρ2 H' val ((le1.trans le2).trans le) R' vo hv
/-- a value as a test -/
def sT (f : SE) : ST := fun ρ Q => f ρ fun v ρ' => match v with | .im (.bool b) => Q b ρ' | _ => False
theorem t_test {f : SE} : ∀ σ H Q, tT Z (sT f) σ H Q → tE Z f σ H fun x H' => ∃ k, x = .bl k ∧ Q k H' := fun σ H Q ⟨G, ρ, Q', R, h, q⟩ => by
  refine ⟨G, ρ, _, R, h, fun v G1 ρ1 H1 val le1 R1 vo hq => ?_⟩
  split at hq
  · rename_i b
    have t : Dt G1.B v (.bool b) := vo
    cases t
    exact ⟨b, rfl, q b G1 ρ1 H1 le1 R1 hq⟩
  · exact hq.elim
theorem et_val {e : Expr} {f : SE} (h : PE X e (tE Z f)) (he : ∀ whole, isTrue e X.env whole = (do let v ← whole; standAt e.pos; holding [v] (truthy v)) := by intro _; rfl) : PT X e (tT Z (sT f)) :=
  PT.imp (pt_val h he) t_test

section
variable {a b c : Expr} {g h l : SR} {pos : Pos}
theorem ev_bin {op : Operator} {r : R2} {o : O2} (ho : OpR X (binaryOp op) r) (ok : Ok2 r o) (ha : PE X a (tR Z g)) (hb : PE X b (tR Z h)) : PE X (.BinOp a op b pos) (tE Z (s2 o g h)) := PE.imp (pe_op ho ha hb) (t_op ok)
theorem ev_un {op : UnaryOp} {r : V → Hp → VK → Prop} {o : O1} (ho : UnR X (unaryOp op) r) (ok : Ok1 r o) (ha : PE X a (tR Z g)) : PE X (.UnaryOp op a pos) (tE Z (s1 o g)) := PE.imp (pe_un ho ha) (t_un ok)
theorem ev_cmp {op : CmpOp} {r : R2} {o : O2} (ho : OpR X (compareOp op) r) (ok : Ok2 r o) (ha : PE X a (tR Z g)) (hb : PE X b (tR Z h)) (hm : behindInMarks op b = false) : PE X (.Compare a [op] [b] pos) (tE Z (s2 o g h)) := PE.imp (pe_cmpR ho ha hb hm) (t_op ok)
theorem et_cmp {op : CmpOp} {r : R2} {o : O2} (ho : OpR X (compareOp op) r) (ok : Ok2 r o) (ha : PE X a (tR Z g)) (hb : PE X b (tR Z h)) (hm : behindInMarks op b = false) : PT X (.Compare a [op] [b] pos) (tT Z (sT (s2 o g h))) :=
  PT.imp (pt_cmpR ho ha hb hm) fun σ H Q q => t_op ok σ H _ (t_test σ H Q q)
theorem ev_ix {r : R2} {o : O2} (ho : IxR X r) (ok : Ok2 r o) (ha : PE X a (tR Z g)) (hb : PE X b (tR Z h)) (hs : PlainIx b) : PE X (.Subscript a b pos) (tE Z (s2 o g h)) := PE.imp (pe_ix ho ha hb hs) (t_op ok)
/-- a op b op' c -/
def s3 (o o' : O2) (g h l : SR) : SE := fun ρ Q => g ρ fun x ρ1 => h ρ1 fun y ρ2 => rs x ρ2 fun d => rs y ρ2 fun e => o d e fun v => match v with
  | .im (.bool true) => l ρ2 fun z ρ3 => rs y ρ3 fun e' => rs z ρ3 fun f => o' e' f fun v => Q v ρ3
  | .im (.bool false) => Q (.im (.bool false)) ρ2
  | _ => False
theorem t_chain {r r' : R2} {o o' : O2} (ok : Ok2 r o) (ok' : Ok2 r' o') {g h l : SR} : ∀ σ H Q, tE Z (s3 o o' g h l) σ H Q → tChain r r' (tR Z g) (tR Z h) (tR Z l) σ H Q := fun σ H Q ⟨G, ρ, Q', R, hh, q⟩ => by
  refine ⟨G, ρ, _, R, hh, fun v G1 ρ1 H1 op1 le1 R1 oo1 hq1 => ?_⟩
  refine ⟨G1, ρ1, _, R1, hq1, fun w G2 ρ2 H2 op2 le2 R2 oo2 hq2 => ?_⟩
  obtain ⟨d, t1, hk⟩ := R2.rs (oo1.mono le2) hq2
  obtain ⟨e, t2, hk⟩ := R2.rs oo2 hk
  refine ok Z G2 ρ2 σ H2 v w d e _ _ R2 t1 t2 hk fun val v' G' H' le R' vo hv => ?_
  split at hv
  · have t : Dt G'.B v' (.bool true) := vo
    cases t
    refine ⟨true, rfl, iteT ⟨G', ρ2, _, R', hv, fun z G3 ρ3 H3 op3 le3 R3 oo3 hq3 => ?_⟩⟩
    obtain ⟨e', t3, hk⟩ := R3.rs ((oo2.mono le).mono le3) hq3
    obtain ⟨f, t4, hk⟩ := R3.rs oo3 hk
    exact ok' Z G3 ρ3 σ H3 w z e' f _ Q R3 t3 t4 hk fun val v' G' H' le4 R' vo hv => q v' G' ρ3 H' val ((((le1.trans le2).trans le).trans le3).trans le4) R' vo hv
  · have t : Dt G'.B v' (.bool false) := vo
    cases t
    exact ⟨false, rfl, iteF (q _ G' ρ2 H' (.im (.bool false)) ((le1.trans le2).trans le) R' (.bl false) hv)⟩
  · exact hv.elim
theorem ev_chain {op op' : CmpOp} {r r' : R2} {o o' : O2} (ho : OpR X (compareOp op) r) (ok : Ok2 r o) (ho' : OpR X (compareOp op') r') (ok' : Ok2 r' o') (ha : PE X a (tR Z g)) (hb : PE X b (tR Z h)) (hc : PE X c (tR Z l))
    (hm : lastMarks [op, op'] [b, c] = false := by with_unfolding_all rfl) : PE X (.Compare a [op, op'] [b, c] pos) (tE Z (s3 o o' g h l)) := PE.imp (pe_chain ho ho' ha hb hc hm) (t_chain ok ok')
theorem et_chain {op op' : CmpOp} {r r' : R2} {o o' : O2} (ho : OpR X (compareOp op) r) (ok : Ok2 r o) (ho' : OpR X (compareOp op') r') (ok' : Ok2 r' o') (ha : PE X a (tR Z g)) (hb : PE X b (tR Z h)) (hc : PE X c (tR Z l))
    (hm : lastMarks [op, op'] [b, c] = false := by with_unfolding_all rfl) : PT X (.Compare a [op, op'] [b, c] pos) (tT Z (sT (s3 o o' g h l))) :=
  PT.imp (pt_chain ho ho' ha hb hc hm) fun σ H Q q => t_chain ok ok' σ H _ (t_test σ H Q q)
end

/-! ### and, or, not, if -/
section
variable {a b c : Expr} {rest : List Expr} {pos : Pos} {t u : ST} {f g : SE}
def sAnd (t u : ST) : ST := fun ρ Q => t ρ fun c ρ1 => if c = true then u ρ1 Q else Q false ρ1
def sOr (t u : ST) : ST := fun ρ Q => t ρ fun c ρ1 => if c = true then Q true ρ1 else u ρ1 Q
def sNot (t : ST) : ST := fun ρ Q => t ρ fun c ρ1 => Q (!c) ρ1
theorem ew_and1 (ha : PT X a (tT Z t)) : PW X (.BoolOp .And [a] pos) (tT Z t) := pw_and1 ha
theorem ew_or1 (ha : PT X a (tT Z t)) : PW X (.BoolOp .Or [a] pos) (tT Z t) := pw_or1 ha
theorem ew_and (ha : PT X a (tT Z t)) (hb : PW X (.BoolOp .And (b :: rest) pos) (tT Z u)) : PW X (.BoolOp .And (a :: b :: rest) pos) (tT Z (sAnd t u)) := by
  refine PW.imp (pw_and ha hb) fun σ H Q ⟨G, ρ, Q', R, h, q⟩ => ⟨G, ρ, _, R, h, fun c G1 ρ1 H1 le1 R1 hq => ?_⟩
  cases c with
  | true => exact iteT ⟨G1, ρ1, Q', R1, by simpa using hq, fun d G2 ρ2 H2 le2 R2 hq2 => q d G2 ρ2 H2 (le1.trans le2) R2 hq2⟩
  | false => exact iteF (q false G1 ρ1 H1 le1 R1 (by simpa using hq))
theorem ew_or (ha : PT X a (tT Z t)) (hb : PW X (.BoolOp .Or (b :: rest) pos) (tT Z u)) : PW X (.BoolOp .Or (a :: b :: rest) pos) (tT Z (sOr t u)) := by
  refine PW.imp (pw_or ha hb) fun σ H Q ⟨G, ρ, Q', R, h, q⟩ => ⟨G, ρ, _, R, h, fun c G1 ρ1 H1 le1 R1 hq => ?_⟩
  cases c with
  | false => exact iteF ⟨G1, ρ1, Q', R1, by simpa using hq, fun d G2 ρ2 H2 le2 R2 hq2 => q d G2 ρ2 H2 (le1.trans le2) R2 hq2⟩
  | true => exact iteT (q true G1 ρ1 H1 le1 R1 (by simpa using hq))
theorem et_not (ha : PT X a (tT Z t)) : PT X (.UnaryOp .Not a pos) (tT Z (sNot t)) := by
  refine PT.imp (pt_not ha) fun σ H Q ⟨G, ρ, Q', R, h, q⟩ => ⟨G, ρ, _, R, h, fun c G1 ρ1 H1 le1 R1 hq => q (!c) G1 ρ1 H1 le1 R1 hq⟩
/-- as values: all bools -/
def vB (f : SE) (k : Rho → Bool → (Vl → Rho → Prop) → Prop) : SE := fun ρ Q => f ρ fun v ρ1 => match v with | .im (.bool c) => k ρ1 c Q | _ => False
def sAndV (f g : SE) : SE := vB f fun ρ c Q => if c = true then g ρ Q else Q (.im (.bool false)) ρ
def sOrV (f g : SE) : SE := vB f fun ρ c Q => if c = true then Q (.im (.bool true)) ρ else g ρ Q
def sNotV (f : SE) : SE := vB f fun ρ c Q => Q (.im (.bool (!c))) ρ
theorem vB_ok {k : Rho → Bool → (Vl → Rho → Prop) → Prop} {kk : Bool → St → Hp → VK → Prop}
    (h : ∀ (G : Gs) (ρ : Rho) (c : Bool) (σ : St) (H : Hp) (Q : VK) (Q' : Vl → Rho → Prop), Rel Z G ρ σ H → k ρ c Q' → (∀ v G' ρ' H' val, G.le G' → Rel Z G' ρ' σ H' → VlOk G' H' ρ'.c σ val v → Q' val ρ' → Q v H') → kk c σ H Q) :
    ∀ σ H Q, tE Z (vB f k) σ H Q → tE Z f σ H fun x H1 => ∃ c, x = .bl c ∧ kk c σ H1 Q := fun σ H Q ⟨G, ρ, Q', R, hh, q⟩ => by
  refine ⟨G, ρ, _, R, hh, fun v G1 ρ1 H1 val le1 R1 vo hq => ?_⟩
  split at hq
  · rename_i c
    have t : Dt G1.B v (.bool c) := vo
    cases t
    exact ⟨c, rfl, h G1 ρ1 c σ H1 Q Q' R1 hq fun v G' ρ' H' val le R' vo hv => q v G' ρ' H' val (le1.trans le) R' vo hv⟩
  · exact hq.elim
theorem ev_one {op : BoolOp} (h : PE X a (tE Z f)) : PE X (.BoolOp op [a] pos) (tE Z f) := pe_one h
theorem ev_and (ha : PE X a (tE Z f)) (hb : PE X (.BoolOp .And (b :: rest) pos) (tE Z g)) : PE X (.BoolOp .And (a :: b :: rest) pos) (tE Z (sAndV f g)) := by
  refine PE.imp (pe_and ha hb) (vB_ok (kk := fun c σ H Q => if c = true then tE Z g σ H Q else Q (.bl false) H) fun G ρ c σ H Q Q' R h q => ?_)
  cases c with
  | true => exact iteT ⟨G, ρ, Q', R, by simpa using h, q⟩
  | false => exact iteF (q _ G ρ H (.im (.bool false)) (.refl G) R (.bl false) (by simpa using h))
theorem ev_or (ha : PE X a (tE Z f)) (hb : PE X (.BoolOp .Or (b :: rest) pos) (tE Z g)) : PE X (.BoolOp .Or (a :: b :: rest) pos) (tE Z (sOrV f g)) := by
  refine PE.imp (pe_or ha hb) (vB_ok (kk := fun c σ H Q => if c = true then Q (.bl true) H else tE Z g σ H Q) fun G ρ c σ H Q Q' R h q => ?_)
  cases c with
  | false => exact iteF ⟨G, ρ, Q', R, by simpa using h, q⟩
  | true => exact iteT (q _ G ρ H (.im (.bool true)) (.refl G) R (.bl true) (by simpa using h))
theorem ev_not (ha : PE X a (tE Z f)) : PE X (.UnaryOp .Not a pos) (tE Z (sNotV f)) := by
  refine PE.imp (pe_not ha) (vB_ok (kk := fun c σ H Q => Q (.bl (!c)) H) fun G ρ c σ H Q Q' R h q => ?_)
  exact q _ G ρ H (.im (.bool (!c))) (.refl G) R (.bl _) h
def sIf (t : ST) (f g : SE) : SE := fun ρ Q => t ρ fun c ρ1 => if c = true then f ρ1 Q else g ρ1 Q
theorem ev_ifExp (hc : PT X c (tT Z t)) (ha : PE X a (tE Z f)) (hb : PE X b (tE Z g)) : PE X (.IfExp c a b pos) (tE Z (sIf t f g)) := by
  refine PE.imp (pe_ifExp hc ha hb) fun σ H Q ⟨G, ρ, Q', R, h, q⟩ => ⟨G, ρ, _, R, h, fun c G1 ρ1 H1 le1 R1 hq => ?_⟩
  cases c with
  | true => exact iteT ⟨G1, ρ1, Q', R1, by simpa using hq, fun v G2 ρ2 H2 val le2 R2 vo hq2 => q v G2 ρ2 H2 val (le1.trans le2) R2 vo hq2⟩
  | false => exact iteF ⟨G1, ρ1, Q', R1, by simpa using hq, fun v G2 ρ2 H2 val le2 R2 vo hq2 => q v G2 ρ2 H2 val (le1.trans le2) R2 vo hq2⟩
end
end Dv

/-! DvC: readings by data: targets, statements, loops. -/
namespace Dv
open PySem PySem.Spec L2
open PyProof.Rows hiding St

variable {Z : Zx} {X : Cx}

/-! ### targets -/
abbrev SG := Vl → Rho → (Rho → Prop) → Prop
abbrev SGs := List D → Rho → (Rho → Prop) → Prop
def tG (Z : Zx) (g : SG) : TG := fun v σ H Q => ∃ G ρ val Q', Rel Z G ρ σ H ∧ VlOk G H ρ.c σ val v ∧ g val ρ Q' ∧ ∀ G' ρ' σ' H', G.le G' → Rel Z G' ρ' σ' H' → Q' ρ' → Q σ' H'
def tGs (Z : Zx) (g : SGs) : TGs := fun vs σ H Q => ∃ G ρ ds Q', Rel Z G ρ σ H ∧ DtA G.B vs ds ∧ g ds ρ Q' ∧ ∀ G' ρ' σ' H', G.le G' → Rel Z G' ρ' σ' H' → Q' ρ' → Q σ' H'
theorem PG.imp {e : Expr} {t t' : TG} (h : PG X e t) (i : ∀ v σ H Q, t' v σ H Q → t v σ H Q) : PG X e t' := ⟨fun pins s σ H v u Q I r q => h.run pins s σ H v u Q I r (i v σ H Q q)⟩

def cellOf (v : Vl) : Cell := match v with
  | .im d => .im d
  | .fr ds => .mu ds
  | .fd => .fd
/-- a slot takes a value -/
theorem RelC.store {G : Gs} {ρ : List Cell} {σ : St} {H : Hp} {val : Vl} {v : V} (i : Nat) (R : RelC G ρ σ H) (h : VlOk G H ρ σ val v) : RelC G (ρ.set i (cellOf val)) (σ.set i (some v)) H where
  same := R.same
  same0 := R.same0
  old := R.old
  newB := R.newB
  len := by simp [R.len]
  cells := fun j c o e1 e2 => by
    rcases getElem?_set_cases e1 with ⟨e3, e4⟩ | ⟨ne, e3⟩
    · subst e3
      rcases getElem?_set_cases e2 with ⟨_, e5⟩ | ⟨ne, _⟩
      · subst e4 e5
        cases val with
        | im d => exact ⟨v, rfl, h⟩
        | fr ds =>
          obtain ⟨p, vs, rfl, a, b, c, d, e, _⟩ := h
          exact ⟨p, vs, rfl, a, b, c, d, e⟩
        | fd =>
          obtain ⟨p, rfl, f⟩ := h
          exact ⟨p, rfl, f⟩
      · exact absurd rfl ne
    · rcases getElem?_set_cases e2 with ⟨e5, _⟩ | ⟨_, e5⟩
      · exact absurd e5 ne
      · exact R.cells j c o e3 e5
  dist := fun j k p ds es ne e1 e2 e3 e4 => by
    have key : ∀ (a b : Nat) (d1 d2 : List D), a ≠ b → i = a → cellOf val = .mu d1 → (ρ.set i (cellOf val))[b]? = some (.mu d2) → (σ.set i (some v))[a]? = some (some (.ref p)) → (σ.set i (some v))[b]? = some (some (.ref p)) → False := fun a b d1 d2 nab ia hc hb ha hb2 => by
      subst ia
      rcases getElem?_set_cases hb with ⟨z, _⟩ | ⟨_, hb'⟩
      · exact nab z
      rcases getElem?_set_cases hb2 with ⟨z, _⟩ | ⟨_, hb2'⟩
      · exact nab z
      rcases getElem?_set_cases ha with ⟨_, ev⟩ | ⟨z, _⟩
      · cases val with
        | im d => cases hc
        | fd => cases hc
        | fr xs =>
          obtain ⟨q, vs, e, _, _, _, _, _, hm, _⟩ := h
          subst e
          cases ev
          exact hm b d2 hb' hb2'
      · exact z rfl
    rcases getElem?_set_cases e1 with ⟨ij, c1⟩ | ⟨nij, e1'⟩
    · exact key j k ds es ne ij c1 e2 e3 e4
    · rcases getElem?_set_cases e2 with ⟨ik, c2⟩ | ⟨nik, e2'⟩
      · exact key k j es ds (Ne.symm ne) ik c2 e1 e4 e3
      · rw [List.getElem?_set_ne nij] at e3
        rw [List.getElem?_set_ne nik] at e4
        exact R.dist j k p ds es ne e1' e2' e3 e4
  feed := R.feed
  priv := fun p o e => by
    obtain ⟨h1, h2, h3, h4, h5⟩ := R.priv p o e
    refine ⟨h1, h2, h3, h4, fun j es e1 e2 => ?_⟩
    rcases getElem?_set_cases e1 with ⟨ij, c1⟩ | ⟨nij, e1'⟩
    · subst ij
      rcases getElem?_set_cases e2 with ⟨_, ev⟩ | ⟨z, _⟩
      · cases val with
        | im d => cases c1
        | fd => cases c1
        | fr xs =>
          obtain ⟨q, vs, e3, _, _, _, _, _, _, hr⟩ := h
          subst e3
          cases ev
          exact hr o e
      · exact z rfl
    · rw [List.getElem?_set_ne nij] at e2
      exact h5 j es e1' e2
  fa0 := R.fa0

def sgName (i : Nat) : SG := fun v ρ Q => Q ⟨ρ.c.set i (cellOf v), ρ.x⟩
def sgNil : SGs := fun ds ρ Q => match ds with | [] => Q ρ | _ => False
def sgCons (g : SG) (gs : SGs) : SGs := fun ds ρ Q => match ds with | d :: r => g (.im d) ρ fun ρ' => gs r ρ' Q | _ => False
def sgTup (n : Nat) (gs : SGs) : SG := fun v ρ Q => fz v fun d => match d with | .tuple ds => ds.length = n ∧ gs ds ρ Q | _ => False
/-- our target's words for the target g0 of HandS; nothing but the slots own is stored -/
structure GTok (own : List Nat) (g0 : TG) (sg : SG) : Prop where
  imp : ∀ (Z : Zx) v σ H Q, tG Z sg v σ H Q → g0 v σ H Q
  keep : ∀ v σ H Q, g0 v σ H Q → g0 v σ H fun σ' H' => Q σ' H' ∧ wipe σ' own = wipe σ own
  mono : ∀ v σ H (Q Q' : St → Hp → Prop), (∀ σ H, Q σ H → Q' σ H) → g0 v σ H Q → g0 v σ H Q'
structure GTsok (own : List Nat) (g0 : TGs) (sg : SGs) : Prop where
  imp : ∀ (Z : Zx) v σ H Q, tGs Z sg v σ H Q → g0 v σ H Q
  keep : ∀ v σ H Q, g0 v σ H Q → g0 v σ H fun σ' H' => Q σ' H' ∧ wipe σ' own = wipe σ own
  mono : ∀ v σ H (Q Q' : St → Hp → Prop), (∀ σ H, Q σ H → Q' σ H) → g0 v σ H Q → g0 v σ H Q'
theorem wipe_set_own {σ : St} {i : Nat} {v : Option V} : ∀ {own : List Nat}, i ∈ own → wipe (σ.set i v) own = wipe σ own
  | j :: own, h => by
    unfold wipe
    rcases List.mem_cons.mp h with rfl | h
    · by_cases hi : i ∈ own
      · rw [wipe_set_own hi]
      · have : wipe (σ.set i v) own = (wipe σ own).set i v := by
          clear h
          induction own with
          | nil => rfl
          | cons k r ih =>
            simp only [List.mem_cons, not_or] at hi
            unfold wipe
            rw [ih hi.2, List.set_comm _ _ hi.1]
        rw [this, List.set_set]
    · rw [wipe_set_own h]
theorem GTok.name {own : List Nat} (i : Nat) (h : i ∈ own := by decide) : GTok own (gName i) (sgName i) where
  imp := fun Z v σ H Q ⟨G, ρ, val, Q', R, vo, g, q⟩ => q G _ _ H (.refl G) (R.up (.refl G) (R.rc.store i vo)) g
  keep := fun v σ H Q q => ⟨q, wipe_set_own h⟩
  mono := fun v σ H Q Q' i q => i _ _ q
theorem GTsok.nil {own : List Nat} : GTsok own gNil sgNil where
  imp := fun Z vs σ H Q ⟨G, ρ, ds, Q', R, t, g, q⟩ => by
    cases t with
    | nil => exact ⟨rfl, q G ρ σ H (.refl G) R g⟩
    | cons a b => exact g.elim
  keep := fun v σ H Q ⟨e, q⟩ => ⟨e, q, rfl⟩
  mono := fun v σ H Q Q' i ⟨e, q⟩ => ⟨e, i _ _ q⟩
theorem GTsok.cons {own : List Nat} {g0 : TG} {gs0 : TGs} {sg : SG} {sgs : SGs} (a : GTok own g0 sg) (b : GTsok own gs0 sgs) : GTsok own (gCons g0 gs0) (sgCons sg sgs) where
  imp := fun Z vs σ H Q ⟨G, ρ, ds, Q', R, t, g, q⟩ => by
    cases t with
    | nil => exact g.elim
    | @cons v vs d ds h t =>
      refine ⟨v, vs, rfl, a.imp Z v σ H _ ⟨G, ρ, .im d, _, R, h, g, fun G1 ρ1 σ1 H1 le1 R1 h1 => ?_⟩⟩
      exact b.imp Z vs σ1 H1 Q ⟨G1, ρ1, ds, Q', R1, t.mono le1.same, h1, fun G2 ρ2 σ2 H2 le2 R2 h2 => q G2 ρ2 σ2 H2 (le1.trans le2) R2 h2⟩
  keep := fun vs σ H Q ⟨v, r, e, h⟩ => by
    refine ⟨v, r, e, a.mono v σ H _ _ (fun σ1 H1 q => ?_) (a.keep v σ H _ h)⟩
    exact b.mono r σ1 H1 _ _ (fun σ2 H2 q2 => ⟨q2.1, q2.2.trans q.2⟩) (b.keep r σ1 H1 _ q.1)
  mono := fun vs σ H Q Q' i ⟨v, r, e, h⟩ => ⟨v, r, e, a.mono v σ H _ _ (fun σ1 H1 q => b.mono r σ1 H1 _ _ i q) h⟩
theorem GTok.tup {own : List Nat} {K : PySem.W.Frag} {n : Nat} {gs0 : TGs} {sgs : SGs} (b : GTsok own gs0 sgs) : GTok own (gTup K n gs0) (sgTup n sgs) where
  imp := fun Z v σ H Q ⟨G, ρ, val, Q', R, vo, g, q⟩ => by
    obtain ⟨G1, d, le1, R1, t, hk⟩ := R.fz vo g
    cases t with
    | @tup a vs ds e ta =>
      exact ⟨a, vs, rfl, SqT.of (R1.rc.same _ _ e), ta.length.trans hk.1, b.imp Z vs σ H Q ⟨G1, ρ, ds, Q', R1, ta, hk.2, fun G2 ρ2 σ2 H2 le2 R2 h2 => q G2 ρ2 σ2 H2 (le1.trans le2) R2 h2⟩⟩
    | _ => exact hk.elim
  keep := fun v σ H Q ⟨a, xs, e, h1, h2, h⟩ => ⟨a, xs, e, h1, h2, b.keep xs σ H _ h⟩
  mono := fun v σ H Q Q' i ⟨a, xs, e, h1, h2, h⟩ => ⟨a, xs, e, h1, h2, b.mono xs σ H _ _ i h⟩
theorem eg_of {tg : Expr} {g0 : TG} {own : List Nat} {sg : SG} (h : PG X tg g0) (ok : GTok own g0 sg) : PG X tg (tG Z sg) := PG.imp h fun v σ H Q q => ok.imp Z v σ H Q q

/-! ### statements -/
structure DE where
  nx : Rho → Prop
  rt : Vl → Rho → Prop
  bk : Rho → Prop := fun _ => False
  ct : Rho → Prop := fun _ => False
abbrev SS := Rho → DE → Prop
structure Lnk (Z : Zx) (G : Gs) (E : DE) (D : Ends) : Prop where
  nx : ∀ G' ρ' σ' H', G.le G' → Rel Z G' ρ' σ' H' → E.nx ρ' → D.nx σ' H'
  rt : ∀ G' ρ' σ' H' v val, G.le G' → Rel Z G' ρ' σ' H' → VlOk G' H' ρ'.c σ' val v → E.rt val ρ' → D.rt v H'
  bk : ∀ G' ρ' σ' H', G.le G' → Rel Z G' ρ' σ' H' → E.bk ρ' → D.bk σ' H'
  ct : ∀ G' ρ' σ' H', G.le G' → Rel Z G' ρ' σ' H' → E.ct ρ' → D.ct σ' H'
theorem Lnk.up {G G' : Gs} {E : DE} {D : Ends} (l : Lnk Z G E D) (le : G.le G') : Lnk Z G' E D :=
  ⟨fun G2 ρ σ H le2 => l.nx G2 ρ σ H (le.trans le2), fun G2 ρ σ H v val le2 => l.rt G2 ρ σ H v val (le.trans le2), fun G2 ρ σ H le2 => l.bk G2 ρ σ H (le.trans le2), fun G2 ρ σ H le2 => l.ct G2 ρ σ H (le.trans le2)⟩
def tS (Z : Zx) (f : SS) : TS := fun D σ H => ∃ G ρ E, Rel Z G ρ σ H ∧ f ρ E ∧ Lnk Z G E D
theorem PS.imp {st : Stmt} {t t' : TS} (h : PS X st t) (i : ∀ D σ H, t' D σ H → t D σ H) : PS X st t' := ⟨fun pins s σ H D I q => h.run pins s σ H D I (i D σ H q)⟩
theorem PSs.imp {st : List Stmt} {t t' : TS} (h : PSs X st t) (i : ∀ D σ H, t' D σ H → t D σ H) : PSs X st t' := ⟨fun pins s σ H D I q => h.run pins s σ H D I (i D σ H q)⟩

section
variable {st : Stmt} {rest : List Stmt} {e : Expr} {pos : Pos} {f : SE} {a b : SS} {t : ST}
def sNext : SS := fun ρ E => E.nx ρ
def sSeq (a b : SS) : SS := fun ρ E => a ρ { E with nx := fun ρ' => b ρ' E }
theorem es_nil : PSs X [] (tS Z sNext) := PSs.imp pss_nil fun D σ H ⟨G, ρ, E, R, h, l⟩ => l.nx G ρ σ H (.refl G) R h
theorem es_cons (h1 : PS X st (tS Z a)) (h2 : PSs X rest (tS Z b)) : PSs X (st :: rest) (tS Z (sSeq a b)) :=
  PSs.imp (pss_cons h1 h2) fun D σ H ⟨G, ρ, E, R, h, l⟩ => ⟨G, ρ, _, R, h, ⟨fun G' ρ' σ' H' le R' h' => ⟨G', ρ', E, R', h', l.up le⟩, l.rt, l.bk, l.ct⟩⟩
theorem es_one (h1 : PS X st (tS Z a)) : PSs X [st] (tS Z a) := pss_one h1
def sBreak : SS := fun ρ E => E.bk ρ
def sCont : SS := fun ρ E => E.ct ρ
theorem es_pass : PS X (.Pass pos) (tS Z sNext) := PS.imp ps_pass fun D σ H ⟨G, ρ, E, R, h, l⟩ => l.nx G ρ σ H (.refl G) R h
theorem es_break : PS X (.Break pos) (tS Z sBreak) := PS.imp ps_break fun D σ H ⟨G, ρ, E, R, h, l⟩ => l.bk G ρ σ H (.refl G) R h
theorem es_continue : PS X (.Continue pos) (tS Z sCont) := PS.imp ps_continue fun D σ H ⟨G, ρ, E, R, h, l⟩ => l.ct G ρ σ H (.refl G) R h
def sDrop (f : SE) : SS := fun ρ E => f ρ fun _ ρ1 => E.nx ρ1
theorem es_expr (he : PE X e (tE Z f)) (hs : swapsWith e none pos.line X.env = pure false := by rfl) : PS X (.Expr e pos) (tS Z (sDrop f)) :=
  PS.imp (ps_expr he hs) fun D σ H ⟨G, ρ, E, R, h, l⟩ => ⟨G, ρ, _, R, h, fun v G' ρ' H' val le R' vo hq => l.nx G' ρ' σ H' le R' hq⟩
def sRet (f : SE) : SS := fun ρ E => f ρ fun v ρ' => E.rt v ρ'
theorem es_ret (he : PE X e (tE Z f)) : PS X (.Return (some e) pos) (tS Z (sRet f)) :=
  PS.imp (ps_ret he) fun D σ H ⟨G, ρ, E, R, h, l⟩ => ⟨G, ρ, _, R, h, fun v G' ρ' H' val le R' vo hq => l.rt G' ρ' σ H' v val le R' vo hq⟩
/-- return of a name: its list is handed on as a new one -/
def sRetV (i : Nat) : SS := fun ρ E => match ρ.c[i]? with
  | some (.im d) => E.rt (.im d) ρ
  | some (.mu ds) => E.rt (.fr ds) ⟨ρ.c.set i .un, ρ.x⟩
  | _ => False
theorem es_retV (i : Nat) {x : Str} {p : Pos} (hN : X.N[i]? = some x := by rfl) (hv : Vis X.env.scope x := by first | exact Or.inl rfl | exact Or.inr (Or.inl rfl) | exact Or.inr (Or.inr rfl)) (hd : (x == ("__debug__" : Str)) = false := by decide)
    (hcd : (x == ("__classdict__" : Str)) = false := by decide) : PS X (.Return (some (.Name x p)) pos) (tS Z (sRetV i)) := by
  refine PS.imp (ps_ret (pe_var hN hv hd hcd)) fun D σ H ⟨G, ρ, E, R, h, l⟩ => ?_
  have hl : ∀ {c : Cell}, ρ.c[i]? = some c → ∃ o, σ[i]? = some o := fun {c} e => by
    have h1 : i < ρ.c.length := (List.getElem?_eq_some_iff.mp e).1
    rw [R.rc.len] at h1
    exact ⟨_, List.getElem?_eq_getElem h1⟩
  unfold sRetV at h
  split at h
  · rename_i d e
    obtain ⟨o, eo⟩ := hl e
    obtain ⟨v, e2, t⟩ := R.rc.cells i _ _ e eo
    subst e2
    exact ⟨v, eo, l.rt G ρ σ H v (.im d) (.refl G) R t h⟩
  · rename_i ds e
    obtain ⟨o, eo⟩ := hl e
    obtain ⟨p, vs, e2, hB, h0, hf, hp, t⟩ := R.rc.cells i _ _ e eo
    subst e2
    have hr : NoPr G p := fun o e' => (R.rc.priv p o e').2.2.2.2 i ds e eo
    have R1 : RelC G (ρ.c.set i .un) σ H := R.rc.weak (by simp) fun j c' e => by
      rcases getElem?_set_cases e with ⟨_, e2⟩ | ⟨_, e2⟩
      · exact .inl e2.symm
      · exact .inr e2
    have hm : NoMu (ρ.c.set i .un) σ p := fun j es e1 e2 => by
      rcases getElem?_set_cases e1 with ⟨_, e3⟩ | ⟨ne, e3⟩
      · cases e3
      · exact R.rc.dist i j p ds es ne e e3 eo e2
    exact ⟨_, eo, l.rt G ⟨ρ.c.set i .un, ρ.x⟩ σ H _ (.fr ds) (.refl G) (R.up (.refl G) R1) ⟨p, vs, rfl, hB, h0, hf, hp, t, hm, hr⟩ h⟩
  · exact h.elim
def sRetN : SS := fun ρ E => E.rt (.im .none) ρ
theorem es_retN : PS X (.Return none pos) (tS Z sRetN) := PS.imp ps_retN fun D σ H ⟨G, ρ, E, R, h, l⟩ => l.rt G ρ σ H .non (.im .none) (.refl G) R .non h
def sIfS (t : ST) (a b : SS) : SS := fun ρ E => t ρ fun c ρ1 => if c = true then a ρ1 E else b ρ1 E
theorem es_if {c : Expr} {xs ys : List Stmt} (hc : PT X c (tT Z t)) (ha : PSs X xs (tS Z a)) (hb : PSs X ys (tS Z b)) : PS X (.If c xs ys pos) (tS Z (sIfS t a b)) := by
  refine PS.imp (ps_if hc ha hb) fun D σ H ⟨G, ρ, E, R, h, l⟩ => ⟨G, ρ, _, R, h, fun c G1 ρ1 H1 le1 R1 hq => ?_⟩
  cases c with
  | true => exact iteT ⟨G1, ρ1, E, R1, by simpa using hq, l.up le1⟩
  | false => exact iteF ⟨G1, ρ1, E, R1, by simpa using hq, l.up le1⟩
def sAsg (f : SE) (g : SG) : SS := fun ρ E => f ρ fun v ρ1 => g v ρ1 E.nx
theorem t_asg {g0 : TG} {own : List Nat} {g : SG} (ok : GTok own g0 g) {te : TE} (he : ∀ σ H Q, tE Z f σ H Q → te σ H Q) : ∀ D σ H, tS Z (sAsg f g) D σ H → tAsg te g0 D σ H := fun D σ H ⟨G, ρ, E, R, h, l⟩ =>
  he σ H _ ⟨G, ρ, _, R, h, fun v G1 ρ1 H1 val le1 R1 vo hq => ok.imp Z v σ H1 _ ⟨G1, ρ1, val, _, R1, vo, hq, fun G2 ρ2 σ2 H2 le2 R2 h2 => l.nx G2 ρ2 σ2 H2 (le1.trans le2) R2 h2⟩⟩
theorem es_asg {tg : Expr} {g0 : TG} {own : List Nat} {g : SG} (he : PE X e (tE Z f)) (hg : PG X tg g0) (ok : GTok own g0 g) (hs : swapsWithSole [tg] e pos.line X.env = pure false := by rfl) (hw : swappedStores [tg] e X.env = pure none := by rfl)
    (h1 : (assignEach [tg] X.env).map (·.2) = [assign tg X.env] := by rfl) : PS X (.Assign [tg] e pos) (tS Z (sAsg f g)) :=
  PS.imp (ps_asg he hg hs hw h1) (t_asg ok fun σ H Q q => q)
theorem es_set {x : Str} {pos' : Pos} (i : Nat) (hN : X.N.Nodup) (he : PE X e (tE Z f)) (hi : X.N[i]? = some x := by rfl) (hx : Loc X.env.scope x := by first | exact Or.inl rfl | exact Or.inr rfl) (hs : swapsWith e (some (.Name x pos')) pos.line X.env = pure false := by rfl)
    (hf : X.fn x = true ∨ X.env.scope.names.lookup x = some .local := by first | exact .inl rfl | exact .inr rfl) : PS X (.Assign [.Name x pos'] e pos) (tS Z (sAsg f (sgName i))) :=
  PS.imp (ps_set (i := i) hN hi hx he hs hf) (t_asg (GTok.name (own := [i]) i (by simp)) fun σ H Q q => q)
end

/-! ### loops -/
abbrev SI := Rho → (List D → Rho → Prop) → Prop
/-- an iterator of HandS gives the data ds -/
structure Src (Z : Zx) (G : Gs) (J : It) (ds : List D) : Prop where
  ok : ∃ (Gp : Hp → Prop) (Y : Nat → Hp → V → Hp → Prop), Walk J ds.length Gp Y ∧ (∀ G' ρ σ H, Same G.B G'.B → Rel Z G' ρ σ H → Gp H) ∧
    ∀ i x G' ρ σ H H', Same G.B G'.B → Rel Z G' ρ σ H → i < ds.length → Y i H x H' → ∃ G'' d, G'.le G'' ∧ Rel Z G'' ρ σ H' ∧ ds[i]? = some d ∧ Dt G''.B x d
def tI (Z : Zx) (f : SI) : TI := fun σ H Rx => ∃ G ρ Q', Rel Z G ρ σ H ∧ f ρ Q' ∧ ∀ J G' ρ' H' ds, G.le G' → Rel Z G' ρ' σ H' → Src Z G' J ds → Q' ds ρ' → Rx J H'
theorem PI.imp {tg e : Expr} {t t' : TI} (h : PI X tg e t) (i : ∀ σ H Q, t' σ H Q → t σ H Q) : PI X tg e t' := ⟨fun pins s σ H Q I q => h.run pins s σ H Q I (i σ H Q q)⟩
def wLoop (step : D → SS) : List D → SS
  | [], ρ, E => E.nx ρ
  | d :: ds, ρ, E => step d ρ { E with nx := fun ρ' => wLoop step ds ρ' E, ct := fun ρ' => wLoop step ds ρ' E, bk := E.nx }
def sStep (g : SG) (b : SS) : D → SS := fun d ρ E => g (.im d) ρ fun ρ' => b ρ' E
def sFor (si : SI) (g : SG) (b : SS) : SS := fun ρ E => si ρ fun ds ρ1 => wLoop (sStep g b) ds ρ1 E
theorem drop_cons {α : Type} {l : List α} {i : Nat} {d : α} (h : l[i]? = some d) : l.drop i = d :: l.drop (i + 1) := by
  obtain ⟨h1, h2⟩ := List.getElem?_eq_some_iff.mp h
  rw [List.drop_eq_getElem_cons h1, h2]
theorem es_for {tg iter : Expr} {body : List Stmt} {si : SI} {g0 : TG} {own : List Nat} {g : SG} {b : SS} {pos : Pos} (hp : PassesOwn (model X.prog X.w) X.A X.env X.xe) (hc : X.calm = true) (hi : PI X tg iter (tI Z si)) (hg : PG X tg g0) (ok : GTok own g0 g) (hb : PSs X body (tS Z b))
    (hs : ∀ x, foldedSetIterable iter X.env x = pure x := by intro _; rfl) : PS X (.For tg iter body [] pos) (tS Z (sFor si g b)) := by
  refine PS.imp (ps_for hp hc hi hg hb hs) fun D σ H ⟨G, ρ, E, R, h, l⟩ => ?_
  refine ⟨G, ρ, _, R, h, fun J G1 ρ1 H1 ds le1 R1 src hq => ?_⟩
  obtain ⟨Gp, Y, wk, hG, hY⟩ := src.ok
  refine for_it wk (fun i σ H => ∃ G' ρ', G1.le G' ∧ Rel Z G' ρ' σ H ∧ wLoop (sStep g b) (ds.drop i) ρ' E) ⟨G1, ρ1, .refl G1, R1, hq⟩ (fun i σ H _ ⟨G', ρ', le, R', _⟩ => hG G' ρ' σ H le.same R') (fun i x σ H H' hi ⟨G', ρ', le, R', hw⟩ y => ?_) (fun σ H ⟨G', ρ', le, R', hw⟩ => ?_)
  · obtain ⟨G2, d, le2, R2, ed, t⟩ := hY i x G' ρ' σ H H' le.same R' hi y
    rw [drop_cons ed] at hw
    have hw : sStep g b d ρ' _ := hw
    refine ok.imp Z x σ H' _ ⟨G2, ρ', .im d, _, R2, t, hw, fun G3 ρ3 σ3 H3 le3 R3 h3 => ?_⟩
    refine ⟨G3, ρ3, _, R3, h3, ?_, ?_, ?_, ?_⟩
    · exact fun G4 ρ4 σ4 H4 le4 R4 h4 => ⟨G4, ρ4, ((le.trans le2).trans le3).trans le4, R4, h4⟩
    · exact fun G4 ρ4 σ4 H4 v val le4 R4 vo h4 => l.rt G4 ρ4 σ4 H4 v val ((((le1.trans le).trans le2).trans le3).trans le4) R4 vo h4
    · exact fun G4 ρ4 σ4 H4 le4 R4 h4 => l.nx G4 ρ4 σ4 H4 ((((le1.trans le).trans le2).trans le3).trans le4) R4 h4
    · exact fun G4 ρ4 σ4 H4 le4 R4 h4 => ⟨G4, ρ4, ((le.trans le2).trans le3).trans le4, R4, h4⟩
  · rw [List.drop_length] at hw
    exact l.nx G' ρ' σ H (le1.trans le) R' hw
/-- while: a word by a measure -/
def sWhile (t : ST) (b : SS) : SS := fun ρ E => ∃ Iv : Nat → Rho → Prop, (∃ m, Iv m ρ) ∧ ∀ m ρ, Iv m ρ → t ρ fun c ρ1 =>
  if c = true then b ρ1 { E with nx := fun ρ' => ∃ m', m' < m ∧ Iv m' ρ', ct := fun ρ' => ∃ m', m' < m ∧ Iv m' ρ', bk := E.nx } else E.nx ρ1
theorem es_while {c : Expr} {body : List Stmt} {t : ST} {b : SS} {pos : Pos} (hp : PassesOwn (model X.prog X.w) X.A X.env X.xe) (hc : PT X c (tT Z t)) (hb : PSs X body (tS Z b)) : PS X (.While c body [] pos) (tS Z (sWhile t b)) := by
  refine PS.imp (ps_while hp hc hb) fun D σ H ⟨G, ρ, E, R, ⟨Iv, ⟨m0, h0⟩, hs⟩, l⟩ => ?_
  refine ⟨fun m σ H => ∃ G' ρ', G.le G' ∧ Rel Z G' ρ' σ H ∧ Iv m ρ', ⟨m0, G, ρ, .refl G, R, h0⟩, fun m σ H ⟨G', ρ', le, R', hi⟩ => ?_⟩
  have h1 := hs m ρ' hi
  refine ⟨G', ρ', _, R', h1, fun c G1 ρ1 H1 le1 R1 hq => ?_⟩
  cases c with
  | true =>
    rw [if_pos rfl] at hq
    refine iteT ⟨fun σ H => ∃ m', m' < m ∧ ∃ G' ρ', G.le G' ∧ Rel Z G' ρ' σ H ∧ Iv m' ρ', fun σ' H' q => q, G1, ρ1, _, R1, hq, ?_, ?_, ?_, ?_⟩
    · exact fun G4 ρ4 σ4 H4 le4 R4 ⟨m', hm, h4⟩ => ⟨m', hm, G4, ρ4, (le.trans le1).trans le4, R4, h4⟩
    · exact fun G4 ρ4 σ4 H4 v val le4 R4 vo h4 => l.rt G4 ρ4 σ4 H4 v val ((le.trans le1).trans le4) R4 vo h4
    · exact fun G4 ρ4 σ4 H4 le4 R4 h4 => l.nx G4 ρ4 σ4 H4 ((le.trans le1).trans le4) R4 h4
    · exact fun G4 ρ4 σ4 H4 le4 R4 ⟨m', hm, h4⟩ => ⟨m', hm, G4, ρ4, (le.trans le1).trans le4, R4, h4⟩
  | false => exact iteF (l.nx G1 ρ1 σ H1 (le.trans le1) R1 (by simpa using hq))
end Dv

/-! DvD: readings by data: comprehensions, what is walked, calls, promises. -/
namespace Dv
open PySem PySem.Spec L2
open PyProof.Rows hiding St

variable {Z : Zx} {X : Cx}

/-! ### list comprehensions -/
def wipC (ρ : List Cell) : List Nat → List Cell
  | [] => ρ
  | v :: vs => (wipC ρ vs).set v .un
theorem wipC_length (ρ : List Cell) : ∀ vs, (wipC ρ vs).length = ρ.length
  | [] => rfl
  | v :: vs => by unfold wipC; rw [List.length_set, wipC_length ρ vs]
theorem wipC_cases {ρ : List Cell} {j : Nat} {c : Cell} : ∀ {vs : List Nat}, (wipC ρ vs)[j]? = some c → (j ∈ vs ∧ c = .un) ∨ (j ∉ vs ∧ ρ[j]? = some c)
  | [], h => .inr ⟨by simp, h⟩
  | v :: vs, h => by
    unfold wipC at h
    rcases getElem?_set_cases h with ⟨e1, e2⟩ | ⟨ne, h⟩
    · subst e1
      exact .inl ⟨by simp, e2.symm⟩
    · rcases wipC_cases h with ⟨a, b⟩ | ⟨a, b⟩
      · exact .inl ⟨List.mem_cons_of_mem _ a, b⟩
      · exact .inr ⟨by simp only [List.mem_cons, not_or]; exact ⟨fun e => ne e.symm, a⟩, b⟩
theorem wipe_out' {σ : St} {i : Nat} : ∀ {vs : List Nat}, i ∉ vs → (wipe σ vs)[i]? = σ[i]?
  | [], _ => rfl
  | v :: vs, h => by
    simp only [List.mem_cons, not_or] at h
    unfold wipe
    rw [List.getElem?_set_ne (fun e => h.1 e.symm), wipe_out' h.2]
theorem RelC.wipe {G : Gs} {ρ : List Cell} {σ : St} {H : Hp} (R : RelC G ρ σ H) (vs : List Nat) : RelC G (wipC ρ vs) (L2.wipe σ vs) H where
  same := R.same
  same0 := R.same0
  old := R.old
  newB := R.newB
  len := by rw [wipC_length, wipe_length, R.len]
  cells := fun i c o e1 e2 => by
    rcases wipC_cases e1 with ⟨_, b⟩ | ⟨a, b⟩
    · subst b
      trivial
    · rw [wipe_out' a] at e2
      exact R.cells i c o b e2
  dist := fun i j p ds es ne e1 e2 e3 e4 => by
    rcases wipC_cases e1 with ⟨_, b⟩ | ⟨a, b⟩
    · cases b
    · rcases wipC_cases e2 with ⟨_, b'⟩ | ⟨a', b'⟩
      · cases b'
      · rw [wipe_out' a] at e3
        rw [wipe_out' a'] at e4
        exact R.dist i j p ds es ne b b' e3 e4
  feed := R.feed
  priv := fun p o e => by
    obtain ⟨h1, h2, h3, h4, h5⟩ := R.priv p o e
    refine ⟨h1, h2, h3, h4, fun i ds e1 e2 => ?_⟩
    rcases wipC_cases e1 with ⟨_, b⟩ | ⟨a, b⟩
    · cases b
    · rw [wipe_out' a] at e2
      exact h5 i ds b e2
  fa0 := R.fa0
/-- behind a turn: the block's own slots as they were ahead (own lists there are forgotten) -/
def unw (ρ ρ' : List Cell) : List Nat → List Cell
  | [] => ρ'
  | v :: vs => (unw ρ ρ' vs).set v (match ρ[v]? with | some (.im d) => .im d | some .fd => .fd | _ => .un)
theorem unw_length (ρ ρ' : List Cell) : ∀ vs, (unw ρ ρ' vs).length = ρ'.length
  | [] => rfl
  | v :: vs => by unfold unw; rw [List.length_set, unw_length ρ ρ' vs]
theorem unw_cases {ρ ρ' : List Cell} {j : Nat} {c : Cell} : ∀ {vs : List Nat}, (unw ρ ρ' vs)[j]? = some c → (j ∈ vs ∧ (c = .un ∨ (ρ[j]? = some c ∧ ∀ ds, c ≠ .mu ds))) ∨ (j ∉ vs ∧ ρ'[j]? = some c)
  | [], h => .inr ⟨by simp, h⟩
  | v :: vs, h => by
    unfold unw at h
    rcases getElem?_set_cases h with ⟨e1, e2⟩ | ⟨ne, h⟩
    · subst e1
      refine .inl ⟨by simp, ?_⟩
      split at e2
      · rename_i d e
        exact .inr ⟨by rw [e, e2], fun ds z => by rw [← e2] at z; cases z⟩
      · rename_i e
        exact .inr ⟨by rw [e, e2], fun ds z => by rw [← e2] at z; cases z⟩
      · exact .inl e2.symm
    · rcases unw_cases h with ⟨a, b⟩ | ⟨a, b⟩
      · exact .inl ⟨List.mem_cons_of_mem _ a, b⟩
      · exact .inr ⟨by simp only [List.mem_cons, not_or]; exact ⟨fun e => ne e.symm, a⟩, b⟩
theorem RelC.unwipe {G G' : Gs} {ρ ρ' : List Cell} {σ σ' : St} {H H' : Hp} {vs : List Nat} (R : RelC G ρ σ H) (R' : RelC G' ρ' σ' H') (le : G.le G') (e : L2.wipe σ' vs = L2.wipe σ vs) (hl : σ'.length = σ.length) : RelC G' (unw ρ ρ' vs) σ H' where
  same := R'.same
  same0 := R'.same0
  old := R'.old
  newB := R'.newB
  len := by rw [unw_length, R'.len, hl]
  cells := fun i c o e1 e2 => by
    rcases unw_cases e1 with ⟨_, b | ⟨b, nm⟩⟩ | ⟨a, b⟩
    · subst b
      trivial
    · have := R.cells i c o b e2
      cases c with
      | un => trivial
      | im d =>
        obtain ⟨v, e, t⟩ := this
        exact ⟨v, e, t.mono le.same⟩
      | mu ds => exact absurd rfl (nm ds)
      | fd =>
        obtain ⟨p, e, f⟩ := this
        exact ⟨p, e, le.fa p f⟩
    · have e3 : σ'[i]? = σ[i]? := by rw [← wipe_out' a, e, wipe_out' a]
      exact R'.cells i c o b (e3.trans e2)
  dist := fun i j p ds es ne e1 e2 e3 e4 => by
    rcases unw_cases e1 with ⟨_, b | ⟨b, nm⟩⟩ | ⟨a, b⟩
    · cases b
    · exact nm ds rfl
    · rcases unw_cases e2 with ⟨_, b' | ⟨b', nm'⟩⟩ | ⟨a', b'⟩
      · cases b'
      · exact nm' es rfl
      · have e5 : σ'[i]? = σ[i]? := by rw [← wipe_out' a, e, wipe_out' a]
        have e6 : σ'[j]? = σ[j]? := by rw [← wipe_out' a', e, wipe_out' a']
        exact R'.dist i j p ds es ne b b' (e5.trans e3) (e6.trans e4)
  feed := R'.feed
  priv := fun p o he => by
    obtain ⟨h1, h2, h3, h4, h5⟩ := R'.priv p o he
    refine ⟨h1, h2, h3, h4, fun i ds e1 e2 => ?_⟩
    rcases unw_cases e1 with ⟨_, b | ⟨b, nm⟩⟩ | ⟨a, b⟩
    · cases b
    · exact nm ds rfl
    · have e5 : σ'[i]? = σ[i]? := by rw [← wipe_out' a, e, wipe_out' a]
      exact h5 i ds b (e5.trans e2)
  fa0 := R'.fa0
def wComp (own : List Nat) (turn : D → Rho → (Option D → Rho → Prop) → Prop) : List D → Rho → (List D → Rho → Prop) → Prop
  | [], ρ, Q => Q [] ρ
  | d :: ds, ρ, Q => turn d ⟨wipC ρ.c own, ρ.x⟩ fun r ρ' => match r with
    | some y => wComp own turn ds ⟨unw ρ.c ρ'.c own, ρ.x⟩ fun out ρ3 => Q (y :: out) ρ3
    | none => wComp own turn ds ⟨unw ρ.c ρ'.c own, ρ.x⟩ Q
def sYes : ST := fun ρ Q => Q true ρ
def sTurn (g : SG) (t : ST) (f : SE) : D → Rho → (Option D → Rho → Prop) → Prop := fun d ρ k => g (.im d) ρ fun ρ2 => t ρ2 fun b ρ3 => if b = true then f ρ3 fun v ρ4 => fz v fun y => k (some y) ρ4 else k none ρ3
def sLc (own : List Nat) (si : SI) (g : SG) (t : ST) (f : SE) : SE := fun ρ Q => si ρ fun ds ρ1 => ds.length ≤ 16777216 ∧ wComp own (sTurn g t f) ds ρ1 fun out ρ2 => Q (.fr out) ρ2

abbrev Gs.pri (G : Gs) (l : List (Addr × HO)) : Gs := { G with pr := l }
theorem RelC.addPr {G : Gs} {ρ : List Cell} {σ : St} {H : Hp} {p : Addr} {o : HO} (R : RelC G ρ σ H) (h : H p = none) : RelC (G.pri ((p, o) :: G.pr)) ρ σ (upd H p o) := by
  obtain ⟨a, b, c, d, e⟩ := R.free h
  have R1 := R.alloc (o := o) h
  refine ⟨R1.same, R1.same0, R1.old, R1.newB, R1.len, R1.cells, R1.dist, R1.feed, fun q u hq => ?_, R1.fa0⟩
  rcases List.mem_cons.mp hq with z | z
  · cases z
    exact ⟨upd_same, a, b, c, d⟩
  · exact R1.priv q u z
theorem RelC.putPr {G : Gs} {ρ : List Cell} {σ : St} {H : Hp} {p : Addr} {o o' : HO} {l : List (Addr × HO)} (R : RelC G ρ σ H) (e : G.pr = (p, o) :: l) (hr : ∀ o, (p, o) ∉ l) : RelC (G.pri ((p, o') :: l)) ρ σ (upd H p o') := by
  obtain ⟨h1, h2, h3, h4, h5⟩ := R.priv p o (by rw [e]; exact List.mem_cons_self ..)
  have R1 : RelC (G.pri l) ρ σ H := ⟨R.same, R.same0, R.old, R.newB, R.len, R.cells, R.dist, R.feed, fun q u hq => R.priv q u (by rw [e]; exact List.mem_cons_of_mem _ hq), R.fa0⟩
  have R2 := R1.put (o := o') h2 h3 h4 h5 hr
  refine ⟨R2.same, R2.same0, R2.old, R2.newB, R2.len, R2.cells, R2.dist, R2.feed, fun q u hq => ?_, R2.fa0⟩
  rcases List.mem_cons.mp hq with z | z
  · cases z
    exact ⟨upd_same, h2, h3, h4, h5⟩
  · exact R2.priv q u z
theorem RelC.outPr {G : Gs} {ρ : List Cell} {σ : St} {H : Hp} {p : Addr} {vs : List V} {ds : List D} {l : List (Addr × HO)} (R : RelC G ρ σ H) (e : G.pr = (p, .lst vs) :: l) (t : DtA G.B vs ds) (hr : ∀ o, (p, o) ∉ l) :
    RelC (G.pri l) ρ σ H ∧ VlOk (G.pri l) H ρ σ (.fr ds) (.ref p) := by
  obtain ⟨h1, h2, h3, h4, h5⟩ := R.priv p _ (by rw [e]; exact List.mem_cons_self ..)
  exact ⟨⟨R.same, R.same0, R.old, R.newB, R.len, R.cells, R.dist, R.feed, fun q u hq => R.priv q u (by rw [e]; exact List.mem_cons_of_mem _ hq), R.fa0⟩, p, vs, rfl, h2, h3, h4, h1, t, h5, hr⟩
/-- with an object in the making -/
theorem Rel.inPr {G0 G : Gs} {ρ0 : Rho} {ρ : List Cell} {σ0 σ : St} {H0 H : Hp} {x : Addr × HO} (R0 : Rel Z G0 ρ0 σ0 H0) (le : G0.le (G.pri G0.pr)) (e : G.pr = x :: G0.pr) (R : RelC G ρ σ H) : Rel Z G ⟨ρ, ρ0.x⟩ σ H :=
  ⟨R, fun xn G2 ρ' σ2 H2 cls d le2 R2 l hx => R0.ex xn (G2.pri G0.pr) ρ' σ2 H2 cls d (le.trans ⟨le2.b0, le2.h0, le2.same, le2.fa, rfl, le2.fa0⟩)
    ⟨R2.same, R2.same0, R2.old, R2.newB, R2.len, R2.cells, R2.dist, R2.feed, fun q u hq => R2.priv q u (by rw [le2.pr, e]; exact List.mem_cons_of_mem _ hq), R2.fa0⟩ l hx⟩
theorem wipe_in {i : Nat} (τ : St) : ∀ {own : List Nat}, i ∈ own → (L2.wipe τ own)[i]? = if i < τ.length then some none else none
  | v :: r, h => by
    unfold L2.wipe
    by_cases e : v = i
    · subst e
      by_cases hv : v < τ.length
      · rw [List.getElem?_set_self (by rw [wipe_length]; exact hv), if_pos hv]
      · rw [List.getElem?_eq_none (by rw [List.length_set, wipe_length]; omega), if_neg hv]
    · rw [List.getElem?_set_ne e]
      exact wipe_in τ ((List.mem_cons.mp h).resolve_left fun z => e z.symm)
theorem wipe_wipe (σ : St) (own : List Nat) : L2.wipe (L2.wipe σ own) own = L2.wipe σ own := by
  apply List.ext_getElem?
  intro i
  by_cases h : i ∈ own
  · rw [wipe_in _ h, wipe_in _ h, wipe_length]
  · rw [wipe_out' h]
/-- a comprehension's reading, from ours -/
theorem t_lc {own : List Nat} {si : SI} {g0 : TG} {g : SG} {t : ST} {f : SE} {tt : TT} (ok : GTok own g0 g) (ht : ∀ σ H Q, tT Z t σ H Q → tt σ H Q) :
    ∀ σ H Q, tE Z (sLc own si g t f) σ H Q → tLc (tI Z si) g0 tt (tE Z f) own σ H Q := fun σ H Q ⟨G, ρ, Q', R, h, q⟩ => by
  refine ⟨G, ρ, _, R, h, fun J G1 ρ1 H1 ds le1 R1 src ⟨hlen, hq⟩ D hD => ?_⟩
  obtain ⟨Gp, Y, wk, hG, hY⟩ := src.ok
  obtain ⟨fB, f0, ff, fm, fr⟩ := R1.rc.free hD
  refine lc_it wk (fun i H => ∃ (G' : Gs) (ρ' : List Cell) (vs : List V) (acc : List PyData), G1.le (G'.pri G1.pr) ∧ G'.pr = (D, .lst vs) :: G1.pr ∧ RelC G' ρ' σ H ∧ DtA G'.B vs acc ∧ acc.length ≤ i ∧
    wComp own (sTurn g t f) (ds.drop i) ⟨ρ', ρ1.x⟩ fun out ρ2 => Q' (.fr (acc ++ out)) ρ2) ?_ ?_ ?_ ?_
  · exact ⟨G1.pri ((D, .lst []) :: G1.pr), ρ1.c, [], [], .refl _, rfl, R1.rc.addPr hD, .nil, Nat.zero_le _, by simpa using hq⟩
  · rintro i H _ ⟨G', ρ', vs, acc, le, e, R', _⟩
    exact hG G' ⟨ρ', ρ1.x⟩ σ H le.same (R1.inPr le e R')
  · rintro i x H H' hi ⟨G', ρ', vs, acc, le, e, R', ta, hacc, hw⟩ y
    have RR := R1.inPr le e R'
    obtain ⟨G2, d, le2, R2, ed, td⟩ := hY i x G' _ σ H H' le.same RR hi y
    rw [drop_cons ed] at hw
    have hw : sTurn g t f d ⟨wipC ρ' own, ρ1.x⟩ _ := hw
    have R2w : Rel Z G2 ⟨wipC ρ' own, ρ1.x⟩ (L2.wipe σ own) H' := R2.up (.refl G2) (R2.rc.wipe own)
    have hacc' : acc.length < sizeLine := by
      have : (sizeLine : Nat) = 16777216 := rfl
      omega
    refine ok.mono _ _ _ _ _ (fun σ2 H2 q2 => have e2 := q2.2.trans (wipe_wipe σ own); ⟨e2, q2.1 e2⟩) (ok.keep x _ H' _ (ok.imp Z x _ H' (fun σ2 H2 => L2.wipe σ2 own = L2.wipe σ own → tt σ2 H2 _) ⟨G2, _, .im d, _, R2w, td, hw, fun G3 ρ3 σ3 H3 le3 R3 h3 e3 => ?_⟩))
    have hl3 : σ3.length = σ.length := by rw [← wipe_length σ3 own, e3, wipe_length]
    refine ht σ3 H3 _ ⟨G3, ρ3, _, R3, h3, fun b G4 ρ4 H4 le4 R4 h4 => ?_⟩
    have leP : ∀ {G5 : Gs}, G4.le G5 → G'.le G5 := fun le5 => ((le2.trans le3).trans le4).trans le5
    cases b with
    | false =>
      refine iteF ?_
      rw [if_neg (by decide)] at h4
      have R5 := R'.unwipe (vs := own) R4.rc (leP (.refl G4)) e3 hl3
      exact ⟨G4, _, vs, acc, le.trans ⟨(leP (.refl G4)).b0, (leP (.refl G4)).h0, (leP (.refl G4)).same, (leP (.refl G4)).fa, rfl, (leP (.refl G4)).fa0⟩, (leP (.refl G4)).pr.trans e, R5, ta.mono (leP (.refl G4)).same, by omega, h4⟩
    | true =>
      refine iteT ?_
      rw [if_pos rfl] at h4
      refine ⟨G4, ρ4, _, R4, h4, fun v G5 ρ5 H5 val le5 R5 vo hv => ?_⟩
      obtain ⟨G6, yd, le6, R6, ty, hy⟩ := R5.fz vo hv
      have leQ : G'.le G6 := (leP le5).trans le6
      have R7 := R'.unwipe (vs := own) R6.rc leQ e3 hl3
      have e7 := leQ.pr.trans e
      refine ⟨vs, (R6.rc.priv D _ (by rw [e7]; exact List.mem_cons_self ..)).1, by rw [ta.length]; exact hacc', ?_⟩
      refine ⟨G6.pri ((D, .lst (vs ++ [v])) :: G1.pr), _, vs ++ [v], acc ++ [yd], le.trans ⟨leQ.b0, leQ.h0, leQ.same, leQ.fa, rfl, leQ.fa0⟩, rfl, R7.putPr e7 fr, (ta.mono leQ.same).append (.cons ty .nil), by simp; omega, ?_⟩
      simpa using hy
  · rintro H ⟨G', ρ', vs, acc, le, e, R', ta, hacc, hw⟩
    rw [List.drop_length] at hw
    have hw : Q' (.fr (acc ++ [])) ⟨ρ', ρ1.x⟩ := hw
    rw [List.append_nil] at hw
    obtain ⟨Ro, vo⟩ := R'.outPr e ta fr
    exact q _ (G'.pri G1.pr) ⟨ρ', ρ1.x⟩ H _ (le1.trans le) (R1.up le Ro) vo hw

section
variable {elt tg iter : Expr} {ifs : List Expr} {scope : Scope} {ownl : List (Str × Nat)} {pos : Pos} {si : SI} {g0 : TG} {g : SG} {t : ST} {f : SE} {tt : TT}
theorem tyes_imp : ∀ σ H Q, tT Z sYes σ H Q → tYes σ H Q := fun σ H Q ⟨G, ρ, Q', R, h, q⟩ => q true G ρ H (.refl G) R h
theorem ev_lc {own : List Nat} (hc : X.calm = true) (hN : X.N.Nodup) (hi : PI X tg iter (tI Z si)) (okb : BlkOk X.N X.env.scope scope ownl) (ok : GTok own g0 g) (himp : ∀ σ H Q, tT Z t σ H Q → tt σ H Q)
    (hg : ∀ (s : Shared) (H : Hp) (C : Addr) (cl : List (Str × Addr)) (fp : List Addr), PG (X.blk s H scope (compEnvC scope cl C X.env) fp) tg g0) (ht : ∀ (s : Shared) (H : Hp) (C : Addr) (cl : List (Str × Addr)) (fp : List Addr), PTs (X.blk s H scope (compEnvC scope cl C X.env) fp) ifs tt)
    (he : ∀ (s : Shared) (H : Hp) (C : Addr) (cl : List (Str × Addr)) (fp : List Addr), PE (X.blk s H scope (compEnvC scope cl C X.env) fp) elt (tE Z f)) (how : ownl.map (·.2) = own := by rfl) (hs : ∀ x, foldedSetIterable iter X.env x = pure x := by intro _; rfl) :
    PE X (.ListComp elt [⟨tg, iter, ifs, 0⟩] scope pos) (tE Z (sLc own si g t f)) := by
  subst how
  exact PE.imp (pe_lc hc hN hi okb hg ht he hs) (t_lc ok himp)
theorem es_setLc {own : List Nat} {y : Str} {py : Pos} {spos : Pos} (i : Nat) (hc : X.calm = true) (hN : X.N.Nodup) (hi : PI X tg iter (tI Z si)) (okb : BlkOk X.N X.env.scope scope ownl) (ok : GTok own g0 g) (himp : ∀ σ H Q, tT Z t σ H Q → tt σ H Q)
    (hg : ∀ (s : Shared) (H : Hp) (C : Addr) (cl : List (Str × Addr)) (fp : List Addr), PG (X.blk s H scope (compEnvC scope cl C X.env) fp) tg g0) (ht : ∀ (s : Shared) (H : Hp) (C : Addr) (cl : List (Str × Addr)) (fp : List Addr), PTs (X.blk s H scope (compEnvC scope cl C X.env) fp) ifs tt)
    (he : ∀ (s : Shared) (H : Hp) (C : Addr) (cl : List (Str × Addr)) (fp : List Addr), PE (X.blk s H scope (compEnvC scope cl C X.env) fp) elt (tE Z f))
    (hsw : swapsWith (.ListComp elt [⟨tg, iter, ifs, 0⟩] scope pos) (some (.Name y py)) spos.line X.env = pure true) (hy : X.N[i]? = some y := by rfl) (hyl : X.env.scope.names.lookup y = some .local := by rfl)
    (how : ownl.map (·.2) = own := by rfl) (hs : ∀ x, foldedSetIterable iter X.env x = pure x := by intro _; rfl) :
    PS X (.Assign [.Name y py] (.ListComp elt [⟨tg, iter, ifs, 0⟩] scope pos) spos) (tS Z (sAsg (sLc own si g t f) (sgName i))) := by
  subst how
  exact PS.imp (ps_setLc hc hN hy hyl hsw hi okb hg ht he hs) (t_asg (GTok.name (own := [i]) i (by simp)) (t_lc ok himp))
end

/-! ### what is walked -/
def rngD (lo : Int) (n : Nat) : List D := (List.range n).map fun i => .int (lo + (i : Nat))
theorem rngD_length (lo : Int) (n : Nat) : (rngD lo n).length = n := by simp [rngD]
theorem rngD_get {lo : Int} {n i : Nat} (h : i < n) : (rngD lo n)[i]? = some (.int (lo + (i : Nat))) := by simp [rngD, h]
def chrD (x : Str) : List D := x.cps.toList.map fun c => .str ⟨#[c]⟩
theorem Src.mk' {G : Gs} {J : It} {ds : List D} {n : Nat} {Gp : Hp → Prop} {Y : Nat → Hp → V → Hp → Prop} (w : Walk J n Gp Y) (hn : ds.length = n) (h1 : ∀ G' ρ σ H, Same G.B G'.B → Rel Z G' ρ σ H → Gp H)
    (h2 : ∀ i x G' ρ σ H H', Same G.B G'.B → Rel Z G' ρ σ H → i < ds.length → Y i H x H' → ∃ G'' d, G'.le G'' ∧ Rel Z G'' ρ σ H' ∧ ds[i]? = some d ∧ Dt G''.B x d) : Src Z G J ds := ⟨Gp, Y, hn ▸ w, h1, h2⟩
theorem src_list {G : Gs} {K : PySem.W.Frag} {a : Addr} {vs : List V} {ds : List D} (hB : G.B a = some (.lst vs)) (t : DtA G.B vs ds) : Src Z G (Itl K a) ds := by
  refine Src.mk' walk_list t.length.symm (fun G' ρ σ H sm R => SqL.of (R.rc.same _ _ (sm _ _ hB))) (fun i x G' ρ σ H H' sm R hi ⟨e, y⟩ => ?_)
  subst e
  obtain ⟨d, e1, e2⟩ := t.get' y
  exact ⟨G', d, .refl G', R, e1, e2.mono sm⟩
theorem src_tup {G : Gs} {K : PySem.W.Frag} {a : Addr} {vs : List V} {ds : List D} (hB : G.B a = some (.tup vs)) (t : DtA G.B vs ds) : Src Z G (Itt K a) ds := by
  refine Src.mk' walk_tup t.length.symm (fun G' ρ σ H sm R => SqT.of (R.rc.same _ _ (sm _ _ hB))) (fun i x G' ρ σ H H' sm R hi ⟨e, y⟩ => ?_)
  subst e
  obtain ⟨d, e1, e2⟩ := t.get' y
  exact ⟨G', d, .refl G', R, e1, e2.mono sm⟩
theorem src_str {G : Gs} {x : Str} : Src Z G (Its x) (chrD x) := by
  refine Src.mk' walk_str (by simp [chrD]) (fun _ _ _ _ _ _ => trivial) (fun i v G' ρ σ H H' sm R hi ⟨e, c, e1, e2⟩ => ?_)
  subst e e2
  exact ⟨G', .str ⟨#[c]⟩, .refl G', R, by simp [chrD, ← e1], .str _⟩
theorem src_rng {G : Gs} {lo : Int} {n : Nat} : Src Z G (Itr lo n) (rngD lo n) := by
  refine Src.mk' walk_range (rngD_length _ _) (fun _ _ _ _ _ _ => trivial) (fun i v G' ρ σ H H' sm R hi ⟨e, e2⟩ => ?_)
  subst e e2
  rw [rngD_length] at hi
  exact ⟨G', _, .refl G', R, rngD_get hi, .int _⟩
def rngCD (lo c : Int) (n : Nat) : List D := (List.range n).map fun i => .int (lo + (i : Nat) * c)
theorem src_rngC {G : Gs} {lo c : Int} {n : Nat} : Src Z G (Itc lo c n) (rngCD lo c n) := by
  refine Src.mk' walk_rangeC (by simp [rngCD]) (fun _ _ _ _ _ _ => trivial) (fun i v G' ρ σ H H' sm R hi ⟨e, e2⟩ => ?_)
  subst e e2
  have hi' : i < n := by simpa [rngCD] using hi
  exact ⟨G', _, .refl G', R, by simp [rngCD, hi'], .int _⟩
def enumD (ds : List D) : List D := ds.zipIdx.map fun p => .tuple [.int (p.2 : Nat), p.1]
theorem src_enum {G : Gs} {K : PySem.W.Frag} {a : Addr} {vs : List V} {ds : List D} (hB : G.B a = some (.lst vs)) (t : DtA G.B vs ds) : Src Z G (Ite K a) (enumD ds) := by
  refine Src.mk' walk_enum (by simp [enumD, t.length]) (fun G' ρ σ H sm R => SqL.of (R.rc.same _ _ (sm _ _ hB))) (fun i v G' ρ σ H H' sm R hi ⟨T, x, y, e1, e2, e3, e4, e5⟩ => ?_)
  subst e1 e3
  cases e4
  obtain ⟨d, ed, td⟩ := t.get' e5
  obtain ⟨G2, le, R2, eB⟩ := R.new (o := .tup [.int (i : Nat), y]) e2
  exact ⟨G2, .tuple [.int (i : Nat), d], le, R2, by simp [enumD, ed], .tup eB (.cons (.int _) (.cons ((td.mono sm).mono le.same) .nil))⟩
def zipD (ds es : List D) : List D := (ds.zip es).map fun p => .tuple [p.1, p.2]
theorem src_zip {G : Gs} {K : PySem.W.Frag} {a b : Addr} {vs ws : List V} {ds es : List D} (hB : G.B a = some (.lst vs)) (t : DtA G.B vs ds) (hB2 : G.B b = some (.lst ws)) (t2 : DtA G.B ws es) : Src Z G (Itz K a b) (zipD ds es) := by
  refine Src.mk' (walk_zip rfl) (by simp [zipD, t.length, t2.length]) (fun G' ρ σ H sm R => ⟨SqL.of (R.rc.same _ _ (sm _ _ hB)), SqL.of (R.rc.same _ _ (sm _ _ hB2))⟩) (fun i v G' ρ σ H H' sm R hi ⟨T, x, y, e1, e2, e3, e4, e5⟩ => ?_)
  subst e1 e3
  obtain ⟨d, ed, td⟩ := t.get' e4
  obtain ⟨d2, ed2, td2⟩ := t2.get' e5
  obtain ⟨G2, le, R2, eB⟩ := R.new (o := .tup [x, y]) e2
  exact ⟨G2, .tuple [d, d2], le, R2, by simp [zipD, (List.getElem?_zip_eq_some (z := (d, d2))).mpr ⟨ed, ed2⟩], .tup eB (.cons ((td.mono sm).mono le.same) (.cons ((td2.mono sm).mono le.same) .nil))⟩
theorem src_rev {G : Gs} {K : PySem.W.Frag} {a : Addr} {vs : List V} {ds : List D} (hB : G.B a = some (.lst vs)) (t : DtA G.B vs ds) : Src Z G (Itv K a vs.length) ds.reverse := by
  refine Src.mk' walk_rev (by rw [List.length_reverse, ← t.length]) (fun G' ρ σ H sm R => SqL.of (R.rc.same _ _ (sm _ _ hB))) (fun i x G' ρ σ H H' sm R hi ⟨e, y⟩ => ?_)
  subst e
  obtain ⟨d, e1, e2⟩ := t.get' y
  have hi' : i < ds.length := by simpa using hi
  exact ⟨G', d, .refl G', R, by rw [List.getElem?_reverse hi', ← t.length]; exact e1, e2.mono sm⟩

/-- a list, a tuple or a text -/
def iAny (K : PySem.W.Frag) (te : TE) : TI := fun σ H R => te σ H fun x H1 => (∃ a xs, x = .ref a ∧ SqL K H1 a xs ∧ R (Itl K a) H1) ∨ (∃ a xs, x = .ref a ∧ SqT K H1 a xs ∧ R (Itt K a) H1) ∨ ∃ z, x = .str z ∧ R (Its z) H1
theorem pi_any {tg l : Expr} {tl : TE} (hl : PE X l tl) : PI X tg l (iAny X.K tl) := by
  refine ⟨fun pins s σ H R I h => ?_⟩
  refine thn (hl.run pins s σ H _ I h) fun v s1 ⟨x, H1, I1, r1, q1⟩ => ?_
  rcases q1 with ⟨a, xs, e, hq, q⟩ | ⟨a, xs, e, hq, q⟩ | ⟨z, e, q⟩
  · subst e
    cases r1
    obtain ⟨its, rv, p, hz⟩ := I1.list hq
    refine wpAny_pyIter_list p.isList ?_
    refine ⟨s1.heap.objs.size, [s1.heap.objs.size], _, _, H1, rfl, I1.kept (t' := s1.toks) fun b o e => Heap.get?_push_of_some _ e, turn_list a _, ⟨_, Heap.get?_push_size _ rfl, rfl, rfl⟩, fun b hb => ?_, q⟩
    have e : b = s1.heap.objs.size := by simpa using hb
    subst e
    exact I1.fpOk (Nat.le_refl _) (I1.hok.fresh (Nat.le_refl _))
  · subst e
    cases r1
    obtain ⟨its, rv, p, hz⟩ := I1.tuple hq
    refine wpAny_pyIter_tuple (show s1.heap.IsTuple a its.toArray from p) ?_
    refine ⟨s1.heap.objs.size, [s1.heap.objs.size], _, _, H1, rfl, I1.kept (t' := s1.toks) fun b o e => Heap.get?_push_of_some _ e, turn_tuple a _, ⟨_, Heap.get?_push_size _ rfl, rfl, rfl⟩, fun b hb => ?_, q⟩
    have e : b = s1.heap.objs.size := by simpa using hb
    subst e
    exact I1.fpOk (Nat.le_refl _) (I1.hok.fresh (Nat.le_refl _))
  · subst e
    obtain ⟨t, rfl⟩ := r1
    cases ha : z.cps.all (· < 128)
    · exact wpAny_pyIter_wide ha (pi_one (tk := s1.toks) I1 _ (turn_str _ z t "str_iterator" (.inr rfl)) ⟨_, Heap.get?_push_size _ rfl, rfl, rfl⟩ q)
    · exact wpAny_pyIter_ascii ha (pi_one (tk := s1.toks) I1 _ (turn_str _ z t "str_ascii_iterator" (.inl rfl)) ⟨_, Heap.get?_push_size _ rfl, rfl, rfl⟩ q)
def sIt (f : SE) : SI := fun ρ Q => f ρ fun v ρ1 => fz v fun d => match d with
  | .list ds => Q ds ρ1
  | .tuple ds => Q ds ρ1
  | .str x => Q (chrD x) ρ1
  | _ => False
theorem ei_any {tg l : Expr} {f : SE} (hl : PE X l (tE Z f)) : PI X tg l (tI Z (sIt f)) := by
  refine PI.imp (pi_any hl) fun σ H Rx ⟨G, ρ, Q', R, h, q⟩ => ⟨G, ρ, _, R, h, fun v G1 ρ1 H1 val le1 R1 vo hv => ?_⟩
  obtain ⟨G2, d, le2, R2, t, hk⟩ := R1.fz vo hv
  cases t with
  | lst e ta => exact .inl ⟨_, _, rfl, SqL.of (R2.rc.same _ _ e), q _ G2 ρ1 H1 _ (le1.trans le2) R2 (src_list e ta) hk⟩
  | tup e ta => exact .inr (.inl ⟨_, _, rfl, SqT.of (R2.rc.same _ _ e), q _ G2 ρ1 H1 _ (le1.trans le2) R2 (src_tup e ta) hk⟩)
  | str x => exact .inr (.inr ⟨x, rfl, q _ G2 ρ1 H1 _ (le1.trans le2) R2 src_str hk⟩)
  | non => exact hk.elim
  | bl b => exact hk.elim
  | int i => exact hk.elim
def sRng1 (t : SDs) : SI := fun ρ Q => t ρ fun ds ρ1 => match ds with | [.int j] => -(2 ^ 62) ≤ j ∧ j < 2 ^ 62 ∧ Q (rngD 0 j.toNat) ρ1 | _ => False
def sRng2 (t : SDs) : SI := fun ρ Q => t ρ fun ds ρ1 => match ds with | [.int i, .int j] => (-(2 ^ 62) ≤ i ∧ i < 2 ^ 62 ∧ -(2 ^ 62) ≤ j ∧ j < 2 ^ 62) ∧ Q (rngD i (j - i).toNat) ρ1 | _ => False
theorem ei_range1 {tg a : Expr} {t : SDs} {p pos : Pos} (hg : Gl X "range") (hm : X.mg "range" = none) (ha : PA X [a] (tDs Z t)) (hs : starEach [a] X.env = [(false, eval a X.env)] := by rfl) : PI X tg (.Call (.Name "range" p) [a] [] pos) (tI Z (sRng1 t)) := by
  refine PI.imp (pi_range1 hg hm ha hs) fun σ H Rx ⟨G, ρ, Q', R, h, q⟩ => ⟨G, ρ, _, R, h, fun vs G1 ρ1 H1 ds le1 R1 t hv => ?_⟩
  split at hv
  · rename_i j
    cases t with
    | cons a b =>
      cases a
      cases b
      exact ⟨j, rfl, hv.1, hv.2.1, q _ G1 ρ1 H1 _ le1 R1 src_rng hv.2.2⟩
  · exact hv.elim
theorem ei_range2 {tg a b : Expr} {t : SDs} {p pos : Pos} (hg : Gl X "range") (hm : X.mg "range" = none) (ha : PA X [a, b] (tDs Z t)) (hs : starEach [a, b] X.env = [(false, eval a X.env), (false, eval b X.env)] := by rfl) (hs2 : starEach [b] X.env = [(false, eval b X.env)] := by rfl) :
    PI X tg (.Call (.Name "range" p) [a, b] [] pos) (tI Z (sRng2 t)) := by
  refine PI.imp (pi_range2 hg hm ha hs hs2) fun σ H Rx ⟨G, ρ, Q', R, h, q⟩ => ⟨G, ρ, _, R, h, fun vs G1 ρ1 H1 ds le1 R1 t hv => ?_⟩
  split at hv
  · rename_i i j
    cases t with
    | cons a b =>
      cases a
      cases b with
      | cons a b =>
        cases a
        cases b
        exact ⟨i, j, rfl, hv.1, q _ G1 ρ1 H1 _ le1 R1 src_rng hv.2⟩
  · exact hv.elim
def sEnum (t : SDs) : SI := fun ρ Q => t ρ fun ds ρ1 => match ds with | [.list xs] => Q (enumD xs) ρ1 | _ => False
theorem ei_enum {e : Expr} {t : SDs} {p pos tpos : Pos} {elts : List Expr} {kk : Nat} (hg : Gl X "enumerate") (hm : X.mg "enumerate" = none) (ha : PA X [e] (tDs Z t)) (hs : starEach [e] X.env = [(false, eval e X.env)] := by rfl) :
    PI X (.Tuple elts kk tpos) (.Call (.Name "enumerate" p) [e] [] pos) (tI Z (sEnum t)) := by
  refine PI.imp (pi_enum hg hm ha hs) fun σ H Rx ⟨G, ρ, Q', R, h, q⟩ => ⟨G, ρ, _, R, h, fun vs G1 ρ1 H1 ds le1 R1 t hv => ?_⟩
  split at hv
  · cases t with
    | cons a b =>
      cases b
      cases a with
      | lst eB ta => exact ⟨_, _, rfl, SqL.of (R1.rc.same _ _ eB), q _ G1 ρ1 H1 _ le1 R1 (src_enum eB ta) hv⟩
  · exact hv.elim
def sZip (t : SDs) : SI := fun ρ Q => t ρ fun ds ρ1 => match ds with | [.list xs, .list ys] => Q (zipD xs ys) ρ1 | _ => False
theorem ei_zip {e e2 : Expr} {t : SDs} {p pos tpos : Pos} {elts : List Expr} {kk : Nat} (hg : Gl X "zip") (hm : X.mg "zip" = none) (ha : PA X [e, e2] (tDs Z t))
    (hs : starEach [e, e2] X.env = (false, eval e X.env) :: starEach [e2] X.env := by rfl) (hpl : (backTo pos (starEach [e2] X.env)).any (·.1) = false := by rfl) :
    PI X (.Tuple elts kk tpos) (.Call (.Name "zip" p) [e, e2] [] pos) (tI Z (sZip t)) := by
  refine PI.imp (pi_zip hg hm ha hs hpl) fun σ H Rx ⟨G, ρ, Q', R, h, q⟩ => ⟨G, ρ, _, R, h, fun vs G1 ρ1 H1 ds le1 R1 t hv => ?_⟩
  split at hv
  · cases t with
    | cons a b =>
      cases b with
      | cons a2 b =>
        cases b
        cases a with
        | lst eB ta =>
          cases a2 with
          | lst eB2 ta2 => exact ⟨_, _, _, _, rfl, SqL.of (R1.rc.same _ _ eB), SqL.of (R1.rc.same _ _ eB2), q _ G1 ρ1 H1 _ le1 R1 (src_zip eB ta eB2 ta2) hv⟩
  · exact hv.elim
def sRev (f : SE) : SI := fun ρ Q => f ρ fun v ρ1 => fz v fun d => match d with | .list xs => Q xs.reverse ρ1 | _ => False
theorem ei_rev {tg e : Expr} {f : SE} {p pos : Pos} (hg : Gl X "reversed") (hm : X.mg "reversed" = none) (he : PE X e (tE Z f)) (hs : starEach [e] X.env = (false, eval e X.env) :: starEach [] X.env := by rfl) : PI X tg (.Call (.Name "reversed" p) [e] [] pos) (tI Z (sRev f)) := by
  refine PI.imp (RT.pi_revA hg hm he hs) fun σ H Rx ⟨G, ρ, Q', R, h, q⟩ => ⟨G, ρ, _, R, h, fun v G1 ρ1 H1 val le1 R1 vo hv => ?_⟩
  obtain ⟨G2, d, le2, R2, t, hk⟩ := R1.fz vo hv
  cases t with
  | lst e ta => exact ⟨_, _, rfl, .inl ⟨SqL.of (R2.rc.same _ _ e), q _ G2 ρ1 H1 _ (le1.trans le2) R2 (src_rev e ta) hk⟩⟩
  | tup e ta => exact hk.elim
  | str x => exact hk.elim
  | non => exact hk.elim
  | bl b => exact hk.elim
  | int i => exact hk.elim

/-! ### promises and calls -/
/-- what a def's run leaves: B, H ahead, B', H' behind -/
structure Post (B : Hp) (fa : Option Addr) (H B' H' : Hp) : Prop where
  sb : Same B B'
  sh : Same B' H'
  old : ∀ q o, H q = some o → H' q = some o ∨ fa = some q
  new : ∀ q o, B' q = some o → H q = none ∨ B q = some o
  feed : ∀ p, fa = some p → B' p = none ∧ FeedOk B' H' p
def PVal (fa : Option Addr) (H B' H' : Hp) : Vl → V → Prop
  | .im d, v => Dt B' v d
  | .fr ds, v => ∃ p vs, v = .ref p ∧ H p = none ∧ B' p = none ∧ H' p = some (.lst vs) ∧ DtA B' vs ds
  | .fd, v => ∃ p, v = .ref p ∧ fa = none ∧ H p = none ∧ B' p = none ∧ FeedOk B' H' p
abbrev Fn := List Ar → (Vl → Prop) → (Xn → Prop) → Prop
abbrev gs0 (B H : Hp) (fa : Option Addr) : Gs := { B0 := B, H0 := H, B := B, fa0 := fa, fa := fa, pr := [] }
/-- a def's promise, by its words F over data -/
def spD (XL : XW) (F : Fn) : Sp := fun vs H Q E => ∃ (B : Hp) (fa : Option Addr) (args : List Ar) (k : Vl → Prop) (kx : Xn → Prop), Same B H ∧ (∀ p, fa = some p → B p = none ∧ FeedOk B H p) ∧ ArsOk (gs0 B H fa) args vs ∧ F args k kx ∧
  (∀ v H' B' val, Post B fa H B' H' → PVal fa H B' H' val v → k val → Q v H') ∧
  ∀ xn cls d H' B', Post B fa H B' H' → XL xn cls d H' → kx xn → E cls d H'
theorem ArsOk.length {G : Gs} : ∀ {as : List Ar} {vs : List V}, ArsOk G as vs → vs.length = as.length
  | _, _, .nil => rfl
  | _, _, .cons _ t => by simp [ArsOk.length t]
def arCell : Ar → Cell
  | .d d => .im d
  | .fd => .fd
def cells0 (n : Nat) (args : List Ar) : List Cell := args.map arCell ++ List.replicate (n - args.length) .un
theorem ArsOk.get {G : Gs} : ∀ {as : List Ar} {vs : List V} {i : Nat} {a : Ar}, ArsOk G as vs → as[i]? = some a → ∃ v, vs[i]? = some v ∧ ArOk G a v
  | _, _, _, _, .nil, e => by simp at e
  | _, _, 0, _, .cons h _, e => by simp at e; subst e; exact ⟨_, rfl, h⟩
  | _, _, i + 1, _, .cons _ t, e => by
    obtain ⟨v, h1, h2⟩ := ArsOk.get (i := i) t (by simpa using e)
    exact ⟨v, by simpa using h1, h2⟩
theorem rel0 {XL : XW} {W : WX} {B H : Hp} {fa : Option Addr} {args : List Ar} {vs : List V} {N : List Str} {kx : Xn → Prop} (sm : Same B H) (hf : ∀ p, fa = some p → B p = none ∧ FeedOk B H p) (ha : ArsOk (gs0 B H fa) args vs) (hl : args.length ≤ N.length)
    (hx : ∀ (xn : Xn) (G' : Gs) (ρ' : List Cell) (σ' : St) (H' : Hp) (cls : Value) (d : Option Addr), (gs0 B H fa).le G' → RelC G' ρ' σ' H' → XL xn cls d H' → kx xn → W cls d σ' H') :
    Rel ⟨W, XL⟩ (gs0 B H fa) ⟨cells0 N.length args, kx⟩ (L2.start N vs) H := by
  refine ⟨⟨sm, Same.refl _, fun q o e => .inl e, fun q o e => .inr e, ?_, fun i c o e1 e2 => ?_, fun i j p ds es ne e1 _ => ?_, hf, fun p o e => (nomatch e), fun p e => .inl e⟩, hx⟩
  · unfold cells0 L2.start
    have := ha.length
    simp
    omega
  · unfold cells0 at e1
    unfold L2.start at e2
    by_cases hi : i < args.length
    · rw [List.getElem?_append_left (by simpa using hi)] at e1
      rw [List.getElem?_append_left (by simp [ha.length]; exact hi)] at e2
      rw [List.getElem?_map] at e1 e2
      cases ea : args[i]? with
      | none => rw [ea] at e1; cases e1
      | some a =>
        rw [ea] at e1
        cases e1
        obtain ⟨v, ev, ho⟩ := ha.get ea
        rw [ev] at e2
        cases e2
        cases a with
        | d d => exact ⟨v, rfl, ho⟩
        | fd =>
          obtain ⟨p, e, f⟩ := ho
          exact ⟨p, by rw [e], f⟩
    · rw [List.getElem?_append_right (by simpa using hi)] at e1
      rw [List.getElem?_replicate] at e1
      split at e1
      · cases e1
        trivial
      · cases e1
  · unfold cells0 at e1
    by_cases hi : i < args.length
    · rw [List.getElem?_append_left (by simpa using hi), List.getElem?_map] at e1
      cases ea : args[i]? with
      | none => rw [ea] at e1; cases e1
      | some a =>
        rw [ea] at e1
        cases a <;> cases e1
    · rw [List.getElem?_append_right (by simpa using hi), List.getElem?_replicate] at e1
      split at e1
      · cases e1
      · cases e1
theorem post_of {B H : Hp} {fa : Option Addr} {G' : Gs} {ρ : List Cell} {σ : St} {H' : Hp} (le : (gs0 B H fa).le G') (R : RelC G' ρ σ H') : Post B fa H G'.B H' := by
  have hb : G'.B0 = B := le.b0
  have hh : G'.H0 = H := le.h0
  have hf : G'.fa0 = fa := le.fa0
  refine ⟨le.same, R.same, fun q o e => ?_, fun q o e => ?_, fun p e => R.feed p (le.fa p e)⟩
  · rcases R.old q o (by rw [hh]; exact e) with z | z
    · exact .inl z
    · rcases R.fa0 q z with y | y
      · rw [hf] at y
        exact .inr y
      · rw [hh, e] at y
        cases y
  · rcases R.newB q o e with z | z
    · rw [hh] at z
      exact .inl z
    · rw [hb] at z
      exact .inr z
def noFd (k : Vl → Prop) (v : Vl) : Prop := match v with
  | .im d => k (.im d)
  | .fr ds => k (.fr ds)
  | .fd => False
section
variable {P : Program} {w : World} {K : PySem.W.Frag} {mg : Str → Option Value} {base : Heap}
/-- a def that raises nothing: its body's reading is ours, and does what F says -/
theorem fn_dv {x qual : Str} {st : Stmt} {f : Addr} {fd : FuncData} {N ps : List Str} {k : Nat} {XL : XW} {F : Fn} {sem : SS} (Fu : Fun K x qual st f fd) (S : FnScope N ps (defScope st)) (len : ∀ as k kx, F as k kx → as.length = ps.length)
    (der : ∀ (cdv : Value) (A : Around) (outer : List Env) (s : Shared) (H : Hp) (E : XK) (Z : Zx), Room k (A.deeper (envOfC qual (defScope st) s.heap.objs.size f cdv)) → PSs (cxOf CX0 P w K mg base N qual (defScope st) f cdv A outer s H E).nox (defBody st) (tS Z sem))
    (hs : ∀ as k kx, F as k kx → sem ⟨cells0 N.length as, kx⟩ { nx := fun _ => k (.im .none), rt := fun v _ => noFd k v }) : FnOk P w K mg base CX0 (k + 1) f fd ps (spD XL F) := by
  refine Fu.ok S (fun vs H Q E ⟨B, fa, as, k, kx, _, _, ha, hF, _⟩ => ha.length.trans (len as k kx hF)) fun cdv A outer s H vs Q E hr ⟨B, fa, as, k, kx, sm, hf, ha, hF, hq, hx⟩ => ?_
  have hN : as.length ≤ N.length := by
    rw [len as k kx hF]
    have := congrArg List.length S.pre
    rw [List.length_take] at this
    omega
  refine ⟨_, der cdv A outer s H E ⟨fun cls d _ H' => E cls d H', XL⟩ hr, gs0 B H fa, _, _, rel0 sm hf ha hN fun xn G' ρ' σ' H' cls d le R l h => ?_, hs as k kx hF, ?_, ?_, ?_, ?_⟩
  · exact hx xn cls d H' G'.B (post_of le R) l h
  · exact fun G' ρ' σ' H' le R h => hq .non H' G'.B (.im .none) (post_of le R.rc) .non h
  · intro G' ρ' σ' H' v val le R vo h
    have h2 : k val := by cases val <;> first | exact h | exact h.elim
    refine hq v H' G'.B val (post_of le R.rc) ?_ h2
    have hh : G'.H0 = H := le.h0
    cases val with
    | im d => exact vo
    | fr ds =>
      obtain ⟨p, vs, e, a, b, _, c, d, _⟩ := vo
      rw [hh] at b
      exact ⟨p, vs, e, b, a, c, d⟩
    | fd => exact h.elim
  · exact fun G' ρ' σ' H' le R h => h.elim
  · exact fun G' ρ' σ' H' le R h => h.elim

/-- a def that may raise -/
theorem fn_dvX {x qual : Str} {st : Stmt} {f : Addr} {fd : FuncData} {N ps : List Str} {k : Nat} {XL : XW} {F : Fn} {sem : SS} (Fu : Fun K x qual st f fd) (S : FnScope N ps (defScope st)) (len : ∀ as k kx, F as k kx → as.length = ps.length)
    (der : ∀ (cdv : Value) (A : Around) (outer : List Env) (s : Shared) (H : Hp) (E : XK), Room k (A.deeper (envOfC qual (defScope st) s.heap.objs.size f cdv)) → PSs (cxOf (L2.CX P w) P w K mg base N qual (defScope st) f cdv A outer s H E) (defBody st) (tS ⟨fun cls d _ H' => E cls d H', XL⟩ sem))
    (hs : ∀ as k kx, F as k kx → sem ⟨cells0 N.length as, kx⟩ { nx := fun _ => k (.im .none), rt := fun v _ => noFd k v }) : FnOk P w K mg base (L2.CX P w) (k + 1) f fd ps (spD XL F) := by
  refine Fu.okX S (fun vs H Q E ⟨B, fa, as, k, kx, _, _, ha, hF, _⟩ => ha.length.trans (len as k kx hF)) fun cdv A outer s H vs Q E hr ⟨B, fa, as, k, kx, sm, hf, ha, hF, hq, hx⟩ => ?_
  have hN : as.length ≤ N.length := by
    rw [len as k kx hF]
    have := congrArg List.length S.pre
    rw [List.length_take] at this
    omega
  refine ⟨_, der cdv A outer s H E hr, gs0 B H fa, _, _, rel0 sm hf ha hN fun xn G' ρ' σ' H' cls d le R l h => ?_, hs as k kx hF, ?_, ?_, ?_, ?_⟩
  · exact hx xn cls d H' G'.B (post_of le R) l h
  · exact fun G' ρ' σ' H' le R h => hq .non H' G'.B (.im .none) (post_of le R.rc) .non h
  · intro G' ρ' σ' H' v val le R vo h
    have h2 : k val := by cases val <;> first | exact h | exact h.elim
    refine hq v H' G'.B val (post_of le R.rc) ?_ h2
    have hh : G'.H0 = H := le.h0
    cases val with
    | im d => exact vo
    | fr ds =>
      obtain ⟨p, vs, e, a, b, _, c, d, _⟩ := vo
      rw [hh] at b
      exact ⟨p, vs, e, b, a, c, d⟩
    | fd => exact h.elim
  · exact fun G' ρ' σ' H' le R h => h.elim
  · exact fun G' ρ' σ' H' le R h => h.elim
end

/-- behind a call -/
theorem Rel.called {G : Gs} {ρ : Rho} {σ : St} {H H' B' : Hp} (R : Rel Z G ρ σ H) (p : Post G.B G.fa H B' H') : G.le { G with B := B' } ∧ Rel Z { G with B := B' } ρ σ H' := by
  have le : G.le { G with B := B' } := ⟨rfl, rfl, p.sb, fun _ e => e, rfl, rfl⟩
  have nB : ∀ q u, H q = some u → G.B q = none → B' q = none := fun q u e n => by
    cases h : B' q with
    | none => rfl
    | some o =>
      rcases p.new q o h with z | z
      · rw [e] at z
        cases z
      · rw [n] at z
        cases z
  refine ⟨le, ⟨⟨p.sh, R.rc.same0.trans p.sb, fun q o e => ?_, fun q o e => ?_, R.rc.len, fun i c o e1 e2 => ?_, R.rc.dist, fun q e => p.feed q e, fun q o e => ?_, R.rc.fa0⟩, fun xn G' ρ' σ' H' cls d le2 => R.ex xn G' ρ' σ' H' cls d (le.trans le2)⟩⟩
  · rcases R.rc.old q o e with z | z
    · exact p.old q o z
    · exact .inr z
  · rcases p.new q o e with z | z
    · refine .inl ?_
      cases h : G.H0 q with
      | none => rfl
      | some u =>
        rcases R.rc.old q u h with y | y
        · rw [z] at y
          cases y
        · obtain ⟨_, y⟩ := (R.rc.feed q y).2.some
          rw [z] at y
          cases y
    · exact R.rc.newB q o z
  · cases c with
    | un => trivial
    | im d =>
      obtain ⟨v, e, t⟩ := R.rc.cells i _ _ e1 e2
      exact ⟨v, e, t.mono p.sb⟩
    | mu ds =>
      obtain ⟨q, vs, e, b, h0, f, hq, t⟩ := R.rc.cells i _ _ e1 e2
      exact ⟨q, vs, e, nB q _ hq b, h0, f, (p.old q _ hq).resolve_right f, t.mono p.sb⟩
    | fd =>
      obtain ⟨q, e, f⟩ := R.rc.cells i _ _ e1 e2
      exact ⟨q, e, f⟩
  · obtain ⟨h1, h2, h3, h4, h5⟩ := R.rc.priv q o e
    exact ⟨(p.old q _ h1).resolve_right h4, nB q _ h1 h2, h3, h4, h5⟩
theorem Rel.calledV {G : Gs} {ρ : Rho} {σ : St} {H H' B' : Hp} {v : V} {val : Vl} (R : Rel Z G ρ σ H) (p : Post G.B G.fa H B' H') (pv : PVal G.fa H B' H' val v) : ∃ G', G.le G' ∧ Rel Z G' ρ σ H' ∧ VlOk G' H' ρ.c σ val v := by
  obtain ⟨le, R'⟩ := R.called p
  cases val with
  | im d => exact ⟨_, le, R', pv⟩
  | fr ds =>
    obtain ⟨q, vs, e, a, b, c, d⟩ := pv
    obtain ⟨_, f0, ff, fm, fr⟩ := R.rc.free a
    exact ⟨_, le, R', q, vs, e, b, f0, ff, c, d, fm, fr⟩
  | fd =>
    obtain ⟨q, e, fn, a, b, c⟩ := pv
    obtain ⟨_, f0, ff, fm, fr⟩ := R.rc.free a
    have le2 : ({ G with B := B' } : Gs).le { G with B := B', fa := some q } := ⟨rfl, rfl, Same.refl _, fun p z => (nomatch (fn.symm.trans z)), rfl, rfl⟩
    refine ⟨{ G with B := B', fa := some q }, le.trans le2, ⟨⟨R'.rc.same, R'.rc.same0, fun x o z => ?_, R'.rc.newB, R'.rc.len, fun i c o e1 e2 => ?_, R'.rc.dist, fun x z => ?_, fun x o z => ?_, fun x z => ?_⟩, fun xn G' ρ' σ' H' cls d le3 => R'.ex xn G' ρ' σ' H' cls d (le2.trans le3)⟩, q, e, rfl⟩
    · rcases R'.rc.old x o z with y | y
      · exact .inl y
      · exact (nomatch (fn.symm.trans y))
    · cases c with
      | un => trivial
      | im d => exact R'.rc.cells i _ _ e1 e2
      | mu ds =>
        obtain ⟨y, vs, h1, h2, h3, h4, h5, h6⟩ := R'.rc.cells i _ _ e1 e2
        refine ⟨y, vs, h1, h2, h3, fun z => ?_, h5, h6⟩
        cases z
        exact fm i ds e1 (by rw [e2, h1])
      | fd =>
        obtain ⟨y, h1, h2⟩ := R'.rc.cells i _ _ e1 e2
        exact (nomatch (fn.symm.trans h2))
    · cases z
      exact ⟨b, c⟩
    · obtain ⟨h1, h2, h3, h4, h5⟩ := R'.rc.priv x o z
      refine ⟨h1, h2, h3, fun y => ?_, h5⟩
      cases y
      exact fr o z
    · cases z
      exact .inr f0
def sCall (F : Fn) (a : SA) : SE := fun ρ Q => a ρ fun as ρ1 => F as (fun v => Q v ρ1) fun _ => False
/-- a call that may raise: the wish of exceptions is the state's -/
def sCallX (F : Fn) (a : SA) : SE := fun ρ Q => a ρ fun as ρ1 => F as (fun v => Q v ρ1) ρ1.x
section
variable {XL : XW} {F : Fn} {k : Nat} {f : Addr} {fd : FuncData} {ps : List Str} {x : Str} {p pos : Pos} {e : Expr} {es : List Expr} {a : SA}
theorem ev_call (Fk : FnOk X.prog X.w X.K X.mg X.base CX0 k f fd ps (spD XL F)) (hr : Room k X.A) (hg : Gl X x) (hm : X.mg x = some (.ref f)) (hk : PySem.W.keepIn X.K (.ref f) = true) (hb : Binds X.K fd ps [])
    (ha : PA X (e :: es) (tA Z a)) (hdb : (x == ("__debug__" : Str)) = false := by decide) (he : starEach (e :: es) X.env = (false, eval e X.env) :: starEach es X.env := by rfl) (hpl : (backTo pos (starEach es X.env)).any (·.1) = false := by rfl) :
    PE X (.Call (.Name x p) (e :: es) [] pos) (tE Z (sCall F a)) := by
  refine PE.imp (pe_call Fk hr hg hm hk hb .nil pass0 ha hdb he hpl) fun σ H Q ⟨G, ρ, Q', R, h, q⟩ => ⟨G, ρ, _, R, h, fun vs G1 ρ1 H1 as le1 R1 ao hF => ?_⟩
  show spD XL F (vs ++ []) H1 Q E0
  rw [List.append_nil]
  refine ⟨G1.B, G1.fa, as, _, _, R1.rc.same, R1.rc.feed, ?_, hF, fun v H' B' val po pv hv => ?_, fun _ _ _ _ _ _ _ z => z.elim⟩
  · have mk : ∀ {as : List Ar} {vs : List V}, ArsOk G1 as vs → ArsOk (gs0 G1.B H1 G1.fa) as vs := fun {as vs} h => by
      induction h with
      | nil => exact .nil
      | @cons a v as vs h t ih =>
        refine .cons ?_ ih
        cases a <;> exact h
    exact mk ao
  · obtain ⟨G2, le2, R2, vo⟩ := R1.calledV po pv
    exact q v G2 ρ1 H' val (le1.trans le2) R2 vo hv
end
end Dv

/-! DvE: readings by data: operators, subscripts, slices, built-ins, methods. -/
namespace Dv
open PySem PySem.Spec L2
open PyProof.Rows hiding St

variable {Z : Zx} {X : Cx}

/-! ### arithmetic -/
def oAdd : O2 := fun d e k => match d, e with
  | .int i, .int j => k (.im (.int (i + j)))
  | .str a, .str b => a.length + b.length ≤ 16777216 ∧ k (.im (.str (a ++ b)))
  | .list xs, .list ys => xs.length + ys.length ≤ 16777216 ∧ k (.fr (xs ++ ys))
  | _, _ => False
def rStrAdd : R2 := fun x y H Q => ∃ i j, x = .str i ∧ y = .str j ∧ i.length + j.length ≤ sizeLine ∧ Q (.str (i ++ j)) H
theorem op_addD : OpR X (binaryOp .Add) (fun x y H Q => rI0 (fun i j => .int (i + j)) x y H Q ∨ rStrAdd x y H Q ∨ rCat x y H Q) := op_add.or (op_add_str.or op_cat)
theorem ok_add : Ok2 (fun x y H Q => rI0 (fun i j => .int (i + j)) x y H Q ∨ rStrAdd x y H Q ∨ rCat x y H Q) oAdd := fun Z G ρ σ H v w d e k Q R t u h q => by
  unfold oAdd at h
  split at h
  · rename_i i j
    exact .inl ⟨i, j, t.int, u.int, q (.im (.int (i + j))) _ G H (.refl G) R (.int _) h⟩
  · rename_i a b
    exact .inr (.inl ⟨a, b, t.str, u.str, h.1, q (.im (.str (a ++ b))) _ G H (.refl G) R (.str _) h.2⟩)
  · rename_i xs ys
    obtain ⟨p, vs, rfl, hp, ta⟩ := t
    obtain ⟨p2, vs2, rfl, hp2, ta2⟩ := u
    refine .inr (.inr ⟨p, p2, vs, vs2, rfl, rfl, hp, hp2, by rw [ta.length, ta2.length]; exact h.1, fun p3 h3 => ?_⟩)
    obtain ⟨R2, vo⟩ := R.frNew h3 (ta.append ta2)
    exact q _ _ G _ (.refl G) R2 vo h.2
  · exact h.elim
/-- ints in, a value out -/
def oI (C : Int → Int → Prop) (g : Int → Int → D) : O2 := fun d e k => match d, e with
  | .int i, .int j => C i j ∧ k (.im (g i j))
  | _, _ => False
def oI0 (g : Int → Int → D) : O2 := fun d e k => match d, e with
  | .int i, .int j => k (.im (g i j))
  | _, _ => False
theorem ok_I {C : Int → Int → Prop} {g : Int → Int → V} {gd : Int → Int → D} (hg : ∀ i j B, Dt B (g i j) (gd i j)) : Ok2 (rI C g) (oI C gd) := fun Z G ρ σ H v w d e k Q R t u h q => by
  unfold oI at h
  split at h
  · rename_i i j
    exact ⟨i, j, t.int, u.int, h.1, q (.im (gd i j)) _ G H (.refl G) R (hg i j G.B) h.2⟩
  · exact h.elim
theorem ok_I0 {g : Int → Int → V} {gd : Int → Int → D} (hg : ∀ i j B, Dt B (g i j) (gd i j)) : Ok2 (rI0 g) (oI0 gd) := fun Z G ρ σ H v w d e k Q R t u h q => by
  unfold oI0 at h
  split at h
  · rename_i i j
    exact ⟨i, j, t.int, u.int, q (.im (gd i j)) _ G H (.refl G) R (hg i j G.B) h⟩
  · exact h.elim
abbrev oSub : O2 := oI0 fun i j => .int (i - j)
theorem ok_sub : Ok2 (rI0 fun i j => .int (i - j)) oSub := ok_I0 fun _ _ _ => .int _
/-- a product of ints, or a list so many times -/
def oMul : O2 := fun d e k => match d, e with
  | .int i, .int j => CMul i j ∧ k (.im (.int (i * j)))
  | .list xs, .int n => (-(2 ^ 63) ≤ n ∧ n < 2 ^ 63 ∧ xs.length * n.toNat ≤ 16777216) ∧ k (.fr (List.replicate n.toNat xs).flatten)
  | _, _ => False
theorem DtA.rep {B : Hp} {vs : List V} {ds : List D} (h : DtA B vs ds) : ∀ n : Nat, DtA B (List.replicate n vs).flatten (List.replicate n ds).flatten
  | 0 => .nil
  | n + 1 => by
    rw [List.replicate_succ, List.replicate_succ, List.flatten_cons, List.flatten_cons]
    exact h.append (h.rep n)
theorem op_mulD : OpR X (binaryOp .Mult) (fun x y H Q => rI CMul (fun i j => .int (i * j)) x y H Q ∨ rRep x y H Q) := op_mul.or op_rep
theorem ok_mul : Ok2 (fun x y H Q => rI CMul (fun i j => .int (i * j)) x y H Q ∨ rRep x y H Q) oMul := fun Z G ρ σ H v w d e k Q R t u h q => by
  unfold oMul at h
  split at h
  · rename_i i j
    exact .inl ⟨i, j, t.int, u.int, h.1, q (.im (.int (i * j))) _ G H (.refl G) R (.int _) h.2⟩
  · rename_i xs n
    obtain ⟨p, vs, rfl, hp, ta⟩ := t
    refine .inr ⟨p, n, vs, rfl, u.int, hp, h.1.1, h.1.2.1, by rw [ta.length]; exact h.1.2.2, fun p3 h3 => ?_⟩
    obtain ⟨R2, vo⟩ := R.frNew h3 (ta.rep n.toNat)
    exact q _ _ G _ (.refl G) R2 vo h.2
  · exact h.elim
abbrev oFdiv : O2 := oI CDiv fun i j => .int (i / j)
theorem ok_fdiv : Ok2 (rI CDiv fun i j => .int (i / j)) oFdiv := ok_I fun _ _ _ => .int _
abbrev oMod : O2 := oI (fun _ j => 0 < j) fun i j => .int (i % j)
theorem ok_mod : Ok2 (rI (fun _ j => 0 < j) fun i j => .int (i % j)) oMod := ok_I fun _ _ _ => .int _
abbrev oPow : O2 := oI CPow fun i j => .int (i ^ j.toNat)
theorem ok_pow : Ok2 (rI CPow fun i j => .int (i ^ j.toNat)) oPow := ok_I fun _ _ _ => .int _
abbrev oShl : O2 := oI CPow fun i j => .int (i * 2 ^ j.toNat)
theorem ok_shl : Ok2 (rI CPow fun i j => .int (i * 2 ^ j.toNat)) oShl := ok_I fun _ _ _ => .int _
abbrev oShr : O2 := oI (fun _ j => 0 ≤ j) fun i j => .int (i / 2 ^ j.toNat)
theorem ok_shr : Ok2 (rI (fun _ j => 0 ≤ j) fun i j => .int (i / 2 ^ j.toNat)) oShr := ok_I fun _ _ _ => .int _
abbrev oBand : O2 := oI0 fun i j => .int (Builtin.bitAnd i j)
theorem ok_band : Ok2 (rI0 fun i j => .int (Builtin.bitAnd i j)) oBand := ok_I0 fun _ _ _ => .int _
def oNeg : O1 := fun d k => match d with | .int i => k (.im (.int (-i))) | _ => False
theorem ok_neg : Ok1 (rU fun i => .int (-i)) oNeg := fun Z G ρ σ H v d k Q R t h q => by
  unfold oNeg at h
  split at h
  · rename_i i
    exact ⟨i, t.int, q (.im (.int (-i))) _ G H (.refl G) R (.int _) h⟩
  · exact h.elim

/-! ### comparisons -/
theorem vo_bl {G : Gs} {H : Hp} {ρ : List Cell} {σ : St} (b : Bool) : VlOk G H ρ σ (.im (.bool b)) (.bl b) := Dt.bl b
def ng : Bool → Bool → Bool
  | true, b => !b
  | false, b => b
mutual
theorem Dp.plain {K : PySem.W.Frag} {H : Hp} : ∀ {v : V} {d : D}, Dp K H v d → d.plain = true
  | _, _, .non => rfl
  | _, _, .bl _ => rfl
  | _, _, .int _ => rfl
  | _, _, .str _ => rfl
  | _, _, .lst _ t => by
    simp only [PyData.plain]
    exact DpAll.plain t
  | _, _, .tup _ t => by
    simp only [PyData.plain]
    exact DpAll.plain t
theorem DpAll.plain {K : PySem.W.Frag} {H : Hp} : ∀ {vs : List V} {ds : List D}, DpAll K H vs ds → PyData.plainAll ds = true
  | _, _, .nil => rfl
  | _, _, .cons h t => by
    rw [PyData.plainAll, Dp.plain h, DpAll.plain t]
    rfl
end
def rEqP (K : PySem.W.Frag) : R2 := fun x y H Q => ∃ d e, Dp K H x d ∧ Dp K H y e ∧ min d.depth e.depth ≤ 60 ∧ Q (.bl (PyData.eqv d e)) H
def rNeP (K : PySem.W.Frag) : R2 := fun x y H Q => ∃ d e, Dp K H x d ∧ Dp K H y e ∧ min d.depth e.depth ≤ 60 ∧ Q (.bl (!PyData.eqv d e)) H
theorem op_eqP (hu : X.A.units + 64 < cLine) : OpR X (compareOp .Eq) (rEqP X.K) := by
  intro pins s σ H x y v u Q I rx ry h
  obtain ⟨d, e, hd, he, hm, q⟩ := h
  obtain ⟨as, r1⟩ := Dp.reads I d x v hd rx
  obtain ⟨bs, r2⟩ := Dp.reads I e y u he ry
  exact SeqAt.eq_plain r1 r2 (Dp.plain hd) (Dp.plain he) (by omega) ⟨.bl _, H, I, rfl, q⟩
theorem op_neP (hu : X.A.units + 64 < cLine) : OpR X (compareOp .NotEq) (rNeP X.K) := by
  intro pins s σ H x y v u Q I rx ry h
  obtain ⟨d, e, hd, he, hm, q⟩ := h
  obtain ⟨as, r1⟩ := Dp.reads I d x v hd rx
  obtain ⟨bs, r2⟩ := Dp.reads I e y u he ry
  exact SeqAt.ne_plain r1 r2 (Dp.plain hd) (Dp.plain he) (by omega) ⟨.bl _, H, I, rfl, q⟩
/-- ==: scalars, or data that is not too deep -/
def oEq : O2 := fun d e k => match d, e with
  | .int i, .int j => k (.im (.bool (decide (i = j))))
  | .str i, .str j => k (.im (.bool (decide (i = j))))
  | .bool i, .bool j => k (.im (.bool (decide (i = j))))
  | d, e => min d.depth e.depth ≤ 60 ∧ k (.im (.bool (PyData.eqv d e)))
def oNe : O2 := fun d e k => match d, e with
  | .int i, .int j => k (.im (.bool (!decide (i = j))))
  | .str i, .str j => k (.im (.bool (!decide (i = j))))
  | .bool i, .bool j => k (.im (.bool (!decide (i = j))))
  | d, e => min d.depth e.depth ≤ 60 ∧ k (.im (.bool (!PyData.eqv d e)))
theorem op_eqX (hu : X.A.units + 64 < cLine) : OpR X (compareOp .Eq) (fun x y H Q => rEq x y H Q ∨ rEqP X.K x y H Q) := op_eq.or (op_eqP hu)
theorem op_neX (hu : X.A.units + 64 < cLine) : OpR X (compareOp .NotEq) (fun x y H Q => rNe x y H Q ∨ rNeP X.K x y H Q) := op_ne.or (op_neP hu)
theorem ok_eq {K : PySem.W.Frag} : Ok2 (fun x y H Q => rEq x y H Q ∨ rEqP K x y H Q) oEq := fun Z G ρ σ H v w d e k Q R t u h q => by
  unfold oEq at h
  split at h
  · rename_i i j
    cases t.int
    cases u.int
    refine .inl ⟨rfl, ?_⟩
    rw [show decide (V.int i = V.int j) = decide (i = j) by simp]
    exact q _ _ G H (.refl G) R (vo_bl _) h
  · rename_i i j
    cases t.str
    cases u.str
    refine .inl ⟨rfl, ?_⟩
    rw [show decide (V.str i = V.str j) = decide (i = j) by simp]
    exact q _ _ G H (.refl G) R (vo_bl _) h
  · rename_i i j
    cases t.bool
    cases u.bool
    refine .inl ⟨rfl, ?_⟩
    rw [show decide (V.bl i = V.bl j) = decide (i = j) by simp]
    exact q _ _ G H (.refl G) R (vo_bl _) h
  · exact .inr ⟨d, e, t.dp R.rc.same, u.dp R.rc.same, h.1, q _ _ G H (.refl G) R (vo_bl _) h.2⟩
theorem ok_ne {K : PySem.W.Frag} : Ok2 (fun x y H Q => rNe x y H Q ∨ rNeP K x y H Q) oNe := fun Z G ρ σ H v w d e k Q R t u h q => by
  unfold oNe at h
  split at h
  · rename_i i j
    cases t.int
    cases u.int
    refine .inl ⟨rfl, ?_⟩
    rw [show decide (V.int i = V.int j) = decide (i = j) by simp]
    exact q _ _ G H (.refl G) R (vo_bl _) h
  · rename_i i j
    cases t.str
    cases u.str
    refine .inl ⟨rfl, ?_⟩
    rw [show decide (V.str i = V.str j) = decide (i = j) by simp]
    exact q _ _ G H (.refl G) R (vo_bl _) h
  · rename_i i j
    cases t.bool
    cases u.bool
    refine .inl ⟨rfl, ?_⟩
    rw [show decide (V.bl i = V.bl j) = decide (i = j) by simp]
    exact q _ _ G H (.refl G) R (vo_bl _) h
  · exact .inr ⟨d, e, t.dp R.rc.same, u.dp R.rc.same, h.1, q _ _ G H (.refl G) R (vo_bl _) h.2⟩
abbrev oLtI : O2 := oI0 fun i j => .bool (decide (i < j))
abbrev oLeI : O2 := oI0 fun i j => .bool (decide (i ≤ j))
abbrev oGtI : O2 := oI0 fun i j => .bool (decide (j < i))
abbrev oGeI : O2 := oI0 fun i j => .bool (decide (j ≤ i))
theorem ok_ltI : Ok2 (rI0 fun i j => .bl (decide (i < j))) oLtI := ok_I0 fun _ _ _ => .bl _
theorem ok_leI : Ok2 (rI0 fun i j => .bl (decide (i ≤ j))) oLeI := ok_I0 fun _ _ _ => .bl _
theorem ok_gtI : Ok2 (rI0 fun i j => .bl (decide (j < i))) oGtI := ok_I0 fun _ _ _ => .bl _
theorem ok_geI : Ok2 (rI0 fun i j => .bl (decide (j ≤ i))) oGeI := ok_I0 fun _ _ _ => .bl _
/-- is None, is True -/
def isNone : D → Bool
  | .none => true
  | _ => false
theorem Tp.non_iff {B H : Hp} {v : V} {d : D} (t : Tp B H v d) : decide (v = .non) = isNone d := by
  cases d with
  | none => cases t; rfl
  | bool b => cases t; rfl
  | int b => cases t; rfl
  | str b => cases t; rfl
  | list b => obtain ⟨p, vs, rfl, _⟩ := t; rfl
  | tuple b => obtain ⟨p, vs, rfl, _⟩ := t.tup; rfl
  | dict b => cases t
def oIs (neg : Bool) : O2 := fun d e k => match e with
  | .none => k (.im (.bool (ng neg (isNone d))))
  | .bool b => match d with
    | .bool a => k (.im (.bool (ng neg (decide (a = b)))))
    | _ => False
  | _ => False
def rIsN : R2 := fun x y H Q => y = .non ∧ Q (.bl (decide (x = .non))) H
def rNotN : R2 := fun x y H Q => y = .non ∧ Q (.bl (!decide (x = .non))) H
theorem op_isX : OpR X (compareOp .Is) (fun x y H Q => rIsN x y H Q ∨ rIsB x y H Q) := op_isN.or op_isBl
theorem op_notX : OpR X (compareOp .IsNot) (fun x y H Q => rNotN x y H Q ∨ rNotB x y H Q) := op_notN.or op_notBl
theorem ok_is : Ok2 (fun x y H Q => rIsN x y H Q ∨ rIsB x y H Q) (oIs false) := fun Z G ρ σ H v w d e k Q R t u h q => by
  unfold oIs at h
  split at h
  · cases u
    refine .inl ⟨rfl, ?_⟩
    rw [t.non_iff]
    exact q (.im (.bool (ng false (isNone d)))) _ G H (.refl G) R (vo_bl _) h
  · split at h
    · cases t.bool
      cases u.bool
      rename_i b _ a
      exact .inr ⟨a, b, rfl, rfl, q (.im (.bool (ng false (decide (a = b))))) _ G H (.refl G) R (vo_bl _) h⟩
    · exact h.elim
  · exact h.elim
theorem ok_isnot : Ok2 (fun x y H Q => rNotN x y H Q ∨ rNotB x y H Q) (oIs true) := fun Z G ρ σ H v w d e k Q R t u h q => by
  unfold oIs at h
  split at h
  · cases u
    refine .inl ⟨rfl, ?_⟩
    rw [t.non_iff]
    exact q (.im (.bool (ng true (isNone d)))) _ G H (.refl G) R (vo_bl _) h
  · split at h
    · cases t.bool
      cases u.bool
      rename_i b _ a
      exact .inr ⟨a, b, rfl, rfl, q (.im (.bool (ng true (decide (a = b))))) _ G H (.refl G) R (vo_bl _) h⟩
    · exact h.elim
  · exact h.elim
/-- in a list or a tuple; one sign in a text -/
def oIn (neg : Bool) : O2 := fun d e k => match e with
  | .list ds => min (PyData.depthAll ds) d.depth ≤ 60 ∧ k (.im (.bool (ng neg (ds.any fun z => PyData.eqv z d))))
  | .tuple ds => min (PyData.depthAll ds) d.depth ≤ 60 ∧ k (.im (.bool (ng neg (ds.any fun z => PyData.eqv z d))))
  | .str z => match d with
    | .str x => match x.cps.toList with
      | [c] => k (.im (.bool (ng neg (decide (c ∈ z.cps.toList)))))
      | _ => False
    | _ => False
  | _ => False
def rInP (K : PySem.W.Frag) (neg : Bool) : R2 := fun x y H Q => (∃ d ds, Dp K H x d ∧ (Dp K H y (.list ds) ∨ Dp K H y (.tuple ds)) ∧ min (PyData.depthAll ds) d.depth ≤ 60 ∧ Q (.bl (ng neg (ds.any fun z => PyData.eqv z d))) H) ∨
  ∃ (c : Nat) (z : Str), x = .str ⟨#[c]⟩ ∧ y = .str z ∧ Q (.bl (ng neg (decide (c ∈ z.cps.toList)))) H
theorem op_inP (hu : X.A.units + 64 < cLine) : OpR X (compareOp .In) (rInP X.K false) := by
  intro pins s σ H x y v u Q I rx ry h
  rcases h with ⟨d, ds, hd, he, hm, q⟩ | h
  · obtain ⟨as, r1⟩ := Dp.reads I d x v hd rx
    rcases he with he | he
    · obtain ⟨bs, r2⟩ := Dp.reads I (.list ds) y u he ry
      exact SeqAt.in_list_data r2 r1 (by simpa [PyData.plain] using Dp.plain he) (Dp.plain hd) (by omega) ⟨.bl _, H, I, rfl, q⟩
    · obtain ⟨bs, r2⟩ := Dp.reads I (.tuple ds) y u he ry
      exact SeqAt.in_tuple_data r2 r1 (by simpa [PyData.plain] using Dp.plain he) (Dp.plain hd) (by omega) ⟨.bl _, H, I, rfl, q⟩
  · exact op_in_sign pins s σ H x y v u Q I rx ry h
theorem op_notinP (hu : X.A.units + 64 < cLine) : OpR X (compareOp .NotIn) (rInP X.K true) := by
  intro pins s σ H x y v u Q I rx ry h
  rcases h with ⟨d, ds, hd, he, hm, q⟩ | h
  · obtain ⟨as, r1⟩ := Dp.reads I d x v hd rx
    rcases he with he | he
    · obtain ⟨bs, r2⟩ := Dp.reads I (.list ds) y u he ry
      exact SeqAt.notIn_list_data r2 r1 (by simpa [PyData.plain] using Dp.plain he) (Dp.plain hd) (by omega) ⟨.bl _, H, I, rfl, q⟩
    · obtain ⟨bs, r2⟩ := Dp.reads I (.tuple ds) y u he ry
      exact SeqAt.notIn_tuple_data r2 r1 (by simpa [PyData.plain] using Dp.plain he) (Dp.plain hd) (by omega) ⟨.bl _, H, I, rfl, q⟩
  · exact op_notIn_sign pins s σ H x y v u Q I rx ry h
theorem ok_inP {K : PySem.W.Frag} {neg : Bool} : Ok2 (rInP K neg) (oIn neg) := fun Z G ρ σ H v w d e k Q R t u h q => by
  unfold oIn at h
  split at h
  · rename_i ds
    exact .inl ⟨d, ds, t.dp R.rc.same, .inl (u.dp R.rc.same), h.1, q _ _ G H (.refl G) R (vo_bl _) h.2⟩
  · rename_i ds
    exact .inl ⟨d, ds, t.dp R.rc.same, .inr (u.dp R.rc.same), h.1, q _ _ G H (.refl G) R (vo_bl _) h.2⟩
  · rename_i z
    split at h
    · rename_i x
      split at h
      · rename_i c ec
        have ex : x = ⟨#[c]⟩ := by
          obtain ⟨⟨l⟩⟩ := x
          have : l = [c] := ec
          rw [this]
        exact .inr ⟨c, z, by rw [t.str, ex], u.str, q _ _ G H (.refl G) R (vo_bl _) h⟩
      · exact h.elim
    · exact h.elim
  · exact h.elim
abbrev ok_in {K : PySem.W.Frag} := @ok_inP K false
abbrev ok_notin {K : PySem.W.Frag} := @ok_inP K true

/-! ### subscripts, slices -/
def oIx : O2 := fun d e k => match e with
  | .int i => match d with
    | .list ds => match atI ds i with | some x => k (.im x) | none => False
    | .tuple ds => match atI ds i with | some x => k (.im x) | none => False
    | .str z => z.length ≤ 16777216 ∧ match atI z.cps.toList i with | some c => k (.im (.str ⟨#[c]⟩)) | none => False
    | _ => False
  | _ => False
theorem DtA.atI {B : Hp} {vs : List V} {ds : List D} {i : Int} {d : D} (t : DtA B vs ds) (h : L2.atI ds i = some d) : ∃ v, L2.atI vs i = some v ∧ Dt B v d := by
  unfold L2.atI at h ⊢
  rw [t.length]
  cases e : ixN ds.length i with
  | none => rw [e] at h; cases h
  | some j =>
    rw [e] at h
    exact t.get h
theorem ok_ix {K : PySem.W.Frag} : Ok2 (rIx K) oIx := fun Z G ρ σ H v w d e k Q R t u h q => by
  unfold oIx at h
  split at h
  · rename_i i
    have eu := u.int
    split at h
    · rename_i ds
      obtain ⟨p, vs, rfl, hp, ta⟩ := t
      split at h
      · rename_i x ex
        obtain ⟨y, ey, ty⟩ := ta.atI ex
        exact .inl ⟨p, vs, i, y, rfl, eu, SqL.of hp, ey, q (.im x) _ G H (.refl G) R ty h⟩
      · exact h.elim
    · rename_i ds
      obtain ⟨p, vs, rfl, hp, ta⟩ := t.tup
      split at h
      · rename_i x ex
        obtain ⟨y, ey, ty⟩ := ta.atI ex
        exact .inr (.inl ⟨p, vs, i, y, rfl, eu, SqT.of (R.rc.same _ _ hp), ey, q (.im x) _ G H (.refl G) R ty h⟩)
      · exact h.elim
    · rename_i z
      obtain ⟨h1, h⟩ := h
      split at h
      · rename_i c ec
        exact .inr (.inr ⟨z, i, c, t.str, eu, h1, ec, q (.im (.str ⟨#[c]⟩)) _ G H (.refl G) R (.str _) h⟩)
      · exact h.elim
    · exact h.elim
  · exact h.elim
abbrev SO := Rho → (Option Int → Rho → Prop) → Prop
def tO (Z : Zx) (f : SO) : TO := fun σ H Q => ∃ G ρ Q', Rel Z G ρ σ H ∧ f ρ Q' ∧ ∀ o G' ρ' H', G.le G' → Rel Z G' ρ' σ H' → Q' o ρ' → Q o H'
def pNo : SO := fun ρ Q => Q none ρ
def pSome (f : SR) : SO := fun ρ Q => f ρ fun x ρ1 => rs x ρ1 fun d => match d with | .int i => Q (some i) ρ1 | _ => False
theorem PO.imp {e : Option Expr} {t t' : TO} (h : PO X e t) (i : ∀ σ H Q, t' σ H Q → t σ H Q) : PO X e t' := ⟨fun pins s σ H Q I q => h.run pins s σ H Q I (i σ H Q q)⟩
theorem eo_none : PO X none (tO Z pNo) := PO.imp po_none fun σ H Q ⟨G, ρ, Q', R, h, q⟩ => q none G ρ H (.refl G) R h
theorem eo_some {e : Expr} {f : SR} (he : PE X e (tR Z f)) : PO X (some e) (tO Z (pSome f)) := by
  refine PO.imp (po_some he) fun σ H Q ⟨G, ρ, Q', R, h, q⟩ => ⟨G, ρ, _, R, h, fun v G1 ρ1 H1 op le1 R1 oo hq => ?_⟩
  obtain ⟨d, t, hk⟩ := R1.rs oo hq
  split at hk
  · rename_i i
    exact ⟨i, t.int, q (some i) G1 ρ1 H1 le1 R1 hk⟩
  · exact hk.elim
/-- a cut by Python's bounds -/
def cutD {α : Type} (xs : List α) (lo hi : Option Int) : List α := (xs.drop (HT.sIx xs.length 0 lo)).take (HT.sIx xs.length xs.length hi - HT.sIx xs.length 0 lo)
def oSl (lo hi : Option Int) : O1 := fun d k => match d with
  | .list ds => k (.fr (cutD ds lo hi))
  | .tuple ds => ¬ (HT.sIx ds.length 0 lo = 0 ∧ HT.sIx ds.length ds.length hi = ds.length) ∧ k (.im (.tuple (cutD ds lo hi)))
  | .str z => z.length ≤ 16777216 ∧ k (.im (.str (cutS z lo hi)))
  | _ => False
def sSl (g : SR) (lo hi : SO) : SE := fun ρ Q => g ρ fun x ρ1 => lo ρ1 fun l ρ2 => hi ρ2 fun u ρ3 => rs x ρ3 fun d => oSl l u d fun v => Q v ρ3
theorem DtA.cut {B : Hp} {vs : List V} {ds : List D} (t : DtA B vs ds) (lo hi : Option Int) : DtA B (cutV vs lo hi) (cutD ds lo hi) := by
  unfold cutV cutD
  rw [t.length]
  exact (t.drop _).take _
theorem sl_any : SlR X (fun x lo hi H Q => rSlL X.K x lo hi H Q ∨ rSlT X.K x lo hi H Q ∨ rSlS x lo hi H Q) := sl_list.or (sl_tup.or sl_str)
theorem ev_slice {e : Expr} {lo hi : Option Expr} {g : SR} {sl sh : SO} {p2 pos : Pos} (he : PE X e (tR Z g)) (hl : PO X lo (tO Z sl)) (hu : PO X hi (tO Z sh)) : PE X (.Subscript e (.Slice lo hi none p2) pos) (tE Z (sSl g sl sh)) := by
  refine PE.imp (pe_slice sl_any he hl hu) fun σ H Q ⟨G, ρ, Q', R, h, q⟩ => ⟨G, ρ, _, R, h, fun v G1 ρ1 H1 op le1 R1 oo hq => ?_⟩
  refine ⟨G1, ρ1, _, R1, hq, fun l G2 ρ2 H2 le2 R2 hq2 => ⟨G2, ρ2, _, R2, hq2, fun u G3 ρ3 H3 le3 R3 hq3 => ?_⟩⟩
  obtain ⟨d, t, hk⟩ := R3.rs ((oo.mono le2).mono le3) hq3
  have le : G.le G3 := (le1.trans le2).trans le3
  unfold oSl at hk
  split at hk
  · rename_i ds
    obtain ⟨p, vs, rfl, hp, ta⟩ := t
    refine .inl ⟨p, vs, rfl, SqL.of hp, fun p3 h3 => ?_⟩
    obtain ⟨R4, vo⟩ := R3.frNew h3 (ta.cut l u)
    exact q _ G3 ρ3 _ _ le R4 vo hk
  · rename_i ds
    obtain ⟨p, vs, rfl, hp, ta⟩ := t.tup
    refine .inr (.inl ⟨p, vs, rfl, SqT.of (R3.rc.same _ _ hp), by rw [ta.length]; exact hk.1, fun p3 h3 => ?_⟩)
    obtain ⟨G4, le4, R4, e⟩ := R3.new (o := .tup (cutV vs l u)) h3
    exact q _ G4 ρ3 _ (.im (.tuple (cutD ds l u))) (le.trans le4) R4 (.tup e ((ta.cut l u).mono le4.same)) hk.2
  · rename_i z
    exact .inr (.inr ⟨z, t.str, hk.1, q _ G3 ρ3 H3 (.im (.str (cutS z l u))) le R3 (.str _) hk.2⟩)
  · exact hk.elim
end Dv

/-! DvF: readings by data: built-ins, methods, own lists changed. -/
namespace Dv
open PySem PySem.Spec L2
open PyProof.Rows hiding St

variable {Z : Zx} {X : Cx}

/-! ### built-ins of one and of two operands -/
section
variable {e e2 : Expr} {g h : SR} {x : Str} {p pos : Pos} {id T : String} {r : List V → Hp → VK → Prop}
theorem t_cb1 {o : O1} (ok : Ok1 (fun v H Q => r [v] H Q) o) : ∀ σ H Q, tE Z (s1 o g) σ H Q → tCB r (tCons (tR Z g) tNil) σ H Q := fun σ H Q q => t_un ok σ H Q q
theorem t_cb2 {o : O2} (ok : Ok2 (fun v w H Q => r [v, w] H Q) o) : ∀ σ H Q, tE Z (s2 o g h) σ H Q → tCB r (tCons (tR Z g) (tCons (tR Z h) tNil)) σ H Q := fun σ H Q q => t_op ok σ H Q q
theorem ev_b1 {o : O1} (hc : CallR X (.builtin id) r) (ok : Ok1 (fun v H Q => r [v] H Q) o) (hg : Gl X x) (hm : X.mg x = none) (hv : bootBuiltins x = some (.builtin id)) (he : PE X e (tR Z g)) (hn : x ≠ "__name__" := by decide) (hdb : (x == ("__debug__" : Str)) = false := by decide)
    (hs : starEach (e :: []) X.env = (false, eval e X.env) :: starEach [] X.env := by rfl) (hpl : (backTo pos (starEach [] X.env)).any (·.1) = false := by rfl) : PE X (.Call (.Name x p) [e] [] pos) (tE Z (s1 o g)) :=
  PE.imp (pe_callB hc hg hm hv (pa_cons he pa_nil hs) hn hdb hs hpl) (t_cb1 ok)
theorem ev_t1 {o : O1} (hc : CallR X (.type T) r) (ok : Ok1 (fun v H Q => r [v] H Q) o) (hg : Gl X x) (hm : X.mg x = none) (hv : bootBuiltins x = some (.type T)) (he : PE X e (tR Z g)) (hn : x ≠ "__name__" := by decide) (hdb : (x == ("__debug__" : Str)) = false := by decide)
    (hs : starEach (e :: []) X.env = (false, eval e X.env) :: starEach [] X.env := by rfl) (hpl : (backTo pos (starEach [] X.env)).any (·.1) = false := by rfl) : PE X (.Call (.Name x p) [e] [] pos) (tE Z (s1 o g)) :=
  PE.imp (pe_callTy hc hg hm hv (pa_cons he pa_nil hs) hn hdb hs hpl) (t_cb1 ok)
theorem ev_b2 {o : O2} (hc : CallR X (.builtin id) r) (ok : Ok2 (fun v w H Q => r [v, w] H Q) o) (hg : Gl X x) (hm : X.mg x = none) (hv : bootBuiltins x = some (.builtin id)) (he : PE X e (tR Z g)) (he2 : PE X e2 (tR Z h)) (hn : x ≠ "__name__" := by decide) (hdb : (x == ("__debug__" : Str)) = false := by decide)
    (hs : starEach (e :: [e2]) X.env = (false, eval e X.env) :: starEach [e2] X.env := by rfl) (hs2 : starEach (e2 :: []) X.env = (false, eval e2 X.env) :: starEach [] X.env := by rfl) (hpl : (backTo pos (starEach [e2] X.env)).any (·.1) = false := by rfl) : PE X (.Call (.Name x p) [e, e2] [] pos) (tE Z (s2 o g h)) :=
  PE.imp (pe_callB hc hg hm hv (pa_cons he (pa_cons he2 pa_nil hs2) hs) hn hdb hs hpl) (t_cb2 ok)
end
def oLen : O1 := fun d k => match d with
  | .list ds => k (.im (.int ds.length))
  | .tuple ds => k (.im (.int ds.length))
  | .str z => z.length ≤ 16777216 ∧ k (.im (.int z.length))
  | _ => False
theorem ok_len {K : PySem.W.Frag} : Ok1 (fun v H Q => (fun xs H Q => ∃ x n, xs = [x] ∧ LenV K x H n ∧ Q (.int n) H) [v] H Q) oLen := fun Z G ρ σ H v d k Q R t h q => by
  unfold oLen at h
  split at h
  · rename_i ds
    obtain ⟨p, vs, rfl, hp, ta⟩ := t
    exact ⟨_, ds.length, rfl, .inl ⟨vs, SqL.of hp, ta.length.symm⟩, q (.im (.int ds.length)) _ G H (.refl G) R (.int _) h⟩
  · rename_i ds
    obtain ⟨p, vs, rfl, hp, ta⟩ := t.tup
    exact ⟨_, ds.length, rfl, .inr ⟨vs, SqT.of (R.rc.same _ _ hp), ta.length.symm⟩, q (.im (.int ds.length)) _ G H (.refl G) R (.int _) h⟩
  · rename_i z
    cases t.str
    exact ⟨_, z.length, rfl, ⟨h.1, rfl⟩, q (.im (.int z.length)) _ G H (.refl G) R (.int _) h.2⟩
  · exact h.elim
def oAbs : O1 := fun d k => match d with | .int i => k (.im (.int (if i < 0 then -i else i))) | _ => False
theorem ok_abs : Ok1 (fun v H Q => (fun (xs : List V) (H : Hp) (Q : VK) => ∃ i, xs = [.int i] ∧ Q (.int (if i < 0 then -i else i)) H) [v] H Q) oAbs := fun Z G ρ σ H v d k Q R t h q => by
  unfold oAbs at h
  split at h
  · rename_i i
    cases t.int
    exact ⟨i, rfl, q (.im (.int (if i < 0 then -i else i))) _ G H (.refl G) R (.int _) h⟩
  · exact h.elim
def oInt : O1 := fun d k => match d with
  | .int i => k (.im (.int i))
  | .bool b => k (.im (.int (if b then 1 else 0)))
  | _ => False
theorem ok_int : Ok1 (fun v H Q => (fun (xs : List V) (H : Hp) (Q : VK) => (∃ i, xs = [.int i] ∧ Q (.int i) H) ∨ ∃ k, xs = [.bl k] ∧ Q (.int (if k then 1 else 0)) H) [v] H Q) oInt := fun Z G ρ σ H v d k Q R t h q => by
  unfold oInt at h
  split at h
  · rename_i i
    cases t.int
    exact .inl ⟨i, rfl, q (.im (.int i)) _ G H (.refl G) R (.int _) h⟩
  · rename_i b
    cases t.bool
    exact .inr ⟨b, rfl, q (.im (.int (if b then 1 else 0))) _ G H (.refl G) R (.int _) h⟩
  · exact h.elim
abbrev oMax2 : O2 := oI0 fun i j => .int (if j > i then j else i)
abbrev oMin2 : O2 := oI0 fun i j => .int (if j < i then j else i)
theorem ok_max2 : Ok2 (fun v w H Q => (fun (xs : List V) (H : Hp) (Q : VK) => ∃ i j, xs = [.int i, .int j] ∧ Q (.int (if j > i then j else i)) H) [v, w] H Q) oMax2 := fun Z G ρ σ H v w d e k Q R t u h q => by
  unfold oMax2 oI0 at h
  split at h
  · rename_i i j
    cases t.int
    cases u.int
    exact ⟨i, j, rfl, q (.im (.int (if j > i then j else i))) _ G H (.refl G) R (.int _) h⟩
  · exact h.elim
theorem ok_min2 : Ok2 (fun v w H Q => (fun (xs : List V) (H : Hp) (Q : VK) => ∃ i j, xs = [.int i, .int j] ∧ Q (.int (if j < i then j else i)) H) [v, w] H Q) oMin2 := fun Z G ρ σ H v w d e k Q R t u h q => by
  unfold oMin2 oI0 at h
  split at h
  · rename_i i j
    cases t.int
    cases u.int
    exact ⟨i, j, rfl, q (.im (.int (if j < i then j else i))) _ G H (.refl G) R (.int _) h⟩
  · exact h.elim
/-- a list of ints -/
abbrev dI (ns : List Int) : D := .list (ns.map .int)
theorem Tp.ints {B H : Hp} {v : V} {ns : List Int} (t : Tp B H v (dI ns)) : ∃ p, v = .ref p ∧ H p = some (.lst (ns.map V.int)) := by
  obtain ⟨p, vs, rfl, hp, ta⟩ := t
  rw [ta.ints] at hp
  exact ⟨p, rfl, hp⟩
def oSum : O1 := fun d k => ∃ ns : List Int, d = dI ns ∧ k (.im (.int ns.sum))
theorem ok_sum {K : PySem.W.Frag} : Ok1 (fun v H Q => rSum K [v] H Q) oSum := fun Z G ρ σ H v d k Q R t ⟨ns, e, h⟩ q => by
  subst e
  obtain ⟨p, rfl, hp⟩ := t.ints
  exact ⟨p, ns, rfl, SqL.of hp, q (.im (.int ns.sum)) _ G H (.refl G) R (.int _) h⟩
def oMax1 : O1 := fun d k => ∃ ns : List Int, d = dI ns ∧ 0 < ns.length ∧ ∀ m, m ∈ ns → (∀ y, y ∈ ns → y ≤ m) → k (.im (.int m))
theorem ok_max1 {K : PySem.W.Frag} : Ok1 (fun v H Q => rMax K [v] H Q) oMax1 := fun Z G ρ σ H v d k Q R t ⟨ns, e, h0, h⟩ q => by
  subst e
  obtain ⟨p, rfl, hp⟩ := t.ints
  exact ⟨p, ns, rfl, SqL.of hp, h0, fun m h1 h2 => q (.im (.int m)) _ G H (.refl G) R (.int _) (h m h1 h2)⟩
def oMin1 : O1 := fun d k => ∃ ns : List Int, d = dI ns ∧ 0 < ns.length ∧ ∀ m, m ∈ ns → (∀ y, y ∈ ns → m ≤ y) → k (.im (.int m))
theorem ok_min1 {K : PySem.W.Frag} : Ok1 (fun v H Q => rMin K [v] H Q) oMin1 := fun Z G ρ σ H v d k Q R t ⟨ns, e, h0, h⟩ q => by
  subst e
  obtain ⟨p, rfl, hp⟩ := t.ints
  exact ⟨p, ns, rfl, SqL.of hp, h0, fun m h1 h2 => q (.im (.int m)) _ G H (.refl G) R (.int _) (h m h1 h2)⟩
def oAll : O1 := fun d k => ∃ bs : List Bool, d = .list (bs.map .bool) ∧ k (.im (.bool (bs.all id)))
def oAny : O1 := fun d k => ∃ bs : List Bool, d = .list (bs.map .bool) ∧ k (.im (.bool (bs.any id)))
theorem ok_all {K : PySem.W.Frag} : Ok1 (fun v H Q => rAll K [v] H Q) oAll := fun Z G ρ σ H v d k Q R t ⟨bs, e, h⟩ q => by
  subst e
  obtain ⟨p, vs, rfl, hp, ta⟩ := t
  rw [ta.bls] at hp
  exact ⟨p, bs, rfl, SqL.of hp, q _ _ G H (.refl G) R (vo_bl _) h⟩
theorem ok_any {K : PySem.W.Frag} : Ok1 (fun v H Q => rAny K [v] H Q) oAny := fun Z G ρ σ H v d k Q R t ⟨bs, e, h⟩ q => by
  subst e
  obtain ⟨p, vs, rfl, hp, ta⟩ := t
  rw [ta.bls] at hp
  exact ⟨p, bs, rfl, SqL.of hp, q _ _ G H (.refl G) R (vo_bl _) h⟩
/-- sorted ints -/
def srt (ns : List Int) : List Int := ns.mergeSort fun a b => decide (a ≤ b)
theorem srt_perm (ns : List Int) : (srt ns).Perm ns := List.mergeSort_perm ns _
theorem srt_pw (ns : List Int) : (srt ns).Pairwise (· ≤ ·) := by
  have := List.pairwise_mergeSort (le := fun a b : Int => decide (a ≤ b)) (fun a b c h1 h2 => by simp at *; omega) (fun a b => by simp; omega) ns
  exact this.imp fun h => by simpa using h
theorem srt_eq {ns ms : List Int} (h1 : ms.Perm ns) (h2 : ms.Pairwise (· ≤ ·)) : ms = srt ns :=
  List.Perm.eq_of_pairwise (le := (· ≤ ·)) (fun a b _ _ h1 h2 => Int.le_antisymm h1 h2) h2 (srt_pw ns) (h1.trans (srt_perm ns).symm)
def oSorted : O1 := fun d k => ∃ ns : List Int, d = dI ns ∧ k (.fr ((srt ns).map .int))
theorem ok_sorted {K : PySem.W.Frag} : Ok1 (fun v H Q => rSortedI K [v] H Q) oSorted := fun Z G ρ σ H v d k Q R t ⟨ns, e, h⟩ q => by
  subst e
  obtain ⟨p, rfl, hp⟩ := t.ints
  refine ⟨p, ns, rfl, SqL.of hp, fun ns' p2 h1 h2 h3 => ?_⟩
  rw [srt_eq h1 h2]
  obtain ⟨R2, vo⟩ := R.frNew h3 (DtA.of_ints (B := G.B) (srt ns))
  exact q _ _ G _ (.refl G) R2 vo h
def oList : O1 := fun d k => match d with
  | .list ds => k (.fr ds)
  | .tuple ds => k (.fr ds)
  | _ => False
theorem ok_list {K : PySem.W.Frag} : Ok1 (fun v H Q => (fun xs H Q => ∃ p ys, xs = [.ref p] ∧ (SqL K H p ys ∨ SqT K H p ys) ∧ ∀ l, H l = none → Q (.ref l) (upd H l (.lst ys))) [v] H Q) oList := fun Z G ρ σ H v d k Q R t h q => by
  unfold oList at h
  split at h
  · rename_i ds
    obtain ⟨p, vs, rfl, hp, ta⟩ := t
    refine ⟨p, vs, rfl, .inl (SqL.of hp), fun l hl => ?_⟩
    obtain ⟨R2, vo⟩ := R.frNew hl ta
    exact q _ _ G _ (.refl G) R2 vo h
  · rename_i ds
    obtain ⟨p, vs, rfl, hp, ta⟩ := t.tup
    refine ⟨p, vs, rfl, .inr (SqT.of (R.rc.same _ _ hp)), fun l hl => ?_⟩
    obtain ⟨R2, vo⟩ := R.frNew hl ta
    exact q _ _ G _ (.refl G) R2 vo h
  · exact h.elim
def oTuple : O1 := fun d k => match d with
  | .list ds => k (.im (.tuple ds))
  | .tuple ds => k (.im (.tuple ds))
  | _ => False
theorem ok_tuple {K : PySem.W.Frag} : Ok1 (fun v H Q => (fun xs H Q => ∃ p ys, xs = [.ref p] ∧ ((SqL K H p ys ∧ ∀ l, H l = none → Q (.ref l) (upd H l (.tup ys))) ∨ (SqT K H p ys ∧ Q (.ref p) H))) [v] H Q) oTuple := fun Z G ρ σ H v d k Q R t h q => by
  unfold oTuple at h
  split at h
  · rename_i ds
    obtain ⟨p, vs, rfl, hp, ta⟩ := t
    refine ⟨p, vs, rfl, .inl ⟨SqL.of hp, fun l hl => ?_⟩⟩
    obtain ⟨G2, le, R2, e⟩ := R.new (o := .tup vs) hl
    exact q (.im (.tuple ds)) _ G2 _ le R2 (.tup e (ta.mono le.same)) h
  · rename_i ds
    obtain ⟨p, vs, rfl, hp, ta⟩ := t.tup
    exact ⟨p, vs, rfl, .inr ⟨SqT.of (R.rc.same _ _ hp), q (.im (.tuple ds)) _ G H (.refl G) R (.tup hp ta) h⟩⟩
  · exact h.elim
/-- list(range(..)) -/
def sLstRg (t : SDs) : SE := fun ρ Q => t ρ fun ds ρ1 => match ds with
  | [.int n] => RgOk 0 n ∧ Q (.fr (rngD 0 n.toNat)) ρ1
  | [.int i, .int j] => RgOk i j ∧ Q (.fr (rngD i (j - i).toNat)) ρ1
  | _ => False

/-! ### isinstance -/
def tyName : D → String
  | .none => "NoneType"
  | .bool _ => "bool"
  | .int _ => "int"
  | .str _ => "str"
  | .list _ => "list"
  | .tuple _ => "tuple"
  | .dict _ => "dict"
def isiT (n T : String) : Bool := decide (n = T) || (decide (n = "bool") && decide (T = "int"))
abbrev isiD (d : D) (T : String) : Bool := isiT (tyName d) T
theorem Tp.ty {K : PySem.W.Frag} {B H : Hp} (sm : Same B H) {v : V} {d : D} (t : Tp B H v d) : TyX K H v (.type (tyName d)) := by
  cases d with
  | none => cases t; exact .base .non
  | bool b => cases t; exact .base (.bl b)
  | int b => cases t; exact .base (.int b)
  | str b => cases t; exact .base (.str b)
  | list b =>
    obtain ⟨p, vs, rfl, hp, _⟩ := t
    exact .base (.lst hp)
  | tuple b =>
    obtain ⟨p, vs, rfl, hp, _⟩ := t.tup
    exact .base (.tup (sm _ _ hp))
  | dict b => cases t
def oIsi (T : String) : O1 := fun d k => k (.im (.bool (isiD d T)))
theorem kit_isi : ∀ n ∈ ["NoneType", "bool", "int", "str", "list", "tuple"], ∀ T ∈ ["int", "bool", "list", "tuple", "str"], kitB n T = some (isiT n T) := by decide +kernel
theorem ev_isi {e : Expr} {g : SR} {p p2 pos : Pos} (T : String) (hT : T ∈ ["int", "bool", "list", "tuple", "str"]) (hg : Gl X "isinstance") (hm : X.mg "isinstance" = none) (hg2 : Gl X (Str.ofString T)) (hm2 : X.mg (Str.ofString T) = none) (hv2 : bootBuiltins (Str.ofString T) = some (.type T)) (he : PE X e (tR Z g))
    (hn : (Str.ofString T) ≠ "__name__" := by decide) (hd : ((Str.ofString T) == ("__debug__" : Str)) = false := by decide)
    (hs : starEach (e :: [.Name (Str.ofString T) p2]) X.env = (false, eval e X.env) :: starEach [.Name (Str.ofString T) p2] X.env := by rfl) : PE X (.Call (.Name "isinstance" p) [e, .Name (Str.ofString T) p2] [] pos) (tE Z (s1 (oIsi T) g)) := by
  refine PE.imp (pe_callB call_isi hg hm (by decide +kernel) (pa_cons he (pa_cons (pe_bltn (v := .ty T) hg2 hm2 hv2 rfl hn hd) pa_nil (by rfl)) hs) (by decide) (by decide) hs (by rfl)) fun σ H Q ⟨G, ρ, Q', R, h, q⟩ => ⟨G, ρ, _, R, h, fun v G1 ρ1 H1 op le1 R1 oo hq => ?_⟩
  obtain ⟨d, t, hk⟩ := R1.rs oo hq
  refine ⟨v, .ty T, .type (tyName d), .type T, isiD d T, rfl, .ty T, t.ty R1.rc.same, kit_ty (kit_isi _ ?_ T hT), q _ G1 ρ1 H1 _ le1 R1 (vo_bl _) hk⟩
  cases d with
  | dict k => cases t
  | _ => simp [tyName]

/-! ### own lists changed -/
section
variable {G : Gs} {ρ : List Cell} {σ : St} {H : Hp} {i : Nat} {ds ds' : List D} {v : V}
/-- what is known of a slot's own list -/
theorem RelC.own (R : RelC G ρ σ H) (h : ρ[i]? = some (.mu ds)) (hv : σ[i]? = some (some v)) : ∃ p vs, v = .ref p ∧ H p = some (.lst vs) ∧ DtA G.B vs ds := by
  obtain ⟨p, vs, e, _, _, _, hp, t⟩ := R.cells i _ _ h hv
  cases e
  exact ⟨p, vs, rfl, hp, t⟩
theorem RelC.mut {p : Addr} {vs' : List V} (R : RelC G ρ σ H) (h : ρ[i]? = some (.mu ds)) (hv : σ[i]? = some (some (.ref p))) (t : DtA G.B vs' ds') : RelC G (ρ.set i (.mu ds')) σ (upd H p (.lst vs')) := by
  obtain ⟨p', vs, e, hB, h0, hf, hp, _⟩ := R.cells i _ _ h hv
  cases e
  have hr : NoPr G p := fun o e => (R.priv p o e).2.2.2.2 i ds h hv
  have R1 : RelC G (ρ.set i .un) σ H := R.weak (by simp) fun j c' e => by
    rcases getElem?_set_cases e with ⟨_, e2⟩ | ⟨_, e2⟩
    · exact .inl e2.symm
    · exact .inr e2
  have hm : NoMu (ρ.set i .un) σ p := fun j es e1 e2 => by
    rcases getElem?_set_cases e1 with ⟨_, e3⟩ | ⟨ne, e3⟩
    · cases e3
    · exact R.dist i j p ds es ne h e3 hv e2
  have R2 := R1.put (o := .lst vs') hB h0 hf hm hr
  refine ⟨R2.same, R2.same0, R2.old, R2.newB, by rw [← R2.len]; simp, fun j c x e1 e2 => ?_, fun j k q d1 d2 ne e1 e2 e3 e4 => ?_, R2.feed, fun q o e => ?_, R2.fa0⟩
  · rcases getElem?_set_cases e1 with ⟨e3, e4⟩ | ⟨ne, e3⟩
    · subst e3 e4
      rw [hv] at e2
      cases e2
      exact ⟨p, vs', rfl, hB, h0, hf, upd_same, t⟩
    · exact R2.cells j c x (by rw [List.getElem?_set_ne ne]; exact e3) e2
  · have key : ∀ a b d1, a ≠ b → i = a → (ρ.set i (.mu ds'))[b]? = some (.mu d1) → σ[a]? = some (some (.ref q)) → σ[b]? = some (some (.ref q)) → False := fun a b d1 nab ia hb ha hb2 => by
      subst ia
      rw [hv] at ha
      cases ha
      rcases getElem?_set_cases hb with ⟨z, _⟩ | ⟨_, hb'⟩
      · exact nab z
      · exact R.dist i b p ds d1 nab h hb' hv hb2
    rcases getElem?_set_cases e1 with ⟨e5, _⟩ | ⟨n1, e5⟩
    · exact key j k d2 ne e5 e2 e3 e4
    · rcases getElem?_set_cases e2 with ⟨e6, _⟩ | ⟨n2, e6⟩
      · exact key k j d1 (Ne.symm ne) e6 e1 e4 e3
      · exact R.dist j k q d1 d2 ne e5 e6 e3 e4
  · obtain ⟨h1, h2, h3, h4, h5⟩ := R2.priv q o e
    refine ⟨h1, h2, h3, h4, fun j es e1 => ?_⟩
    rcases getElem?_set_cases e1 with ⟨e5, e6⟩ | ⟨n1, e5⟩
    · subst e5
      intro z
      rw [hv] at z
      cases z
      exact hr o e
    · exact h5 j es (by rw [List.getElem?_set_ne n1]; exact e5)
end
/-- a method of a slot's own list: what becomes of the list, what is handed back -/
abbrev OM := List D → List D → (List D → Vl → Prop) → Prop
def sMeth (i : Nat) (t : SDs) (o : OM) : SE := fun ρ Q => (match ρ.c[i]? with | some (.mu _) => True | _ => False) ∧ t ρ fun as ρ1 => match ρ1.c[i]? with
  | some (.mu ds) => o ds as fun ds' r => Q r ⟨ρ1.c.set i (.mu ds'), ρ1.x⟩
  | _ => False
/-- what a method's rule of HandS must do -/
def OkM (r : V → List V → Hp → VK → Prop) (o : OM) : Prop := ∀ (B H : Hp) (p : Addr) (vs ws : List V) (ds as : List D) (k : List D → Vl → Prop) (Q : VK), Same B H → H p = some (.lst vs) → DtA B vs ds → DtA B ws as → o ds as k →
  (∀ vs' ds' v d, DtA B vs' ds' → Dt B v d → k ds' (.im d) → Q v (upd H p (.lst vs'))) → r (.ref p) ws H Q
theorem t_meth {i : Nat} {t : SDs} {o : OM} {r : V → List V → Hp → VK → Prop} {K : PySem.W.Frag} (ok : OkM r o) {ta : TA} (ha : ∀ σ H Q, tDs Z t σ H Q → ta σ H Q) :
    ∀ σ H Q, tE Z (sMeth i t o) σ H Q → tBM K "list" r (tVar i) ta σ H Q := fun σ H Q ⟨G, ρ, Q', R, ⟨h0, h⟩, q⟩ => by
  split at h0
  · rename_i ds0 e0
    have hi : i < σ.length := by rw [← R.rc.len]; exact (List.getElem?_eq_some_iff.mp e0).1
    obtain ⟨p, vs, e, _, _, _, hp, _⟩ := R.rc.cells i _ _ e0 (List.getElem?_eq_getElem hi)
    have hv : σ[i]? = some (some (.ref p)) := by rw [List.getElem?_eq_getElem hi, e]
    refine ⟨.ref p, hv, .inl ⟨rfl, vs, SqL.of hp⟩, ha σ H _ ⟨G, ρ, _, R, h, fun ws G1 ρ1 H1 as le1 R1 ta hq => ?_⟩⟩
    split at hq
    · rename_i ds e1
      obtain ⟨p', vs', e', hp', t'⟩ := R1.rc.own e1 hv
      cases e'
      exact ok G1.B H1 p vs' ws ds as _ Q R1.rc.same hp' t' ta hq fun vs2 ds2 v d t2 td hk => q v G1 _ _ (.im d) le1 (R1.up (.refl G1) (R1.rc.mut e1 hv t2)) td hk
    · exact hq.elim
  · exact h0.elim
section
variable {e : Expr} {es : List Expr} {name x : Str} {apos cpos p : Pos} {id : String} {r : V → List V → Hp → VK → Prop} {o : OM} {t : SDs}
theorem ev_meth (i : Nat) (pa : PlainAttrs "list") (slot : Slot "list" name id) (hty : typeOf (.builtin id) = pure (.type "method_descriptor")) (hm : MtR X id r) (ok : OkM r o) (ho : PE X (.Name x p) (tVar i)) (ha : PA X (e :: es) (tDs Z t))
    (hbase : attributeBase (.Name x p) name X.env (eval (.Name x p) X.env) = eval (.Name x p) X.env := by rfl)
    (hfew : ((backTo cpos (starEach (e :: es) X.env)).all (fun x => !x.1) && (backToKw cpos (keywordEach [] X.env)).all (fun x => x.1.isSome)
      && decide ((e :: es).length + ([] : List Keyword).length + (if ([] : List Keyword).isEmpty then 0 else 1) < 30)) = true := by rfl)
    (hline : (apos.endLine == cpos.line) = true := by rfl) (hs : starEach (e :: es) X.env = (false, eval e X.env) :: starEach es X.env := by rfl) (hplain : (backTo cpos (starEach es X.env)).any (·.1) = false := by rfl) :
    PE X (.Call (.Attribute (.Name x p) name apos) (e :: es) [] cpos) (tE Z (sMeth i t o)) :=
  PE.imp (pe_bm pa slot hty hm ho ha hbase hfew hline hs hplain) (t_meth ok fun σ H Q q => q)
theorem ev_meth0 (i : Nat) (pa : PlainAttrs "list") (slot : Slot "list" name id) (hty : typeOf (.builtin id) = pure (.type "method_descriptor")) (hm : MtR X id r) (ok : OkM r o) (ho : PE X (.Name x p) (tVar i))
    (hbase : attributeBase (.Name x p) name X.env (eval (.Name x p) X.env) = eval (.Name x p) X.env := by rfl) (hline : (apos.endLine == cpos.line) = true := by rfl) :
    PE X (.Call (.Attribute (.Name x p) name apos) [] [] cpos) (tE Z (sMeth i dNil o)) :=
  PE.imp (pe_bm0 pa slot hty hm ho hbase hline) fun σ H Q h => t_meth (K := X.K) (ta := tNil) ok (fun σ H Q ⟨G, ρ, Q', R, h, q⟩ => q [] G ρ H [] (.refl G) R .nil h) σ H Q h
end
def mAppend : OM := fun ds as k => match as with | [d] => ds.length < 16777216 ∧ k (ds ++ [d]) (.im .none) | _ => False
theorem ok_append : OkM rAppend mAppend := fun B H p vs ws ds as k Q sm hp t ta h q => by
  unfold mAppend at h
  split at h
  · cases ta with
    | cons h1 h2 =>
      cases h2
      exact ⟨p, vs, _, rfl, rfl, hp, by rw [t.length]; exact h.1, q _ _ _ .none (t.append (.cons h1 .nil)) .non h.2⟩
  · exact h.elim
def mExtend : OM := fun ds as k => match as with | [.list es] => ds.length + es.length ≤ 16777216 ∧ k (ds ++ es) (.im .none) | _ => False
theorem ok_extend : OkM rExtend mExtend := fun B H p vs ws ds as k Q sm hp t ta h q => by
  unfold mExtend at h
  split at h
  · cases ta with
    | cons h1 h2 =>
      cases h2
      cases h1 with
      | lst eB t1 => exact ⟨p, _, vs, _, rfl, rfl, hp, sm _ _ eB, by rw [t.length, t1.length]; exact h.1, q _ _ _ .none (t.append t1) .non h.2⟩
  · exact h.elim
def mPop : OM := fun ds as k => match as with | [] => (match ds[ds.length - 1]? with | some d => k ds.dropLast (.im d) | none => False) | _ => False
theorem ok_pop : OkM rPop mPop := fun B H p vs ws ds as k Q sm hp t ta h q => by
  unfold mPop at h
  split at h
  · cases ta
    split at h
    · rename_i d e
      obtain ⟨v, ev, tv⟩ := t.get e
      exact ⟨p, vs, v, rfl, rfl, hp, by rw [t.length]; exact ev, q _ _ v d t.dropLast tv h⟩
    · exact h.elim
  · exact h.elim
def mPopAt : OM := fun ds as k => match as with | [.int i] => (-(2 ^ 63) ≤ i ∧ i < 2 ^ 63) ∧ (match seqIndex? i ds.length with | some j => (match ds[j]? with | some d => k (ds.eraseIdx j) (.im d) | none => False) | none => False) | _ => False
theorem ok_popAt : OkM rPopAt mPopAt := fun B H p vs ws ds as k Q sm hp t ta h q => by
  unfold mPopAt at h
  split at h
  · cases ta with
    | cons h1 h2 =>
      cases h2
      cases h1
      obtain ⟨hb, h⟩ := h
      split at h
      · rename_i j ej
        split at h
        · rename_i d e
          obtain ⟨v, ev, tv⟩ := t.get e
          exact ⟨p, vs, _, j, v, rfl, rfl, hp, hb.1, hb.2, by rw [t.length]; exact ej, ev, q _ _ v d (t.eraseIdx j) tv h⟩
        · exact h.elim
      · exact h.elim
  · exact h.elim
def rInsert : V → List V → Hp → VK → Prop := fun x vs H Q => ∃ (l : Addr) (xs : List V) (i : Int) (y : V), x = .ref l ∧ vs = [.int i, y] ∧ H l = some (.lst xs) ∧ xs.length < sizeLine ∧ 0 ≤ i ∧ i < 2 ^ 63 ∧
    Q .non (upd H l (.lst (xs.take i.toNat ++ [y] ++ xs.drop i.toNat)))
theorem mt_insertD : MtR X "list.insert" rInsert := mt_insert
def mInsert : OM := fun ds as k => match as with | [.int i, d] => (ds.length < 16777216 ∧ 0 ≤ i ∧ i < 2 ^ 63) ∧ k (ds.take i.toNat ++ [d] ++ ds.drop i.toNat) (.im .none) | _ => False
theorem ok_insert : OkM rInsert mInsert := fun B H p vs ws ds as k Q sm hp t ta h q => by
  unfold mInsert at h
  split at h
  · cases ta with
    | cons h1 h2 =>
      cases h1
      cases h2 with
      | cons h3 h4 =>
        cases h4
        exact ⟨p, vs, _, _, rfl, rfl, hp, by rw [t.length]; exact h.1.1, h.1.2.1, h.1.2.2, q _ _ _ .none (((t.take _).append (.cons h3 .nil)).append (t.drop _)) .non h.2⟩
  · exact h.elim
end Dv

/-! DvG: readings by data: stores into own lists, op=, ranges as values. -/
namespace Dv
open PySem PySem.Spec L2
open PyProof.Rows hiding St

variable {Z : Zx} {X : Cx}

theorem RelC.slotV {G : Gs} {ρ : List Cell} {σ : St} {H : Hp} {i : Nat} {c : Cell} (R : RelC G ρ σ H) (h : ρ[i]? = some c) (hc : c ≠ .un) : ∃ v, σ[i]? = some (some v) := by
  have hi : i < σ.length := by rw [← R.len]; exact (List.getElem?_eq_some_iff.mp h).1
  have := R.cells i _ _ h (List.getElem?_eq_getElem hi)
  rw [List.getElem?_eq_getElem hi]
  cases c with
  | un => exact absurd rfl hc
  | im d => obtain ⟨v, e, _⟩ := this; exact ⟨v, by rw [e]⟩
  | mu d => obtain ⟨p, vs, e, _⟩ := this; exact ⟨_, by rw [e]⟩
  | fd => obtain ⟨p, e, _⟩ := this; exact ⟨_, by rw [e]⟩

/-! ### xs[k] = e -/
def sSetIx (i : Nat) (f : SE) (g : SR) : SS := fun ρ E => f ρ fun v ρ1 => fz v fun d => (match ρ1.c[i]? with | some (.mu _) => True | _ => False) ∧ g ρ1 fun x ρ2 => rs x ρ2 fun e => match e with
  | .int k => match ρ2.c[i]? with
    | some (.mu ds) => match ixN ds.length k with
      | some j => E.nx ⟨ρ2.c.set i (.mu (ds.set j d)), ρ2.x⟩
      | none => False
    | _ => False
  | _ => False
theorem es_setIx {e ix : Expr} {x : Str} {p pos pos' : Pos} {f : SE} {g : SR} (i : Nat) (he : PE X e (tE Z f)) (ho : PE X (.Name x p) (tVar i)) (hi : PE X ix (tR Z g))
    (ha : ∀ v, assign (.Subscript (.Name x p) ix pos') X.env v = (do
      let ov ← holding [v] (eval (.Name x p) X.env)
      let iv ← holding [v, ov] (eval ix X.env)
      standAt pos'
      holding [v, ov, iv] (setItem ov iv v)
      release [v, ov, iv] []) := by intro _; rfl)
    (hs : swapsWithSole [.Subscript (.Name x p) ix pos'] e pos.line X.env = pure false := by rfl) (hw : swappedStores [.Subscript (.Name x p) ix pos'] e X.env = pure none := by rfl)
    (h1 : (assignEach [.Subscript (.Name x p) ix pos'] X.env).map (·.2) = [assign (.Subscript (.Name x p) ix pos') X.env] := by rfl) :
    PS X (.Assign [.Subscript (.Name x p) ix pos'] e pos) (tS Z (sSetIx i f g)) := by
  refine PS.imp (ps_asg he (pg_sub ho hi set_list ha) hs hw h1) fun D σ H ⟨G, ρ, E, R, h, l⟩ => ⟨G, ρ, _, R, h, fun v G1 ρ1 H1 val le1 R1 vo hq => ?_⟩
  obtain ⟨G2, d, le2, R2, td, h0, hq⟩ := R1.fz vo hq
  split at h0
  · rename_i ds0 e0
    obtain ⟨u, hu⟩ := R2.rc.slotV e0 (by simp)
    refine ⟨u, hu, G2, ρ1, _, R2, hq, fun w G3 ρ3 H3 op le3 R3 oo hk => ?_⟩
    obtain ⟨ek, tk, hk⟩ := R3.rs oo hk
    split at hk
    · rename_i k
      split at hk
      · rename_i ds e1
        obtain ⟨p', vs, e', hp, t⟩ := R3.rc.own e1 hu
        subst e'
        split at hk
        · rename_i j ej
          exact ⟨p', vs, k, j, rfl, tk.int, hp, by rw [t.length]; exact ej, l.nx G3 _ σ _ ((le1.trans le2).trans le3) (R3.up (.refl G3) (R3.rc.mut e1 hu (DtA.set (td.mono le3.same) j t))) hk⟩
        · exact hk.elim
      · exact hk.elim
    · exact hk.elim
  · exact h0.elim

/-! ### xs[k] op= e -/
def rGetL (K : PySem.W.Frag) : V → V → Hp → VK → Prop := fun o i H Q => ∃ p xs k v, o = .ref p ∧ i = .int k ∧ SqL K H p xs ∧ atI xs k = some v ∧ Q v H
theorem get_list : PGet X (rGetL X.K) := by
  intro pins s σ H o i ov iv Q I ro ri h
  obtain ⟨p, xs, k, z, rfl, rfl, hq, he, q⟩ := h
  cases ro
  obtain ⟨t, rfl⟩ := ri
  obtain ⟨its, r, pl, hz⟩ := I.list hq
  obtain ⟨j, h1, h2, h3, h4, h5⟩ := atI_get he
  obtain ⟨w, ew, rw'⟩ := r.get h2
  have hl := r.length
  have hn := line63
  have fin : EP X pins σ Q w s := ⟨z, H, I, rw', q⟩
  by_cases h0 : 0 ≤ k
  · have hj : k.toNat = j := by
      rw [seqIndex_of h0 h5] at h1
      exact Option.some.inj h1
    exact wpAny_getItem_list pl.isList h0 (by omega) (by rw [hj]; simpa using ew) fin
  · have hj : (k + (its.toArray.size : Int)).toNat = j := by
      rw [seqIndex_neg (by omega) h4] at h1
      rw [List.size_toArray, ← hl]
      exact Option.some.inj h1
    exact wpAny_getItem_list_neg pl.isList (by omega) (by rw [List.size_toArray] <;> omega) (by omega) (by rw [hj]; simpa using ew) fin
def sAugIx (i : Nat) (g : SR) (f : SE) (o : Int → Int → Int) : SS := fun ρ E => (match ρ.c[i]? with | some (.mu _) => True | _ => False) ∧ g ρ fun x ρ1 => rs x ρ1 fun e => match e with
  | .int k => match ρ1.c[i]? with
    | some (.mu ds) => match atI ds k with
      | some (.int a) => f ρ1 fun v ρ2 => fz v fun b => match b with
        | .int b => match ρ2.c[i]? with
          | some (.mu ds) => match ixN ds.length k with
            | some j => E.nx ⟨ρ2.c.set i (.mu (ds.set j (.int (o a b)))), ρ2.x⟩
            | none => False
          | _ => False
        | _ => False
      | _ => False
    | _ => False
  | _ => False
theorem es_augIx {e ix : Expr} {x : Str} {p pos pos' : Pos} {f : SE} {g : SR} {op : Operator} {o : Int → Int → Int} (i : Nat) (hp : PIp X op (ipI o)) (ho : PE X (.Name x p) (tVar i)) (hi : PE X ix (tR Z g)) (he : PE X e (tE Z f))
    (ha : ∀ ov iv new, augStore ix ov iv new = (do holding [new, ov, iv] (setItem ov iv new); release [new, ov, iv] []; pure .next) := by intros; rfl) :
    PS X (.AugAssign (.Subscript (.Name x p) ix pos') op e pos) (tS Z (sAugIx i g f o)) := by
  refine PS.imp (ps_augS ho hi get_list he hp set_list ha) fun D σ H ⟨G, ρ, E, R, ⟨h0, h⟩, l⟩ => ?_
  split at h0
  · rename_i ds0 e0
    obtain ⟨u, hu⟩ := R.rc.slotV e0 (by simp)
    refine ⟨u, hu, G, ρ, _, R, h, fun w G1 ρ1 H1 opd le1 R1 oo hk => ?_⟩
    obtain ⟨ek, tk, hk⟩ := R1.rs oo hk
    split at hk
    · rename_i k
      split at hk
      · rename_i ds e1
        obtain ⟨p', vs, e', hp', t⟩ := R1.rc.own e1 hu
        subst e'
        split at hk
        · rename_i a ea
          obtain ⟨av, eav, ta⟩ := t.atI ea
          cases ta
          refine ⟨p', vs, k, _, rfl, tk.int, SqL.of hp', eav, G1, ρ1, _, R1, hk, fun v G2 ρ2 H2 val le2 R2 vo hq => ?_⟩
          obtain ⟨G3, b, le3, R3, tb, hq⟩ := R2.fz vo hq
          split at hq
          · rename_i b
            cases tb
            split at hq
            · rename_i ds2 e2
              obtain ⟨p2, vs2, e', hp2, t2⟩ := R3.rc.own e2 hu
              cases e'
              split at hq
              · rename_i j ej
                refine ⟨a, b, rfl, rfl, p', vs2, k, j, rfl, tk.int, hp2, by rw [t2.length]; exact ej, ?_⟩
                exact l.nx G3 _ σ _ ((le1.trans le2).trans le3) (R3.up (.refl G3) (R3.rc.mut e2 hu (DtA.set (.int _) j t2))) hq
              · exact hq.elim
            · exact hq.elim
          · exact hq.elim
        · exact hk.elim
      · exact hk.elim
    · exact hk.elim
  · exact h0.elim

/-! ### name op= e -/
def sAug (i : Nat) (o : O2) (f : SE) : SS := fun ρ E => match ρ.c[i]? with
  | some (.im d) => f ρ fun v ρ1 => fz v fun e => o d e fun r => E.nx ⟨ρ1.c.set i (cellOf r), ρ1.x⟩
  | _ => False
theorem es_aug {e : Expr} {x : Str} {pos pos' : Pos} {f : SE} {op : Operator} {o : O2} {r : R2} (i : Nat) (hN : X.N.Nodup) (hop : OpR X (inplaceOp op) r) (ok : Ok2 r o) (he : PE X e (tE Z f)) (hi : X.N[i]? = some x := by rfl) (hx : Loc X.env.scope x := by first | exact Or.inl rfl | exact Or.inr rfl)
    (hf : X.fn x = true ∨ X.env.scope.names.lookup x = some .local := by first | exact .inl rfl | exact .inr rfl) : PS X (.AugAssign (.Name x pos') op e pos) (tS Z (sAug i o f)) := by
  refine PS.imp (ps_aug (i := i) hN hi hx he (ti := r) hop hf) fun D σ H ⟨G, ρ, E, R, h, l⟩ => ?_
  unfold sAug at h
  split at h
  · rename_i d e0
    have hi : i < σ.length := by rw [← R.rc.len]; exact (List.getElem?_eq_some_iff.mp e0).1
    obtain ⟨v, ev, td⟩ := R.rc.cells i _ _ e0 (List.getElem?_eq_getElem hi)
    refine ⟨v, by rw [List.getElem?_eq_getElem hi, ev], G, ρ, _, R, h, fun w G1 ρ1 H1 val le1 R1 vo hq => ?_⟩
    obtain ⟨G2, e', le2, R2, te, hq⟩ := R1.fz vo hq
    refine ok Z G2 ρ1 σ H1 v w d e' _ _ R2 (.of R2.rc.same ((td.mono le1.same).mono le2.same)) (.of R2.rc.same te) hq fun val v' G' H' le R' vo hv => ?_
    exact l.nx G' _ _ H' ((le1.trans le2).trans le) (R'.up (.refl G') (R'.rc.store i vo)) hv
  · exact h.elim
def oAddI : O2 := fun d e k => match d, e with
  | .int i, .int j => k (.im (.int (i + j)))
  | .str a, .str b => a.length + b.length ≤ 16777216 ∧ k (.im (.str (a ++ b)))
  | _, _ => False
theorem iop_addD : OpR X (inplaceOp .Add) (fun x y H Q => rI0 (fun i j => .int (i + j)) x y H Q ∨ rStrAdd x y H Q) := iop_add.or iop_add_str
theorem ok_addI : Ok2 (fun x y H Q => rI0 (fun i j => .int (i + j)) x y H Q ∨ rStrAdd x y H Q) oAddI := fun Z G ρ σ H v w d e k Q R t u h q => by
  unfold oAddI at h
  split at h
  · rename_i i j
    exact .inl ⟨i, j, t.int, u.int, q (.im (.int (i + j))) _ G H (.refl G) R (.int _) h⟩
  · rename_i a b
    exact .inr ⟨a, b, t.str, u.str, h.1, q (.im (.str (a ++ b))) _ G H (.refl G) R (.str _) h.2⟩
  · exact h.elim

/-! ### ranges as values -/
abbrev SRg := Rho → (Int → Int → Rho → Prop) → Prop
def tRgD (Z : Zx) (f : SRg) : St → Hp → (Int → Int → Hp → Prop) → Prop := fun σ H Q => ∃ G ρ Q', Rel Z G ρ σ H ∧ f ρ Q' ∧ ∀ a b G' ρ' H', G.le G' → Rel Z G' ρ' σ H' → Q' a b ρ' → Q a b H'
def sI (f : SE) (k : Int → Rho → Prop) : Rho → Prop := fun ρ => f ρ fun v ρ1 => fz v fun d => match d with | .int i => k i ρ1 | _ => False
def sRg1 (f : SE) : SRg := fun ρ Q => sI f (fun i ρ1 => Q 0 i ρ1) ρ
def sRg2 (f g : SE) : SRg := fun ρ Q => sI f (fun i ρ1 => sI g (fun j ρ2 => Q i j ρ2) ρ1) ρ
theorem PRg.imp {e : Expr} {t t' : St → Hp → (Int → Int → Hp → Prop) → Prop} (h : PRg X e t) (i : ∀ σ H Q, t' σ H Q → t σ H Q) : PRg X e t' := fun pins s σ H Q I q => h pins s σ H Q I (i σ H Q q)
theorem sI_ok {f : SE} {G : Gs} {ρ : Rho} {σ : St} {H : Hp} {k : Int → Rho → Prop} {Q : VK} (R : Rel Z G ρ σ H) (h : sI f k ρ) (q : ∀ i G' ρ' H', G.le G' → Rel Z G' ρ' σ H' → k i ρ' → Q (.int i) H') : tE Z f σ H Q := by
  refine ⟨G, ρ, _, R, h, fun v G1 ρ1 H1 val le1 R1 vo hq => ?_⟩
  obtain ⟨G2, d, le2, R2, td, hq⟩ := R1.fz vo hq
  split at hq
  · cases td
    exact q _ G2 ρ1 H1 (le1.trans le2) R2 hq
  · exact hq.elim
theorem eg_1 {a : Expr} {f : SE} {p pos : Pos} (hg : Gl X "range") (hm : X.mg "range" = none) (ha : PE X a (tE Z f)) (na : starEach [a] X.env = (false, eval a X.env) :: starEach [] X.env := by rfl) : PRg X (.Call (.Name "range" p) [a] [] pos) (tRgD Z (sRg1 f)) :=
  PRg.imp (prg_1 hg hm ha na) fun σ H Q ⟨G, ρ, Q', R, h, q⟩ => sI_ok R h fun i G' ρ' H' le R' hk => ⟨i, rfl, q 0 i G' ρ' H' le R' hk⟩
theorem eg_2 {a b : Expr} {f g : SE} {p pos : Pos} (hg : Gl X "range") (hm : X.mg "range" = none) (ha : PE X a (tE Z f)) (hb : PE X b (tE Z g)) (na : starEach [a, b] X.env = (false, eval a X.env) :: starEach [b] X.env := by rfl) (nb : starEach [b] X.env = (false, eval b X.env) :: starEach [] X.env := by rfl) (hp : (backTo pos (starEach [b] X.env)).any (·.1) = false := by rfl) :
    PRg X (.Call (.Name "range" p) [a, b] [] pos) (tRgD Z (sRg2 f g)) :=
  PRg.imp (prg_2 hg hm ha hb na nb hp) fun σ H Q ⟨G, ρ, Q', R, h, q⟩ => sI_ok R h fun i G' ρ' H' le R' hk => sI_ok R' hk fun j G2 ρ2 H2 le2 R2 hk2 => ⟨i, j, rfl, rfl, q i j G2 ρ2 H2 (le.trans le2) R2 hk2⟩
theorem rgV_dt {B : Hp} (a : Int) (n : Nat) : DtA B ((List.range n).map fun i => V.int (a + (i : Nat))) (rngD a n) := by
  unfold rngD
  generalize List.range n = l
  induction l with
  | nil => exact .nil
  | cons x r ih => exact .cons (.int _) ih
def sLstR (f : SRg) : SE := fun ρ Q => f ρ fun a b ρ1 => RgOk a b ∧ Q (.fr (rngD a (b - a).toNat)) ρ1
theorem ev_listRg {e : Expr} {f : SRg} {p pos : Pos} (hc : X.calm = true) (hg : Gl X "list") (hm : X.mg "list" = none) (he : PRg X e (tRgD Z f)) (na : starEach [e] X.env = (false, eval e X.env) :: starEach [] X.env := by rfl) : PE X (.Call (.Name "list" p) [e] [] pos) (tE Z (sLstR f)) := by
  refine PE.imp (pe_listRg hc hg hm he na) fun σ H Q ⟨G, ρ, Q', R, h, q⟩ => ⟨G, ρ, _, R, h, fun a b G1 ρ1 H1 le1 R1 ⟨ok, hq⟩ => ⟨ok, fun p hp => ?_⟩⟩
  obtain ⟨R2, vo⟩ := R1.frNew hp (rgV_dt (B := G1.B) a (b - a).toNat)
  exact q _ G1 ρ1 _ _ le1 R2 vo hq
def sRevR (f : SRg) : SI := fun ρ Q => f ρ fun a b ρ1 => (-(2 ^ 62) ≤ a ∧ a < 2 ^ 62 ∧ -(2 ^ 62) ≤ b ∧ b < 2 ^ 62) ∧ Q (rngCD (a + (((b - a).toNat : Nat) : Int) - 1) (-1) (b - a).toNat) ρ1
theorem ei_revR {tg e : Expr} {f : SRg} {p pos : Pos} (hg : Gl X "reversed") (hm : X.mg "reversed" = none) (he : PRg X e (tRgD Z f)) (hs : starEach [e] X.env = (false, eval e X.env) :: starEach [] X.env := by rfl) : PI X tg (.Call (.Name "reversed" p) [e] [] pos) (tI Z (sRevR f)) :=
  PI.imp (pi_revR hg hm he hs) fun σ H Rx ⟨G, ρ, Q', R, h, q⟩ => ⟨G, ρ, _, R, h, fun a b G1 ρ1 H1 le1 R1 ⟨⟨h1, h2, h3, h4⟩, hq⟩ => ⟨h1, h2, h3, h4, q _ G1 ρ1 H1 _ le1 R1 src_rngC hq⟩⟩

/-! ### a def of the text, for its callers -/
def Cal (P : Program) (w : World) (K : PySem.W.Frag) (mg : Str → Option Value) (base : Heap) (CX : CXT) (k : Nat) (x : Str) (ps : List Str) (XL : XW) (F : Fn) : Prop :=
  ∃ (f : Addr) (fd : FuncData), FnOk P w K mg base CX k f fd ps (spD XL F) ∧ mg x = some (.ref f) ∧ PySem.W.keepIn K (.ref f) = true ∧ Binds K fd ps []
theorem ev_callC {XL : XW} {F : Fn} {k j : Nat} {ps : List Str} {x : Str} {p pos : Pos} {e : Expr} {es : List Expr} {a : SA} (C : Cal X.prog X.w X.K X.mg X.base CX0 k x ps XL F) (hr : Room j X.A) (hg : Gl X x)
    (ha : PA X (e :: es) (tA Z a)) (hj : k ≤ j := by decide) (hdb : (x == ("__debug__" : Str)) = false := by decide) (he : starEach (e :: es) X.env = (false, eval e X.env) :: starEach es X.env := by rfl) (hpl : (backTo pos (starEach es X.env)).any (·.1) = false := by rfl) :
    PE X (.Call (.Name x p) (e :: es) [] pos) (tE Z (sCall F a)) := by
  obtain ⟨f, fd, G, m, kp, b⟩ := C
  exact ev_call G (hr.mono hj) hg m kp b ha hdb he hpl
/-- a module's int -/
def GInt (mg : Str → Option Value) (x : Str) (i : Int) : Prop := ∃ t, mg x = some (.int i t)
theorem ev_gi {x : Str} {i : Int} {pos : Pos} (hg : Gl X x) (h : GInt X.mg x i) (hd : (x == ("__debug__" : Str)) = false := by decide) : PE X (.Name x pos) (tE Z (sC (.int i))) := by
  obtain ⟨t, h⟩ := h
  exact ev_glob (v := .int i) hg h ⟨t, rfl⟩ (fun _ => .int i) hd
end Dv

/-! DvH: three comparisons in a row; the feed. -/
namespace Dv
open PySem PySem.Spec L2
open PyProof.Rows hiding St

variable {Z : Zx} {X : Cx}
theorem hu65_of {A : Around} {k : Nat} (hr : Room k A) : A.units + 65 < cLine := by have := hr.un; omega
section
variable {a b c d : Expr} {ta tb tc td : TE} {pos : Pos} {g h l m : SR}
def tChain3 (r r' r'' : R2) (ta tb tc td : TE) : TE := fun σ H Q => ta σ H fun x H1 => tb σ H1 fun y H2 => r x y H2 fun z H3 => ∃ k, z = .bl k ∧
  (if k = true then tc σ H3 fun w' H4 => r' y w' H4 fun z2 H5 => ∃ k2, z2 = .bl k2 ∧ (if k2 = true then td σ H5 fun w2 H6 => r'' w' w2 H6 Q else Q (.bl false) H5) else Q (.bl false) H3)
theorem pt_chain3 {op op' op'' : CmpOp} {r r' r'' : R2} (ho : OpR X (compareOp op) r) (ho' : OpR X (compareOp op') r') (ho'' : OpR X (compareOp op'') r'') (ha : PE X a ta) (hb : PE X b tb) (hc : PE X c tc) (hd : PE X d td)
    (hm : lastMarks [op, op', op''] [b, c, d] = false := by with_unfolding_all rfl) : PT X (.Compare a [op, op', op''] [b, c, d] pos) (tTest (tChain3 r r' r'' ta tb tc td)) := by
  refine ⟨fun pins s σ H Q I h => ?_⟩
  refine isTrue_chain (thn (ha.run pins s σ H _ I h) fun v s1 ⟨x, H1, I1, r1, q1⟩ => test_link (thn (hb.run pins s1 σ H1 _ I1 q1) fun u s2 ⟨y, H2, I2, r2, q2⟩ =>
    thn (ho pins s2 σ H2 x y v u _ I2 r1 r2 q2) fun d s3 ⟨z, H3, I3, r3, k, e, q3⟩ => ?_)) hm
  subst e
  cases r3
  refine wpAny_truthy_bool ?_
  cases k with
  | false =>
    obtain ⟨k', e', q'⟩ := q3
    cases e'
    exact ite_ff ⟨H3, I3, q'⟩
  | true =>
    refine ite_tt (test_link (thn (hc.run pins s3 σ H3 _ I3 q3) fun w' s4 ⟨z', H4, I4, r4, q4⟩ => thn (ho' pins s4 σ H4 y z' u w' _ I4 r2 r4 q4) fun d' s5 ⟨z2, H5, I5, r5, k2, e2, q5⟩ => ?_))
    subst e2
    cases r5
    refine wpAny_truthy_bool ?_
    cases k2 with
    | false =>
      obtain ⟨k', e', q'⟩ := q5
      cases e'
      exact ite_ff ⟨H5, I5, q'⟩
    | true =>
      refine ite_tt (test_last (thn (hd.run pins s5 σ H5 _ I5 q5) fun w2 s6 ⟨z3, H6, I6, r6, q6⟩ => thn (ho'' pins s6 σ H6 z' z3 w' w2 _ I6 r4 r6 q6) fun d2 s7 ⟨z4, H7, I7, r7, k3, e3, q7⟩ => ?_))
      subst e3
      cases r7
      exact wpAny_truthy_bool ⟨H7, I7, q7⟩
def s4 (o o' o'' : O2) (g h l m : SR) : SE := fun ρ Q => g ρ fun x ρ1 => h ρ1 fun y ρ2 => rs x ρ2 fun d => rs y ρ2 fun e => o d e fun v => match v with
  | .im (.bool true) => l ρ2 fun z ρ3 => rs y ρ3 fun e' => rs z ρ3 fun f => o' e' f fun v => (match v with
    | .im (.bool true) => m ρ3 fun u ρ4 => rs z ρ4 fun f' => rs u ρ4 fun g' => o'' f' g' fun v => Q v ρ4
    | .im (.bool false) => Q (.im (.bool false)) ρ3
    | _ => False)
  | .im (.bool false) => Q (.im (.bool false)) ρ2
  | _ => False
theorem t_chain3 {r r' r'' : R2} {o o' o'' : O2} (ok : Ok2 r o) (ok' : Ok2 r' o') (ok'' : Ok2 r'' o'') {g h l m : SR} : ∀ σ H Q, tE Z (s4 o o' o'' g h l m) σ H Q → tChain3 r r' r'' (tR Z g) (tR Z h) (tR Z l) (tR Z m) σ H Q := fun σ H Q ⟨G, ρ, Q', R, hh, q⟩ => by
  refine ⟨G, ρ, _, R, hh, fun v G1 ρ1 H1 op1 le1 R1 oo1 hq1 => ?_⟩
  refine ⟨G1, ρ1, _, R1, hq1, fun w G2 ρ2 H2 op2 le2 R2 oo2 hq2 => ?_⟩
  obtain ⟨d, t1, hk⟩ := R2.rs (oo1.mono le2) hq2
  obtain ⟨e, t2, hk⟩ := R2.rs oo2 hk
  refine ok Z G2 ρ2 σ H2 v w d e _ _ R2 t1 t2 hk fun val v' G' H' le R' vo hv => ?_
  split at hv
  · have t : Dt G'.B v' (.bool true) := vo
    cases t
    refine ⟨true, rfl, iteT ⟨G', ρ2, _, R', hv, fun z G3 ρ3 H3 op3 le3 R3 oo3 hq3 => ?_⟩⟩
    obtain ⟨e', t3, hk⟩ := R3.rs ((oo2.mono le).mono le3) hq3
    obtain ⟨f, t4, hk⟩ := R3.rs oo3 hk
    have leA := ((le1.trans le2).trans le).trans le3
    refine ok' Z G3 ρ3 σ H3 w z e' f _ _ R3 t3 t4 hk fun val v' G4 H4 le4 R4 vo hv => ?_
    split at hv
    · have t : Dt G4.B v' (.bool true) := vo
      cases t
      refine ⟨true, rfl, iteT ⟨G4, ρ3, _, R4, hv, fun z2 G5 ρ5 H5 op5 le5 R5 oo5 hq5 => ?_⟩⟩
      obtain ⟨f', t5, hk⟩ := R5.rs ((oo3.mono le4).mono le5) hq5
      obtain ⟨g', t6, hk⟩ := R5.rs oo5 hk
      exact ok'' Z G5 ρ5 σ H5 z z2 f' g' _ Q R5 t5 t6 hk fun val v' G' H' le6 R' vo hv => q v' G' ρ5 H' val (((leA.trans le4).trans le5).trans le6) R' vo hv
    · have t : Dt G4.B v' (.bool false) := vo
      cases t
      exact ⟨false, rfl, iteF (q _ G4 ρ3 H4 (.im (.bool false)) (leA.trans le4) R4 (.bl false) hv)⟩
    · exact hv.elim
  · have t : Dt G'.B v' (.bool false) := vo
    cases t
    exact ⟨false, rfl, iteF (q _ G' ρ2 H' (.im (.bool false)) ((le1.trans le2).trans le) R' (.bl false) hv)⟩
  · exact hv.elim
theorem et_chain3 {op op' op'' : CmpOp} {r r' r'' : R2} {o o' o'' : O2} (ho : OpR X (compareOp op) r) (ok : Ok2 r o) (ho' : OpR X (compareOp op') r') (ok' : Ok2 r' o') (ho'' : OpR X (compareOp op'') r'') (ok'' : Ok2 r'' o'')
    (ha : PE X a (tR Z g)) (hb : PE X b (tR Z h)) (hc : PE X c (tR Z l)) (hd : PE X d (tR Z m)) (hm : lastMarks [op, op', op''] [b, c, d] = false := by with_unfolding_all rfl) : PT X (.Compare a [op, op', op''] [b, c, d] pos) (tT Z (sT (s4 o o' o'' g h l m))) :=
  PT.imp (pt_chain3 ho ho' ho'' ha hb hc hd hm) fun σ H Q q => t_chain3 ok ok' ok'' σ H _ (t_test σ H Q q)
end

/-! ### the feed -/
/-- what a draw promises: any number from 0 to below many -/
def F_draw : Fn := fun as k _ => ∃ m : Int, as = [.fd, .d (.int m)] ∧ 0 < m ∧ m < 1073741824 ∧ ∀ r : Int, 0 ≤ r → r < m → k (.im (.int r))
def spFeed (K : PySem.W.Frag) : Sp := fun vs H Q _ => ∃ (a : Addr) (ns : List Int), vs = [.ref a] ∧ SqL K H a (ns.map V.int) ∧ ns.length ≤ 63 ∧
  ∀ sp fp H', Same H H' → sp ≠ fp → H' sp = some (.lst (ns.map V.int)) → H' fp = some (.lst [.ref sp, .int 0, .int 0, .int 1]) → Q (.ref fp) H'

/-- the promise of _law_feed: a new feed -/
theorem fn_feed {P : Program} {w : World} {K : PySem.W.Frag} {mg : Str → Option Value} {base : Heap} {st : Stmt} {f : Addr} {fd : FuncData} {N : List Str} (Fu : Fun K "_law_feed" "_law_feed" st f fd) (S : FnScope N ["script"] (defScope st))
    (der : ∀ (cdv : Value) (A : Around) (outer : List Env) (s : Shared) (H : Hp) (E : XK), PSs (cxOf CX0 P w K mg base N "_law_feed" (defScope st) f cdv A outer s H E).nox (defBody st)
      (tRet (tLst (tCons (tCB (fun xs H Q => ∃ p ys, xs = [.ref p] ∧ (SqL K H p ys ∨ SqT K H p ys) ∧ ∀ l, H l = none → Q (.ref l) (upd H l (.lst ys))) (tCons (tVar 0) tNil)) (tCons (tC (.int 0)) (tCons (tC (.int 0)) (tCons (tC (.int 1)) tNil))))))) : FnOk P w K mg base CX0 1 f fd ["script"] (spFeed K) := by
  refine Fu.ok S (fun vs H Q E ⟨a, ns, e, _⟩ => by rw [e]; rfl) fun cdv A outer s H vs Q E hr ⟨a, ns, e, hq, hl, q⟩ => ?_
  subst e
  refine ⟨_, der cdv A outer s H E, ?_⟩
  have hN : (L2.start N [V.ref a])[0]? = some (some (.ref a)) := by
    unfold L2.start
    simp
  refine ⟨.ref a, hN, a, ns.map V.int, rfl, .inl hq, fun sp hsp => ?_⟩
  refine ⟨by show 4 ≤ sizeLine; decide, fun fp hfp => ?_⟩
  have hne : sp ≠ fp := fun z => by
    rw [← z, upd_same] at hfp
    cases hfp
  refine q sp fp _ (fun b o eb => ?_) hne ?_ upd_same
  · have nb : b ≠ sp := ne_of_none eb hsp
    have nb2 : b ≠ fp := fun z => by
      rw [← z, upd_ne nb, eb] at hfp
      cases hfp
    rw [upd_ne nb2, upd_ne nb]
    exact eb
  · rw [upd_ne hne, upd_same]

/-! ### _law_draw, by hand -/
section
variable (K : PySem.W.Frag)
abbrev xF (k : Int) : TE := tOp (rIxL K) (tVar 0) (tC (.int k))
def rLenX : List V → Hp → VK → Prop := fun xs H Q => ∃ x n, xs = [x] ∧ LenV K x H n ∧ Q (.int n) H
def rAbs : List V → Hp → VK → Prop := fun xs H Q => ∃ i, xs = [.int i] ∧ Q (.int (if i < 0 then -i else i)) H
def rInt1 : List V → Hp → VK → Prop := fun xs H Q => (∃ i, xs = [.int i] ∧ Q (.int i) H) ∨ ∃ k, xs = [.bl k] ∧ Q (.int (if k then 1 else 0)) H
abbrev tInt (t : TE) : TE := tCB rInt1 (tCons t tNil)
abbrev rEqS : R2 := rEq
abbrev tMulI : TE → TE → TE := tOp (rI CMul fun i j => .int (i * j))
abbrev tAddI : TE → TE → TE := tOp (rI0 fun i j => .int (i + j))
abbrev tModI : TE → TE → TE := tOp (rI (fun _ j => 0 < j) fun i j => .int (i % j))
abbrev tDivI : TE → TE → TE := tOp (rI CDiv fun i j => .int (i / j))
abbrev gF (k : Int) : TG := gSub (tVar 0) (tC (.int k)) rSetL
def tDraw1 : TS := tIfS (tAnd (tTest (tOp rEq (xF K 2) (tC (.int 0)))) (tTest (tOp (rI0 fun i j => .bl (decide (i < j))) (xF K 1) (tCB (rLenX K) (tCons (xF K 0) tNil)))))
  (tSeq (tAsg (tCB rAbs (tCons (tInt (tOp (rIxL K) (xF K 0) (xF K 1))) tNil)) (gName 2))
    (tSeq (tAugS (tVar 0) (tC (.int 1)) (tC (.int 1)) (rGetL K) (ipI fun i j => i + j) rSetL)
      (tIfS (tTest (tOp (rI0 fun i j => .bl (decide (j ≤ i))) (tVar 2) (tOp (rI CPow fun i j => .int (i ^ j.toNat)) (tC (.int 10)) (tC (.int 18)))))
        (tAsg (tVar 2) (gF 2))
        (tAsg (tModI (tInt (tAddI (tAddI (tMulI (xF K 3) (tC (.int 48271))) (tMulI (tVar 2) (tC (.int 69621)))) (xF K 1))) (tC (.int 2147483647))) (gF 3)))))
  tNext
def tDraw2 : TS := tIfS (tTest (tOp (rI0 fun i j => .bl (decide (j < i))) (xF K 2) (tC (.int 0))))
  (tSeq (tAsg (tModI (tInt (xF K 2)) (tVar 1)) (gName 3)) (tSeq (tAsg (tDivI (xF K 2) (tVar 1)) (gF 2)) (tRet (tVar 3)))) tNext
def tDraw3 : TS := tSeq (tAsg (tModI (tInt (tAddI (tMulI (xF K 3) (tC (.int 16807))) (tC (.int 12345)))) (tC (.int 2147483647))) (gF 3))
  (tSeq (tAsg (tModI (tInt (tAddI (tMulI (xF K 3) (xF K 3)) (xF K 3))) (tC (.int 2147483629))) (gName 4)) (tRet (tModI (tDivI (tVar 4) (tC (.int 11))) (tVar 1))))
def tDraw : TS := tSeq (tDraw1 K) (tSeq (tDraw2 K) (tDraw3 K))
end
section
variable {K : PySem.W.Frag} {fp sp : Addr} {ns : List Int} {m : Int} {H0 : Hp}
abbrev feedL (sp : Addr) (c a b : Int) : HO := .lst [.ref sp, .int c, .int a, .int b]
/-- the heap with the feed in its state -/
structure FS (fp sp : Addr) (H0 : Hp) (c a b : Int) (H : Hp) : Prop where
  at_ : H fp = some (feedL sp c a b)
  rest : ∀ q, q ≠ fp → H q = H0 q
theorem FS.upd {c a b c' a' b' : Int} {H : Hp} (h : FS fp sp H0 c a b H) : FS fp sp H0 c' a' b' (L2.upd H fp (feedL sp c' a' b')) := ⟨upd_same, fun q hq => by rw [upd_ne hq]; exact h.rest q hq⟩
theorem rd_F {σ : St} {H : Hp} {Q : VK} {c a b : Int} {k : Nat} {v : V} (hs : σ[0]? = some (some (.ref fp))) (h : FS fp sp H0 c a b H) (hv : [V.ref sp, .int c, .int a, .int b][k]? = some v) (q : Q v H) : xF K (k : Int) σ H Q :=
  ⟨.ref fp, hs, fp, _, _, v, rfl, rfl, SqL.of h.at_, atI_nat hv, q⟩
theorem rd_int {t : TE} {σ : St} {H : Hp} {Q : VK} (h : t σ H fun x H1 => ∃ i, x = .int i ∧ Q (.int i) H1) (mono : ∀ Q Q', (∀ v H1, Q v H1 → Q' v H1) → t σ H Q → t σ H Q') : tInt t σ H Q :=
  mono _ _ (fun v H1 ⟨i, e, q⟩ => .inl ⟨i, by rw [e], q⟩) h

structure FeedNs (c a b : Int) : Prop where
  c : 0 ≤ c
  a : 0 ≤ a
  b0 : 0 ≤ b
  b1 : b < 2147483648
abbrev sgm (fp : Addr) (m : Int) (x2 x3 x4 : Option V) : St := [some (.ref fp), some (.int m), x2, x3, x4]
theorem rd_draw3 (m0 : 0 < m) (m1 : m < 1073741824) {D : Ends} (hrt : ∀ r H c a b, FS fp sp H0 c a b H → FeedNs c a b → 0 ≤ r → r < m → D.rt (.int r) H) {c a b : Int} {H : Hp} {x2 x3 x4 : Option V} (h : FS fp sp H0 c a b H) (hn : FeedNs c a b) :
    tDraw3 K D (sgm fp m x2 x3 x4) H := by
  obtain ⟨c0, a0, b0, b1⟩ := hn
  have h1 : 0 ≤ (b * 16807 + 12345) % 2147483647 := Int.emod_nonneg _ (by decide)
  have h2 : (b * 16807 + 12345) % 2147483647 < 2147483647 := Int.emod_lt_of_pos _ (by decide)
  refine rd_F (k := 3) rfl h rfl ⟨b, 16807, rfl, rfl, .inl ⟨by omega, by omega⟩, _, 12345, rfl, rfl, .inl ⟨_, rfl, _, 2147483647, rfl, rfl, (show (0 : Int) < 2147483647 by decide), ?_⟩⟩
  refine ⟨.ref fp, rfl, fp, _, 3, 3, rfl, rfl, h.at_, rfl, ?_⟩
  have h' : FS fp sp H0 c a ((b * 16807 + 12345) % 2147483647) (upd H fp (feedL sp c a ((b * 16807 + 12345) % 2147483647))) := h.upd
  refine rd_F (k := 3) rfl h' rfl (rd_F (k := 3) rfl h' rfl ⟨_, _, rfl, rfl, .inl ⟨by omega, by omega⟩, rd_F (k := 3) rfl h' rfl ⟨_, _, rfl, rfl, .inl ⟨_, rfl, _, 2147483629, rfl, rfl, (show (0 : Int) < 2147483629 by decide), ?_⟩⟩⟩)
  refine ⟨_, rfl, _, 11, rfl, rfl, ⟨by decide, by decide⟩, _, rfl, _, m, rfl, rfl, m0, ?_⟩
  exact hrt _ _ _ _ _ h' ⟨c0, a0, h1, by omega⟩ (Int.emod_nonneg _ (by omega)) (Int.emod_lt_of_pos _ m0)
theorem rd_draw2 (m0 : 0 < m) (m1 : m < 1073741824) {D : Ends} (hrt : ∀ r H c a b, FS fp sp H0 c a b H → FeedNs c a b → 0 ≤ r → r < m → D.rt (.int r) H) {c a b : Int} {H : Hp} {x2 x3 x4 : Option V} (h : FS fp sp H0 c a b H) (hn : FeedNs c a b) :
    tSeq (tDraw2 K) (tDraw3 K) D (sgm fp m x2 x3 x4) H := by
  refine rd_F (k := 2) rfl h rfl ⟨a, 0, rfl, rfl, _, rfl, ite2 (fun e => ?_) (fun e => rd_draw3 m0 m1 hrt h hn)⟩
  obtain ⟨c0, a0, b0, b1⟩ := hn
  refine rd_F (k := 2) rfl h rfl (.inl ⟨a, rfl, _, rfl, a, m, rfl, rfl, m0, ?_⟩)
  refine rd_F (k := 2) rfl h rfl ⟨_, rfl, a, m, rfl, rfl, ⟨m0, m1⟩, .ref fp, rfl, fp, _, 2, 2, rfl, rfl, h.at_, rfl, ?_⟩
  have h' : FS fp sp H0 c (a / m) b (upd H fp (feedL sp c (a / m) b)) := h.upd
  exact ⟨_, rfl, hrt _ _ _ _ _ h' ⟨c0, Int.ediv_nonneg a0 (by omega), b0, b1⟩ (Int.emod_nonneg _ (by omega)) (Int.emod_lt_of_pos _ m0)⟩
theorem rd_draw (hsp : H0 sp = some (.lst (ns.map V.int))) (hne : sp ≠ fp) (m0 : 0 < m) (m1 : m < 1073741824) {D : Ends} (hrt : ∀ r H c a b, FS fp sp H0 c a b H → FeedNs c a b → 0 ≤ r → r < m → D.rt (.int r) H) {c a b : Int} {H : Hp} {x2 x3 x4 : Option V} (h : FS fp sp H0 c a b H) (hn : FeedNs c a b) :
    tDraw K D (sgm fp m x2 x3 x4) H := by
  have go : ∀ {H' : Hp} {c' a' b' : Int} {y2 : Option V}, FS fp sp H0 c' a' b' H' → FeedNs c' a' b' → tSeq (tDraw2 K) (tDraw3 K) D (sgm fp m y2 x3 x4) H' := fun h hn => rd_draw2 m0 m1 hrt h hn
  obtain ⟨c0, a0, b0, b1⟩ := hn
  have hl : ∀ {H' : Hp} {c' a' b' : Int}, FS fp sp H0 c' a' b' H' → SqL K H' sp (ns.map V.int) := fun h => SqL.of (by rw [h.rest sp hne]; exact hsp)
  refine rd_F (k := 2) rfl h rfl ⟨rfl, _, rfl, ?_⟩
  refine ite2 (fun _ => ?_) (fun _ => iteF (go h ⟨c0, a0, b0, b1⟩))
  refine rd_F (k := 1) rfl h rfl (rd_F (k := 0) rfl h rfl ⟨_, ns.length, rfl, .inl ⟨_, hl h, by simp⟩, c, _, rfl, rfl, _, rfl, ite2 (fun e => ?_) (fun _ => go h ⟨c0, a0, b0, b1⟩)⟩)
  have hc : c < ns.length := of_decide_eq_true e
  obtain ⟨n, rfl⟩ : ∃ n : Nat, c = n := ⟨c.toNat, by omega⟩
  have hn : n < ns.length := by omega
  refine rd_F (k := 0) rfl h rfl (rd_F (k := 1) rfl h rfl ⟨sp, _, (n : Int), .int ns[n], rfl, rfl, hl h, atI_nat (by simp [hn]), .inl ⟨_, rfl, _, rfl, ?_⟩⟩)
  generalize hx : (if ns[n] < 0 then -ns[n] else ns[n]) = x
  have x0 : 0 ≤ x := by
    rw [← hx]
    split <;> omega
  refine ⟨.ref fp, rfl, fp, _, 1, .int n, rfl, rfl, SqL.of h.at_, rfl, (n : Int), 1, rfl, rfl, fp, _, 1, 1, rfl, rfl, h.at_, rfl, ?_⟩
  have h' : FS fp sp H0 ((n : Int) + 1) a b (upd H fp (feedL sp ((n : Int) + 1) a b)) := h.upd
  refine ⟨_, rfl, 10, 18, rfl, rfl, ⟨by decide, by decide, by decide⟩, x, _, rfl, rfl, _, rfl, ite2 (fun e => ?_) (fun e => ?_)⟩
  · exact ⟨_, rfl, .ref fp, rfl, fp, _, 2, 2, rfl, rfl, h'.at_, rfl, go h'.upd ⟨by omega, x0, b0, b1⟩⟩
  · refine rd_F (k := 3) rfl h' rfl ⟨b, 48271, rfl, rfl, .inr ⟨by decide, by decide⟩, _, rfl, x, 69621, rfl, rfl, .inr ⟨by decide, by decide⟩, _, _, rfl, rfl, rd_F (k := 1) rfl h' rfl ⟨_, _, rfl, rfl, .inl ⟨_, rfl, _, 2147483647, rfl, rfl, (show (0 : Int) < 2147483647 by decide), ?_⟩⟩⟩
    refine ⟨.ref fp, rfl, fp, _, 3, 3, rfl, rfl, h'.at_, rfl, go h'.upd ⟨by omega, a0, Int.emod_nonneg _ (by decide), ?_⟩⟩
    have := Int.emod_lt_of_pos (b * 48271 + x * 69621 + ((n : Int) + 1)) (show (0 : Int) < 2147483647 by decide)
    omega
end
/-- the promise of _law_draw -/
theorem fn_draw {P : Program} {w : World} {K : PySem.W.Frag} {mg : Str → Option Value} {base : Heap} {st : Stmt} {f : Addr} {fd : FuncData} {XL : XW} (Fu : Fun K "_law_draw" "_law_draw" st f fd) (S : FnScope ["feed", "many", "cell", "told", "mixed"] ["feed", "many"] (defScope st))
    (der : ∀ (cdv : Value) (A : Around) (outer : List Env) (s : Shared) (H : Hp) (E : XK), PSs (cxOf CX0 P w K mg base ["feed", "many", "cell", "told", "mixed"] "_law_draw" (defScope st) f cdv A outer s H E).nox (defBody st) (tDraw K)) :
    FnOk P w K mg base CX0 1 f fd ["feed", "many"] (spD XL F_draw) := by
  refine Fu.ok S (fun vs H Q E ⟨B, fa, as, k, kx, _, _, ha, ⟨m, e, _⟩, _⟩ => by rw [ha.length, e]; rfl) fun cdv A outer s H vs Q E hr ⟨B, fa, as, k, kx, sm, hf, ha, ⟨m, e, m0, m1, hk⟩, hq, hx⟩ => ?_
  subst e
  refine ⟨_, der cdv A outer s H E, ?_⟩
  cases ha with
  | @cons a1 v1 as1 vs1 hfd ha =>
    cases ha with
    | @cons a2 v2 as2 vs2 hm ha =>
      cases ha
      obtain ⟨p, rfl, hfa⟩ := hfd
      have hfa : fa = some p := hfa
      subst hfa
      have hm : Dt B v2 (.int m) := hm
      cases hm
      obtain ⟨hBp, sp, ns, c, a, b, hp, hsp, c0, a0, b0, b1, hl⟩ := hf p rfl
      have hne : sp ≠ p := fun z => by
        rw [z, hBp] at hsp
        cases hsp
      refine rd_draw (H0 := H) (sm _ _ hsp) hne m0 m1 (fun r H' c' a' b' h hn r0 r1 => ?_) ⟨hp, fun _ _ => rfl⟩ ⟨c0, a0, b0, b1⟩
      refine hq (.int r) H' B (.im (.int r)) ⟨Same.refl _, fun q o e => ?_, fun q o e => ?_, fun q o e => .inr e, fun q e => ?_⟩ (.int r) (hk r r0 r1)
      · have : q ≠ p := ne_of_none e hBp
        rw [h.rest q this]
        exact sm _ _ e
      · by_cases z : q = p
        · exact .inr (by rw [z])
        · exact .inl (by rw [h.rest q z]; exact e)
      · cases e
        exact ⟨hBp, sp, ns, c', a', b', h.at_, hsp, hn.c, hn.a, hn.b0, hn.b1, hl⟩

/-! ### the law -/
def spLaw (K : PySem.W.Frag) : Sp := fun vs H Q _ => ∃ (a : Addr) (ns : List Int), vs = [.ref a] ∧ SqL K H a (ns.map V.int) ∧ ns.length ≤ 63 ∧ ∀ H', Q (.bl true) H'
theorem fn_law {P : Program} {w : World} {K : PySem.W.Frag} {mg : Str → Option Value} {base : Heap} {st : Stmt} {f : Addr} {fd : FuncData} {N : List Str} {k : Nat} {XL : XW} {sem : SS} {st1 : Stmt} {rest : List Stmt} (Fu : Fun K "law" "law" st f fd) (S : FnScope N ["script"] (defScope st)) (hb : defBody st = st1 :: rest) (hN : 2 ≤ N.length)
    (der1 : ∀ (cdv : Value) (A : Around) (outer : List Env) (s : Shared) (H : Hp) (E : XK), Room k (A.deeper (envOfC "law" (defScope st) s.heap.objs.size f cdv)) → PS (cxOf CX0 P w K mg base N "law" (defScope st) f cdv A outer s H E).nox st1 (tAsg (tCall (spFeed K) [] E0 (tCons (tVar 0) tNil)) (gName 1)))
    (der : ∀ (cdv : Value) (A : Around) (outer : List Env) (s : Shared) (H : Hp) (E : XK) (Z : Zx), Room k (A.deeper (envOfC "law" (defScope st) s.heap.objs.size f cdv)) → PSs (cxOf CX0 P w K mg base N "law" (defScope st) f cdv A outer s H E).nox rest (tS Z sem))
    (hs : ∀ x, sem ⟨.un :: .fd :: List.replicate (N.length - 2) .un, x⟩ { nx := fun _ => False, rt := fun v _ => v = .im (.bool true) }) : FnOk P w K mg base CX0 (k + 1) f fd ["script"] (spLaw K) := by
  refine Fu.ok S (fun vs H Q E ⟨a, ns, e, _⟩ => by rw [e]; rfl) fun cdv A outer s H vs Q E hr ⟨a, ns, e, hq, hl, q⟩ => ?_
  subst e
  rw [hb]
  refine ⟨_, pss_cons (der1 cdv A outer s H E hr) (der cdv A outer s H E ⟨fun _ _ _ _ => True, XL⟩ hr), ?_⟩
  have h0 : (L2.start N [V.ref a])[0]? = some (some (.ref a)) := by
    unfold L2.start
    simp
  refine ⟨.ref a, h0, a, ns, rfl, hq, hl, fun sp fp H' sm hne h1 h2 => ?_⟩
  let B : Hp := fun x => if x = sp then some (.lst (ns.map V.int)) else none
  have hB : ∀ x o, B x = some o → x = sp ∧ o = .lst (ns.map V.int) := fun x o e => by
    have e : (if x = sp then some (HO.lst (ns.map V.int)) else none) = some o := e
    split at e
    · cases e
      exact ⟨by assumption, rfl⟩
    · cases e
  have hBf : B fp = none := by
    show (if fp = sp then _ else none) = none
    rw [if_neg (fun e => hne e.symm)]
  have hBs : B sp = some (.lst (ns.map V.int)) := if_pos rfl
  let G : Gs := { B0 := B, H0 := fun _ => none, B := B, fa0 := some fp, fa := some fp, pr := [] }
  refine ⟨G, ⟨.un :: .fd :: List.replicate (N.length - 2) .un, fun _ => False⟩, _, ⟨⟨fun x o e => ?_, Same.refl _, fun _ _ e => (nomatch e), fun _ _ _ => .inl rfl, ?_, fun i c o e1 e2 => ?_, fun i j p ds es ne e1 => ?_, fun p e => ?_, fun p o e => (nomatch e), fun p e => .inl e⟩, fun _ _ _ _ _ _ _ _ _ _ _ => trivial⟩, hs _, ?_, ?_, ?_, ?_⟩
  · obtain ⟨e1, e2⟩ := hB x o e
    rw [e1, e2]
    exact h1
  · unfold L2.start
    simp
    omega
  · match i with
    | 0 =>
      simp at e1
      subst e1
      trivial
    | 1 =>
      simp at e1
      subst e1
      refine ⟨fp, ?_, rfl⟩
      rw [List.getElem?_set_self (by unfold L2.start; simp; omega)] at e2
      exact (Option.some.inj e2).symm
    | n + 2 =>
      simp [List.getElem?_replicate] at e1
      obtain ⟨_, e1⟩ := e1
      subst e1
      trivial
  · match i with
    | 0 => simp at e1
    | 1 => simp at e1
    | n + 2 => simp [List.getElem?_replicate] at e1
  · cases e
    exact ⟨hBf, sp, ns, 0, 0, 1, h2, hBs, by decide, by decide, by decide, by decide, hl⟩
  · exact fun G' ρ' σ' H' le R h => h.elim
  · intro G' ρ' σ' H' v val le R vo h
    have h : val = .im (.bool true) := h
    subst h
    have t : Dt G'.B v (.bool true) := vo
    cases t
    exact q H'
  · exact fun G' ρ' σ' H' le R h => h.elim
  · exact fun G' ρ' σ' H' le R h => h.elim
end Dv

/-! DvI: a module's dict with int keys and text values. -/
namespace Dv
open PySem PySem.Spec L2
open PyProof.Rows hiding St

variable {Z : Zx} {X : Cx}
def IntsLit : List DictEntry → Prop
  | [] => True
  | e :: r => (∃ i t, e.key = .int i t ∧ e.hash = hashInt i) ∧ IntsLit r
theorem IntsLit.all : ∀ {l : List DictEntry}, IntsLit l → ∀ e ∈ l, ∃ i t, e.key = .int i t ∧ e.hash = hashInt i
  | _ :: _, ⟨h, _⟩, _, .head _ => h
  | _ :: _, ⟨_, r⟩, _, .tail _ m => r.all _ m
theorem mapOf_KI {prog : Program} {w : World} {h : Heap} {K : PySem.W.Frag} {a : Addr} {es : Array DictEntry} {n : Nat} (X : K.In h) (hl : K.lookup a = some ⟨.type "dict", none, .dict es n, #[]⟩) (hk : IntsLit es.toList) : h.MapOf (intKind prog w) a (fun k => findBy Value.isInt es k) :=
  ⟨_, es, n, X _ _ hl, ⟨rfl, rfl, rfl⟩, rfl, fun e he => by
    obtain ⟨x, t, e1, e2⟩ := hk.all e (Array.mem_toList_iff.mpr he)
    exact ⟨x, by rw [e1]; exact intKind_is prog w x t, e2⟩, fun _ => rfl⟩
def IntDictK (K : PySem.W.Frag) (a : Addr) (kvs : List (Int × Str)) : Prop :=
  ∃ es n, K.lookup a = some ⟨.type "dict", none, .dict es n, #[]⟩ ∧ IntsLit es.toList ∧ ∀ k v, kvs.lookup k = some v → ∃ t, findBy Value.isInt es k = some (.str v t)
def rIxKI (K : PySem.W.Frag) (kvs : List (Int × Str)) : R2 := fun x y H Q => ∃ a i v, x = .ref a ∧ y = .int i ∧ IntDictK K a kvs ∧ kvs.lookup i = some v ∧ Q (.str v) H
theorem ix_KI {kvs : List (Int × Str)} : IxR X (rIxKI X.K kvs) := by
  intro value slice pins s σ H x y v u Q I rx ry h hs
  obtain ⟨p, i, z, rfl, rfl, ⟨es, n, hl, hk, hf⟩, e, q⟩ := h
  obtain rfl : v = Value.ref p := rx
  obtain ⟨t, rfl⟩ := ry
  have hm := mapOf_KI (prog := X.prog) (w := X.w) I.kIn hl hk
  obtain ⟨t2, ef⟩ := hf i z e
  exact tail_any hm.typeIs slot_dict_getitem.lookup (wpAny_getItem_of (intKind_is X.prog X.w i t) hm ef ⟨.str z, H, I.tok _, ⟨_, rfl⟩, q⟩) hs
def GDictI (K : PySem.W.Frag) (mg : Str → Option Value) (x : Str) (kvs : List (Int × Str)) : Prop := ∃ a, mg x = some (.ref a) ∧ IntDictK K a kvs
def sIxG (kvs : List (Int × Str)) (g : SR) : SE := fun ρ Q => g ρ fun o ρ1 => rs o ρ1 fun d => match d with
  | .int i => match kvs.lookup i with | some v => Q (.im (.str v)) ρ1 | none => False
  | _ => False
theorem ev_ixG {kvs : List (Int × Str)} {x : Str} {b : Expr} {g : SR} {p pos : Pos} (hg : Gl X x) (h : GDictI X.K X.mg x kvs) (hb : PE X b (tR Z g)) (hs : PlainIx b) (hd : (x == ("__debug__" : Str)) = false := by decide) : PE X (.Subscript (.Name x p) b pos) (tE Z (sIxG kvs g)) := by
  obtain ⟨a, hm, hk⟩ := h
  refine PE.imp (pe_ix (ix_KI (kvs := kvs)) (pe_glob (v := .ref a) hg hm rfl hd) hb hs) fun σ H Q ⟨G, ρ, Q', R, h, q⟩ => ⟨G, ρ, _, R, h, fun v G1 ρ1 H1 op le1 R1 oo hq => ?_⟩
  obtain ⟨d, t, hk2⟩ := R1.rs oo hq
  split at hk2
  · rename_i i
    split at hk2
    · rename_i v ev
      exact ⟨a, i, v, rfl, t.int, hk, ev, q (.str v) G1 ρ1 H1 (.im (.str v)) le1 R1 (.str _) hk2⟩
    · exact hk2.elim
  · exact hk2.elim
end Dv

/-! DvJ: loops by index; plain facts of data. -/
namespace Dv
open PySem PySem.Spec L2
open PyProof.Rows hiding St

theorem wLoop_ix {step : D → SS} {ds : List D} {E : DE} {ρ : Rho} (I : Nat → Rho → Prop) (h0 : I 0 ρ) (hn : ∀ ρ, I ds.length ρ → E.nx ρ)
    (hs : ∀ i d ρ (k : Rho → Prop), ds[i]? = some d → I i ρ → (∀ ρ', I (i + 1) ρ' → k ρ') → step d ρ { E with nx := k, ct := k, bk := E.nx }) : wLoop step ds ρ E := by
  have key : ∀ n i ρ, i + n = ds.length → I i ρ → wLoop step (ds.drop i) ρ E := by
    intro n
    induction n with
    | zero => intro i ρ e h; rw [List.drop_eq_nil_of_le (by omega)]; exact hn ρ (by rwa [← e, Nat.add_zero])
    | succ n ih =>
      intro i ρ e h
      have hi : i < ds.length := by omega
      rw [List.drop_eq_getElem_cons hi]
      exact hs i ds[i] ρ _ (List.getElem?_eq_getElem hi) h fun ρ' h' => ih (i + 1) ρ' (by omega) h'
  exact key ds.length 0 ρ (by omega) h0
theorem rngD_of {lo : Int} {n i : Nat} {d : D} (h : (rngD lo n)[i]? = some d) : i < n ∧ d = .int (lo + (i : Int)) := by
  unfold rngD at h
  rw [List.getElem?_map, Option.map_eq_some_iff] at h
  obtain ⟨j, h1, rfl⟩ := h
  obtain ⟨h2, h3⟩ := List.getElem?_eq_some_iff.mp h1
  rw [List.getElem_range] at h3
  subst h3
  exact ⟨by simpa using h2, rfl⟩
theorem wLoop_rng {step : D → SS} {lo : Int} {n : Nat} {E : DE} {ρ : Rho} (I : Nat → Rho → Prop) (h0 : I 0 ρ) (hn : ∀ ρ, I n ρ → E.nx ρ)
    (hs : ∀ (i : Nat) ρ (k : Rho → Prop), i < n → I i ρ → (∀ ρ', I (i + 1) ρ' → k ρ') → step (.int (lo + (i : Int))) ρ { E with nx := k, ct := k, bk := E.nx }) : wLoop step (rngD lo n) ρ E :=
  wLoop_ix I h0 (fun ρ h => hn ρ (by rwa [rngD_length] at h)) fun i d ρ k hd h hk => by
    obtain ⟨h1, rfl⟩ := rngD_of hd
    exact hs i ρ k h1 h hk
theorem enumD_length (ds : List D) : (enumD ds).length = ds.length := by simp [enumD]
theorem enumD_of {ds : List D} {i : Nat} {d : D} (h : (enumD ds)[i]? = some d) : ∃ x, ds[i]? = some x ∧ d = .tuple [.int (i : Int), x] := by
  unfold enumD at h
  rw [List.getElem?_map, Option.map_eq_some_iff] at h
  obtain ⟨j, h1, rfl⟩ := h
  rw [List.getElem?_zipIdx, Option.map_eq_some_iff] at h1
  obtain ⟨x, h2, rfl⟩ := h1
  exact ⟨x, h2, by simp⟩
theorem wLoop_enum {step : D → SS} {ds : List D} {E : DE} {ρ : Rho} (I : Nat → Rho → Prop) (h0 : I 0 ρ) (hn : ∀ ρ, I ds.length ρ → E.nx ρ)
    (hs : ∀ (i : Nat) x ρ (k : Rho → Prop), ds[i]? = some x → I i ρ → (∀ ρ', I (i + 1) ρ' → k ρ') → step (.tuple [.int (i : Int), x]) ρ { E with nx := k, ct := k, bk := E.nx }) : wLoop step (enumD ds) ρ E :=
  wLoop_ix I h0 (fun ρ h => hn ρ (by rwa [enumD_length] at h)) fun i d ρ k hd h hk => by
    obtain ⟨x, h1, rfl⟩ := enumD_of hd
    exact hs i x ρ k h1 h hk
theorem wLoop_map {α : Type} {f : α → D} {step : D → SS} {xs : List α} {E : DE} {ρ : Rho} (I : Nat → Rho → Prop) (h0 : I 0 ρ) (hn : ∀ ρ, I xs.length ρ → E.nx ρ)
    (hs : ∀ (i : Nat) x ρ (k : Rho → Prop), xs[i]? = some x → I i ρ → (∀ ρ', I (i + 1) ρ' → k ρ') → step (f x) ρ { E with nx := k, ct := k, bk := E.nx }) : wLoop step (xs.map f) ρ E :=
  wLoop_ix I h0 (fun ρ h => hn ρ (by rwa [List.length_map] at h)) fun i d ρ k hd h hk => by
    rw [List.getElem?_map, Option.map_eq_some_iff] at hd
    obtain ⟨x, h1, rfl⟩ := hd
    exact hs i x ρ k h1 h hk
theorem wLoop_nil {step : D → SS} {ρ : Rho} {E : DE} : wLoop step [] ρ E = E.nx ρ := rfl
theorem wLoop_cons {step : D → SS} {d : D} {ds : List D} {ρ : Rho} {E : DE} : wLoop step (d :: ds) ρ E = step d ρ { E with nx := fun ρ' => wLoop step ds ρ' E, ct := fun ρ' => wLoop step ds ρ' E, bk := E.nx } := rfl
/-- a statement ahead of others, what follows it out of sight -/
theorem seq_step {A B : SS} {ρ : Rho} {E : DE} (h : ∀ K : Rho → Prop, (∀ ρ', B ρ' E → K ρ') → A ρ { E with nx := K }) : sSeq A B ρ E := h _ fun _ h => h
theorem atI_lastD {α : Type} (xs : List α) (v : α) : L2.atI (xs ++ [v]) (-1) = some v := L2.atI_last xs v
theorem atI_nn {α : Type} (xs : List α) (i : Int) (h : 0 ≤ i) : L2.atI xs i = xs[i.toNat]? := by
  unfold L2.atI L2.ixN
  rw [if_pos h]
  split
  · rfl
  · rw [List.getElem?_eq_none (by omega)]; rfl
theorem atI_m1 {α : Type} (xs : List α) : L2.atI xs (-1) = xs.getLast? := by
  rcases List.eq_nil_or_concat xs with rfl | ⟨l, v, rfl⟩
  · rfl
  · rw [List.concat_eq_append, L2.atI_last, List.getLast?_concat]
theorem cutD_to {α : Type} (xs : List α) (i : Int) (h : 0 ≤ i) : cutD xs none (some i) = xs.take i.toNat := by
  unfold cutD HT.sIx
  simp only [if_neg (show ¬ i < 0 by omega), Nat.sub_zero, List.drop_zero]
  by_cases h2 : i.toNat ≤ xs.length
  · rw [Nat.min_eq_left h2]
  · rw [Nat.min_eq_right (by omega), List.take_of_length_le (Nat.le_refl _), List.take_of_length_le (by omega)]
theorem cutD_from {α : Type} (xs : List α) (i : Int) (h : 0 ≤ i) : cutD xs (some i) none = xs.drop i.toNat := by
  unfold cutD HT.sIx
  simp only [if_neg (show ¬ i < 0 by omega)]
  by_cases h2 : i.toNat ≤ xs.length
  · rw [Nat.min_eq_left h2]; exact List.take_of_length_le (by simp)
  · rw [Nat.min_eq_right (by omega), List.drop_eq_nil_of_le (Nat.le_refl _), List.drop_eq_nil_of_le (by omega), List.take_nil]
theorem atI0 {α : Type} (x : α) (xs : List α) : L2.atI (x :: xs) 0 = some x := by rw [atI_nn _ _ (by decide)]; rfl
theorem atI1 {α : Type} (x y : α) (xs : List α) : L2.atI (x :: y :: xs) 1 = some y := by rw [atI_nn _ _ (by decide)]; rfl
theorem atI2 {α : Type} (x y z : α) (xs : List α) : L2.atI (x :: y :: z :: xs) 2 = some z := by rw [atI_nn _ _ (by decide)]; rfl
theorem cutN_to {α : Type} (xs : List α) (i : Nat) : cutD xs none (some (i : Int)) = xs.take i := by rw [cutD_to _ _ (by omega), Int.toNat_natCast]
theorem cutN_from {α : Type} (xs : List α) (i : Nat) : cutD xs (some (i : Int)) none = xs.drop i := by rw [cutD_from _ _ (by omega), Int.toNat_natCast]
theorem cutN_from1 {α : Type} (xs : List α) (i : Nat) : cutD xs (some ((i : Int) + 1)) none = xs.drop (i + 1) := by rw [cutD_from _ _ (by omega)]; congr 1
theorem isi_tuple (ds : List D) (T : String) : isiD (.tuple ds) T = isiT "tuple" T := rfl
theorem isi_list (ds : List D) (T : String) : isiD (.list ds) T = isiT "list" T := rfl
theorem isi_int (i : Int) (T : String) : isiD (.int i) T = isiT "int" T := rfl
theorem isi_bool (b : Bool) (T : String) : isiD (.bool b) T = isiT "bool" T := rfl
theorem isi_str (x : Str) (T : String) : isiD (.str x) T = isiT "str" T := rfl
theorem isi_none (T : String) : isiD .none T = isiT "NoneType" T := rfl
end Dv

namespace Lw
open PySem PySem.Spec L2 Dv
open PyProof.Rows hiding St
abbrev TT := List (Int × Int)
def dP (p : Int × Int) : D := .tuple [.int p.1, .int p.2]
def dT (t : TT) : D := .list (t.map dP)
def payM : TT → Int → Int
  | [], _ => 0
  | [(s, c)], n => if s ≤ n then c * (n - s + 1) else 0
  | (s, c) :: (s2, c2) :: r, n => (if s ≤ min n (s2 - 1) then c * (min n (s2 - 1) - s + 1) else 0) + payM ((s2, c2) :: r) n
def rateF (n : Int) (c0 : Int) (p : Int × Int) : Int := if p.1 ≤ n then p.2 else c0
def rateM (t : TT) (n : Int) : Int := t.foldl (rateF n) 0
def Up : Int → TT → Prop
  | _, [] => True
  | lo, (s, c) :: r => lo < s ∧ s ≤ 999 ∧ 0 ≤ c ∧ c ≤ 1000 ∧ Up s r
def Ok (t : TT) : Prop := ∃ c r, t = (1, c) :: r ∧ Up 0 t ∧ t.length ≤ 20
def lastP (t : TT) : Int × Int := t.getLastD (0, 0)
theorem pay_step : ∀ (t : TT) (s c n : Int), s ≤ n + 1 → Up s t → (∀ c0, (((s, c) :: t).foldl (rateF (n + 1)) c0) = payM ((s, c) :: t) (n + 1) - payM ((s, c) :: t) n) := by
  intro t
  induction t with
  | nil =>
    intro s c n h _ c0
    simp only [List.foldl, rateF, if_pos h, payM]
    by_cases h2 : s ≤ n
    · rw [if_pos h2, show n + 1 - s + 1 = (n - s + 1) + 1 by omega, Int.mul_add]; omega
    · rw [if_neg h2, show n + 1 - s + 1 = 1 by omega]; omega
  | cons p r ih =>
    intro s c n h u c0
    obtain ⟨s2, c2⟩ := p
    obtain ⟨h1, h2, h3, h4, u2⟩ := u
    simp only [payM]
    rw [List.foldl_cons]
    by_cases h5 : s2 ≤ n + 1
    · rw [ih s2 c2 n h5 u2]
      rw [show min (n + 1) (s2 - 1) = s2 - 1 by omega, show min n (s2 - 1) = s2 - 1 by omega]
      omega
    · have key : ∀ (t : TT) (s c : Int) (m : Int), m < s → Up s t → payM ((s, c) :: t) m = 0 ∧ ∀ c0, ((s, c) :: t).foldl (rateF m) c0 = c0 := by
        intro t
        induction t with
        | nil => intro s c m h _; simp only [payM, List.foldl, rateF]; rw [if_neg (by omega)]; exact ⟨rfl, fun _ => if_neg (by omega)⟩
        | cons p r ih =>
          intro s c m h u
          obtain ⟨s2, c2⟩ := p
          obtain ⟨g1, g2, g3, g4, u2⟩ := u
          obtain ⟨e1, e2⟩ := ih s2 c2 m (by omega) u2
          simp only [payM]
          rw [e1, if_neg (by omega)]
          refine ⟨rfl, fun c0 => ?_⟩
          rw [List.foldl_cons, e2]
          exact if_neg (by simp only; omega)
      obtain ⟨e1, e2⟩ := key r s2 c2 (n + 1) (by omega) u2
      obtain ⟨e3, _⟩ := key r s2 c2 n (by omega) u2
      rw [e2, e1, e3, if_pos (by omega), rateF, if_pos h, show min (n + 1) (s2 - 1) = n + 1 by omega]
      by_cases h6 : s ≤ n
      · rw [if_pos (by omega), show min n (s2 - 1) = n by omega, show n + 1 - s + 1 = (n - s + 1) + 1 by omega, Int.mul_add]; simp only; omega
      · rw [if_neg (by omega), show n + 1 - s + 1 = 1 by omega]; simp only; omega
theorem pay_zero : ∀ (t : TT) (lo m : Int), m ≤ lo → Up lo t → payM t m = 0 := by
  intro t
  induction t with
  | nil => intros; rfl
  | cons p r ih =>
    intro lo m h u
    obtain ⟨s, c⟩ := p
    obtain ⟨g1, g2, g3, g4, u2⟩ := u
    have := ih s m (by omega) u2
    cases r with
    | nil => simp only [payM]; exact if_neg (by omega)
    | cons q r =>
      obtain ⟨s2, c2⟩ := q
      simp only [payM]
      rw [if_neg (by omega), this]; rfl
theorem Ok.rate {t : TT} (h : Ok t) (n : Int) (hn : 0 ≤ n) : rateM t (n + 1) = payM t (n + 1) - payM t n := by
  obtain ⟨c, r, rfl, u, _⟩ := h
  exact pay_step r 1 c n (by omega) u.2.2.2.2 0
theorem Ok.zero {t : TT} (h : Ok t) (m : Int) (hm : m ≤ 0) : payM t m = 0 := by
  obtain ⟨c, r, rfl, u, _⟩ := h
  exact pay_zero _ 0 m hm u
theorem lastP_cons (p q : Int × Int) (r : TT) : lastP (p :: q :: r) = lastP (q :: r) := by simp [lastP]
theorem up_last : ∀ (t : TT) (lo : Int), Up lo t → t ≠ [] → lo < (lastP t).1 ∧ (lastP t).1 ≤ 999 ∧ 0 ≤ (lastP t).2 ∧ (lastP t).2 ≤ 1000 := by
  intro t
  induction t with
  | nil => intro _ _ h; exact absurd rfl h
  | cons p r ih =>
    intro lo u _
    obtain ⟨g1, g2, g3, g4, u2⟩ := u
    cases r with
    | nil => exact ⟨g1, g2, g3, g4⟩
    | cons q r =>
      rw [lastP_cons]
      have := ih p.1 u2 (by simp)
      omega
theorem pay_beyond : ∀ (t : TT) (lo n d : Int), Up lo t → t ≠ [] → (lastP t).1 ≤ n → 0 ≤ d → payM t (n + d) = payM t n + d * (lastP t).2 := by
  intro t
  induction t with
  | nil => intro _ _ _ _ h; exact absurd rfl h
  | cons p r ih =>
    intro lo n d u _ hn hd
    obtain ⟨s, c⟩ := p
    obtain ⟨g1, g2, g3, g4, u2⟩ := u
    cases r with
    | nil =>
      simp only [lastP, List.getLastD_cons, List.getLastD_nil] at hn ⊢
      simp only [payM]
      rw [if_pos (by omega), if_pos (by omega), show n + d - s + 1 = (n - s + 1) + d by omega, Int.mul_add, Int.mul_comm c d]
    | cons q r =>
      obtain ⟨s2, c2⟩ := q
      rw [lastP_cons] at hn ⊢
      have := ih s n d u2 (by simp) hn hd
      have hl : s2 ≤ (lastP ((s2, c2) :: r)).1 := by
        cases r with
        | nil => simp [lastP]
        | cons q r =>
          rw [lastP_cons]
          have := up_last _ _ u2.2.2.2.2 (by simp)
          omega
      simp only [payM]
      rw [this, show min (n + d) (s2 - 1) = s2 - 1 by omega, show min n (s2 - 1) = s2 - 1 by omega]
      omega
theorem Ok.ne {t : TT} (h : Ok t) : t ≠ [] := by obtain ⟨c, r, rfl, _⟩ := h; simp
theorem Ok.up {t : TT} (h : Ok t) : Up 0 t := by obtain ⟨c, r, rfl, u, _⟩ := h; exact u
def LL (t o : TT) (n : Int) : Int := payM t n - payM o n
def lastN (t o : TT) : Int := max (lastP t).1 (lastP o).1
def chg (t o : TT) : Int := (lastP t).2 - (lastP o).2
theorem LL_beyond {t o : TT} (h : Ok t) (h2 : Ok o) (n : Int) (hn : lastN t o ≤ n) : LL t o n = LL t o (lastN t o) + (n - lastN t o) * chg t o := by
  have e1 := pay_beyond t 0 (lastN t o) (n - lastN t o) h.up h.ne (by unfold lastN; omega) (by omega)
  have e2 := pay_beyond o 0 (lastN t o) (n - lastN t o) h2.up h2.ne (by unfold lastN; omega) (by omega)
  rw [show lastN t o + (n - lastN t o) = n by omega] at e1 e2
  unfold LL chg
  rw [e1, e2, Int.mul_sub]
  omega
def sd (n : Int) : Int := if n > 0 then 1 else if n < 0 then -1 else 0
def sideM (t o : TT) : Int := if chg t o ≠ 0 then sd (chg t o) else sd (LL t o (lastN t o))
def Best (t o : TT) (k : Int) : Prop := 1 ≤ k ∧ (∀ n, k ≤ n → sd (LL t o n) = sideM t o) ∧ (k = 1 ∨ sd (LL t o (k - 1)) ≠ sideM t o)
theorem Best.uniq {t o : TT} {k k' : Int} (h : Best t o k) (h' : Best t o k') : k = k' := by
  obtain ⟨a1, a2, a3⟩ := h
  obtain ⟨b1, b2, b3⟩ := h'
  rcases Int.lt_trichotomy k k' with h | h | h
  · rcases b3 with b3 | b3
    · omega
    · exact absurd (a2 (k' - 1) (by omega)) b3
  · exact h
  · rcases a3 with a3 | a3
    · omega
    · exact absurd (b2 (k - 1) (by omega)) a3
theorem sd_p {n : Int} (h : 0 < n) : sd n = 1 := if_pos h
theorem sd_n {n : Int} (h : n < 0) : sd n = -1 := by unfold sd; rw [if_neg (by omega), if_pos h]
theorem sd_of1 {n : Int} (h : sd n = 1) : 0 < n := by
  unfold sd at h
  by_cases h0 : n > 0
  · exact h0
  · rw [if_neg h0] at h; split at h <;> omega
theorem sd_ofm {n : Int} (h : sd n = -1) : n < 0 := by
  unfold sd at h
  by_cases h0 : n > 0
  · rw [if_pos h0] at h; omega
  · by_cases h1 : n < 0
    · exact h1
    · rw [if_neg h0, if_neg h1] at h; omega
theorem jump_p {R C q m x : Int} (hC : 0 < C) (hd : C * q + m = -R) (h1 : 0 ≤ m) (h2 : m < C) : (q + 1 ≤ x → 0 < R + x * C) ∧ ¬ 0 < R + q * C := by
  refine ⟨fun hx => ?_, ?_⟩
  · have := Int.mul_le_mul_of_nonneg_left hx (show 0 ≤ C by omega)
    rw [Int.mul_add] at this
    rw [Int.mul_comm x C]
    omega
  · rw [Int.mul_comm q C]; omega
theorem sd_neg (n : Int) : sd (-n) = - sd n := by unfold sd; split <;> split <;> (try split) <;> omega
theorem LL_swap (t o : TT) (n : Int) : LL o t n = - LL t o n := by unfold LL; omega
theorem lastN_swap (t o : TT) : lastN o t = lastN t o := by unfold lastN; omega
theorem chg_swap (t o : TT) : chg o t = - chg t o := by unfold chg; omega
theorem side_swap (t o : TT) : sideM o t = - sideM t o := by
  unfold sideM
  rw [chg_swap, lastN_swap, LL_swap, sd_neg, sd_neg]
  by_cases h : chg t o = 0
  · rw [if_neg (by omega), if_neg (by omega)]
  · rw [if_pos (by omega), if_pos (by omega)]
theorem Best.swap {t o : TT} {k : Int} (h : Best o t k) : Best t o k := by
  obtain ⟨a1, a2, a3⟩ := h
  refine ⟨a1, fun n hn => ?_, ?_⟩
  · have := a2 n hn
    rw [LL_swap, sd_neg, side_swap] at this
    omega
  · rw [LL_swap, sd_neg, side_swap] at a3
    omega
theorem lastN_pos {t o : TT} (h : Ok t) (h2 : Ok o) : 1 ≤ lastN t o ∧ lastN t o ≤ 999 := by
  have := up_last t 0 h.up h.ne
  have := up_last o 0 h2.up h2.ne
  unfold lastN
  omega
theorem chg_le {t o : TT} (h : Ok t) (h2 : Ok o) : -1000 ≤ chg t o ∧ chg t o ≤ 1000 := by
  have := up_last t 0 h.up h.ne
  have := up_last o 0 h2.up h2.ne
  unfold chg
  omega
/-- beyond the last start all is told by the last rates -/
theorem best_jump {t o : TT} (h : Ok t) (h2 : Ok o) (hs : sideM t o ≠ 0) (hr : sd (LL t o (lastN t o)) ≠ sideM t o) :
    chg t o ≠ 0 ∧ Best t o (lastN t o + (LL t o (lastN t o)).natAbs / (chg t o).natAbs + 1) := by
  have hp := lastN_pos h h2
  have hc : chg t o ≠ 0 := fun e => hr (by unfold sideM; rw [if_neg (by simpa using e)])
  refine ⟨hc, ?_⟩
  have hsd : sideM t o = sd (chg t o) := by unfold sideM; rw [if_pos hc]
  rw [hsd] at hr
  generalize hR : LL t o (lastN t o) = R at hr
  generalize hC : chg t o = C at hc hr hsd
  have hq : (0:Int) ≤ (R.natAbs : Int) / (C.natAbs : Int) := Int.ediv_nonneg (by omega) (by omega)
  have hd := Int.mul_ediv_add_emod (R.natAbs : Int) (C.natAbs : Int)
  have hm1 := Int.emod_nonneg (R.natAbs : Int) (show (C.natAbs : Int) ≠ 0 by omega)
  have hm2 := Int.emod_lt_of_pos (R.natAbs : Int) (show (0:Int) < (C.natAbs : Int) by omega)
  generalize hQ : (R.natAbs : Int) / (C.natAbs : Int) = q at hq hd ⊢
  generalize (R.natAbs : Int) % (C.natAbs : Int) = m at hd hm1 hm2
  have hb : ∀ n, lastN t o ≤ n → LL t o n = R + (n - lastN t o) * C := fun n hn => by rw [LL_beyond h h2 n hn, hR, hC]
  by_cases c0 : 0 < C
  · rw [sd_p (n := C) c0] at hr hsd
    have hR0 : R ≤ 0 := by
      by_cases h0 : 0 < R
      · exact absurd (sd_p h0) hr
      · omega
    rw [show (R.natAbs : Int) = -R by omega, show (C.natAbs : Int) = C by omega] at *
    refine ⟨by omega, fun n hn => ?_, .inr ?_⟩
    · rw [hsd, hb n (by omega)]
      exact sd_p ((jump_p (x := n - lastN t o) c0 hd hm1 hm2).1 (by omega))
    · rw [hsd, show lastN t o + q + 1 - 1 = lastN t o + q by omega, hb _ (by omega), show lastN t o + q - lastN t o = q by omega]
      exact fun e => (jump_p (x := 0) c0 hd hm1 hm2).2 (sd_of1 e)
  · rw [sd_n (n := C) (by omega)] at hr hsd
    have hR0 : 0 ≤ R := by
      by_cases h0 : R < 0
      · exact absurd (sd_n h0) hr
      · omega
    rw [show (R.natAbs : Int) = R by omega, show (C.natAbs : Int) = -C by omega] at *
    refine ⟨by omega, fun n hn => ?_, .inr ?_⟩
    · rw [hsd, hb n (by omega)]
      have := (jump_p (R := -R) (x := n - lastN t o) (show 0 < -C by omega) (by rw [hd]; omega) hm1 hm2).1 (by omega)
      rw [Int.mul_neg] at this
      exact sd_n (by omega)
    · rw [hsd, show lastN t o + q + 1 - 1 = lastN t o + q by omega, hb _ (by omega), show lastN t o + q - lastN t o = q by omega]
      intro e
      have e := sd_ofm e
      have := (jump_p (R := -R) (x := 0) (show 0 < -C by omega) (by rw [hd]; omega) hm1 hm2).2
      rw [Int.mul_neg] at this
      omega
/-- where the last start is won already -/
theorem stays {t o : TT} (h : Ok t) (h2 : Ok o) (hr : sideM t o = 0 ∨ sd (LL t o (lastN t o)) = sideM t o) : ∀ n, lastN t o ≤ n → sd (LL t o n) = sideM t o := by
  intro n hn
  rw [LL_beyond h h2 n hn]
  unfold sideM at hr ⊢
  generalize LL t o (lastN t o) = R at hr ⊢
  generalize chg t o = C at hr ⊢
  have hx : 0 ≤ n - lastN t o := by omega
  generalize n - lastN t o = x at hx ⊢
  by_cases c0 : C = 0
  · subst c0; simp
  · rw [if_pos c0] at hr ⊢
    have : sd C ≠ 0 := by
      unfold sd
      split
      · decide
      · split <;> omega
    rcases hr with hr | hr
    · exact absurd hr this
    · by_cases c1 : C > 0
      · have := Int.mul_nonneg hx (show 0 ≤ C by omega)
        rw [sd_p c1] at hr ⊢
        have := sd_of1 hr
        exact sd_p (by omega)
      · have := Int.mul_nonneg hx (show 0 ≤ -C by omega)
        rw [Int.mul_neg] at this
        rw [sd_n (show C < 0 by omega)] at hr ⊢
        have := sd_ofm hr
        exact sd_n (by omega)
end Lw

namespace Lw
open PySem PySem.Spec L2 Dv
open PyProof.Rows hiding St
def topS (i : Nat) : Stmt := PySem.Challenge.pw_daybooktold_k94_whole_better_tariffs.main.body.getD i (.Pass ⟨0, 0, 0, 0⟩)
abbrev st_pay : Stmt := topS 2
abbrev N_pay : List Str := ["tariff", "pieces", "total", "at", "start", "cents", "last"]
theorem sc_pay : FnScope N_pay ["tariff", "pieces"] (defScope st_pay) := ⟨rfl, rfl, rfl, by decide +kernel, rfl, by decide +kernel, by decide +kernel⟩
def b1_pay : SS :=
  (sSeq (sAsg (sVar 1) (sgName 6))
  (sSeq (sIfS (sT (s2 oLtI (sRE (s2 oAdd (sRV 3) (sRE (sC (.int 1))))) (sRE (s1 oLen (sRV 0))))) (sAsg (s2 oMin2 (sRV 1) (sRE (s2 oSub (sRE (s2 oIx (sRE (s2 oIx (sRV 0) (sRE (s2 oAdd (sRV 3) (sRE (sC (.int 1))))))) (sRE (sC (.int 0))))) (sRE (sC (.int 1)))))) (sgName 6)) (sNext))
  (sIfS (sT (s2 oGeI (sRV 6) (sRV 4))) (sAug 2 oAddI (s2 oMul (sRV 5) (sRE (s2 oAdd (sRE (s2 oSub (sRV 6) (sRV 4))) (sRE (sC (.int 1))))))) (sNext))))
def m_pay : SS :=
  (sSeq (sAsg (sC (.int 0)) (sgName 2))
  (sSeq (sFor (sEnum (dCons (sVar 0) dNil)) (sgTup 2 (sgCons (sgName 3) (sgCons (sgTup 2 (sgCons (sgName 4) (sgCons (sgName 5) sgNil))) sgNil))) (b1_pay))
  (sRetV 2)))
abbrev st_side_of : Stmt := topS 3
abbrev N_side_of : List Str := ["number"]
theorem sc_side_of : FnScope N_side_of ["number"] (defScope st_side_of) := ⟨rfl, rfl, rfl, by decide +kernel, rfl, by decide +kernel, by decide +kernel⟩
def m_side_of : SS :=
  (sSeq (sIfS (sT (s2 oGtI (sRV 0) (sRE (sC (.int 0))))) (sRet (sC (.int 1))) (sNext))
  (sSeq (sIfS (sT (s2 oLtI (sRV 0) (sRE (sC (.int 0))))) (sRet (s1 oNeg (sRE (sC (.int 1))))) (sNext))
  (sRet (sC (.int 0)))))
abbrev st_lead : Stmt := topS 4
abbrev N_lead : List Str := ["tariff", "other", "pieces"]
theorem sc_lead : FnScope N_lead ["tariff", "other", "pieces"] (defScope st_lead) := ⟨rfl, rfl, rfl, by decide +kernel, rfl, by decide +kernel, by decide +kernel⟩
def m_lead (F_pay : Fn) : SS :=
  sRet (s2 oSub (sRE (sCall F_pay (aCons (sVar 0) (aCons (sVar 2) aNil)))) (sRE (sCall F_pay (aCons (sVar 1) (aCons (sVar 2) aNil)))))
abbrev st_better_from : Stmt := topS 5
abbrev N_better_from : List Str := ["tariff", "other", "last", "change", "reached", "side", "k"]
theorem sc_better_from : FnScope N_better_from ["tariff", "other"] (defScope st_better_from) := ⟨rfl, rfl, rfl, by decide +kernel, rfl, by decide +kernel, by decide +kernel⟩
def b1_better_from : SS :=
  sAug 6 oSub (sC (.int 1))
def m_better_from (F_lead : Fn) (F_side_of : Fn) : SS :=
  (sSeq (sAsg (s2 oMax2 (sRE (s2 oIx (sRE (s2 oIx (sRV 0) (sRE (s1 oNeg (sRE (sC (.int 1))))))) (sRE (sC (.int 0))))) (sRE (s2 oIx (sRE (s2 oIx (sRV 1) (sRE (s1 oNeg (sRE (sC (.int 1))))))) (sRE (sC (.int 0)))))) (sgName 2))
  (sSeq (sAsg (s2 oSub (sRE (s2 oIx (sRE (s2 oIx (sRV 0) (sRE (s1 oNeg (sRE (sC (.int 1))))))) (sRE (sC (.int 1))))) (sRE (s2 oIx (sRE (s2 oIx (sRV 1) (sRE (s1 oNeg (sRE (sC (.int 1))))))) (sRE (sC (.int 1)))))) (sgName 3))
  (sSeq (sAsg (sCall F_lead (aCons (sVar 0) (aCons (sVar 1) (aCons (sVar 2) aNil)))) (sgName 4))
  (sSeq (sAsg (sIf (sT (s2 oNe (sRV 3) (sRE (sC (.int 0))))) (sCall F_side_of (aCons (sVar 3) aNil)) (sCall F_side_of (aCons (sVar 4) aNil))) (sgName 5))
  (sSeq (sIfS (sAnd (sT (s2 oNe (sRV 5) (sRE (sC (.int 0))))) (sT (s2 oNe (sRE (sCall F_side_of (aCons (sVar 4) aNil))) (sRV 5)))) (sRet (sTup (dCons (sIxG [(1, "first"), ((-1), "second"), (0, "even")] (sRV 5)) (dCons (s2 oAdd (sRE (s2 oAdd (sRV 2) (sRE (s2 oFdiv (sRE (s1 oAbs (sRV 4))) (sRE (s1 oAbs (sRV 3))))))) (sRE (sC (.int 1)))) dNil)))) (sNext))
  (sSeq (sAsg (sVar 2) (sgName 6))
  (sSeq (sWhile (sAnd (sT (s2 oGtI (sRV 6) (sRE (sC (.int 1))))) (sT (s2 oEq (sRE (sCall F_side_of (aCons (sCall F_lead (aCons (sVar 0) (aCons (sVar 1) (aCons (s2 oSub (sRV 6) (sRE (sC (.int 1)))) aNil)))) aNil))) (sRV 5)))) (b1_better_from))
  (sRet (sTup (dCons (sIxG [(1, "first"), ((-1), "second"), (0, "even")] (sRV 5)) (dCons (sVar 6) dNil)))))))))))
abbrev st__law_feed : Stmt := topS 7
abbrev N__law_feed : List Str := ["script"]
theorem sc__law_feed : FnScope N__law_feed ["script"] (defScope st__law_feed) := ⟨rfl, rfl, rfl, by decide +kernel, rfl, by decide +kernel, by decide +kernel⟩
abbrev st__law_draw : Stmt := topS 8
abbrev N__law_draw : List Str := ["feed", "many", "cell", "told", "mixed"]
theorem sc__law_draw : FnScope N__law_draw ["feed", "many"] (defScope st__law_draw) := ⟨rfl, rfl, rfl, by decide +kernel, rfl, by decide +kernel, by decide +kernel⟩
abbrev st__law_is_whole : Stmt := topS 9
abbrev N__law_is_whole : List Str := ["x"]
theorem sc__law_is_whole : FnScope N__law_is_whole ["x"] (defScope st__law_is_whole) := ⟨rfl, rfl, rfl, by decide +kernel, rfl, by decide +kernel, by decide +kernel⟩
def m__law_is_whole : SS :=
  sRet (sAndV (s1 (oIsi "int") (sRV 0)) (sNotV (s1 (oIsi "bool") (sRV 0))))
abbrev st__law_tariff : Stmt := topS 10
abbrev N__law_tariff : List Str := ["feed", "most", "top", "start", "tariff", "k"]
theorem sc__law_tariff : FnScope N__law_tariff ["feed"] (defScope st__law_tariff) := ⟨rfl, rfl, rfl, by decide +kernel, rfl, by decide +kernel, by decide +kernel⟩
def b1__law_tariff (F__law_draw : Fn) : SS :=
  (sSeq (sAug 3 oAddI (s2 oAdd (sRE (sC (.int 1))) (sRE (sCall F__law_draw (aCons (sVar 0) (aCons (sVar 1) aNil))))))
  (sIfS (sT (s2 oLeI (sRV 3) (sRE (sC (.int 999))))) (sDrop (sMeth 4 (dCons (sTup (dCons (sVar 3) (dCons (sCall F__law_draw (aCons (sVar 0) (aCons (sVar 2) aNil))) dNil))) dNil) mAppend)) (sNext)))
def m__law_tariff (F__law_draw : Fn) : SS :=
  (sSeq (sAsg (s2 oIx (sRE (sLst (dCons (sC (.int 1)) (dCons (sC (.int 3)) (dCons (sC (.int 40)) (dCons (sC (.int 200)) dNil)))))) (sRE (sCall F__law_draw (aCons (sVar 0) (aCons (sC (.int 4)) aNil))))) (sgName 1))
  (sSeq (sAsg (s2 oIx (sRE (sLst (dCons (sC (.int 2)) (dCons (sC (.int 10)) (dCons (sC (.int 1000)) dNil))))) (sRE (sCall F__law_draw (aCons (sVar 0) (aCons (sC (.int 3)) aNil))))) (sgName 2))
  (sSeq (sAsg (sC (.int 1)) (sgName 3))
  (sSeq (sAsg (sLst (dCons (sTup (dCons (sC (.int 1)) (dCons (sCall F__law_draw (aCons (sVar 0) (aCons (sVar 2) aNil))) dNil))) dNil)) (sgName 4))
  (sSeq (sFor (sRng1 (dCons (sCall F__law_draw (aCons (sVar 0) (aCons (sC (.int 6)) aNil))) dNil)) (sgName 5) (b1__law_tariff F__law_draw))
  (sRetV 4))))))
abbrev st__law_second : Stmt := topS 11
abbrev N__law_second : List Str := ["feed", "tariff", "shape", "at"]
theorem sc__law_second : FnScope N__law_second ["feed", "tariff"] (defScope st__law_second) := ⟨rfl, rfl, rfl, by decide +kernel, rfl, by decide +kernel, by decide +kernel⟩
def m__law_second (F__law_draw : Fn) (F__law_tariff : Fn) : SS :=
  (sSeq (sAsg (sCall F__law_draw (aCons (sVar 0) (aCons (sC (.int 6)) aNil))) (sgName 2))
  (sSeq (sAsg (sCall F__law_draw (aCons (sVar 0) (aCons (s1 oLen (sRV 1)) aNil))) (sgName 3))
  (sSeq (sIfS (sT (s2 oLtI (sRV 2) (sRE (sC (.int 2))))) (sRet (sCall F__law_tariff (aCons (sVar 0) aNil))) (sNext))
  (sSeq (sIfS (sT (s2 oEq (sRV 2) (sRE (sC (.int 2))))) (sRet (s2 oAdd (sRE (s2 oAdd (sRE (sSl (sRV 1) pNo (pSome (sRV 3)))) (sRE (sLst (dCons (sTup (dCons (s2 oIx (sRE (s2 oIx (sRV 1) (sRV 3))) (sRE (sC (.int 0)))) (dCons (sCall F__law_draw (aCons (sVar 0) (aCons (sC (.int 1000)) aNil))) dNil))) dNil))))) (sRE (sSl (sRV 1) (pSome (sRE (s2 oAdd (sRV 3) (sRE (sC (.int 1)))))) pNo)))) (sNext))
  (sSeq (sIfS (sT (s2 oEq (sRV 2) (sRE (sC (.int 3))))) (sRet (s2 oAdd (sRE (s2 oAdd (sRE (sSl (sRV 1) pNo (pSome (sRV 3)))) (sRE (sLst (dCons (sTup (dCons (s2 oIx (sRE (s2 oIx (sRV 1) (sRV 3))) (sRE (sC (.int 0)))) (dCons (s2 oMax2 (sRE (sC (.int 0))) (sRE (s2 oSub (sRE (s2 oIx (sRE (s2 oIx (sRV 1) (sRV 3))) (sRE (sC (.int 1))))) (sRE (sC (.int 1)))))) dNil))) dNil))))) (sRE (sSl (sRV 1) (pSome (sRE (s2 oAdd (sRV 3) (sRE (sC (.int 1)))))) pNo)))) (sNext))
  (sSeq (sIfS (sAnd (sT (s2 oEq (sRV 2) (sRE (sC (.int 4))))) (sAnd (sT (s2 oGtI (sRE (s1 oLen (sRV 1))) (sRE (sC (.int 2))))) (sAnd (sT (s2 oEq (sRE (s2 oIx (sRE (s2 oIx (sRV 1) (sRE (sC (.int 1))))) (sRE (sC (.int 0))))) (sRE (sC (.int 2))))) (sT (s2 oEq (sRE (s2 oIx (sRE (s2 oIx (sRV 1) (sRE (sC (.int 2))))) (sRE (sC (.int 0))))) (sRE (sC (.int 3)))))))) (sRet (s2 oAdd (sRE (sLst (dCons (sTup (dCons (sC (.int 1)) (dCons (s2 oIx (sRE (s2 oIx (sRV 1) (sRE (sC (.int 1))))) (sRE (sC (.int 1)))) dNil))) (dCons (sTup (dCons (sC (.int 2)) (dCons (s2 oIx (sRE (s2 oIx (sRV 1) (sRE (sC (.int 0))))) (sRE (sC (.int 1)))) dNil))) dNil)))) (sRE (sSl (sRV 1) (pSome (sRE (sC (.int 2)))) pNo)))) (sNext))
  (sRet (s1 oList (sRV 1)))))))))
abbrev st__law_rate : Stmt := topS 12
abbrev N__law_rate : List Str := ["tariff", "piece", "cents", "start", "rate"]
theorem sc__law_rate : FnScope N__law_rate ["tariff", "piece"] (defScope st__law_rate) := ⟨rfl, rfl, rfl, by decide +kernel, rfl, by decide +kernel, by decide +kernel⟩
def b1__law_rate : SS :=
  sIfS (sT (s2 oLeI (sRV 3) (sRV 1))) (sAsg (sVar 4) (sgName 2)) (sNext)
def m__law_rate : SS :=
  (sSeq (sAsg (sC (.int 0)) (sgName 2))
  (sSeq (sFor (sIt (sVar 0)) (sgTup 2 (sgCons (sgName 3) (sgCons (sgName 4) sgNil))) (b1__law_rate))
  (sRetV 2)))
abbrev st__law_side : Stmt := topS 13
abbrev N__law_side : List Str := ["number"]
theorem sc__law_side : FnScope N__law_side ["number"] (defScope st__law_side) := ⟨rfl, rfl, rfl, by decide +kernel, rfl, by decide +kernel, by decide +kernel⟩
def m__law_side : SS :=
  (sSeq (sIfS (sT (s2 oGtI (sRV 0) (sRE (sC (.int 0))))) (sRet (sC (.str "first"))) (sNext))
  (sSeq (sIfS (sT (s2 oLtI (sRV 0) (sRE (sC (.int 0))))) (sRet (sC (.str "second"))) (sNext))
  (sRet (sC (.str "even")))))
abbrev st__law_leads : Stmt := topS 14
abbrev N__law_leads : List Str := ["tariff", "other", "last", "leads", "piece"]
theorem sc__law_leads : FnScope N__law_leads ["tariff", "other"] (defScope st__law_leads) := ⟨rfl, rfl, rfl, by decide +kernel, rfl, by decide +kernel, by decide +kernel⟩
def b1__law_leads (F__law_rate : Fn) : SS :=
  sDrop (sMeth 3 (dCons (s2 oSub (sRE (s2 oAdd (sRE (s2 oIx (sRV 3) (sRE (s1 oNeg (sRE (sC (.int 1))))))) (sRE (sCall F__law_rate (aCons (sVar 0) (aCons (sVar 4) aNil)))))) (sRE (sCall F__law_rate (aCons (sVar 1) (aCons (sVar 4) aNil))))) dNil) mAppend)
def m__law_leads (F__law_rate : Fn) : SS :=
  (sSeq (sAsg (s2 oMax2 (sRE (s2 oIx (sRE (s2 oIx (sRV 0) (sRE (s1 oNeg (sRE (sC (.int 1))))))) (sRE (sC (.int 0))))) (sRE (s2 oIx (sRE (s2 oIx (sRV 1) (sRE (s1 oNeg (sRE (sC (.int 1))))))) (sRE (sC (.int 0)))))) (sgName 2))
  (sSeq (sAsg (sLst (dCons (sC (.int 0)) dNil)) (sgName 3))
  (sSeq (sFor (sRng2 (dCons (sC (.int 1)) (dCons (s2 oAdd (sRV 2) (sRE (sC (.int 1)))) dNil))) (sgName 4) (b1__law_leads F__law_rate))
  (sRetV 3))))
abbrev st__law_in_the_end : Stmt := topS 15
abbrev N__law_in_the_end : List Str := ["leads", "change"]
theorem sc__law_in_the_end : FnScope N__law_in_the_end ["leads", "change"] (defScope st__law_in_the_end) := ⟨rfl, rfl, rfl, by decide +kernel, rfl, by decide +kernel, by decide +kernel⟩
def m__law_in_the_end (F__law_side : Fn) : SS :=
  (sSeq (sIfS (sT (s2 oNe (sRV 1) (sRE (sC (.int 0))))) (sRet (sCall F__law_side (aCons (sVar 1) aNil))) (sNext))
  (sRet (sCall F__law_side (aCons (s2 oIx (sRV 0) (sRE (s1 oNeg (sRE (sC (.int 1)))))) aNil))))
abbrev st__law_lead : Stmt := topS 16
abbrev N__law_lead : List Str := ["leads", "change", "pieces"]
theorem sc__law_lead : FnScope N__law_lead ["leads", "change", "pieces"] (defScope st__law_lead) := ⟨rfl, rfl, rfl, by decide +kernel, rfl, by decide +kernel, by decide +kernel⟩
def m__law_lead : SS :=
  (sSeq (sIfS (sT (s2 oLtI (sRV 2) (sRE (s1 oLen (sRV 0))))) (sRet (s2 oIx (sRV 0) (sRV 2))) (sNext))
  (sRet (s2 oAdd (sRE (s2 oIx (sRV 0) (sRE (s1 oNeg (sRE (sC (.int 1))))))) (sRE (s2 oMul (sRE (s2 oAdd (sRE (s2 oSub (sRV 2) (sRE (s1 oLen (sRV 0))))) (sRE (sC (.int 1))))) (sRV 1))))))
abbrev st__law_holds : Stmt := topS 17
abbrev N__law_holds : List Str := ["leads", "change", "word", "k", "pieces"]
theorem sc__law_holds : FnScope N__law_holds ["leads", "change", "word", "k"] (defScope st__law_holds) := ⟨rfl, rfl, rfl, by decide +kernel, rfl, by decide +kernel, by decide +kernel⟩
def b1__law_holds (F__law_side : Fn) : SS :=
  sIfS (sT (s2 oNe (sRE (sCall F__law_side (aCons (s2 oIx (sRV 0) (sRV 4)) aNil))) (sRV 2))) (sRet (sC (.bool false))) (sNext)
def m__law_holds (F__law_is_whole : Fn) (F__law_in_the_end : Fn) (F__law_side : Fn) (F__law_lead : Fn) : SS :=
  (sSeq (sIfS (sOr (sNot (sT (sCall F__law_is_whole (aCons (sVar 3) aNil)))) (sOr (sT (s2 oLtI (sRV 3) (sRE (sC (.int 1))))) (sT (s2 oNe (sRV 2) (sRE (sCall F__law_in_the_end (aCons (sVar 0) (aCons (sVar 1) aNil)))))))) (sRet (sC (.bool false))) (sNext))
  (sSeq (sFor (sRng2 (dCons (sVar 3) (dCons (s1 oLen (sRV 0)) dNil))) (sgName 4) (b1__law_holds F__law_side))
  (sSeq (sIfS (sT (s2 oNe (sRE (sCall F__law_side (aCons (sCall F__law_lead (aCons (sVar 0) (aCons (sVar 1) (aCons (sVar 3) aNil)))) aNil))) (sRV 2))) (sRet (sC (.bool false))) (sNext))
  (sRet (sOrV (s2 oEq (sRV 3) (sRE (sC (.int 1)))) (s2 oNe (sRE (sCall F__law_side (aCons (sCall F__law_lead (aCons (sVar 0) (aCons (sVar 1) (aCons (s2 oSub (sRV 3) (sRE (sC (.int 1)))) aNil)))) aNil))) (sRV 2)))))))
abbrev st__law_asks : Stmt := topS 18
abbrev N__law_asks : List Str := ["tariff", "other", "one", "two", "told", "leads", "change", "turned", "pieces"]
theorem sc__law_asks : FnScope N__law_asks ["tariff", "other"] (defScope st__law_asks) := ⟨rfl, rfl, rfl, by decide +kernel, rfl, by decide +kernel, by decide +kernel⟩
def pBig : SE := s2 oPow (sRE (sC (.int 10))) (sRE (sC (.int 20)))
def b1__law_asks (F_pay : Fn) (F__law_lead : Fn) : SS :=
  sIfS (sT (s2 oNe (sRE (s2 oSub (sRE (sCall F_pay (aCons (sVar 2) (aCons (sVar 8) aNil)))) (sRE (sCall F_pay (aCons (sVar 3) (aCons (sVar 8) aNil)))))) (sRE (sCall F__law_lead (aCons (sVar 5) (aCons (sVar 6) (aCons (sVar 8) aNil))))))) (sRet (sC (.bool false))) (sNext)
def m__law_asks (F_better_from : Fn) (F__law_leads : Fn) (F__law_holds : Fn) (F__law_side : Fn) (F_pay : Fn) (F__law_lead : Fn) : SS :=
  (sSeq (sAsg (s1 oList (sRV 0)) (sgName 2))
  (sSeq (sAsg (s1 oList (sRV 1)) (sgName 3))
  (sSeq (sAsg (sCall F_better_from (aCons (sVar 2) (aCons (sVar 3) aNil))) (sgName 4))
  (sSeq (sIfS (sOr (sT (s2 oNe (sRV 2) (sRV 0))) (sOr (sT (s2 oNe (sRV 3) (sRV 1))) (sOr (sNot (sT (s1 (oIsi "tuple") (sRV 4)))) (sT (s2 oNe (sRE (s1 oLen (sRV 4))) (sRE (sC (.int 2)))))))) (sRet (sC (.bool false))) (sNext))
  (sSeq (sAsg (sCall F__law_leads (aCons (sVar 0) (aCons (sVar 1) aNil))) (sgName 5))
  (sSeq (sAsg (s2 oSub (sRE (s2 oIx (sRE (s2 oIx (sRV 0) (sRE (s1 oNeg (sRE (sC (.int 1))))))) (sRE (sC (.int 1))))) (sRE (s2 oIx (sRE (s2 oIx (sRV 1) (sRE (s1 oNeg (sRE (sC (.int 1))))))) (sRE (sC (.int 1)))))) (sgName 6))
  (sSeq (sIfS (sNot (sT (sCall F__law_holds (aCons (sVar 5) (aCons (sVar 6) (aCons (s2 oIx (sRV 4) (sRE (sC (.int 0)))) (aCons (s2 oIx (sRV 4) (sRE (sC (.int 1)))) aNil))))))) (sRet (sC (.bool false))) (sNext))
  (sSeq (sAsg (sCall F_better_from (aCons (sVar 3) (aCons (sVar 2) aNil))) (sgName 7))
  (sSeq (sIfS (sT (s2 oNe (sRV 7) (sRE (sTup (dCons (sIf (sT (s2 oNe (sRV 6) (sRE (sC (.int 0))))) (sCall F__law_side (aCons (s1 oNeg (sRV 6)) aNil)) (sCall F__law_side (aCons (s1 oNeg (sRE (s2 oIx (sRV 5) (sRE (s1 oNeg (sRE (sC (.int 1)))))))) aNil))) (dCons (s2 oIx (sRV 4) (sRE (sC (.int 1)))) dNil)))))) (sRet (sC (.bool false))) (sNext))
  (sSeq (sFor (sIt (sLst (dCons (s2 oIx (sRV 4) (sRE (sC (.int 1)))) (dCons (s2 oAdd (sRE (s2 oIx (sRV 4) (sRE (sC (.int 1))))) (sRE (sC (.int 1)))) (dCons (s2 oSub (sRE (s2 oIx (sRV 4) (sRE (sC (.int 1))))) (sRE (sC (.int 1)))) (dCons (s2 oAdd (sRE (s2 oIx (sRV 4) (sRE (sC (.int 1))))) (sRE pBig)) dNil)))))) (sgName 8) (b1__law_asks F_pay F__law_lead))
  (sRet (sC (.bool true)))))))))))))
abbrev st_law : Stmt := topS 19
abbrev N_law : List Str := ["script", "feed", "turn", "tariff", "flat", "start"]
theorem sc_law : FnScope N_law ["script"] (defScope st_law) := ⟨rfl, rfl, rfl, by decide +kernel, rfl, by decide +kernel, by decide +kernel⟩
def b1_law (F__law_tariff : Fn) (F__law_second : Fn) (F__law_asks : Fn) : SS :=
  (sSeq (sAsg (sCall F__law_tariff (aCons (sVar 1) aNil)) (sgName 3))
  (sIfS (sNot (sT (sCall F__law_asks (aCons (sVar 3) (aCons (sCall F__law_second (aCons (sVar 1) (aCons (sVar 3) aNil))) aNil))))) (sRet (sC (.bool false))) (sNext)))
def m_law (F__law_tariff : Fn) (F__law_asks : Fn) (F__law_second : Fn) (F__law_draw : Fn) (F_better_from : Fn) : SS :=
  (sSeq (sFor (sRng1 (dCons (sC (.int 4)) dNil)) (sgName 2) (b1_law F__law_tariff F__law_second F__law_asks))
  (sSeq (sAsg (s2 oAdd (sRE (sC (.int 1))) (sRE (sCall F__law_draw (aCons (sVar 1) (aCons (sC (.int 998)) aNil))))) (sgName 4))
  (sSeq (sIfS (sOr (sT (s2 oNe (sRE (sCall F_better_from (aCons (sLst (dCons (sTup (dCons (sC (.int 1)) (dCons (sVar 4) dNil))) dNil)) (aCons (sLst (dCons (sTup (dCons (sC (.int 1)) (dCons (s2 oAdd (sRV 4) (sRE (sC (.int 1)))) dNil))) dNil)) aNil)))) (sRE (sTup (dCons (sC (.str "second")) (dCons (sC (.int 1)) dNil)))))) (sT (s2 oNe (sRE (sCall F_better_from (aCons (sLst (dCons (sTup (dCons (sC (.int 1)) (dCons (sVar 4) dNil))) dNil)) (aCons (sLst (dCons (sTup (dCons (sC (.int 1)) (dCons (sVar 4) dNil))) dNil)) aNil)))) (sRE (sTup (dCons (sC (.str "even")) (dCons (sC (.int 1)) dNil))))))) (sRet (sC (.bool false))) (sNext))
  (sSeq (sAsg (s2 oAdd (sRE (sC (.int 2))) (sRE (sCall F__law_draw (aCons (sVar 1) (aCons (sC (.int 998)) aNil))))) (sgName 5))
  (sSeq (sIfS (sT (s2 oNe (sRE (sCall F_better_from (aCons (sLst (dCons (sTup (dCons (sC (.int 1)) (dCons (sC (.int 0)) dNil))) (dCons (sTup (dCons (sVar 5) (dCons (sC (.int 1)) dNil))) dNil))) (aCons (sLst (dCons (sTup (dCons (sC (.int 1)) (dCons (sVar 4) dNil))) (dCons (sTup (dCons (sC (.int 2)) (dCons (sC (.int 0)) dNil))) dNil))) aNil)))) (sRE (sTup (dCons (sC (.str "first")) (dCons (s2 oAdd (sRV 5) (sRV 4)) dNil)))))) (sRet (sC (.bool false))) (sNext))
  (sSeq (sIfS (sT (s2 oNe (sRE (sCall F_better_from (aCons (sLst (dCons (sTup (dCons (sC (.int 1)) (dCons (sC (.int 2)) dNil))) (dCons (sTup (dCons (sC (.int 2)) (dCons (sC (.int 1)) dNil))) dNil))) (aCons (sLst (dCons (sTup (dCons (sC (.int 1)) (dCons (sC (.int 1)) dNil))) (dCons (sTup (dCons (sC (.int 2)) (dCons (sC (.int 2)) dNil))) dNil))) aNil)))) (sRE (sTup (dCons (sC (.str "second")) (dCons (sC (.int 3)) dNil)))))) (sRet (sC (.bool false))) (sNext))
  (sRet (s2 oEq (sRE (sCall F_better_from (aCons (sLst (dCons (sTup (dCons (sC (.int 1)) (dCons (sC (.int 2)) dNil))) (dCons (sTup (dCons (sC (.int 2)) (dCons (sC (.int 1)) dNil))) (dCons (sTup (dCons (sC (.int 3)) (dCons (sC (.int 7)) dNil))) dNil)))) (aCons (sLst (dCons (sTup (dCons (sC (.int 1)) (dCons (sC (.int 1)) dNil))) (dCons (sTup (dCons (sC (.int 2)) (dCons (sC (.int 2)) dNil))) (dCons (sTup (dCons (sC (.int 3)) (dCons (sC (.int 7)) dNil))) dNil)))) aNil)))) (sRE (sTup (dCons (sC (.str "even")) (dCons (sC (.int 2)) dNil))))))))))))
theorem d_pay {P : Program} {w : World} {K : PySem.W.Frag} {mg : Str → Option Value} {base : Heap} (b_enumerate : mg "enumerate" = none) (b_len : mg "len" = none) (b_min : mg "min" = none) {f : Addr} (cdv : Value) (A : Around) (outer : List Env) (s : Shared) (H : Hp) (E : XK) (Z : Zx) (hr : Room 0 (A.deeper (envOfC "pay" (defScope st_pay) s.heap.objs.size f cdv))) : PSs (cxOf CX0 P w K mg base N_pay "pay" (defScope st_pay) f cdv A outer s H E).nox (defBody st_pay) (tS Z (m_pay)) :=
  have nd := sc_pay.nd
  have hu65 := hu65_of hr
  (es_cons (es_set 2 nd ev_int)
  (es_cons (es_for PassesOwn.never rfl (ei_enum (by rfl) b_enumerate (ed_cons (ev_var 0) ed_nil)) (pg_tup rfl (pgs_cons (pg_name (i := 3) nd rfl (by first | exact Or.inl rfl | exact Or.inr rfl)) (pgs_cons (pg_tup rfl (pgs_cons (pg_name (i := 4) nd rfl (by first | exact Or.inl rfl | exact Or.inr rfl)) (pgs_cons (pg_name (i := 5) nd rfl (by first | exact Or.inl rfl | exact Or.inr rfl)) pgs_nil))) pgs_nil))) (show GTok [3, 4, 5] _ _ from GTok.tup (GTsok.cons (GTok.name 3 (by decide)) (GTsok.cons (GTok.tup (GTsok.cons (GTok.name 4 (by decide)) (GTsok.cons (GTok.name 5 (by decide)) (GTsok.nil)))) (GTsok.nil)))) (es_cons (es_set 6 nd (ev_var 1))
  (es_cons (es_if (et_cmp op_lt ok_ltI (er_of (ev_bin op_addD ok_add (er_var 3) (er_of ev_int))) (er_of (ev_b1 call_len ok_len (by rfl) b_len (by decide +kernel) (er_var 0))) (nomark _)) (es_one (es_set 6 nd (ev_b2 (call_min2 rfl) ok_min2 (by rfl) b_min (by decide +kernel) (er_var 1) (er_of (ev_bin op_sub ok_sub (er_of (ev_ix ix_seq ok_ix (er_of (ev_ix ix_seq ok_ix (er_var 0) (er_of (ev_bin op_addD ok_add (er_var 3) (er_of ev_int))) (fun _ _ => rfl))) (er_of ev_int) (fun _ _ => rfl))) (er_of ev_int)))))) es_nil)
  (es_one (es_if (et_cmp op_ge ok_geI (er_var 6) (er_var 4) (nomark _)) (es_one (es_aug 2 nd iop_addD ok_addI (ev_bin op_mulD ok_mul (er_var 5) (er_of (ev_bin op_addD ok_add (er_of (ev_bin op_sub ok_sub (er_var 6) (er_var 4))) (er_of ev_int)))))) es_nil)))))
  (es_one (es_retV 2))))
theorem d_side_of {P : Program} {w : World} {K : PySem.W.Frag} {mg : Str → Option Value} {base : Heap} {f : Addr} (cdv : Value) (A : Around) (outer : List Env) (s : Shared) (H : Hp) (E : XK) (Z : Zx) (hr : Room 0 (A.deeper (envOfC "side_of" (defScope st_side_of) s.heap.objs.size f cdv))) : PSs (cxOf CX0 P w K mg base N_side_of "side_of" (defScope st_side_of) f cdv A outer s H E).nox (defBody st_side_of) (tS Z (m_side_of)) :=
  have nd := sc_side_of.nd
  have hu65 := hu65_of hr
  (es_cons (es_if (et_cmp op_gt ok_gtI (er_var 0) (er_of ev_int) (nomark _)) (es_one (es_ret ev_int)) es_nil)
  (es_cons (es_if (et_cmp op_lt ok_ltI (er_var 0) (er_of ev_int) (nomark _)) (es_one (es_ret (ev_un un_neg ok_neg (er_of ev_int)))) es_nil)
  (es_one (es_ret ev_int))))
theorem d_lead {P : Program} {w : World} {K : PySem.W.Frag} {mg : Str → Option Value} {base : Heap} {XL_pay : XW} {F_pay : Fn} (C_pay : Cal P w K mg base CX0 1 "pay" ["tariff", "pieces"] XL_pay F_pay) {f : Addr} (cdv : Value) (A : Around) (outer : List Env) (s : Shared) (H : Hp) (E : XK) (Z : Zx) (hr : Room 1 (A.deeper (envOfC "lead" (defScope st_lead) s.heap.objs.size f cdv))) : PSs (cxOf CX0 P w K mg base N_lead "lead" (defScope st_lead) f cdv A outer s H E).nox (defBody st_lead) (tS Z (m_lead F_pay)) :=
  have nd := sc_lead.nd
  have hu65 := hu65_of hr
  (es_one (es_ret (ev_bin op_sub ok_sub (er_of (ev_callC C_pay hr (by rfl) (ea_cons (ev_var 0) (ea_cons (ev_var 2) ea_nil)))) (er_of (ev_callC C_pay hr (by rfl) (ea_cons (ev_var 1) (ea_cons (ev_var 2) ea_nil)))))))
theorem d_better_from {P : Program} {w : World} {K : PySem.W.Frag} {mg : Str → Option Value} {base : Heap} (b_max : mg "max" = none) (b_abs : mg "abs" = none) (g_WORDS : GDictI K mg "WORDS" [(1, "first"), ((-1), "second"), (0, "even")]) {XL_lead : XW} {F_lead : Fn} (C_lead : Cal P w K mg base CX0 2 "lead" ["tariff", "other", "pieces"] XL_lead F_lead) {XL_side_of : XW} {F_side_of : Fn} (C_side_of : Cal P w K mg base CX0 1 "side_of" ["number"] XL_side_of F_side_of) {f : Addr} (cdv : Value) (A : Around) (outer : List Env) (s : Shared) (H : Hp) (E : XK) (Z : Zx) (hr : Room 2 (A.deeper (envOfC "better_from" (defScope st_better_from) s.heap.objs.size f cdv))) : PSs (cxOf CX0 P w K mg base N_better_from "better_from" (defScope st_better_from) f cdv A outer s H E).nox (defBody st_better_from) (tS Z (m_better_from F_lead F_side_of)) :=
  have nd := sc_better_from.nd
  have hu65 := hu65_of hr
  (es_cons (es_set 2 nd (ev_b2 (call_max2 rfl) ok_max2 (by rfl) b_max (by decide +kernel) (er_of (ev_ix ix_seq ok_ix (er_of (ev_ix ix_seq ok_ix (er_var 0) (er_of (ev_un un_neg ok_neg (er_of ev_int))) (fun _ _ => rfl))) (er_of ev_int) (fun _ _ => rfl))) (er_of (ev_ix ix_seq ok_ix (er_of (ev_ix ix_seq ok_ix (er_var 1) (er_of (ev_un un_neg ok_neg (er_of ev_int))) (fun _ _ => rfl))) (er_of ev_int) (fun _ _ => rfl)))))
  (es_cons (es_set 3 nd (ev_bin op_sub ok_sub (er_of (ev_ix ix_seq ok_ix (er_of (ev_ix ix_seq ok_ix (er_var 0) (er_of (ev_un un_neg ok_neg (er_of ev_int))) (fun _ _ => rfl))) (er_of ev_int) (fun _ _ => rfl))) (er_of (ev_ix ix_seq ok_ix (er_of (ev_ix ix_seq ok_ix (er_var 1) (er_of (ev_un un_neg ok_neg (er_of ev_int))) (fun _ _ => rfl))) (er_of ev_int) (fun _ _ => rfl)))))
  (es_cons (es_set 4 nd (ev_callC C_lead hr (by rfl) (ea_cons (ev_var 0) (ea_cons (ev_var 1) (ea_cons (ev_var 2) ea_nil)))))
  (es_cons (es_set 5 nd (ev_ifExp (et_cmp (op_neX hr.units) ok_ne (er_var 3) (er_of ev_int) (nomark _)) (ev_callC C_side_of hr (by rfl) (ea_cons (ev_var 3) ea_nil)) (ev_callC C_side_of hr (by rfl) (ea_cons (ev_var 4) ea_nil))))
  (es_cons (es_if (PW.pt (ew_and (et_cmp (op_neX hr.units) ok_ne (er_var 5) (er_of ev_int) (nomark _)) (ew_and1 (et_cmp (op_neX hr.units) ok_ne (er_of (ev_callC C_side_of hr (by rfl) (ea_cons (ev_var 4) ea_nil))) (er_var 5) (nomark _))))) (es_one (es_ret (ev_tup (ed_cons (ev_ixG (by rfl) g_WORDS (er_var 5) (fun _ _ => rfl)) (ed_cons (ev_bin op_addD ok_add (er_of (ev_bin op_addD ok_add (er_var 2) (er_of (ev_bin op_fdiv ok_fdiv (er_of (ev_b1 call_abs ok_abs (by rfl) b_abs (by decide +kernel) (er_var 4))) (er_of (ev_b1 call_abs ok_abs (by rfl) b_abs (by decide +kernel) (er_var 3))))))) (er_of ev_int)) ed_nil))))) es_nil)
  (es_cons (es_set 6 nd (ev_var 2))
  (es_cons (es_while PassesOwn.never (PW.pt (ew_and (et_cmp op_gt ok_gtI (er_var 6) (er_of ev_int) (nomark _)) (ew_and1 (et_cmp (op_eqX hr.units) ok_eq (er_of (ev_callC C_side_of hr (by rfl) (ea_cons (ev_callC C_lead hr (by rfl) (ea_cons (ev_var 0) (ea_cons (ev_var 1) (ea_cons (ev_bin op_sub ok_sub (er_var 6) (er_of ev_int)) ea_nil)))) ea_nil))) (er_var 5) (nomark _))))) (es_one (es_aug 6 nd iop_sub ok_sub ev_int)))
  (es_one (es_ret (ev_tup (ed_cons (ev_ixG (by rfl) g_WORDS (er_var 5) (fun _ _ => rfl)) (ed_cons (ev_var 6) ed_nil))))))))))))
theorem d__law_is_whole {P : Program} {w : World} {K : PySem.W.Frag} {mg : Str → Option Value} {base : Heap} (b_isinstance : mg "isinstance" = none) (b_int : mg "int" = none) (b_bool : mg "bool" = none) {f : Addr} (cdv : Value) (A : Around) (outer : List Env) (s : Shared) (H : Hp) (E : XK) (Z : Zx) (hr : Room 0 (A.deeper (envOfC "_law_is_whole" (defScope st__law_is_whole) s.heap.objs.size f cdv))) : PSs (cxOf CX0 P w K mg base N__law_is_whole "_law_is_whole" (defScope st__law_is_whole) f cdv A outer s H E).nox (defBody st__law_is_whole) (tS Z (m__law_is_whole)) :=
  have nd := sc__law_is_whole.nd
  have hu65 := hu65_of hr
  (es_one (es_ret (ev_and (ev_isi "int" (by decide) (by rfl) b_isinstance (by rfl) b_int (by decide +kernel) (er_var 0)) (ev_one (ev_not (ev_isi "bool" (by decide) (by rfl) b_isinstance (by rfl) b_bool (by decide +kernel) (er_var 0)))))))
theorem d__law_tariff {P : Program} {w : World} {K : PySem.W.Frag} {mg : Str → Option Value} {base : Heap} (b_range : mg "range" = none) {XL__law_draw : XW} {F__law_draw : Fn} (C__law_draw : Cal P w K mg base CX0 1 "_law_draw" ["feed", "many"] XL__law_draw F__law_draw) {f : Addr} (cdv : Value) (A : Around) (outer : List Env) (s : Shared) (H : Hp) (E : XK) (Z : Zx) (hr : Room 1 (A.deeper (envOfC "_law_tariff" (defScope st__law_tariff) s.heap.objs.size f cdv))) : PSs (cxOf CX0 P w K mg base N__law_tariff "_law_tariff" (defScope st__law_tariff) f cdv A outer s H E).nox (defBody st__law_tariff) (tS Z (m__law_tariff F__law_draw)) :=
  have nd := sc__law_tariff.nd
  have hu65 := hu65_of hr
  (es_cons (es_set 1 nd (ev_ix ix_seq ok_ix (er_of (ev_lst (ed_cons ev_int (ed_cons ev_int (ed_cons ev_int (ed_cons ev_int ed_nil)))))) (er_of (ev_callC C__law_draw hr (by rfl) (ea_cons (ev_var 0) (ea_cons ev_int ea_nil)))) (fun _ _ => rfl)))
  (es_cons (es_set 2 nd (ev_ix ix_seq ok_ix (er_of (ev_lst (ed_cons ev_int (ed_cons ev_int (ed_cons ev_int ed_nil))))) (er_of (ev_callC C__law_draw hr (by rfl) (ea_cons (ev_var 0) (ea_cons ev_int ea_nil)))) (fun _ _ => rfl)))
  (es_cons (es_set 3 nd ev_int)
  (es_cons (es_set 4 nd (ev_lst (ed_cons (ev_tup (ed_cons ev_int (ed_cons (ev_callC C__law_draw hr (by rfl) (ea_cons (ev_var 0) (ea_cons (ev_var 2) ea_nil))) ed_nil))) ed_nil)))
  (es_cons (es_for PassesOwn.never rfl (ei_range1 (by rfl) b_range (ed_cons (ev_callC C__law_draw hr (by rfl) (ea_cons (ev_var 0) (ea_cons ev_int ea_nil))) ed_nil)) (pg_name (i := 5) nd rfl (by first | exact Or.inl rfl | exact Or.inr rfl)) (show GTok [5] _ _ from GTok.name 5 (by decide)) (es_cons (es_aug 3 nd iop_addD ok_addI (ev_bin op_addD ok_add (er_of ev_int) (er_of (ev_callC C__law_draw hr (by rfl) (ea_cons (ev_var 0) (ea_cons (ev_var 1) ea_nil))))))
  (es_one (es_if (et_cmp op_le ok_leI (er_var 3) (er_of ev_int) (nomark _)) (es_one (es_expr (ev_meth 4 PySem.F.plainAttrs_list PySem.F.slot_list_append PySem.F.type_list_append mt_append ok_append (pv 4) (ed_cons (ev_tup (ed_cons (ev_var 3) (ed_cons (ev_callC C__law_draw hr (by rfl) (ea_cons (ev_var 0) (ea_cons (ev_var 2) ea_nil))) ed_nil))) ed_nil)))) es_nil))))
  (es_one (es_retV 4)))))))
theorem d__law_second {P : Program} {w : World} {K : PySem.W.Frag} {mg : Str → Option Value} {base : Heap} (b_len : mg "len" = none) (b_max : mg "max" = none) (b_list : mg "list" = none) {XL__law_draw : XW} {F__law_draw : Fn} (C__law_draw : Cal P w K mg base CX0 1 "_law_draw" ["feed", "many"] XL__law_draw F__law_draw) {XL__law_tariff : XW} {F__law_tariff : Fn} (C__law_tariff : Cal P w K mg base CX0 2 "_law_tariff" ["feed"] XL__law_tariff F__law_tariff) {f : Addr} (cdv : Value) (A : Around) (outer : List Env) (s : Shared) (H : Hp) (E : XK) (Z : Zx) (hr : Room 2 (A.deeper (envOfC "_law_second" (defScope st__law_second) s.heap.objs.size f cdv))) : PSs (cxOf CX0 P w K mg base N__law_second "_law_second" (defScope st__law_second) f cdv A outer s H E).nox (defBody st__law_second) (tS Z (m__law_second F__law_draw F__law_tariff)) :=
  have nd := sc__law_second.nd
  have hu65 := hu65_of hr
  (es_cons (es_set 2 nd (ev_callC C__law_draw hr (by rfl) (ea_cons (ev_var 0) (ea_cons ev_int ea_nil))))
  (es_cons (es_set 3 nd (ev_callC C__law_draw hr (by rfl) (ea_cons (ev_var 0) (ea_cons (ev_b1 call_len ok_len (by rfl) b_len (by decide +kernel) (er_var 1)) ea_nil))))
  (es_cons (es_if (et_cmp op_lt ok_ltI (er_var 2) (er_of ev_int) (nomark _)) (es_one (es_ret (ev_callC C__law_tariff hr (by rfl) (ea_cons (ev_var 0) ea_nil)))) es_nil)
  (es_cons (es_if (et_cmp (op_eqX hr.units) ok_eq (er_var 2) (er_of ev_int) (nomark _)) (es_one (es_ret (ev_bin op_addD ok_add (er_of (ev_bin op_addD ok_add (er_of (ev_slice (er_var 1) eo_none (eo_some (er_var 3)))) (er_of (ev_lst (ed_cons (ev_tup (ed_cons (ev_ix ix_seq ok_ix (er_of (ev_ix ix_seq ok_ix (er_var 1) (er_var 3) (fun _ _ => rfl))) (er_of ev_int) (fun _ _ => rfl)) (ed_cons (ev_callC C__law_draw hr (by rfl) (ea_cons (ev_var 0) (ea_cons ev_int ea_nil))) ed_nil))) ed_nil))))) (er_of (ev_slice (er_var 1) (eo_some (er_of (ev_bin op_addD ok_add (er_var 3) (er_of ev_int)))) eo_none))))) es_nil)
  (es_cons (es_if (et_cmp (op_eqX hr.units) ok_eq (er_var 2) (er_of ev_int) (nomark _)) (es_one (es_ret (ev_bin op_addD ok_add (er_of (ev_bin op_addD ok_add (er_of (ev_slice (er_var 1) eo_none (eo_some (er_var 3)))) (er_of (ev_lst (ed_cons (ev_tup (ed_cons (ev_ix ix_seq ok_ix (er_of (ev_ix ix_seq ok_ix (er_var 1) (er_var 3) (fun _ _ => rfl))) (er_of ev_int) (fun _ _ => rfl)) (ed_cons (ev_b2 (call_max2 rfl) ok_max2 (by rfl) b_max (by decide +kernel) (er_of ev_int) (er_of (ev_bin op_sub ok_sub (er_of (ev_ix ix_seq ok_ix (er_of (ev_ix ix_seq ok_ix (er_var 1) (er_var 3) (fun _ _ => rfl))) (er_of ev_int) (fun _ _ => rfl))) (er_of ev_int)))) ed_nil))) ed_nil))))) (er_of (ev_slice (er_var 1) (eo_some (er_of (ev_bin op_addD ok_add (er_var 3) (er_of ev_int)))) eo_none))))) es_nil)
  (es_cons (es_if (PW.pt (ew_and (et_cmp (op_eqX hr.units) ok_eq (er_var 2) (er_of ev_int) (nomark _)) (ew_and (et_cmp op_gt ok_gtI (er_of (ev_b1 call_len ok_len (by rfl) b_len (by decide +kernel) (er_var 1))) (er_of ev_int) (nomark _)) (ew_and (et_cmp (op_eqX hr.units) ok_eq (er_of (ev_ix ix_seq ok_ix (er_of (ev_ix ix_seq ok_ix (er_var 1) (er_of ev_int) (fun _ _ => rfl))) (er_of ev_int) (fun _ _ => rfl))) (er_of ev_int) (nomark _)) (ew_and1 (et_cmp (op_eqX hr.units) ok_eq (er_of (ev_ix ix_seq ok_ix (er_of (ev_ix ix_seq ok_ix (er_var 1) (er_of ev_int) (fun _ _ => rfl))) (er_of ev_int) (fun _ _ => rfl))) (er_of ev_int) (nomark _))))))) (es_one (es_ret (ev_bin op_addD ok_add (er_of (ev_lst (ed_cons (ev_tup (ed_cons ev_int (ed_cons (ev_ix ix_seq ok_ix (er_of (ev_ix ix_seq ok_ix (er_var 1) (er_of ev_int) (fun _ _ => rfl))) (er_of ev_int) (fun _ _ => rfl)) ed_nil))) (ed_cons (ev_tup (ed_cons ev_int (ed_cons (ev_ix ix_seq ok_ix (er_of (ev_ix ix_seq ok_ix (er_var 1) (er_of ev_int) (fun _ _ => rfl))) (er_of ev_int) (fun _ _ => rfl)) ed_nil))) ed_nil)))) (er_of (ev_slice (er_var 1) (eo_some (er_of ev_int)) eo_none))))) es_nil)
  (es_one (es_ret (ev_t1 call_list_of ok_list (by rfl) b_list (by decide +kernel) (er_var 1))))))))))
theorem d__law_rate {P : Program} {w : World} {K : PySem.W.Frag} {mg : Str → Option Value} {base : Heap} {f : Addr} (cdv : Value) (A : Around) (outer : List Env) (s : Shared) (H : Hp) (E : XK) (Z : Zx) (hr : Room 0 (A.deeper (envOfC "_law_rate" (defScope st__law_rate) s.heap.objs.size f cdv))) : PSs (cxOf CX0 P w K mg base N__law_rate "_law_rate" (defScope st__law_rate) f cdv A outer s H E).nox (defBody st__law_rate) (tS Z (m__law_rate)) :=
  have nd := sc__law_rate.nd
  have hu65 := hu65_of hr
  (es_cons (es_set 2 nd ev_int)
  (es_cons (es_for PassesOwn.never rfl (ei_any (ev_var 0)) (pg_tup rfl (pgs_cons (pg_name (i := 3) nd rfl (by first | exact Or.inl rfl | exact Or.inr rfl)) (pgs_cons (pg_name (i := 4) nd rfl (by first | exact Or.inl rfl | exact Or.inr rfl)) pgs_nil))) (show GTok [3, 4] _ _ from GTok.tup (GTsok.cons (GTok.name 3 (by decide)) (GTsok.cons (GTok.name 4 (by decide)) (GTsok.nil)))) (es_one (es_if (et_cmp op_le ok_leI (er_var 3) (er_var 1) (nomark _)) (es_one (es_set 2 nd (ev_var 4))) es_nil)))
  (es_one (es_retV 2))))
theorem d__law_side {P : Program} {w : World} {K : PySem.W.Frag} {mg : Str → Option Value} {base : Heap} {f : Addr} (cdv : Value) (A : Around) (outer : List Env) (s : Shared) (H : Hp) (E : XK) (Z : Zx) (hr : Room 0 (A.deeper (envOfC "_law_side" (defScope st__law_side) s.heap.objs.size f cdv))) : PSs (cxOf CX0 P w K mg base N__law_side "_law_side" (defScope st__law_side) f cdv A outer s H E).nox (defBody st__law_side) (tS Z (m__law_side)) :=
  have nd := sc__law_side.nd
  have hu65 := hu65_of hr
  (es_cons (es_if (et_cmp op_gt ok_gtI (er_var 0) (er_of ev_int) (nomark _)) (es_one (es_ret ev_str)) es_nil)
  (es_cons (es_if (et_cmp op_lt ok_ltI (er_var 0) (er_of ev_int) (nomark _)) (es_one (es_ret ev_str)) es_nil)
  (es_one (es_ret ev_str))))
theorem d__law_leads {P : Program} {w : World} {K : PySem.W.Frag} {mg : Str → Option Value} {base : Heap} (b_max : mg "max" = none) (b_range : mg "range" = none) {XL__law_rate : XW} {F__law_rate : Fn} (C__law_rate : Cal P w K mg base CX0 1 "_law_rate" ["tariff", "piece"] XL__law_rate F__law_rate) {f : Addr} (cdv : Value) (A : Around) (outer : List Env) (s : Shared) (H : Hp) (E : XK) (Z : Zx) (hr : Room 1 (A.deeper (envOfC "_law_leads" (defScope st__law_leads) s.heap.objs.size f cdv))) : PSs (cxOf CX0 P w K mg base N__law_leads "_law_leads" (defScope st__law_leads) f cdv A outer s H E).nox (defBody st__law_leads) (tS Z (m__law_leads F__law_rate)) :=
  have nd := sc__law_leads.nd
  have hu65 := hu65_of hr
  (es_cons (es_set 2 nd (ev_b2 (call_max2 rfl) ok_max2 (by rfl) b_max (by decide +kernel) (er_of (ev_ix ix_seq ok_ix (er_of (ev_ix ix_seq ok_ix (er_var 0) (er_of (ev_un un_neg ok_neg (er_of ev_int))) (fun _ _ => rfl))) (er_of ev_int) (fun _ _ => rfl))) (er_of (ev_ix ix_seq ok_ix (er_of (ev_ix ix_seq ok_ix (er_var 1) (er_of (ev_un un_neg ok_neg (er_of ev_int))) (fun _ _ => rfl))) (er_of ev_int) (fun _ _ => rfl)))))
  (es_cons (es_set 3 nd (ev_lst (ed_cons ev_int ed_nil)))
  (es_cons (es_for PassesOwn.never rfl (ei_range2 (by rfl) b_range (ed_cons ev_int (ed_cons (ev_bin op_addD ok_add (er_var 2) (er_of ev_int)) ed_nil))) (pg_name (i := 4) nd rfl (by first | exact Or.inl rfl | exact Or.inr rfl)) (show GTok [4] _ _ from GTok.name 4 (by decide)) (es_one (es_expr (ev_meth 3 PySem.F.plainAttrs_list PySem.F.slot_list_append PySem.F.type_list_append mt_append ok_append (pv 3) (ed_cons (ev_bin op_sub ok_sub (er_of (ev_bin op_addD ok_add (er_of (ev_ix ix_seq ok_ix (er_var 3) (er_of (ev_un un_neg ok_neg (er_of ev_int))) (fun _ _ => rfl))) (er_of (ev_callC C__law_rate hr (by rfl) (ea_cons (ev_var 0) (ea_cons (ev_var 4) ea_nil)))))) (er_of (ev_callC C__law_rate hr (by rfl) (ea_cons (ev_var 1) (ea_cons (ev_var 4) ea_nil))))) ed_nil)))))
  (es_one (es_retV 3)))))
theorem d__law_in_the_end {P : Program} {w : World} {K : PySem.W.Frag} {mg : Str → Option Value} {base : Heap} {XL__law_side : XW} {F__law_side : Fn} (C__law_side : Cal P w K mg base CX0 1 "_law_side" ["number"] XL__law_side F__law_side) {f : Addr} (cdv : Value) (A : Around) (outer : List Env) (s : Shared) (H : Hp) (E : XK) (Z : Zx) (hr : Room 1 (A.deeper (envOfC "_law_in_the_end" (defScope st__law_in_the_end) s.heap.objs.size f cdv))) : PSs (cxOf CX0 P w K mg base N__law_in_the_end "_law_in_the_end" (defScope st__law_in_the_end) f cdv A outer s H E).nox (defBody st__law_in_the_end) (tS Z (m__law_in_the_end F__law_side)) :=
  have nd := sc__law_in_the_end.nd
  have hu65 := hu65_of hr
  (es_cons (es_if (et_cmp (op_neX hr.units) ok_ne (er_var 1) (er_of ev_int) (nomark _)) (es_one (es_ret (ev_callC C__law_side hr (by rfl) (ea_cons (ev_var 1) ea_nil)))) es_nil)
  (es_one (es_ret (ev_callC C__law_side hr (by rfl) (ea_cons (ev_ix ix_seq ok_ix (er_var 0) (er_of (ev_un un_neg ok_neg (er_of ev_int))) (fun _ _ => rfl)) ea_nil)))))
theorem d__law_lead {P : Program} {w : World} {K : PySem.W.Frag} {mg : Str → Option Value} {base : Heap} (b_len : mg "len" = none) {f : Addr} (cdv : Value) (A : Around) (outer : List Env) (s : Shared) (H : Hp) (E : XK) (Z : Zx) (hr : Room 0 (A.deeper (envOfC "_law_lead" (defScope st__law_lead) s.heap.objs.size f cdv))) : PSs (cxOf CX0 P w K mg base N__law_lead "_law_lead" (defScope st__law_lead) f cdv A outer s H E).nox (defBody st__law_lead) (tS Z (m__law_lead)) :=
  have nd := sc__law_lead.nd
  have hu65 := hu65_of hr
  (es_cons (es_if (et_cmp op_lt ok_ltI (er_var 2) (er_of (ev_b1 call_len ok_len (by rfl) b_len (by decide +kernel) (er_var 0))) (nomark _)) (es_one (es_ret (ev_ix ix_seq ok_ix (er_var 0) (er_var 2) (fun _ _ => rfl)))) es_nil)
  (es_one (es_ret (ev_bin op_addD ok_add (er_of (ev_ix ix_seq ok_ix (er_var 0) (er_of (ev_un un_neg ok_neg (er_of ev_int))) (fun _ _ => rfl))) (er_of (ev_bin op_mulD ok_mul (er_of (ev_bin op_addD ok_add (er_of (ev_bin op_sub ok_sub (er_var 2) (er_of (ev_b1 call_len ok_len (by rfl) b_len (by decide +kernel) (er_var 0))))) (er_of ev_int))) (er_var 1)))))))
theorem d__law_holds {P : Program} {w : World} {K : PySem.W.Frag} {mg : Str → Option Value} {base : Heap} (b_range : mg "range" = none) (b_len : mg "len" = none) {XL__law_is_whole : XW} {F__law_is_whole : Fn} (C__law_is_whole : Cal P w K mg base CX0 1 "_law_is_whole" ["x"] XL__law_is_whole F__law_is_whole) {XL__law_in_the_end : XW} {F__law_in_the_end : Fn} (C__law_in_the_end : Cal P w K mg base CX0 2 "_law_in_the_end" ["leads", "change"] XL__law_in_the_end F__law_in_the_end) {XL__law_side : XW} {F__law_side : Fn} (C__law_side : Cal P w K mg base CX0 1 "_law_side" ["number"] XL__law_side F__law_side) {XL__law_lead : XW} {F__law_lead : Fn} (C__law_lead : Cal P w K mg base CX0 1 "_law_lead" ["leads", "change", "pieces"] XL__law_lead F__law_lead) {f : Addr} (cdv : Value) (A : Around) (outer : List Env) (s : Shared) (H : Hp) (E : XK) (Z : Zx) (hr : Room 2 (A.deeper (envOfC "_law_holds" (defScope st__law_holds) s.heap.objs.size f cdv))) : PSs (cxOf CX0 P w K mg base N__law_holds "_law_holds" (defScope st__law_holds) f cdv A outer s H E).nox (defBody st__law_holds) (tS Z (m__law_holds F__law_is_whole F__law_in_the_end F__law_side F__law_lead)) :=
  have nd := sc__law_holds.nd
  have hu65 := hu65_of hr
  (es_cons (es_if (PW.pt (ew_or (et_not (et_val (ev_callC C__law_is_whole hr (by rfl) (ea_cons (ev_var 3) ea_nil)))) (ew_or (et_cmp op_lt ok_ltI (er_var 3) (er_of ev_int) (nomark _)) (ew_or1 (et_cmp (op_neX hr.units) ok_ne (er_var 2) (er_of (ev_callC C__law_in_the_end hr (by rfl) (ea_cons (ev_var 0) (ea_cons (ev_var 1) ea_nil)))) (nomark _)))))) (es_one (es_ret ev_bl)) es_nil)
  (es_cons (es_for PassesOwn.never rfl (ei_range2 (by rfl) b_range (ed_cons (ev_var 3) (ed_cons (ev_b1 call_len ok_len (by rfl) b_len (by decide +kernel) (er_var 0)) ed_nil))) (pg_name (i := 4) nd rfl (by first | exact Or.inl rfl | exact Or.inr rfl)) (show GTok [4] _ _ from GTok.name 4 (by decide)) (es_one (es_if (et_cmp (op_neX hr.units) ok_ne (er_of (ev_callC C__law_side hr (by rfl) (ea_cons (ev_ix ix_seq ok_ix (er_var 0) (er_var 4) (fun _ _ => rfl)) ea_nil))) (er_var 2) (nomark _)) (es_one (es_ret ev_bl)) es_nil)))
  (es_cons (es_if (et_cmp (op_neX hr.units) ok_ne (er_of (ev_callC C__law_side hr (by rfl) (ea_cons (ev_callC C__law_lead hr (by rfl) (ea_cons (ev_var 0) (ea_cons (ev_var 1) (ea_cons (ev_var 3) ea_nil)))) ea_nil))) (er_var 2) (nomark _)) (es_one (es_ret ev_bl)) es_nil)
  (es_one (es_ret (ev_or (ev_cmp (op_eqX hr.units) ok_eq (er_var 3) (er_of ev_int) (nomark _)) (ev_one (ev_cmp (op_neX hr.units) ok_ne (er_of (ev_callC C__law_side hr (by rfl) (ea_cons (ev_callC C__law_lead hr (by rfl) (ea_cons (ev_var 0) (ea_cons (ev_var 1) (ea_cons (ev_bin op_sub ok_sub (er_var 3) (er_of ev_int)) ea_nil)))) ea_nil))) (er_var 2) (nomark _)))))))))
theorem d__law_asks {P : Program} {w : World} {K : PySem.W.Frag} {mg : Str → Option Value} {base : Heap} (b_list : mg "list" = none) (b_isinstance : mg "isinstance" = none) (b_tuple : mg "tuple" = none) (b_len : mg "len" = none) {XL_better_from : XW} {F_better_from : Fn} (C_better_from : Cal P w K mg base CX0 3 "better_from" ["tariff", "other"] XL_better_from F_better_from) {XL__law_leads : XW} {F__law_leads : Fn} (C__law_leads : Cal P w K mg base CX0 2 "_law_leads" ["tariff", "other"] XL__law_leads F__law_leads) {XL__law_holds : XW} {F__law_holds : Fn} (C__law_holds : Cal P w K mg base CX0 3 "_law_holds" ["leads", "change", "word", "k"] XL__law_holds F__law_holds) {XL__law_side : XW} {F__law_side : Fn} (C__law_side : Cal P w K mg base CX0 1 "_law_side" ["number"] XL__law_side F__law_side) {XL_pay : XW} {F_pay : Fn} (C_pay : Cal P w K mg base CX0 1 "pay" ["tariff", "pieces"] XL_pay F_pay) {XL__law_lead : XW} {F__law_lead : Fn} (C__law_lead : Cal P w K mg base CX0 1 "_law_lead" ["leads", "change", "pieces"] XL__law_lead F__law_lead) {f : Addr} (cdv : Value) (A : Around) (outer : List Env) (s : Shared) (H : Hp) (E : XK) (Z : Zx) (hr : Room 3 (A.deeper (envOfC "_law_asks" (defScope st__law_asks) s.heap.objs.size f cdv))) : PSs (cxOf CX0 P w K mg base N__law_asks "_law_asks" (defScope st__law_asks) f cdv A outer s H E).nox (defBody st__law_asks) (tS Z (m__law_asks F_better_from F__law_leads F__law_holds F__law_side F_pay F__law_lead)) :=
  have nd := sc__law_asks.nd
  have hu65 := hu65_of hr
  (es_cons (es_set 2 nd (ev_t1 call_list_of ok_list (by rfl) b_list (by decide +kernel) (er_var 0)))
  (es_cons (es_set 3 nd (ev_t1 call_list_of ok_list (by rfl) b_list (by decide +kernel) (er_var 1)))
  (es_cons (es_set 4 nd (ev_callC C_better_from hr (by rfl) (ea_cons (ev_var 2) (ea_cons (ev_var 3) ea_nil))))
  (es_cons (es_if (PW.pt (ew_or (et_cmp (op_neX hr.units) ok_ne (er_var 2) (er_var 0) (nomark _)) (ew_or (et_cmp (op_neX hr.units) ok_ne (er_var 3) (er_var 1) (nomark _)) (ew_or (et_not (et_val (ev_isi "tuple" (by decide) (by rfl) b_isinstance (by rfl) b_tuple (by decide +kernel) (er_var 4)))) (ew_or1 (et_cmp (op_neX hr.units) ok_ne (er_of (ev_b1 call_len ok_len (by rfl) b_len (by decide +kernel) (er_var 4))) (er_of ev_int) (nomark _))))))) (es_one (es_ret ev_bl)) es_nil)
  (es_cons (es_set 5 nd (ev_callC C__law_leads hr (by rfl) (ea_cons (ev_var 0) (ea_cons (ev_var 1) ea_nil))))
  (es_cons (es_set 6 nd (ev_bin op_sub ok_sub (er_of (ev_ix ix_seq ok_ix (er_of (ev_ix ix_seq ok_ix (er_var 0) (er_of (ev_un un_neg ok_neg (er_of ev_int))) (fun _ _ => rfl))) (er_of ev_int) (fun _ _ => rfl))) (er_of (ev_ix ix_seq ok_ix (er_of (ev_ix ix_seq ok_ix (er_var 1) (er_of (ev_un un_neg ok_neg (er_of ev_int))) (fun _ _ => rfl))) (er_of ev_int) (fun _ _ => rfl)))))
  (es_cons (es_if (et_not (et_val (ev_callC C__law_holds hr (by rfl) (ea_cons (ev_var 5) (ea_cons (ev_var 6) (ea_cons (ev_ix ix_seq ok_ix (er_var 4) (er_of ev_int) (fun _ _ => rfl)) (ea_cons (ev_ix ix_seq ok_ix (er_var 4) (er_of ev_int) (fun _ _ => rfl)) ea_nil))))))) (es_one (es_ret ev_bl)) es_nil)
  (es_cons (es_set 7 nd (ev_callC C_better_from hr (by rfl) (ea_cons (ev_var 3) (ea_cons (ev_var 2) ea_nil))))
  (es_cons (es_if (et_cmp (op_neX hr.units) ok_ne (er_var 7) (er_of (ev_tup (ed_cons (ev_ifExp (et_cmp (op_neX hr.units) ok_ne (er_var 6) (er_of ev_int) (nomark _)) (ev_callC C__law_side hr (by rfl) (ea_cons (ev_un un_neg ok_neg (er_var 6)) ea_nil)) (ev_callC C__law_side hr (by rfl) (ea_cons (ev_un un_neg ok_neg (er_of (ev_ix ix_seq ok_ix (er_var 5) (er_of (ev_un un_neg ok_neg (er_of ev_int))) (fun _ _ => rfl)))) ea_nil))) (ed_cons (ev_ix ix_seq ok_ix (er_var 4) (er_of ev_int) (fun _ _ => rfl)) ed_nil)))) (nomark _)) (es_one (es_ret ev_bl)) es_nil)
  (es_cons (es_for PassesOwn.never rfl (ei_any (ev_lst (ed_cons (ev_ix ix_seq ok_ix (er_var 4) (er_of ev_int) (fun _ _ => rfl)) (ed_cons (ev_bin op_addD ok_add (er_of (ev_ix ix_seq ok_ix (er_var 4) (er_of ev_int) (fun _ _ => rfl))) (er_of ev_int)) (ed_cons (ev_bin op_sub ok_sub (er_of (ev_ix ix_seq ok_ix (er_var 4) (er_of ev_int) (fun _ _ => rfl))) (er_of ev_int)) (ed_cons (ev_bin op_addD ok_add (er_of (ev_ix ix_seq ok_ix (er_var 4) (er_of ev_int) (fun _ _ => rfl))) (er_of (ev_bin op_pow ok_pow (er_of ev_int) (er_of ev_int)))) ed_nil)))))) (pg_name (i := 8) nd rfl (by first | exact Or.inl rfl | exact Or.inr rfl)) (show GTok [8] _ _ from GTok.name 8 (by decide)) (es_one (es_if (et_cmp (op_neX hr.units) ok_ne (er_of (ev_bin op_sub ok_sub (er_of (ev_callC C_pay hr (by rfl) (ea_cons (ev_var 2) (ea_cons (ev_var 8) ea_nil)))) (er_of (ev_callC C_pay hr (by rfl) (ea_cons (ev_var 3) (ea_cons (ev_var 8) ea_nil)))))) (er_of (ev_callC C__law_lead hr (by rfl) (ea_cons (ev_var 5) (ea_cons (ev_var 6) (ea_cons (ev_var 8) ea_nil))))) (nomark _)) (es_one (es_ret ev_bl)) es_nil)))
  (es_one (es_ret ev_bl))))))))))))
theorem d_law {P : Program} {w : World} {K : PySem.W.Frag} {mg : Str → Option Value} {base : Heap} (b_range : mg "range" = none) {XL__law_tariff : XW} {F__law_tariff : Fn} (C__law_tariff : Cal P w K mg base CX0 2 "_law_tariff" ["feed"] XL__law_tariff F__law_tariff) {XL__law_asks : XW} {F__law_asks : Fn} (C__law_asks : Cal P w K mg base CX0 4 "_law_asks" ["tariff", "other"] XL__law_asks F__law_asks) {XL__law_second : XW} {F__law_second : Fn} (C__law_second : Cal P w K mg base CX0 3 "_law_second" ["feed", "tariff"] XL__law_second F__law_second) {XL__law_draw : XW} {F__law_draw : Fn} (C__law_draw : Cal P w K mg base CX0 1 "_law_draw" ["feed", "many"] XL__law_draw F__law_draw) {XL_better_from : XW} {F_better_from : Fn} (C_better_from : Cal P w K mg base CX0 3 "better_from" ["tariff", "other"] XL_better_from F_better_from) {f : Addr} (cdv : Value) (A : Around) (outer : List Env) (s : Shared) (H : Hp) (E : XK) (Z : Zx) (hr : Room 4 (A.deeper (envOfC "law" (defScope st_law) s.heap.objs.size f cdv))) : PSs (cxOf CX0 P w K mg base N_law "law" (defScope st_law) f cdv A outer s H E).nox ((defBody st_law).drop 1) (tS Z (m_law F__law_tariff F__law_asks F__law_second F__law_draw F_better_from)) :=
  have nd := sc_law.nd
  have hu65 := hu65_of hr
  (es_cons (es_for PassesOwn.never rfl (ei_range1 (by rfl) b_range (ed_cons ev_int ed_nil)) (pg_name (i := 2) nd rfl (by first | exact Or.inl rfl | exact Or.inr rfl)) (show GTok [2] _ _ from GTok.name 2 (by decide)) (es_cons (es_set 3 nd (ev_callC C__law_tariff hr (by rfl) (ea_cons (ev_var 1) ea_nil)))
  (es_one (es_if (et_not (et_val (ev_callC C__law_asks hr (by rfl) (ea_cons (ev_var 3) (ea_cons (ev_callC C__law_second hr (by rfl) (ea_cons (ev_var 1) (ea_cons (ev_var 3) ea_nil))) ea_nil))))) (es_one (es_ret ev_bl)) es_nil))))
  (es_cons (es_set 4 nd (ev_bin op_addD ok_add (er_of ev_int) (er_of (ev_callC C__law_draw hr (by rfl) (ea_cons (ev_var 1) (ea_cons ev_int ea_nil))))))
  (es_cons (es_if (PW.pt (ew_or (et_cmp (op_neX hr.units) ok_ne (er_of (ev_callC C_better_from hr (by rfl) (ea_cons (ev_lst (ed_cons (ev_tup (ed_cons ev_int (ed_cons (ev_var 4) ed_nil))) ed_nil)) (ea_cons (ev_lst (ed_cons (ev_tup (ed_cons ev_int (ed_cons (ev_bin op_addD ok_add (er_var 4) (er_of ev_int)) ed_nil))) ed_nil)) ea_nil)))) (er_of (ev_tup (ed_cons ev_str (ed_cons ev_int ed_nil)))) (nomark _)) (ew_or1 (et_cmp (op_neX hr.units) ok_ne (er_of (ev_callC C_better_from hr (by rfl) (ea_cons (ev_lst (ed_cons (ev_tup (ed_cons ev_int (ed_cons (ev_var 4) ed_nil))) ed_nil)) (ea_cons (ev_lst (ed_cons (ev_tup (ed_cons ev_int (ed_cons (ev_var 4) ed_nil))) ed_nil)) ea_nil)))) (er_of (ev_tup (ed_cons ev_str (ed_cons ev_int ed_nil)))) (nomark _))))) (es_one (es_ret ev_bl)) es_nil)
  (es_cons (es_set 5 nd (ev_bin op_addD ok_add (er_of ev_int) (er_of (ev_callC C__law_draw hr (by rfl) (ea_cons (ev_var 1) (ea_cons ev_int ea_nil))))))
  (es_cons (es_if (et_cmp (op_neX hr.units) ok_ne (er_of (ev_callC C_better_from hr (by rfl) (ea_cons (ev_lst (ed_cons (ev_tup (ed_cons ev_int (ed_cons ev_int ed_nil))) (ed_cons (ev_tup (ed_cons (ev_var 5) (ed_cons ev_int ed_nil))) ed_nil))) (ea_cons (ev_lst (ed_cons (ev_tup (ed_cons ev_int (ed_cons (ev_var 4) ed_nil))) (ed_cons (ev_tup (ed_cons ev_int (ed_cons ev_int ed_nil))) ed_nil))) ea_nil)))) (er_of (ev_tup (ed_cons ev_str (ed_cons (ev_bin op_addD ok_add (er_var 5) (er_var 4)) ed_nil)))) (nomark _)) (es_one (es_ret ev_bl)) es_nil)
  (es_cons (es_if (et_cmp (op_neX hr.units) ok_ne (er_of (ev_callC C_better_from hr (by rfl) (ea_cons (ev_lst (ed_cons (ev_tup (ed_cons ev_int (ed_cons ev_int ed_nil))) (ed_cons (ev_tup (ed_cons ev_int (ed_cons ev_int ed_nil))) ed_nil))) (ea_cons (ev_lst (ed_cons (ev_tup (ed_cons ev_int (ed_cons ev_int ed_nil))) (ed_cons (ev_tup (ed_cons ev_int (ed_cons ev_int ed_nil))) ed_nil))) ea_nil)))) (er_of (ev_tup (ed_cons ev_str (ed_cons ev_int ed_nil)))) (nomark _)) (es_one (es_ret ev_bl)) es_nil)
  (es_one (es_ret (ev_cmp (op_eqX hr.units) ok_eq (er_of (ev_callC C_better_from hr (by rfl) (ea_cons (ev_lst (ed_cons (ev_tup (ed_cons ev_int (ed_cons ev_int ed_nil))) (ed_cons (ev_tup (ed_cons ev_int (ed_cons ev_int ed_nil))) (ed_cons (ev_tup (ed_cons ev_int (ed_cons ev_int ed_nil))) ed_nil)))) (ea_cons (ev_lst (ed_cons (ev_tup (ed_cons ev_int (ed_cons ev_int ed_nil))) (ed_cons (ev_tup (ed_cons ev_int (ed_cons ev_int ed_nil))) (ed_cons (ev_tup (ed_cons ev_int (ed_cons ev_int ed_nil))) ed_nil)))) ea_nil)))) (er_of (ev_tup (ed_cons ev_str (ed_cons ev_int ed_nil)))) (nomark _))))))))))
theorem d__law_feed {P : Program} {w : World} {K : PySem.W.Frag} {mg : Str → Option Value} {base : Heap} (b_list : mg "list" = none) {f : Addr} (cdv : Value) (A : Around) (outer : List Env) (s : Shared) (H : Hp) (E : XK) : PSs (cxOf CX0 P w K mg base N__law_feed "_law_feed" (defScope st__law_feed) f cdv A outer s H E).nox (defBody st__law_feed)
      (tRet (tLst (tCons (tCB (fun xs H Q => ∃ p ys, xs = [.ref p] ∧ (SqL K H p ys ∨ SqT K H p ys) ∧ ∀ l, H l = none → Q (.ref l) (upd H l (.lst ys))) (tCons (tVar 0) tNil)) (tCons (tC (.int 0)) (tCons (tC (.int 0)) (tCons (tC (.int 1)) tNil)))))) :=
  pss_one (ps_ret (pe_lst (pa_cons (pe_callTy call_list_of (by rfl) b_list (by decide +kernel) (pa_cons (pv 0) pa_nil)) (pa_cons pe_int (pa_cons pe_int (pa_cons pe_int pa_nil))))))
theorem d__law_draw {P : Program} {w : World} {K : PySem.W.Frag} {mg : Str → Option Value} {base : Heap} (b_abs : mg "abs" = none) (b_int : mg "int" = none) (b_len : mg "len" = none) {f : Addr} (cdv : Value) (A : Around) (outer : List Env) (s : Shared) (H : Hp) (E : XK) : PSs (cxOf CX0 P w K mg base ["feed", "many", "cell", "told", "mixed"] "_law_draw" (defScope st__law_draw) f cdv A outer s H E).nox (defBody st__law_draw) (tDraw K) := by
  have nd := sc__law_draw.nd
  exact pss_cons (ps_if (PW.pt (pw_and (pt_cmpR op_eq (pe_ix ix_list (pv 0) pe_int (fun _ _ => rfl)) pe_int (nomark _)) (pw_and1 (pt_cmpR op_lt (pe_ix ix_list (pv 0) pe_int (fun _ _ => rfl)) (pe_callB call_len (by rfl) b_len (by decide +kernel) (pa_cons (pe_ix ix_list (pv 0) pe_int (fun _ _ => rfl)) pa_nil)) (nomark _)))))
    (pss_cons (ps_set (i := 2) nd rfl (.inl rfl) (pe_callB call_abs (by rfl) b_abs (by decide +kernel) (pa_cons (pe_callTy call_int1 (by rfl) b_int (by decide +kernel) (pa_cons (pe_ix ix_list (pe_ix ix_list (pv 0) pe_int (fun _ _ => rfl)) (pe_ix ix_list (pv 0) pe_int (fun _ _ => rfl)) (fun _ _ => rfl)) pa_nil)) pa_nil)))
      (pss_cons (ps_augS (pv 0) pe_int get_list pe_int ip_add set_list)
        (pss_one (ps_if (pt_cmpR op_ge (pv 2) (pe_op op_pow pe_int pe_int) (nomark _))
          (pss_one (ps_asg (pv 2) (pg_sub (pv 0) pe_int set_list)))
          (pss_one (ps_asg (pe_op op_mod (pe_callTy call_int1 (by rfl) b_int (by decide +kernel) (pa_cons (pe_op op_add (pe_op op_add (pe_op op_mul (pe_ix ix_list (pv 0) pe_int (fun _ _ => rfl)) pe_int) (pe_op op_mul (pv 2) pe_int)) (pe_ix ix_list (pv 0) pe_int (fun _ _ => rfl))) pa_nil)) pe_int) (pg_sub (pv 0) pe_int set_list)))))))
    pss_nil)
   (pss_cons (ps_if (pt_cmpR op_gt (pe_ix ix_list (pv 0) pe_int (fun _ _ => rfl)) pe_int (nomark _))
      (pss_cons (ps_set (i := 3) nd rfl (.inl rfl) (pe_op op_mod (pe_callTy call_int1 (by rfl) b_int (by decide +kernel) (pa_cons (pe_ix ix_list (pv 0) pe_int (fun _ _ => rfl)) pa_nil)) (pv 1)))
        (pss_cons (ps_asg (pe_op op_fdiv (pe_ix ix_list (pv 0) pe_int (fun _ _ => rfl)) (pv 1)) (pg_sub (pv 0) pe_int set_list)) (pss_one (ps_ret (pv 3))))) pss_nil)
    (pss_cons (ps_asg (pe_op op_mod (pe_callTy call_int1 (by rfl) b_int (by decide +kernel) (pa_cons (pe_op op_add (pe_op op_mul (pe_ix ix_list (pv 0) pe_int (fun _ _ => rfl)) pe_int) pe_int) pa_nil)) pe_int) (pg_sub (pv 0) pe_int set_list))
      (pss_cons (ps_set (i := 4) nd rfl (.inl rfl) (pe_op op_mod (pe_callTy call_int1 (by rfl) b_int (by decide +kernel) (pa_cons (pe_op op_add (pe_op op_mul (pe_ix ix_list (pv 0) pe_int (fun _ _ => rfl)) (pe_ix ix_list (pv 0) pe_int (fun _ _ => rfl))) (pe_ix ix_list (pv 0) pe_int (fun _ _ => rfl))) pa_nil)) pe_int))
        (pss_one (ps_ret (pe_op op_mod (pe_op op_fdiv (pv 4) pe_int) (pv 1)))))))
abbrev law1 : Stmt := (defBody st_law).getD 0 (.Pass ⟨0, 0, 0, 0⟩)
theorem d1_law {P : Program} {w : World} {K : PySem.W.Frag} {mg : Str → Option Value} {base : Heap} {fF : Addr} {fdF : FuncData} (GF : FnOk P w K mg base CX0 1 fF fdF ["script"] (spFeed K)) (mF : mg "_law_feed" = some (.ref fF)) (kF : PySem.W.keepIn K (.ref fF) = true) (bF : Binds K fdF ["script"] [])
    {f : Addr} (cdv : Value) (A : Around) (outer : List Env) (s : Shared) (H : Hp) (E : XK) (hr : Room 4 (A.deeper (envOfC "law" (defScope st_law) s.heap.objs.size f cdv))) : PS (cxOf CX0 P w K mg base N_law "law" (defScope st_law) f cdv A outer s H E).nox law1 (tAsg (tCall (spFeed K) [] E0 (tCons (tVar 0) tNil)) (gName 1)) :=
  ps_set (i := 1) sc_law.nd rfl (by first | exact Or.inl rfl | exact Or.inr rfl) (pe_call GF (hr.mono (by decide)) (by rfl) mF kF bF .nil pass0 (pa_cons (pv 0) pa_nil))
theorem c_pay {P : Program} {w : World} {K : PySem.W.Frag} {mg : Str → Option Value} {base : Heap} (b_enumerate : mg "enumerate" = none) (b_len : mg "len" = none) (b_min : mg "min" = none) {XL : XW} {F : Fn} {f : Addr} {fd : FuncData} (Fu : Fun K "pay" "pay" st_pay f fd) (hm : mg "pay" = some (.ref f)) (len : ∀ as k kx, F as k kx → as.length = 2) (hs : ∀ as k kx, F as k kx → m_pay ⟨cells0 7 as, kx⟩ { nx := fun _ => k (.im .none), rt := fun v _ => noFd k v }) : Cal P w K mg base CX0 1 "pay" ["tariff", "pieces"] XL F :=
  ⟨f, fd, fn_dv Fu sc_pay len (fun cdv A outer s H E Z hr => d_pay b_enumerate b_len b_min cdv A outer s H E Z hr) hs, hm, Fu.kp, Fu.binds (ps := ["tariff", "pieces"]) fun _ _ _ _ _ _ us hl => match us, hl with | [_, _], _ => rfl⟩
theorem c_side_of {P : Program} {w : World} {K : PySem.W.Frag} {mg : Str → Option Value} {base : Heap} {XL : XW} {F : Fn} {f : Addr} {fd : FuncData} (Fu : Fun K "side_of" "side_of" st_side_of f fd) (hm : mg "side_of" = some (.ref f)) (len : ∀ as k kx, F as k kx → as.length = 1) (hs : ∀ as k kx, F as k kx → m_side_of ⟨cells0 1 as, kx⟩ { nx := fun _ => k (.im .none), rt := fun v _ => noFd k v }) : Cal P w K mg base CX0 1 "side_of" ["number"] XL F :=
  ⟨f, fd, fn_dv Fu sc_side_of len (fun cdv A outer s H E Z hr => d_side_of cdv A outer s H E Z hr) hs, hm, Fu.kp, Fu.binds (ps := ["number"]) fun _ _ _ _ _ _ us hl => match us, hl with | [_], _ => rfl⟩
theorem c_lead {P : Program} {w : World} {K : PySem.W.Frag} {mg : Str → Option Value} {base : Heap} {XL_pay : XW} {F_pay : Fn} (C_pay : Cal P w K mg base CX0 1 "pay" ["tariff", "pieces"] XL_pay F_pay) {XL : XW} {F : Fn} {f : Addr} {fd : FuncData} (Fu : Fun K "lead" "lead" st_lead f fd) (hm : mg "lead" = some (.ref f)) (len : ∀ as k kx, F as k kx → as.length = 3) (hs : ∀ as k kx, F as k kx → (m_lead F_pay) ⟨cells0 3 as, kx⟩ { nx := fun _ => k (.im .none), rt := fun v _ => noFd k v }) : Cal P w K mg base CX0 2 "lead" ["tariff", "other", "pieces"] XL F :=
  ⟨f, fd, fn_dv Fu sc_lead len (fun cdv A outer s H E Z hr => d_lead C_pay cdv A outer s H E Z hr) hs, hm, Fu.kp, Fu.binds (ps := ["tariff", "other", "pieces"]) fun _ _ _ _ _ _ us hl => match us, hl with | [_, _, _], _ => rfl⟩
theorem c_better_from {P : Program} {w : World} {K : PySem.W.Frag} {mg : Str → Option Value} {base : Heap} (b_max : mg "max" = none) (b_abs : mg "abs" = none) (g_WORDS : GDictI K mg "WORDS" [(1, "first"), ((-1), "second"), (0, "even")]) {XL_lead : XW} {F_lead : Fn} (C_lead : Cal P w K mg base CX0 2 "lead" ["tariff", "other", "pieces"] XL_lead F_lead) {XL_side_of : XW} {F_side_of : Fn} (C_side_of : Cal P w K mg base CX0 1 "side_of" ["number"] XL_side_of F_side_of) {XL : XW} {F : Fn} {f : Addr} {fd : FuncData} (Fu : Fun K "better_from" "better_from" st_better_from f fd) (hm : mg "better_from" = some (.ref f)) (len : ∀ as k kx, F as k kx → as.length = 2) (hs : ∀ as k kx, F as k kx → (m_better_from F_lead F_side_of) ⟨cells0 7 as, kx⟩ { nx := fun _ => k (.im .none), rt := fun v _ => noFd k v }) : Cal P w K mg base CX0 3 "better_from" ["tariff", "other"] XL F :=
  ⟨f, fd, fn_dv Fu sc_better_from len (fun cdv A outer s H E Z hr => d_better_from b_max b_abs g_WORDS C_lead C_side_of cdv A outer s H E Z hr) hs, hm, Fu.kp, Fu.binds (ps := ["tariff", "other"]) fun _ _ _ _ _ _ us hl => match us, hl with | [_, _], _ => rfl⟩
theorem c__law_is_whole {P : Program} {w : World} {K : PySem.W.Frag} {mg : Str → Option Value} {base : Heap} (b_isinstance : mg "isinstance" = none) (b_int : mg "int" = none) (b_bool : mg "bool" = none) {XL : XW} {F : Fn} {f : Addr} {fd : FuncData} (Fu : Fun K "_law_is_whole" "_law_is_whole" st__law_is_whole f fd) (hm : mg "_law_is_whole" = some (.ref f)) (len : ∀ as k kx, F as k kx → as.length = 1) (hs : ∀ as k kx, F as k kx → m__law_is_whole ⟨cells0 1 as, kx⟩ { nx := fun _ => k (.im .none), rt := fun v _ => noFd k v }) : Cal P w K mg base CX0 1 "_law_is_whole" ["x"] XL F :=
  ⟨f, fd, fn_dv Fu sc__law_is_whole len (fun cdv A outer s H E Z hr => d__law_is_whole b_isinstance b_int b_bool cdv A outer s H E Z hr) hs, hm, Fu.kp, Fu.binds (ps := ["x"]) fun _ _ _ _ _ _ us hl => match us, hl with | [_], _ => rfl⟩
theorem c__law_tariff {P : Program} {w : World} {K : PySem.W.Frag} {mg : Str → Option Value} {base : Heap} (b_range : mg "range" = none) {XL__law_draw : XW} {F__law_draw : Fn} (C__law_draw : Cal P w K mg base CX0 1 "_law_draw" ["feed", "many"] XL__law_draw F__law_draw) {XL : XW} {F : Fn} {f : Addr} {fd : FuncData} (Fu : Fun K "_law_tariff" "_law_tariff" st__law_tariff f fd) (hm : mg "_law_tariff" = some (.ref f)) (len : ∀ as k kx, F as k kx → as.length = 1) (hs : ∀ as k kx, F as k kx → (m__law_tariff F__law_draw) ⟨cells0 6 as, kx⟩ { nx := fun _ => k (.im .none), rt := fun v _ => noFd k v }) : Cal P w K mg base CX0 2 "_law_tariff" ["feed"] XL F :=
  ⟨f, fd, fn_dv Fu sc__law_tariff len (fun cdv A outer s H E Z hr => d__law_tariff b_range C__law_draw cdv A outer s H E Z hr) hs, hm, Fu.kp, Fu.binds (ps := ["feed"]) fun _ _ _ _ _ _ us hl => match us, hl with | [_], _ => rfl⟩
theorem c__law_second {P : Program} {w : World} {K : PySem.W.Frag} {mg : Str → Option Value} {base : Heap} (b_len : mg "len" = none) (b_max : mg "max" = none) (b_list : mg "list" = none) {XL__law_draw : XW} {F__law_draw : Fn} (C__law_draw : Cal P w K mg base CX0 1 "_law_draw" ["feed", "many"] XL__law_draw F__law_draw) {XL__law_tariff : XW} {F__law_tariff : Fn} (C__law_tariff : Cal P w K mg base CX0 2 "_law_tariff" ["feed"] XL__law_tariff F__law_tariff) {XL : XW} {F : Fn} {f : Addr} {fd : FuncData} (Fu : Fun K "_law_second" "_law_second" st__law_second f fd) (hm : mg "_law_second" = some (.ref f)) (len : ∀ as k kx, F as k kx → as.length = 2) (hs : ∀ as k kx, F as k kx → (m__law_second F__law_draw F__law_tariff) ⟨cells0 4 as, kx⟩ { nx := fun _ => k (.im .none), rt := fun v _ => noFd k v }) : Cal P w K mg base CX0 3 "_law_second" ["feed", "tariff"] XL F :=
  ⟨f, fd, fn_dv Fu sc__law_second len (fun cdv A outer s H E Z hr => d__law_second b_len b_max b_list C__law_draw C__law_tariff cdv A outer s H E Z hr) hs, hm, Fu.kp, Fu.binds (ps := ["feed", "tariff"]) fun _ _ _ _ _ _ us hl => match us, hl with | [_, _], _ => rfl⟩
theorem c__law_rate {P : Program} {w : World} {K : PySem.W.Frag} {mg : Str → Option Value} {base : Heap} {XL : XW} {F : Fn} {f : Addr} {fd : FuncData} (Fu : Fun K "_law_rate" "_law_rate" st__law_rate f fd) (hm : mg "_law_rate" = some (.ref f)) (len : ∀ as k kx, F as k kx → as.length = 2) (hs : ∀ as k kx, F as k kx → m__law_rate ⟨cells0 5 as, kx⟩ { nx := fun _ => k (.im .none), rt := fun v _ => noFd k v }) : Cal P w K mg base CX0 1 "_law_rate" ["tariff", "piece"] XL F :=
  ⟨f, fd, fn_dv Fu sc__law_rate len (fun cdv A outer s H E Z hr => d__law_rate cdv A outer s H E Z hr) hs, hm, Fu.kp, Fu.binds (ps := ["tariff", "piece"]) fun _ _ _ _ _ _ us hl => match us, hl with | [_, _], _ => rfl⟩
theorem c__law_side {P : Program} {w : World} {K : PySem.W.Frag} {mg : Str → Option Value} {base : Heap} {XL : XW} {F : Fn} {f : Addr} {fd : FuncData} (Fu : Fun K "_law_side" "_law_side" st__law_side f fd) (hm : mg "_law_side" = some (.ref f)) (len : ∀ as k kx, F as k kx → as.length = 1) (hs : ∀ as k kx, F as k kx → m__law_side ⟨cells0 1 as, kx⟩ { nx := fun _ => k (.im .none), rt := fun v _ => noFd k v }) : Cal P w K mg base CX0 1 "_law_side" ["number"] XL F :=
  ⟨f, fd, fn_dv Fu sc__law_side len (fun cdv A outer s H E Z hr => d__law_side cdv A outer s H E Z hr) hs, hm, Fu.kp, Fu.binds (ps := ["number"]) fun _ _ _ _ _ _ us hl => match us, hl with | [_], _ => rfl⟩
theorem c__law_leads {P : Program} {w : World} {K : PySem.W.Frag} {mg : Str → Option Value} {base : Heap} (b_max : mg "max" = none) (b_range : mg "range" = none) {XL__law_rate : XW} {F__law_rate : Fn} (C__law_rate : Cal P w K mg base CX0 1 "_law_rate" ["tariff", "piece"] XL__law_rate F__law_rate) {XL : XW} {F : Fn} {f : Addr} {fd : FuncData} (Fu : Fun K "_law_leads" "_law_leads" st__law_leads f fd) (hm : mg "_law_leads" = some (.ref f)) (len : ∀ as k kx, F as k kx → as.length = 2) (hs : ∀ as k kx, F as k kx → (m__law_leads F__law_rate) ⟨cells0 5 as, kx⟩ { nx := fun _ => k (.im .none), rt := fun v _ => noFd k v }) : Cal P w K mg base CX0 2 "_law_leads" ["tariff", "other"] XL F :=
  ⟨f, fd, fn_dv Fu sc__law_leads len (fun cdv A outer s H E Z hr => d__law_leads b_max b_range C__law_rate cdv A outer s H E Z hr) hs, hm, Fu.kp, Fu.binds (ps := ["tariff", "other"]) fun _ _ _ _ _ _ us hl => match us, hl with | [_, _], _ => rfl⟩
theorem c__law_in_the_end {P : Program} {w : World} {K : PySem.W.Frag} {mg : Str → Option Value} {base : Heap} {XL__law_side : XW} {F__law_side : Fn} (C__law_side : Cal P w K mg base CX0 1 "_law_side" ["number"] XL__law_side F__law_side) {XL : XW} {F : Fn} {f : Addr} {fd : FuncData} (Fu : Fun K "_law_in_the_end" "_law_in_the_end" st__law_in_the_end f fd) (hm : mg "_law_in_the_end" = some (.ref f)) (len : ∀ as k kx, F as k kx → as.length = 2) (hs : ∀ as k kx, F as k kx → (m__law_in_the_end F__law_side) ⟨cells0 2 as, kx⟩ { nx := fun _ => k (.im .none), rt := fun v _ => noFd k v }) : Cal P w K mg base CX0 2 "_law_in_the_end" ["leads", "change"] XL F :=
  ⟨f, fd, fn_dv Fu sc__law_in_the_end len (fun cdv A outer s H E Z hr => d__law_in_the_end C__law_side cdv A outer s H E Z hr) hs, hm, Fu.kp, Fu.binds (ps := ["leads", "change"]) fun _ _ _ _ _ _ us hl => match us, hl with | [_, _], _ => rfl⟩
theorem c__law_lead {P : Program} {w : World} {K : PySem.W.Frag} {mg : Str → Option Value} {base : Heap} (b_len : mg "len" = none) {XL : XW} {F : Fn} {f : Addr} {fd : FuncData} (Fu : Fun K "_law_lead" "_law_lead" st__law_lead f fd) (hm : mg "_law_lead" = some (.ref f)) (len : ∀ as k kx, F as k kx → as.length = 3) (hs : ∀ as k kx, F as k kx → m__law_lead ⟨cells0 3 as, kx⟩ { nx := fun _ => k (.im .none), rt := fun v _ => noFd k v }) : Cal P w K mg base CX0 1 "_law_lead" ["leads", "change", "pieces"] XL F :=
  ⟨f, fd, fn_dv Fu sc__law_lead len (fun cdv A outer s H E Z hr => d__law_lead b_len cdv A outer s H E Z hr) hs, hm, Fu.kp, Fu.binds (ps := ["leads", "change", "pieces"]) fun _ _ _ _ _ _ us hl => match us, hl with | [_, _, _], _ => rfl⟩
theorem c__law_holds {P : Program} {w : World} {K : PySem.W.Frag} {mg : Str → Option Value} {base : Heap} (b_range : mg "range" = none) (b_len : mg "len" = none) {XL__law_is_whole : XW} {F__law_is_whole : Fn} (C__law_is_whole : Cal P w K mg base CX0 1 "_law_is_whole" ["x"] XL__law_is_whole F__law_is_whole) {XL__law_in_the_end : XW} {F__law_in_the_end : Fn} (C__law_in_the_end : Cal P w K mg base CX0 2 "_law_in_the_end" ["leads", "change"] XL__law_in_the_end F__law_in_the_end) {XL__law_side : XW} {F__law_side : Fn} (C__law_side : Cal P w K mg base CX0 1 "_law_side" ["number"] XL__law_side F__law_side) {XL__law_lead : XW} {F__law_lead : Fn} (C__law_lead : Cal P w K mg base CX0 1 "_law_lead" ["leads", "change", "pieces"] XL__law_lead F__law_lead) {XL : XW} {F : Fn} {f : Addr} {fd : FuncData} (Fu : Fun K "_law_holds" "_law_holds" st__law_holds f fd) (hm : mg "_law_holds" = some (.ref f)) (len : ∀ as k kx, F as k kx → as.length = 4) (hs : ∀ as k kx, F as k kx → (m__law_holds F__law_is_whole F__law_in_the_end F__law_side F__law_lead) ⟨cells0 5 as, kx⟩ { nx := fun _ => k (.im .none), rt := fun v _ => noFd k v }) : Cal P w K mg base CX0 3 "_law_holds" ["leads", "change", "word", "k"] XL F :=
  ⟨f, fd, fn_dv Fu sc__law_holds len (fun cdv A outer s H E Z hr => d__law_holds b_range b_len C__law_is_whole C__law_in_the_end C__law_side C__law_lead cdv A outer s H E Z hr) hs, hm, Fu.kp, Fu.binds (ps := ["leads", "change", "word", "k"]) fun _ _ _ _ _ _ us hl => match us, hl with | [_, _, _, _], _ => rfl⟩
theorem c__law_asks {P : Program} {w : World} {K : PySem.W.Frag} {mg : Str → Option Value} {base : Heap} (b_list : mg "list" = none) (b_isinstance : mg "isinstance" = none) (b_tuple : mg "tuple" = none) (b_len : mg "len" = none) {XL_better_from : XW} {F_better_from : Fn} (C_better_from : Cal P w K mg base CX0 3 "better_from" ["tariff", "other"] XL_better_from F_better_from) {XL__law_leads : XW} {F__law_leads : Fn} (C__law_leads : Cal P w K mg base CX0 2 "_law_leads" ["tariff", "other"] XL__law_leads F__law_leads) {XL__law_holds : XW} {F__law_holds : Fn} (C__law_holds : Cal P w K mg base CX0 3 "_law_holds" ["leads", "change", "word", "k"] XL__law_holds F__law_holds) {XL__law_side : XW} {F__law_side : Fn} (C__law_side : Cal P w K mg base CX0 1 "_law_side" ["number"] XL__law_side F__law_side) {XL_pay : XW} {F_pay : Fn} (C_pay : Cal P w K mg base CX0 1 "pay" ["tariff", "pieces"] XL_pay F_pay) {XL__law_lead : XW} {F__law_lead : Fn} (C__law_lead : Cal P w K mg base CX0 1 "_law_lead" ["leads", "change", "pieces"] XL__law_lead F__law_lead) {XL : XW} {F : Fn} {f : Addr} {fd : FuncData} (Fu : Fun K "_law_asks" "_law_asks" st__law_asks f fd) (hm : mg "_law_asks" = some (.ref f)) (len : ∀ as k kx, F as k kx → as.length = 2) (hs : ∀ as k kx, F as k kx → (m__law_asks F_better_from F__law_leads F__law_holds F__law_side F_pay F__law_lead) ⟨cells0 9 as, kx⟩ { nx := fun _ => k (.im .none), rt := fun v _ => noFd k v }) : Cal P w K mg base CX0 4 "_law_asks" ["tariff", "other"] XL F :=
  ⟨f, fd, fn_dv Fu sc__law_asks len (fun cdv A outer s H E Z hr => d__law_asks b_list b_isinstance b_tuple b_len C_better_from C__law_leads C__law_holds C__law_side C_pay C__law_lead cdv A outer s H E Z hr) hs, hm, Fu.kp, Fu.binds (ps := ["tariff", "other"]) fun _ _ _ _ _ _ us hl => match us, hl with | [_, _], _ => rfl⟩
end Lw

namespace Lw
open PySem PySem.Spec L2 Dv
open PyProof.Rows hiding St
abbrev XL0 : XW := fun _ _ _ _ => False
theorem dT_get {t : TT} {i : Nat} {p : Int × Int} (h : t[i]? = some p) : L2.atI (t.map dP) (i : Int) = some (.tuple [.int p.1, .int p.2]) := by
  rw [atI_nn _ _ (by omega)]
  simp [h, dP]
theorem dT_last {t : TT} (h : t ≠ []) : L2.atI (t.map dP) (-1) = some (.tuple [.int (lastP t).1, .int (lastP t).2]) := by
  rw [atI_m1, List.getLast?_map, lastP]
  cases e : t.getLast? with
  | none => simp at e; exact absurd e h
  | some p => rw [List.getLastD_eq_getLast?, e]; rfl

def F_pay : Fn := fun as k _ => ∃ (t : TT) (n : Int), as = [.d (dT t), .d (.int n)] ∧ Ok t ∧ k (.im (.int (payM t n)))
theorem len_pay : ∀ as k kx, F_pay as k kx → as.length = 2 := by rintro as k kx ⟨d, _, rfl, _⟩; rfl
theorem up_get : ∀ {t : TT} {lo : Int} {i : Nat} {p : Int × Int}, Up lo t → t[i]? = some p → lo < p.1 ∧ p.1 ≤ 999 ∧ 0 ≤ p.2 ∧ p.2 ≤ 1000
  | _ :: _, _, 0, _, u, h => by simp at h; subst h; exact ⟨u.1, u.2.1, u.2.2.1, u.2.2.2.1⟩
  | _ :: r, _, i + 1, _, u, h => by
    have := up_get (i := i) u.2.2.2.2 (by simpa using h)
    have := u.1
    omega
theorem w_pay : ∀ as k kx, F_pay as k kx → m_pay ⟨cells0 7 as, kx⟩ { nx := fun _ => k (.im .none), rt := fun v _ => noFd k v } := by
  rintro as k kx ⟨t, n, rfl, ok, h⟩
  unfold m_pay
  simp only [↓sSeq, ↓sNext, ↓sBreak, ↓sCont, ↓sDrop, ↓sRet, ↓sRetV, ↓sRetN, ↓sIfS, ↓sAsg, ↓sFor, ↓sVar, ↓sRV, ↓sRE, ↓sC, ↓aNil, ↓aCons, ↓ar, ↓dNil, ↓dCons, ↓fz, ↓sLst, ↓sTup, ↓s1, ↓s2, ↓s3, ↓s4, ↓rs, ↓sT, ↓sAnd, ↓sOr, ↓sNot, ↓vB, ↓sAndV, ↓sOrV, ↓sNotV, ↓sIf, ↓sgName, ↓Dv.cellOf, ↓sgNil, ↓sgCons, ↓sgTup, ↓sIt, ↓sRng1, ↓sRng2, ↓sEnum, ↓sZip, ↓sRev, ↓sRevR, ↓sRg1, ↓sRg2, ↓sI, ↓sLstR, ↓sCall, ↓sMeth, ↓sSetIx, ↓sAugIx, ↓sAug, ↓sSl, ↓pNo, ↓pSome, ↓sLc, ↓sYes, ↓sStep, ↓sIxG, ↓oAdd, ↓oI, ↓oI0, ↓oSub, ↓oMul, ↓oFdiv, ↓oMod, ↓oPow, ↓oShl, ↓oShr, ↓oNeg, ↓oEq, ↓oNe, ↓oLtI, ↓oLeI, ↓oGtI, ↓oGeI, ↓oIs, ↓oIn, ↓oIx, ↓oSl, ↓oLen, ↓oAbs, ↓oInt, ↓oMax2, ↓oMin2, ↓oList, ↓oTuple, ↓oIsi, ↓oAddI, ↓mAppend, ↓mExtend, ↓mPop, ↓mPopAt, ↓mInsert, ↓ng, ↓isNone, ↓noFd, ↓cells0, ↓arCell, List.map_cons, List.map_nil, List.length_cons, List.length_nil, List.cons_append, List.nil_append, List.replicate, Nat.reduceAdd, Nat.reduceSub, Nat.zero_add, List.getElem?_cons_zero, List.getElem?_cons_succ, List.set_cons_zero, List.set_cons_succ, if_true, if_false, ↓reduceIte, Bool.false_eq_true, true_and, and_true, not_true_eq_false, not_false_eq_true, decide_eq_true_eq, Bool.not_true, Bool.not_false, Bool.not_not, Bool.not_eq_true', decide_eq_false_iff_not, List.length_map, atI0, atI1, atI2]
  simp only [dT]
  refine wLoop_enum (fun i ρ => ∃ (tot : Int) (a b c d : Cell), ρ = ⟨[.im (dT t), .im (.int n), .im (.int tot), a, b, c, d], kx⟩ ∧ tot + payM (t.drop i) n = payM t n) ⟨0, _, _, _, _, rfl, by simp⟩ ?_ ?_
  · rintro ρ ⟨tot, a, b, c, d, rfl, e⟩
    simp only [↓sSeq, ↓sNext, ↓sBreak, ↓sCont, ↓sDrop, ↓sRet, ↓sRetV, ↓sRetN, ↓sIfS, ↓sAsg, ↓sFor, ↓sVar, ↓sRV, ↓sRE, ↓sC, ↓aNil, ↓aCons, ↓ar, ↓dNil, ↓dCons, ↓fz, ↓sLst, ↓sTup, ↓s1, ↓s2, ↓s3, ↓s4, ↓rs, ↓sT, ↓sAnd, ↓sOr, ↓sNot, ↓vB, ↓sAndV, ↓sOrV, ↓sNotV, ↓sIf, ↓sgName, ↓Dv.cellOf, ↓sgNil, ↓sgCons, ↓sgTup, ↓sIt, ↓sRng1, ↓sRng2, ↓sEnum, ↓sZip, ↓sRev, ↓sRevR, ↓sRg1, ↓sRg2, ↓sI, ↓sLstR, ↓sCall, ↓sMeth, ↓sSetIx, ↓sAugIx, ↓sAug, ↓sSl, ↓pNo, ↓pSome, ↓sLc, ↓sYes, ↓sStep, ↓sIxG, ↓oAdd, ↓oI, ↓oI0, ↓oSub, ↓oMul, ↓oFdiv, ↓oMod, ↓oPow, ↓oShl, ↓oShr, ↓oNeg, ↓oEq, ↓oNe, ↓oLtI, ↓oLeI, ↓oGtI, ↓oGeI, ↓oIs, ↓oIn, ↓oIx, ↓oSl, ↓oLen, ↓oAbs, ↓oInt, ↓oMax2, ↓oMin2, ↓oList, ↓oTuple, ↓oIsi, ↓oAddI, ↓mAppend, ↓mExtend, ↓mPop, ↓mPopAt, ↓mInsert, ↓ng, ↓isNone, ↓noFd, ↓cells0, ↓arCell, List.map_cons, List.map_nil, List.length_cons, List.length_nil, List.cons_append, List.nil_append, List.replicate, Nat.reduceAdd, Nat.reduceSub, Nat.zero_add, List.getElem?_cons_zero, List.getElem?_cons_succ, List.set_cons_zero, List.set_cons_succ, if_true, if_false, ↓reduceIte, Bool.false_eq_true, true_and, and_true, not_true_eq_false, not_false_eq_true, decide_eq_true_eq, Bool.not_true, Bool.not_false, Bool.not_not, Bool.not_eq_true', decide_eq_false_iff_not, List.length_map, atI0, atI1, atI2]
    rw [List.length_map, List.drop_length] at e
    simp only [payM] at e
    rw [Int.add_zero] at e
    rw [e]; exact h
  · rintro i x ρ kk hx ⟨tot, a, b, c, d, rfl, e⟩ hk
    rw [List.getElem?_map, Option.map_eq_some_iff] at hx
    obtain ⟨p, hp, rfl⟩ := hx
    obtain ⟨s, ce⟩ := p
    have hpr := up_get ok.up hp
    have hi : i < t.length := (List.getElem?_eq_some_iff.mp hp).1
    have hdrop : t.drop i = (s, ce) :: t.drop (i + 1) := by
      rw [List.drop_eq_getElem_cons hi]
      rw [(List.getElem?_eq_some_iff.mp hp).2]
    unfold b1_pay
    have e1 : ((i : Int) + 1) = ((i + 1 : Nat) : Int) := by omega
    cases hn : t[i + 1]? with
    | none =>
      have hl : ¬ ((i + 1 : Nat) : Int) < (t.length : Int) := by have := List.getElem?_eq_none_iff.mp hn; omega
      simp only [↓sSeq, ↓sNext, ↓sBreak, ↓sCont, ↓sDrop, ↓sRet, ↓sRetV, ↓sRetN, ↓sIfS, ↓sAsg, ↓sFor, ↓sVar, ↓sRV, ↓sRE, ↓sC, ↓aNil, ↓aCons, ↓ar, ↓dNil, ↓dCons, ↓fz, ↓sLst, ↓sTup, ↓s1, ↓s2, ↓s3, ↓s4, ↓rs, ↓sT, ↓sAnd, ↓sOr, ↓sNot, ↓vB, ↓sAndV, ↓sOrV, ↓sNotV, ↓sIf, ↓sgName, ↓Dv.cellOf, ↓sgNil, ↓sgCons, ↓sgTup, ↓sIt, ↓sRng1, ↓sRng2, ↓sEnum, ↓sZip, ↓sRev, ↓sRevR, ↓sRg1, ↓sRg2, ↓sI, ↓sLstR, ↓sCall, ↓sMeth, ↓sSetIx, ↓sAugIx, ↓sAug, ↓sSl, ↓pNo, ↓pSome, ↓sLc, ↓sYes, ↓sStep, ↓sIxG, ↓oAdd, ↓oI, ↓oI0, ↓oSub, ↓oMul, ↓oFdiv, ↓oMod, ↓oPow, ↓oShl, ↓oShr, ↓oNeg, ↓oEq, ↓oNe, ↓oLtI, ↓oLeI, ↓oGtI, ↓oGeI, ↓oIs, ↓oIn, ↓oIx, ↓oSl, ↓oLen, ↓oAbs, ↓oInt, ↓oMax2, ↓oMin2, ↓oList, ↓oTuple, ↓oIsi, ↓oAddI, ↓mAppend, ↓mExtend, ↓mPop, ↓mPopAt, ↓mInsert, ↓ng, ↓isNone, ↓noFd, ↓cells0, ↓arCell, List.map_cons, List.map_nil, List.length_cons, List.length_nil, List.cons_append, List.nil_append, List.replicate, Nat.reduceAdd, Nat.reduceSub, Nat.zero_add, List.getElem?_cons_zero, List.getElem?_cons_succ, List.set_cons_zero, List.set_cons_succ, if_true, if_false, ↓reduceIte, Bool.false_eq_true, true_and, and_true, not_true_eq_false, not_false_eq_true, decide_eq_true_eq, Bool.not_true, Bool.not_false, Bool.not_not, Bool.not_eq_true', decide_eq_false_iff_not, List.length_map, atI0, atI1, atI2, dP, dT, e1, hl]
      have hd2 : t.drop (i + 1) = [] := List.drop_eq_nil_of_le (List.getElem?_eq_none_iff.mp hn)
      rw [hdrop, hd2] at e
      simp only [payM] at e
      split
      · rename_i h1
        rw [if_pos h1] at e
        refine ⟨?_, hk _ ⟨_, _, _, _, _, rfl, ?_⟩⟩
        · unfold CMul; simp only at hpr; omega
        · rw [hd2]; simp only [payM]; omega
      · rename_i h1
        rw [if_neg h1] at e
        refine hk _ ⟨_, _, _, _, _, rfl, ?_⟩
        rw [hd2]; simp only [payM]; omega
    | some q =>
      have hl : ((i + 1 : Nat) : Int) < (t.length : Int) := by have := (List.getElem?_eq_some_iff.mp hn).1; omega
      have a0 : L2.atI [PyData.int q.1, PyData.int q.2] 0 = some (.int q.1) := rfl
      simp only [↓sSeq, ↓sNext, ↓sBreak, ↓sCont, ↓sDrop, ↓sRet, ↓sRetV, ↓sRetN, ↓sIfS, ↓sAsg, ↓sFor, ↓sVar, ↓sRV, ↓sRE, ↓sC, ↓aNil, ↓aCons, ↓ar, ↓dNil, ↓dCons, ↓fz, ↓sLst, ↓sTup, ↓s1, ↓s2, ↓s3, ↓s4, ↓rs, ↓sT, ↓sAnd, ↓sOr, ↓sNot, ↓vB, ↓sAndV, ↓sOrV, ↓sNotV, ↓sIf, ↓sgName, ↓Dv.cellOf, ↓sgNil, ↓sgCons, ↓sgTup, ↓sIt, ↓sRng1, ↓sRng2, ↓sEnum, ↓sZip, ↓sRev, ↓sRevR, ↓sRg1, ↓sRg2, ↓sI, ↓sLstR, ↓sCall, ↓sMeth, ↓sSetIx, ↓sAugIx, ↓sAug, ↓sSl, ↓pNo, ↓pSome, ↓sLc, ↓sYes, ↓sStep, ↓sIxG, ↓oAdd, ↓oI, ↓oI0, ↓oSub, ↓oMul, ↓oFdiv, ↓oMod, ↓oPow, ↓oShl, ↓oShr, ↓oNeg, ↓oEq, ↓oNe, ↓oLtI, ↓oLeI, ↓oGtI, ↓oGeI, ↓oIs, ↓oIn, ↓oIx, ↓oSl, ↓oLen, ↓oAbs, ↓oInt, ↓oMax2, ↓oMin2, ↓oList, ↓oTuple, ↓oIsi, ↓oAddI, ↓mAppend, ↓mExtend, ↓mPop, ↓mPopAt, ↓mInsert, ↓ng, ↓isNone, ↓noFd, ↓cells0, ↓arCell, List.map_cons, List.map_nil, List.length_cons, List.length_nil, List.cons_append, List.nil_append, List.replicate, Nat.reduceAdd, Nat.reduceSub, Nat.zero_add, List.getElem?_cons_zero, List.getElem?_cons_succ, List.set_cons_zero, List.set_cons_succ, if_true, if_false, ↓reduceIte, Bool.false_eq_true, true_and, and_true, not_true_eq_false, not_false_eq_true, decide_eq_true_eq, Bool.not_true, Bool.not_false, Bool.not_not, Bool.not_eq_true', decide_eq_false_iff_not, List.length_map, atI0, atI1, atI2, dP, dT, e1, hl, dT_get hn, a0]
      have hd2 : t.drop (i + 1) = q :: t.drop (i + 2) := by
        rw [List.drop_eq_getElem_cons (List.getElem?_eq_some_iff.mp hn).1, (List.getElem?_eq_some_iff.mp hn).2]
      rw [hdrop, hd2] at e
      obtain ⟨s2, c2⟩ := q
      simp only [payM] at e
      have em : (if s2 - 1 < n then s2 - 1 else n) = min n (s2 - 1) := by split <;> omega
      simp only [em]
      split
      · rename_i h1
        rw [if_pos h1] at e
        refine ⟨?_, hk _ ⟨_, _, _, _, _, rfl, ?_⟩⟩
        · unfold CMul; simp only at hpr; omega
        · rw [hd2]; omega
      · rename_i h1
        rw [if_neg h1] at e
        refine hk _ ⟨_, _, _, _, _, rfl, ?_⟩
        rw [hd2]; omega
def F_side_of : Fn := fun as k _ => ∃ n : Int, as = [.d (.int n)] ∧ k (.im (.int (sd n)))
theorem len_side_of : ∀ as k kx, F_side_of as k kx → as.length = 1 := by rintro as k kx ⟨d, rfl, _⟩; rfl
theorem w_side_of : ∀ as k kx, F_side_of as k kx → m_side_of ⟨cells0 1 as, kx⟩ { nx := fun _ => k (.im .none), rt := fun v _ => noFd k v } := by
  rintro as k kx ⟨n, rfl, h⟩
  unfold m_side_of
  simp only [↓sSeq, ↓sNext, ↓sBreak, ↓sCont, ↓sDrop, ↓sRet, ↓sRetV, ↓sRetN, ↓sIfS, ↓sAsg, ↓sFor, ↓sVar, ↓sRV, ↓sRE, ↓sC, ↓aNil, ↓aCons, ↓ar, ↓dNil, ↓dCons, ↓fz, ↓sLst, ↓sTup, ↓s1, ↓s2, ↓s3, ↓s4, ↓rs, ↓sT, ↓sAnd, ↓sOr, ↓sNot, ↓vB, ↓sAndV, ↓sOrV, ↓sNotV, ↓sIf, ↓sgName, ↓Dv.cellOf, ↓sgNil, ↓sgCons, ↓sgTup, ↓sIt, ↓sRng1, ↓sRng2, ↓sEnum, ↓sZip, ↓sRev, ↓sRevR, ↓sRg1, ↓sRg2, ↓sI, ↓sLstR, ↓sCall, ↓sMeth, ↓sSetIx, ↓sAugIx, ↓sAug, ↓sSl, ↓pNo, ↓pSome, ↓sLc, ↓sYes, ↓sStep, ↓sIxG, ↓oAdd, ↓oI, ↓oI0, ↓oSub, ↓oMul, ↓oFdiv, ↓oMod, ↓oPow, ↓oShl, ↓oShr, ↓oNeg, ↓oEq, ↓oNe, ↓oLtI, ↓oLeI, ↓oGtI, ↓oGeI, ↓oIs, ↓oIn, ↓oIx, ↓oSl, ↓oLen, ↓oAbs, ↓oInt, ↓oMax2, ↓oMin2, ↓oList, ↓oTuple, ↓oIsi, ↓oAddI, ↓mAppend, ↓mExtend, ↓mPop, ↓mPopAt, ↓mInsert, ↓ng, ↓isNone, ↓noFd, ↓cells0, ↓arCell, List.map_cons, List.map_nil, List.length_cons, List.length_nil, List.cons_append, List.nil_append, List.replicate, Nat.reduceAdd, Nat.reduceSub, Nat.zero_add, List.getElem?_cons_zero, List.getElem?_cons_succ, List.set_cons_zero, List.set_cons_succ, if_true, if_false, ↓reduceIte, Bool.false_eq_true, true_and, and_true, not_true_eq_false, not_false_eq_true, decide_eq_true_eq, Bool.not_true, Bool.not_false, Bool.not_not, Bool.not_eq_true', decide_eq_false_iff_not, List.length_map, atI0, atI1, atI2]
  unfold sd at h
  split
  · rename_i h1; rwa [if_pos h1] at h
  · rename_i h1
    rw [if_neg h1] at h
    split
    · rename_i h2; rwa [if_pos h2] at h
    · rename_i h2; rwa [if_neg h2] at h
def F_lead : Fn := fun as k _ => ∃ (t o : TT) (n : Int), as = [.d (dT t), .d (dT o), .d (.int n)] ∧ Ok t ∧ Ok o ∧ k (.im (.int (LL t o n)))
theorem len_lead : ∀ as k kx, F_lead as k kx → as.length = 3 := by rintro as k kx ⟨_, _, _, rfl, _⟩; rfl
theorem w_lead : ∀ as k kx, F_lead as k kx → m_lead F_pay ⟨cells0 3 as, kx⟩ { nx := fun _ => k (.im .none), rt := fun v _ => noFd k v } := by
  rintro as k kx ⟨t, o, n, rfl, o1, o2, h⟩
  unfold m_lead
  simp only [↓sSeq, ↓sNext, ↓sBreak, ↓sCont, ↓sDrop, ↓sRet, ↓sRetV, ↓sRetN, ↓sIfS, ↓sAsg, ↓sFor, ↓sVar, ↓sRV, ↓sRE, ↓sC, ↓aNil, ↓aCons, ↓ar, ↓dNil, ↓dCons, ↓fz, ↓sLst, ↓sTup, ↓s1, ↓s2, ↓s3, ↓s4, ↓rs, ↓sT, ↓sAnd, ↓sOr, ↓sNot, ↓vB, ↓sAndV, ↓sOrV, ↓sNotV, ↓sIf, ↓sgName, ↓Dv.cellOf, ↓sgNil, ↓sgCons, ↓sgTup, ↓sIt, ↓sRng1, ↓sRng2, ↓sEnum, ↓sZip, ↓sRev, ↓sRevR, ↓sRg1, ↓sRg2, ↓sI, ↓sLstR, ↓sCall, ↓sMeth, ↓sSetIx, ↓sAugIx, ↓sAug, ↓sSl, ↓pNo, ↓pSome, ↓sLc, ↓sYes, ↓sStep, ↓sIxG, ↓oAdd, ↓oI, ↓oI0, ↓oSub, ↓oMul, ↓oFdiv, ↓oMod, ↓oPow, ↓oShl, ↓oShr, ↓oNeg, ↓oEq, ↓oNe, ↓oLtI, ↓oLeI, ↓oGtI, ↓oGeI, ↓oIs, ↓oIn, ↓oIx, ↓oSl, ↓oLen, ↓oAbs, ↓oInt, ↓oMax2, ↓oMin2, ↓oList, ↓oTuple, ↓oIsi, ↓oAddI, ↓mAppend, ↓mExtend, ↓mPop, ↓mPopAt, ↓mInsert, ↓ng, ↓isNone, ↓noFd, ↓cells0, ↓arCell, List.map_cons, List.map_nil, List.length_cons, List.length_nil, List.cons_append, List.nil_append, List.replicate, Nat.reduceAdd, Nat.reduceSub, Nat.zero_add, List.getElem?_cons_zero, List.getElem?_cons_succ, List.set_cons_zero, List.set_cons_succ, if_true, if_false, ↓reduceIte, Bool.false_eq_true, true_and, and_true, not_true_eq_false, not_false_eq_true, decide_eq_true_eq, Bool.not_true, Bool.not_false, Bool.not_not, Bool.not_eq_true', decide_eq_false_iff_not, List.length_map, atI0, atI1, atI2]
  refine ⟨t, n, rfl, o1, ?_⟩
  simp only [↓sSeq, ↓sNext, ↓sBreak, ↓sCont, ↓sDrop, ↓sRet, ↓sRetV, ↓sRetN, ↓sIfS, ↓sAsg, ↓sFor, ↓sVar, ↓sRV, ↓sRE, ↓sC, ↓aNil, ↓aCons, ↓ar, ↓dNil, ↓dCons, ↓fz, ↓sLst, ↓sTup, ↓s1, ↓s2, ↓s3, ↓s4, ↓rs, ↓sT, ↓sAnd, ↓sOr, ↓sNot, ↓vB, ↓sAndV, ↓sOrV, ↓sNotV, ↓sIf, ↓sgName, ↓Dv.cellOf, ↓sgNil, ↓sgCons, ↓sgTup, ↓sIt, ↓sRng1, ↓sRng2, ↓sEnum, ↓sZip, ↓sRev, ↓sRevR, ↓sRg1, ↓sRg2, ↓sI, ↓sLstR, ↓sCall, ↓sMeth, ↓sSetIx, ↓sAugIx, ↓sAug, ↓sSl, ↓pNo, ↓pSome, ↓sLc, ↓sYes, ↓sStep, ↓sIxG, ↓oAdd, ↓oI, ↓oI0, ↓oSub, ↓oMul, ↓oFdiv, ↓oMod, ↓oPow, ↓oShl, ↓oShr, ↓oNeg, ↓oEq, ↓oNe, ↓oLtI, ↓oLeI, ↓oGtI, ↓oGeI, ↓oIs, ↓oIn, ↓oIx, ↓oSl, ↓oLen, ↓oAbs, ↓oInt, ↓oMax2, ↓oMin2, ↓oList, ↓oTuple, ↓oIsi, ↓oAddI, ↓mAppend, ↓mExtend, ↓mPop, ↓mPopAt, ↓mInsert, ↓ng, ↓isNone, ↓noFd, ↓cells0, ↓arCell, List.map_cons, List.map_nil, List.length_cons, List.length_nil, List.cons_append, List.nil_append, List.replicate, Nat.reduceAdd, Nat.reduceSub, Nat.zero_add, List.getElem?_cons_zero, List.getElem?_cons_succ, List.set_cons_zero, List.set_cons_succ, if_true, if_false, ↓reduceIte, Bool.false_eq_true, true_and, and_true, not_true_eq_false, not_false_eq_true, decide_eq_true_eq, Bool.not_true, Bool.not_false, Bool.not_not, Bool.not_eq_true', decide_eq_false_iff_not, List.length_map, atI0, atI1, atI2]
  exact ⟨o, n, rfl, o2, h⟩

def wd (s : Int) : Str := if s = 1 then "first" else if s = -1 then "second" else "even"
theorem sd_cases (n : Int) : sd n = 1 ∨ sd n = -1 ∨ sd n = 0 := by
  unfold sd
  split
  · exact .inl rfl
  · split
    · exact .inr (.inl rfl)
    · exact .inr (.inr rfl)
theorem wd_inj {a b : Int} (ha : a = 1 ∨ a = -1 ∨ a = 0) (hb : b = 1 ∨ b = -1 ∨ b = 0) (h : wd a = wd b) : a = b := by
  rcases ha with rfl | rfl | rfl <;> rcases hb with rfl | rfl | rfl <;> first | rfl | (exact absurd h (by decide))
theorem side_cases (t o : TT) : sideM t o = 1 ∨ sideM t o = -1 ∨ sideM t o = 0 := by
  unfold sideM; split <;> exact sd_cases _
theorem wd_look {s : Int} (h : s = 1 ∨ s = -1 ∨ s = 0) : List.lookup s ([(1, "first"), ((-1), "second"), (0, "even")] : List (Int × Str)) = some (wd s) := by
  rcases h with rfl | rfl | rfl <;> rfl
theorem pay_bound {t : TT} (h : Ok t) : ∀ n : Nat, 0 ≤ payM t n ∧ payM t n ≤ 1000 * n
  | 0 => by rw [h.zero _ (by omega)]; omega
  | n + 1 => by
    have := pay_bound h n
    have e := h.rate n (by omega)
    have hr : ∀ (t : TT) (c0 lo m : Int), Up lo t → 0 ≤ c0 → c0 ≤ 1000 → 0 ≤ t.foldl (rateF m) c0 ∧ t.foldl (rateF m) c0 ≤ 1000 := by
      intro t
      induction t with
      | nil => intro c0 lo m _ h1 h2; exact ⟨h1, h2⟩
      | cons p r ih =>
        intro c0 lo m u h1 h2
        rw [List.foldl_cons]
        have : 0 ≤ rateF m c0 p ∧ rateF m c0 p ≤ 1000 := by
          unfold rateF
          split
          · exact ⟨u.2.2.1, u.2.2.2.1⟩
          · exact ⟨h1, h2⟩
        exact ih _ p.1 m u.2.2.2.2 this.1 this.2
    have h3 := hr t 0 0 ((n : Int) + 1) h.up (by omega) (by omega)
    unfold rateM at e
    rw [show (((n + 1 : Nat)) : Int) = (n : Int) + 1 by omega]
    omega
theorem LL_bound {t o : TT} (h : Ok t) (h2 : Ok o) : -1000000 ≤ LL t o (lastN t o) ∧ LL t o (lastN t o) ≤ 1000000 := by
  have hp := lastN_pos h h2
  have e : lastN t o = ((lastN t o).toNat : Int) := by omega
  have b1 := pay_bound h (lastN t o).toNat
  have b2 := pay_bound h2 (lastN t o).toNat
  rw [← e] at b1 b2
  unfold LL
  omega
theorem Best.jump {t o : TT} (h : Ok t) (h2 : Ok o) (hs : sideM t o ≠ 0) (hr : sd (LL t o (lastN t o)) ≠ sideM t o) (q : Int)
    (hq : q = (if LL t o (lastN t o) < 0 then -LL t o (lastN t o) else LL t o (lastN t o)) / (if chg t o < 0 then -chg t o else chg t o)) :
    0 < (if chg t o < 0 then -chg t o else chg t o) ∧ (if chg t o < 0 then -chg t o else chg t o) < 2 ^ 30 ∧ Best t o (lastN t o + q + 1) ∧ lastN t o + q + 1 ≤ 10000000 := by
  obtain ⟨b1, b2⟩ := best_jump h h2 hs hr
  have hb := LL_bound h h2
  have hc := chg_le h h2
  have hp := lastN_pos h h2
  have e1 : (if LL t o (lastN t o) < 0 then -LL t o (lastN t o) else LL t o (lastN t o)) = ((LL t o (lastN t o)).natAbs : Int) := by split <;> omega
  have e2 : (if chg t o < 0 then -chg t o else chg t o) = ((chg t o).natAbs : Int) := by split <;> omega
  rw [e1, e2] at hq
  rw [e2]
  refine ⟨by omega, by omega, by rw [hq]; exact b2, ?_⟩
  have : ((LL t o (lastN t o)).natAbs : Int) / ((chg t o).natAbs : Int) ≤ ((LL t o (lastN t o)).natAbs : Int) := Int.ediv_le_self _ (by omega)
  omega
theorem dT_inj {t o : TT} (h : t.map dP = o.map dP) : t = o := by
  induction t generalizing o with
  | nil => cases o with | nil => rfl | cons => cases h
  | cons p t ih => cases o with
    | nil => cases h
    | cons q o =>
      rw [List.map_cons, List.map_cons] at h
      injection h with h1 h2
      rw [ih h2]
      obtain ⟨a, b⟩ := p
      obtain ⟨c, d⟩ := q
      unfold dP at h1
      injection h1 with h1
      injection h1 with h1 h3
      injection h3 with h3
      injection h1 with h1
      injection h3 with h3
      simp only at h1 h3
      rw [h1, h3]
theorem dT_inj2 {t o : TT} (h : Ar.d (.list (t.map dP)) = Ar.d (.list (o.map dP))) : t = o := by
  injection h with h; injection h with h; exact dT_inj h
theorem int_inj2 {a b : Int} (h : Ar.d (.int a) = Ar.d (.int b)) : a = b := by injection h with h; injection h
theorem F_pay_ap {t : TT} {n : Int} (o1 : Ok t) {k kx} : F_pay [.d (.list (t.map dP)), .d (.int n)] k kx = k (.im (.int (payM t n))) :=
  propext ⟨fun ⟨t', n', e, _, h⟩ => by
    injection e with e1 e; injection e with e2 e
    rw [dT_inj2 e1, int_inj2 e2]; exact h, fun h => ⟨t, n, rfl, o1, h⟩⟩
theorem F_side_of_ap {n : Int} {k kx} : F_side_of [.d (.int n)] k kx = k (.im (.int (sd n))) :=
  propext ⟨fun ⟨n', e, h⟩ => by injection e with e1 e; rw [int_inj2 e1]; exact h, fun h => ⟨n, rfl, h⟩⟩
theorem F_lead_ap {t o : TT} {n : Int} (o1 : Ok t) (o2 : Ok o) {k kx} : F_lead [.d (.list (t.map dP)), .d (.list (o.map dP)), .d (.int n)] k kx = k (.im (.int (LL t o n))) :=
  propext ⟨fun ⟨t', o', n', e, _, _, h⟩ => by
    injection e with e1 e; injection e with e2 e; injection e with e3 e
    rw [dT_inj2 e1, dT_inj2 e2, int_inj2 e3]; exact h, fun h => ⟨t, o, n, rfl, o1, o2, h⟩⟩
def F_better_from : Fn := fun as k _ => ∃ t o : TT, as = [.d (dT t), .d (dT o)] ∧ Ok t ∧ Ok o ∧ ∀ kk, Best t o kk → kk ≤ 10000000 → k (.im (.tuple [.str (wd (sideM t o)), .int kk]))
theorem len_better_from : ∀ as k kx, F_better_from as k kx → as.length = 2 := by rintro as k kx ⟨_, _, rfl, _⟩; rfl
theorem w_better_from : ∀ as k kx, F_better_from as k kx → m_better_from F_lead F_side_of ⟨cells0 7 as, kx⟩ { nx := fun _ => k (.im .none), rt := fun v _ => noFd k v } := by
  rintro as k kx ⟨t, o, rfl, o1, o2, h⟩
  unfold m_better_from
  have m1 : (-(1 : Int)) = -1 := rfl
  have a0 : ∀ a b : Int, L2.atI [PyData.int a, PyData.int b] 0 = some (.int a) := fun _ _ => rfl
  have a1 : ∀ a b : Int, L2.atI [PyData.int a, PyData.int b] 1 = some (.int b) := fun _ _ => rfl
  have eM : (if (lastP o).1 > (lastP t).1 then (lastP o).1 else (lastP t).1) = lastN t o := by unfold lastN; split <;> omega
  have eC : (lastP t).2 - (lastP o).2 = chg t o := rfl
  have hS : (((chg t o = 0) = True) ∧ sd (LL t o (lastN t o)) = sideM t o) ∨ (((chg t o = 0) = False) ∧ sd (chg t o) = sideM t o) := by
    unfold sideM
    by_cases hc : chg t o = 0
    · exact .inl ⟨eq_true hc, by rw [if_neg (by simpa using hc)]⟩
    · exact .inr ⟨eq_false hc, by rw [if_pos hc]⟩
  have hw := wd_look (side_cases t o)
  have hp := lastN_pos o1 o2
  by_cases hj : sideM t o ≠ 0 ∧ sd (LL t o (lastN t o)) ≠ sideM t o
  · obtain ⟨c1, c2, c3, c4⟩ := Best.jump o1 o2 hj.1 hj.2 _ rfl
    have f1 : (sideM t o = 0) = False := eq_false hj.1
    have f2 : (sd (LL t o (lastN t o)) = sideM t o) = False := eq_false hj.2
    rcases hS with ⟨hc, hs⟩ | ⟨hc, hs⟩
    · exact absurd hs hj.2
    · simp only [↓sSeq, ↓sNext, ↓sBreak, ↓sCont, ↓sDrop, ↓sRet, ↓sRetV, ↓sRetN, ↓sIfS, ↓sAsg, ↓sFor, ↓sVar, ↓sRV, ↓sRE, ↓sC, ↓aNil, ↓aCons, ↓ar, ↓dNil, ↓dCons, ↓fz, ↓sLst, ↓sTup, ↓s1, ↓s2, ↓s3, ↓s4, ↓rs, ↓sT, ↓sAnd, ↓sOr, ↓sNot, ↓vB, ↓sAndV, ↓sOrV, ↓sNotV, ↓sIf, ↓sgName, ↓Dv.cellOf, ↓sgNil, ↓sgCons, ↓sgTup, ↓sIt, ↓sRng1, ↓sRng2, ↓sEnum, ↓sZip, ↓sRev, ↓sRevR, ↓sRg1, ↓sRg2, ↓sI, ↓sLstR, ↓sCall, ↓sMeth, ↓sSetIx, ↓sAugIx, ↓sAug, ↓sSl, ↓pNo, ↓pSome, ↓sLc, ↓sYes, ↓sStep, ↓sIxG, ↓oAdd, ↓oI, ↓oI0, ↓oSub, ↓oMul, ↓oFdiv, ↓oMod, ↓oPow, ↓oShl, ↓oShr, ↓oNeg, ↓oEq, ↓oNe, ↓oLtI, ↓oLeI, ↓oGtI, ↓oGeI, ↓oIs, ↓oIn, ↓oIx, ↓oSl, ↓oLen, ↓oAbs, ↓oInt, ↓oMax2, ↓oMin2, ↓oList, ↓oTuple, ↓oIsi, ↓oAddI, ↓mAppend, ↓mExtend, ↓mPop, ↓mPopAt, ↓mInsert, ↓ng, ↓isNone, ↓noFd, ↓cells0, ↓arCell, List.map_cons, List.map_nil, List.length_cons, List.length_nil, List.cons_append, List.nil_append, List.replicate, Nat.reduceAdd, Nat.reduceSub, Nat.zero_add, List.getElem?_cons_zero, List.getElem?_cons_succ, List.set_cons_zero, List.set_cons_succ, if_true, if_false, ↓reduceIte, Bool.false_eq_true, true_and, and_true, not_true_eq_false, not_false_eq_true, decide_eq_true_eq, Bool.not_true, Bool.not_false, Bool.not_not, Bool.not_eq_true', decide_eq_false_iff_not, List.length_map, atI0, atI1, atI2, dT, dT_last o1.ne, dT_last o2.ne, a0, a1, eM, eC, F_lead_ap o1 o2, F_side_of_ap, hc, hs, hw, f1, f2]
      exact ⟨⟨c1, c2⟩, by decide, h _ c3 c4⟩
  · have hj2 : (sideM t o = 0) = True ∨ ((sideM t o = 0) = False ∧ (sd (LL t o (lastN t o)) = sideM t o) = True) := by
      by_cases e : sideM t o = 0
      · exact .inl (eq_true e)
      · by_cases e2 : sd (LL t o (lastN t o)) = sideM t o
        · exact .inr ⟨eq_false e, eq_true e2⟩
        · exact (hj ⟨e, e2⟩).elim
    have hst := stays o1 o2 (by
      rcases hj2 with e | ⟨_, e⟩
      · exact .inl (of_eq_true e)
      · exact .inr (of_eq_true e))
    rcases hS with ⟨hc, hs⟩ | ⟨hc, hs⟩ <;> rcases hj2 with f1 | ⟨f1, f2⟩
    case' inl.inl => simp only [↓sSeq, ↓sNext, ↓sBreak, ↓sCont, ↓sDrop, ↓sRet, ↓sRetV, ↓sRetN, ↓sIfS, ↓sAsg, ↓sFor, ↓sVar, ↓sRV, ↓sRE, ↓sC, ↓aNil, ↓aCons, ↓ar, ↓dNil, ↓dCons, ↓fz, ↓sLst, ↓sTup, ↓s1, ↓s2, ↓s3, ↓s4, ↓rs, ↓sT, ↓sAnd, ↓sOr, ↓sNot, ↓vB, ↓sAndV, ↓sOrV, ↓sNotV, ↓sIf, ↓sgName, ↓Dv.cellOf, ↓sgNil, ↓sgCons, ↓sgTup, ↓sIt, ↓sRng1, ↓sRng2, ↓sEnum, ↓sZip, ↓sRev, ↓sRevR, ↓sRg1, ↓sRg2, ↓sI, ↓sLstR, ↓sCall, ↓sMeth, ↓sSetIx, ↓sAugIx, ↓sAug, ↓sSl, ↓pNo, ↓pSome, ↓sLc, ↓sYes, ↓sStep, ↓sIxG, ↓oAdd, ↓oI, ↓oI0, ↓oSub, ↓oMul, ↓oFdiv, ↓oMod, ↓oPow, ↓oShl, ↓oShr, ↓oNeg, ↓oEq, ↓oNe, ↓oLtI, ↓oLeI, ↓oGtI, ↓oGeI, ↓oIs, ↓oIn, ↓oIx, ↓oSl, ↓oLen, ↓oAbs, ↓oInt, ↓oMax2, ↓oMin2, ↓oList, ↓oTuple, ↓oIsi, ↓oAddI, ↓mAppend, ↓mExtend, ↓mPop, ↓mPopAt, ↓mInsert, ↓ng, ↓isNone, ↓noFd, ↓cells0, ↓arCell, List.map_cons, List.map_nil, List.length_cons, List.length_nil, List.cons_append, List.nil_append, List.replicate, Nat.reduceAdd, Nat.reduceSub, Nat.zero_add, List.getElem?_cons_zero, List.getElem?_cons_succ, List.set_cons_zero, List.set_cons_succ, if_true, if_false, ↓reduceIte, Bool.false_eq_true, true_and, and_true, not_true_eq_false, not_false_eq_true, decide_eq_true_eq, Bool.not_true, Bool.not_false, Bool.not_not, Bool.not_eq_true', decide_eq_false_iff_not, List.length_map, atI0, atI1, atI2, dT, dT_last o1.ne, dT_last o2.ne, a0, a1, eM, eC, F_lead_ap o1 o2, F_side_of_ap, hc, hs, hw, f1]
    case' inl.inr => simp only [↓sSeq, ↓sNext, ↓sBreak, ↓sCont, ↓sDrop, ↓sRet, ↓sRetV, ↓sRetN, ↓sIfS, ↓sAsg, ↓sFor, ↓sVar, ↓sRV, ↓sRE, ↓sC, ↓aNil, ↓aCons, ↓ar, ↓dNil, ↓dCons, ↓fz, ↓sLst, ↓sTup, ↓s1, ↓s2, ↓s3, ↓s4, ↓rs, ↓sT, ↓sAnd, ↓sOr, ↓sNot, ↓vB, ↓sAndV, ↓sOrV, ↓sNotV, ↓sIf, ↓sgName, ↓Dv.cellOf, ↓sgNil, ↓sgCons, ↓sgTup, ↓sIt, ↓sRng1, ↓sRng2, ↓sEnum, ↓sZip, ↓sRev, ↓sRevR, ↓sRg1, ↓sRg2, ↓sI, ↓sLstR, ↓sCall, ↓sMeth, ↓sSetIx, ↓sAugIx, ↓sAug, ↓sSl, ↓pNo, ↓pSome, ↓sLc, ↓sYes, ↓sStep, ↓sIxG, ↓oAdd, ↓oI, ↓oI0, ↓oSub, ↓oMul, ↓oFdiv, ↓oMod, ↓oPow, ↓oShl, ↓oShr, ↓oNeg, ↓oEq, ↓oNe, ↓oLtI, ↓oLeI, ↓oGtI, ↓oGeI, ↓oIs, ↓oIn, ↓oIx, ↓oSl, ↓oLen, ↓oAbs, ↓oInt, ↓oMax2, ↓oMin2, ↓oList, ↓oTuple, ↓oIsi, ↓oAddI, ↓mAppend, ↓mExtend, ↓mPop, ↓mPopAt, ↓mInsert, ↓ng, ↓isNone, ↓noFd, ↓cells0, ↓arCell, List.map_cons, List.map_nil, List.length_cons, List.length_nil, List.cons_append, List.nil_append, List.replicate, Nat.reduceAdd, Nat.reduceSub, Nat.zero_add, List.getElem?_cons_zero, List.getElem?_cons_succ, List.set_cons_zero, List.set_cons_succ, if_true, if_false, ↓reduceIte, Bool.false_eq_true, true_and, and_true, not_true_eq_false, not_false_eq_true, decide_eq_true_eq, Bool.not_true, Bool.not_false, Bool.not_not, Bool.not_eq_true', decide_eq_false_iff_not, List.length_map, atI0, atI1, atI2, dT, dT_last o1.ne, dT_last o2.ne, a0, a1, eM, eC, F_lead_ap o1 o2, F_side_of_ap, hc, hs, hw, f1, f2]
    case' inr.inl => simp only [↓sSeq, ↓sNext, ↓sBreak, ↓sCont, ↓sDrop, ↓sRet, ↓sRetV, ↓sRetN, ↓sIfS, ↓sAsg, ↓sFor, ↓sVar, ↓sRV, ↓sRE, ↓sC, ↓aNil, ↓aCons, ↓ar, ↓dNil, ↓dCons, ↓fz, ↓sLst, ↓sTup, ↓s1, ↓s2, ↓s3, ↓s4, ↓rs, ↓sT, ↓sAnd, ↓sOr, ↓sNot, ↓vB, ↓sAndV, ↓sOrV, ↓sNotV, ↓sIf, ↓sgName, ↓Dv.cellOf, ↓sgNil, ↓sgCons, ↓sgTup, ↓sIt, ↓sRng1, ↓sRng2, ↓sEnum, ↓sZip, ↓sRev, ↓sRevR, ↓sRg1, ↓sRg2, ↓sI, ↓sLstR, ↓sCall, ↓sMeth, ↓sSetIx, ↓sAugIx, ↓sAug, ↓sSl, ↓pNo, ↓pSome, ↓sLc, ↓sYes, ↓sStep, ↓sIxG, ↓oAdd, ↓oI, ↓oI0, ↓oSub, ↓oMul, ↓oFdiv, ↓oMod, ↓oPow, ↓oShl, ↓oShr, ↓oNeg, ↓oEq, ↓oNe, ↓oLtI, ↓oLeI, ↓oGtI, ↓oGeI, ↓oIs, ↓oIn, ↓oIx, ↓oSl, ↓oLen, ↓oAbs, ↓oInt, ↓oMax2, ↓oMin2, ↓oList, ↓oTuple, ↓oIsi, ↓oAddI, ↓mAppend, ↓mExtend, ↓mPop, ↓mPopAt, ↓mInsert, ↓ng, ↓isNone, ↓noFd, ↓cells0, ↓arCell, List.map_cons, List.map_nil, List.length_cons, List.length_nil, List.cons_append, List.nil_append, List.replicate, Nat.reduceAdd, Nat.reduceSub, Nat.zero_add, List.getElem?_cons_zero, List.getElem?_cons_succ, List.set_cons_zero, List.set_cons_succ, if_true, if_false, ↓reduceIte, Bool.false_eq_true, true_and, and_true, not_true_eq_false, not_false_eq_true, decide_eq_true_eq, Bool.not_true, Bool.not_false, Bool.not_not, Bool.not_eq_true', decide_eq_false_iff_not, List.length_map, atI0, atI1, atI2, dT, dT_last o1.ne, dT_last o2.ne, a0, a1, eM, eC, F_lead_ap o1 o2, F_side_of_ap, hc, hs, hw, f1]
    case' inr.inr => simp only [↓sSeq, ↓sNext, ↓sBreak, ↓sCont, ↓sDrop, ↓sRet, ↓sRetV, ↓sRetN, ↓sIfS, ↓sAsg, ↓sFor, ↓sVar, ↓sRV, ↓sRE, ↓sC, ↓aNil, ↓aCons, ↓ar, ↓dNil, ↓dCons, ↓fz, ↓sLst, ↓sTup, ↓s1, ↓s2, ↓s3, ↓s4, ↓rs, ↓sT, ↓sAnd, ↓sOr, ↓sNot, ↓vB, ↓sAndV, ↓sOrV, ↓sNotV, ↓sIf, ↓sgName, ↓Dv.cellOf, ↓sgNil, ↓sgCons, ↓sgTup, ↓sIt, ↓sRng1, ↓sRng2, ↓sEnum, ↓sZip, ↓sRev, ↓sRevR, ↓sRg1, ↓sRg2, ↓sI, ↓sLstR, ↓sCall, ↓sMeth, ↓sSetIx, ↓sAugIx, ↓sAug, ↓sSl, ↓pNo, ↓pSome, ↓sLc, ↓sYes, ↓sStep, ↓sIxG, ↓oAdd, ↓oI, ↓oI0, ↓oSub, ↓oMul, ↓oFdiv, ↓oMod, ↓oPow, ↓oShl, ↓oShr, ↓oNeg, ↓oEq, ↓oNe, ↓oLtI, ↓oLeI, ↓oGtI, ↓oGeI, ↓oIs, ↓oIn, ↓oIx, ↓oSl, ↓oLen, ↓oAbs, ↓oInt, ↓oMax2, ↓oMin2, ↓oList, ↓oTuple, ↓oIsi, ↓oAddI, ↓mAppend, ↓mExtend, ↓mPop, ↓mPopAt, ↓mInsert, ↓ng, ↓isNone, ↓noFd, ↓cells0, ↓arCell, List.map_cons, List.map_nil, List.length_cons, List.length_nil, List.cons_append, List.nil_append, List.replicate, Nat.reduceAdd, Nat.reduceSub, Nat.zero_add, List.getElem?_cons_zero, List.getElem?_cons_succ, List.set_cons_zero, List.set_cons_succ, if_true, if_false, ↓reduceIte, Bool.false_eq_true, true_and, and_true, not_true_eq_false, not_false_eq_true, decide_eq_true_eq, Bool.not_true, Bool.not_false, Bool.not_not, Bool.not_eq_true', decide_eq_false_iff_not, List.length_map, atI0, atI1, atI2, dT, dT_last o1.ne, dT_last o2.ne, a0, a1, eM, eC, F_lead_ap o1 o2, F_side_of_ap, hc, hs, hw, f1, f2]
    all_goals
      unfold sWhile
      refine ⟨fun m ρ => ∃ kk : Int, ρ = ⟨[.im (.list (t.map dP)), .im (.list (o.map dP)), .im (.int (lastN t o)), .im (.int (chg t o)), .im (.int (LL t o (lastN t o))), .im (.int (sideM t o)), .im (.int kk)], kx⟩ ∧ (m : Int) = kk ∧ 1 ≤ kk ∧ kk ≤ 999 ∧ ∀ n, kk ≤ n → sd (LL t o n) = sideM t o, ⟨(lastN t o).toNat, _, rfl, by omega, hp.1, hp.2, hst⟩, ?_⟩
      rintro m ρ ⟨kk, rfl, hm, k1, k2, hk⟩
      by_cases e1 : 1 < kk
      · by_cases e2 : sd (LL t o (kk - 1)) = sideM t o
        · simp only [↓sSeq, ↓sNext, ↓sBreak, ↓sCont, ↓sDrop, ↓sRet, ↓sRetV, ↓sRetN, ↓sIfS, ↓sAsg, ↓sFor, ↓sVar, ↓sRV, ↓sRE, ↓sC, ↓aNil, ↓aCons, ↓ar, ↓dNil, ↓dCons, ↓fz, ↓sLst, ↓sTup, ↓s1, ↓s2, ↓s3, ↓s4, ↓rs, ↓sT, ↓sAnd, ↓sOr, ↓sNot, ↓vB, ↓sAndV, ↓sOrV, ↓sNotV, ↓sIf, ↓sgName, ↓Dv.cellOf, ↓sgNil, ↓sgCons, ↓sgTup, ↓sIt, ↓sRng1, ↓sRng2, ↓sEnum, ↓sZip, ↓sRev, ↓sRevR, ↓sRg1, ↓sRg2, ↓sI, ↓sLstR, ↓sCall, ↓sMeth, ↓sSetIx, ↓sAugIx, ↓sAug, ↓sSl, ↓pNo, ↓pSome, ↓sLc, ↓sYes, ↓sStep, ↓sIxG, ↓oAdd, ↓oI, ↓oI0, ↓oSub, ↓oMul, ↓oFdiv, ↓oMod, ↓oPow, ↓oShl, ↓oShr, ↓oNeg, ↓oEq, ↓oNe, ↓oLtI, ↓oLeI, ↓oGtI, ↓oGeI, ↓oIs, ↓oIn, ↓oIx, ↓oSl, ↓oLen, ↓oAbs, ↓oInt, ↓oMax2, ↓oMin2, ↓oList, ↓oTuple, ↓oIsi, ↓oAddI, ↓mAppend, ↓mExtend, ↓mPop, ↓mPopAt, ↓mInsert, ↓ng, ↓isNone, ↓noFd, ↓cells0, ↓arCell, List.map_cons, List.map_nil, List.length_cons, List.length_nil, List.cons_append, List.nil_append, List.replicate, Nat.reduceAdd, Nat.reduceSub, Nat.zero_add, List.getElem?_cons_zero, List.getElem?_cons_succ, List.set_cons_zero, List.set_cons_succ, if_true, if_false, ↓reduceIte, Bool.false_eq_true, true_and, and_true, not_true_eq_false, not_false_eq_true, decide_eq_true_eq, Bool.not_true, Bool.not_false, Bool.not_not, Bool.not_eq_true', decide_eq_false_iff_not, List.length_map, atI0, atI1, atI2, e1, F_lead_ap o1 o2, F_side_of_ap, e2, b1_better_from]
          refine ⟨m - 1, by omega, _, rfl, by omega, by omega, by omega, fun n hn => ?_⟩
          by_cases e3 : n = kk - 1
          · rw [e3, e2]
          · exact hk n (by omega)
        · simp only [↓sSeq, ↓sNext, ↓sBreak, ↓sCont, ↓sDrop, ↓sRet, ↓sRetV, ↓sRetN, ↓sIfS, ↓sAsg, ↓sFor, ↓sVar, ↓sRV, ↓sRE, ↓sC, ↓aNil, ↓aCons, ↓ar, ↓dNil, ↓dCons, ↓fz, ↓sLst, ↓sTup, ↓s1, ↓s2, ↓s3, ↓s4, ↓rs, ↓sT, ↓sAnd, ↓sOr, ↓sNot, ↓vB, ↓sAndV, ↓sOrV, ↓sNotV, ↓sIf, ↓sgName, ↓Dv.cellOf, ↓sgNil, ↓sgCons, ↓sgTup, ↓sIt, ↓sRng1, ↓sRng2, ↓sEnum, ↓sZip, ↓sRev, ↓sRevR, ↓sRg1, ↓sRg2, ↓sI, ↓sLstR, ↓sCall, ↓sMeth, ↓sSetIx, ↓sAugIx, ↓sAug, ↓sSl, ↓pNo, ↓pSome, ↓sLc, ↓sYes, ↓sStep, ↓sIxG, ↓oAdd, ↓oI, ↓oI0, ↓oSub, ↓oMul, ↓oFdiv, ↓oMod, ↓oPow, ↓oShl, ↓oShr, ↓oNeg, ↓oEq, ↓oNe, ↓oLtI, ↓oLeI, ↓oGtI, ↓oGeI, ↓oIs, ↓oIn, ↓oIx, ↓oSl, ↓oLen, ↓oAbs, ↓oInt, ↓oMax2, ↓oMin2, ↓oList, ↓oTuple, ↓oIsi, ↓oAddI, ↓mAppend, ↓mExtend, ↓mPop, ↓mPopAt, ↓mInsert, ↓ng, ↓isNone, ↓noFd, ↓cells0, ↓arCell, List.map_cons, List.map_nil, List.length_cons, List.length_nil, List.cons_append, List.nil_append, List.replicate, Nat.reduceAdd, Nat.reduceSub, Nat.zero_add, List.getElem?_cons_zero, List.getElem?_cons_succ, List.set_cons_zero, List.set_cons_succ, if_true, if_false, ↓reduceIte, Bool.false_eq_true, true_and, and_true, not_true_eq_false, not_false_eq_true, decide_eq_true_eq, Bool.not_true, Bool.not_false, Bool.not_not, Bool.not_eq_true', decide_eq_false_iff_not, List.length_map, atI0, atI1, atI2, e1, F_lead_ap o1 o2, F_side_of_ap, e2, hw]
          exact ⟨by decide, h kk ⟨k1, hk, .inr e2⟩ (by omega)⟩
      · simp only [↓sSeq, ↓sNext, ↓sBreak, ↓sCont, ↓sDrop, ↓sRet, ↓sRetV, ↓sRetN, ↓sIfS, ↓sAsg, ↓sFor, ↓sVar, ↓sRV, ↓sRE, ↓sC, ↓aNil, ↓aCons, ↓ar, ↓dNil, ↓dCons, ↓fz, ↓sLst, ↓sTup, ↓s1, ↓s2, ↓s3, ↓s4, ↓rs, ↓sT, ↓sAnd, ↓sOr, ↓sNot, ↓vB, ↓sAndV, ↓sOrV, ↓sNotV, ↓sIf, ↓sgName, ↓Dv.cellOf, ↓sgNil, ↓sgCons, ↓sgTup, ↓sIt, ↓sRng1, ↓sRng2, ↓sEnum, ↓sZip, ↓sRev, ↓sRevR, ↓sRg1, ↓sRg2, ↓sI, ↓sLstR, ↓sCall, ↓sMeth, ↓sSetIx, ↓sAugIx, ↓sAug, ↓sSl, ↓pNo, ↓pSome, ↓sLc, ↓sYes, ↓sStep, ↓sIxG, ↓oAdd, ↓oI, ↓oI0, ↓oSub, ↓oMul, ↓oFdiv, ↓oMod, ↓oPow, ↓oShl, ↓oShr, ↓oNeg, ↓oEq, ↓oNe, ↓oLtI, ↓oLeI, ↓oGtI, ↓oGeI, ↓oIs, ↓oIn, ↓oIx, ↓oSl, ↓oLen, ↓oAbs, ↓oInt, ↓oMax2, ↓oMin2, ↓oList, ↓oTuple, ↓oIsi, ↓oAddI, ↓mAppend, ↓mExtend, ↓mPop, ↓mPopAt, ↓mInsert, ↓ng, ↓isNone, ↓noFd, ↓cells0, ↓arCell, List.map_cons, List.map_nil, List.length_cons, List.length_nil, List.cons_append, List.nil_append, List.replicate, Nat.reduceAdd, Nat.reduceSub, Nat.zero_add, List.getElem?_cons_zero, List.getElem?_cons_succ, List.set_cons_zero, List.set_cons_succ, if_true, if_false, ↓reduceIte, Bool.false_eq_true, true_and, and_true, not_true_eq_false, not_false_eq_true, decide_eq_true_eq, Bool.not_true, Bool.not_false, Bool.not_not, Bool.not_eq_true', decide_eq_false_iff_not, List.length_map, atI0, atI1, atI2, e1, hw]
        exact ⟨by decide, h kk ⟨k1, hk, .inl (by omega)⟩ (by omega)⟩

def F__law_is_whole : Fn := fun as k _ => ∃ n : Int, as = [.d (.int n)] ∧ k (.im (.bool true))
theorem len__law_is_whole : ∀ as k kx, F__law_is_whole as k kx → as.length = 1 := by rintro as k kx ⟨d, rfl, _⟩; rfl
theorem w__law_is_whole : ∀ as k kx, F__law_is_whole as k kx → m__law_is_whole ⟨cells0 1 as, kx⟩ { nx := fun _ => k (.im .none), rt := fun v _ => noFd k v } := by
  rintro as k kx ⟨n, rfl, h⟩
  unfold m__law_is_whole
  simp only [↓sSeq, ↓sNext, ↓sBreak, ↓sCont, ↓sDrop, ↓sRet, ↓sRetV, ↓sRetN, ↓sIfS, ↓sAsg, ↓sFor, ↓sVar, ↓sRV, ↓sRE, ↓sC, ↓aNil, ↓aCons, ↓ar, ↓dNil, ↓dCons, ↓fz, ↓sLst, ↓sTup, ↓s1, ↓s2, ↓s3, ↓s4, ↓rs, ↓sT, ↓sAnd, ↓sOr, ↓sNot, ↓vB, ↓sAndV, ↓sOrV, ↓sNotV, ↓sIf, ↓sgName, ↓Dv.cellOf, ↓sgNil, ↓sgCons, ↓sgTup, ↓sIt, ↓sRng1, ↓sRng2, ↓sEnum, ↓sZip, ↓sRev, ↓sRevR, ↓sRg1, ↓sRg2, ↓sI, ↓sLstR, ↓sCall, ↓sMeth, ↓sSetIx, ↓sAugIx, ↓sAug, ↓sSl, ↓pNo, ↓pSome, ↓sLc, ↓sYes, ↓sStep, ↓sIxG, ↓oAdd, ↓oI, ↓oI0, ↓oSub, ↓oMul, ↓oFdiv, ↓oMod, ↓oPow, ↓oShl, ↓oShr, ↓oNeg, ↓oEq, ↓oNe, ↓oLtI, ↓oLeI, ↓oGtI, ↓oGeI, ↓oIs, ↓oIn, ↓oIx, ↓oSl, ↓oLen, ↓oAbs, ↓oInt, ↓oMax2, ↓oMin2, ↓oList, ↓oTuple, ↓oIsi, ↓oAddI, ↓mAppend, ↓mExtend, ↓mPop, ↓mPopAt, ↓mInsert, ↓ng, ↓isNone, ↓noFd, ↓cells0, ↓arCell, List.map_cons, List.map_nil, List.length_cons, List.length_nil, List.cons_append, List.nil_append, List.replicate, Nat.reduceAdd, Nat.reduceSub, Nat.zero_add, List.getElem?_cons_zero, List.getElem?_cons_succ, List.set_cons_zero, List.set_cons_succ, if_true, if_false, ↓reduceIte, Bool.false_eq_true, true_and, and_true, not_true_eq_false, not_false_eq_true, decide_eq_true_eq, Bool.not_true, Bool.not_false, Bool.not_not, Bool.not_eq_true', decide_eq_false_iff_not, List.length_map, atI0, atI1, atI2]
  exact h
theorem F__law_draw_ap {m : Int} {k kx} : F_draw [.fd, .d (.int m)] k kx = (0 < m ∧ m < 1073741824 ∧ ∀ r : Int, 0 ≤ r → r < m → k (.im (.int r))) :=
  propext ⟨fun ⟨n', e, h⟩ => by injection e with _ e; injection e with e1 e; rw [int_inj2 e1]; exact h, fun h => ⟨m, rfl, h⟩⟩
def F__law_tariff : Fn := fun as k _ => as = [.fd] ∧ ∀ t : TT, Ok t → t.length ≤ 6 → k (.fr (t.map dP))
theorem len__law_tariff : ∀ as k kx, F__law_tariff as k kx → as.length = 1 := by rintro as k kx ⟨rfl, _⟩; rfl
theorem up_append : ∀ {t : TT} {lo s c : Int}, Up lo t → (∀ p ∈ t, p.1 < s) → lo < s → s ≤ 999 → 0 ≤ c → c ≤ 1000 → Up lo (t ++ [(s, c)])
  | [], _, _, _, _, _, h1, h2, h3, h4 => ⟨h1, h2, h3, h4, trivial⟩
  | p :: r, _, s, c, u, h, h1, h2, h3, h4 => ⟨u.1, u.2.1, u.2.2.1, u.2.2.2.1, up_append u.2.2.2.2 (fun q hq => h q (.tail _ hq)) (h p (.head _)) h2 h3 h4⟩
theorem w__law_tariff : ∀ as k kx, F__law_tariff as k kx → m__law_tariff F_draw ⟨cells0 6 as, kx⟩ { nx := fun _ => k (.im .none), rt := fun v _ => noFd k v } := by
  rintro as k kx ⟨rfl, h⟩
  unfold m__law_tariff
  simp only [↓sSeq, ↓sNext, ↓sBreak, ↓sCont, ↓sDrop, ↓sRet, ↓sRetV, ↓sRetN, ↓sIfS, ↓sAsg, ↓sFor, ↓sVar, ↓sRV, ↓sRE, ↓sC, ↓aNil, ↓aCons, ↓ar, ↓dNil, ↓dCons, ↓fz, ↓sLst, ↓sTup, ↓s1, ↓s2, ↓s3, ↓s4, ↓rs, ↓sT, ↓sAnd, ↓sOr, ↓sNot, ↓vB, ↓sAndV, ↓sOrV, ↓sNotV, ↓sIf, ↓sgName, ↓Dv.cellOf, ↓sgNil, ↓sgCons, ↓sgTup, ↓sIt, ↓sRng1, ↓sRng2, ↓sEnum, ↓sZip, ↓sRev, ↓sRevR, ↓sRg1, ↓sRg2, ↓sI, ↓sLstR, ↓sCall, ↓sMeth, ↓sSetIx, ↓sAugIx, ↓sAug, ↓sSl, ↓pNo, ↓pSome, ↓sLc, ↓sYes, ↓sStep, ↓sIxG, ↓oAdd, ↓oI, ↓oI0, ↓oSub, ↓oMul, ↓oFdiv, ↓oMod, ↓oPow, ↓oShl, ↓oShr, ↓oNeg, ↓oEq, ↓oNe, ↓oLtI, ↓oLeI, ↓oGtI, ↓oGeI, ↓oIs, ↓oIn, ↓oIx, ↓oSl, ↓oLen, ↓oAbs, ↓oInt, ↓oMax2, ↓oMin2, ↓oList, ↓oTuple, ↓oIsi, ↓oAddI, ↓mAppend, ↓mExtend, ↓mPop, ↓mPopAt, ↓mInsert, ↓ng, ↓isNone, ↓noFd, ↓cells0, ↓arCell, List.map_cons, List.map_nil, List.length_cons, List.length_nil, List.cons_append, List.nil_append, List.replicate, Nat.reduceAdd, Nat.reduceSub, Nat.zero_add, List.getElem?_cons_zero, List.getElem?_cons_succ, List.set_cons_zero, List.set_cons_succ, if_true, if_false, ↓reduceIte, Bool.false_eq_true, true_and, and_true, not_true_eq_false, not_false_eq_true, decide_eq_true_eq, Bool.not_true, Bool.not_false, Bool.not_not, Bool.not_eq_true', decide_eq_false_iff_not, List.length_map, atI0, atI1, atI2, F__law_draw_ap]
  refine ⟨by decide, by decide, by decide, fun r r0 r1 => ?_⟩
  have h4 : ∃ m : Int, L2.atI [PyData.int 1, PyData.int 3, PyData.int 40, PyData.int 200] r = some (.int m) ∧ 1 ≤ m ∧ m ≤ 200 := by
    rcases (show r = 0 ∨ r = 1 ∨ r = 2 ∨ r = 3 by omega) with rfl | rfl | rfl | rfl <;> exact ⟨_, rfl, by decide, by decide⟩
  obtain ⟨most, e4, m1, m2⟩ := h4
  simp only [↓sSeq, ↓sNext, ↓sBreak, ↓sCont, ↓sDrop, ↓sRet, ↓sRetV, ↓sRetN, ↓sIfS, ↓sAsg, ↓sFor, ↓sVar, ↓sRV, ↓sRE, ↓sC, ↓aNil, ↓aCons, ↓ar, ↓dNil, ↓dCons, ↓fz, ↓sLst, ↓sTup, ↓s1, ↓s2, ↓s3, ↓s4, ↓rs, ↓sT, ↓sAnd, ↓sOr, ↓sNot, ↓vB, ↓sAndV, ↓sOrV, ↓sNotV, ↓sIf, ↓sgName, ↓Dv.cellOf, ↓sgNil, ↓sgCons, ↓sgTup, ↓sIt, ↓sRng1, ↓sRng2, ↓sEnum, ↓sZip, ↓sRev, ↓sRevR, ↓sRg1, ↓sRg2, ↓sI, ↓sLstR, ↓sCall, ↓sMeth, ↓sSetIx, ↓sAugIx, ↓sAug, ↓sSl, ↓pNo, ↓pSome, ↓sLc, ↓sYes, ↓sStep, ↓sIxG, ↓oAdd, ↓oI, ↓oI0, ↓oSub, ↓oMul, ↓oFdiv, ↓oMod, ↓oPow, ↓oShl, ↓oShr, ↓oNeg, ↓oEq, ↓oNe, ↓oLtI, ↓oLeI, ↓oGtI, ↓oGeI, ↓oIs, ↓oIn, ↓oIx, ↓oSl, ↓oLen, ↓oAbs, ↓oInt, ↓oMax2, ↓oMin2, ↓oList, ↓oTuple, ↓oIsi, ↓oAddI, ↓mAppend, ↓mExtend, ↓mPop, ↓mPopAt, ↓mInsert, ↓ng, ↓isNone, ↓noFd, ↓cells0, ↓arCell, List.map_cons, List.map_nil, List.length_cons, List.length_nil, List.cons_append, List.nil_append, List.replicate, Nat.reduceAdd, Nat.reduceSub, Nat.zero_add, List.getElem?_cons_zero, List.getElem?_cons_succ, List.set_cons_zero, List.set_cons_succ, if_true, if_false, ↓reduceIte, Bool.false_eq_true, true_and, and_true, not_true_eq_false, not_false_eq_true, decide_eq_true_eq, Bool.not_true, Bool.not_false, Bool.not_not, Bool.not_eq_true', decide_eq_false_iff_not, List.length_map, atI0, atI1, atI2, F__law_draw_ap, e4]
  refine ⟨by decide, by decide, by decide, fun r r0 r1 => ?_⟩
  have h3 : ∃ m : Int, L2.atI [PyData.int 2, PyData.int 10, PyData.int 1000] r = some (.int m) ∧ 1 ≤ m ∧ m ≤ 1000 := by
    rcases (show r = 0 ∨ r = 1 ∨ r = 2 by omega) with rfl | rfl | rfl <;> exact ⟨_, rfl, by decide, by decide⟩
  obtain ⟨top, e3, t1, t2⟩ := h3
  simp only [↓sSeq, ↓sNext, ↓sBreak, ↓sCont, ↓sDrop, ↓sRet, ↓sRetV, ↓sRetN, ↓sIfS, ↓sAsg, ↓sFor, ↓sVar, ↓sRV, ↓sRE, ↓sC, ↓aNil, ↓aCons, ↓ar, ↓dNil, ↓dCons, ↓fz, ↓sLst, ↓sTup, ↓s1, ↓s2, ↓s3, ↓s4, ↓rs, ↓sT, ↓sAnd, ↓sOr, ↓sNot, ↓vB, ↓sAndV, ↓sOrV, ↓sNotV, ↓sIf, ↓sgName, ↓Dv.cellOf, ↓sgNil, ↓sgCons, ↓sgTup, ↓sIt, ↓sRng1, ↓sRng2, ↓sEnum, ↓sZip, ↓sRev, ↓sRevR, ↓sRg1, ↓sRg2, ↓sI, ↓sLstR, ↓sCall, ↓sMeth, ↓sSetIx, ↓sAugIx, ↓sAug, ↓sSl, ↓pNo, ↓pSome, ↓sLc, ↓sYes, ↓sStep, ↓sIxG, ↓oAdd, ↓oI, ↓oI0, ↓oSub, ↓oMul, ↓oFdiv, ↓oMod, ↓oPow, ↓oShl, ↓oShr, ↓oNeg, ↓oEq, ↓oNe, ↓oLtI, ↓oLeI, ↓oGtI, ↓oGeI, ↓oIs, ↓oIn, ↓oIx, ↓oSl, ↓oLen, ↓oAbs, ↓oInt, ↓oMax2, ↓oMin2, ↓oList, ↓oTuple, ↓oIsi, ↓oAddI, ↓mAppend, ↓mExtend, ↓mPop, ↓mPopAt, ↓mInsert, ↓ng, ↓isNone, ↓noFd, ↓cells0, ↓arCell, List.map_cons, List.map_nil, List.length_cons, List.length_nil, List.cons_append, List.nil_append, List.replicate, Nat.reduceAdd, Nat.reduceSub, Nat.zero_add, List.getElem?_cons_zero, List.getElem?_cons_succ, List.set_cons_zero, List.set_cons_succ, if_true, if_false, ↓reduceIte, Bool.false_eq_true, true_and, and_true, not_true_eq_false, not_false_eq_true, decide_eq_true_eq, Bool.not_true, Bool.not_false, Bool.not_not, Bool.not_eq_true', decide_eq_false_iff_not, List.length_map, atI0, atI1, atI2, F__law_draw_ap, e3]
  refine ⟨by omega, by omega, fun c0 c1 c2 => ⟨by decide, by decide, by decide, by decide, fun cnt k0 k1 => ⟨by omega, by omega, ?_⟩⟩⟩
  refine wLoop_rng (fun i ρ => ∃ (st : Int) (c : Cell) (T : TT), ρ = ⟨[.fd, .im (.int most), .im (.int top), .im (.int st), .mu (T.map dP), c], kx⟩ ∧ 1 ≤ st ∧ (∃ c r, T = (1, c) :: r) ∧ Up 0 T ∧ (∀ p ∈ T, p.1 ≤ st) ∧ T.length ≤ i + 1) ⟨1, _, [(1, c0)], rfl, by omega, ⟨_, _, rfl⟩, ⟨by omega, by omega, c1, by omega, trivial⟩, fun p hp => by simp at hp; subst hp; exact Int.le_refl _, by simp⟩ ?_ ?_
  · rintro ρ ⟨st, c, T, rfl, s1, ⟨c', r', e⟩, u, hp, hl⟩
    simp only [↓sSeq, ↓sNext, ↓sBreak, ↓sCont, ↓sDrop, ↓sRet, ↓sRetV, ↓sRetN, ↓sIfS, ↓sAsg, ↓sFor, ↓sVar, ↓sRV, ↓sRE, ↓sC, ↓aNil, ↓aCons, ↓ar, ↓dNil, ↓dCons, ↓fz, ↓sLst, ↓sTup, ↓s1, ↓s2, ↓s3, ↓s4, ↓rs, ↓sT, ↓sAnd, ↓sOr, ↓sNot, ↓vB, ↓sAndV, ↓sOrV, ↓sNotV, ↓sIf, ↓sgName, ↓Dv.cellOf, ↓sgNil, ↓sgCons, ↓sgTup, ↓sIt, ↓sRng1, ↓sRng2, ↓sEnum, ↓sZip, ↓sRev, ↓sRevR, ↓sRg1, ↓sRg2, ↓sI, ↓sLstR, ↓sCall, ↓sMeth, ↓sSetIx, ↓sAugIx, ↓sAug, ↓sSl, ↓pNo, ↓pSome, ↓sLc, ↓sYes, ↓sStep, ↓sIxG, ↓oAdd, ↓oI, ↓oI0, ↓oSub, ↓oMul, ↓oFdiv, ↓oMod, ↓oPow, ↓oShl, ↓oShr, ↓oNeg, ↓oEq, ↓oNe, ↓oLtI, ↓oLeI, ↓oGtI, ↓oGeI, ↓oIs, ↓oIn, ↓oIx, ↓oSl, ↓oLen, ↓oAbs, ↓oInt, ↓oMax2, ↓oMin2, ↓oList, ↓oTuple, ↓oIsi, ↓oAddI, ↓mAppend, ↓mExtend, ↓mPop, ↓mPopAt, ↓mInsert, ↓ng, ↓isNone, ↓noFd, ↓cells0, ↓arCell, List.map_cons, List.map_nil, List.length_cons, List.length_nil, List.cons_append, List.nil_append, List.replicate, Nat.reduceAdd, Nat.reduceSub, Nat.zero_add, List.getElem?_cons_zero, List.getElem?_cons_succ, List.set_cons_zero, List.set_cons_succ, if_true, if_false, ↓reduceIte, Bool.false_eq_true, true_and, and_true, not_true_eq_false, not_false_eq_true, decide_eq_true_eq, Bool.not_true, Bool.not_false, Bool.not_not, Bool.not_eq_true', decide_eq_false_iff_not, List.length_map, atI0, atI1, atI2]
    exact h T ⟨c', r', e, u, by omega⟩ (by omega)
  · rintro i ρ kk hi ⟨st, c, T, rfl, s1, ⟨c', r', e⟩, u, hp, hl⟩ hk
    unfold b1__law_tariff
    simp only [↓sSeq, ↓sNext, ↓sBreak, ↓sCont, ↓sDrop, ↓sRet, ↓sRetV, ↓sRetN, ↓sIfS, ↓sAsg, ↓sFor, ↓sVar, ↓sRV, ↓sRE, ↓sC, ↓aNil, ↓aCons, ↓ar, ↓dNil, ↓dCons, ↓fz, ↓sLst, ↓sTup, ↓s1, ↓s2, ↓s3, ↓s4, ↓rs, ↓sT, ↓sAnd, ↓sOr, ↓sNot, ↓vB, ↓sAndV, ↓sOrV, ↓sNotV, ↓sIf, ↓sgName, ↓Dv.cellOf, ↓sgNil, ↓sgCons, ↓sgTup, ↓sIt, ↓sRng1, ↓sRng2, ↓sEnum, ↓sZip, ↓sRev, ↓sRevR, ↓sRg1, ↓sRg2, ↓sI, ↓sLstR, ↓sCall, ↓sMeth, ↓sSetIx, ↓sAugIx, ↓sAug, ↓sSl, ↓pNo, ↓pSome, ↓sLc, ↓sYes, ↓sStep, ↓sIxG, ↓oAdd, ↓oI, ↓oI0, ↓oSub, ↓oMul, ↓oFdiv, ↓oMod, ↓oPow, ↓oShl, ↓oShr, ↓oNeg, ↓oEq, ↓oNe, ↓oLtI, ↓oLeI, ↓oGtI, ↓oGeI, ↓oIs, ↓oIn, ↓oIx, ↓oSl, ↓oLen, ↓oAbs, ↓oInt, ↓oMax2, ↓oMin2, ↓oList, ↓oTuple, ↓oIsi, ↓oAddI, ↓mAppend, ↓mExtend, ↓mPop, ↓mPopAt, ↓mInsert, ↓ng, ↓isNone, ↓noFd, ↓cells0, ↓arCell, List.map_cons, List.map_nil, List.length_cons, List.length_nil, List.cons_append, List.nil_append, List.replicate, Nat.reduceAdd, Nat.reduceSub, Nat.zero_add, List.getElem?_cons_zero, List.getElem?_cons_succ, List.set_cons_zero, List.set_cons_succ, if_true, if_false, ↓reduceIte, Bool.false_eq_true, true_and, and_true, not_true_eq_false, not_false_eq_true, decide_eq_true_eq, Bool.not_true, Bool.not_false, Bool.not_not, Bool.not_eq_true', decide_eq_false_iff_not, List.length_map, atI0, atI1, atI2, F__law_draw_ap]
    refine ⟨by omega, by omega, fun d d0 d1 => ?_⟩
    split
    · rename_i hs
      refine ⟨by omega, by omega, fun c2 c3 c4 => ⟨by decide, by omega, ?_⟩⟩
      refine hk _ ⟨st + (1 + d), _, T ++ [(st + (1 + d), c2)], by rw [List.map_append]; rfl, by omega, ⟨c', r' ++ [_], by rw [e]; rfl⟩, up_append u (fun p h => by have := hp p h; omega) (by omega) hs c3 (by omega), fun p h => ?_, by simp; omega⟩
      rw [List.mem_append, List.mem_singleton] at h
      rcases h with h | rfl
      · have := hp p h; omega
      · exact Int.le_refl _
    · exact hk _ ⟨st + (1 + d), _, T, rfl, by omega, ⟨c', r', e⟩, u, fun p h => by have := hp p h; omega, by omega⟩
theorem F__law_tariff_ap {k kx} : F__law_tariff [.fd] k kx = ∀ t : TT, Ok t → t.length ≤ 6 → k (.fr (t.map dP)) :=
  propext ⟨fun ⟨_, h⟩ => h, fun h => ⟨rfl, h⟩⟩
def F__law_second : Fn := fun as k _ => ∃ t : TT, as = [.fd, .d (dT t)] ∧ Ok t ∧ t.length ≤ 6 ∧ ∀ o : TT, Ok o → k (.fr (o.map dP))
theorem len__law_second : ∀ as k kx, F__law_second as k kx → as.length = 2 := by rintro as k kx ⟨t, rfl, _⟩; rfl
theorem up_mid : ∀ {t : TT} {lo : Int} {i : Nat} {p : Int × Int} {c : Int}, Up lo t → t[i]? = some p → 0 ≤ c → c ≤ 1000 → Up lo (t.take i ++ [(p.1, c)] ++ t.drop (i + 1))
  | q :: r, _, 0, _, _, u, h, h1, h2 => by simp at h; subst h; exact ⟨u.1, u.2.1, h1, h2, u.2.2.2.2⟩
  | q :: r, _, i + 1, p, c, u, h, h1, h2 => ⟨u.1, u.2.1, u.2.2.1, u.2.2.2.1, up_mid (i := i) u.2.2.2.2 (by simpa using h) h1 h2⟩
theorem ok_mid {t : TT} {i : Nat} {p : Int × Int} {c : Int} (h : Ok t) (hl : t.length ≤ 6) (hp : t[i]? = some p) (h1 : 0 ≤ c) (h2 : c ≤ 1000) : Ok (t.take i ++ [(p.1, c)] ++ t.drop (i + 1)) := by
  have hi := (List.getElem?_eq_some_iff.mp hp).1
  obtain ⟨c0, r, e, u, _⟩ := h
  have u2 := up_mid u hp h1 h2
  cases i with
  | zero =>
    rw [e] at hp
    simp at hp
    subst hp
    exact ⟨c, r, by rw [e]; rfl, u2, by simp; omega⟩
  | succ i => exact ⟨c0, _, by rw [e]; rfl, u2, by simp; omega⟩
theorem w__law_second : ∀ as k kx, F__law_second as k kx → m__law_second F_draw F__law_tariff ⟨cells0 4 as, kx⟩ { nx := fun _ => k (.im .none), rt := fun v _ => noFd k v } := by
  rintro as k kx ⟨t, rfl, o1, hl, h⟩
  have hne : 0 < t.length := by cases e : t with | nil => exact absurd e o1.ne | cons => simp
  unfold m__law_second
  simp only [↓sSeq, ↓sNext, ↓sBreak, ↓sCont, ↓sDrop, ↓sRet, ↓sRetV, ↓sRetN, ↓sIfS, ↓sAsg, ↓sFor, ↓sVar, ↓sRV, ↓sRE, ↓sC, ↓aNil, ↓aCons, ↓ar, ↓dNil, ↓dCons, ↓fz, ↓sLst, ↓sTup, ↓s1, ↓s2, ↓s3, ↓s4, ↓rs, ↓sT, ↓sAnd, ↓sOr, ↓sNot, ↓vB, ↓sAndV, ↓sOrV, ↓sNotV, ↓sIf, ↓sgName, ↓Dv.cellOf, ↓sgNil, ↓sgCons, ↓sgTup, ↓sIt, ↓sRng1, ↓sRng2, ↓sEnum, ↓sZip, ↓sRev, ↓sRevR, ↓sRg1, ↓sRg2, ↓sI, ↓sLstR, ↓sCall, ↓sMeth, ↓sSetIx, ↓sAugIx, ↓sAug, ↓sSl, ↓pNo, ↓pSome, ↓sLc, ↓sYes, ↓sStep, ↓sIxG, ↓oAdd, ↓oI, ↓oI0, ↓oSub, ↓oMul, ↓oFdiv, ↓oMod, ↓oPow, ↓oShl, ↓oShr, ↓oNeg, ↓oEq, ↓oNe, ↓oLtI, ↓oLeI, ↓oGtI, ↓oGeI, ↓oIs, ↓oIn, ↓oIx, ↓oSl, ↓oLen, ↓oAbs, ↓oInt, ↓oMax2, ↓oMin2, ↓oList, ↓oTuple, ↓oIsi, ↓oAddI, ↓mAppend, ↓mExtend, ↓mPop, ↓mPopAt, ↓mInsert, ↓ng, ↓isNone, ↓noFd, ↓cells0, ↓arCell, List.map_cons, List.map_nil, List.length_cons, List.length_nil, List.cons_append, List.nil_append, List.replicate, Nat.reduceAdd, Nat.reduceSub, Nat.zero_add, List.getElem?_cons_zero, List.getElem?_cons_succ, List.set_cons_zero, List.set_cons_succ, if_true, if_false, ↓reduceIte, Bool.false_eq_true, true_and, and_true, not_true_eq_false, not_false_eq_true, decide_eq_true_eq, Bool.not_true, Bool.not_false, Bool.not_not, Bool.not_eq_true', decide_eq_false_iff_not, List.length_map, atI0, atI1, atI2, F__law_draw_ap, dT]
  refine ⟨by decide, by decide, fun sh s0 s1 => ⟨by omega, by omega, fun at_ a0 a1 => ?_⟩⟩
  obtain ⟨i, rfl⟩ : ∃ i : Nat, at_ = i := ⟨at_.toNat, by omega⟩
  obtain ⟨p, hp⟩ : ∃ p, t[i]? = some p := ⟨t[i], List.getElem?_eq_getElem (by omega)⟩
  have z0 : ∀ a b : Int, L2.atI [PyData.int a, PyData.int b] 0 = some (.int a) := fun _ _ => rfl
  have z1 : ∀ a b : Int, L2.atI [PyData.int a, PyData.int b] 1 = some (.int b) := fun _ _ => rfl
  by_cases h2 : sh < 2
  · simp only [↓sSeq, ↓sNext, ↓sBreak, ↓sCont, ↓sDrop, ↓sRet, ↓sRetV, ↓sRetN, ↓sIfS, ↓sAsg, ↓sFor, ↓sVar, ↓sRV, ↓sRE, ↓sC, ↓aNil, ↓aCons, ↓ar, ↓dNil, ↓dCons, ↓fz, ↓sLst, ↓sTup, ↓s1, ↓s2, ↓s3, ↓s4, ↓rs, ↓sT, ↓sAnd, ↓sOr, ↓sNot, ↓vB, ↓sAndV, ↓sOrV, ↓sNotV, ↓sIf, ↓sgName, ↓Dv.cellOf, ↓sgNil, ↓sgCons, ↓sgTup, ↓sIt, ↓sRng1, ↓sRng2, ↓sEnum, ↓sZip, ↓sRev, ↓sRevR, ↓sRg1, ↓sRg2, ↓sI, ↓sLstR, ↓sCall, ↓sMeth, ↓sSetIx, ↓sAugIx, ↓sAug, ↓sSl, ↓pNo, ↓pSome, ↓sLc, ↓sYes, ↓sStep, ↓sIxG, ↓oAdd, ↓oI, ↓oI0, ↓oSub, ↓oMul, ↓oFdiv, ↓oMod, ↓oPow, ↓oShl, ↓oShr, ↓oNeg, ↓oEq, ↓oNe, ↓oLtI, ↓oLeI, ↓oGtI, ↓oGeI, ↓oIs, ↓oIn, ↓oIx, ↓oSl, ↓oLen, ↓oAbs, ↓oInt, ↓oMax2, ↓oMin2, ↓oList, ↓oTuple, ↓oIsi, ↓oAddI, ↓mAppend, ↓mExtend, ↓mPop, ↓mPopAt, ↓mInsert, ↓ng, ↓isNone, ↓noFd, ↓cells0, ↓arCell, List.map_cons, List.map_nil, List.length_cons, List.length_nil, List.cons_append, List.nil_append, List.replicate, Nat.reduceAdd, Nat.reduceSub, Nat.zero_add, List.getElem?_cons_zero, List.getElem?_cons_succ, List.set_cons_zero, List.set_cons_succ, if_true, if_false, ↓reduceIte, Bool.false_eq_true, true_and, and_true, not_true_eq_false, not_false_eq_true, decide_eq_true_eq, Bool.not_true, Bool.not_false, Bool.not_not, Bool.not_eq_true', decide_eq_false_iff_not, List.length_map, atI0, atI1, atI2, h2, F__law_tariff_ap]
    exact fun t h1 _ => h t h1
  · skip
    · have fin : ∀ c, 0 ≤ c → c ≤ 1000 → (List.take i (t.map dP)).length + 1 ≤ 16777216 ∧ (List.take i (t.map dP) ++ [PyData.tuple [.int p.1, .int c]]).length + (List.drop (i + 1) (t.map dP)).length ≤ 16777216 ∧ k (.fr (List.take i (t.map dP) ++ [PyData.tuple [.int p.1, .int c]] ++ List.drop (i + 1) (t.map dP))) := fun c c1 c2 => by
        refine ⟨by simp; omega, by simp; omega, ?_⟩
        have := h _ (ok_mid o1 hl hp c1 c2)
        rwa [List.map_append, List.map_append, List.map_take, List.map_drop] at this
      by_cases h3 : sh = 2
      · simp only [↓sSeq, ↓sNext, ↓sBreak, ↓sCont, ↓sDrop, ↓sRet, ↓sRetV, ↓sRetN, ↓sIfS, ↓sAsg, ↓sFor, ↓sVar, ↓sRV, ↓sRE, ↓sC, ↓aNil, ↓aCons, ↓ar, ↓dNil, ↓dCons, ↓fz, ↓sLst, ↓sTup, ↓s1, ↓s2, ↓s3, ↓s4, ↓rs, ↓sT, ↓sAnd, ↓sOr, ↓sNot, ↓vB, ↓sAndV, ↓sOrV, ↓sNotV, ↓sIf, ↓sgName, ↓Dv.cellOf, ↓sgNil, ↓sgCons, ↓sgTup, ↓sIt, ↓sRng1, ↓sRng2, ↓sEnum, ↓sZip, ↓sRev, ↓sRevR, ↓sRg1, ↓sRg2, ↓sI, ↓sLstR, ↓sCall, ↓sMeth, ↓sSetIx, ↓sAugIx, ↓sAug, ↓sSl, ↓pNo, ↓pSome, ↓sLc, ↓sYes, ↓sStep, ↓sIxG, ↓oAdd, ↓oI, ↓oI0, ↓oSub, ↓oMul, ↓oFdiv, ↓oMod, ↓oPow, ↓oShl, ↓oShr, ↓oNeg, ↓oEq, ↓oNe, ↓oLtI, ↓oLeI, ↓oGtI, ↓oGeI, ↓oIs, ↓oIn, ↓oIx, ↓oSl, ↓oLen, ↓oAbs, ↓oInt, ↓oMax2, ↓oMin2, ↓oList, ↓oTuple, ↓oIsi, ↓oAddI, ↓mAppend, ↓mExtend, ↓mPop, ↓mPopAt, ↓mInsert, ↓ng, ↓isNone, ↓noFd, ↓cells0, ↓arCell, List.map_cons, List.map_nil, List.length_cons, List.length_nil, List.cons_append, List.nil_append, List.replicate, Nat.reduceAdd, Nat.reduceSub, Nat.zero_add, List.getElem?_cons_zero, List.getElem?_cons_succ, List.set_cons_zero, List.set_cons_succ, if_true, if_false, ↓reduceIte, Bool.false_eq_true, true_and, and_true, not_true_eq_false, not_false_eq_true, decide_eq_true_eq, Bool.not_true, Bool.not_false, Bool.not_not, Bool.not_eq_true', decide_eq_false_iff_not, List.length_map, atI0, atI1, atI2, h2, eq_true h3, F__law_draw_ap, dT_get hp, z0, cutN_to, cutN_from1]
        exact ⟨by decide, by decide, fun c c1 c2 => ⟨by decide, by decide, fin c c1 (by omega)⟩⟩
      · by_cases h4 : sh = 3
        · have hpr := up_get o1.up hp
          simp only [↓sSeq, ↓sNext, ↓sBreak, ↓sCont, ↓sDrop, ↓sRet, ↓sRetV, ↓sRetN, ↓sIfS, ↓sAsg, ↓sFor, ↓sVar, ↓sRV, ↓sRE, ↓sC, ↓aNil, ↓aCons, ↓ar, ↓dNil, ↓dCons, ↓fz, ↓sLst, ↓sTup, ↓s1, ↓s2, ↓s3, ↓s4, ↓rs, ↓sT, ↓sAnd, ↓sOr, ↓sNot, ↓vB, ↓sAndV, ↓sOrV, ↓sNotV, ↓sIf, ↓sgName, ↓Dv.cellOf, ↓sgNil, ↓sgCons, ↓sgTup, ↓sIt, ↓sRng1, ↓sRng2, ↓sEnum, ↓sZip, ↓sRev, ↓sRevR, ↓sRg1, ↓sRg2, ↓sI, ↓sLstR, ↓sCall, ↓sMeth, ↓sSetIx, ↓sAugIx, ↓sAug, ↓sSl, ↓pNo, ↓pSome, ↓sLc, ↓sYes, ↓sStep, ↓sIxG, ↓oAdd, ↓oI, ↓oI0, ↓oSub, ↓oMul, ↓oFdiv, ↓oMod, ↓oPow, ↓oShl, ↓oShr, ↓oNeg, ↓oEq, ↓oNe, ↓oLtI, ↓oLeI, ↓oGtI, ↓oGeI, ↓oIs, ↓oIn, ↓oIx, ↓oSl, ↓oLen, ↓oAbs, ↓oInt, ↓oMax2, ↓oMin2, ↓oList, ↓oTuple, ↓oIsi, ↓oAddI, ↓mAppend, ↓mExtend, ↓mPop, ↓mPopAt, ↓mInsert, ↓ng, ↓isNone, ↓noFd, ↓cells0, ↓arCell, List.map_cons, List.map_nil, List.length_cons, List.length_nil, List.cons_append, List.nil_append, List.replicate, Nat.reduceAdd, Nat.reduceSub, Nat.zero_add, List.getElem?_cons_zero, List.getElem?_cons_succ, List.set_cons_zero, List.set_cons_succ, if_true, if_false, ↓reduceIte, Bool.false_eq_true, true_and, and_true, not_true_eq_false, not_false_eq_true, decide_eq_true_eq, Bool.not_true, Bool.not_false, Bool.not_not, Bool.not_eq_true', decide_eq_false_iff_not, List.length_map, atI0, atI1, atI2, h2, h3, eq_true h4, dT_get hp, z0, z1, cutN_to, cutN_from1]
          refine ⟨by decide, by decide, fin _ ?_ ?_⟩ <;> split <;> omega
        · have ok0 : k (Vl.fr (t.map dP)) := h t o1
          obtain ⟨c, r, e, u, _⟩ := o1
          have fin : ∀ (s1 c1 s2 c2 : Int) (r' : TT), r = (s1, c1) :: (s2, c2) :: r' → s1 = 2 → s2 = 3 → 1 + 1 ≤ 1000 ∧ (1 + 1) + (r'.length + 1) ≤ 16777216 ∧ k (Vl.fr ([PyData.tuple [.int 1, .int c1], .tuple [.int 2, .int c]] ++ (PyData.tuple [.int s2, .int c2] :: r'.map dP))) := fun s1 c1 s2 c2 r' er e1 e2 => by
            subst er e1 e2
            rw [e] at u hl
            refine ⟨by decide, by simp at hl; omega, ?_⟩
            obtain ⟨u1, u2, u3, u4, u5, u6, u7, u8, u9⟩ := u
            exact h ((1, c1) :: (2, c) :: (3, c2) :: r') ⟨_, _, rfl, ⟨by omega, by omega, u7, u8, by omega, by omega, u3, u4, u9⟩, by simpa using by simp at hl; omega⟩
          have c2 : ∀ xs : List D, Dv.cutD xs (some 2) none = xs.drop 2 := fun xs => cutN_from xs 2
          cases r with
          | nil =>
            simp only [↓sSeq, ↓sNext, ↓sBreak, ↓sCont, ↓sDrop, ↓sRet, ↓sRetV, ↓sRetN, ↓sIfS, ↓sAsg, ↓sFor, ↓sVar, ↓sRV, ↓sRE, ↓sC, ↓aNil, ↓aCons, ↓ar, ↓dNil, ↓dCons, ↓fz, ↓sLst, ↓sTup, ↓s1, ↓s2, ↓s3, ↓s4, ↓rs, ↓sT, ↓sAnd, ↓sOr, ↓sNot, ↓vB, ↓sAndV, ↓sOrV, ↓sNotV, ↓sIf, ↓sgName, ↓Dv.cellOf, ↓sgNil, ↓sgCons, ↓sgTup, ↓sIt, ↓sRng1, ↓sRng2, ↓sEnum, ↓sZip, ↓sRev, ↓sRevR, ↓sRg1, ↓sRg2, ↓sI, ↓sLstR, ↓sCall, ↓sMeth, ↓sSetIx, ↓sAugIx, ↓sAug, ↓sSl, ↓pNo, ↓pSome, ↓sLc, ↓sYes, ↓sStep, ↓sIxG, ↓oAdd, ↓oI, ↓oI0, ↓oSub, ↓oMul, ↓oFdiv, ↓oMod, ↓oPow, ↓oShl, ↓oShr, ↓oNeg, ↓oEq, ↓oNe, ↓oLtI, ↓oLeI, ↓oGtI, ↓oGeI, ↓oIs, ↓oIn, ↓oIx, ↓oSl, ↓oLen, ↓oAbs, ↓oInt, ↓oMax2, ↓oMin2, ↓oList, ↓oTuple, ↓oIsi, ↓oAddI, ↓mAppend, ↓mExtend, ↓mPop, ↓mPopAt, ↓mInsert, ↓ng, ↓isNone, ↓noFd, ↓cells0, ↓arCell, List.map_cons, List.map_nil, List.length_cons, List.length_nil, List.cons_append, List.nil_append, List.replicate, Nat.reduceAdd, Nat.reduceSub, Nat.zero_add, List.getElem?_cons_zero, List.getElem?_cons_succ, List.set_cons_zero, List.set_cons_succ, if_true, if_false, ↓reduceIte, Bool.false_eq_true, true_and, and_true, not_true_eq_false, not_false_eq_true, decide_eq_true_eq, Bool.not_true, Bool.not_false, Bool.not_not, Bool.not_eq_true', decide_eq_false_iff_not, List.length_map, atI0, atI1, atI2, h2, h3, h4, e, dP, List.drop, c2]
            rw [e] at ok0
            by_cases h5 : sh = 4
            · simp only [↓sSeq, ↓sNext, ↓sBreak, ↓sCont, ↓sDrop, ↓sRet, ↓sRetV, ↓sRetN, ↓sIfS, ↓sAsg, ↓sFor, ↓sVar, ↓sRV, ↓sRE, ↓sC, ↓aNil, ↓aCons, ↓ar, ↓dNil, ↓dCons, ↓fz, ↓sLst, ↓sTup, ↓s1, ↓s2, ↓s3, ↓s4, ↓rs, ↓sT, ↓sAnd, ↓sOr, ↓sNot, ↓vB, ↓sAndV, ↓sOrV, ↓sNotV, ↓sIf, ↓sgName, ↓Dv.cellOf, ↓sgNil, ↓sgCons, ↓sgTup, ↓sIt, ↓sRng1, ↓sRng2, ↓sEnum, ↓sZip, ↓sRev, ↓sRevR, ↓sRg1, ↓sRg2, ↓sI, ↓sLstR, ↓sCall, ↓sMeth, ↓sSetIx, ↓sAugIx, ↓sAug, ↓sSl, ↓pNo, ↓pSome, ↓sLc, ↓sYes, ↓sStep, ↓sIxG, ↓oAdd, ↓oI, ↓oI0, ↓oSub, ↓oMul, ↓oFdiv, ↓oMod, ↓oPow, ↓oShl, ↓oShr, ↓oNeg, ↓oEq, ↓oNe, ↓oLtI, ↓oLeI, ↓oGtI, ↓oGeI, ↓oIs, ↓oIn, ↓oIx, ↓oSl, ↓oLen, ↓oAbs, ↓oInt, ↓oMax2, ↓oMin2, ↓oList, ↓oTuple, ↓oIsi, ↓oAddI, ↓mAppend, ↓mExtend, ↓mPop, ↓mPopAt, ↓mInsert, ↓ng, ↓isNone, ↓noFd, ↓cells0, ↓arCell, List.map_cons, List.map_nil, List.length_cons, List.length_nil, List.cons_append, List.nil_append, List.replicate, Nat.reduceAdd, Nat.reduceSub, Nat.zero_add, List.getElem?_cons_zero, List.getElem?_cons_succ, List.set_cons_zero, List.set_cons_succ, if_true, if_false, ↓reduceIte, Bool.false_eq_true, true_and, and_true, not_true_eq_false, not_false_eq_true, decide_eq_true_eq, Bool.not_true, Bool.not_false, Bool.not_not, Bool.not_eq_true', decide_eq_false_iff_not, List.length_map, atI0, atI1, atI2, eq_true h5]
              exact ok0
            · simp only [↓sSeq, ↓sNext, ↓sBreak, ↓sCont, ↓sDrop, ↓sRet, ↓sRetV, ↓sRetN, ↓sIfS, ↓sAsg, ↓sFor, ↓sVar, ↓sRV, ↓sRE, ↓sC, ↓aNil, ↓aCons, ↓ar, ↓dNil, ↓dCons, ↓fz, ↓sLst, ↓sTup, ↓s1, ↓s2, ↓s3, ↓s4, ↓rs, ↓sT, ↓sAnd, ↓sOr, ↓sNot, ↓vB, ↓sAndV, ↓sOrV, ↓sNotV, ↓sIf, ↓sgName, ↓Dv.cellOf, ↓sgNil, ↓sgCons, ↓sgTup, ↓sIt, ↓sRng1, ↓sRng2, ↓sEnum, ↓sZip, ↓sRev, ↓sRevR, ↓sRg1, ↓sRg2, ↓sI, ↓sLstR, ↓sCall, ↓sMeth, ↓sSetIx, ↓sAugIx, ↓sAug, ↓sSl, ↓pNo, ↓pSome, ↓sLc, ↓sYes, ↓sStep, ↓sIxG, ↓oAdd, ↓oI, ↓oI0, ↓oSub, ↓oMul, ↓oFdiv, ↓oMod, ↓oPow, ↓oShl, ↓oShr, ↓oNeg, ↓oEq, ↓oNe, ↓oLtI, ↓oLeI, ↓oGtI, ↓oGeI, ↓oIs, ↓oIn, ↓oIx, ↓oSl, ↓oLen, ↓oAbs, ↓oInt, ↓oMax2, ↓oMin2, ↓oList, ↓oTuple, ↓oIsi, ↓oAddI, ↓mAppend, ↓mExtend, ↓mPop, ↓mPopAt, ↓mInsert, ↓ng, ↓isNone, ↓noFd, ↓cells0, ↓arCell, List.map_cons, List.map_nil, List.length_cons, List.length_nil, List.cons_append, List.nil_append, List.replicate, Nat.reduceAdd, Nat.reduceSub, Nat.zero_add, List.getElem?_cons_zero, List.getElem?_cons_succ, List.set_cons_zero, List.set_cons_succ, if_true, if_false, ↓reduceIte, Bool.false_eq_true, true_and, and_true, not_true_eq_false, not_false_eq_true, decide_eq_true_eq, Bool.not_true, Bool.not_false, Bool.not_not, Bool.not_eq_true', decide_eq_false_iff_not, List.length_map, atI0, atI1, atI2, h5]
              exact ok0
          | cons p1 r => cases r with
            | nil =>
              rw [e] at ok0
              by_cases h5 : sh = 4
              · simp only [↓sSeq, ↓sNext, ↓sBreak, ↓sCont, ↓sDrop, ↓sRet, ↓sRetV, ↓sRetN, ↓sIfS, ↓sAsg, ↓sFor, ↓sVar, ↓sRV, ↓sRE, ↓sC, ↓aNil, ↓aCons, ↓ar, ↓dNil, ↓dCons, ↓fz, ↓sLst, ↓sTup, ↓s1, ↓s2, ↓s3, ↓s4, ↓rs, ↓sT, ↓sAnd, ↓sOr, ↓sNot, ↓vB, ↓sAndV, ↓sOrV, ↓sNotV, ↓sIf, ↓sgName, ↓Dv.cellOf, ↓sgNil, ↓sgCons, ↓sgTup, ↓sIt, ↓sRng1, ↓sRng2, ↓sEnum, ↓sZip, ↓sRev, ↓sRevR, ↓sRg1, ↓sRg2, ↓sI, ↓sLstR, ↓sCall, ↓sMeth, ↓sSetIx, ↓sAugIx, ↓sAug, ↓sSl, ↓pNo, ↓pSome, ↓sLc, ↓sYes, ↓sStep, ↓sIxG, ↓oAdd, ↓oI, ↓oI0, ↓oSub, ↓oMul, ↓oFdiv, ↓oMod, ↓oPow, ↓oShl, ↓oShr, ↓oNeg, ↓oEq, ↓oNe, ↓oLtI, ↓oLeI, ↓oGtI, ↓oGeI, ↓oIs, ↓oIn, ↓oIx, ↓oSl, ↓oLen, ↓oAbs, ↓oInt, ↓oMax2, ↓oMin2, ↓oList, ↓oTuple, ↓oIsi, ↓oAddI, ↓mAppend, ↓mExtend, ↓mPop, ↓mPopAt, ↓mInsert, ↓ng, ↓isNone, ↓noFd, ↓cells0, ↓arCell, List.map_cons, List.map_nil, List.length_cons, List.length_nil, List.cons_append, List.nil_append, List.replicate, Nat.reduceAdd, Nat.reduceSub, Nat.zero_add, List.getElem?_cons_zero, List.getElem?_cons_succ, List.set_cons_zero, List.set_cons_succ, if_true, if_false, ↓reduceIte, Bool.false_eq_true, true_and, and_true, not_true_eq_false, not_false_eq_true, decide_eq_true_eq, Bool.not_true, Bool.not_false, Bool.not_not, Bool.not_eq_true', decide_eq_false_iff_not, List.length_map, atI0, atI1, atI2, h2, h3, h4, eq_true h5, e, dP, List.drop, c2]
                exact ok0
              · simp only [↓sSeq, ↓sNext, ↓sBreak, ↓sCont, ↓sDrop, ↓sRet, ↓sRetV, ↓sRetN, ↓sIfS, ↓sAsg, ↓sFor, ↓sVar, ↓sRV, ↓sRE, ↓sC, ↓aNil, ↓aCons, ↓ar, ↓dNil, ↓dCons, ↓fz, ↓sLst, ↓sTup, ↓s1, ↓s2, ↓s3, ↓s4, ↓rs, ↓sT, ↓sAnd, ↓sOr, ↓sNot, ↓vB, ↓sAndV, ↓sOrV, ↓sNotV, ↓sIf, ↓sgName, ↓Dv.cellOf, ↓sgNil, ↓sgCons, ↓sgTup, ↓sIt, ↓sRng1, ↓sRng2, ↓sEnum, ↓sZip, ↓sRev, ↓sRevR, ↓sRg1, ↓sRg2, ↓sI, ↓sLstR, ↓sCall, ↓sMeth, ↓sSetIx, ↓sAugIx, ↓sAug, ↓sSl, ↓pNo, ↓pSome, ↓sLc, ↓sYes, ↓sStep, ↓sIxG, ↓oAdd, ↓oI, ↓oI0, ↓oSub, ↓oMul, ↓oFdiv, ↓oMod, ↓oPow, ↓oShl, ↓oShr, ↓oNeg, ↓oEq, ↓oNe, ↓oLtI, ↓oLeI, ↓oGtI, ↓oGeI, ↓oIs, ↓oIn, ↓oIx, ↓oSl, ↓oLen, ↓oAbs, ↓oInt, ↓oMax2, ↓oMin2, ↓oList, ↓oTuple, ↓oIsi, ↓oAddI, ↓mAppend, ↓mExtend, ↓mPop, ↓mPopAt, ↓mInsert, ↓ng, ↓isNone, ↓noFd, ↓cells0, ↓arCell, List.map_cons, List.map_nil, List.length_cons, List.length_nil, List.cons_append, List.nil_append, List.replicate, Nat.reduceAdd, Nat.reduceSub, Nat.zero_add, List.getElem?_cons_zero, List.getElem?_cons_succ, List.set_cons_zero, List.set_cons_succ, if_true, if_false, ↓reduceIte, Bool.false_eq_true, true_and, and_true, not_true_eq_false, not_false_eq_true, decide_eq_true_eq, Bool.not_true, Bool.not_false, Bool.not_not, Bool.not_eq_true', decide_eq_false_iff_not, List.length_map, atI0, atI1, atI2, h2, h3, h4, h5, e, dP, List.drop, c2]
                exact ok0
            | cons p2 r =>
              rw [e] at ok0
              have hg : (2 : Int) < ((r.length + 1 + 1 + 1 : Nat) : Int) := by omega
              by_cases h5 : sh = 4
              · by_cases h6 : p1.1 = 2
                · by_cases h7 : p2.1 = 3
                  · simp only [↓sSeq, ↓sNext, ↓sBreak, ↓sCont, ↓sDrop, ↓sRet, ↓sRetV, ↓sRetN, ↓sIfS, ↓sAsg, ↓sFor, ↓sVar, ↓sRV, ↓sRE, ↓sC, ↓aNil, ↓aCons, ↓ar, ↓dNil, ↓dCons, ↓fz, ↓sLst, ↓sTup, ↓s1, ↓s2, ↓s3, ↓s4, ↓rs, ↓sT, ↓sAnd, ↓sOr, ↓sNot, ↓vB, ↓sAndV, ↓sOrV, ↓sNotV, ↓sIf, ↓sgName, ↓Dv.cellOf, ↓sgNil, ↓sgCons, ↓sgTup, ↓sIt, ↓sRng1, ↓sRng2, ↓sEnum, ↓sZip, ↓sRev, ↓sRevR, ↓sRg1, ↓sRg2, ↓sI, ↓sLstR, ↓sCall, ↓sMeth, ↓sSetIx, ↓sAugIx, ↓sAug, ↓sSl, ↓pNo, ↓pSome, ↓sLc, ↓sYes, ↓sStep, ↓sIxG, ↓oAdd, ↓oI, ↓oI0, ↓oSub, ↓oMul, ↓oFdiv, ↓oMod, ↓oPow, ↓oShl, ↓oShr, ↓oNeg, ↓oEq, ↓oNe, ↓oLtI, ↓oLeI, ↓oGtI, ↓oGeI, ↓oIs, ↓oIn, ↓oIx, ↓oSl, ↓oLen, ↓oAbs, ↓oInt, ↓oMax2, ↓oMin2, ↓oList, ↓oTuple, ↓oIsi, ↓oAddI, ↓mAppend, ↓mExtend, ↓mPop, ↓mPopAt, ↓mInsert, ↓ng, ↓isNone, ↓noFd, ↓cells0, ↓arCell, List.map_cons, List.map_nil, List.length_cons, List.length_nil, List.cons_append, List.nil_append, List.replicate, Nat.reduceAdd, Nat.reduceSub, Nat.zero_add, List.getElem?_cons_zero, List.getElem?_cons_succ, List.set_cons_zero, List.set_cons_succ, if_true, if_false, ↓reduceIte, Bool.false_eq_true, true_and, and_true, not_true_eq_false, not_false_eq_true, decide_eq_true_eq, Bool.not_true, Bool.not_false, Bool.not_not, Bool.not_eq_true', decide_eq_false_iff_not, List.length_map, atI0, atI1, atI2, h2, h3, h4, eq_true h5, eq_true h6, eq_true h7, hg, e, dP, List.drop, c2]
                    have f := fin p1.1 p1.2 p2.1 p2.2 r rfl h6 h7
                    exact ⟨by decide, by decide, by decide, f.2.1, f.2.2⟩
                  · simp only [↓sSeq, ↓sNext, ↓sBreak, ↓sCont, ↓sDrop, ↓sRet, ↓sRetV, ↓sRetN, ↓sIfS, ↓sAsg, ↓sFor, ↓sVar, ↓sRV, ↓sRE, ↓sC, ↓aNil, ↓aCons, ↓ar, ↓dNil, ↓dCons, ↓fz, ↓sLst, ↓sTup, ↓s1, ↓s2, ↓s3, ↓s4, ↓rs, ↓sT, ↓sAnd, ↓sOr, ↓sNot, ↓vB, ↓sAndV, ↓sOrV, ↓sNotV, ↓sIf, ↓sgName, ↓Dv.cellOf, ↓sgNil, ↓sgCons, ↓sgTup, ↓sIt, ↓sRng1, ↓sRng2, ↓sEnum, ↓sZip, ↓sRev, ↓sRevR, ↓sRg1, ↓sRg2, ↓sI, ↓sLstR, ↓sCall, ↓sMeth, ↓sSetIx, ↓sAugIx, ↓sAug, ↓sSl, ↓pNo, ↓pSome, ↓sLc, ↓sYes, ↓sStep, ↓sIxG, ↓oAdd, ↓oI, ↓oI0, ↓oSub, ↓oMul, ↓oFdiv, ↓oMod, ↓oPow, ↓oShl, ↓oShr, ↓oNeg, ↓oEq, ↓oNe, ↓oLtI, ↓oLeI, ↓oGtI, ↓oGeI, ↓oIs, ↓oIn, ↓oIx, ↓oSl, ↓oLen, ↓oAbs, ↓oInt, ↓oMax2, ↓oMin2, ↓oList, ↓oTuple, ↓oIsi, ↓oAddI, ↓mAppend, ↓mExtend, ↓mPop, ↓mPopAt, ↓mInsert, ↓ng, ↓isNone, ↓noFd, ↓cells0, ↓arCell, List.map_cons, List.map_nil, List.length_cons, List.length_nil, List.cons_append, List.nil_append, List.replicate, Nat.reduceAdd, Nat.reduceSub, Nat.zero_add, List.getElem?_cons_zero, List.getElem?_cons_succ, List.set_cons_zero, List.set_cons_succ, if_true, if_false, ↓reduceIte, Bool.false_eq_true, true_and, and_true, not_true_eq_false, not_false_eq_true, decide_eq_true_eq, Bool.not_true, Bool.not_false, Bool.not_not, Bool.not_eq_true', decide_eq_false_iff_not, List.length_map, atI0, atI1, atI2, h2, h3, h4, eq_true h5, eq_true h6, eq_false h7, hg, e, dP, List.drop, c2]
                    exact ok0
                · simp only [↓sSeq, ↓sNext, ↓sBreak, ↓sCont, ↓sDrop, ↓sRet, ↓sRetV, ↓sRetN, ↓sIfS, ↓sAsg, ↓sFor, ↓sVar, ↓sRV, ↓sRE, ↓sC, ↓aNil, ↓aCons, ↓ar, ↓dNil, ↓dCons, ↓fz, ↓sLst, ↓sTup, ↓s1, ↓s2, ↓s3, ↓s4, ↓rs, ↓sT, ↓sAnd, ↓sOr, ↓sNot, ↓vB, ↓sAndV, ↓sOrV, ↓sNotV, ↓sIf, ↓sgName, ↓Dv.cellOf, ↓sgNil, ↓sgCons, ↓sgTup, ↓sIt, ↓sRng1, ↓sRng2, ↓sEnum, ↓sZip, ↓sRev, ↓sRevR, ↓sRg1, ↓sRg2, ↓sI, ↓sLstR, ↓sCall, ↓sMeth, ↓sSetIx, ↓sAugIx, ↓sAug, ↓sSl, ↓pNo, ↓pSome, ↓sLc, ↓sYes, ↓sStep, ↓sIxG, ↓oAdd, ↓oI, ↓oI0, ↓oSub, ↓oMul, ↓oFdiv, ↓oMod, ↓oPow, ↓oShl, ↓oShr, ↓oNeg, ↓oEq, ↓oNe, ↓oLtI, ↓oLeI, ↓oGtI, ↓oGeI, ↓oIs, ↓oIn, ↓oIx, ↓oSl, ↓oLen, ↓oAbs, ↓oInt, ↓oMax2, ↓oMin2, ↓oList, ↓oTuple, ↓oIsi, ↓oAddI, ↓mAppend, ↓mExtend, ↓mPop, ↓mPopAt, ↓mInsert, ↓ng, ↓isNone, ↓noFd, ↓cells0, ↓arCell, List.map_cons, List.map_nil, List.length_cons, List.length_nil, List.cons_append, List.nil_append, List.replicate, Nat.reduceAdd, Nat.reduceSub, Nat.zero_add, List.getElem?_cons_zero, List.getElem?_cons_succ, List.set_cons_zero, List.set_cons_succ, if_true, if_false, ↓reduceIte, Bool.false_eq_true, true_and, and_true, not_true_eq_false, not_false_eq_true, decide_eq_true_eq, Bool.not_true, Bool.not_false, Bool.not_not, Bool.not_eq_true', decide_eq_false_iff_not, List.length_map, atI0, atI1, atI2, h2, h3, h4, eq_true h5, eq_false h6, hg, e, dP, List.drop, c2]
                  exact ok0
              · simp only [↓sSeq, ↓sNext, ↓sBreak, ↓sCont, ↓sDrop, ↓sRet, ↓sRetV, ↓sRetN, ↓sIfS, ↓sAsg, ↓sFor, ↓sVar, ↓sRV, ↓sRE, ↓sC, ↓aNil, ↓aCons, ↓ar, ↓dNil, ↓dCons, ↓fz, ↓sLst, ↓sTup, ↓s1, ↓s2, ↓s3, ↓s4, ↓rs, ↓sT, ↓sAnd, ↓sOr, ↓sNot, ↓vB, ↓sAndV, ↓sOrV, ↓sNotV, ↓sIf, ↓sgName, ↓Dv.cellOf, ↓sgNil, ↓sgCons, ↓sgTup, ↓sIt, ↓sRng1, ↓sRng2, ↓sEnum, ↓sZip, ↓sRev, ↓sRevR, ↓sRg1, ↓sRg2, ↓sI, ↓sLstR, ↓sCall, ↓sMeth, ↓sSetIx, ↓sAugIx, ↓sAug, ↓sSl, ↓pNo, ↓pSome, ↓sLc, ↓sYes, ↓sStep, ↓sIxG, ↓oAdd, ↓oI, ↓oI0, ↓oSub, ↓oMul, ↓oFdiv, ↓oMod, ↓oPow, ↓oShl, ↓oShr, ↓oNeg, ↓oEq, ↓oNe, ↓oLtI, ↓oLeI, ↓oGtI, ↓oGeI, ↓oIs, ↓oIn, ↓oIx, ↓oSl, ↓oLen, ↓oAbs, ↓oInt, ↓oMax2, ↓oMin2, ↓oList, ↓oTuple, ↓oIsi, ↓oAddI, ↓mAppend, ↓mExtend, ↓mPop, ↓mPopAt, ↓mInsert, ↓ng, ↓isNone, ↓noFd, ↓cells0, ↓arCell, List.map_cons, List.map_nil, List.length_cons, List.length_nil, List.cons_append, List.nil_append, List.replicate, Nat.reduceAdd, Nat.reduceSub, Nat.zero_add, List.getElem?_cons_zero, List.getElem?_cons_succ, List.set_cons_zero, List.set_cons_succ, if_true, if_false, ↓reduceIte, Bool.false_eq_true, true_and, and_true, not_true_eq_false, not_false_eq_true, decide_eq_true_eq, Bool.not_true, Bool.not_false, Bool.not_not, Bool.not_eq_true', decide_eq_false_iff_not, List.length_map, atI0, atI1, atI2, h2, h3, h4, eq_false h5, hg, e, dP, List.drop, c2]
                exact ok0

end Lw

namespace Lw
open PySem PySem.Spec L2 Dv
open PyProof.Rows hiding St
theorem F__law_is_whole_ap {n : Int} {k kx} : F__law_is_whole [.d (.int n)] k kx = k (.im (.bool true)) :=
  propext ⟨fun ⟨_, _, h⟩ => h, fun h => ⟨n, rfl, h⟩⟩
theorem F__law_second_ap {t : TT} (o1 : Ok t) (hl : t.length ≤ 6) {k kx} (h : ∀ o : TT, Ok o → k (.fr (o.map dP))) : F__law_second [.fd, .d (.list (t.map dP))] k kx := ⟨t, rfl, o1, hl, h⟩
def F__law_rate : Fn := fun as k _ => ∃ (t : TT) (n : Int), as = [.d (dT t), .d (.int n)] ∧ k (.im (.int (rateM t n)))
theorem len__law_rate : ∀ as k kx, F__law_rate as k kx → as.length = 2 := by rintro as k kx ⟨d, _, rfl, _⟩; rfl
theorem w__law_rate : ∀ as k kx, F__law_rate as k kx → m__law_rate ⟨cells0 5 as, kx⟩ { nx := fun _ => k (.im .none), rt := fun v _ => noFd k v } := by
  rintro as k kx ⟨t, n, rfl, h⟩
  unfold m__law_rate
  simp only [↓sSeq, ↓sNext, ↓sBreak, ↓sCont, ↓sDrop, ↓sRet, ↓sRetV, ↓sRetN, ↓sIfS, ↓sAsg, ↓sFor, ↓sVar, ↓sRV, ↓sRE, ↓sC, ↓aNil, ↓aCons, ↓ar, ↓dNil, ↓dCons, ↓fz, ↓sLst, ↓sTup, ↓s1, ↓s2, ↓s3, ↓s4, ↓rs, ↓sT, ↓sAnd, ↓sOr, ↓sNot, ↓vB, ↓sAndV, ↓sOrV, ↓sNotV, ↓sIf, ↓sgName, ↓Dv.cellOf, ↓sgNil, ↓sgCons, ↓sgTup, ↓sIt, ↓sRng1, ↓sRng2, ↓sEnum, ↓sZip, ↓sRev, ↓sRevR, ↓sRg1, ↓sRg2, ↓sI, ↓sLstR, ↓sCall, ↓sMeth, ↓sSetIx, ↓sAugIx, ↓sAug, ↓sSl, ↓pNo, ↓pSome, ↓sLc, ↓sYes, ↓sStep, ↓sIxG, ↓oAdd, ↓oI, ↓oI0, ↓oSub, ↓oMul, ↓oFdiv, ↓oMod, ↓oPow, ↓oShl, ↓oShr, ↓oNeg, ↓oEq, ↓oNe, ↓oLtI, ↓oLeI, ↓oGtI, ↓oGeI, ↓oIs, ↓oIn, ↓oIx, ↓oSl, ↓oLen, ↓oAbs, ↓oInt, ↓oMax2, ↓oMin2, ↓oList, ↓oTuple, ↓oIsi, ↓oAddI, ↓mAppend, ↓mExtend, ↓mPop, ↓mPopAt, ↓mInsert, ↓ng, ↓isNone, ↓noFd, ↓cells0, ↓arCell, List.map_cons, List.map_nil, List.length_cons, List.length_nil, List.cons_append, List.nil_append, List.replicate, Nat.reduceAdd, Nat.reduceSub, Nat.zero_add, List.getElem?_cons_zero, List.getElem?_cons_succ, List.set_cons_zero, List.set_cons_succ, if_true, if_false, ↓reduceIte, Bool.false_eq_true, true_and, and_true, not_true_eq_false, not_false_eq_true, decide_eq_true_eq, Bool.not_true, Bool.not_false, Bool.not_not, Bool.not_eq_true', decide_eq_false_iff_not, List.length_map, atI0, atI1, atI2, dT]
  refine wLoop_map (fun i ρ => ∃ (ce : Int) (a b : Cell), ρ = ⟨[.im (.list (t.map dP)), .im (.int n), .im (.int ce), a, b], kx⟩ ∧ (t.drop i).foldl (rateF n) ce = rateM t n) ⟨0, _, _, rfl, rfl⟩ ?_ ?_
  · rintro ρ ⟨ce, a, b, rfl, e⟩
    rw [List.drop_length] at e
    simp only [↓sSeq, ↓sNext, ↓sBreak, ↓sCont, ↓sDrop, ↓sRet, ↓sRetV, ↓sRetN, ↓sIfS, ↓sAsg, ↓sFor, ↓sVar, ↓sRV, ↓sRE, ↓sC, ↓aNil, ↓aCons, ↓ar, ↓dNil, ↓dCons, ↓fz, ↓sLst, ↓sTup, ↓s1, ↓s2, ↓s3, ↓s4, ↓rs, ↓sT, ↓sAnd, ↓sOr, ↓sNot, ↓vB, ↓sAndV, ↓sOrV, ↓sNotV, ↓sIf, ↓sgName, ↓Dv.cellOf, ↓sgNil, ↓sgCons, ↓sgTup, ↓sIt, ↓sRng1, ↓sRng2, ↓sEnum, ↓sZip, ↓sRev, ↓sRevR, ↓sRg1, ↓sRg2, ↓sI, ↓sLstR, ↓sCall, ↓sMeth, ↓sSetIx, ↓sAugIx, ↓sAug, ↓sSl, ↓pNo, ↓pSome, ↓sLc, ↓sYes, ↓sStep, ↓sIxG, ↓oAdd, ↓oI, ↓oI0, ↓oSub, ↓oMul, ↓oFdiv, ↓oMod, ↓oPow, ↓oShl, ↓oShr, ↓oNeg, ↓oEq, ↓oNe, ↓oLtI, ↓oLeI, ↓oGtI, ↓oGeI, ↓oIs, ↓oIn, ↓oIx, ↓oSl, ↓oLen, ↓oAbs, ↓oInt, ↓oMax2, ↓oMin2, ↓oList, ↓oTuple, ↓oIsi, ↓oAddI, ↓mAppend, ↓mExtend, ↓mPop, ↓mPopAt, ↓mInsert, ↓ng, ↓isNone, ↓noFd, ↓cells0, ↓arCell, List.map_cons, List.map_nil, List.length_cons, List.length_nil, List.cons_append, List.nil_append, List.replicate, Nat.reduceAdd, Nat.reduceSub, Nat.zero_add, List.getElem?_cons_zero, List.getElem?_cons_succ, List.set_cons_zero, List.set_cons_succ, if_true, if_false, ↓reduceIte, Bool.false_eq_true, true_and, and_true, not_true_eq_false, not_false_eq_true, decide_eq_true_eq, Bool.not_true, Bool.not_false, Bool.not_not, Bool.not_eq_true', decide_eq_false_iff_not, List.length_map, atI0, atI1, atI2]
    have e : ce = rateM t n := e
    rw [e]; exact h
  · rintro i p ρ kk hp ⟨ce, a, b, rfl, e⟩ hk
    have hd : t.drop i = p :: t.drop (i + 1) := by
      rw [List.drop_eq_getElem_cons (List.getElem?_eq_some_iff.mp hp).1, (List.getElem?_eq_some_iff.mp hp).2]
    rw [hd, List.foldl_cons] at e
    unfold b1__law_rate
    unfold rateF at e
    simp only [↓sSeq, ↓sNext, ↓sBreak, ↓sCont, ↓sDrop, ↓sRet, ↓sRetV, ↓sRetN, ↓sIfS, ↓sAsg, ↓sFor, ↓sVar, ↓sRV, ↓sRE, ↓sC, ↓aNil, ↓aCons, ↓ar, ↓dNil, ↓dCons, ↓fz, ↓sLst, ↓sTup, ↓s1, ↓s2, ↓s3, ↓s4, ↓rs, ↓sT, ↓sAnd, ↓sOr, ↓sNot, ↓vB, ↓sAndV, ↓sOrV, ↓sNotV, ↓sIf, ↓sgName, ↓Dv.cellOf, ↓sgNil, ↓sgCons, ↓sgTup, ↓sIt, ↓sRng1, ↓sRng2, ↓sEnum, ↓sZip, ↓sRev, ↓sRevR, ↓sRg1, ↓sRg2, ↓sI, ↓sLstR, ↓sCall, ↓sMeth, ↓sSetIx, ↓sAugIx, ↓sAug, ↓sSl, ↓pNo, ↓pSome, ↓sLc, ↓sYes, ↓sStep, ↓sIxG, ↓oAdd, ↓oI, ↓oI0, ↓oSub, ↓oMul, ↓oFdiv, ↓oMod, ↓oPow, ↓oShl, ↓oShr, ↓oNeg, ↓oEq, ↓oNe, ↓oLtI, ↓oLeI, ↓oGtI, ↓oGeI, ↓oIs, ↓oIn, ↓oIx, ↓oSl, ↓oLen, ↓oAbs, ↓oInt, ↓oMax2, ↓oMin2, ↓oList, ↓oTuple, ↓oIsi, ↓oAddI, ↓mAppend, ↓mExtend, ↓mPop, ↓mPopAt, ↓mInsert, ↓ng, ↓isNone, ↓noFd, ↓cells0, ↓arCell, List.map_cons, List.map_nil, List.length_cons, List.length_nil, List.cons_append, List.nil_append, List.replicate, Nat.reduceAdd, Nat.reduceSub, Nat.zero_add, List.getElem?_cons_zero, List.getElem?_cons_succ, List.set_cons_zero, List.set_cons_succ, if_true, if_false, ↓reduceIte, Bool.false_eq_true, true_and, and_true, not_true_eq_false, not_false_eq_true, decide_eq_true_eq, Bool.not_true, Bool.not_false, Bool.not_not, Bool.not_eq_true', decide_eq_false_iff_not, List.length_map, atI0, atI1, atI2, dP]
    split
    · rename_i h1
      rw [if_pos h1] at e
      exact hk _ ⟨_, _, _, rfl, e⟩
    · rename_i h1
      rw [if_neg h1] at e
      exact hk _ ⟨_, _, _, rfl, e⟩
theorem F__law_rate_ap {t : TT} {n : Int} {k kx} : F__law_rate [.d (.list (t.map dP)), .d (.int n)] k kx = k (.im (.int (rateM t n))) :=
  propext ⟨fun ⟨t', n', e, h⟩ => by
    injection e with e1 e; injection e with e2 e
    rw [dT_inj2 e1, int_inj2 e2]; exact h, fun h => ⟨t, n, rfl, h⟩⟩
def F__law_side : Fn := fun as k _ => ∃ n : Int, as = [.d (.int n)] ∧ k (.im (.str (wd (sd n))))
theorem len__law_side : ∀ as k kx, F__law_side as k kx → as.length = 1 := by rintro as k kx ⟨d, rfl, _⟩; rfl
theorem w__law_side : ∀ as k kx, F__law_side as k kx → m__law_side ⟨cells0 1 as, kx⟩ { nx := fun _ => k (.im .none), rt := fun v _ => noFd k v } := by
  rintro as k kx ⟨n, rfl, h⟩
  unfold m__law_side
  simp only [↓sSeq, ↓sNext, ↓sBreak, ↓sCont, ↓sDrop, ↓sRet, ↓sRetV, ↓sRetN, ↓sIfS, ↓sAsg, ↓sFor, ↓sVar, ↓sRV, ↓sRE, ↓sC, ↓aNil, ↓aCons, ↓ar, ↓dNil, ↓dCons, ↓fz, ↓sLst, ↓sTup, ↓s1, ↓s2, ↓s3, ↓s4, ↓rs, ↓sT, ↓sAnd, ↓sOr, ↓sNot, ↓vB, ↓sAndV, ↓sOrV, ↓sNotV, ↓sIf, ↓sgName, ↓Dv.cellOf, ↓sgNil, ↓sgCons, ↓sgTup, ↓sIt, ↓sRng1, ↓sRng2, ↓sEnum, ↓sZip, ↓sRev, ↓sRevR, ↓sRg1, ↓sRg2, ↓sI, ↓sLstR, ↓sCall, ↓sMeth, ↓sSetIx, ↓sAugIx, ↓sAug, ↓sSl, ↓pNo, ↓pSome, ↓sLc, ↓sYes, ↓sStep, ↓sIxG, ↓oAdd, ↓oI, ↓oI0, ↓oSub, ↓oMul, ↓oFdiv, ↓oMod, ↓oPow, ↓oShl, ↓oShr, ↓oNeg, ↓oEq, ↓oNe, ↓oLtI, ↓oLeI, ↓oGtI, ↓oGeI, ↓oIs, ↓oIn, ↓oIx, ↓oSl, ↓oLen, ↓oAbs, ↓oInt, ↓oMax2, ↓oMin2, ↓oList, ↓oTuple, ↓oIsi, ↓oAddI, ↓mAppend, ↓mExtend, ↓mPop, ↓mPopAt, ↓mInsert, ↓ng, ↓isNone, ↓noFd, ↓cells0, ↓arCell, List.map_cons, List.map_nil, List.length_cons, List.length_nil, List.cons_append, List.nil_append, List.replicate, Nat.reduceAdd, Nat.reduceSub, Nat.zero_add, List.getElem?_cons_zero, List.getElem?_cons_succ, List.set_cons_zero, List.set_cons_succ, if_true, if_false, ↓reduceIte, Bool.false_eq_true, true_and, and_true, not_true_eq_false, not_false_eq_true, decide_eq_true_eq, Bool.not_true, Bool.not_false, Bool.not_not, Bool.not_eq_true', decide_eq_false_iff_not, List.length_map, atI0, atI1, atI2]
  by_cases h1 : 0 < n
  · rw [sd_p h1] at h; rw [if_pos h1]; exact h
  · rw [if_neg h1]
    by_cases h2 : n < 0
    · rw [sd_n h2] at h; rw [if_pos h2]; exact h
    · rw [show n = 0 by omega] at h; rw [if_neg h2]; exact h
theorem F__law_side_ap {n : Int} {k kx} : F__law_side [.d (.int n)] k kx = k (.im (.str (wd (sd n)))) :=
  propext ⟨fun ⟨n', e, h⟩ => by injection e with e1 e; rw [int_inj2 e1]; exact h, fun h => ⟨n, rfl, h⟩⟩
def ldN (t o : TT) (m : Nat) : List D := (List.range (m + 1)).map fun i => .int (LL t o (i : Nat))
def ldM (t o : TT) : List D := ldN t o (lastN t o).toNat
theorem ldN_succ (t o : TT) (m : Nat) : ldN t o (m + 1) = ldN t o m ++ [.int (LL t o (m + 1 : Nat))] := by
  unfold ldN; rw [List.range_succ, List.map_append]; rfl
theorem ldN_last (t o : TT) (m : Nat) : L2.atI (ldN t o m) (-1) = some (.int (LL t o m)) := by
  unfold ldN; rw [List.range_succ, List.map_append]; exact L2.atI_last _ _
theorem ldM_last {t o : TT} (o1 : Ok t) (o2 : Ok o) : L2.atI (ldM t o) (-1) = some (.int (LL t o (lastN t o))) := by
  have hp := lastN_pos o1 o2
  unfold ldM; rw [ldN_last, show (((lastN t o).toNat : Nat) : Int) = lastN t o by omega]
theorem ldM_len {t o : TT} (o1 : Ok t) (o2 : Ok o) : ((ldM t o).length : Int) = lastN t o + 1 := by
  have hp := lastN_pos o1 o2
  unfold ldM ldN; rw [List.length_map, List.length_range]; omega
theorem ldM_get {t o : TT} (o1 : Ok t) (o2 : Ok o) {n : Int} (h0 : 0 ≤ n) (h1 : n ≤ lastN t o) : L2.atI (ldM t o) n = some (.int (LL t o n)) := by
  rw [atI_nn _ _ h0]
  unfold ldM ldN
  rw [List.getElem?_map, List.getElem?_range (by omega), Option.map_some, show ((n.toNat : Nat) : Int) = n by omega]
def F__law_leads : Fn := fun as k _ => ∃ (t o : TT), as = [.d (dT t), .d (dT o)] ∧ Ok t ∧ Ok o ∧ k (.fr (ldM t o))
theorem len__law_leads : ∀ as k kx, F__law_leads as k kx → as.length = 2 := by rintro as k kx ⟨_, _, rfl, _⟩; rfl
theorem w__law_leads : ∀ as k kx, F__law_leads as k kx → m__law_leads F__law_rate ⟨cells0 5 as, kx⟩ { nx := fun _ => k (.im .none), rt := fun v _ => noFd k v } := by
  rintro as k kx ⟨t, o, rfl, o1, o2, h⟩
  unfold m__law_leads
  have eM : (if (lastP o).1 > (lastP t).1 then (lastP o).1 else (lastP t).1) = lastN t o := by unfold lastN; split <;> omega
  have hp := lastN_pos o1 o2
  simp only [↓sSeq, ↓sNext, ↓sBreak, ↓sCont, ↓sDrop, ↓sRet, ↓sRetV, ↓sRetN, ↓sIfS, ↓sAsg, ↓sFor, ↓sVar, ↓sRV, ↓sRE, ↓sC, ↓aNil, ↓aCons, ↓ar, ↓dNil, ↓dCons, ↓fz, ↓sLst, ↓sTup, ↓s1, ↓s2, ↓s3, ↓s4, ↓rs, ↓sT, ↓sAnd, ↓sOr, ↓sNot, ↓vB, ↓sAndV, ↓sOrV, ↓sNotV, ↓sIf, ↓sgName, ↓Dv.cellOf, ↓sgNil, ↓sgCons, ↓sgTup, ↓sIt, ↓sRng1, ↓sRng2, ↓sEnum, ↓sZip, ↓sRev, ↓sRevR, ↓sRg1, ↓sRg2, ↓sI, ↓sLstR, ↓sCall, ↓sMeth, ↓sSetIx, ↓sAugIx, ↓sAug, ↓sSl, ↓pNo, ↓pSome, ↓sLc, ↓sYes, ↓sStep, ↓sIxG, ↓oAdd, ↓oI, ↓oI0, ↓oSub, ↓oMul, ↓oFdiv, ↓oMod, ↓oPow, ↓oShl, ↓oShr, ↓oNeg, ↓oEq, ↓oNe, ↓oLtI, ↓oLeI, ↓oGtI, ↓oGeI, ↓oIs, ↓oIn, ↓oIx, ↓oSl, ↓oLen, ↓oAbs, ↓oInt, ↓oMax2, ↓oMin2, ↓oList, ↓oTuple, ↓oIsi, ↓oAddI, ↓mAppend, ↓mExtend, ↓mPop, ↓mPopAt, ↓mInsert, ↓ng, ↓isNone, ↓noFd, ↓cells0, ↓arCell, List.map_cons, List.map_nil, List.length_cons, List.length_nil, List.cons_append, List.nil_append, List.replicate, Nat.reduceAdd, Nat.reduceSub, Nat.zero_add, List.getElem?_cons_zero, List.getElem?_cons_succ, List.set_cons_zero, List.set_cons_succ, if_true, if_false, ↓reduceIte, Bool.false_eq_true, true_and, and_true, not_true_eq_false, not_false_eq_true, decide_eq_true_eq, Bool.not_true, Bool.not_false, Bool.not_not, Bool.not_eq_true', decide_eq_false_iff_not, List.length_map, atI0, atI1, atI2, dT, dT_last o1.ne, dT_last o2.ne, eM]
  refine ⟨by decide, ⟨by decide, by decide, by omega, by omega⟩, ?_⟩
  have e0 : LL t o 0 = 0 := by unfold LL; rw [o1.zero 0 (by omega), o2.zero 0 (by omega)]; rfl
  refine wLoop_rng (fun i ρ => ∃ c : Cell, ρ = ⟨[.im (.list (t.map dP)), .im (.list (o.map dP)), .im (.int (lastN t o)), .mu (ldN t o i), c], kx⟩) ⟨_, by simp [ldN, e0]; rfl⟩ ?_ ?_
  · rintro ρ ⟨c, rfl⟩
    simp only [↓sSeq, ↓sNext, ↓sBreak, ↓sCont, ↓sDrop, ↓sRet, ↓sRetV, ↓sRetN, ↓sIfS, ↓sAsg, ↓sFor, ↓sVar, ↓sRV, ↓sRE, ↓sC, ↓aNil, ↓aCons, ↓ar, ↓dNil, ↓dCons, ↓fz, ↓sLst, ↓sTup, ↓s1, ↓s2, ↓s3, ↓s4, ↓rs, ↓sT, ↓sAnd, ↓sOr, ↓sNot, ↓vB, ↓sAndV, ↓sOrV, ↓sNotV, ↓sIf, ↓sgName, ↓Dv.cellOf, ↓sgNil, ↓sgCons, ↓sgTup, ↓sIt, ↓sRng1, ↓sRng2, ↓sEnum, ↓sZip, ↓sRev, ↓sRevR, ↓sRg1, ↓sRg2, ↓sI, ↓sLstR, ↓sCall, ↓sMeth, ↓sSetIx, ↓sAugIx, ↓sAug, ↓sSl, ↓pNo, ↓pSome, ↓sLc, ↓sYes, ↓sStep, ↓sIxG, ↓oAdd, ↓oI, ↓oI0, ↓oSub, ↓oMul, ↓oFdiv, ↓oMod, ↓oPow, ↓oShl, ↓oShr, ↓oNeg, ↓oEq, ↓oNe, ↓oLtI, ↓oLeI, ↓oGtI, ↓oGeI, ↓oIs, ↓oIn, ↓oIx, ↓oSl, ↓oLen, ↓oAbs, ↓oInt, ↓oMax2, ↓oMin2, ↓oList, ↓oTuple, ↓oIsi, ↓oAddI, ↓mAppend, ↓mExtend, ↓mPop, ↓mPopAt, ↓mInsert, ↓ng, ↓isNone, ↓noFd, ↓cells0, ↓arCell, List.map_cons, List.map_nil, List.length_cons, List.length_nil, List.cons_append, List.nil_append, List.replicate, Nat.reduceAdd, Nat.reduceSub, Nat.zero_add, List.getElem?_cons_zero, List.getElem?_cons_succ, List.set_cons_zero, List.set_cons_succ, if_true, if_false, ↓reduceIte, Bool.false_eq_true, true_and, and_true, not_true_eq_false, not_false_eq_true, decide_eq_true_eq, Bool.not_true, Bool.not_false, Bool.not_not, Bool.not_eq_true', decide_eq_false_iff_not, List.length_map, atI0, atI1, atI2]
    rw [show (lastN t o + 1 - 1).toNat = (lastN t o).toNat by congr 1; omega]
    exact h
  · rintro i ρ kk hi ⟨c, rfl⟩ hk
    unfold b1__law_leads
    simp only [↓sSeq, ↓sNext, ↓sBreak, ↓sCont, ↓sDrop, ↓sRet, ↓sRetV, ↓sRetN, ↓sIfS, ↓sAsg, ↓sFor, ↓sVar, ↓sRV, ↓sRE, ↓sC, ↓aNil, ↓aCons, ↓ar, ↓dNil, ↓dCons, ↓fz, ↓sLst, ↓sTup, ↓s1, ↓s2, ↓s3, ↓s4, ↓rs, ↓sT, ↓sAnd, ↓sOr, ↓sNot, ↓vB, ↓sAndV, ↓sOrV, ↓sNotV, ↓sIf, ↓sgName, ↓Dv.cellOf, ↓sgNil, ↓sgCons, ↓sgTup, ↓sIt, ↓sRng1, ↓sRng2, ↓sEnum, ↓sZip, ↓sRev, ↓sRevR, ↓sRg1, ↓sRg2, ↓sI, ↓sLstR, ↓sCall, ↓sMeth, ↓sSetIx, ↓sAugIx, ↓sAug, ↓sSl, ↓pNo, ↓pSome, ↓sLc, ↓sYes, ↓sStep, ↓sIxG, ↓oAdd, ↓oI, ↓oI0, ↓oSub, ↓oMul, ↓oFdiv, ↓oMod, ↓oPow, ↓oShl, ↓oShr, ↓oNeg, ↓oEq, ↓oNe, ↓oLtI, ↓oLeI, ↓oGtI, ↓oGeI, ↓oIs, ↓oIn, ↓oIx, ↓oSl, ↓oLen, ↓oAbs, ↓oInt, ↓oMax2, ↓oMin2, ↓oList, ↓oTuple, ↓oIsi, ↓oAddI, ↓mAppend, ↓mExtend, ↓mPop, ↓mPopAt, ↓mInsert, ↓ng, ↓isNone, ↓noFd, ↓cells0, ↓arCell, List.map_cons, List.map_nil, List.length_cons, List.length_nil, List.cons_append, List.nil_append, List.replicate, Nat.reduceAdd, Nat.reduceSub, Nat.zero_add, List.getElem?_cons_zero, List.getElem?_cons_succ, List.set_cons_zero, List.set_cons_succ, if_true, if_false, ↓reduceIte, Bool.false_eq_true, true_and, and_true, not_true_eq_false, not_false_eq_true, decide_eq_true_eq, Bool.not_true, Bool.not_false, Bool.not_not, Bool.not_eq_true', decide_eq_false_iff_not, List.length_map, atI0, atI1, atI2, ldN_last, F__law_rate_ap]
    refine ⟨by simp [ldN]; omega, hk _ ⟨.im (.int (1 + i)), ?_⟩⟩
    rw [ldN_succ, show (1 : Int) + (i : Int) = (i : Int) + 1 by omega, o1.rate i (by omega), o2.rate i (by omega)]
    have : LL t o (i : Int) + (payM t ((i : Int) + 1) - payM t i) - (payM o ((i : Int) + 1) - payM o i) = LL t o ((i + 1 : Nat) : Int) := by
      rw [show ((i + 1 : Nat) : Int) = (i : Int) + 1 by omega]; unfold LL; omega
    rw [this]
theorem ldM_inj {t o t' o' : TT} (h : Ar.d (.list (ldM t o)) = Ar.d (.list (ldM t' o'))) : ldM t o = ldM t' o' := by injection h with h; injection h
def F__law_in_the_end : Fn := fun as k _ => ∃ (t o : TT), as = [.d (.list (ldM t o)), .d (.int (chg t o))] ∧ Ok t ∧ Ok o ∧ k (.im (.str (wd (sideM t o))))
theorem len__law_in_the_end : ∀ as k kx, F__law_in_the_end as k kx → as.length = 2 := by rintro as k kx ⟨_, _, rfl, _⟩; rfl
theorem w__law_in_the_end : ∀ as k kx, F__law_in_the_end as k kx → m__law_in_the_end F__law_side ⟨cells0 2 as, kx⟩ { nx := fun _ => k (.im .none), rt := fun v _ => noFd k v } := by
  rintro as k kx ⟨t, o, rfl, o1, o2, h⟩
  unfold m__law_in_the_end
  simp only [↓sSeq, ↓sNext, ↓sBreak, ↓sCont, ↓sDrop, ↓sRet, ↓sRetV, ↓sRetN, ↓sIfS, ↓sAsg, ↓sFor, ↓sVar, ↓sRV, ↓sRE, ↓sC, ↓aNil, ↓aCons, ↓ar, ↓dNil, ↓dCons, ↓fz, ↓sLst, ↓sTup, ↓s1, ↓s2, ↓s3, ↓s4, ↓rs, ↓sT, ↓sAnd, ↓sOr, ↓sNot, ↓vB, ↓sAndV, ↓sOrV, ↓sNotV, ↓sIf, ↓sgName, ↓Dv.cellOf, ↓sgNil, ↓sgCons, ↓sgTup, ↓sIt, ↓sRng1, ↓sRng2, ↓sEnum, ↓sZip, ↓sRev, ↓sRevR, ↓sRg1, ↓sRg2, ↓sI, ↓sLstR, ↓sCall, ↓sMeth, ↓sSetIx, ↓sAugIx, ↓sAug, ↓sSl, ↓pNo, ↓pSome, ↓sLc, ↓sYes, ↓sStep, ↓sIxG, ↓oAdd, ↓oI, ↓oI0, ↓oSub, ↓oMul, ↓oFdiv, ↓oMod, ↓oPow, ↓oShl, ↓oShr, ↓oNeg, ↓oEq, ↓oNe, ↓oLtI, ↓oLeI, ↓oGtI, ↓oGeI, ↓oIs, ↓oIn, ↓oIx, ↓oSl, ↓oLen, ↓oAbs, ↓oInt, ↓oMax2, ↓oMin2, ↓oList, ↓oTuple, ↓oIsi, ↓oAddI, ↓mAppend, ↓mExtend, ↓mPop, ↓mPopAt, ↓mInsert, ↓ng, ↓isNone, ↓noFd, ↓cells0, ↓arCell, List.map_cons, List.map_nil, List.length_cons, List.length_nil, List.cons_append, List.nil_append, List.replicate, Nat.reduceAdd, Nat.reduceSub, Nat.zero_add, List.getElem?_cons_zero, List.getElem?_cons_succ, List.set_cons_zero, List.set_cons_succ, if_true, if_false, ↓reduceIte, Bool.false_eq_true, true_and, and_true, not_true_eq_false, not_false_eq_true, decide_eq_true_eq, Bool.not_true, Bool.not_false, Bool.not_not, Bool.not_eq_true', decide_eq_false_iff_not, List.length_map, atI0, atI1, atI2, ldM_last o1 o2, F__law_side_ap]
  unfold sideM at h
  by_cases hc : chg t o = 0
  · rw [if_neg (by simpa using hc)] at h ⊢; exact h
  · rw [if_pos hc] at h ⊢; exact h
def F__law_lead : Fn := fun as k _ => ∃ (t o : TT) (n : Int), as = [.d (.list (ldM t o)), .d (.int (chg t o)), .d (.int n)] ∧ Ok t ∧ Ok o ∧ 0 ≤ n ∧ k (.im (.int (LL t o n)))
theorem len__law_lead : ∀ as k kx, F__law_lead as k kx → as.length = 3 := by rintro as k kx ⟨_, _, _, rfl, _⟩; rfl
theorem w__law_lead : ∀ as k kx, F__law_lead as k kx → m__law_lead ⟨cells0 3 as, kx⟩ { nx := fun _ => k (.im .none), rt := fun v _ => noFd k v } := by
  rintro as k kx ⟨t, o, n, rfl, o1, o2, hn, h⟩
  unfold m__law_lead
  by_cases hl : n ≤ lastN t o
  · have e1 : n < lastN t o + 1 := by omega
    simp only [↓sSeq, ↓sNext, ↓sBreak, ↓sCont, ↓sDrop, ↓sRet, ↓sRetV, ↓sRetN, ↓sIfS, ↓sAsg, ↓sFor, ↓sVar, ↓sRV, ↓sRE, ↓sC, ↓aNil, ↓aCons, ↓ar, ↓dNil, ↓dCons, ↓fz, ↓sLst, ↓sTup, ↓s1, ↓s2, ↓s3, ↓s4, ↓rs, ↓sT, ↓sAnd, ↓sOr, ↓sNot, ↓vB, ↓sAndV, ↓sOrV, ↓sNotV, ↓sIf, ↓sgName, ↓Dv.cellOf, ↓sgNil, ↓sgCons, ↓sgTup, ↓sIt, ↓sRng1, ↓sRng2, ↓sEnum, ↓sZip, ↓sRev, ↓sRevR, ↓sRg1, ↓sRg2, ↓sI, ↓sLstR, ↓sCall, ↓sMeth, ↓sSetIx, ↓sAugIx, ↓sAug, ↓sSl, ↓pNo, ↓pSome, ↓sLc, ↓sYes, ↓sStep, ↓sIxG, ↓oAdd, ↓oI, ↓oI0, ↓oSub, ↓oMul, ↓oFdiv, ↓oMod, ↓oPow, ↓oShl, ↓oShr, ↓oNeg, ↓oEq, ↓oNe, ↓oLtI, ↓oLeI, ↓oGtI, ↓oGeI, ↓oIs, ↓oIn, ↓oIx, ↓oSl, ↓oLen, ↓oAbs, ↓oInt, ↓oMax2, ↓oMin2, ↓oList, ↓oTuple, ↓oIsi, ↓oAddI, ↓mAppend, ↓mExtend, ↓mPop, ↓mPopAt, ↓mInsert, ↓ng, ↓isNone, ↓noFd, ↓cells0, ↓arCell, List.map_cons, List.map_nil, List.length_cons, List.length_nil, List.cons_append, List.nil_append, List.replicate, Nat.reduceAdd, Nat.reduceSub, Nat.zero_add, List.getElem?_cons_zero, List.getElem?_cons_succ, List.set_cons_zero, List.set_cons_succ, if_true, if_false, ↓reduceIte, Bool.false_eq_true, true_and, and_true, not_true_eq_false, not_false_eq_true, decide_eq_true_eq, Bool.not_true, Bool.not_false, Bool.not_not, Bool.not_eq_true', decide_eq_false_iff_not, List.length_map, atI0, atI1, atI2, ldM_len o1 o2, e1, ldM_get o1 o2 hn hl]
    exact h
  · have e1 : ¬ n < lastN t o + 1 := by omega
    have hc := chg_le o1 o2
    simp only [↓sSeq, ↓sNext, ↓sBreak, ↓sCont, ↓sDrop, ↓sRet, ↓sRetV, ↓sRetN, ↓sIfS, ↓sAsg, ↓sFor, ↓sVar, ↓sRV, ↓sRE, ↓sC, ↓aNil, ↓aCons, ↓ar, ↓dNil, ↓dCons, ↓fz, ↓sLst, ↓sTup, ↓s1, ↓s2, ↓s3, ↓s4, ↓rs, ↓sT, ↓sAnd, ↓sOr, ↓sNot, ↓vB, ↓sAndV, ↓sOrV, ↓sNotV, ↓sIf, ↓sgName, ↓Dv.cellOf, ↓sgNil, ↓sgCons, ↓sgTup, ↓sIt, ↓sRng1, ↓sRng2, ↓sEnum, ↓sZip, ↓sRev, ↓sRevR, ↓sRg1, ↓sRg2, ↓sI, ↓sLstR, ↓sCall, ↓sMeth, ↓sSetIx, ↓sAugIx, ↓sAug, ↓sSl, ↓pNo, ↓pSome, ↓sLc, ↓sYes, ↓sStep, ↓sIxG, ↓oAdd, ↓oI, ↓oI0, ↓oSub, ↓oMul, ↓oFdiv, ↓oMod, ↓oPow, ↓oShl, ↓oShr, ↓oNeg, ↓oEq, ↓oNe, ↓oLtI, ↓oLeI, ↓oGtI, ↓oGeI, ↓oIs, ↓oIn, ↓oIx, ↓oSl, ↓oLen, ↓oAbs, ↓oInt, ↓oMax2, ↓oMin2, ↓oList, ↓oTuple, ↓oIsi, ↓oAddI, ↓mAppend, ↓mExtend, ↓mPop, ↓mPopAt, ↓mInsert, ↓ng, ↓isNone, ↓noFd, ↓cells0, ↓arCell, List.map_cons, List.map_nil, List.length_cons, List.length_nil, List.cons_append, List.nil_append, List.replicate, Nat.reduceAdd, Nat.reduceSub, Nat.zero_add, List.getElem?_cons_zero, List.getElem?_cons_succ, List.set_cons_zero, List.set_cons_succ, if_true, if_false, ↓reduceIte, Bool.false_eq_true, true_and, and_true, not_true_eq_false, not_false_eq_true, decide_eq_true_eq, Bool.not_true, Bool.not_false, Bool.not_not, Bool.not_eq_true', decide_eq_false_iff_not, List.length_map, atI0, atI1, atI2, ldM_len o1 o2, e1, ldM_last o1 o2]
    refine ⟨by unfold CMul; omega, ?_⟩
    rw [LL_beyond o1 o2 n (by omega)] at h
    rw [show n - (lastN t o + 1) + 1 = n - lastN t o by omega]
    exact h
theorem LL_det {t o t' o' : TT} (o1 : Ok t) (o2 : Ok o) (o3 : Ok t') (o4 : Ok o') (h1 : ldM t o = ldM t' o') (h2 : chg t o = chg t' o') {n : Int} (hn : 0 ≤ n) : LL t o n = LL t' o' n := by
  have e1 := ldM_len o1 o2
  have e2 := ldM_len o3 o4
  rw [h1] at e1
  have eN : lastN t o = lastN t' o' := by omega
  by_cases hl : n ≤ lastN t o
  · have g1 := ldM_get o1 o2 hn hl
    have g2 := ldM_get o3 o4 hn (by rw [← eN]; exact hl)
    rw [h1, g2] at g1
    injection g1 with g1; injection g1 with g1; exact g1.symm
  · have g1 := ldM_last o1 o2
    have g2 := ldM_last o3 o4
    rw [h1, g2] at g1
    injection g1 with g1; injection g1 with g1
    rw [LL_beyond o1 o2 n (by omega), LL_beyond o3 o4 n (by omega), ← g1, eN, h2]
theorem F__law_lead_ap {t o : TT} {n : Int} (o1 : Ok t) (o2 : Ok o) {k kx} : F__law_lead [.d (.list (ldM t o)), .d (.int (chg t o)), .d (.int n)] k kx = (0 ≤ n ∧ k (.im (.int (LL t o n)))) :=
  propext ⟨fun ⟨t', o', n', e, o3, o4, hn, h⟩ => by
    injection e with e1 e; injection e with e2 e; injection e with e3 e
    rw [int_inj2 e3]
    refine ⟨hn, ?_⟩
    rw [LL_det o1 o2 o3 o4 (ldM_inj e1) (int_inj2 e2) hn]; exact h, fun ⟨hn, h⟩ => ⟨t, o, n, rfl, o1, o2, hn, h⟩⟩
theorem side_det {t o t' o' : TT} (o1 : Ok t) (o2 : Ok o) (o3 : Ok t') (o4 : Ok o') (h1 : ldM t o = ldM t' o') (h2 : chg t o = chg t' o') : sideM t o = sideM t' o' := by
  have g1 := ldM_last o1 o2
  have g2 := ldM_last o3 o4
  rw [h1, g2] at g1
  injection g1 with g1; injection g1 with g1
  unfold sideM
  rw [h2, g1]
theorem F__law_in_the_end_ap {t o : TT} (o1 : Ok t) (o2 : Ok o) {k kx} : F__law_in_the_end [.d (.list (ldM t o)), .d (.int (chg t o))] k kx = k (.im (.str (wd (sideM t o)))) :=
  propext ⟨fun ⟨t', o', e, o3, o4, h⟩ => by
    injection e with e1 e; injection e with e2 e
    rw [side_det o1 o2 o3 o4 (ldM_inj e1) (int_inj2 e2)]; exact h, fun h => ⟨t, o, rfl, o1, o2, h⟩⟩
def F__law_holds : Fn := fun as k _ => ∃ (t o : TT) (n : Int), as = [.d (.list (ldM t o)), .d (.int (chg t o)), .d (.str (wd (sideM t o))), .d (.int n)] ∧ Ok t ∧ Ok o ∧ Best t o n ∧ n ≤ 10000000 ∧ k (.im (.bool true))
theorem len__law_holds : ∀ as k kx, F__law_holds as k kx → as.length = 4 := by rintro as k kx ⟨_, _, _, rfl, _⟩; rfl
theorem w__law_holds : ∀ as k kx, F__law_holds as k kx → m__law_holds F__law_is_whole F__law_in_the_end F__law_side F__law_lead ⟨cells0 5 as, kx⟩ { nx := fun _ => k (.im .none), rt := fun v _ => noFd k v } := by
  rintro as k kx ⟨t, o, n, rfl, o1, o2, ⟨b1, b2, b3⟩, bn, h⟩
  have hp := lastN_pos o1 o2
  unfold m__law_holds
  have e1 : ¬ n < 1 := by omega
  refine seq_step fun K hK => ?_; simp only [↓sNext, ↓sBreak, ↓sCont, ↓sDrop, ↓sRet, ↓sRetV, ↓sRetN, ↓sIfS, ↓sAsg, ↓sFor, ↓sVar, ↓sRV, ↓sRE, ↓sC, ↓aNil, ↓aCons, ↓ar, ↓dNil, ↓dCons, ↓fz, ↓sLst, ↓sTup, ↓s1, ↓s2, ↓s3, ↓s4, ↓rs, ↓sT, ↓sAnd, ↓sOr, ↓sNot, ↓vB, ↓sAndV, ↓sOrV, ↓sNotV, ↓sIf, ↓sgName, ↓Dv.cellOf, ↓sgNil, ↓sgCons, ↓sgTup, ↓sIt, ↓sRng1, ↓sRng2, ↓sEnum, ↓sZip, ↓sRev, ↓sRevR, ↓sRg1, ↓sRg2, ↓sI, ↓sLstR, ↓sCall, ↓sMeth, ↓sSetIx, ↓sAugIx, ↓sAug, ↓sSl, ↓pNo, ↓pSome, ↓sLc, ↓sYes, ↓sStep, ↓sIxG, ↓oAdd, ↓oI, ↓oI0, ↓oSub, ↓oMul, ↓oFdiv, ↓oMod, ↓oPow, ↓oShl, ↓oShr, ↓oNeg, ↓oEq, ↓oNe, ↓oLtI, ↓oLeI, ↓oGtI, ↓oGeI, ↓oIs, ↓oIn, ↓oIx, ↓oSl, ↓oLen, ↓oAbs, ↓oInt, ↓oMax2, ↓oMin2, ↓oList, ↓oTuple, ↓oIsi, ↓oAddI, ↓mAppend, ↓mExtend, ↓mPop, ↓mPopAt, ↓mInsert, ↓ng, ↓isNone, ↓noFd, ↓cells0, ↓arCell, List.map_cons, List.map_nil, List.length_cons, List.length_nil, List.cons_append, List.nil_append, List.replicate, Nat.reduceAdd, Nat.reduceSub, Nat.zero_add, List.getElem?_cons_zero, List.getElem?_cons_succ, List.set_cons_zero, List.set_cons_succ, if_true, if_false, ↓reduceIte, Bool.false_eq_true, true_and, and_true, not_true_eq_false, not_false_eq_true, decide_eq_true_eq, Bool.not_true, Bool.not_false, Bool.not_not, Bool.not_eq_true', decide_eq_false_iff_not, List.length_map, atI0, atI1, atI2, F__law_is_whole_ap, e1, F__law_in_the_end_ap o1 o2]
  refine hK _ ?_
  refine seq_step fun K hK => ?_; simp only [↓sNext, ↓sBreak, ↓sCont, ↓sDrop, ↓sRet, ↓sRetV, ↓sRetN, ↓sIfS, ↓sAsg, ↓sFor, ↓sVar, ↓sRV, ↓sRE, ↓sC, ↓aNil, ↓aCons, ↓ar, ↓dNil, ↓dCons, ↓fz, ↓sLst, ↓sTup, ↓s1, ↓s2, ↓s3, ↓s4, ↓rs, ↓sT, ↓sAnd, ↓sOr, ↓sNot, ↓vB, ↓sAndV, ↓sOrV, ↓sNotV, ↓sIf, ↓sgName, ↓Dv.cellOf, ↓sgNil, ↓sgCons, ↓sgTup, ↓sIt, ↓sRng1, ↓sRng2, ↓sEnum, ↓sZip, ↓sRev, ↓sRevR, ↓sRg1, ↓sRg2, ↓sI, ↓sLstR, ↓sCall, ↓sMeth, ↓sSetIx, ↓sAugIx, ↓sAug, ↓sSl, ↓pNo, ↓pSome, ↓sLc, ↓sYes, ↓sStep, ↓sIxG, ↓oAdd, ↓oI, ↓oI0, ↓oSub, ↓oMul, ↓oFdiv, ↓oMod, ↓oPow, ↓oShl, ↓oShr, ↓oNeg, ↓oEq, ↓oNe, ↓oLtI, ↓oLeI, ↓oGtI, ↓oGeI, ↓oIs, ↓oIn, ↓oIx, ↓oSl, ↓oLen, ↓oAbs, ↓oInt, ↓oMax2, ↓oMin2, ↓oList, ↓oTuple, ↓oIsi, ↓oAddI, ↓mAppend, ↓mExtend, ↓mPop, ↓mPopAt, ↓mInsert, ↓ng, ↓isNone, ↓noFd, ↓cells0, ↓arCell, List.map_cons, List.map_nil, List.length_cons, List.length_nil, List.cons_append, List.nil_append, List.replicate, Nat.reduceAdd, Nat.reduceSub, Nat.zero_add, List.getElem?_cons_zero, List.getElem?_cons_succ, List.set_cons_zero, List.set_cons_succ, if_true, if_false, ↓reduceIte, Bool.false_eq_true, true_and, and_true, not_true_eq_false, not_false_eq_true, decide_eq_true_eq, Bool.not_true, Bool.not_false, Bool.not_not, Bool.not_eq_true', decide_eq_false_iff_not, List.length_map, atI0, atI1, atI2, ldM_len o1 o2]
  refine ⟨⟨by omega, by omega, by omega, by omega⟩, ?_⟩
  refine wLoop_rng (fun i ρ => ∃ c : Cell, ρ = ⟨[.im (.list (ldM t o)), .im (.int (chg t o)), .im (.str (wd (sideM t o))), .im (.int n), c], kx⟩) ⟨_, rfl⟩ ?_ ?_
  · rintro ρ ⟨c, rfl⟩
    refine hK _ ?_
    refine seq_step fun K hK => ?_; simp only [↓sNext, ↓sBreak, ↓sCont, ↓sDrop, ↓sRet, ↓sRetV, ↓sRetN, ↓sIfS, ↓sAsg, ↓sFor, ↓sVar, ↓sRV, ↓sRE, ↓sC, ↓aNil, ↓aCons, ↓ar, ↓dNil, ↓dCons, ↓fz, ↓sLst, ↓sTup, ↓s1, ↓s2, ↓s3, ↓s4, ↓rs, ↓sT, ↓sAnd, ↓sOr, ↓sNot, ↓vB, ↓sAndV, ↓sOrV, ↓sNotV, ↓sIf, ↓sgName, ↓Dv.cellOf, ↓sgNil, ↓sgCons, ↓sgTup, ↓sIt, ↓sRng1, ↓sRng2, ↓sEnum, ↓sZip, ↓sRev, ↓sRevR, ↓sRg1, ↓sRg2, ↓sI, ↓sLstR, ↓sCall, ↓sMeth, ↓sSetIx, ↓sAugIx, ↓sAug, ↓sSl, ↓pNo, ↓pSome, ↓sLc, ↓sYes, ↓sStep, ↓sIxG, ↓oAdd, ↓oI, ↓oI0, ↓oSub, ↓oMul, ↓oFdiv, ↓oMod, ↓oPow, ↓oShl, ↓oShr, ↓oNeg, ↓oEq, ↓oNe, ↓oLtI, ↓oLeI, ↓oGtI, ↓oGeI, ↓oIs, ↓oIn, ↓oIx, ↓oSl, ↓oLen, ↓oAbs, ↓oInt, ↓oMax2, ↓oMin2, ↓oList, ↓oTuple, ↓oIsi, ↓oAddI, ↓mAppend, ↓mExtend, ↓mPop, ↓mPopAt, ↓mInsert, ↓ng, ↓isNone, ↓noFd, ↓cells0, ↓arCell, List.map_cons, List.map_nil, List.length_cons, List.length_nil, List.cons_append, List.nil_append, List.replicate, Nat.reduceAdd, Nat.reduceSub, Nat.zero_add, List.getElem?_cons_zero, List.getElem?_cons_succ, List.set_cons_zero, List.set_cons_succ, if_true, if_false, ↓reduceIte, Bool.false_eq_true, true_and, and_true, not_true_eq_false, not_false_eq_true, decide_eq_true_eq, Bool.not_true, Bool.not_false, Bool.not_not, Bool.not_eq_true', decide_eq_false_iff_not, List.length_map, atI0, atI1, atI2, F__law_lead_ap o1 o2, F__law_side_ap, b2 n (by omega)]
    refine ⟨by omega, hK _ ?_⟩
    by_cases h1 : n = 1
    · simp only [↓sSeq, ↓sNext, ↓sBreak, ↓sCont, ↓sDrop, ↓sRet, ↓sRetV, ↓sRetN, ↓sIfS, ↓sAsg, ↓sFor, ↓sVar, ↓sRV, ↓sRE, ↓sC, ↓aNil, ↓aCons, ↓ar, ↓dNil, ↓dCons, ↓fz, ↓sLst, ↓sTup, ↓s1, ↓s2, ↓s3, ↓s4, ↓rs, ↓sT, ↓sAnd, ↓sOr, ↓sNot, ↓vB, ↓sAndV, ↓sOrV, ↓sNotV, ↓sIf, ↓sgName, ↓Dv.cellOf, ↓sgNil, ↓sgCons, ↓sgTup, ↓sIt, ↓sRng1, ↓sRng2, ↓sEnum, ↓sZip, ↓sRev, ↓sRevR, ↓sRg1, ↓sRg2, ↓sI, ↓sLstR, ↓sCall, ↓sMeth, ↓sSetIx, ↓sAugIx, ↓sAug, ↓sSl, ↓pNo, ↓pSome, ↓sLc, ↓sYes, ↓sStep, ↓sIxG, ↓oAdd, ↓oI, ↓oI0, ↓oSub, ↓oMul, ↓oFdiv, ↓oMod, ↓oPow, ↓oShl, ↓oShr, ↓oNeg, ↓oEq, ↓oNe, ↓oLtI, ↓oLeI, ↓oGtI, ↓oGeI, ↓oIs, ↓oIn, ↓oIx, ↓oSl, ↓oLen, ↓oAbs, ↓oInt, ↓oMax2, ↓oMin2, ↓oList, ↓oTuple, ↓oIsi, ↓oAddI, ↓mAppend, ↓mExtend, ↓mPop, ↓mPopAt, ↓mInsert, ↓ng, ↓isNone, ↓noFd, ↓cells0, ↓arCell, List.map_cons, List.map_nil, List.length_cons, List.length_nil, List.cons_append, List.nil_append, List.replicate, Nat.reduceAdd, Nat.reduceSub, Nat.zero_add, List.getElem?_cons_zero, List.getElem?_cons_succ, List.set_cons_zero, List.set_cons_succ, if_true, if_false, ↓reduceIte, Bool.false_eq_true, true_and, and_true, not_true_eq_false, not_false_eq_true, decide_eq_true_eq, Bool.not_true, Bool.not_false, Bool.not_not, Bool.not_eq_true', decide_eq_false_iff_not, List.length_map, atI0, atI1, atI2, eq_true h1]; exact h
    · have hne : (wd (sd (LL t o (n - 1))) = wd (sideM t o)) = False := eq_false fun e => (b3.resolve_left h1) (wd_inj (sd_cases _) (side_cases _ _) e)
      simp only [↓sSeq, ↓sNext, ↓sBreak, ↓sCont, ↓sDrop, ↓sRet, ↓sRetV, ↓sRetN, ↓sIfS, ↓sAsg, ↓sFor, ↓sVar, ↓sRV, ↓sRE, ↓sC, ↓aNil, ↓aCons, ↓ar, ↓dNil, ↓dCons, ↓fz, ↓sLst, ↓sTup, ↓s1, ↓s2, ↓s3, ↓s4, ↓rs, ↓sT, ↓sAnd, ↓sOr, ↓sNot, ↓vB, ↓sAndV, ↓sOrV, ↓sNotV, ↓sIf, ↓sgName, ↓Dv.cellOf, ↓sgNil, ↓sgCons, ↓sgTup, ↓sIt, ↓sRng1, ↓sRng2, ↓sEnum, ↓sZip, ↓sRev, ↓sRevR, ↓sRg1, ↓sRg2, ↓sI, ↓sLstR, ↓sCall, ↓sMeth, ↓sSetIx, ↓sAugIx, ↓sAug, ↓sSl, ↓pNo, ↓pSome, ↓sLc, ↓sYes, ↓sStep, ↓sIxG, ↓oAdd, ↓oI, ↓oI0, ↓oSub, ↓oMul, ↓oFdiv, ↓oMod, ↓oPow, ↓oShl, ↓oShr, ↓oNeg, ↓oEq, ↓oNe, ↓oLtI, ↓oLeI, ↓oGtI, ↓oGeI, ↓oIs, ↓oIn, ↓oIx, ↓oSl, ↓oLen, ↓oAbs, ↓oInt, ↓oMax2, ↓oMin2, ↓oList, ↓oTuple, ↓oIsi, ↓oAddI, ↓mAppend, ↓mExtend, ↓mPop, ↓mPopAt, ↓mInsert, ↓ng, ↓isNone, ↓noFd, ↓cells0, ↓arCell, List.map_cons, List.map_nil, List.length_cons, List.length_nil, List.cons_append, List.nil_append, List.replicate, Nat.reduceAdd, Nat.reduceSub, Nat.zero_add, List.getElem?_cons_zero, List.getElem?_cons_succ, List.set_cons_zero, List.set_cons_succ, if_true, if_false, ↓reduceIte, Bool.false_eq_true, true_and, and_true, not_true_eq_false, not_false_eq_true, decide_eq_true_eq, Bool.not_true, Bool.not_false, Bool.not_not, Bool.not_eq_true', decide_eq_false_iff_not, List.length_map, atI0, atI1, atI2, F__law_lead_ap o1 o2, F__law_side_ap, h1, hne, decide_false]
      exact ⟨by omega, h⟩
  · rintro i ρ kk hi ⟨c, rfl⟩ hk
    unfold b1__law_holds
    simp only [↓sSeq, ↓sNext, ↓sBreak, ↓sCont, ↓sDrop, ↓sRet, ↓sRetV, ↓sRetN, ↓sIfS, ↓sAsg, ↓sFor, ↓sVar, ↓sRV, ↓sRE, ↓sC, ↓aNil, ↓aCons, ↓ar, ↓dNil, ↓dCons, ↓fz, ↓sLst, ↓sTup, ↓s1, ↓s2, ↓s3, ↓s4, ↓rs, ↓sT, ↓sAnd, ↓sOr, ↓sNot, ↓vB, ↓sAndV, ↓sOrV, ↓sNotV, ↓sIf, ↓sgName, ↓Dv.cellOf, ↓sgNil, ↓sgCons, ↓sgTup, ↓sIt, ↓sRng1, ↓sRng2, ↓sEnum, ↓sZip, ↓sRev, ↓sRevR, ↓sRg1, ↓sRg2, ↓sI, ↓sLstR, ↓sCall, ↓sMeth, ↓sSetIx, ↓sAugIx, ↓sAug, ↓sSl, ↓pNo, ↓pSome, ↓sLc, ↓sYes, ↓sStep, ↓sIxG, ↓oAdd, ↓oI, ↓oI0, ↓oSub, ↓oMul, ↓oFdiv, ↓oMod, ↓oPow, ↓oShl, ↓oShr, ↓oNeg, ↓oEq, ↓oNe, ↓oLtI, ↓oLeI, ↓oGtI, ↓oGeI, ↓oIs, ↓oIn, ↓oIx, ↓oSl, ↓oLen, ↓oAbs, ↓oInt, ↓oMax2, ↓oMin2, ↓oList, ↓oTuple, ↓oIsi, ↓oAddI, ↓mAppend, ↓mExtend, ↓mPop, ↓mPopAt, ↓mInsert, ↓ng, ↓isNone, ↓noFd, ↓cells0, ↓arCell, List.map_cons, List.map_nil, List.length_cons, List.length_nil, List.cons_append, List.nil_append, List.replicate, Nat.reduceAdd, Nat.reduceSub, Nat.zero_add, List.getElem?_cons_zero, List.getElem?_cons_succ, List.set_cons_zero, List.set_cons_succ, if_true, if_false, ↓reduceIte, Bool.false_eq_true, true_and, and_true, not_true_eq_false, not_false_eq_true, decide_eq_true_eq, Bool.not_true, Bool.not_false, Bool.not_not, Bool.not_eq_true', decide_eq_false_iff_not, List.length_map, atI0, atI1, atI2, ldM_get o1 o2 (show 0 ≤ n + (i : Int) by omega) (show n + (i : Int) ≤ lastN t o by omega), F__law_side_ap, b2 (n + (i : Int)) (by omega)]
    exact hk _ ⟨_, rfl⟩
theorem eqv_dT (t : TT) : PyData.eqv (.list (t.map dP)) (.list (t.map dP)) = true := by
  rw [PyData.eqv]
  induction t with
  | nil => rfl
  | cons p t ih => rw [List.map_cons, PyData.eqvAll, ih]; simp [dP, PyData.eqv, PyData.eqvAll]
theorem dep_dT (t : TT) : (PyData.list (t.map dP)).depth ≤ 2 := by
  rw [PyData.depth]
  have : PyData.depthAll (t.map dP) ≤ 1 := by
    induction t with
    | nil => simp [PyData.depthAll]
    | cons p t ih => rw [List.map_cons, PyData.depthAll]; simp [dP, PyData.depth, PyData.depthAll]; omega
  omega
theorem F_better_from_ap {t o : TT} (o1 : Ok t) (o2 : Ok o) {k kx} : F_better_from [.d (.list (t.map dP)), .d (.list (o.map dP))] k kx = ∀ kk, Best t o kk → kk ≤ 10000000 → k (.im (.tuple [.str (wd (sideM t o)), .int kk])) :=
  propext ⟨fun ⟨t', o', e, _, _, h⟩ => by
    injection e with e1 e; injection e with e2 e
    rw [dT_inj2 e1, dT_inj2 e2]; exact h, fun h => ⟨t, o, rfl, o1, o2, h⟩⟩
theorem F__law_leads_ap {t o : TT} (o1 : Ok t) (o2 : Ok o) {k kx} : F__law_leads [.d (.list (t.map dP)), .d (.list (o.map dP))] k kx = k (.fr (ldM t o)) :=
  propext ⟨fun ⟨t', o', e, _, _, h⟩ => by
    injection e with e1 e; injection e with e2 e
    rw [dT_inj2 e1, dT_inj2 e2]; exact h, fun h => ⟨t, o, rfl, o1, o2, h⟩⟩
def HB (as : List Ar) : Prop := ∃ (t o : TT) (n : Int), as = [.d (.list (ldM t o)), .d (.int (chg t o)), .d (.str (wd (sideM t o))), .d (.int n)] ∧ Ok t ∧ Ok o ∧ Best t o n ∧ n ≤ 10000000
theorem F__law_holds_ap {as : List Ar} {k kx} : F__law_holds as k kx = (HB as ∧ k (.im (.bool true))) :=
  propext ⟨fun ⟨t, o, n, h1, h2, h3, h4, h5, h6⟩ => ⟨⟨t, o, n, h1, h2, h3, h4, h5⟩, h6⟩, fun ⟨⟨t, o, n, h1, h2, h3, h4, h5⟩, h6⟩ => ⟨t, o, n, h1, h2, h3, h4, h5, h6⟩⟩
end Lw

namespace Lw
open PySem PySem.Spec L2 Dv
open PyProof.Rows hiding St
theorem pow_ap (k : Vl → Prop) : oPow (.int 10) (.int 20) k = k (.im (.int 100000000000000000000)) := by
  show (CPow 10 20 ∧ k (.im (.int (10 ^ (20 : Int).toNat)))) = _
  have : (10 : Int) ^ (20 : Int).toNat = 100000000000000000000 := by decide
  rw [this]
  exact propext ⟨fun h => h.2, fun h => ⟨by unfold CPow; decide, h⟩⟩
def big : Int := 100000000000000000000
theorem pBig1 (ρ : Rho) (Q : Vl → Rho → Prop) : pBig ρ Q = oPow (.int 10) (.int 20) fun v => Q v ρ := rfl
theorem pBig2 (ρ : Rho) (Q : Vl → Rho → Prop) : oPow (.int 10) (.int 20) (fun v => Q v ρ) = Q (.im (.int big)) ρ := pow_ap fun v => Q v ρ
theorem pBig_ap (ρ : Rho) (Q : Vl → Rho → Prop) : pBig ρ Q = Q (.im (.int big)) ρ := (pBig1 ρ Q).trans (pBig2 ρ Q)
theorem pBig_ex : ∃ b : Int, 0 ≤ b ∧ ∀ (ρ : Rho) (Q : Vl → Rho → Prop), pBig ρ Q = Q (.im (.int b)) ρ := ⟨big, by decide, pBig_ap⟩
theorem for_lst4 {a b c d : SE} {g : SG} {bd : SS} {ρ : Rho} {x y z w : D} {E : DE} (ha : ∀ Q, a ρ Q = Q (.im x) ρ) (hb : ∀ Q, b ρ Q = Q (.im y) ρ) (hc : ∀ Q, c ρ Q = Q (.im z) ρ) (hd : ∀ Q, d ρ Q = Q (.im w) ρ)
    (h : wLoop (sStep g bd) [x, y, z, w] ρ E) : sFor (sIt (sLst (dCons a (dCons b (dCons c (dCons d dNil)))))) g bd ρ E := by
  show a ρ _
  rw [ha]
  show b ρ _
  rw [hb]
  show c ρ _
  rw [hc]
  show d ρ _
  rw [hd]
  exact ⟨show (4 : Nat) ≤ 1000 by decide, h⟩
def F__law_asks : Fn := fun as k _ => ∃ (t o : TT), as = [.d (dT t), .d (dT o)] ∧ Ok t ∧ Ok o ∧ k (.im (.bool true))
theorem len__law_asks : ∀ as k kx, F__law_asks as k kx → as.length = 2 := by rintro as k kx ⟨_, _, rfl, _⟩; rfl
theorem eqv_told (w : Str) (n : Int) : PyData.eqv (.tuple [.str w, .int n]) (.tuple [.str w, .int n]) = true := by simp [PyData.eqv, PyData.eqvAll]
theorem dep_told (w : Str) (n : Int) : (PyData.tuple [.str w, .int n]).depth = 1 := by simp [PyData.depth, PyData.depthAll]
theorem w__law_asks : ∀ as k kx, F__law_asks as k kx → m__law_asks F_better_from F__law_leads F__law_holds F__law_side F_pay F__law_lead ⟨cells0 9 as, kx⟩ { nx := fun _ => k (.im .none), rt := fun v _ => noFd k v } := by
  rintro as k kx ⟨t, o, rfl, o1, o2, h⟩
  unfold m__law_asks
  obtain ⟨big, big0, hbig⟩ := pBig_ex
  revert hbig
  generalize pBig = P
  intro hbig
  have eC : (lastP t).2 - (lastP o).2 = chg t o := rfl
  have eL : ∀ n, payM t n - payM o n = LL t o n := fun _ => rfl
  have hS : (((chg t o = 0) = True) ∧ sd (-(LL t o (lastN t o))) = sideM o t) ∨ (((chg t o = 0) = False) ∧ sd (-(chg t o)) = sideM o t) := by
    rw [side_swap]
    unfold sideM
    by_cases hc : chg t o = 0
    · exact .inl ⟨eq_true hc, by rw [if_neg (by simpa using hc), sd_neg]⟩
    · exact .inr ⟨eq_false hc, by rw [if_pos hc, sd_neg]⟩
  have hd1 := dep_dT t
  have hd2 := dep_dT o
  have i1 : isiT "tuple" "tuple" = true := by decide
  refine seq_step fun K hK => ?_; simp only [↓sNext, ↓sBreak, ↓sCont, ↓sDrop, ↓sRet, ↓sRetV, ↓sRetN, ↓sIfS, ↓sAsg, ↓sFor, ↓sVar, ↓sRV, ↓sRE, ↓sC, ↓aNil, ↓aCons, ↓ar, ↓dNil, ↓dCons, ↓fz, ↓sLst, ↓sTup, ↓s1, ↓s2, ↓s3, ↓s4, ↓rs, ↓sT, ↓sAnd, ↓sOr, ↓sNot, ↓vB, ↓sAndV, ↓sOrV, ↓sNotV, ↓sIf, ↓sgName, ↓Dv.cellOf, ↓sgNil, ↓sgCons, ↓sgTup, ↓sIt, ↓sRng1, ↓sRng2, ↓sEnum, ↓sZip, ↓sRev, ↓sRevR, ↓sRg1, ↓sRg2, ↓sI, ↓sLstR, ↓sCall, ↓sMeth, ↓sSetIx, ↓sAugIx, ↓sAug, ↓sSl, ↓pNo, ↓pSome, ↓sLc, ↓sYes, ↓sStep, ↓sIxG, ↓oAdd, ↓oI, ↓oI0, ↓oSub, ↓oMul, ↓oFdiv, ↓oMod, ↓oPow, ↓oShl, ↓oShr, ↓oNeg, ↓oEq, ↓oNe, ↓oLtI, ↓oLeI, ↓oGtI, ↓oGeI, ↓oIs, ↓oIn, ↓oIx, ↓oSl, ↓oLen, ↓oAbs, ↓oInt, ↓oMax2, ↓oMin2, ↓oList, ↓oTuple, ↓oIsi, ↓oAddI, ↓mAppend, ↓mExtend, ↓mPop, ↓mPopAt, ↓mInsert, ↓ng, ↓isNone, ↓noFd, ↓cells0, ↓arCell, List.map_cons, List.map_nil, List.length_cons, List.length_nil, List.cons_append, List.nil_append, List.replicate, Nat.reduceAdd, Nat.reduceSub, Nat.zero_add, List.getElem?_cons_zero, List.getElem?_cons_succ, List.set_cons_zero, List.set_cons_succ, if_true, if_false, ↓reduceIte, Bool.false_eq_true, true_and, and_true, not_true_eq_false, not_false_eq_true, decide_eq_true_eq, Bool.not_true, Bool.not_false, Bool.not_not, Bool.not_eq_true', decide_eq_false_iff_not, List.length_map, atI0, atI1, atI2, Nat.reduceLeDiff, Int.reduceEq, Int.reduceLT, Int.reduceLE, Int.reduceAdd, Int.reduceSub, Int.cast_ofNat_Int, isi_tuple, isi_list, isi_int, isi_bool, isi_str, isi_none, reduceCtorEq, Bool.true_eq_false, Nat.min_self, dT]
  refine hK _ ?_; clear hK; clear K
  refine seq_step fun K hK => ?_; simp only [↓sNext, ↓sBreak, ↓sCont, ↓sDrop, ↓sRet, ↓sRetV, ↓sRetN, ↓sIfS, ↓sAsg, ↓sFor, ↓sVar, ↓sRV, ↓sRE, ↓sC, ↓aNil, ↓aCons, ↓ar, ↓dNil, ↓dCons, ↓fz, ↓sLst, ↓sTup, ↓s1, ↓s2, ↓s3, ↓s4, ↓rs, ↓sT, ↓sAnd, ↓sOr, ↓sNot, ↓vB, ↓sAndV, ↓sOrV, ↓sNotV, ↓sIf, ↓sgName, ↓Dv.cellOf, ↓sgNil, ↓sgCons, ↓sgTup, ↓sIt, ↓sRng1, ↓sRng2, ↓sEnum, ↓sZip, ↓sRev, ↓sRevR, ↓sRg1, ↓sRg2, ↓sI, ↓sLstR, ↓sCall, ↓sMeth, ↓sSetIx, ↓sAugIx, ↓sAug, ↓sSl, ↓pNo, ↓pSome, ↓sLc, ↓sYes, ↓sStep, ↓sIxG, ↓oAdd, ↓oI, ↓oI0, ↓oSub, ↓oMul, ↓oFdiv, ↓oMod, ↓oPow, ↓oShl, ↓oShr, ↓oNeg, ↓oEq, ↓oNe, ↓oLtI, ↓oLeI, ↓oGtI, ↓oGeI, ↓oIs, ↓oIn, ↓oIx, ↓oSl, ↓oLen, ↓oAbs, ↓oInt, ↓oMax2, ↓oMin2, ↓oList, ↓oTuple, ↓oIsi, ↓oAddI, ↓mAppend, ↓mExtend, ↓mPop, ↓mPopAt, ↓mInsert, ↓ng, ↓isNone, ↓noFd, ↓cells0, ↓arCell, List.map_cons, List.map_nil, List.length_cons, List.length_nil, List.cons_append, List.nil_append, List.replicate, Nat.reduceAdd, Nat.reduceSub, Nat.zero_add, List.getElem?_cons_zero, List.getElem?_cons_succ, List.set_cons_zero, List.set_cons_succ, if_true, if_false, ↓reduceIte, Bool.false_eq_true, true_and, and_true, not_true_eq_false, not_false_eq_true, decide_eq_true_eq, Bool.not_true, Bool.not_false, Bool.not_not, Bool.not_eq_true', decide_eq_false_iff_not, List.length_map, atI0, atI1, atI2, Nat.reduceLeDiff, Int.reduceEq, Int.reduceLT, Int.reduceLE, Int.reduceAdd, Int.reduceSub, Int.cast_ofNat_Int, isi_tuple, isi_list, isi_int, isi_bool, isi_str, isi_none, reduceCtorEq, Bool.true_eq_false, Nat.min_self]
  refine hK _ ?_; clear hK; clear K
  refine seq_step fun K hK => ?_; simp only [↓sNext, ↓sBreak, ↓sCont, ↓sDrop, ↓sRet, ↓sRetV, ↓sRetN, ↓sIfS, ↓sAsg, ↓sFor, ↓sVar, ↓sRV, ↓sRE, ↓sC, ↓aNil, ↓aCons, ↓ar, ↓dNil, ↓dCons, ↓fz, ↓sLst, ↓sTup, ↓s1, ↓s2, ↓s3, ↓s4, ↓rs, ↓sT, ↓sAnd, ↓sOr, ↓sNot, ↓vB, ↓sAndV, ↓sOrV, ↓sNotV, ↓sIf, ↓sgName, ↓Dv.cellOf, ↓sgNil, ↓sgCons, ↓sgTup, ↓sIt, ↓sRng1, ↓sRng2, ↓sEnum, ↓sZip, ↓sRev, ↓sRevR, ↓sRg1, ↓sRg2, ↓sI, ↓sLstR, ↓sCall, ↓sMeth, ↓sSetIx, ↓sAugIx, ↓sAug, ↓sSl, ↓pNo, ↓pSome, ↓sLc, ↓sYes, ↓sStep, ↓sIxG, ↓oAdd, ↓oI, ↓oI0, ↓oSub, ↓oMul, ↓oFdiv, ↓oMod, ↓oPow, ↓oShl, ↓oShr, ↓oNeg, ↓oEq, ↓oNe, ↓oLtI, ↓oLeI, ↓oGtI, ↓oGeI, ↓oIs, ↓oIn, ↓oIx, ↓oSl, ↓oLen, ↓oAbs, ↓oInt, ↓oMax2, ↓oMin2, ↓oList, ↓oTuple, ↓oIsi, ↓oAddI, ↓mAppend, ↓mExtend, ↓mPop, ↓mPopAt, ↓mInsert, ↓ng, ↓isNone, ↓noFd, ↓cells0, ↓arCell, List.map_cons, List.map_nil, List.length_cons, List.length_nil, List.cons_append, List.nil_append, List.replicate, Nat.reduceAdd, Nat.reduceSub, Nat.zero_add, List.getElem?_cons_zero, List.getElem?_cons_succ, List.set_cons_zero, List.set_cons_succ, if_true, if_false, ↓reduceIte, Bool.false_eq_true, true_and, and_true, not_true_eq_false, not_false_eq_true, decide_eq_true_eq, Bool.not_true, Bool.not_false, Bool.not_not, Bool.not_eq_true', decide_eq_false_iff_not, List.length_map, atI0, atI1, atI2, Nat.reduceLeDiff, Int.reduceEq, Int.reduceLT, Int.reduceLE, Int.reduceAdd, Int.reduceSub, Int.cast_ofNat_Int, isi_tuple, isi_list, isi_int, isi_bool, isi_str, isi_none, reduceCtorEq, Bool.true_eq_false, Nat.min_self, F_better_from_ap o1 o2]
  refine fun n hb hn => ?_
  refine hK _ ?_; clear hK; clear K
  refine seq_step fun K hK => ?_; simp only [↓sNext, ↓sBreak, ↓sCont, ↓sDrop, ↓sRet, ↓sRetV, ↓sRetN, ↓sIfS, ↓sAsg, ↓sFor, ↓sVar, ↓sRV, ↓sRE, ↓sC, ↓aNil, ↓aCons, ↓ar, ↓dNil, ↓dCons, ↓fz, ↓sLst, ↓sTup, ↓s1, ↓s2, ↓s3, ↓s4, ↓rs, ↓sT, ↓sAnd, ↓sOr, ↓sNot, ↓vB, ↓sAndV, ↓sOrV, ↓sNotV, ↓sIf, ↓sgName, ↓Dv.cellOf, ↓sgNil, ↓sgCons, ↓sgTup, ↓sIt, ↓sRng1, ↓sRng2, ↓sEnum, ↓sZip, ↓sRev, ↓sRevR, ↓sRg1, ↓sRg2, ↓sI, ↓sLstR, ↓sCall, ↓sMeth, ↓sSetIx, ↓sAugIx, ↓sAug, ↓sSl, ↓pNo, ↓pSome, ↓sLc, ↓sYes, ↓sStep, ↓sIxG, ↓oAdd, ↓oI, ↓oI0, ↓oSub, ↓oMul, ↓oFdiv, ↓oMod, ↓oPow, ↓oShl, ↓oShr, ↓oNeg, ↓oEq, ↓oNe, ↓oLtI, ↓oLeI, ↓oGtI, ↓oGeI, ↓oIs, ↓oIn, ↓oIx, ↓oSl, ↓oLen, ↓oAbs, ↓oInt, ↓oMax2, ↓oMin2, ↓oList, ↓oTuple, ↓oIsi, ↓oAddI, ↓mAppend, ↓mExtend, ↓mPop, ↓mPopAt, ↓mInsert, ↓ng, ↓isNone, ↓noFd, ↓cells0, ↓arCell, List.map_cons, List.map_nil, List.length_cons, List.length_nil, List.cons_append, List.nil_append, List.replicate, Nat.reduceAdd, Nat.reduceSub, Nat.zero_add, List.getElem?_cons_zero, List.getElem?_cons_succ, List.set_cons_zero, List.set_cons_succ, if_true, if_false, ↓reduceIte, Bool.false_eq_true, true_and, and_true, not_true_eq_false, not_false_eq_true, decide_eq_true_eq, Bool.not_true, Bool.not_false, Bool.not_not, Bool.not_eq_true', decide_eq_false_iff_not, List.length_map, atI0, atI1, atI2, Nat.reduceLeDiff, Int.reduceEq, Int.reduceLT, Int.reduceLE, Int.reduceAdd, Int.reduceSub, Int.cast_ofNat_Int, isi_tuple, isi_list, isi_int, isi_bool, isi_str, isi_none, reduceCtorEq, Bool.true_eq_false, Nat.min_self, eqv_dT, i1]
  refine ⟨by omega, by omega, ?_⟩
  refine hK _ ?_; clear hK; clear K
  refine seq_step fun K hK => ?_; simp only [↓sNext, ↓sBreak, ↓sCont, ↓sDrop, ↓sRet, ↓sRetV, ↓sRetN, ↓sIfS, ↓sAsg, ↓sFor, ↓sVar, ↓sRV, ↓sRE, ↓sC, ↓aNil, ↓aCons, ↓ar, ↓dNil, ↓dCons, ↓fz, ↓sLst, ↓sTup, ↓s1, ↓s2, ↓s3, ↓s4, ↓rs, ↓sT, ↓sAnd, ↓sOr, ↓sNot, ↓vB, ↓sAndV, ↓sOrV, ↓sNotV, ↓sIf, ↓sgName, ↓Dv.cellOf, ↓sgNil, ↓sgCons, ↓sgTup, ↓sIt, ↓sRng1, ↓sRng2, ↓sEnum, ↓sZip, ↓sRev, ↓sRevR, ↓sRg1, ↓sRg2, ↓sI, ↓sLstR, ↓sCall, ↓sMeth, ↓sSetIx, ↓sAugIx, ↓sAug, ↓sSl, ↓pNo, ↓pSome, ↓sLc, ↓sYes, ↓sStep, ↓sIxG, ↓oAdd, ↓oI, ↓oI0, ↓oSub, ↓oMul, ↓oFdiv, ↓oMod, ↓oPow, ↓oShl, ↓oShr, ↓oNeg, ↓oEq, ↓oNe, ↓oLtI, ↓oLeI, ↓oGtI, ↓oGeI, ↓oIs, ↓oIn, ↓oIx, ↓oSl, ↓oLen, ↓oAbs, ↓oInt, ↓oMax2, ↓oMin2, ↓oList, ↓oTuple, ↓oIsi, ↓oAddI, ↓mAppend, ↓mExtend, ↓mPop, ↓mPopAt, ↓mInsert, ↓ng, ↓isNone, ↓noFd, ↓cells0, ↓arCell, List.map_cons, List.map_nil, List.length_cons, List.length_nil, List.cons_append, List.nil_append, List.replicate, Nat.reduceAdd, Nat.reduceSub, Nat.zero_add, List.getElem?_cons_zero, List.getElem?_cons_succ, List.set_cons_zero, List.set_cons_succ, if_true, if_false, ↓reduceIte, Bool.false_eq_true, true_and, and_true, not_true_eq_false, not_false_eq_true, decide_eq_true_eq, Bool.not_true, Bool.not_false, Bool.not_not, Bool.not_eq_true', decide_eq_false_iff_not, List.length_map, atI0, atI1, atI2, Nat.reduceLeDiff, Int.reduceEq, Int.reduceLT, Int.reduceLE, Int.reduceAdd, Int.reduceSub, Int.cast_ofNat_Int, isi_tuple, isi_list, isi_int, isi_bool, isi_str, isi_none, reduceCtorEq, Bool.true_eq_false, Nat.min_self, F__law_leads_ap o1 o2]
  refine hK _ ?_; clear hK; clear K
  refine seq_step fun K hK => ?_; simp only [↓sNext, ↓sBreak, ↓sCont, ↓sDrop, ↓sRet, ↓sRetV, ↓sRetN, ↓sIfS, ↓sAsg, ↓sFor, ↓sVar, ↓sRV, ↓sRE, ↓sC, ↓aNil, ↓aCons, ↓ar, ↓dNil, ↓dCons, ↓fz, ↓sLst, ↓sTup, ↓s1, ↓s2, ↓s3, ↓s4, ↓rs, ↓sT, ↓sAnd, ↓sOr, ↓sNot, ↓vB, ↓sAndV, ↓sOrV, ↓sNotV, ↓sIf, ↓sgName, ↓Dv.cellOf, ↓sgNil, ↓sgCons, ↓sgTup, ↓sIt, ↓sRng1, ↓sRng2, ↓sEnum, ↓sZip, ↓sRev, ↓sRevR, ↓sRg1, ↓sRg2, ↓sI, ↓sLstR, ↓sCall, ↓sMeth, ↓sSetIx, ↓sAugIx, ↓sAug, ↓sSl, ↓pNo, ↓pSome, ↓sLc, ↓sYes, ↓sStep, ↓sIxG, ↓oAdd, ↓oI, ↓oI0, ↓oSub, ↓oMul, ↓oFdiv, ↓oMod, ↓oPow, ↓oShl, ↓oShr, ↓oNeg, ↓oEq, ↓oNe, ↓oLtI, ↓oLeI, ↓oGtI, ↓oGeI, ↓oIs, ↓oIn, ↓oIx, ↓oSl, ↓oLen, ↓oAbs, ↓oInt, ↓oMax2, ↓oMin2, ↓oList, ↓oTuple, ↓oIsi, ↓oAddI, ↓mAppend, ↓mExtend, ↓mPop, ↓mPopAt, ↓mInsert, ↓ng, ↓isNone, ↓noFd, ↓cells0, ↓arCell, List.map_cons, List.map_nil, List.length_cons, List.length_nil, List.cons_append, List.nil_append, List.replicate, Nat.reduceAdd, Nat.reduceSub, Nat.zero_add, List.getElem?_cons_zero, List.getElem?_cons_succ, List.set_cons_zero, List.set_cons_succ, if_true, if_false, ↓reduceIte, Bool.false_eq_true, true_and, and_true, not_true_eq_false, not_false_eq_true, decide_eq_true_eq, Bool.not_true, Bool.not_false, Bool.not_not, Bool.not_eq_true', decide_eq_false_iff_not, List.length_map, atI0, atI1, atI2, Nat.reduceLeDiff, Int.reduceEq, Int.reduceLT, Int.reduceLE, Int.reduceAdd, Int.reduceSub, Int.cast_ofNat_Int, isi_tuple, isi_list, isi_int, isi_bool, isi_str, isi_none, reduceCtorEq, Bool.true_eq_false, Nat.min_self, dT_last o1.ne, dT_last o2.ne, eC]
  refine hK _ ?_; clear hK; clear K
  refine seq_step fun K hK => ?_; simp only [↓sNext, ↓sBreak, ↓sCont, ↓sDrop, ↓sRet, ↓sRetV, ↓sRetN, ↓sIfS, ↓sAsg, ↓sFor, ↓sVar, ↓sRV, ↓sRE, ↓sC, ↓aNil, ↓aCons, ↓ar, ↓dNil, ↓dCons, ↓fz, ↓sLst, ↓sTup, ↓s1, ↓s2, ↓s3, ↓s4, ↓rs, ↓sT, ↓sAnd, ↓sOr, ↓sNot, ↓vB, ↓sAndV, ↓sOrV, ↓sNotV, ↓sIf, ↓sgName, ↓Dv.cellOf, ↓sgNil, ↓sgCons, ↓sgTup, ↓sIt, ↓sRng1, ↓sRng2, ↓sEnum, ↓sZip, ↓sRev, ↓sRevR, ↓sRg1, ↓sRg2, ↓sI, ↓sLstR, ↓sCall, ↓sMeth, ↓sSetIx, ↓sAugIx, ↓sAug, ↓sSl, ↓pNo, ↓pSome, ↓sLc, ↓sYes, ↓sStep, ↓sIxG, ↓oAdd, ↓oI, ↓oI0, ↓oSub, ↓oMul, ↓oFdiv, ↓oMod, ↓oPow, ↓oShl, ↓oShr, ↓oNeg, ↓oEq, ↓oNe, ↓oLtI, ↓oLeI, ↓oGtI, ↓oGeI, ↓oIs, ↓oIn, ↓oIx, ↓oSl, ↓oLen, ↓oAbs, ↓oInt, ↓oMax2, ↓oMin2, ↓oList, ↓oTuple, ↓oIsi, ↓oAddI, ↓mAppend, ↓mExtend, ↓mPop, ↓mPopAt, ↓mInsert, ↓ng, ↓isNone, ↓noFd, ↓cells0, ↓arCell, List.map_cons, List.map_nil, List.length_cons, List.length_nil, List.cons_append, List.nil_append, List.replicate, Nat.reduceAdd, Nat.reduceSub, Nat.zero_add, List.getElem?_cons_zero, List.getElem?_cons_succ, List.set_cons_zero, List.set_cons_succ, if_true, if_false, ↓reduceIte, Bool.false_eq_true, true_and, and_true, not_true_eq_false, not_false_eq_true, decide_eq_true_eq, Bool.not_true, Bool.not_false, Bool.not_not, Bool.not_eq_true', decide_eq_false_iff_not, List.length_map, atI0, atI1, atI2, Nat.reduceLeDiff, Int.reduceEq, Int.reduceLT, Int.reduceLE, Int.reduceAdd, Int.reduceSub, Int.cast_ofNat_Int, isi_tuple, isi_list, isi_int, isi_bool, isi_str, isi_none, reduceCtorEq, Bool.true_eq_false, Nat.min_self, F__law_holds_ap]
  refine ⟨⟨t, o, n, rfl, o1, o2, hb, hn⟩, ?_⟩
  refine hK _ ?_; clear hK; clear K
  refine seq_step fun K hK => ?_; simp only [↓sNext, ↓sBreak, ↓sCont, ↓sDrop, ↓sRet, ↓sRetV, ↓sRetN, ↓sIfS, ↓sAsg, ↓sFor, ↓sVar, ↓sRV, ↓sRE, ↓sC, ↓aNil, ↓aCons, ↓ar, ↓dNil, ↓dCons, ↓fz, ↓sLst, ↓sTup, ↓s1, ↓s2, ↓s3, ↓s4, ↓rs, ↓sT, ↓sAnd, ↓sOr, ↓sNot, ↓vB, ↓sAndV, ↓sOrV, ↓sNotV, ↓sIf, ↓sgName, ↓Dv.cellOf, ↓sgNil, ↓sgCons, ↓sgTup, ↓sIt, ↓sRng1, ↓sRng2, ↓sEnum, ↓sZip, ↓sRev, ↓sRevR, ↓sRg1, ↓sRg2, ↓sI, ↓sLstR, ↓sCall, ↓sMeth, ↓sSetIx, ↓sAugIx, ↓sAug, ↓sSl, ↓pNo, ↓pSome, ↓sLc, ↓sYes, ↓sStep, ↓sIxG, ↓oAdd, ↓oI, ↓oI0, ↓oSub, ↓oMul, ↓oFdiv, ↓oMod, ↓oPow, ↓oShl, ↓oShr, ↓oNeg, ↓oEq, ↓oNe, ↓oLtI, ↓oLeI, ↓oGtI, ↓oGeI, ↓oIs, ↓oIn, ↓oIx, ↓oSl, ↓oLen, ↓oAbs, ↓oInt, ↓oMax2, ↓oMin2, ↓oList, ↓oTuple, ↓oIsi, ↓oAddI, ↓mAppend, ↓mExtend, ↓mPop, ↓mPopAt, ↓mInsert, ↓ng, ↓isNone, ↓noFd, ↓cells0, ↓arCell, List.map_cons, List.map_nil, List.length_cons, List.length_nil, List.cons_append, List.nil_append, List.replicate, Nat.reduceAdd, Nat.reduceSub, Nat.zero_add, List.getElem?_cons_zero, List.getElem?_cons_succ, List.set_cons_zero, List.set_cons_succ, if_true, if_false, ↓reduceIte, Bool.false_eq_true, true_and, and_true, not_true_eq_false, not_false_eq_true, decide_eq_true_eq, Bool.not_true, Bool.not_false, Bool.not_not, Bool.not_eq_true', decide_eq_false_iff_not, List.length_map, atI0, atI1, atI2, Nat.reduceLeDiff, Int.reduceEq, Int.reduceLT, Int.reduceLE, Int.reduceAdd, Int.reduceSub, Int.cast_ofNat_Int, isi_tuple, isi_list, isi_int, isi_bool, isi_str, isi_none, reduceCtorEq, Bool.true_eq_false, Nat.min_self, F_better_from_ap o2 o1]
  refine fun n' hb' hn' => ?_
  refine hK _ ?_; clear hK; clear K
  rw [hb'.swap.uniq hb]
  have n1 := hb.1
  rcases hS with ⟨hc, hs⟩ | ⟨hc, hs⟩ <;>
  · refine seq_step fun K hK => ?_; simp only [↓sNext, ↓sBreak, ↓sCont, ↓sDrop, ↓sRet, ↓sRetV, ↓sRetN, ↓sIfS, ↓sAsg, ↓sFor, ↓sVar, ↓sRV, ↓sRE, ↓sC, ↓aNil, ↓aCons, ↓ar, ↓dNil, ↓dCons, ↓fz, ↓sLst, ↓sTup, ↓s1, ↓s2, ↓s3, ↓s4, ↓rs, ↓sT, ↓sAnd, ↓sOr, ↓sNot, ↓vB, ↓sAndV, ↓sOrV, ↓sNotV, ↓sIf, ↓sgName, ↓Dv.cellOf, ↓sgNil, ↓sgCons, ↓sgTup, ↓sIt, ↓sRng1, ↓sRng2, ↓sEnum, ↓sZip, ↓sRev, ↓sRevR, ↓sRg1, ↓sRg2, ↓sI, ↓sLstR, ↓sCall, ↓sMeth, ↓sSetIx, ↓sAugIx, ↓sAug, ↓sSl, ↓pNo, ↓pSome, ↓sLc, ↓sYes, ↓sStep, ↓sIxG, ↓oAdd, ↓oI, ↓oI0, ↓oSub, ↓oMul, ↓oFdiv, ↓oMod, ↓oPow, ↓oShl, ↓oShr, ↓oNeg, ↓oEq, ↓oNe, ↓oLtI, ↓oLeI, ↓oGtI, ↓oGeI, ↓oIs, ↓oIn, ↓oIx, ↓oSl, ↓oLen, ↓oAbs, ↓oInt, ↓oMax2, ↓oMin2, ↓oList, ↓oTuple, ↓oIsi, ↓oAddI, ↓mAppend, ↓mExtend, ↓mPop, ↓mPopAt, ↓mInsert, ↓ng, ↓isNone, ↓noFd, ↓cells0, ↓arCell, List.map_cons, List.map_nil, List.length_cons, List.length_nil, List.cons_append, List.nil_append, List.replicate, Nat.reduceAdd, Nat.reduceSub, Nat.zero_add, List.getElem?_cons_zero, List.getElem?_cons_succ, List.set_cons_zero, List.set_cons_succ, if_true, if_false, ↓reduceIte, Bool.false_eq_true, true_and, and_true, not_true_eq_false, not_false_eq_true, decide_eq_true_eq, Bool.not_true, Bool.not_false, Bool.not_not, Bool.not_eq_true', decide_eq_false_iff_not, List.length_map, atI0, atI1, atI2, Nat.reduceLeDiff, Int.reduceEq, Int.reduceLT, Int.reduceLE, Int.reduceAdd, Int.reduceSub, Int.cast_ofNat_Int, isi_tuple, isi_list, isi_int, isi_bool, isi_str, isi_none, reduceCtorEq, Bool.true_eq_false, Nat.min_self, hc, ldM_last o1 o2, F__law_side_ap, hs, dep_told, eqv_told]
    refine hK _ ?_; clear hK; clear K
    refine seq_step fun K hK => for_lst4 (x := .int n) (y := .int (n + 1)) (z := .int (n - 1)) (w := .int (n + big)) (fun Q => ?_) (fun Q => ?_) (fun Q => ?_) (fun Q => ?_) ?_
    · simp only [↓sSeq, ↓sNext, ↓sBreak, ↓sCont, ↓sDrop, ↓sRet, ↓sRetV, ↓sRetN, ↓sIfS, ↓sAsg, ↓sFor, ↓sVar, ↓sRV, ↓sRE, ↓sC, ↓aNil, ↓aCons, ↓ar, ↓dNil, ↓dCons, ↓fz, ↓sLst, ↓sTup, ↓s1, ↓s2, ↓s3, ↓s4, ↓rs, ↓sT, ↓sAnd, ↓sOr, ↓sNot, ↓vB, ↓sAndV, ↓sOrV, ↓sNotV, ↓sIf, ↓sgName, ↓Dv.cellOf, ↓sgNil, ↓sgCons, ↓sgTup, ↓sIt, ↓sRng1, ↓sRng2, ↓sEnum, ↓sZip, ↓sRev, ↓sRevR, ↓sRg1, ↓sRg2, ↓sI, ↓sLstR, ↓sCall, ↓sMeth, ↓sSetIx, ↓sAugIx, ↓sAug, ↓sSl, ↓pNo, ↓pSome, ↓sLc, ↓sYes, ↓sStep, ↓sIxG, ↓oAdd, ↓oI, ↓oI0, ↓oSub, ↓oMul, ↓oFdiv, ↓oMod, ↓oPow, ↓oShl, ↓oShr, ↓oNeg, ↓oEq, ↓oNe, ↓oLtI, ↓oLeI, ↓oGtI, ↓oGeI, ↓oIs, ↓oIn, ↓oIx, ↓oSl, ↓oLen, ↓oAbs, ↓oInt, ↓oMax2, ↓oMin2, ↓oList, ↓oTuple, ↓oIsi, ↓oAddI, ↓mAppend, ↓mExtend, ↓mPop, ↓mPopAt, ↓mInsert, ↓ng, ↓isNone, ↓noFd, ↓cells0, ↓arCell, List.map_cons, List.map_nil, List.length_cons, List.length_nil, List.cons_append, List.nil_append, List.replicate, Nat.reduceAdd, Nat.reduceSub, Nat.zero_add, List.getElem?_cons_zero, List.getElem?_cons_succ, List.set_cons_zero, List.set_cons_succ, if_true, if_false, ↓reduceIte, Bool.false_eq_true, true_and, and_true, not_true_eq_false, not_false_eq_true, decide_eq_true_eq, Bool.not_true, Bool.not_false, Bool.not_not, Bool.not_eq_true', decide_eq_false_iff_not, List.length_map, atI0, atI1, atI2, Nat.reduceLeDiff, Int.reduceEq, Int.reduceLT, Int.reduceLE, Int.reduceAdd, Int.reduceSub, Int.cast_ofNat_Int, isi_tuple, isi_list, isi_int, isi_bool, isi_str, isi_none, reduceCtorEq, Bool.true_eq_false, Nat.min_self]
    · simp only [↓sSeq, ↓sNext, ↓sBreak, ↓sCont, ↓sDrop, ↓sRet, ↓sRetV, ↓sRetN, ↓sIfS, ↓sAsg, ↓sFor, ↓sVar, ↓sRV, ↓sRE, ↓sC, ↓aNil, ↓aCons, ↓ar, ↓dNil, ↓dCons, ↓fz, ↓sLst, ↓sTup, ↓s1, ↓s2, ↓s3, ↓s4, ↓rs, ↓sT, ↓sAnd, ↓sOr, ↓sNot, ↓vB, ↓sAndV, ↓sOrV, ↓sNotV, ↓sIf, ↓sgName, ↓Dv.cellOf, ↓sgNil, ↓sgCons, ↓sgTup, ↓sIt, ↓sRng1, ↓sRng2, ↓sEnum, ↓sZip, ↓sRev, ↓sRevR, ↓sRg1, ↓sRg2, ↓sI, ↓sLstR, ↓sCall, ↓sMeth, ↓sSetIx, ↓sAugIx, ↓sAug, ↓sSl, ↓pNo, ↓pSome, ↓sLc, ↓sYes, ↓sStep, ↓sIxG, ↓oAdd, ↓oI, ↓oI0, ↓oSub, ↓oMul, ↓oFdiv, ↓oMod, ↓oPow, ↓oShl, ↓oShr, ↓oNeg, ↓oEq, ↓oNe, ↓oLtI, ↓oLeI, ↓oGtI, ↓oGeI, ↓oIs, ↓oIn, ↓oIx, ↓oSl, ↓oLen, ↓oAbs, ↓oInt, ↓oMax2, ↓oMin2, ↓oList, ↓oTuple, ↓oIsi, ↓oAddI, ↓mAppend, ↓mExtend, ↓mPop, ↓mPopAt, ↓mInsert, ↓ng, ↓isNone, ↓noFd, ↓cells0, ↓arCell, List.map_cons, List.map_nil, List.length_cons, List.length_nil, List.cons_append, List.nil_append, List.replicate, Nat.reduceAdd, Nat.reduceSub, Nat.zero_add, List.getElem?_cons_zero, List.getElem?_cons_succ, List.set_cons_zero, List.set_cons_succ, if_true, if_false, ↓reduceIte, Bool.false_eq_true, true_and, and_true, not_true_eq_false, not_false_eq_true, decide_eq_true_eq, Bool.not_true, Bool.not_false, Bool.not_not, Bool.not_eq_true', decide_eq_false_iff_not, List.length_map, atI0, atI1, atI2, Nat.reduceLeDiff, Int.reduceEq, Int.reduceLT, Int.reduceLE, Int.reduceAdd, Int.reduceSub, Int.cast_ofNat_Int, isi_tuple, isi_list, isi_int, isi_bool, isi_str, isi_none, reduceCtorEq, Bool.true_eq_false, Nat.min_self]
    · simp only [↓sSeq, ↓sNext, ↓sBreak, ↓sCont, ↓sDrop, ↓sRet, ↓sRetV, ↓sRetN, ↓sIfS, ↓sAsg, ↓sFor, ↓sVar, ↓sRV, ↓sRE, ↓sC, ↓aNil, ↓aCons, ↓ar, ↓dNil, ↓dCons, ↓fz, ↓sLst, ↓sTup, ↓s1, ↓s2, ↓s3, ↓s4, ↓rs, ↓sT, ↓sAnd, ↓sOr, ↓sNot, ↓vB, ↓sAndV, ↓sOrV, ↓sNotV, ↓sIf, ↓sgName, ↓Dv.cellOf, ↓sgNil, ↓sgCons, ↓sgTup, ↓sIt, ↓sRng1, ↓sRng2, ↓sEnum, ↓sZip, ↓sRev, ↓sRevR, ↓sRg1, ↓sRg2, ↓sI, ↓sLstR, ↓sCall, ↓sMeth, ↓sSetIx, ↓sAugIx, ↓sAug, ↓sSl, ↓pNo, ↓pSome, ↓sLc, ↓sYes, ↓sStep, ↓sIxG, ↓oAdd, ↓oI, ↓oI0, ↓oSub, ↓oMul, ↓oFdiv, ↓oMod, ↓oPow, ↓oShl, ↓oShr, ↓oNeg, ↓oEq, ↓oNe, ↓oLtI, ↓oLeI, ↓oGtI, ↓oGeI, ↓oIs, ↓oIn, ↓oIx, ↓oSl, ↓oLen, ↓oAbs, ↓oInt, ↓oMax2, ↓oMin2, ↓oList, ↓oTuple, ↓oIsi, ↓oAddI, ↓mAppend, ↓mExtend, ↓mPop, ↓mPopAt, ↓mInsert, ↓ng, ↓isNone, ↓noFd, ↓cells0, ↓arCell, List.map_cons, List.map_nil, List.length_cons, List.length_nil, List.cons_append, List.nil_append, List.replicate, Nat.reduceAdd, Nat.reduceSub, Nat.zero_add, List.getElem?_cons_zero, List.getElem?_cons_succ, List.set_cons_zero, List.set_cons_succ, if_true, if_false, ↓reduceIte, Bool.false_eq_true, true_and, and_true, not_true_eq_false, not_false_eq_true, decide_eq_true_eq, Bool.not_true, Bool.not_false, Bool.not_not, Bool.not_eq_true', decide_eq_false_iff_not, List.length_map, atI0, atI1, atI2, Nat.reduceLeDiff, Int.reduceEq, Int.reduceLT, Int.reduceLE, Int.reduceAdd, Int.reduceSub, Int.cast_ofNat_Int, isi_tuple, isi_list, isi_int, isi_bool, isi_str, isi_none, reduceCtorEq, Bool.true_eq_false, Nat.min_self]
    · simp only [↓sSeq, ↓sNext, ↓sBreak, ↓sCont, ↓sDrop, ↓sRet, ↓sRetV, ↓sRetN, ↓sIfS, ↓sAsg, ↓sFor, ↓sVar, ↓sRV, ↓sRE, ↓sC, ↓aNil, ↓aCons, ↓ar, ↓dNil, ↓dCons, ↓fz, ↓sLst, ↓sTup, ↓s1, ↓s2, ↓s3, ↓s4, ↓rs, ↓sT, ↓sAnd, ↓sOr, ↓sNot, ↓vB, ↓sAndV, ↓sOrV, ↓sNotV, ↓sIf, ↓sgName, ↓Dv.cellOf, ↓sgNil, ↓sgCons, ↓sgTup, ↓sIt, ↓sRng1, ↓sRng2, ↓sEnum, ↓sZip, ↓sRev, ↓sRevR, ↓sRg1, ↓sRg2, ↓sI, ↓sLstR, ↓sCall, ↓sMeth, ↓sSetIx, ↓sAugIx, ↓sAug, ↓sSl, ↓pNo, ↓pSome, ↓sLc, ↓sYes, ↓sStep, ↓sIxG, ↓oAdd, ↓oI, ↓oI0, ↓oSub, ↓oMul, ↓oFdiv, ↓oMod, ↓oPow, ↓oShl, ↓oShr, ↓oNeg, ↓oEq, ↓oNe, ↓oLtI, ↓oLeI, ↓oGtI, ↓oGeI, ↓oIs, ↓oIn, ↓oIx, ↓oSl, ↓oLen, ↓oAbs, ↓oInt, ↓oMax2, ↓oMin2, ↓oList, ↓oTuple, ↓oIsi, ↓oAddI, ↓mAppend, ↓mExtend, ↓mPop, ↓mPopAt, ↓mInsert, ↓ng, ↓isNone, ↓noFd, ↓cells0, ↓arCell, List.map_cons, List.map_nil, List.length_cons, List.length_nil, List.cons_append, List.nil_append, List.replicate, Nat.reduceAdd, Nat.reduceSub, Nat.zero_add, List.getElem?_cons_zero, List.getElem?_cons_succ, List.set_cons_zero, List.set_cons_succ, if_true, if_false, ↓reduceIte, Bool.false_eq_true, true_and, and_true, not_true_eq_false, not_false_eq_true, decide_eq_true_eq, Bool.not_true, Bool.not_false, Bool.not_not, Bool.not_eq_true', decide_eq_false_iff_not, List.length_map, atI0, atI1, atI2, Nat.reduceLeDiff, Int.reduceEq, Int.reduceLT, Int.reduceLE, Int.reduceAdd, Int.reduceSub, Int.cast_ofNat_Int, isi_tuple, isi_list, isi_int, isi_bool, isi_str, isi_none, reduceCtorEq, Bool.true_eq_false, Nat.min_self, hbig]
    have hL : ∀ d ∈ [PyData.int n, .int (n + 1), .int (n - 1), .int (n + big)], ∃ m : Int, d = .int m ∧ 0 ≤ m := by
      intro d hd
      simp only [List.mem_cons, List.not_mem_nil, or_false] at hd
      rcases hd with rfl | rfl | rfl | rfl <;> exact ⟨_, rfl, by omega⟩
    refine wLoop_ix (fun i ρ => ∃ (a b : Cell), (a = .mu (ldM t o) ∨ a = .im (.list (ldM t o))) ∧ ρ = ⟨[.im (.list (t.map dP)), .im (.list (o.map dP)), .im (.list (t.map dP)), .im (.list (o.map dP)), .im (.tuple [.str (wd (sideM t o)), .int n]), a, .im (.int (chg t o)), .im (.tuple [.str (wd (sideM o t)), .int n]), b], kx⟩) ⟨_, _, .inr rfl, rfl⟩ ?_ ?_
    · rintro ρ ⟨a, b, _, rfl⟩
      refine hK _ ?_; clear hK; clear K
      simp only [↓sSeq, ↓sNext, ↓sBreak, ↓sCont, ↓sDrop, ↓sRet, ↓sRetV, ↓sRetN, ↓sIfS, ↓sAsg, ↓sFor, ↓sVar, ↓sRV, ↓sRE, ↓sC, ↓aNil, ↓aCons, ↓ar, ↓dNil, ↓dCons, ↓fz, ↓sLst, ↓sTup, ↓s1, ↓s2, ↓s3, ↓s4, ↓rs, ↓sT, ↓sAnd, ↓sOr, ↓sNot, ↓vB, ↓sAndV, ↓sOrV, ↓sNotV, ↓sIf, ↓sgName, ↓Dv.cellOf, ↓sgNil, ↓sgCons, ↓sgTup, ↓sIt, ↓sRng1, ↓sRng2, ↓sEnum, ↓sZip, ↓sRev, ↓sRevR, ↓sRg1, ↓sRg2, ↓sI, ↓sLstR, ↓sCall, ↓sMeth, ↓sSetIx, ↓sAugIx, ↓sAug, ↓sSl, ↓pNo, ↓pSome, ↓sLc, ↓sYes, ↓sStep, ↓sIxG, ↓oAdd, ↓oI, ↓oI0, ↓oSub, ↓oMul, ↓oFdiv, ↓oMod, ↓oPow, ↓oShl, ↓oShr, ↓oNeg, ↓oEq, ↓oNe, ↓oLtI, ↓oLeI, ↓oGtI, ↓oGeI, ↓oIs, ↓oIn, ↓oIx, ↓oSl, ↓oLen, ↓oAbs, ↓oInt, ↓oMax2, ↓oMin2, ↓oList, ↓oTuple, ↓oIsi, ↓oAddI, ↓mAppend, ↓mExtend, ↓mPop, ↓mPopAt, ↓mInsert, ↓ng, ↓isNone, ↓noFd, ↓cells0, ↓arCell, List.map_cons, List.map_nil, List.length_cons, List.length_nil, List.cons_append, List.nil_append, List.replicate, Nat.reduceAdd, Nat.reduceSub, Nat.zero_add, List.getElem?_cons_zero, List.getElem?_cons_succ, List.set_cons_zero, List.set_cons_succ, if_true, if_false, ↓reduceIte, Bool.false_eq_true, true_and, and_true, not_true_eq_false, not_false_eq_true, decide_eq_true_eq, Bool.not_true, Bool.not_false, Bool.not_not, Bool.not_eq_true', decide_eq_false_iff_not, List.length_map, atI0, atI1, atI2, Nat.reduceLeDiff, Int.reduceEq, Int.reduceLT, Int.reduceLE, Int.reduceAdd, Int.reduceSub, Int.cast_ofNat_Int, isi_tuple, isi_list, isi_int, isi_bool, isi_str, isi_none, reduceCtorEq, Bool.true_eq_false, Nat.min_self]
      exact h
    · rintro i d ρ kk hd ⟨a, b, ha, rfl⟩ hk
      obtain ⟨m, rfl, hm⟩ := hL d (List.mem_of_getElem? hd)
      rcases ha with rfl | rfl <;>
      · unfold b1__law_asks
        simp only [↓sSeq, ↓sNext, ↓sBreak, ↓sCont, ↓sDrop, ↓sRet, ↓sRetV, ↓sRetN, ↓sIfS, ↓sAsg, ↓sFor, ↓sVar, ↓sRV, ↓sRE, ↓sC, ↓aNil, ↓aCons, ↓ar, ↓dNil, ↓dCons, ↓fz, ↓sLst, ↓sTup, ↓s1, ↓s2, ↓s3, ↓s4, ↓rs, ↓sT, ↓sAnd, ↓sOr, ↓sNot, ↓vB, ↓sAndV, ↓sOrV, ↓sNotV, ↓sIf, ↓sgName, ↓Dv.cellOf, ↓sgNil, ↓sgCons, ↓sgTup, ↓sIt, ↓sRng1, ↓sRng2, ↓sEnum, ↓sZip, ↓sRev, ↓sRevR, ↓sRg1, ↓sRg2, ↓sI, ↓sLstR, ↓sCall, ↓sMeth, ↓sSetIx, ↓sAugIx, ↓sAug, ↓sSl, ↓pNo, ↓pSome, ↓sLc, ↓sYes, ↓sStep, ↓sIxG, ↓oAdd, ↓oI, ↓oI0, ↓oSub, ↓oMul, ↓oFdiv, ↓oMod, ↓oPow, ↓oShl, ↓oShr, ↓oNeg, ↓oEq, ↓oNe, ↓oLtI, ↓oLeI, ↓oGtI, ↓oGeI, ↓oIs, ↓oIn, ↓oIx, ↓oSl, ↓oLen, ↓oAbs, ↓oInt, ↓oMax2, ↓oMin2, ↓oList, ↓oTuple, ↓oIsi, ↓oAddI, ↓mAppend, ↓mExtend, ↓mPop, ↓mPopAt, ↓mInsert, ↓ng, ↓isNone, ↓noFd, ↓cells0, ↓arCell, List.map_cons, List.map_nil, List.length_cons, List.length_nil, List.cons_append, List.nil_append, List.replicate, Nat.reduceAdd, Nat.reduceSub, Nat.zero_add, List.getElem?_cons_zero, List.getElem?_cons_succ, List.set_cons_zero, List.set_cons_succ, if_true, if_false, ↓reduceIte, Bool.false_eq_true, true_and, and_true, not_true_eq_false, not_false_eq_true, decide_eq_true_eq, Bool.not_true, Bool.not_false, Bool.not_not, Bool.not_eq_true', decide_eq_false_iff_not, List.length_map, atI0, atI1, atI2, Nat.reduceLeDiff, Int.reduceEq, Int.reduceLT, Int.reduceLE, Int.reduceAdd, Int.reduceSub, Int.cast_ofNat_Int, isi_tuple, isi_list, isi_int, isi_bool, isi_str, isi_none, reduceCtorEq, Bool.true_eq_false, Nat.min_self, F_pay_ap o1, F_pay_ap o2, eL, F__law_lead_ap o1 o2]
        exact ⟨hm, hk _ ⟨_, _, .inr rfl, rfl⟩⟩
end Lw

namespace Lw
open PySem PySem.Spec L2 Dv
open PyProof.Rows hiding St
theorem F__law_asks_ap {t o : TT} (o1 : Ok t) (o2 : Ok o) {k kx} : F__law_asks [.d (.list (t.map dP)), .d (.list (o.map dP))] k kx = k (.im (.bool true)) :=
  propext ⟨fun ⟨_, _, _, _, _, h⟩ => h, fun h => ⟨t, o, rfl, o1, o2, h⟩⟩
theorem F_better_from_eq {a b : List D} {t o : TT} (o1 : Ok t) (o2 : Ok o) (e1 : a = t.map dP) (e2 : b = o.map dP) {n : Int} {w : Str} (hs : wd (sideM t o) = w) (hn : ∀ m, Best t o m → m = n) {k kx} (h : k (.im (.tuple [.str w, .int n]))) : F_better_from [.d (.list a), .d (.list b)] k kx := by
  subst e1 e2
  rw [F_better_from_ap o1 o2]
  intro m hm _
  rw [hn m hm, hs]
  exact h
theorem sd0 {n : Int} (h : n = 0) : sd n = 0 := by subst h; rfl
theorem best_one {t o : TT} (h : ∀ n : Int, 1 ≤ n → sd (LL t o n) = sideM t o) (m : Int) (hm : Best t o m) : m = 1 := by
  obtain ⟨a, _, c⟩ := hm
  by_cases e : m = 1
  · exact e
  · exact absurd (h (m - 1) (by omega)) (c.resolve_left e)
theorem pay1 (c n : Int) (h : 1 ≤ n) : payM [(1, c)] n = c * n := by simp only [payM]; rw [if_pos h, show n - 1 + 1 = n by omega]
theorem pay2 (c s d n : Int) (hs : 1 < s) (h : 1 ≤ n) : payM [(1, c), (s, d)] n = c * min n (s - 1) + (if s ≤ n then d * (n - s + 1) else 0) := by
  simp only [payM]; rw [if_pos (by omega), show min n (s - 1) - 1 + 1 = min n (s - 1) by omega]
theorem chk1 (f : Int) : wd (sideM [(1, f)] [(1, f + 1)]) = "second" ∧ ∀ m, Best [(1, f)] [(1, f + 1)] m → m = 1 := by
  have hs : sideM [(1, f)] [(1, f + 1)] = -1 := by
    unfold sideM chg lastP
    simp only [List.getLastD_cons, List.getLastD_nil]
    rw [if_pos (by omega)]; exact sd_n (by omega)
  rw [hs]
  refine ⟨rfl, best_one fun n hn => ?_⟩
  rw [hs]
  unfold LL
  rw [pay1 _ _ hn, pay1 _ _ hn, Int.add_mul]
  exact sd_n (by omega)
theorem chk2 (f : Int) : wd (sideM [(1, f)] [(1, f)]) = "even" ∧ ∀ m, Best [(1, f)] [(1, f)] m → m = 1 := by
  have hs : sideM [(1, f)] [(1, f)] = 0 := by
    unfold sideM chg
    rw [if_neg (by omega)]; exact sd0 (by unfold LL; omega)
  rw [hs]
  refine ⟨rfl, best_one fun n hn => ?_⟩
  rw [hs]
  exact sd0 (by unfold LL; omega)
theorem chk3 (f s : Int) (hf : 1 ≤ f) (h1 : 2 ≤ s) : wd (sideM [(1, 0), (s, 1)] [(1, f), (2, 0)]) = "first" ∧ ∀ m, Best [(1, 0), (s, 1)] [(1, f), (2, 0)] m → m = s + f := by
  have hs : sideM [(1, 0), (s, 1)] [(1, f), (2, 0)] = 1 := by
    unfold sideM chg lastP
    simp only [List.getLastD_cons, List.getLastD_nil]
    rfl
  rw [hs]
  refine ⟨rfl, fun m ⟨a, b, c⟩ => ?_⟩
  rw [hs] at b c
  have key : ∀ n, 1 ≤ n → LL [(1, 0), (s, 1)] [(1, f), (2, 0)] n = (if s ≤ n then n - s + 1 else 0) - f := by
    intro n hn
    unfold LL
    rw [pay2 _ _ _ _ (by omega) hn, pay2 _ _ _ _ (by omega) hn, show min n (2 - 1) = 1 by omega]
    simp only [Int.zero_mul, Int.one_mul, Int.mul_one]
    split <;> split <;> omega
  have h2 := sd_of1 (b m (Int.le_refl _))
  rw [key m a] at h2
  have h3 : s ≤ m := by
    by_cases h : s ≤ m
    · exact h
    · rw [if_neg h] at h2; omega
  rw [if_pos h3] at h2
  have h4 := c.resolve_left (by omega)
  rw [key (m - 1) (by omega)] at h4
  have h5 : ¬ 0 < (if s ≤ m - 1 then m - 1 - s + 1 else 0) - f := fun h => h4 (sd_p h)
  split at h5 <;> omega
theorem chk4 : wd (sideM [(1, 2), (2, 1)] [(1, 1), (2, 2)]) = "second" ∧ ∀ m, Best [(1, 2), (2, 1)] [(1, 1), (2, 2)] m → m = 3 := by
  have hs : sideM [(1, 2), (2, 1)] [(1, 1), (2, 2)] = -1 := by decide
  rw [hs]
  refine ⟨rfl, fun m ⟨a, b, c⟩ => ?_⟩
  rw [hs] at b c
  have key : ∀ n, 1 ≤ n → LL [(1, 2), (2, 1)] [(1, 1), (2, 2)] n = 2 - n := by
    intro n hn
    unfold LL
    rw [pay2 _ _ _ _ (by omega) hn, pay2 _ _ _ _ (by omega) hn, show min n (2 - 1) = 1 by omega]
    split <;> omega
  have h2 := sd_ofm (b m (Int.le_refl _))
  rw [key m a] at h2
  have h4 := c.resolve_left (by omega)
  rw [key (m - 1) (by omega)] at h4
  have h5 : ¬ (2 - (m - 1)) < 0 := fun h => h4 (sd_n h)
  omega
theorem chk5 : wd (sideM [(1, 2), (2, 1), (3, 7)] [(1, 1), (2, 2), (3, 7)]) = "even" ∧ ∀ m, Best [(1, 2), (2, 1), (3, 7)] [(1, 1), (2, 2), (3, 7)] m → m = 2 := by
  have hs : sideM [(1, 2), (2, 1), (3, 7)] [(1, 1), (2, 2), (3, 7)] = 0 := by decide
  rw [hs]
  refine ⟨rfl, fun m ⟨a, b, c⟩ => ?_⟩
  rw [hs] at b c
  have key : ∀ n, 2 ≤ n → LL [(1, 2), (2, 1), (3, 7)] [(1, 1), (2, 2), (3, 7)] n = 0 := by
    intro n hn
    unfold LL
    simp only [payM]
    rw [show min n (2 - 1) = 1 by omega]
    split <;> split <;> split <;> omega
  by_cases e : m = 1
  · subst e
    have := b 1 (Int.le_refl _)
    exact absurd this (by decide)
  · by_cases e2 : m = 2
    · exact e2
    · have h4 := c.resolve_left e
      rw [key (m - 1) (by omega)] at h4
      exact absurd rfl h4
theorem w_law : ∀ x, m_law F__law_tariff F__law_asks F__law_second F_draw F_better_from ⟨.un :: .fd :: List.replicate (N_law.length - 2) .un, x⟩ { nx := fun _ => False, rt := fun v _ => v = .im (.bool true) } := by
  intro x
  unfold m_law
  refine seq_step fun K hK => ?_; simp only [↓sNext, ↓sBreak, ↓sCont, ↓sDrop, ↓sRet, ↓sRetV, ↓sRetN, ↓sIfS, ↓sAsg, ↓sFor, ↓sVar, ↓sRV, ↓sRE, ↓sC, ↓aNil, ↓aCons, ↓ar, ↓dNil, ↓dCons, ↓fz, ↓sLst, ↓sTup, ↓s1, ↓s2, ↓s3, ↓s4, ↓rs, ↓sT, ↓sAnd, ↓sOr, ↓sNot, ↓vB, ↓sAndV, ↓sOrV, ↓sNotV, ↓sIf, ↓sgName, ↓Dv.cellOf, ↓sgNil, ↓sgCons, ↓sgTup, ↓sIt, ↓sRng1, ↓sRng2, ↓sEnum, ↓sZip, ↓sRev, ↓sRevR, ↓sRg1, ↓sRg2, ↓sI, ↓sLstR, ↓sCall, ↓sMeth, ↓sSetIx, ↓sAugIx, ↓sAug, ↓sSl, ↓pNo, ↓pSome, ↓sLc, ↓sYes, ↓sStep, ↓sIxG, ↓oAdd, ↓oI, ↓oI0, ↓oSub, ↓oMul, ↓oFdiv, ↓oMod, ↓oPow, ↓oShl, ↓oShr, ↓oNeg, ↓oEq, ↓oNe, ↓oLtI, ↓oLeI, ↓oGtI, ↓oGeI, ↓oIs, ↓oIn, ↓oIx, ↓oSl, ↓oLen, ↓oAbs, ↓oInt, ↓oMax2, ↓oMin2, ↓oList, ↓oTuple, ↓oIsi, ↓oAddI, ↓mAppend, ↓mExtend, ↓mPop, ↓mPopAt, ↓mInsert, ↓ng, ↓isNone, ↓noFd, ↓cells0, ↓arCell, List.map_cons, List.map_nil, List.length_cons, List.length_nil, List.cons_append, List.nil_append, List.replicate, Nat.reduceAdd, Nat.reduceSub, Nat.zero_add, List.getElem?_cons_zero, List.getElem?_cons_succ, List.set_cons_zero, List.set_cons_succ, if_true, if_false, ↓reduceIte, Bool.false_eq_true, true_and, and_true, not_true_eq_false, not_false_eq_true, decide_eq_true_eq, Bool.not_true, Bool.not_false, Bool.not_not, Bool.not_eq_true', decide_eq_false_iff_not, List.length_map, atI0, atI1, atI2, Nat.reduceLeDiff, Int.reduceEq, Int.reduceLT, Int.reduceLE, Int.reduceAdd, Int.reduceSub, Int.cast_ofNat_Int, isi_tuple, isi_list, isi_int, isi_bool, isi_str, isi_none, reduceCtorEq, Bool.true_eq_false, Nat.min_self]
  refine ⟨by decide, by decide, ?_⟩
  refine wLoop_rng (fun i ρ => ∃ (a b : Cell), ρ = ⟨[.un, .fd, a, b, .un, .un], x⟩) ⟨_, _, rfl⟩ ?_ ?_
  · rintro ρ ⟨a, b, rfl⟩
    refine hK _ ?_; clear hK; clear K
    refine seq_step fun K hK => ?_; simp only [↓sNext, ↓sBreak, ↓sCont, ↓sDrop, ↓sRet, ↓sRetV, ↓sRetN, ↓sIfS, ↓sAsg, ↓sFor, ↓sVar, ↓sRV, ↓sRE, ↓sC, ↓aNil, ↓aCons, ↓ar, ↓dNil, ↓dCons, ↓fz, ↓sLst, ↓sTup, ↓s1, ↓s2, ↓s3, ↓s4, ↓rs, ↓sT, ↓sAnd, ↓sOr, ↓sNot, ↓vB, ↓sAndV, ↓sOrV, ↓sNotV, ↓sIf, ↓sgName, ↓Dv.cellOf, ↓sgNil, ↓sgCons, ↓sgTup, ↓sIt, ↓sRng1, ↓sRng2, ↓sEnum, ↓sZip, ↓sRev, ↓sRevR, ↓sRg1, ↓sRg2, ↓sI, ↓sLstR, ↓sCall, ↓sMeth, ↓sSetIx, ↓sAugIx, ↓sAug, ↓sSl, ↓pNo, ↓pSome, ↓sLc, ↓sYes, ↓sStep, ↓sIxG, ↓oAdd, ↓oI, ↓oI0, ↓oSub, ↓oMul, ↓oFdiv, ↓oMod, ↓oPow, ↓oShl, ↓oShr, ↓oNeg, ↓oEq, ↓oNe, ↓oLtI, ↓oLeI, ↓oGtI, ↓oGeI, ↓oIs, ↓oIn, ↓oIx, ↓oSl, ↓oLen, ↓oAbs, ↓oInt, ↓oMax2, ↓oMin2, ↓oList, ↓oTuple, ↓oIsi, ↓oAddI, ↓mAppend, ↓mExtend, ↓mPop, ↓mPopAt, ↓mInsert, ↓ng, ↓isNone, ↓noFd, ↓cells0, ↓arCell, List.map_cons, List.map_nil, List.length_cons, List.length_nil, List.cons_append, List.nil_append, List.replicate, Nat.reduceAdd, Nat.reduceSub, Nat.zero_add, List.getElem?_cons_zero, List.getElem?_cons_succ, List.set_cons_zero, List.set_cons_succ, if_true, if_false, ↓reduceIte, Bool.false_eq_true, true_and, and_true, not_true_eq_false, not_false_eq_true, decide_eq_true_eq, Bool.not_true, Bool.not_false, Bool.not_not, Bool.not_eq_true', decide_eq_false_iff_not, List.length_map, atI0, atI1, atI2, Nat.reduceLeDiff, Int.reduceEq, Int.reduceLT, Int.reduceLE, Int.reduceAdd, Int.reduceSub, Int.cast_ofNat_Int, isi_tuple, isi_list, isi_int, isi_bool, isi_str, isi_none, reduceCtorEq, Bool.true_eq_false, Nat.min_self, F__law_draw_ap]
    refine fun r r0 r1 => ?_
    refine hK _ ?_; clear hK; clear K
    refine seq_step fun K hK => ?_; simp only [↓sNext, ↓sBreak, ↓sCont, ↓sDrop, ↓sRet, ↓sRetV, ↓sRetN, ↓sIfS, ↓sAsg, ↓sFor, ↓sVar, ↓sRV, ↓sRE, ↓sC, ↓aNil, ↓aCons, ↓ar, ↓dNil, ↓dCons, ↓fz, ↓sLst, ↓sTup, ↓s1, ↓s2, ↓s3, ↓s4, ↓rs, ↓sT, ↓sAnd, ↓sOr, ↓sNot, ↓vB, ↓sAndV, ↓sOrV, ↓sNotV, ↓sIf, ↓sgName, ↓Dv.cellOf, ↓sgNil, ↓sgCons, ↓sgTup, ↓sIt, ↓sRng1, ↓sRng2, ↓sEnum, ↓sZip, ↓sRev, ↓sRevR, ↓sRg1, ↓sRg2, ↓sI, ↓sLstR, ↓sCall, ↓sMeth, ↓sSetIx, ↓sAugIx, ↓sAug, ↓sSl, ↓pNo, ↓pSome, ↓sLc, ↓sYes, ↓sStep, ↓sIxG, ↓oAdd, ↓oI, ↓oI0, ↓oSub, ↓oMul, ↓oFdiv, ↓oMod, ↓oPow, ↓oShl, ↓oShr, ↓oNeg, ↓oEq, ↓oNe, ↓oLtI, ↓oLeI, ↓oGtI, ↓oGeI, ↓oIs, ↓oIn, ↓oIx, ↓oSl, ↓oLen, ↓oAbs, ↓oInt, ↓oMax2, ↓oMin2, ↓oList, ↓oTuple, ↓oIsi, ↓oAddI, ↓mAppend, ↓mExtend, ↓mPop, ↓mPopAt, ↓mInsert, ↓ng, ↓isNone, ↓noFd, ↓cells0, ↓arCell, List.map_cons, List.map_nil, List.length_cons, List.length_nil, List.cons_append, List.nil_append, List.replicate, Nat.reduceAdd, Nat.reduceSub, Nat.zero_add, List.getElem?_cons_zero, List.getElem?_cons_succ, List.set_cons_zero, List.set_cons_succ, if_true, if_false, ↓reduceIte, Bool.false_eq_true, true_and, and_true, not_true_eq_false, not_false_eq_true, decide_eq_true_eq, Bool.not_true, Bool.not_false, Bool.not_not, Bool.not_eq_true', decide_eq_false_iff_not, List.length_map, atI0, atI1, atI2, Nat.reduceLeDiff, Int.reduceEq, Int.reduceLT, Int.reduceLE, Int.reduceAdd, Int.reduceSub, Int.cast_ofNat_Int, isi_tuple, isi_list, isi_int, isi_bool, isi_str, isi_none, reduceCtorEq, Bool.true_eq_false, Nat.min_self]
    have f1 : 1 ≤ 1 + r ∧ 1 + r ≤ 998 := by omega
    generalize 1 + r = flat at f1 ⊢
    have ok1 : ∀ c : Int, 0 ≤ c → c ≤ 1000 → Ok [(1, c)] := fun c c1 c2 => ⟨c, [], rfl, ⟨by decide, by decide, c1, c2, trivial⟩, by simp⟩
    have ok2 : ∀ c s d : Int, 0 ≤ c → c ≤ 1000 → 1 < s → s ≤ 999 → 0 ≤ d → d ≤ 1000 → Ok [(1, c), (s, d)] := fun c s d c1 c2 s1 s2 d1 d2 => ⟨c, _, rfl, ⟨by decide, by decide, c1, c2, s1, s2, d1, d2, trivial⟩, by simp⟩
    refine F_better_from_eq (t := [(1, flat)]) (o := [(1, flat + 1)]) (n := 1) (w := "second") (ok1 _ (by omega) (by omega)) (ok1 _ (by omega) (by omega)) rfl rfl (chk1 flat).1 (chk1 flat).2 ?_
    simp only [↓sSeq, ↓sNext, ↓sBreak, ↓sCont, ↓sDrop, ↓sRet, ↓sRetV, ↓sRetN, ↓sIfS, ↓sAsg, ↓sFor, ↓sVar, ↓sRV, ↓sRE, ↓sC, ↓aNil, ↓aCons, ↓ar, ↓dNil, ↓dCons, ↓fz, ↓sLst, ↓sTup, ↓s1, ↓s2, ↓s3, ↓s4, ↓rs, ↓sT, ↓sAnd, ↓sOr, ↓sNot, ↓vB, ↓sAndV, ↓sOrV, ↓sNotV, ↓sIf, ↓sgName, ↓Dv.cellOf, ↓sgNil, ↓sgCons, ↓sgTup, ↓sIt, ↓sRng1, ↓sRng2, ↓sEnum, ↓sZip, ↓sRev, ↓sRevR, ↓sRg1, ↓sRg2, ↓sI, ↓sLstR, ↓sCall, ↓sMeth, ↓sSetIx, ↓sAugIx, ↓sAug, ↓sSl, ↓pNo, ↓pSome, ↓sLc, ↓sYes, ↓sStep, ↓sIxG, ↓oAdd, ↓oI, ↓oI0, ↓oSub, ↓oMul, ↓oFdiv, ↓oMod, ↓oPow, ↓oShl, ↓oShr, ↓oNeg, ↓oEq, ↓oNe, ↓oLtI, ↓oLeI, ↓oGtI, ↓oGeI, ↓oIs, ↓oIn, ↓oIx, ↓oSl, ↓oLen, ↓oAbs, ↓oInt, ↓oMax2, ↓oMin2, ↓oList, ↓oTuple, ↓oIsi, ↓oAddI, ↓mAppend, ↓mExtend, ↓mPop, ↓mPopAt, ↓mInsert, ↓ng, ↓isNone, ↓noFd, ↓cells0, ↓arCell, List.map_cons, List.map_nil, List.length_cons, List.length_nil, List.cons_append, List.nil_append, List.replicate, Nat.reduceAdd, Nat.reduceSub, Nat.zero_add, List.getElem?_cons_zero, List.getElem?_cons_succ, List.set_cons_zero, List.set_cons_succ, if_true, if_false, ↓reduceIte, Bool.false_eq_true, true_and, and_true, not_true_eq_false, not_false_eq_true, decide_eq_true_eq, Bool.not_true, Bool.not_false, Bool.not_not, Bool.not_eq_true', decide_eq_false_iff_not, List.length_map, atI0, atI1, atI2, Nat.reduceLeDiff, Int.reduceEq, Int.reduceLT, Int.reduceLE, Int.reduceAdd, Int.reduceSub, Int.cast_ofNat_Int, isi_tuple, isi_list, isi_int, isi_bool, isi_str, isi_none, reduceCtorEq, Bool.true_eq_false, Nat.min_self, dep_told, eqv_told]
    refine F_better_from_eq (t := [(1, flat)]) (o := [(1, flat)]) (n := 1) (w := "even") (ok1 _ (by omega) (by omega)) (ok1 _ (by omega) (by omega)) rfl rfl (chk2 flat).1 (chk2 flat).2 ?_
    simp only [↓sSeq, ↓sNext, ↓sBreak, ↓sCont, ↓sDrop, ↓sRet, ↓sRetV, ↓sRetN, ↓sIfS, ↓sAsg, ↓sFor, ↓sVar, ↓sRV, ↓sRE, ↓sC, ↓aNil, ↓aCons, ↓ar, ↓dNil, ↓dCons, ↓fz, ↓sLst, ↓sTup, ↓s1, ↓s2, ↓s3, ↓s4, ↓rs, ↓sT, ↓sAnd, ↓sOr, ↓sNot, ↓vB, ↓sAndV, ↓sOrV, ↓sNotV, ↓sIf, ↓sgName, ↓Dv.cellOf, ↓sgNil, ↓sgCons, ↓sgTup, ↓sIt, ↓sRng1, ↓sRng2, ↓sEnum, ↓sZip, ↓sRev, ↓sRevR, ↓sRg1, ↓sRg2, ↓sI, ↓sLstR, ↓sCall, ↓sMeth, ↓sSetIx, ↓sAugIx, ↓sAug, ↓sSl, ↓pNo, ↓pSome, ↓sLc, ↓sYes, ↓sStep, ↓sIxG, ↓oAdd, ↓oI, ↓oI0, ↓oSub, ↓oMul, ↓oFdiv, ↓oMod, ↓oPow, ↓oShl, ↓oShr, ↓oNeg, ↓oEq, ↓oNe, ↓oLtI, ↓oLeI, ↓oGtI, ↓oGeI, ↓oIs, ↓oIn, ↓oIx, ↓oSl, ↓oLen, ↓oAbs, ↓oInt, ↓oMax2, ↓oMin2, ↓oList, ↓oTuple, ↓oIsi, ↓oAddI, ↓mAppend, ↓mExtend, ↓mPop, ↓mPopAt, ↓mInsert, ↓ng, ↓isNone, ↓noFd, ↓cells0, ↓arCell, List.map_cons, List.map_nil, List.length_cons, List.length_nil, List.cons_append, List.nil_append, List.replicate, Nat.reduceAdd, Nat.reduceSub, Nat.zero_add, List.getElem?_cons_zero, List.getElem?_cons_succ, List.set_cons_zero, List.set_cons_succ, if_true, if_false, ↓reduceIte, Bool.false_eq_true, true_and, and_true, not_true_eq_false, not_false_eq_true, decide_eq_true_eq, Bool.not_true, Bool.not_false, Bool.not_not, Bool.not_eq_true', decide_eq_false_iff_not, List.length_map, atI0, atI1, atI2, Nat.reduceLeDiff, Int.reduceEq, Int.reduceLT, Int.reduceLE, Int.reduceAdd, Int.reduceSub, Int.cast_ofNat_Int, isi_tuple, isi_list, isi_int, isi_bool, isi_str, isi_none, reduceCtorEq, Bool.true_eq_false, Nat.min_self, dep_told, eqv_told]
    refine hK _ ?_; clear hK; clear K
    refine seq_step fun K hK => ?_; simp only [↓sNext, ↓sBreak, ↓sCont, ↓sDrop, ↓sRet, ↓sRetV, ↓sRetN, ↓sIfS, ↓sAsg, ↓sFor, ↓sVar, ↓sRV, ↓sRE, ↓sC, ↓aNil, ↓aCons, ↓ar, ↓dNil, ↓dCons, ↓fz, ↓sLst, ↓sTup, ↓s1, ↓s2, ↓s3, ↓s4, ↓rs, ↓sT, ↓sAnd, ↓sOr, ↓sNot, ↓vB, ↓sAndV, ↓sOrV, ↓sNotV, ↓sIf, ↓sgName, ↓Dv.cellOf, ↓sgNil, ↓sgCons, ↓sgTup, ↓sIt, ↓sRng1, ↓sRng2, ↓sEnum, ↓sZip, ↓sRev, ↓sRevR, ↓sRg1, ↓sRg2, ↓sI, ↓sLstR, ↓sCall, ↓sMeth, ↓sSetIx, ↓sAugIx, ↓sAug, ↓sSl, ↓pNo, ↓pSome, ↓sLc, ↓sYes, ↓sStep, ↓sIxG, ↓oAdd, ↓oI, ↓oI0, ↓oSub, ↓oMul, ↓oFdiv, ↓oMod, ↓oPow, ↓oShl, ↓oShr, ↓oNeg, ↓oEq, ↓oNe, ↓oLtI, ↓oLeI, ↓oGtI, ↓oGeI, ↓oIs, ↓oIn, ↓oIx, ↓oSl, ↓oLen, ↓oAbs, ↓oInt, ↓oMax2, ↓oMin2, ↓oList, ↓oTuple, ↓oIsi, ↓oAddI, ↓mAppend, ↓mExtend, ↓mPop, ↓mPopAt, ↓mInsert, ↓ng, ↓isNone, ↓noFd, ↓cells0, ↓arCell, List.map_cons, List.map_nil, List.length_cons, List.length_nil, List.cons_append, List.nil_append, List.replicate, Nat.reduceAdd, Nat.reduceSub, Nat.zero_add, List.getElem?_cons_zero, List.getElem?_cons_succ, List.set_cons_zero, List.set_cons_succ, if_true, if_false, ↓reduceIte, Bool.false_eq_true, true_and, and_true, not_true_eq_false, not_false_eq_true, decide_eq_true_eq, Bool.not_true, Bool.not_false, Bool.not_not, Bool.not_eq_true', decide_eq_false_iff_not, List.length_map, atI0, atI1, atI2, Nat.reduceLeDiff, Int.reduceEq, Int.reduceLT, Int.reduceLE, Int.reduceAdd, Int.reduceSub, Int.cast_ofNat_Int, isi_tuple, isi_list, isi_int, isi_bool, isi_str, isi_none, reduceCtorEq, Bool.true_eq_false, Nat.min_self, F__law_draw_ap]
    refine fun s s0 s1 => ?_
    refine hK _ ?_; clear hK; clear K
    have f2 : 2 ≤ 2 + s ∧ 2 + s ≤ 999 := by omega
    generalize 2 + s = start at f2 ⊢
    refine seq_step fun K hK => ?_; simp only [↓sNext, ↓sBreak, ↓sCont, ↓sDrop, ↓sRet, ↓sRetV, ↓sRetN, ↓sIfS, ↓sAsg, ↓sFor, ↓sVar, ↓sRV, ↓sRE, ↓sC, ↓aNil, ↓aCons, ↓ar, ↓dNil, ↓dCons, ↓fz, ↓sLst, ↓sTup, ↓s1, ↓s2, ↓s3, ↓s4, ↓rs, ↓sT, ↓sAnd, ↓sOr, ↓sNot, ↓vB, ↓sAndV, ↓sOrV, ↓sNotV, ↓sIf, ↓sgName, ↓Dv.cellOf, ↓sgNil, ↓sgCons, ↓sgTup, ↓sIt, ↓sRng1, ↓sRng2, ↓sEnum, ↓sZip, ↓sRev, ↓sRevR, ↓sRg1, ↓sRg2, ↓sI, ↓sLstR, ↓sCall, ↓sMeth, ↓sSetIx, ↓sAugIx, ↓sAug, ↓sSl, ↓pNo, ↓pSome, ↓sLc, ↓sYes, ↓sStep, ↓sIxG, ↓oAdd, ↓oI, ↓oI0, ↓oSub, ↓oMul, ↓oFdiv, ↓oMod, ↓oPow, ↓oShl, ↓oShr, ↓oNeg, ↓oEq, ↓oNe, ↓oLtI, ↓oLeI, ↓oGtI, ↓oGeI, ↓oIs, ↓oIn, ↓oIx, ↓oSl, ↓oLen, ↓oAbs, ↓oInt, ↓oMax2, ↓oMin2, ↓oList, ↓oTuple, ↓oIsi, ↓oAddI, ↓mAppend, ↓mExtend, ↓mPop, ↓mPopAt, ↓mInsert, ↓ng, ↓isNone, ↓noFd, ↓cells0, ↓arCell, List.map_cons, List.map_nil, List.length_cons, List.length_nil, List.cons_append, List.nil_append, List.replicate, Nat.reduceAdd, Nat.reduceSub, Nat.zero_add, List.getElem?_cons_zero, List.getElem?_cons_succ, List.set_cons_zero, List.set_cons_succ, if_true, if_false, ↓reduceIte, Bool.false_eq_true, true_and, and_true, not_true_eq_false, not_false_eq_true, decide_eq_true_eq, Bool.not_true, Bool.not_false, Bool.not_not, Bool.not_eq_true', decide_eq_false_iff_not, List.length_map, atI0, atI1, atI2, Nat.reduceLeDiff, Int.reduceEq, Int.reduceLT, Int.reduceLE, Int.reduceAdd, Int.reduceSub, Int.cast_ofNat_Int, isi_tuple, isi_list, isi_int, isi_bool, isi_str, isi_none, reduceCtorEq, Bool.true_eq_false, Nat.min_self]
    refine F_better_from_eq (t := [(1, 0), (start, 1)]) (o := [(1, flat), (2, 0)]) (n := start + flat) (w := "first") (ok2 _ _ _ (by omega) (by omega) (by omega) (by omega) (by omega) (by omega)) (ok2 _ _ _ (by omega) (by omega) (by omega) (by omega) (by omega) (by omega)) rfl rfl (chk3 flat start f1.1 f2.1).1 (chk3 flat start f1.1 f2.1).2 ?_
    simp only [↓sSeq, ↓sNext, ↓sBreak, ↓sCont, ↓sDrop, ↓sRet, ↓sRetV, ↓sRetN, ↓sIfS, ↓sAsg, ↓sFor, ↓sVar, ↓sRV, ↓sRE, ↓sC, ↓aNil, ↓aCons, ↓ar, ↓dNil, ↓dCons, ↓fz, ↓sLst, ↓sTup, ↓s1, ↓s2, ↓s3, ↓s4, ↓rs, ↓sT, ↓sAnd, ↓sOr, ↓sNot, ↓vB, ↓sAndV, ↓sOrV, ↓sNotV, ↓sIf, ↓sgName, ↓Dv.cellOf, ↓sgNil, ↓sgCons, ↓sgTup, ↓sIt, ↓sRng1, ↓sRng2, ↓sEnum, ↓sZip, ↓sRev, ↓sRevR, ↓sRg1, ↓sRg2, ↓sI, ↓sLstR, ↓sCall, ↓sMeth, ↓sSetIx, ↓sAugIx, ↓sAug, ↓sSl, ↓pNo, ↓pSome, ↓sLc, ↓sYes, ↓sStep, ↓sIxG, ↓oAdd, ↓oI, ↓oI0, ↓oSub, ↓oMul, ↓oFdiv, ↓oMod, ↓oPow, ↓oShl, ↓oShr, ↓oNeg, ↓oEq, ↓oNe, ↓oLtI, ↓oLeI, ↓oGtI, ↓oGeI, ↓oIs, ↓oIn, ↓oIx, ↓oSl, ↓oLen, ↓oAbs, ↓oInt, ↓oMax2, ↓oMin2, ↓oList, ↓oTuple, ↓oIsi, ↓oAddI, ↓mAppend, ↓mExtend, ↓mPop, ↓mPopAt, ↓mInsert, ↓ng, ↓isNone, ↓noFd, ↓cells0, ↓arCell, List.map_cons, List.map_nil, List.length_cons, List.length_nil, List.cons_append, List.nil_append, List.replicate, Nat.reduceAdd, Nat.reduceSub, Nat.zero_add, List.getElem?_cons_zero, List.getElem?_cons_succ, List.set_cons_zero, List.set_cons_succ, if_true, if_false, ↓reduceIte, Bool.false_eq_true, true_and, and_true, not_true_eq_false, not_false_eq_true, decide_eq_true_eq, Bool.not_true, Bool.not_false, Bool.not_not, Bool.not_eq_true', decide_eq_false_iff_not, List.length_map, atI0, atI1, atI2, Nat.reduceLeDiff, Int.reduceEq, Int.reduceLT, Int.reduceLE, Int.reduceAdd, Int.reduceSub, Int.cast_ofNat_Int, isi_tuple, isi_list, isi_int, isi_bool, isi_str, isi_none, reduceCtorEq, Bool.true_eq_false, Nat.min_self, dep_told, eqv_told]
    refine hK _ ?_; clear hK; clear K
    refine seq_step fun K hK => ?_; simp only [↓sNext, ↓sBreak, ↓sCont, ↓sDrop, ↓sRet, ↓sRetV, ↓sRetN, ↓sIfS, ↓sAsg, ↓sFor, ↓sVar, ↓sRV, ↓sRE, ↓sC, ↓aNil, ↓aCons, ↓ar, ↓dNil, ↓dCons, ↓fz, ↓sLst, ↓sTup, ↓s1, ↓s2, ↓s3, ↓s4, ↓rs, ↓sT, ↓sAnd, ↓sOr, ↓sNot, ↓vB, ↓sAndV, ↓sOrV, ↓sNotV, ↓sIf, ↓sgName, ↓Dv.cellOf, ↓sgNil, ↓sgCons, ↓sgTup, ↓sIt, ↓sRng1, ↓sRng2, ↓sEnum, ↓sZip, ↓sRev, ↓sRevR, ↓sRg1, ↓sRg2, ↓sI, ↓sLstR, ↓sCall, ↓sMeth, ↓sSetIx, ↓sAugIx, ↓sAug, ↓sSl, ↓pNo, ↓pSome, ↓sLc, ↓sYes, ↓sStep, ↓sIxG, ↓oAdd, ↓oI, ↓oI0, ↓oSub, ↓oMul, ↓oFdiv, ↓oMod, ↓oPow, ↓oShl, ↓oShr, ↓oNeg, ↓oEq, ↓oNe, ↓oLtI, ↓oLeI, ↓oGtI, ↓oGeI, ↓oIs, ↓oIn, ↓oIx, ↓oSl, ↓oLen, ↓oAbs, ↓oInt, ↓oMax2, ↓oMin2, ↓oList, ↓oTuple, ↓oIsi, ↓oAddI, ↓mAppend, ↓mExtend, ↓mPop, ↓mPopAt, ↓mInsert, ↓ng, ↓isNone, ↓noFd, ↓cells0, ↓arCell, List.map_cons, List.map_nil, List.length_cons, List.length_nil, List.cons_append, List.nil_append, List.replicate, Nat.reduceAdd, Nat.reduceSub, Nat.zero_add, List.getElem?_cons_zero, List.getElem?_cons_succ, List.set_cons_zero, List.set_cons_succ, if_true, if_false, ↓reduceIte, Bool.false_eq_true, true_and, and_true, not_true_eq_false, not_false_eq_true, decide_eq_true_eq, Bool.not_true, Bool.not_false, Bool.not_not, Bool.not_eq_true', decide_eq_false_iff_not, List.length_map, atI0, atI1, atI2, Nat.reduceLeDiff, Int.reduceEq, Int.reduceLT, Int.reduceLE, Int.reduceAdd, Int.reduceSub, Int.cast_ofNat_Int, isi_tuple, isi_list, isi_int, isi_bool, isi_str, isi_none, reduceCtorEq, Bool.true_eq_false, Nat.min_self]
    refine F_better_from_eq (t := [(1, 2), (2, 1)]) (o := [(1, 1), (2, 2)]) (n := 3) (w := "second") (ok2 _ _ _ (by omega) (by omega) (by omega) (by omega) (by omega) (by omega)) (ok2 _ _ _ (by omega) (by omega) (by omega) (by omega) (by omega) (by omega)) rfl rfl chk4.1 chk4.2 ?_
    simp only [↓sSeq, ↓sNext, ↓sBreak, ↓sCont, ↓sDrop, ↓sRet, ↓sRetV, ↓sRetN, ↓sIfS, ↓sAsg, ↓sFor, ↓sVar, ↓sRV, ↓sRE, ↓sC, ↓aNil, ↓aCons, ↓ar, ↓dNil, ↓dCons, ↓fz, ↓sLst, ↓sTup, ↓s1, ↓s2, ↓s3, ↓s4, ↓rs, ↓sT, ↓sAnd, ↓sOr, ↓sNot, ↓vB, ↓sAndV, ↓sOrV, ↓sNotV, ↓sIf, ↓sgName, ↓Dv.cellOf, ↓sgNil, ↓sgCons, ↓sgTup, ↓sIt, ↓sRng1, ↓sRng2, ↓sEnum, ↓sZip, ↓sRev, ↓sRevR, ↓sRg1, ↓sRg2, ↓sI, ↓sLstR, ↓sCall, ↓sMeth, ↓sSetIx, ↓sAugIx, ↓sAug, ↓sSl, ↓pNo, ↓pSome, ↓sLc, ↓sYes, ↓sStep, ↓sIxG, ↓oAdd, ↓oI, ↓oI0, ↓oSub, ↓oMul, ↓oFdiv, ↓oMod, ↓oPow, ↓oShl, ↓oShr, ↓oNeg, ↓oEq, ↓oNe, ↓oLtI, ↓oLeI, ↓oGtI, ↓oGeI, ↓oIs, ↓oIn, ↓oIx, ↓oSl, ↓oLen, ↓oAbs, ↓oInt, ↓oMax2, ↓oMin2, ↓oList, ↓oTuple, ↓oIsi, ↓oAddI, ↓mAppend, ↓mExtend, ↓mPop, ↓mPopAt, ↓mInsert, ↓ng, ↓isNone, ↓noFd, ↓cells0, ↓arCell, List.map_cons, List.map_nil, List.length_cons, List.length_nil, List.cons_append, List.nil_append, List.replicate, Nat.reduceAdd, Nat.reduceSub, Nat.zero_add, List.getElem?_cons_zero, List.getElem?_cons_succ, List.set_cons_zero, List.set_cons_succ, if_true, if_false, ↓reduceIte, Bool.false_eq_true, true_and, and_true, not_true_eq_false, not_false_eq_true, decide_eq_true_eq, Bool.not_true, Bool.not_false, Bool.not_not, Bool.not_eq_true', decide_eq_false_iff_not, List.length_map, atI0, atI1, atI2, Nat.reduceLeDiff, Int.reduceEq, Int.reduceLT, Int.reduceLE, Int.reduceAdd, Int.reduceSub, Int.cast_ofNat_Int, isi_tuple, isi_list, isi_int, isi_bool, isi_str, isi_none, reduceCtorEq, Bool.true_eq_false, Nat.min_self, dep_told, eqv_told]
    refine hK _ ?_; clear hK; clear K
    simp only [↓sSeq, ↓sNext, ↓sBreak, ↓sCont, ↓sDrop, ↓sRet, ↓sRetV, ↓sRetN, ↓sIfS, ↓sAsg, ↓sFor, ↓sVar, ↓sRV, ↓sRE, ↓sC, ↓aNil, ↓aCons, ↓ar, ↓dNil, ↓dCons, ↓fz, ↓sLst, ↓sTup, ↓s1, ↓s2, ↓s3, ↓s4, ↓rs, ↓sT, ↓sAnd, ↓sOr, ↓sNot, ↓vB, ↓sAndV, ↓sOrV, ↓sNotV, ↓sIf, ↓sgName, ↓Dv.cellOf, ↓sgNil, ↓sgCons, ↓sgTup, ↓sIt, ↓sRng1, ↓sRng2, ↓sEnum, ↓sZip, ↓sRev, ↓sRevR, ↓sRg1, ↓sRg2, ↓sI, ↓sLstR, ↓sCall, ↓sMeth, ↓sSetIx, ↓sAugIx, ↓sAug, ↓sSl, ↓pNo, ↓pSome, ↓sLc, ↓sYes, ↓sStep, ↓sIxG, ↓oAdd, ↓oI, ↓oI0, ↓oSub, ↓oMul, ↓oFdiv, ↓oMod, ↓oPow, ↓oShl, ↓oShr, ↓oNeg, ↓oEq, ↓oNe, ↓oLtI, ↓oLeI, ↓oGtI, ↓oGeI, ↓oIs, ↓oIn, ↓oIx, ↓oSl, ↓oLen, ↓oAbs, ↓oInt, ↓oMax2, ↓oMin2, ↓oList, ↓oTuple, ↓oIsi, ↓oAddI, ↓mAppend, ↓mExtend, ↓mPop, ↓mPopAt, ↓mInsert, ↓ng, ↓isNone, ↓noFd, ↓cells0, ↓arCell, List.map_cons, List.map_nil, List.length_cons, List.length_nil, List.cons_append, List.nil_append, List.replicate, Nat.reduceAdd, Nat.reduceSub, Nat.zero_add, List.getElem?_cons_zero, List.getElem?_cons_succ, List.set_cons_zero, List.set_cons_succ, if_true, if_false, ↓reduceIte, Bool.false_eq_true, true_and, and_true, not_true_eq_false, not_false_eq_true, decide_eq_true_eq, Bool.not_true, Bool.not_false, Bool.not_not, Bool.not_eq_true', decide_eq_false_iff_not, List.length_map, atI0, atI1, atI2, Nat.reduceLeDiff, Int.reduceEq, Int.reduceLT, Int.reduceLE, Int.reduceAdd, Int.reduceSub, Int.cast_ofNat_Int, isi_tuple, isi_list, isi_int, isi_bool, isi_str, isi_none, reduceCtorEq, Bool.true_eq_false, Nat.min_self]
    refine F_better_from_eq (t := [(1, 2), (2, 1), (3, 7)]) (o := [(1, 1), (2, 2), (3, 7)]) (n := 2) (w := "even") ⟨2, _, rfl, ⟨by decide, by decide, by decide, by decide, by decide, by decide, by decide, by decide, by decide, by decide, by decide, by decide, trivial⟩, by decide⟩ ⟨1, _, rfl, ⟨by decide, by decide, by decide, by decide, by decide, by decide, by decide, by decide, by decide, by decide, by decide, by decide, trivial⟩, by decide⟩ rfl rfl chk5.1 chk5.2 ?_
    simp only [↓sSeq, ↓sNext, ↓sBreak, ↓sCont, ↓sDrop, ↓sRet, ↓sRetV, ↓sRetN, ↓sIfS, ↓sAsg, ↓sFor, ↓sVar, ↓sRV, ↓sRE, ↓sC, ↓aNil, ↓aCons, ↓ar, ↓dNil, ↓dCons, ↓fz, ↓sLst, ↓sTup, ↓s1, ↓s2, ↓s3, ↓s4, ↓rs, ↓sT, ↓sAnd, ↓sOr, ↓sNot, ↓vB, ↓sAndV, ↓sOrV, ↓sNotV, ↓sIf, ↓sgName, ↓Dv.cellOf, ↓sgNil, ↓sgCons, ↓sgTup, ↓sIt, ↓sRng1, ↓sRng2, ↓sEnum, ↓sZip, ↓sRev, ↓sRevR, ↓sRg1, ↓sRg2, ↓sI, ↓sLstR, ↓sCall, ↓sMeth, ↓sSetIx, ↓sAugIx, ↓sAug, ↓sSl, ↓pNo, ↓pSome, ↓sLc, ↓sYes, ↓sStep, ↓sIxG, ↓oAdd, ↓oI, ↓oI0, ↓oSub, ↓oMul, ↓oFdiv, ↓oMod, ↓oPow, ↓oShl, ↓oShr, ↓oNeg, ↓oEq, ↓oNe, ↓oLtI, ↓oLeI, ↓oGtI, ↓oGeI, ↓oIs, ↓oIn, ↓oIx, ↓oSl, ↓oLen, ↓oAbs, ↓oInt, ↓oMax2, ↓oMin2, ↓oList, ↓oTuple, ↓oIsi, ↓oAddI, ↓mAppend, ↓mExtend, ↓mPop, ↓mPopAt, ↓mInsert, ↓ng, ↓isNone, ↓noFd, ↓cells0, ↓arCell, List.map_cons, List.map_nil, List.length_cons, List.length_nil, List.cons_append, List.nil_append, List.replicate, Nat.reduceAdd, Nat.reduceSub, Nat.zero_add, List.getElem?_cons_zero, List.getElem?_cons_succ, List.set_cons_zero, List.set_cons_succ, if_true, if_false, ↓reduceIte, Bool.false_eq_true, true_and, and_true, not_true_eq_false, not_false_eq_true, decide_eq_true_eq, Bool.not_true, Bool.not_false, Bool.not_not, Bool.not_eq_true', decide_eq_false_iff_not, List.length_map, atI0, atI1, atI2, Nat.reduceLeDiff, Int.reduceEq, Int.reduceLT, Int.reduceLE, Int.reduceAdd, Int.reduceSub, Int.cast_ofNat_Int, isi_tuple, isi_list, isi_int, isi_bool, isi_str, isi_none, reduceCtorEq, Bool.true_eq_false, Nat.min_self, dep_told, eqv_told]
  · rintro i ρ kk hi ⟨a, b, rfl⟩ hk
    unfold b1_law
    refine seq_step fun K hK => ?_; simp only [↓sNext, ↓sBreak, ↓sCont, ↓sDrop, ↓sRet, ↓sRetV, ↓sRetN, ↓sIfS, ↓sAsg, ↓sFor, ↓sVar, ↓sRV, ↓sRE, ↓sC, ↓aNil, ↓aCons, ↓ar, ↓dNil, ↓dCons, ↓fz, ↓sLst, ↓sTup, ↓s1, ↓s2, ↓s3, ↓s4, ↓rs, ↓sT, ↓sAnd, ↓sOr, ↓sNot, ↓vB, ↓sAndV, ↓sOrV, ↓sNotV, ↓sIf, ↓sgName, ↓Dv.cellOf, ↓sgNil, ↓sgCons, ↓sgTup, ↓sIt, ↓sRng1, ↓sRng2, ↓sEnum, ↓sZip, ↓sRev, ↓sRevR, ↓sRg1, ↓sRg2, ↓sI, ↓sLstR, ↓sCall, ↓sMeth, ↓sSetIx, ↓sAugIx, ↓sAug, ↓sSl, ↓pNo, ↓pSome, ↓sLc, ↓sYes, ↓sStep, ↓sIxG, ↓oAdd, ↓oI, ↓oI0, ↓oSub, ↓oMul, ↓oFdiv, ↓oMod, ↓oPow, ↓oShl, ↓oShr, ↓oNeg, ↓oEq, ↓oNe, ↓oLtI, ↓oLeI, ↓oGtI, ↓oGeI, ↓oIs, ↓oIn, ↓oIx, ↓oSl, ↓oLen, ↓oAbs, ↓oInt, ↓oMax2, ↓oMin2, ↓oList, ↓oTuple, ↓oIsi, ↓oAddI, ↓mAppend, ↓mExtend, ↓mPop, ↓mPopAt, ↓mInsert, ↓ng, ↓isNone, ↓noFd, ↓cells0, ↓arCell, List.map_cons, List.map_nil, List.length_cons, List.length_nil, List.cons_append, List.nil_append, List.replicate, Nat.reduceAdd, Nat.reduceSub, Nat.zero_add, List.getElem?_cons_zero, List.getElem?_cons_succ, List.set_cons_zero, List.set_cons_succ, if_true, if_false, ↓reduceIte, Bool.false_eq_true, true_and, and_true, not_true_eq_false, not_false_eq_true, decide_eq_true_eq, Bool.not_true, Bool.not_false, Bool.not_not, Bool.not_eq_true', decide_eq_false_iff_not, List.length_map, atI0, atI1, atI2, Nat.reduceLeDiff, Int.reduceEq, Int.reduceLT, Int.reduceLE, Int.reduceAdd, Int.reduceSub, Int.cast_ofNat_Int, isi_tuple, isi_list, isi_int, isi_bool, isi_str, isi_none, reduceCtorEq, Bool.true_eq_false, Nat.min_self, F__law_tariff_ap]
    intro t o1 hl
    refine hK _ ?_; clear hK; clear K
    simp only [↓sSeq, ↓sNext, ↓sBreak, ↓sCont, ↓sDrop, ↓sRet, ↓sRetV, ↓sRetN, ↓sIfS, ↓sAsg, ↓sFor, ↓sVar, ↓sRV, ↓sRE, ↓sC, ↓aNil, ↓aCons, ↓ar, ↓dNil, ↓dCons, ↓fz, ↓sLst, ↓sTup, ↓s1, ↓s2, ↓s3, ↓s4, ↓rs, ↓sT, ↓sAnd, ↓sOr, ↓sNot, ↓vB, ↓sAndV, ↓sOrV, ↓sNotV, ↓sIf, ↓sgName, ↓Dv.cellOf, ↓sgNil, ↓sgCons, ↓sgTup, ↓sIt, ↓sRng1, ↓sRng2, ↓sEnum, ↓sZip, ↓sRev, ↓sRevR, ↓sRg1, ↓sRg2, ↓sI, ↓sLstR, ↓sCall, ↓sMeth, ↓sSetIx, ↓sAugIx, ↓sAug, ↓sSl, ↓pNo, ↓pSome, ↓sLc, ↓sYes, ↓sStep, ↓sIxG, ↓oAdd, ↓oI, ↓oI0, ↓oSub, ↓oMul, ↓oFdiv, ↓oMod, ↓oPow, ↓oShl, ↓oShr, ↓oNeg, ↓oEq, ↓oNe, ↓oLtI, ↓oLeI, ↓oGtI, ↓oGeI, ↓oIs, ↓oIn, ↓oIx, ↓oSl, ↓oLen, ↓oAbs, ↓oInt, ↓oMax2, ↓oMin2, ↓oList, ↓oTuple, ↓oIsi, ↓oAddI, ↓mAppend, ↓mExtend, ↓mPop, ↓mPopAt, ↓mInsert, ↓ng, ↓isNone, ↓noFd, ↓cells0, ↓arCell, List.map_cons, List.map_nil, List.length_cons, List.length_nil, List.cons_append, List.nil_append, List.replicate, Nat.reduceAdd, Nat.reduceSub, Nat.zero_add, List.getElem?_cons_zero, List.getElem?_cons_succ, List.set_cons_zero, List.set_cons_succ, if_true, if_false, ↓reduceIte, Bool.false_eq_true, true_and, and_true, not_true_eq_false, not_false_eq_true, decide_eq_true_eq, Bool.not_true, Bool.not_false, Bool.not_not, Bool.not_eq_true', decide_eq_false_iff_not, List.length_map, atI0, atI1, atI2, Nat.reduceLeDiff, Int.reduceEq, Int.reduceLT, Int.reduceLE, Int.reduceAdd, Int.reduceSub, Int.cast_ofNat_Int, isi_tuple, isi_list, isi_int, isi_bool, isi_str, isi_none, reduceCtorEq, Bool.true_eq_false, Nat.min_self]
    refine F__law_second_ap o1 hl fun o o2 => ?_
    simp only [↓sSeq, ↓sNext, ↓sBreak, ↓sCont, ↓sDrop, ↓sRet, ↓sRetV, ↓sRetN, ↓sIfS, ↓sAsg, ↓sFor, ↓sVar, ↓sRV, ↓sRE, ↓sC, ↓aNil, ↓aCons, ↓ar, ↓dNil, ↓dCons, ↓fz, ↓sLst, ↓sTup, ↓s1, ↓s2, ↓s3, ↓s4, ↓rs, ↓sT, ↓sAnd, ↓sOr, ↓sNot, ↓vB, ↓sAndV, ↓sOrV, ↓sNotV, ↓sIf, ↓sgName, ↓Dv.cellOf, ↓sgNil, ↓sgCons, ↓sgTup, ↓sIt, ↓sRng1, ↓sRng2, ↓sEnum, ↓sZip, ↓sRev, ↓sRevR, ↓sRg1, ↓sRg2, ↓sI, ↓sLstR, ↓sCall, ↓sMeth, ↓sSetIx, ↓sAugIx, ↓sAug, ↓sSl, ↓pNo, ↓pSome, ↓sLc, ↓sYes, ↓sStep, ↓sIxG, ↓oAdd, ↓oI, ↓oI0, ↓oSub, ↓oMul, ↓oFdiv, ↓oMod, ↓oPow, ↓oShl, ↓oShr, ↓oNeg, ↓oEq, ↓oNe, ↓oLtI, ↓oLeI, ↓oGtI, ↓oGeI, ↓oIs, ↓oIn, ↓oIx, ↓oSl, ↓oLen, ↓oAbs, ↓oInt, ↓oMax2, ↓oMin2, ↓oList, ↓oTuple, ↓oIsi, ↓oAddI, ↓mAppend, ↓mExtend, ↓mPop, ↓mPopAt, ↓mInsert, ↓ng, ↓isNone, ↓noFd, ↓cells0, ↓arCell, List.map_cons, List.map_nil, List.length_cons, List.length_nil, List.cons_append, List.nil_append, List.replicate, Nat.reduceAdd, Nat.reduceSub, Nat.zero_add, List.getElem?_cons_zero, List.getElem?_cons_succ, List.set_cons_zero, List.set_cons_succ, if_true, if_false, ↓reduceIte, Bool.false_eq_true, true_and, and_true, not_true_eq_false, not_false_eq_true, decide_eq_true_eq, Bool.not_true, Bool.not_false, Bool.not_not, Bool.not_eq_true', decide_eq_false_iff_not, List.length_map, atI0, atI1, atI2, Nat.reduceLeDiff, Int.reduceEq, Int.reduceLT, Int.reduceLE, Int.reduceAdd, Int.reduceSub, Int.cast_ofNat_Int, isi_tuple, isi_list, isi_int, isi_bool, isi_str, isi_none, reduceCtorEq, Bool.true_eq_false, Nat.min_self, F__law_asks_ap o1 o2]
    exact hk _ ⟨_, _, rfl⟩
end Lw

namespace Lw
open PySem PySem.Spec L2 Dv
open PyProof.Rows hiding St
abbrev F__law_draw := F_draw
theorem all_mk {l : PySem.W.OpenLaw} {w : World} {K : PySem.W.Frag} {h : Heap} {mg : Str → Option Value} {fa : Addr} (X : K.In h) (G : h.Ns mainGlobals mg) (hfa : mg "law" = some (.ref fa))
    {od_pay an_pay : Option Addr} {sl_pay : Array (Option Value)} {oc_pay kV_pay dc_pay pm_pay cd_pay ct_pay : Value} {f_pay : Addr}
    (a_pay : PySem.W.nsIn K mainGlobals "pay" = some (some (.ref f_pay))) (l_pay : K.lookup f_pay = some ⟨oc_pay, od_pay, .func (PySem.W.fnOf "pay" "pay" (defArgs st_pay) (defBody st_pay) (defScope st_pay) .none kV_pay dc_pay pm_pay an_pay cd_pay ct_pay), sl_pay⟩) (e_pay : PySem.W.codeIn K cd_pay "pay" = true) (k_pay : PySem.W.keepIn K (.ref f_pay) = true)
    {od_side_of an_side_of : Option Addr} {sl_side_of : Array (Option Value)} {oc_side_of kV_side_of dc_side_of pm_side_of cd_side_of ct_side_of : Value} {f_side_of : Addr}
    (a_side_of : PySem.W.nsIn K mainGlobals "side_of" = some (some (.ref f_side_of))) (l_side_of : K.lookup f_side_of = some ⟨oc_side_of, od_side_of, .func (PySem.W.fnOf "side_of" "side_of" (defArgs st_side_of) (defBody st_side_of) (defScope st_side_of) .none kV_side_of dc_side_of pm_side_of an_side_of cd_side_of ct_side_of), sl_side_of⟩) (e_side_of : PySem.W.codeIn K cd_side_of "side_of" = true) (k_side_of : PySem.W.keepIn K (.ref f_side_of) = true)
    {od_lead an_lead : Option Addr} {sl_lead : Array (Option Value)} {oc_lead kV_lead dc_lead pm_lead cd_lead ct_lead : Value} {f_lead : Addr}
    (a_lead : PySem.W.nsIn K mainGlobals "lead" = some (some (.ref f_lead))) (l_lead : K.lookup f_lead = some ⟨oc_lead, od_lead, .func (PySem.W.fnOf "lead" "lead" (defArgs st_lead) (defBody st_lead) (defScope st_lead) .none kV_lead dc_lead pm_lead an_lead cd_lead ct_lead), sl_lead⟩) (e_lead : PySem.W.codeIn K cd_lead "lead" = true) (k_lead : PySem.W.keepIn K (.ref f_lead) = true)
    {od_better_from an_better_from : Option Addr} {sl_better_from : Array (Option Value)} {oc_better_from kV_better_from dc_better_from pm_better_from cd_better_from ct_better_from : Value} {f_better_from : Addr}
    (a_better_from : PySem.W.nsIn K mainGlobals "better_from" = some (some (.ref f_better_from))) (l_better_from : K.lookup f_better_from = some ⟨oc_better_from, od_better_from, .func (PySem.W.fnOf "better_from" "better_from" (defArgs st_better_from) (defBody st_better_from) (defScope st_better_from) .none kV_better_from dc_better_from pm_better_from an_better_from cd_better_from ct_better_from), sl_better_from⟩) (e_better_from : PySem.W.codeIn K cd_better_from "better_from" = true) (k_better_from : PySem.W.keepIn K (.ref f_better_from) = true)
    {od__law_feed an__law_feed : Option Addr} {sl__law_feed : Array (Option Value)} {oc__law_feed kV__law_feed dc__law_feed pm__law_feed cd__law_feed ct__law_feed : Value} {f__law_feed : Addr}
    (a__law_feed : PySem.W.nsIn K mainGlobals "_law_feed" = some (some (.ref f__law_feed))) (l__law_feed : K.lookup f__law_feed = some ⟨oc__law_feed, od__law_feed, .func (PySem.W.fnOf "_law_feed" "_law_feed" (defArgs st__law_feed) (defBody st__law_feed) (defScope st__law_feed) .none kV__law_feed dc__law_feed pm__law_feed an__law_feed cd__law_feed ct__law_feed), sl__law_feed⟩) (e__law_feed : PySem.W.codeIn K cd__law_feed "_law_feed" = true) (k__law_feed : PySem.W.keepIn K (.ref f__law_feed) = true)
    {od__law_draw an__law_draw : Option Addr} {sl__law_draw : Array (Option Value)} {oc__law_draw kV__law_draw dc__law_draw pm__law_draw cd__law_draw ct__law_draw : Value} {f__law_draw : Addr}
    (a__law_draw : PySem.W.nsIn K mainGlobals "_law_draw" = some (some (.ref f__law_draw))) (l__law_draw : K.lookup f__law_draw = some ⟨oc__law_draw, od__law_draw, .func (PySem.W.fnOf "_law_draw" "_law_draw" (defArgs st__law_draw) (defBody st__law_draw) (defScope st__law_draw) .none kV__law_draw dc__law_draw pm__law_draw an__law_draw cd__law_draw ct__law_draw), sl__law_draw⟩) (e__law_draw : PySem.W.codeIn K cd__law_draw "_law_draw" = true) (k__law_draw : PySem.W.keepIn K (.ref f__law_draw) = true)
    {od__law_is_whole an__law_is_whole : Option Addr} {sl__law_is_whole : Array (Option Value)} {oc__law_is_whole kV__law_is_whole dc__law_is_whole pm__law_is_whole cd__law_is_whole ct__law_is_whole : Value} {f__law_is_whole : Addr}
    (a__law_is_whole : PySem.W.nsIn K mainGlobals "_law_is_whole" = some (some (.ref f__law_is_whole))) (l__law_is_whole : K.lookup f__law_is_whole = some ⟨oc__law_is_whole, od__law_is_whole, .func (PySem.W.fnOf "_law_is_whole" "_law_is_whole" (defArgs st__law_is_whole) (defBody st__law_is_whole) (defScope st__law_is_whole) .none kV__law_is_whole dc__law_is_whole pm__law_is_whole an__law_is_whole cd__law_is_whole ct__law_is_whole), sl__law_is_whole⟩) (e__law_is_whole : PySem.W.codeIn K cd__law_is_whole "_law_is_whole" = true) (k__law_is_whole : PySem.W.keepIn K (.ref f__law_is_whole) = true)
    {od__law_tariff an__law_tariff : Option Addr} {sl__law_tariff : Array (Option Value)} {oc__law_tariff kV__law_tariff dc__law_tariff pm__law_tariff cd__law_tariff ct__law_tariff : Value} {f__law_tariff : Addr}
    (a__law_tariff : PySem.W.nsIn K mainGlobals "_law_tariff" = some (some (.ref f__law_tariff))) (l__law_tariff : K.lookup f__law_tariff = some ⟨oc__law_tariff, od__law_tariff, .func (PySem.W.fnOf "_law_tariff" "_law_tariff" (defArgs st__law_tariff) (defBody st__law_tariff) (defScope st__law_tariff) .none kV__law_tariff dc__law_tariff pm__law_tariff an__law_tariff cd__law_tariff ct__law_tariff), sl__law_tariff⟩) (e__law_tariff : PySem.W.codeIn K cd__law_tariff "_law_tariff" = true) (k__law_tariff : PySem.W.keepIn K (.ref f__law_tariff) = true)
    {od__law_second an__law_second : Option Addr} {sl__law_second : Array (Option Value)} {oc__law_second kV__law_second dc__law_second pm__law_second cd__law_second ct__law_second : Value} {f__law_second : Addr}
    (a__law_second : PySem.W.nsIn K mainGlobals "_law_second" = some (some (.ref f__law_second))) (l__law_second : K.lookup f__law_second = some ⟨oc__law_second, od__law_second, .func (PySem.W.fnOf "_law_second" "_law_second" (defArgs st__law_second) (defBody st__law_second) (defScope st__law_second) .none kV__law_second dc__law_second pm__law_second an__law_second cd__law_second ct__law_second), sl__law_second⟩) (e__law_second : PySem.W.codeIn K cd__law_second "_law_second" = true) (k__law_second : PySem.W.keepIn K (.ref f__law_second) = true)
    {od__law_rate an__law_rate : Option Addr} {sl__law_rate : Array (Option Value)} {oc__law_rate kV__law_rate dc__law_rate pm__law_rate cd__law_rate ct__law_rate : Value} {f__law_rate : Addr}
    (a__law_rate : PySem.W.nsIn K mainGlobals "_law_rate" = some (some (.ref f__law_rate))) (l__law_rate : K.lookup f__law_rate = some ⟨oc__law_rate, od__law_rate, .func (PySem.W.fnOf "_law_rate" "_law_rate" (defArgs st__law_rate) (defBody st__law_rate) (defScope st__law_rate) .none kV__law_rate dc__law_rate pm__law_rate an__law_rate cd__law_rate ct__law_rate), sl__law_rate⟩) (e__law_rate : PySem.W.codeIn K cd__law_rate "_law_rate" = true) (k__law_rate : PySem.W.keepIn K (.ref f__law_rate) = true)
    {od__law_side an__law_side : Option Addr} {sl__law_side : Array (Option Value)} {oc__law_side kV__law_side dc__law_side pm__law_side cd__law_side ct__law_side : Value} {f__law_side : Addr}
    (a__law_side : PySem.W.nsIn K mainGlobals "_law_side" = some (some (.ref f__law_side))) (l__law_side : K.lookup f__law_side = some ⟨oc__law_side, od__law_side, .func (PySem.W.fnOf "_law_side" "_law_side" (defArgs st__law_side) (defBody st__law_side) (defScope st__law_side) .none kV__law_side dc__law_side pm__law_side an__law_side cd__law_side ct__law_side), sl__law_side⟩) (e__law_side : PySem.W.codeIn K cd__law_side "_law_side" = true) (k__law_side : PySem.W.keepIn K (.ref f__law_side) = true)
    {od__law_leads an__law_leads : Option Addr} {sl__law_leads : Array (Option Value)} {oc__law_leads kV__law_leads dc__law_leads pm__law_leads cd__law_leads ct__law_leads : Value} {f__law_leads : Addr}
    (a__law_leads : PySem.W.nsIn K mainGlobals "_law_leads" = some (some (.ref f__law_leads))) (l__law_leads : K.lookup f__law_leads = some ⟨oc__law_leads, od__law_leads, .func (PySem.W.fnOf "_law_leads" "_law_leads" (defArgs st__law_leads) (defBody st__law_leads) (defScope st__law_leads) .none kV__law_leads dc__law_leads pm__law_leads an__law_leads cd__law_leads ct__law_leads), sl__law_leads⟩) (e__law_leads : PySem.W.codeIn K cd__law_leads "_law_leads" = true) (k__law_leads : PySem.W.keepIn K (.ref f__law_leads) = true)
    {od__law_in_the_end an__law_in_the_end : Option Addr} {sl__law_in_the_end : Array (Option Value)} {oc__law_in_the_end kV__law_in_the_end dc__law_in_the_end pm__law_in_the_end cd__law_in_the_end ct__law_in_the_end : Value} {f__law_in_the_end : Addr}
    (a__law_in_the_end : PySem.W.nsIn K mainGlobals "_law_in_the_end" = some (some (.ref f__law_in_the_end))) (l__law_in_the_end : K.lookup f__law_in_the_end = some ⟨oc__law_in_the_end, od__law_in_the_end, .func (PySem.W.fnOf "_law_in_the_end" "_law_in_the_end" (defArgs st__law_in_the_end) (defBody st__law_in_the_end) (defScope st__law_in_the_end) .none kV__law_in_the_end dc__law_in_the_end pm__law_in_the_end an__law_in_the_end cd__law_in_the_end ct__law_in_the_end), sl__law_in_the_end⟩) (e__law_in_the_end : PySem.W.codeIn K cd__law_in_the_end "_law_in_the_end" = true) (k__law_in_the_end : PySem.W.keepIn K (.ref f__law_in_the_end) = true)
    {od__law_lead an__law_lead : Option Addr} {sl__law_lead : Array (Option Value)} {oc__law_lead kV__law_lead dc__law_lead pm__law_lead cd__law_lead ct__law_lead : Value} {f__law_lead : Addr}
    (a__law_lead : PySem.W.nsIn K mainGlobals "_law_lead" = some (some (.ref f__law_lead))) (l__law_lead : K.lookup f__law_lead = some ⟨oc__law_lead, od__law_lead, .func (PySem.W.fnOf "_law_lead" "_law_lead" (defArgs st__law_lead) (defBody st__law_lead) (defScope st__law_lead) .none kV__law_lead dc__law_lead pm__law_lead an__law_lead cd__law_lead ct__law_lead), sl__law_lead⟩) (e__law_lead : PySem.W.codeIn K cd__law_lead "_law_lead" = true) (k__law_lead : PySem.W.keepIn K (.ref f__law_lead) = true)
    {od__law_holds an__law_holds : Option Addr} {sl__law_holds : Array (Option Value)} {oc__law_holds kV__law_holds dc__law_holds pm__law_holds cd__law_holds ct__law_holds : Value} {f__law_holds : Addr}
    (a__law_holds : PySem.W.nsIn K mainGlobals "_law_holds" = some (some (.ref f__law_holds))) (l__law_holds : K.lookup f__law_holds = some ⟨oc__law_holds, od__law_holds, .func (PySem.W.fnOf "_law_holds" "_law_holds" (defArgs st__law_holds) (defBody st__law_holds) (defScope st__law_holds) .none kV__law_holds dc__law_holds pm__law_holds an__law_holds cd__law_holds ct__law_holds), sl__law_holds⟩) (e__law_holds : PySem.W.codeIn K cd__law_holds "_law_holds" = true) (k__law_holds : PySem.W.keepIn K (.ref f__law_holds) = true)
    {od__law_asks an__law_asks : Option Addr} {sl__law_asks : Array (Option Value)} {oc__law_asks kV__law_asks dc__law_asks pm__law_asks cd__law_asks ct__law_asks : Value} {f__law_asks : Addr}
    (a__law_asks : PySem.W.nsIn K mainGlobals "_law_asks" = some (some (.ref f__law_asks))) (l__law_asks : K.lookup f__law_asks = some ⟨oc__law_asks, od__law_asks, .func (PySem.W.fnOf "_law_asks" "_law_asks" (defArgs st__law_asks) (defBody st__law_asks) (defScope st__law_asks) .none kV__law_asks dc__law_asks pm__law_asks an__law_asks cd__law_asks ct__law_asks), sl__law_asks⟩) (e__law_asks : PySem.W.codeIn K cd__law_asks "_law_asks" = true) (k__law_asks : PySem.W.keepIn K (.ref f__law_asks) = true)
    {od_law an_law : Option Addr} {sl_law : Array (Option Value)} {oc_law kV_law dc_law pm_law cd_law ct_law : Value} {f_law : Addr}
    (a_law : PySem.W.nsIn K mainGlobals "law" = some (some (.ref f_law))) (l_law : K.lookup f_law = some ⟨oc_law, od_law, .func (PySem.W.fnOf "law" "law" (defArgs st_law) (defBody st_law) (defScope st_law) .none kV_law dc_law pm_law an_law cd_law ct_law), sl_law⟩) (e_law : PySem.W.codeIn K cd_law "law" = true) (k_law : PySem.W.keepIn K (.ref f_law) = true)
    (z_enumerate : PySem.W.nsIn K mainGlobals "enumerate" = some none)
    (z_len : PySem.W.nsIn K mainGlobals "len" = some none)
    (z_min : PySem.W.nsIn K mainGlobals "min" = some none)
    (z_max : PySem.W.nsIn K mainGlobals "max" = some none)
    (z_abs : PySem.W.nsIn K mainGlobals "abs" = some none)
    (z_isinstance : PySem.W.nsIn K mainGlobals "isinstance" = some none)
    (z_int : PySem.W.nsIn K mainGlobals "int" = some none)
    (z_bool : PySem.W.nsIn K mainGlobals "bool" = some none)
    (z_range : PySem.W.nsIn K mainGlobals "range" = some none)
    (z_list : PySem.W.nsIn K mainGlobals "list" = some none)
    (z_tuple : PySem.W.nsIn K mainGlobals "tuple" = some none)
    {t_WORDS : Addr} {es_WORDS : Array DictEntry} {n_WORDS : Nat} (y_WORDS : PySem.W.nsIn K mainGlobals "WORDS" = some (some (.ref t_WORDS))) (x_WORDS : K.lookup t_WORDS = some ⟨.type "dict", none, .dict es_WORDS n_WORDS, #[]⟩) (v_WORDS : IntsLit es_WORDS.toList) (u_WORDS : ∀ k v, List.lookup k ([(1, "first"), ((-1), "second"), (0, "even")] : List (Int × Str)) = some v → ∃ t, findBy Value.isInt es_WORDS k = some (.str v t)) :
    ∃ fd : FuncData, (∀ (s : Shared) (v : Value), BindsTo s fd ⟨[v], []⟩ [("script", v)]) ∧ ∀ base : Heap, K.In base → base.Ns mainGlobals mg → FnOk l.prog w K mg base CX0 5 fa fd ["script"] (spLaw K) := by
  have e := hfa.symm.trans (PySem.W.mg_of X G a_law)
  cases e
  have b_enumerate := PySem.W.mg_none_of X G z_enumerate
  have b_len := PySem.W.mg_none_of X G z_len
  have b_min := PySem.W.mg_none_of X G z_min
  have b_max := PySem.W.mg_none_of X G z_max
  have b_abs := PySem.W.mg_none_of X G z_abs
  have b_isinstance := PySem.W.mg_none_of X G z_isinstance
  have b_int := PySem.W.mg_none_of X G z_int
  have b_bool := PySem.W.mg_none_of X G z_bool
  have b_range := PySem.W.mg_none_of X G z_range
  have b_list := PySem.W.mg_none_of X G z_list
  have b_tuple := PySem.W.mg_none_of X G z_tuple
  have g_WORDS : GDictI K mg "WORDS" [(1, "first"), ((-1), "second"), (0, "even")] := ⟨_, PySem.W.mg_of X G y_WORDS, _, _, x_WORDS, v_WORDS, u_WORDS⟩
  have Fu_pay := fun_mk (st := st_pay) l_pay e_pay k_pay
  have mg_pay := PySem.W.mg_of X G a_pay
  have Fu_side_of := fun_mk (st := st_side_of) l_side_of e_side_of k_side_of
  have mg_side_of := PySem.W.mg_of X G a_side_of
  have Fu_lead := fun_mk (st := st_lead) l_lead e_lead k_lead
  have mg_lead := PySem.W.mg_of X G a_lead
  have Fu_better_from := fun_mk (st := st_better_from) l_better_from e_better_from k_better_from
  have mg_better_from := PySem.W.mg_of X G a_better_from
  have Fu__law_feed := fun_mk (st := st__law_feed) l__law_feed e__law_feed k__law_feed
  have mg__law_feed := PySem.W.mg_of X G a__law_feed
  have Fu__law_draw := fun_mk (st := st__law_draw) l__law_draw e__law_draw k__law_draw
  have mg__law_draw := PySem.W.mg_of X G a__law_draw
  have Fu__law_is_whole := fun_mk (st := st__law_is_whole) l__law_is_whole e__law_is_whole k__law_is_whole
  have mg__law_is_whole := PySem.W.mg_of X G a__law_is_whole
  have Fu__law_tariff := fun_mk (st := st__law_tariff) l__law_tariff e__law_tariff k__law_tariff
  have mg__law_tariff := PySem.W.mg_of X G a__law_tariff
  have Fu__law_second := fun_mk (st := st__law_second) l__law_second e__law_second k__law_second
  have mg__law_second := PySem.W.mg_of X G a__law_second
  have Fu__law_rate := fun_mk (st := st__law_rate) l__law_rate e__law_rate k__law_rate
  have mg__law_rate := PySem.W.mg_of X G a__law_rate
  have Fu__law_side := fun_mk (st := st__law_side) l__law_side e__law_side k__law_side
  have mg__law_side := PySem.W.mg_of X G a__law_side
  have Fu__law_leads := fun_mk (st := st__law_leads) l__law_leads e__law_leads k__law_leads
  have mg__law_leads := PySem.W.mg_of X G a__law_leads
  have Fu__law_in_the_end := fun_mk (st := st__law_in_the_end) l__law_in_the_end e__law_in_the_end k__law_in_the_end
  have mg__law_in_the_end := PySem.W.mg_of X G a__law_in_the_end
  have Fu__law_lead := fun_mk (st := st__law_lead) l__law_lead e__law_lead k__law_lead
  have mg__law_lead := PySem.W.mg_of X G a__law_lead
  have Fu__law_holds := fun_mk (st := st__law_holds) l__law_holds e__law_holds k__law_holds
  have mg__law_holds := PySem.W.mg_of X G a__law_holds
  have Fu__law_asks := fun_mk (st := st__law_asks) l__law_asks e__law_asks k__law_asks
  have mg__law_asks := PySem.W.mg_of X G a__law_asks
  have Fu_law := fun_mk (st := st_law) l_law e_law k_law
  have mg_law := PySem.W.mg_of X G a_law
  refine ⟨PySem.W.fnOf "law" "law" (defArgs st_law) (defBody st_law) (defScope st_law) .none kV_law dc_law pm_law an_law cd_law ct_law, fun s v => .of_eq rfl, fun base _ _ => ?_⟩
  have G_feed := fn_feed (P := l.prog) (w := w) (mg := mg) (base := base) Fu__law_feed sc__law_feed fun cdv A outer s H E => d__law_feed b_list cdv A outer s H E
  have C__law_draw : Cal l.prog w K mg base CX0 1 "_law_draw" ["feed", "many"] XL0 F__law_draw := ⟨_, _, fn_draw Fu__law_draw sc__law_draw (fun cdv A outer s H E => d__law_draw b_abs b_int b_len cdv A outer s H E), mg__law_draw, Fu__law_draw.kp, Fu__law_draw.binds (ps := ["feed", "many"]) fun _ _ _ _ _ _ us hl => match us, hl with | [_, _], _ => rfl⟩
  have C_pay : Cal l.prog w K mg base CX0 1 "pay" ["tariff", "pieces"] XL0 F_pay := c_pay b_enumerate b_len b_min Fu_pay mg_pay len_pay w_pay
  have C_side_of : Cal l.prog w K mg base CX0 1 "side_of" ["number"] XL0 F_side_of := c_side_of Fu_side_of mg_side_of len_side_of w_side_of
  have C__law_is_whole : Cal l.prog w K mg base CX0 1 "_law_is_whole" ["x"] XL0 F__law_is_whole := c__law_is_whole b_isinstance b_int b_bool Fu__law_is_whole mg__law_is_whole len__law_is_whole w__law_is_whole
  have C__law_rate : Cal l.prog w K mg base CX0 1 "_law_rate" ["tariff", "piece"] XL0 F__law_rate := c__law_rate Fu__law_rate mg__law_rate len__law_rate w__law_rate
  have C__law_side : Cal l.prog w K mg base CX0 1 "_law_side" ["number"] XL0 F__law_side := c__law_side Fu__law_side mg__law_side len__law_side w__law_side
  have C__law_lead : Cal l.prog w K mg base CX0 1 "_law_lead" ["leads", "change", "pieces"] XL0 F__law_lead := c__law_lead b_len Fu__law_lead mg__law_lead len__law_lead w__law_lead
  have C_lead : Cal l.prog w K mg base CX0 2 "lead" ["tariff", "other", "pieces"] XL0 F_lead := c_lead C_pay Fu_lead mg_lead len_lead w_lead
  have C__law_tariff : Cal l.prog w K mg base CX0 2 "_law_tariff" ["feed"] XL0 F__law_tariff := c__law_tariff b_range C__law_draw Fu__law_tariff mg__law_tariff len__law_tariff w__law_tariff
  have C__law_leads : Cal l.prog w K mg base CX0 2 "_law_leads" ["tariff", "other"] XL0 F__law_leads := c__law_leads b_max b_range C__law_rate Fu__law_leads mg__law_leads len__law_leads w__law_leads
  have C__law_in_the_end : Cal l.prog w K mg base CX0 2 "_law_in_the_end" ["leads", "change"] XL0 F__law_in_the_end := c__law_in_the_end C__law_side Fu__law_in_the_end mg__law_in_the_end len__law_in_the_end w__law_in_the_end
  have C_better_from : Cal l.prog w K mg base CX0 3 "better_from" ["tariff", "other"] XL0 F_better_from := c_better_from b_max b_abs g_WORDS C_lead C_side_of Fu_better_from mg_better_from len_better_from w_better_from
  have C__law_second : Cal l.prog w K mg base CX0 3 "_law_second" ["feed", "tariff"] XL0 F__law_second := c__law_second b_len b_max b_list C__law_draw C__law_tariff Fu__law_second mg__law_second len__law_second w__law_second
  have C__law_holds : Cal l.prog w K mg base CX0 3 "_law_holds" ["leads", "change", "word", "k"] XL0 F__law_holds := c__law_holds b_range b_len C__law_is_whole C__law_in_the_end C__law_side C__law_lead Fu__law_holds mg__law_holds len__law_holds w__law_holds
  have C__law_asks : Cal l.prog w K mg base CX0 4 "_law_asks" ["tariff", "other"] XL0 F__law_asks := c__law_asks b_list b_isinstance b_tuple b_len C_better_from C__law_leads C__law_holds C__law_side C_pay C__law_lead Fu__law_asks mg__law_asks len__law_asks w__law_asks
  exact fn_law (XL := XL0) (st1 := law1) (rest := (defBody st_law).drop 1) Fu_law sc_law rfl (by decide) (fun cdv A outer s H E hr => d1_law G_feed mg__law_feed Fu__law_feed.kp (Fu__law_feed.binds (ps := ["script"]) fun _ _ _ _ _ _ us hl => match us, hl with | [_], _ => rfl) cdv A outer s H E hr)
    (fun cdv A outer s H E Z hr => d_law b_range C__law_tariff C__law_asks C__law_second C__law_draw C_better_from cdv A outer s H E Z hr) w_law
end Lw
open PySem PySem.W PyProof.Rows
set_option maxRecDepth 100000 in
set_option maxHeartbeats 0 in
theorem PySem.Challenge.cw_daybooktold_k94_whole_better_tariffs_holds : PySem.Challenge.rw_daybooktold_k94_whole_better_tariffs.Holds := by
  w_on; o_law; k_head; (case hw => w_witness2)
  k_fill
  refine L2.walk_of (l := PySem.Challenge.rw_daybooktold_k94_whole_better_tariffs) (n := 63) (k := 5) (x := "script") (CX := fun _ => L2.CX0) (sp := fun w => Dv.spLaw _) rfl (by decide) rfl ⟨rfl, by decide, by decide⟩ (fun w h Y => PySem.W.kIn_of Y) ?F (fun _ _ a ns hl _ hS => ⟨a, ns, rfl, hS, hl, fun _ => rfl⟩) (fun _ _ _ _ _ h => h)
  case F =>
    intro w mg fa h KX G hmg
    refine' Lw.all_mk KX G hmg ?a_pay ?l_pay ?e_pay ?k_pay ?a_side_of ?l_side_of ?e_side_of ?k_side_of ?a_lead ?l_lead ?e_lead ?k_lead ?a_better_from ?l_better_from ?e_better_from ?k_better_from ?a__law_feed ?l__law_feed ?e__law_feed ?k__law_feed ?a__law_draw ?l__law_draw ?e__law_draw ?k__law_draw ?a__law_is_whole ?l__law_is_whole ?e__law_is_whole ?k__law_is_whole ?a__law_tariff ?l__law_tariff ?e__law_tariff ?k__law_tariff ?a__law_second ?l__law_second ?e__law_second ?k__law_second ?a__law_rate ?l__law_rate ?e__law_rate ?k__law_rate ?a__law_side ?l__law_side ?e__law_side ?k__law_side ?a__law_leads ?l__law_leads ?e__law_leads ?k__law_leads ?a__law_in_the_end ?l__law_in_the_end ?e__law_in_the_end ?k__law_in_the_end ?a__law_lead ?l__law_lead ?e__law_lead ?k__law_lead ?a__law_holds ?l__law_holds ?e__law_holds ?k__law_holds ?a__law_asks ?l__law_asks ?e__law_asks ?k__law_asks ?a_law ?l_law ?e_law ?k_law ?z_enumerate ?z_len ?z_min ?z_max ?z_abs ?z_isinstance ?z_int ?z_bool ?z_range ?z_list ?z_tuple ?y_WORDS ?x_WORDS ?v_WORDS ?u_WORDS
    (case a_pay => k_is); (case l_pay => k_is); (case e_pay => k_is); (case k_pay => k_is); (case a_side_of => k_is); (case l_side_of => k_is); (case e_side_of => k_is); (case k_side_of => k_is); (case a_lead => k_is); (case l_lead => k_is); (case e_lead => k_is); (case k_lead => k_is); (case a_better_from => k_is); (case l_better_from => k_is); (case e_better_from => k_is); (case k_better_from => k_is); (case a__law_feed => k_is); (case l__law_feed => k_is); (case e__law_feed => k_is); (case k__law_feed => k_is); (case a__law_draw => k_is); (case l__law_draw => k_is); (case e__law_draw => k_is); (case k__law_draw => k_is); (case a__law_is_whole => k_is); (case l__law_is_whole => k_is); (case e__law_is_whole => k_is); (case k__law_is_whole => k_is); (case a__law_tariff => k_is); (case l__law_tariff => k_is); (case e__law_tariff => k_is); (case k__law_tariff => k_is); (case a__law_second => k_is); (case l__law_second => k_is); (case e__law_second => k_is); (case k__law_second => k_is); (case a__law_rate => k_is); (case l__law_rate => k_is); (case e__law_rate => k_is); (case k__law_rate => k_is); (case a__law_side => k_is); (case l__law_side => k_is); (case e__law_side => k_is); (case k__law_side => k_is); (case a__law_leads => k_is); (case l__law_leads => k_is); (case e__law_leads => k_is); (case k__law_leads => k_is); (case a__law_in_the_end => k_is); (case l__law_in_the_end => k_is); (case e__law_in_the_end => k_is); (case k__law_in_the_end => k_is); (case a__law_lead => k_is); (case l__law_lead => k_is); (case e__law_lead => k_is); (case k__law_lead => k_is); (case a__law_holds => k_is); (case l__law_holds => k_is); (case e__law_holds => k_is); (case k__law_holds => k_is); (case a__law_asks => k_is); (case l__law_asks => k_is); (case e__law_asks => k_is); (case k__law_asks => k_is); (case a_law => k_is); (case l_law => k_is); (case e_law => k_is); (case k_law => k_is); (case z_enumerate => k_is); (case z_len => k_is); (case z_min => k_is); (case z_max => k_is); (case z_abs => k_is); (case z_isinstance => k_is); (case z_int => k_is); (case z_bool => k_is); (case z_range => k_is); (case z_list => k_is); (case z_tuple => k_is); (case y_WORDS => k_is); (case x_WORDS => k_is); (case v_WORDS => exact ⟨⟨_, _, rfl, rfl⟩, ⟨⟨_, _, rfl, rfl⟩, ⟨⟨_, _, rfl, rfl⟩, True.intro⟩⟩⟩); (case u_WORDS => (intro k v h; by_cases h1 : k = 1; (subst h1; obtain rfl := Option.some.inj (show some ("first" : Str) = some v from h); exact ⟨_, rfl⟩); by_cases h2 : k = -1; (subst h2; obtain rfl := Option.some.inj (show some ("second" : Str) = some v from h); exact ⟨_, rfl⟩); by_cases h3 : k = 0; (subst h3; obtain rfl := Option.some.inj (show some ("even" : Str) = some v from h); exact ⟨_, rfl⟩); exact absurd h (by have e1 : (k == 1) = false := beq_eq_false_iff_ne.mpr h1; have e2 : (k == -1) = false := beq_eq_false_iff_ne.mpr h2; have e3 : (k == 0) = false := beq_eq_false_iff_ne.mpr h3; simp only [List.lookup, e1, e2, e3]; exact fun h => by cases h)))

