import PyProof.Rows.All
import Wide.All
import OpenK.AllK
import Wide.FinOn
import HandS.ForMost
import HandS.ForExc
import HandS.Codes
import HandS.Walk
import HandS.Zip
import HandS.TupAny
import HandS.TupMul
import KE.GoesZip
import KE.GoesMore
import HandS.More
import HandS.IsInst
import PyProof.ReprRoads
import HandS.Defaults
import KE.KStateDown
import HandS.Head0
import HandS.Head1
import HandS.Head2
import HandS.HeadEnd
import HandS.HeadHook1
import HandS.HeadHook2
import HandS.HeadHook3
import HandS.Conv
import HandS.NoneIn
import HandS.Text
import HandS.Dict
import HandS.Small
import HandS.Deep
import HandS.MakeKwOnly
import PySem.Challenge.RW_boxlaws_k77_whole_sorts_enough_for_turne
set_option Elab.async false
set_option linter.all false
set_option maxRecDepth 100000
set_option maxHeartbeats 4000000
set_option autoImplicit false
/-! THE DATA LAYER: readings of the hand layer evaluated over data (PyData, by Dp). Hs: the objects that stay; H: all that is tracked; an own list is tracked, not among those that stay. -/
namespace Dl
open PySem PySem.Spec PyProof.Rows L2

def Ex (H H' : Hp) : Prop := ∀ a o, H a = some o → H' a = some o
theorem Ex.refl (H : Hp) : Ex H H := fun _ _ h => h
theorem Ex.trans {H H1 H2 : Hp} (a : Ex H H1) (b : Ex H1 H2) : Ex H H2 := fun x o h => b x o (a x o h)
theorem Ex.new {H : Hp} {p : Addr} {o : HO} (h : H p = none) : Ex H (upd H p o) := fun a u e => by
  rw [upd_ne (ne_of_none e h)]
  exact e
theorem rd_mono {H H' : Hp} {a : Addr} {u : HO} (e : Ex H H') (h : Rd H a u) : Rd H' a u := by
  rcases h with h | ⟨o, h⟩
  · exact Or.inl (e a _ h)
  · exact Or.inr ⟨o, e a _ h⟩
theorem sqL_mono {K : PySem.W.Frag} {H H' : Hp} {a : Addr} {xs : List V} (e : Ex H H') (h : SqL K H a xs) : SqL K H' a xs := by
  rcases h with h | h
  · exact Or.inl (rd_mono e h)
  · exact Or.inr h
theorem sqT_mono {K : PySem.W.Frag} {H H' : Hp} {a : Addr} {xs : List V} (e : Ex H H') (h : SqT K H a xs) : SqT K H' a xs := by
  rcases h with h | h
  · exact Or.inl (rd_mono e h)
  · exact Or.inr h
section
variable {K : PySem.W.Frag} {H H' : Hp}
mutual
theorem dp_mono (e : Ex H H') : ∀ (d : PyData) (v : V), Dp K H v d → Dp K H' v d
  | .none, _, h => by
    cases h
    exact .non
  | .bool b, _, h => by
    cases h
    exact .bl b
  | .int i, _, h => by
    cases h
    exact .int i
  | .str x, _, h => by
    cases h
    exact .str x
  | .list ds, _, h => by
    cases h with
    | lst hs ha => exact .lst (sqL_mono e hs) (dpAll_mono e ds _ ha)
  | .tuple ds, _, h => by
    cases h with
    | tup hs ha => exact .tup (sqT_mono e hs) (dpAll_mono e ds _ ha)
  | .dict _, _, h => by cases h
theorem dpAll_mono (e : Ex H H') : ∀ (ds : List PyData) (vs : List V), DpAll K H vs ds → DpAll K H' vs ds
  | [], _, h => by
    cases h
    exact .nil
  | d :: ds, _, h => by
    cases h with
    | cons h1 h2 => exact .cons (dp_mono e d _ h1) (dpAll_mono e ds _ h2)
end
theorem DpAll.length {vs : List V} {ds : List PyData} (h : DpAll K H vs ds) : vs.length = ds.length := by
  induction ds generalizing vs with
  | nil =>
    cases h
    rfl
  | cons d ds ih =>
    cases h with
    | cons h1 h2 => rw [List.length_cons, List.length_cons, ih h2]
theorem DpAll.get {vs : List V} {ds : List PyData} (h : DpAll K H vs ds) {i : Nat} {d : PyData} (hd : ds[i]? = some d) : ∃ v, vs[i]? = some v ∧ Dp K H v d := by
  induction ds generalizing vs i with
  | nil => simp at hd
  | cons e ds ih =>
    cases h with
    | cons h1 h2 =>
      cases i with
      | zero =>
        simp at hd
        subst hd
        exact ⟨_, by simp, h1⟩
      | succ i =>
        obtain ⟨v, q1, q2⟩ := ih h2 (i := i) (by simpa using hd)
        exact ⟨v, by simpa using q1, q2⟩
theorem DpAll.at_ {vs : List V} {ds : List PyData} (h : DpAll K H vs ds) {i : Nat} {v : V} (hv : vs[i]? = some v) : ∃ d, ds[i]? = some d ∧ Dp K H v d := by
  have hl := DpAll.length h
  have hi : i < ds.length := by
    rw [← hl]
    exact (List.getElem?_eq_some_iff.mp hv).1
  obtain ⟨v', q1, q2⟩ := DpAll.get h (List.getElem?_eq_getElem hi)
  rw [hv] at q1
  cases q1
  exact ⟨_, List.getElem?_eq_getElem hi, q2⟩
theorem DpAll.append {vs ws : List V} {ds es : List PyData} (h : DpAll K H vs ds) (h' : DpAll K H ws es) : DpAll K H (vs ++ ws) (ds ++ es) := by
  induction ds generalizing vs with
  | nil =>
    cases h
    exact h'
  | cons d ds ih =>
    cases h with
    | cons h1 h2 => exact .cons h1 (ih h2)
theorem DpAll.one {v : V} {d : PyData} (h : Dp K H v d) : DpAll K H [v] [d] := .cons h .nil
theorem DpAll.take {vs : List V} {ds : List PyData} (h : DpAll K H vs ds) (n : Nat) : DpAll K H (vs.take n) (ds.take n) := by
  induction n generalizing vs ds with
  | zero => exact .nil
  | succ n ih =>
    cases ds with
    | nil =>
      cases h
      exact .nil
    | cons d ds =>
      cases h with
      | cons h1 h2 => exact .cons h1 (ih h2)
theorem DpAll.drop {vs : List V} {ds : List PyData} (h : DpAll K H vs ds) (n : Nat) : DpAll K H (vs.drop n) (ds.drop n) := by
  induction n generalizing vs ds with
  | zero => exact h
  | succ n ih =>
    cases ds with
    | nil =>
      cases h
      exact .nil
    | cons d ds =>
      cases h with
      | cons h1 h2 => exact ih h2
theorem DpAll.set {vs : List V} {ds : List PyData} (h : DpAll K H vs ds) (i : Nat) {v : V} {d : PyData} (hd : Dp K H v d) : DpAll K H (vs.set i v) (ds.set i d) := by
  induction i generalizing vs ds with
  | zero =>
    cases ds with
    | nil =>
      cases h
      exact .nil
    | cons e ds =>
      cases h with
      | cons h1 h2 => exact .cons hd h2
  | succ n ih =>
    cases ds with
    | nil =>
      cases h
      exact .nil
    | cons e ds =>
      cases h with
      | cons h1 h2 => exact .cons h1 (ih h2)
theorem DpAll.ints {vs : List V} {ns : List Int} (h : DpAll K H vs (ns.map PyData.int)) : vs = ns.map V.int := by
  induction ns generalizing vs with
  | nil =>
    cases h
    rfl
  | cons n ns ih =>
    cases h with
    | cons h1 h2 =>
      cases h1
      rw [ih h2] <;> rfl
theorem DpAll.ofInts (ns : List Int) : DpAll K H (ns.map V.int) (ns.map PyData.int) := by
  induction ns with
  | nil => exact .nil
  | cons n ns ih => exact .cons (.int n) ih
theorem DpAll.strs {vs : List V} {ns : List Str} (h : DpAll K H vs (ns.map PyData.str)) : vs = ns.map V.str := by
  induction ns generalizing vs with
  | nil =>
    cases h
    rfl
  | cons n ns ih =>
    cases h with
    | cons h1 h2 =>
      cases h1
      rw [ih h2] <;> rfl
theorem DpAll.ofStrs (ns : List Str) : DpAll K H (ns.map V.str) (ns.map PyData.str) := by
  induction ns with
  | nil => exact .nil
  | cons n ns ih => exact .cons (.str n) ih
theorem DpAll.bools {vs : List V} {ns : List Bool} (h : DpAll K H vs (ns.map PyData.bool)) : vs = ns.map V.bl := by
  induction ns generalizing vs with
  | nil =>
    cases h
    rfl
  | cons n ns ih =>
    cases h with
    | cons h1 h2 =>
      cases h1
      rw [ih h2] <;> rfl
theorem Dp.toL {v : V} {ds : List PyData} (h : Dp K H v (.list ds)) : ∃ a xs, v = .ref a ∧ SqL K H a xs ∧ DpAll K H xs ds := by
  cases h with
  | lst hs ha => exact ⟨_, _, rfl, hs, ha⟩
theorem Dp.toT {v : V} {ds : List PyData} (h : Dp K H v (.tuple ds)) : ∃ a xs, v = .ref a ∧ SqT K H a xs ∧ DpAll K H xs ds := by
  cases h with
  | tup hs ha => exact ⟨_, _, rfl, hs, ha⟩
theorem Dp.toI {v : V} {i : Int} (h : Dp K H v (.int i)) : v = .int i := by
  cases h
  rfl
theorem Dp.toS {v : V} {i : Str} (h : Dp K H v (.str i)) : v = .str i := by
  cases h
  rfl
theorem Dp.toB {v : V} {i : Bool} (h : Dp K H v (.bool i)) : v = .bl i := by
  cases h
  rfl
theorem Dp.toN {v : V} (h : Dp K H v .none) : v = .non := by
  cases h
  rfl
end

/-! ### the law's store, the context, the heaps -/
structure Sto where
  far : List Int
  turn : Int
/-- where the store stands: its dict, its far list, its near list; what never changes -/
structure Lo where
  d : Addr
  l : Addr
  n : Addr
  near : List Int
  total : Int
/-- K: the written part; lo: the store, if this def holds it -/
structure Cq where
  K : PySem.W.Frag
  lo : Option Lo
/-- the heaps at the entry -/
structure Bs where
  Hs0 : Hp
  H0 : Hp
def Cq.bad (C : Cq) (a : Addr) : Prop := ∃ lo, C.lo = some lo ∧ (a = lo.d ∨ a = lo.l)
def stoKvs (lo : Lo) (S : Sto) : List (Key × V) := [(.inr "far", .ref lo.l), (.inr "near", .ref lo.n), (.inr "total", .int lo.total), (.inr "turn", .int S.turn)]
structure StoAt (lo : Lo) (S : Sto) (Hs H : Hp) : Prop where
  nd : Hs lo.d = none
  nl : Hs lo.l = none
  d : H lo.d = some (.dK (stoKvs lo S))
  l : H lo.l = some (.lst (S.far.map V.int))
structure HOk (C : Cq) (B : Bs) (S : Sto) (Hs H : Hp) : Prop where
  ex0 : ∀ a o, ¬ C.bad a → B.H0 a = some o → H a = some o
  exs0 : Ex B.Hs0 Hs
  exs : Ex Hs H
  new : ∀ a o, Hs a = some o → (∃ u, B.Hs0 a = some u) ∨ B.H0 a = none
  sto : ∀ lo, C.lo = some lo → StoAt lo S Hs H ∧ Dp C.K B.Hs0 (.ref lo.n) (.list (lo.near.map PyData.int)) ∧ (∃ u, B.H0 lo.d = some u) ∧ ∃ u, B.H0 lo.l = some u
structure Fr (C : Cq) (Hs H Hs' H' : Hp) : Prop where
  exs : Ex Hs Hs'
  ex : ∀ a o, ¬ C.bad a → H a = some o → H' a = some o
  new : ∀ a o, Hs' a = some o → (∃ u, Hs a = some u) ∨ H a = none
section
variable {C : Cq} {B : Bs} {S S' S2 : Sto} {Hs H Hs' H' Hs2 H2 : Hp} {p : Addr} {o : HO}
theorem Fr.refl : Fr C Hs H Hs H := ⟨Ex.refl _, fun _ _ _ h => h, fun a o h => .inl ⟨o, h⟩⟩
theorem HOk.bad_no (h : HOk C B S Hs H) {a : Addr} (hb : C.bad a) : Hs a = none ∧ (∃ u, H a = some u) ∧ ∃ u, B.H0 a = some u := by
  obtain ⟨lo, e, q⟩ := hb
  obtain ⟨s, _, s5, s6⟩ := h.sto lo e
  rcases q with rfl | rfl
  · exact ⟨s.nd, ⟨_, s.d⟩, s5⟩
  · exact ⟨s.nl, ⟨_, s.l⟩, s6⟩
theorem HOk.fresh0 (h : HOk C B S Hs H) {a : Addr} (e : H a = none) : B.H0 a = none := by
  cases q : B.H0 a with
  | none => rfl
  | some u =>
    by_cases hb : C.bad a
    · obtain ⟨_, ⟨u, z⟩, _⟩ := h.bad_no hb
      rw [e] at z
      cases z
    · rw [h.ex0 a u hb q] at e
      cases e
theorem HOk.freshS (h : HOk C B S Hs H) {a : Addr} (e : H a = none) : Hs a = none := by
  cases q : Hs a with
  | none => rfl
  | some u =>
    rw [h.exs a u q] at e
    cases e
theorem Fr.trans (h' : HOk C B S' Hs' H') (h2 : HOk C B S2 Hs2 H2) (f : Fr C Hs H Hs' H') (g : Fr C Hs' H' Hs2 H2) : Fr C Hs H Hs2 H2 := by
  refine ⟨f.exs.trans g.exs, fun a o hb e => g.ex a o hb (f.ex a o hb e), fun a o e => ?_⟩
  rcases g.new a o e with ⟨u, q⟩ | q
  · exact f.new a u q
  · refine .inr ?_
    cases z : H a with
    | none => rfl
    | some u =>
      by_cases hb : C.bad a
      · rw [(h2.bad_no hb).1] at e
        cases e
      · rw [f.ex a u hb z] at q
        cases q
/-- one step: nothing, or a new object -/
inductive Alc (Hs H : Hp) : Hp → Hp → Prop
  | same : Alc Hs H Hs H
  | new (p : Addr) (o : HO) : H p = none → Alc Hs H (upd Hs p o) (upd H p o)
theorem upd_ex (h : Ex Hs H) : Ex (upd Hs p o) (upd H p o) := fun a u e => by
  by_cases hp : a = p
  · subst hp
    rw [upd_same] at e ⊢
    exact e
  · rw [upd_ne hp] at e ⊢
    exact h a u e
theorem HOk.laid (h : HOk C B S Hs H) (hp : H p = none) : HOk C B S (upd Hs p o) (upd H p o) := by
  have h0 := h.fresh0 hp
  have hs := h.freshS hp
  refine ⟨fun a u hb e => ?_, h.exs0.trans (Ex.new hs), upd_ex h.exs, fun a u e => ?_, fun lo e => ?_⟩
  · rw [upd_ne (ne_of_none e h0)]
    exact h.ex0 a u hb e
  · by_cases hq : a = p
    · subst hq
      exact .inr h0
    · rw [upd_ne hq] at e
      exact h.new a u e
  · obtain ⟨s, s6⟩ := h.sto lo e
    refine ⟨⟨?_, ?_, ?_, ?_⟩, s6⟩
    · rw [upd_ne (ne_of_none s.d hp)]
      exact s.nd
    · rw [upd_ne (ne_of_none s.l hp)]
      exact s.nl
    · rw [upd_ne (ne_of_none s.d hp)]
      exact s.d
    · rw [upd_ne (ne_of_none s.l hp)]
      exact s.l
theorem HOk.laidFr (h : HOk C B S Hs H) (hp : H p = none) : Fr C Hs H (upd Hs p o) (upd H p o) := by
  refine ⟨Ex.new (h.freshS hp), fun a u _ e => ?_, fun a u e => ?_⟩
  · rw [upd_ne (ne_of_none e hp)]
    exact e
  · by_cases hq : a = p
    · subst hq
      exact .inr hp
    · rw [upd_ne hq] at e
      exact .inl ⟨u, e⟩
theorem HOk.alc (h : HOk C B S Hs H) (a : Alc Hs H Hs' H') : HOk C B S Hs' H' ∧ Fr C Hs H Hs' H' := by
  cases a with
  | same => exact ⟨h, Fr.refl⟩
  | new p o hp => exact ⟨h.laid hp, h.laidFr hp⟩
theorem Alc.exs (a : Alc Hs H Hs' H') (e : Ex Hs H) : Ex Hs Hs' := by
  cases a with
  | same => exact Ex.refl _
  | new p o hp =>
    refine Ex.new ?_
    cases q : Hs p with
    | none => rfl
    | some u =>
      rw [e p u q] at hp
      cases hp
/-- later, at another base -/
theorem HOk.rebase (h1 : HOk C B S Hs H) (h : HOk C ⟨Hs, B.H0⟩ S' Hs' H') : HOk C B S' Hs' H' :=
  ⟨h.ex0, h1.exs0.trans h.exs0, h.exs, fun a o e => by
    rcases h.new a o e with ⟨u, q⟩ | q
    · exact h1.new a u q
    · exact .inr q, fun lo e => ⟨(h.sto lo e).1, (h1.sto lo e).2⟩⟩
theorem HOk.base (h1 : HOk C B S Hs H) : HOk C ⟨Hs, B.H0⟩ S Hs H := ⟨h1.ex0, Ex.refl _, h1.exs, fun a o e => .inl ⟨o, e⟩, fun lo e => ⟨(h1.sto lo e).1, dp_mono h1.exs0 _ _ (h1.sto lo e).2.1, (h1.sto lo e).2.2⟩⟩
end

/-! ### slots -/
inductive Sl where
  | un
  | dat (d : PyData)
  | own (xs : List PyData)
  | sto
  | far
  | dk (kvs : List (Key × V))
  | odk (kvs : List (Key × V))
def SlOk (C : Cq) (B : Bs) (Hs H : Hp) (s : Option V) : Sl → Prop
  | .un => True
  | .dat d => ∃ v, s = some v ∧ Dp C.K Hs v d
  | .own xs => ∃ p vs, s = some (.ref p) ∧ H p = some (.lst vs) ∧ DpAll C.K Hs vs xs ∧ Hs p = none ∧ B.H0 p = none
  | .sto => ∃ lo, C.lo = some lo ∧ s = some (.ref lo.d)
  | .far => ∃ lo, C.lo = some lo ∧ s = some (.ref lo.l)
  | .dk kvs => ∃ p, s = some (.ref p) ∧ Hs p = some (.dK kvs)
  | .odk kvs => ∃ p, s = some (.ref p) ∧ H p = some (.dK kvs) ∧ Hs p = none ∧ B.H0 p = none
structure SlsOk (C : Cq) (B : Bs) (Hs H : Hp) (σ : L2.St) (Γ : List Sl) : Prop where
  len : σ.length = Γ.length
  at_ : ∀ (i : Nat) (g : Sl), Γ[i]? = some g → ∃ s, σ[i]? = some s ∧ SlOk C B Hs H s g
  apart : ∀ (i j : Nat) (xs ys : List PyData), Γ[i]? = some (.own xs) → Γ[j]? = some (.own ys) → i ≠ j → σ[i]? ≠ σ[j]?
section
variable {C : Cq} {B : Bs} {S S' S2 : Sto} {Hs H Hs' H' Hs2 H2 : Hp} {σ σ' : L2.St} {Γ Γ' : List Sl}
theorem SlOk.fr {s : Option V} {g : Sl} (h : HOk C B S Hs H) (f : Fr C Hs H Hs' H') (x : SlOk C B Hs H s g) : SlOk C B Hs' H' s g := by
  cases g with
  | un => trivial
  | dat d =>
    obtain ⟨v, e, q⟩ := x
    exact ⟨v, e, dp_mono f.exs _ _ q⟩
  | own xs =>
    obtain ⟨p, vs, e, q1, q2, q3, q4⟩ := x
    have nb : ¬ C.bad p := fun hb => by
      obtain ⟨_, _, u, z⟩ := h.bad_no hb
      rw [q4] at z
      cases z
    refine ⟨p, vs, e, f.ex p _ nb q1, dpAll_mono f.exs _ _ q2, ?_, q4⟩
    cases z : Hs' p with
    | none => rfl
    | some u =>
      rcases f.new p u z with ⟨u', y⟩ | y
      · rw [q3] at y
        cases y
      · rw [q1] at y
        cases y
  | sto => exact x
  | far => exact x
  | dk kvs =>
    obtain ⟨p, e, q⟩ := x
    exact ⟨p, e, f.exs p _ q⟩
  | odk kvs =>
    obtain ⟨p, e, q1, q3, q4⟩ := x
    have nb : ¬ C.bad p := fun hb => by
      obtain ⟨_, _, u, z⟩ := h.bad_no hb
      rw [q4] at z
      cases z
    refine ⟨p, e, f.ex p _ nb q1, ?_, q4⟩
    cases z : Hs' p with
    | none => rfl
    | some u =>
      rcases f.new p u z with ⟨u', y⟩ | y
      · rw [q3] at y
        cases y
      · rw [q1] at y
        cases y
theorem SlsOk.fr (x : SlsOk C B Hs H σ Γ) (h : HOk C B S Hs H) (f : Fr C Hs H Hs' H') : SlsOk C B Hs' H' σ Γ :=
  ⟨x.len, fun i g e => by
    obtain ⟨s, q1, q2⟩ := x.at_ i g e
    exact ⟨s, q1, q2.fr h f⟩, x.apart⟩
theorem SlsOk.rebase (x : SlsOk C B Hs H σ Γ) {B' : Bs} (e : B'.H0 = B.H0) : SlsOk C B' Hs H σ Γ :=
  ⟨x.len, fun i g q => by
    obtain ⟨s, q1, q2⟩ := x.at_ i g q
    refine ⟨s, q1, ?_⟩
    cases g with
    | own xs =>
      obtain ⟨p, vs, a, b, c, d, f⟩ := q2
      exact ⟨p, vs, a, b, c, d, by rw [e]; exact f⟩
    | un => trivial
    | dat d => exact q2
    | sto => exact q2
    | far => exact q2
    | dk kvs => exact q2
    | odk kvs =>
      obtain ⟨p, a, b, c, d⟩ := q2
      exact ⟨p, a, b, c, by rw [e]; exact d⟩, x.apart⟩
theorem SlsOk.dat (x : SlsOk C B Hs H σ Γ) {i : Nat} {d : PyData} (e : Γ[i]? = some (.dat d)) : ∃ v, σ[i]? = some (some v) ∧ Dp C.K Hs v d := by
  obtain ⟨s, q1, v, rfl, q2⟩ := x.at_ i _ e
  exact ⟨v, q1, q2⟩
theorem SlsOk.setU (x : SlsOk C B Hs H σ Γ) (i : Nat) (s : Option V) : SlsOk C B Hs H (σ.set i s) (Γ.set i .un) := by
  refine ⟨by rw [List.length_set, List.length_set, x.len], fun j g e => ?_, fun j k xs ys e1 e2 ne => ?_⟩
  · by_cases hj : i = j
    · subst hj
      have hl : i < Γ.length := by
        have := (List.getElem?_eq_some_iff.mp e).1
        simpa using this
      rw [List.getElem?_set_self hl] at e
      cases e
      exact ⟨s, List.getElem?_set_self (by rw [x.len]; exact hl), trivial⟩
    · rw [List.getElem?_set_ne hj] at e
      obtain ⟨s', q1, q2⟩ := x.at_ j g e
      exact ⟨s', by rw [List.getElem?_set_ne hj]; exact q1, q2⟩
  · have ji : i ≠ j := by
      rintro rfl
      rw [List.getElem?_set] at e1
      simp at e1
    have ki : i ≠ k := by
      rintro rfl
      rw [List.getElem?_set] at e2
      simp at e2
    rw [List.getElem?_set_ne ji] at e1 ⊢
    rw [List.getElem?_set_ne ki] at e2 ⊢
    exact x.apart j k xs ys e1 e2 ne
theorem SlsOk.setD (x : SlsOk C B Hs H σ Γ) (i : Nat) {v : V} {d : PyData} (h : Dp C.K Hs v d) : SlsOk C B Hs H (σ.set i (some v)) (Γ.set i (.dat d)) := by
  have y := x.setU i (some v)
  refine ⟨by rw [List.length_set, List.length_set, x.len], fun j g e => ?_, fun j k xs ys e1 e2 ne => ?_⟩
  · by_cases hj : i = j
    · subst hj
      have hl : i < Γ.length := by
        have := (List.getElem?_eq_some_iff.mp e).1
        simpa using this
      rw [List.getElem?_set_self hl] at e
      cases e
      exact ⟨some v, List.getElem?_set_self (by rw [x.len]; exact hl), v, rfl, h⟩
    · rw [List.getElem?_set_ne hj] at e
      refine y.at_ j g (by rw [List.getElem?_set_ne hj]; exact e)
  · have ji : i ≠ j := by
      rintro rfl
      rw [List.getElem?_set] at e1
      simp at e1
    have ki : i ≠ k := by
      rintro rfl
      rw [List.getElem?_set] at e2
      simp at e2
    refine y.apart j k xs ys ?_ ?_ ne
    · rw [List.getElem?_set_ne ji] at e1 ⊢
      exact e1
    · rw [List.getElem?_set_ne ki] at e2 ⊢
      exact e2
end
end Dl


set_option Elab.async false
set_option linter.all false
set_option maxRecDepth 100000
set_option maxHeartbeats 4000000
set_option autoImplicit false
/-! what a reading evaluates to, as data -/
namespace Dl
open PySem PySem.Spec PyProof.Rows L2

/-! ### judgements -/
def EvD (C : Cq) (te : TE) (Γ : List Sl) (S : Sto) (d : PyData) (S' : Sto) : Prop :=
  ∀ B σ Hs H, SlsOk C B Hs H σ Γ → HOk C B S Hs H → ∀ Q : VK, (∀ v Hs' H', HOk C B S' Hs' H' → Fr C Hs H Hs' H' → Dp C.K Hs' v d → Q v H') → te σ H Q
def EvT (C : Cq) (tt : TT) (Γ : List Sl) (S : Sto) (b : Bool) (S' : Sto) : Prop :=
  ∀ B σ Hs H, SlsOk C B Hs H σ Γ → HOk C B S Hs H → ∀ Q : Bool → Hp → Prop, (∀ Hs' H', HOk C B S' Hs' H' → Fr C Hs H Hs' H' → Q b H') → tt σ H Q
def EvA (C : Cq) (ta : TA) (Γ : List Sl) (S : Sto) (ds : List PyData) (S' : Sto) : Prop :=
  ∀ B σ Hs H, SlsOk C B Hs H σ Γ → HOk C B S Hs H → ∀ Q : List V → Hp → Prop, (∀ vs Hs' H', HOk C B S' Hs' H' → Fr C Hs H Hs' H' → DpAll C.K Hs' vs ds → Q vs H') → ta σ H Q
def EvO (C : Cq) (to : TO) (Γ : List Sl) (S : Sto) (o : Option Int) (S' : Sto) : Prop :=
  ∀ B σ Hs H, SlsOk C B Hs H σ Γ → HOk C B S Hs H → ∀ Q : Option Int → Hp → Prop, (∀ Hs' H', HOk C B S' Hs' H' → Fr C Hs H Hs' H' → Q o H') → to σ H Q
/-- operations on values: nothing is written, at most one object is new -/
def RD (K : PySem.W.Frag) (r : R2) (da db dz : PyData) : Prop := ∀ Hs H x y (Q : VK), Ex Hs H → Dp K Hs x da → Dp K Hs y db → (∀ z Hs' H', Alc Hs H Hs' H' → Dp K Hs' z dz → Q z H') → r x y H Q
def RU (K : PySem.W.Frag) (r : V → Hp → VK → Prop) (da dz : PyData) : Prop := ∀ Hs H x (Q : VK), Ex Hs H → Dp K Hs x da → (∀ z Hs' H', Alc Hs H Hs' H' → Dp K Hs' z dz → Q z H') → r x H Q
def RC (K : PySem.W.Frag) (r : List V → Hp → VK → Prop) (ds : List PyData) (dz : PyData) : Prop := ∀ Hs H xs (Q : VK), Ex Hs H → DpAll K Hs xs ds → (∀ z Hs' H', Alc Hs H Hs' H' → Dp K Hs' z dz → Q z H') → r xs H Q
def RM (K : PySem.W.Frag) (r : V → List V → Hp → VK → Prop) (da : PyData) (ds : List PyData) (dz : PyData) : Prop := ∀ Hs H x xs (Q : VK), Ex Hs H → Dp K Hs x da → DpAll K Hs xs ds → (∀ z Hs' H', Alc Hs H Hs' H' → Dp K Hs' z dz → Q z H') → r x xs H Q
section
variable {C : Cq} {B : Bs} {S S' S1 S2 S3 : Sto} {Hs H Hs' H' : Hp} {σ : L2.St} {Γ : List Sl} {ta tb te tx : TE} {t u : TT} {d da db dz : PyData}

theorem ed_is {d' : PyData} (h : EvD C te Γ S d S') (e : d = d') : EvD C te Γ S d' S' := e ▸ h
theorem et_is {b b' : Bool} (h : EvT C t Γ S b S') (e : b = b') : EvT C t Γ S b' S' := e ▸ h
theorem ed_var {i : Nat} (h : Γ[i]? = some (.dat d)) : EvD C (tVar i) Γ S d S := fun B σ Hs H x k Q q => by
  obtain ⟨v, e, hv⟩ := x.dat h
  exact ⟨v, e, q v Hs H k Fr.refl hv⟩
theorem ed_int {i : Int} : EvD C (tC (.int i)) Γ S (.int i) S := fun B σ Hs H x k Q q => q _ Hs H k Fr.refl (.int i)
theorem ed_str {i : Str} : EvD C (tC (.str i)) Γ S (.str i) S := fun B σ Hs H x k Q q => q _ Hs H k Fr.refl (.str i)
theorem ed_bl {i : Bool} : EvD C (tC (.bl i)) Γ S (.bool i) S := fun B σ Hs H x k Q q => q _ Hs H k Fr.refl (.bl i)
theorem ed_non : EvD C (tC .non) Γ S .none S := fun B σ Hs H x k Q q => q _ Hs H k Fr.refl .non
/-- a constant of the module -/
theorem ed_glob {v : V} (h : ∀ H, Dp C.K H v d) : EvD C (tC v) Γ S d S := fun B σ Hs H x k Q q => q _ Hs H k Fr.refl (h Hs)
theorem ed_op {r : R2} (ha : EvD C ta Γ S da S1) (hb : EvD C tb Γ S1 db S2) (hr : RD C.K r da db dz) : EvD C (tOp r ta tb) Γ S dz S2 := fun B σ Hs H x k Q q =>
  ha B σ Hs H x k _ fun v Hs1 H1 k1 f1 d1 => hb B σ Hs1 H1 (x.fr k f1) k1 _ fun w Hs2 H2 k2 f2 d2 => hr Hs2 H2 v w Q k2.exs (dp_mono f2.exs _ _ d1) d2 fun z Hs3 H3 a dz => by
    obtain ⟨k3, f3⟩ := k2.alc a
    exact q z Hs3 H3 k3 (Fr.trans k2 k3 (Fr.trans k1 k2 f1 f2) f3) dz
theorem ed_un {r : V → Hp → VK → Prop} (ha : EvD C ta Γ S da S1) (hr : RU C.K r da dz) : EvD C (tUn r ta) Γ S dz S1 := fun B σ Hs H x k Q q =>
  ha B σ Hs H x k _ fun v Hs1 H1 k1 f1 d1 => hr Hs1 H1 v Q k1.exs d1 fun z Hs3 H3 a dz => by
    obtain ⟨k3, f3⟩ := k1.alc a
    exact q z Hs3 H3 k3 (Fr.trans k1 k3 f1 f3) dz
theorem ea_nil : EvA C tNil Γ S [] S := fun B σ Hs H x k Q q => q [] Hs H k Fr.refl .nil
theorem ea_cons {tr : TA} {ds : List PyData} (ha : EvD C ta Γ S d S1) (hr : EvA C tr Γ S1 ds S2) : EvA C (tCons ta tr) Γ S (d :: ds) S2 := fun B σ Hs H x k Q q =>
  ha B σ Hs H x k _ fun v Hs1 H1 k1 f1 d1 => hr B σ Hs1 H1 (x.fr k f1) k1 _ fun vs Hs2 H2 k2 f2 d2 => q (v :: vs) Hs2 H2 k2 (Fr.trans k1 k2 f1 f2) (.cons (dp_mono f2.exs _ _ d1) d2)
theorem ed_cb {r : List V → Hp → VK → Prop} {tl : TA} {ds : List PyData} (ha : EvA C tl Γ S ds S1) (hr : RC C.K r ds dz) : EvD C (tCB r tl) Γ S dz S1 := fun B σ Hs H x k Q q =>
  ha B σ Hs H x k _ fun vs Hs1 H1 k1 f1 d1 => hr Hs1 H1 vs Q k1.exs d1 fun z Hs3 H3 a dz => by
    obtain ⟨k3, f3⟩ := k1.alc a
    exact q z Hs3 H3 k3 (Fr.trans k1 k3 f1 f3) dz
theorem ed_tup {tl : TA} {ds : List PyData} (ha : EvA C tl Γ S ds S1) (hl : ds.length ≤ sizeLine) : EvD C (tTup tl) Γ S (.tuple ds) S1 := fun B σ Hs H x k Q q =>
  ha B σ Hs H x k _ fun vs Hs1 H1 k1 f1 d1 => ⟨by rw [DpAll.length d1]; exact hl, fun p hp => q _ (upd Hs1 p (.tup vs)) _ (k1.laid hp) (Fr.trans k1 (k1.laid hp) f1 (k1.laidFr hp)) (.tup (SqT.of upd_same) (dpAll_mono (Ex.new (k1.freshS hp)) _ _ d1))⟩
theorem ed_lst {tl : TA} {ds : List PyData} (ha : EvA C tl Γ S ds S1) (hl : ds.length ≤ sizeLine) : EvD C (tLst tl) Γ S (.list ds) S1 := fun B σ Hs H x k Q q =>
  ha B σ Hs H x k _ fun vs Hs1 H1 k1 f1 d1 => ⟨by rw [DpAll.length d1]; exact hl, fun p hp => q _ (upd Hs1 p (.lst vs)) _ (k1.laid hp) (Fr.trans k1 (k1.laid hp) f1 (k1.laidFr hp)) (.lst (SqL.of upd_same) (dpAll_mono (Ex.new (k1.freshS hp)) _ _ d1))⟩
theorem eo_none : EvO C tNoPart Γ S none S := fun B σ Hs H x k Q q => q Hs H k Fr.refl
theorem eo_some {i : Int} (h : EvD C te Γ S (.int i) S') : EvO C (tPart te) Γ S (some i) S' := fun B σ Hs H x k Q q =>
  h B σ Hs H x k _ fun v Hs1 H1 k1 f1 d1 => ⟨i, Dp.toI d1, q Hs1 H1 k1 f1⟩
/-! ### tests -/
theorem et_test {b : Bool} (h : EvD C te Γ S (.bool b) S') : EvT C (tTest te) Γ S b S' := fun B σ Hs H x k Q q =>
  h B σ Hs H x k _ fun v Hs1 H1 k1 f1 d1 => ⟨b, Dp.toB d1, q Hs1 H1 k1 f1⟩
theorem et_B {b : Bool} (h : EvD C te Γ S (.bool b) S') : EvT C (tB te) Γ S b S' := fun B σ Hs H x k Q q =>
  h B σ Hs H x k _ fun v Hs1 H1 k1 f1 d1 => ⟨b, Dp.toB d1, q Hs1 H1 k1 f1⟩
theorem et_and {a b : Bool} (h1 : EvT C t Γ S a S1) (h2 : a = true → EvT C u Γ S1 b S2) (h3 : a = false → S1 = S2) : EvT C (tAnd t u) Γ S (a && b) S2 := fun B σ Hs H x k Q q =>
  h1 B σ Hs H x k _ fun Hs1 H1 k1 f1 => by
    cases a with
    | true =>
      show u σ H1 Q
      exact h2 rfl B σ Hs1 H1 (x.fr k f1) k1 Q fun Hs2 H2 k2 f2 => q Hs2 H2 k2 (Fr.trans k1 k2 f1 f2)
    | false =>
      show Q false H1
      cases h3 rfl
      exact q Hs1 H1 k1 f1
theorem et_or {a b : Bool} (h1 : EvT C t Γ S a S1) (h2 : a = false → EvT C u Γ S1 b S2) (h3 : a = true → S1 = S2) : EvT C (tOr t u) Γ S (a || b) S2 := fun B σ Hs H x k Q q =>
  h1 B σ Hs H x k _ fun Hs1 H1 k1 f1 => by
    cases a with
    | false =>
      show u σ H1 Q
      exact h2 rfl B σ Hs1 H1 (x.fr k f1) k1 Q fun Hs2 H2 k2 f2 => q Hs2 H2 k2 (Fr.trans k1 k2 f1 f2)
    | true =>
      show Q true H1
      cases h3 rfl
      exact q Hs1 H1 k1 f1
/-- both without a change of the store -/
theorem et_and0 {a b : Bool} (h1 : EvT C t Γ S a S) (h2 : a = true → EvT C u Γ S b S) : EvT C (tAnd t u) Γ S (a && b) S := et_and h1 h2 fun _ => rfl
theorem et_or0 {a b : Bool} (h1 : EvT C t Γ S a S) (h2 : a = false → EvT C u Γ S b S) : EvT C (tOr t u) Γ S (a || b) S := et_or h1 h2 fun _ => rfl
theorem et_not {a : Bool} (h : EvT C t Γ S a S') : EvT C (tNot t) Γ S (!a) S' := fun B σ Hs H x k Q q => h B σ Hs H x k _ fun Hs1 H1 k1 f1 => q Hs1 H1 k1 f1
theorem et_yes : EvT C tYes Γ S true S := fun B σ Hs H x k Q q => q Hs H k Fr.refl
theorem ed_if {b : Bool} (h : EvT C t Γ S b S1) (h1 : b = true → EvD C ta Γ S1 d S2) (h2 : b = false → EvD C tb Γ S1 d S2) : EvD C (tIf t ta tb) Γ S d S2 := fun B σ Hs H x k Q q =>
  h B σ Hs H x k _ fun Hs1 H1 k1 f1 => by
    cases b with
    | true =>
      show ta σ H1 Q
      exact h1 rfl B σ Hs1 H1 (x.fr k f1) k1 Q fun v Hs2 H2 k2 f2 d2 => q v Hs2 H2 k2 (Fr.trans k1 k2 f1 f2) d2
    | false =>
      show tb σ H1 Q
      exact h2 rfl B σ Hs1 H1 (x.fr k f1) k1 Q fun v Hs2 H2 k2 f2 d2 => q v Hs2 H2 k2 (Fr.trans k1 k2 f1 f2) d2
theorem ed_andV {a b : Bool} (h1 : EvD C ta Γ S (.bool a) S1) (h2 : a = true → EvD C tb Γ S1 (.bool b) S1) : EvD C (tAndV ta tb) Γ S (.bool (a && b)) S1 := fun B σ Hs H x k Q q =>
  h1 B σ Hs H x k _ fun v Hs1 H1 k1 f1 d1 => ⟨a, Dp.toB d1, by
    cases a with
    | true =>
      show tb σ H1 Q
      exact h2 rfl B σ Hs1 H1 (x.fr k f1) k1 Q fun v Hs2 H2 k2 f2 d2 => q v Hs2 H2 k2 (Fr.trans k1 k2 f1 f2) d2
    | false =>
      show Q (.bl false) H1
      exact q _ Hs1 H1 k1 f1 (.bl _)⟩
theorem ed_orV {a b : Bool} (h1 : EvD C ta Γ S (.bool a) S1) (h2 : a = false → EvD C tb Γ S1 (.bool b) S1) : EvD C (tOrV ta tb) Γ S (.bool (a || b)) S1 := fun B σ Hs H x k Q q =>
  h1 B σ Hs H x k _ fun v Hs1 H1 k1 f1 d1 => ⟨a, Dp.toB d1, by
    cases a with
    | false =>
      show tb σ H1 Q
      exact h2 rfl B σ Hs1 H1 (x.fr k f1) k1 Q fun v Hs2 H2 k2 f2 d2 => q v Hs2 H2 k2 (Fr.trans k1 k2 f1 f2) d2
    | true =>
      show Q (.bl true) H1
      exact q _ Hs1 H1 k1 f1 (.bl _)⟩
theorem ed_notV {a : Bool} (h1 : EvD C ta Γ S (.bool a) S1) : EvD C (tNotV ta) Γ S (.bool (!a)) S1 := fun B σ Hs H x k Q q =>
  h1 B σ Hs H x k _ fun v Hs1 H1 k1 f1 d1 => ⟨a, Dp.toB d1, q _ Hs1 H1 k1 f1 (.bl _)⟩
end

/-! ### iterators -/
structure WalkD (K : PySem.W.Frag) (J : It) (xs : List PyData) (Hs0 : Hp) : Prop where
  goes : ∀ i Hs H, i < xs.length → Ex Hs0 Hs → Ex Hs H → J.go i H
  stops : ∀ Hs H, Ex Hs0 Hs → Ex Hs H → J.stop xs.length H
  yields : ∀ i d Hs H x H', xs[i]? = some d → Ex Hs0 Hs → Ex Hs H → J.yld i H x H' → ∃ Hs', Alc Hs H Hs' H' ∧ Dp K Hs' x d
def EvI (C : Cq) (wi : TI) (Γ : List Sl) (S : Sto) (xs : List PyData) (S' : Sto) : Prop :=
  ∀ B σ Hs H, SlsOk C B Hs H σ Γ → HOk C B S Hs H → ∀ R : It → Hp → Prop, (∀ J Hs' H', HOk C B S' Hs' H' → Fr C Hs H Hs' H' → WalkD C.K J xs Hs' → R J H') → wi σ H R
section
variable {C : Cq} {S S' : Sto} {Γ : List Sl} {te : TE} {ta : TA} {K : PySem.W.Frag} {xs ys : List PyData} {Hs0 : Hp}
theorem walkD_list {a : Addr} {vs : List V} (h : SqL K Hs0 a vs) (hd : DpAll K Hs0 vs xs) : WalkD K (Itl K a) xs Hs0 where
  goes := fun i Hs H hi e1 e2 => ⟨vs, vs[i]'(by rw [DpAll.length hd]; exact hi), sqL_mono (e1.trans e2) h, List.getElem?_eq_getElem _⟩
  stops := fun Hs H e1 e2 => ⟨vs, sqL_mono (e1.trans e2) h, by rw [DpAll.length hd]; exact Nat.le_refl _⟩
  yields := fun i d Hs H x H' hx e1 e2 y => by
    obtain ⟨rfl, y⟩ := y
    obtain ⟨v, q1, q2⟩ := DpAll.get hd hx
    have q3 := y vs (sqL_mono (e1.trans e2) h)
    rw [q1] at q3
    cases q3
    exact ⟨Hs, .same, dp_mono e1 _ _ q2⟩
theorem walkD_tup {a : Addr} {vs : List V} (h : SqT K Hs0 a vs) (hd : DpAll K Hs0 vs xs) : WalkD K (Itt K a) xs Hs0 where
  goes := fun i Hs H hi e1 e2 => ⟨vs, vs[i]'(by rw [DpAll.length hd]; exact hi), sqT_mono (e1.trans e2) h, List.getElem?_eq_getElem _⟩
  stops := fun Hs H e1 e2 => ⟨vs, sqT_mono (e1.trans e2) h, by rw [DpAll.length hd]; exact Nat.le_refl _⟩
  yields := fun i d Hs H x H' hx e1 e2 y => by
    obtain ⟨rfl, y⟩ := y
    obtain ⟨v, q1, q2⟩ := DpAll.get hd hx
    have q3 := y vs (sqT_mono (e1.trans e2) h)
    rw [q1] at q3
    cases q3
    exact ⟨Hs, .same, dp_mono e1 _ _ q2⟩
def rngD (lo : Int) (n : Nat) : List PyData := (List.range n).map fun (i : Nat) => PyData.int (lo + (i : Int))
theorem rngD_len (lo : Int) (n : Nat) : (rngD lo n).length = n := by simp [rngD]
theorem walkD_range {lo : Int} {n : Nat} : WalkD K (Itr lo n) (rngD lo n) Hs0 where
  goes := fun i Hs H hi e1 e2 => by
    rw [rngD_len] at hi
    exact hi
  stops := fun Hs H e1 e2 => by
    rw [rngD_len]
    exact Nat.le_refl _
  yields := fun i d Hs H x H' hx e1 e2 y => by
    obtain ⟨rfl, rfl⟩ := y
    have e : d = .int (lo + (i : Int)) := by
      unfold rngD at hx
      rw [List.getElem?_map] at hx
      cases q : (List.range n)[i]? with
      | none =>
        rw [q] at hx
        cases hx
      | some j =>
        rw [q] at hx
        have hj : i = j := by
          have := List.getElem?_eq_some_iff.mp q
          obtain ⟨h1, h2⟩ := this
          simpa using h2
        subst hj
        cases hx
        rfl
    subst e
    exact ⟨Hs, .same, .int _⟩
theorem ei_list (h : EvD C te Γ S (.list xs) S') : EvI C (iList C.K te) Γ S xs S' := fun B σ Hs H x k R q =>
  h B σ Hs H x k _ fun v Hs1 H1 k1 f1 d1 => by
    obtain ⟨a, vs, rfl, hs, hd⟩ := Dp.toL d1
    exact ⟨a, rfl, ⟨vs, sqL_mono k1.exs hs⟩, q _ Hs1 H1 k1 f1 (walkD_list hs hd)⟩
theorem ei_tup (h : EvD C te Γ S (.tuple xs) S') : EvI C (iTup C.K te) Γ S xs S' := fun B σ Hs H x k R q =>
  h B σ Hs H x k _ fun v Hs1 H1 k1 f1 d1 => by
    obtain ⟨a, vs, rfl, hs, hd⟩ := Dp.toT d1
    exact ⟨a, rfl, ⟨vs, sqT_mono k1.exs hs⟩, q _ Hs1 H1 k1 f1 (walkD_tup hs hd)⟩
theorem ei_rng1 {n : Int} (h : EvA C ta Γ S [.int n] S') (hb : -1000000 ≤ n ∧ n ≤ 1000000) : EvI C (iRng1 ta) Γ S (rngD 0 n.toNat) S' := fun B σ Hs H x k R q =>
  h B σ Hs H x k _ fun vs Hs1 H1 k1 f1 d1 => by
    have e : vs = [.int n] := DpAll.ints (ns := [n]) d1
    subst e
    exact ⟨n, rfl, by omega, by omega, q _ Hs1 H1 k1 f1 walkD_range⟩
theorem ei_rng2 {m n : Int} (h : EvA C ta Γ S [.int m, .int n] S') (hb : -1000000 ≤ m ∧ m ≤ 1000000 ∧ -1000000 ≤ n ∧ n ≤ 1000000) : EvI C (iRng2 ta) Γ S (rngD m (n - m).toNat) S' := fun B σ Hs H x k R q =>
  h B σ Hs H x k _ fun vs Hs1 H1 k1 f1 d1 => by
    have e : vs = [.int m, .int n] := DpAll.ints (ns := [m, n]) d1
    subst e
    exact ⟨m, n, rfl, by omega, q _ Hs1 H1 k1 f1 walkD_range⟩
end

/-! ### targets -/
/-- the datum d goes to the target g: the slots Γ become Γ'; only slots in js change -/
def GT (C : Cq) (g : TG) (d : PyData) (js : List Nat) (Γ Γ' : List Sl) : Prop :=
  ∀ B S v σ Hs H, SlsOk C B Hs H σ Γ → HOk C B S Hs H → Dp C.K Hs v d → ∀ Q : L2.St → Hp → Prop, (∀ σ', SlsOk C B Hs H σ' Γ' → (∀ i, i ∉ js → σ'[i]? = σ[i]?) → σ'.length = σ.length → Q σ' H) → g v σ H Q
def GTs (C : Cq) (g : TGs) (ds : List PyData) (js : List Nat) (Γ Γ' : List Sl) : Prop :=
  ∀ B S vs σ Hs H, SlsOk C B Hs H σ Γ → HOk C B S Hs H → DpAll C.K Hs vs ds → ∀ Q : L2.St → Hp → Prop, (∀ σ', SlsOk C B Hs H σ' Γ' → (∀ i, i ∉ js → σ'[i]? = σ[i]?) → σ'.length = σ.length → Q σ' H) → g vs σ H Q
section
variable {C : Cq} {Γ Γ1 Γ2 : List Sl} {d : PyData} {ds : List PyData} {g : TG} {gs : TGs} {js ks : List Nat}
theorem gt_name {j : Nat} : GT C (gName j) d [j] Γ (Γ.set j (.dat d)) := fun B S v σ Hs H x k hd Q q =>
  q _ (x.setD j hd) (fun i hi => List.getElem?_set_ne fun e => hi (by rw [e]; exact List.mem_cons_self)) (List.length_set ..)
theorem gts_nil : GTs C gNil [] [] Γ Γ := fun B S vs σ Hs H x k hd Q q => by
  cases hd
  exact ⟨rfl, q σ x (fun _ _ => rfl) rfl⟩
theorem gts_cons (h : GT C g d js Γ Γ1) (hs : GTs C gs ds ks Γ1 Γ2) : GTs C (gCons g gs) (d :: ds) (js ++ ks) Γ Γ2 := fun B S vs σ Hs H x k hd Q q => by
  cases hd with
  | cons h1 h2 =>
    refine ⟨_, _, rfl, h B S _ σ Hs H x k h1 _ fun σ1 x1 o1 l1 => hs B S _ σ1 Hs H x1 k h2 _ fun σ2 x2 o2 l2 => q σ2 x2 (fun i hi => ?_) (l2.trans l1)⟩
    rw [List.mem_append, not_or] at hi
    rw [o2 i hi.2, o1 i hi.1]
theorem gt_tup {n : Nat} (hs : GTs C gs ds js Γ Γ1) (hn : ds.length = n) : GT C (gTup C.K n gs) (.tuple ds) js Γ Γ1 := fun B S v σ Hs H x k hd Q q => by
  obtain ⟨a, vs, rfl, hsq, hda⟩ := Dp.toT hd
  exact ⟨a, vs, rfl, sqT_mono k.exs hsq, by rw [DpAll.length hda, hn], hs B S vs σ Hs H x k hda Q q⟩
end

/-! ### wiping -/
def wipeG (Γ : List Sl) : List Nat → List Sl
  | [] => Γ
  | v :: vs => (wipeG Γ vs).set v .un
theorem wipe_sls {C : Cq} {B : Bs} {Hs H : Hp} {σ : L2.St} {Γ : List Sl} (x : SlsOk C B Hs H σ Γ) : ∀ vs : List Nat, SlsOk C B Hs H (wipe σ vs) (wipeG Γ vs)
  | [] => x
  | v :: vs => (wipe_sls x vs).setU v none
theorem wipe_get (σ : L2.St) (i : Nat) : ∀ vs : List Nat, (wipe σ vs)[i]? = if i ∈ vs then (σ[i]?).map (fun _ => none) else σ[i]?
  | [] => by simp [wipe]
  | v :: vs => by
    unfold wipe
    rw [List.getElem?_set]
    by_cases hv : v = i
    · subst hv
      rw [if_pos rfl, if_pos List.mem_cons_self, wipe_length]
      by_cases hl : v < σ.length
      · rw [if_pos hl, List.getElem?_eq_getElem hl] <;> rfl
      · rw [if_neg hl, List.getElem?_eq_none (by omega)] <;> rfl
    · rw [if_neg hv, wipe_get σ i vs]
      by_cases hi : i ∈ vs
      · rw [if_pos hi, if_pos (List.mem_cons_of_mem _ hi)]
      · rw [if_neg hi, if_neg]
        intro q
        rcases List.mem_cons.mp q with rfl | q
        · exact hv rfl
        · exact hi q
theorem wipe_eq {σ σ' : L2.St} {vs : List Nat} (o : ∀ i, i ∉ vs → σ'[i]? = (wipe σ vs)[i]?) (l : σ'.length = (wipe σ vs).length) : wipe σ' vs = wipe σ vs := by
  apply List.ext_getElem?
  intro i
  by_cases hi : i ∈ vs
  · rw [wipe_get, wipe_get, if_pos hi, if_pos hi]
    rw [wipe_length] at l
    by_cases hl : i < σ.length
    · rw [List.getElem?_eq_getElem hl, List.getElem?_eq_getElem (by omega)] <;> rfl
    · rw [List.getElem?_eq_none (by omega), List.getElem?_eq_none (by omega)]
  · rw [wipe_get σ' i vs, if_neg hi]
    exact o i hi

/-! ### comprehensions -/
/-- a new list, held by nobody else -/
def EvN (C : Cq) (te : TE) (Γ : List Sl) (S : Sto) (xs : List PyData) (S' : Sto) : Prop :=
  ∀ B σ Hs H, SlsOk C B Hs H σ Γ → HOk C B S Hs H → ∀ Q : VK, (∀ p vs Hs' H', HOk C B S' Hs' H' → Fr C Hs H Hs' H' → H p = none → H' p = some (.lst vs) → Hs' p = none → DpAll C.K Hs' vs xs → Q (.ref p) H') → te σ H Q
/-- what a comprehension makes, the store handed on from item to item -/
def runL {α : Type} (step : α → Sto → Option PyData × Sto) : List α → Sto → List PyData × Sto
  | [], s => ([], s)
  | a :: as, s => ((step a s).1.toList ++ (runL step as (step a s).2).1, (runL step as (step a s).2).2)
theorem runL_cons {α : Type} (step : α → Sto → Option PyData × Sto) (a : α) (as : List α) (s : Sto) : runL step (a :: as) s = ((step a s).1.toList ++ (runL step as (step a s).2).1, (runL step as (step a s).2).2) := rfl
section
variable {C : Cq} {S S1 : Sto} {Γ : List Sl} {wi : TI} {g : TG} {tt : TT} {te : TE} {vs : List Nat} {α : Type}
theorem en_lcI {as : List α} {enc : α → PyData} (I : Sto → Prop) (step : α → Sto → Option PyData × Sto) (hi : EvI C wi Γ S (as.map enc) S1) (hI : I S1) (hl : as.length < 1000000)
    (hb : ∀ a s, a ∈ as → I s → I (step a s).2 ∧ ∃ Γx js, GT C g (enc a) js (wipeG Γ vs) Γx ∧ (∀ j ∈ js, j ∈ vs) ∧ ∃ b s1, EvT C tt Γx s b s1 ∧ (b = true → ∃ d s2, EvD C te Γx s1 d s2 ∧ step a s = (some d, s2)) ∧ (b = false → step a s = (none, s1))) :
    EvN C (tLc wi g tt te vs) Γ S (runL step as S1).1 (runL step as S1).2 := fun B σ Hs H x k Q q =>
  hi B σ Hs H x k _ fun J Hs1 H1 k1 f1 w D hD => by
    have zs : sizeLine = 16777216 := sizeLine_eq
    -- what stands at turn i
    refine ⟨fun i m H' => m = as.length - i ∧ i ≤ as.length ∧ ∃ Hs' acc ds s, I s ∧ H' D = some (.lst acc) ∧ Hs' D = none ∧ DpAll C.K Hs' acc ds ∧ HOk C B s Hs' H' ∧ Fr C Hs1 H1 Hs' H' ∧ acc.length ≤ i ∧
      (runL step as S1).1 = ds ++ (runL step (as.drop i) s).1 ∧ (runL step as S1).2 = (runL step (as.drop i) s).2, ⟨as.length, rfl, Nat.zero_le _, Hs1, [], [], S1, hI, upd_same, k1.freshS hD, .nil, ?_, ?_, Nat.le_refl _, rfl, rfl⟩, ?_⟩
    · refine ⟨fun a u hb e => ?_, k1.exs0, fun a u e => ?_, k1.new, fun lo e => ?_⟩
      · rw [upd_ne (ne_of_none (k1.ex0 a u hb e) hD)]
        exact k1.ex0 a u hb e
      · rw [upd_ne (ne_of_none (k1.exs a u e) hD)]
        exact k1.exs a u e
      · obtain ⟨s, s6⟩ := k1.sto lo e
        refine ⟨⟨s.nd, s.nl, ?_, ?_⟩, s6⟩
        · rw [upd_ne (ne_of_none s.d hD)]
          exact s.d
        · rw [upd_ne (ne_of_none s.l hD)]
          exact s.l
    · refine ⟨Ex.refl _, fun a u _ e => ?_, fun a u e => .inl ⟨u, e⟩⟩
      rw [upd_ne (ne_of_none e hD)]
      exact e
    · rintro i m H' ⟨rfl, hile, Hs', acc, ds, s, hIs, hDl, hDs, hda, k', f', hacc, e1, e2⟩
      have xl : (as.map enc).length = as.length := List.length_map ..
      have ndb : ¬ C.bad D := fun hb => by
        obtain ⟨_, ⟨u, z⟩, _⟩ := k1.bad_no hb
        rw [hD] at z
        cases z
      by_cases hlt : i < as.length
      · refine .inr ⟨w.goes i Hs' H' (by rw [xl]; exact hlt) f'.exs k'.exs, fun H2 => ∃ Hs2 acc ds s, I s ∧ H2 D = some (.lst acc) ∧ Hs2 D = none ∧ DpAll C.K Hs2 acc ds ∧ HOk C B s Hs2 H2 ∧ Fr C Hs1 H1 Hs2 H2 ∧ acc.length ≤ i + 1 ∧
          (runL step as S1).1 = ds ++ (runL step (as.drop (i + 1)) s).1 ∧ (runL step as S1).2 = (runL step (as.drop (i + 1)) s).2, fun H2 hN => ⟨as.length - (i + 1), by omega, rfl, hlt, hN⟩, fun v H2 hy => ?_⟩
        have ea : (as.map enc)[i]? = some (enc as[i]) := by
          rw [List.getElem?_map, List.getElem?_eq_getElem hlt] <;> rfl
        obtain ⟨Hs2, al, hv⟩ := w.yields i _ Hs' H' v H2 ea f'.exs k'.exs hy
        obtain ⟨k2, f2⟩ := k'.alc al
        have f12 := Fr.trans k' k2 f' f2
        have hDl2 : H2 D = some (.lst acc) := f2.ex D _ ndb hDl
        have hDs2 : Hs2 D = none := by
          cases z : Hs2 D with
          | none => rfl
          | some u =>
            rcases f2.new D u z with ⟨u', y⟩ | y
            · rw [hDs] at y
              cases y
            · rw [hDl] at y
              cases y
        have hda2 := dpAll_mono f2.exs _ _ hda
        obtain ⟨hIn, Γx, js, ht, hjs, b, s1, hT, hE, hF⟩ := hb as[i] s (List.getElem_mem hlt) hIs
        have edrop : as.drop i = as[i] :: as.drop (i + 1) := List.drop_eq_getElem_cons hlt
        have x0 : SlsOk C B Hs2 H2 σ Γ := (x.fr k f1).fr k1 f12
        refine ht B s v (wipe σ vs) Hs2 H2 (wipe_sls x0 vs) k2 hv _ fun σ2 x2 o2 l2 => ?_
        refine ⟨wipe_eq (fun j hj => o2 j fun hm => hj (hjs j hm)) l2, ?_⟩
        refine hT B σ2 Hs2 H2 x2 k2 _ fun Hs3 H3 k3 f3 => ?_
        have f13 := Fr.trans k2 k3 f12 f3
        have hDl3 : H3 D = some (.lst acc) := f3.ex D _ ndb hDl2
        have hDs3 : Hs3 D = none := by
          cases z : Hs3 D with
          | none => rfl
          | some u =>
            rcases f3.new D u z with ⟨u', y⟩ | y
            · rw [hDs2] at y
              cases y
            · rw [hDl2] at y
              cases y
        have hda3 := dpAll_mono f3.exs _ _ hda2
        cases b with
        | false =>
          show ∃ Hs2 acc ds s, I s ∧ H3 D = some (.lst acc) ∧ _
          have est := hF rfl
          rw [est] at hIn
          refine ⟨Hs3, acc, ds, s1, hIn, hDl3, hDs3, hda3, k3, f13, by omega, ?_, ?_⟩
          · rw [e1, edrop]
            rw [runL_cons, est] <;> rfl
          · rw [e2, edrop]
            rw [runL_cons, est] <;> rfl
        | true =>
          obtain ⟨d, s2, hD2, est⟩ := hE rfl
          refine hD2 B σ2 Hs3 H3 (x2.fr k2 f3) k3 _ fun y Hs4 H4 k4 f4 dy => ?_
          have f14 := Fr.trans k3 k4 f13 f4
          have hDl4 : H4 D = some (.lst acc) := f4.ex D _ ndb hDl3
          have hDs4 : Hs4 D = none := by
            cases z : Hs4 D with
            | none => rfl
            | some u =>
              rcases f4.new D u z with ⟨u', y⟩ | y
              · rw [hDs3] at y
                cases y
              · rw [hDl3] at y
                cases y
          have hda4 := dpAll_mono f4.exs _ _ hda3
          have fD0 := k1.fresh0 hD
          rw [est] at hIn
          refine ⟨acc, hDl4, by omega, Hs4, acc ++ [y], ds ++ [d], s2, hIn, upd_same, hDs4, DpAll.append hda4 (DpAll.one dy), ?_, ?_, ?_, ?_, ?_⟩
          · refine ⟨fun a u hb e => ?_, k4.exs0, fun a u e => ?_, k4.new, fun lo e => ?_⟩
            · rw [upd_ne (ne_of_none e fD0)]
              exact k4.ex0 a u hb e
            · rw [upd_ne (ne_of_none e hDs4)]
              exact k4.exs a u e
            · obtain ⟨s, s6⟩ := k4.sto lo e
              have n1 : lo.d ≠ D := fun z => ndb ⟨lo, e, .inl z.symm⟩
              have n2 : lo.l ≠ D := fun z => ndb ⟨lo, e, .inr z.symm⟩
              refine ⟨⟨s.nd, s.nl, ?_, ?_⟩, s6⟩
              · rw [upd_ne n1]
                exact s.d
              · rw [upd_ne n2]
                exact s.l
          · refine ⟨f14.exs, fun a u hb e => ?_, f14.new⟩
            rw [upd_ne (ne_of_none e hD)]
            exact f14.ex a u hb e
          · rw [List.length_append, List.length_singleton]
            omega
          · rw [e1, edrop]
            rw [runL_cons, est, List.append_assoc] <;> rfl
          · rw [e2, edrop]
            rw [runL_cons, est] <;> rfl
      · have ei : i = as.length := by omega
        subst ei
        refine .inl ⟨?_, ?_⟩
        · have := w.stops Hs' H' f'.exs k'.exs
          rw [xl] at this
          exact this
        · rw [List.drop_length] at e1 e2
          have e1' : (runL step as S1).1 = ds := by rw [e1]; exact List.append_nil ds
          have e2' : (runL step as S1).2 = s := e2
          rw [e1', e2'] at q
          refine q D acc Hs' H' k' (Fr.trans k1 k' f1 f') ?_ hDl hDs hda
          cases z : H D with
          | none => rfl
          | some u =>
            by_cases hb : C.bad D
            · exact absurd hb ndb
            · rw [f1.ex D u hb z] at hD
              cases hD
/-- a new list stays from here on -/
theorem ed_ofNew {xs : List PyData} {S' : Sto} {tn : TE} (h : EvN C tn Γ S xs S') : EvD C tn Γ S (.list xs) S' := fun B σ Hs H x k Q q =>
  h B σ Hs H x k Q fun D acc Hs' H' k' f' hD hDl hDs hda => by
    have ndb : ¬ C.bad D := fun hb => by
      obtain ⟨_, ⟨u, z⟩, _⟩ := k.bad_no hb
      rw [hD] at z
      cases z
    have hnew : HOk C B S' (upd Hs' D (.lst acc)) H' := by
      refine ⟨k'.ex0, k'.exs0.trans (Ex.new hDs), fun a u e => ?_, fun a u e => ?_, fun lo e => ?_⟩
      · by_cases hq : a = D
        · subst hq
          rw [upd_same] at e
          cases e
          exact hDl
        · rw [upd_ne hq] at e
          exact k'.exs a u e
      · by_cases hq : a = D
        · subst hq
          exact .inr (k.fresh0 hD)
        · rw [upd_ne hq] at e
          exact k'.new a u e
      · obtain ⟨s, s6⟩ := k'.sto lo e
        have n1 : lo.d ≠ D := fun z => ndb ⟨lo, e, .inl z.symm⟩
        have n2 : lo.l ≠ D := fun z => ndb ⟨lo, e, .inr z.symm⟩
        refine ⟨⟨?_, ?_, s.d, s.l⟩, s6⟩
        · rw [upd_ne n1]
          exact s.nd
        · rw [upd_ne n2]
          exact s.nl
    refine q (.ref D) _ H' hnew ⟨f'.exs.trans (Ex.new hDs), f'.ex, fun a u e => ?_⟩ (.lst (SqL.of upd_same) (dpAll_mono (Ex.new hDs) _ _ hda))
    by_cases hq : a = D
    · subst hq
      exact .inr hD
    · rw [upd_ne hq] at e
      exact f'.new a u e
theorem ed_lcI {as : List α} {enc : α → PyData} (I : Sto → Prop) (step : α → Sto → Option PyData × Sto) (hi : EvI C wi Γ S (as.map enc) S1) (hI : I S1) (hl : as.length < 1000000)
    (hb : ∀ a s, a ∈ as → I s → I (step a s).2 ∧ ∃ Γx js, GT C g (enc a) js (wipeG Γ vs) Γx ∧ (∀ j ∈ js, j ∈ vs) ∧ ∃ b s1, EvT C tt Γx s b s1 ∧ (b = true → ∃ d s2, EvD C te Γx s1 d s2 ∧ step a s = (some d, s2)) ∧ (b = false → step a s = (none, s1))) :
    EvD C (tLc wi g tt te vs) Γ S (.list (runL step as S1).1) (runL step as S1).2 := ed_ofNew (en_lcI I step hi hI hl hb)
theorem ed_lcS {as : List α} {enc : α → PyData} (step : α → Sto → Option PyData × Sto) (hi : EvI C wi Γ S (as.map enc) S1) (hl : as.length < 1000000)
    (hb : ∀ a s, a ∈ as → ∃ Γx js, GT C g (enc a) js (wipeG Γ vs) Γx ∧ (∀ j ∈ js, j ∈ vs) ∧ ∃ b s1, EvT C tt Γx s b s1 ∧ (b = true → ∃ d s2, EvD C te Γx s1 d s2 ∧ step a s = (some d, s2)) ∧ (b = false → step a s = (none, s1))) :
    EvD C (tLc wi g tt te vs) Γ S (.list (runL step as S1).1) (runL step as S1).2 := ed_lcI (fun _ => True) step hi trivial hl fun a s ha _ => ⟨trivial, hb a s ha⟩
/-- without draws -/
theorem runL_pure (f : α → Bool) (g : α → PyData) : ∀ (as : List α) (s : Sto), runL (fun a s => (if f a = true then some (g a) else none, s)) as s = ((as.filter f).map g, s)
  | [], s => rfl
  | a :: as, s => by
    unfold runL
    rw [runL_pure f g as s]
    cases h : f a with
    | true => simp [h]
    | false => simp [h]
theorem ed_lc {as : List α} {enc : α → PyData} (f : α → Bool) (el : α → PyData) (hi : EvI C wi Γ S (as.map enc) S1) (hl : as.length < 1000000)
    (hb : ∀ a, a ∈ as → ∃ Γx js, GT C g (enc a) js (wipeG Γ vs) Γx ∧ (∀ j ∈ js, j ∈ vs) ∧ ∀ s, EvT C tt Γx s (f a) s ∧ (f a = true → EvD C te Γx s (el a) s)) :
    EvD C (tLc wi g tt te vs) Γ S (.list ((as.filter f).map el)) S1 := by
  have h := ed_lcS (C := C) (wi := wi) (g := g) (tt := tt) (te := te) (vs := vs) (fun a s => (if f a = true then some (el a) else none, s)) hi hl fun a s ha => by
    obtain ⟨Γx, js, h1, h2, h3⟩ := hb a ha
    refine ⟨Γx, js, h1, h2, f a, s, (h3 s).1, fun q => ⟨el a, s, (h3 s).2 q, by rw [q] <;> rfl⟩, fun q => by rw [q] <;> rfl⟩
  rw [runL_pure] at h
  exact h
theorem en_lc {as : List α} {enc : α → PyData} (f : α → Bool) (el : α → PyData) (hi : EvI C wi Γ S (as.map enc) S1) (hl : as.length < 1000000)
    (hb : ∀ a, a ∈ as → ∃ Γx js, GT C g (enc a) js (wipeG Γ vs) Γx ∧ (∀ j ∈ js, j ∈ vs) ∧ ∀ s, EvT C tt Γx s (f a) s ∧ (f a = true → EvD C te Γx s (el a) s)) :
    EvN C (tLc wi g tt te vs) Γ S ((as.filter f).map el) S1 := by
  have h := en_lcI (C := C) (wi := wi) (g := g) (tt := tt) (te := te) (vs := vs) (fun _ => True) (fun a s => (if f a = true then some (el a) else none, s)) hi trivial hl fun a s ha _ => by
    obtain ⟨Γx, js, h1, h2, h3⟩ := hb a ha
    refine ⟨trivial, Γx, js, h1, h2, f a, s, (h3 s).1, fun q => ⟨el a, s, (h3 s).2 q, by rw [q] <;> rfl⟩, fun q => by rw [q] <;> rfl⟩
  rw [runL_pure] at h
  exact h
/-- without a test -/
theorem ed_lcm {as : List α} {enc : α → PyData} (el : α → PyData) (hi : EvI C wi Γ S (as.map enc) S1) (hl : as.length < 1000000)
    (hb : ∀ a, a ∈ as → ∃ Γx js, GT C g (enc a) js (wipeG Γ vs) Γx ∧ (∀ j ∈ js, j ∈ vs) ∧ ∀ s, EvD C te Γx s (el a) s) :
    EvD C (tLc wi g tYes te vs) Γ S (.list (as.map el)) S1 := by
  have h := ed_lc (C := C) (wi := wi) (g := g) (tt := tYes) (te := te) (vs := vs) (fun _ => true) el hi hl fun a ha => by
    obtain ⟨Γx, js, h1, h2, h3⟩ := hb a ha
    exact ⟨Γx, js, h1, h2, fun s => ⟨et_yes, fun _ => h3 s⟩⟩
  rw [List.filter_eq_self.mpr fun _ _ => rfl] at h
  exact h
end
end Dl


set_option Elab.async false
set_option linter.all false
set_option maxRecDepth 100000
set_option maxHeartbeats 4000000
set_option autoImplicit false
/-! statements over data, promises -/
namespace Dl
open PySem PySem.Spec PyProof.Rows L2

/-- what is wanted behind a statement, by data -/
structure DE where
  nx : List Sl → Sto → Prop
  rt : PyData → Sto → Prop
  bk : List Sl → Sto → Prop := fun _ _ => False
  ct : List Sl → Sto → Prop := fun _ _ => False
def DE.le (E : DE) (C : Cq) (B : Bs) (D : Ends) : Prop :=
  (∀ σ H Γ S Hs, E.nx Γ S → SlsOk C B Hs H σ Γ → HOk C B S Hs H → D.nx σ H) ∧ (∀ v H d S Hs, E.rt d S → HOk C B S Hs H → Dp C.K Hs v d → D.rt v H) ∧
  (∀ σ H Γ S Hs, E.bk Γ S → SlsOk C B Hs H σ Γ → HOk C B S Hs H → D.bk σ H) ∧ (∀ σ H Γ S Hs, E.ct Γ S → SlsOk C B Hs H σ Γ → HOk C B S Hs H → D.ct σ H)
def GS (C : Cq) (t : TS) (E : DE) (Γ : List Sl) (S : Sto) : Prop := ∀ B D, E.le C B D → ∀ σ Hs H, SlsOk C B Hs H σ Γ → HOk C B S Hs H → t D σ H
section
variable {C : Cq} {E : DE} {Γ Γ' : List Sl} {S S' S1 S2 : Sto} {t u : TS} {te ta tb : TE} {tc : TT} {d : PyData} {g : TG} {js : List Nat}
theorem gs_seq (h : GS C t { E with nx := fun Γ' S' => GS C u E Γ' S' } Γ S) : GS C (tSeq t u) E Γ S := fun B D l σ Hs H x k =>
  h B { D with nx := u D } ⟨fun σ H Γ S Hs e x k => e B D l σ Hs H x k, l.2.1, l.2.2.1, l.2.2.2⟩ σ Hs H x k
theorem gs_next (h : E.nx Γ S) : GS C tNext E Γ S := fun B D l σ Hs H x k => l.1 σ H Γ S Hs h x k
theorem gs_brk (h : E.bk Γ S) : GS C tBreak E Γ S := fun B D l σ Hs H x k => l.2.2.1 σ H Γ S Hs h x k
theorem gs_ct (h : E.ct Γ S) : GS C tCont E Γ S := fun B D l σ Hs H x k => l.2.2.2 σ H Γ S Hs h x k
theorem gs_ret (h : EvD C te Γ S d S') (e : E.rt d S') : GS C (tRet te) E Γ S := fun B D l σ Hs H x k =>
  h B σ Hs H x k _ fun v Hs1 H1 k1 f1 d1 => l.2.1 v H1 d S' Hs1 e k1 d1
theorem gs_asgT (h : EvD C te Γ S d S') (hg : GT C g d js Γ Γ') (e : E.nx Γ' S') : GS C (tAsg te g) E Γ S := fun B D l σ Hs H x k =>
  h B σ Hs H x k _ fun v Hs1 H1 k1 f1 d1 => hg B S' v σ Hs1 H1 (x.fr k f1) k1 d1 _ fun σ' x' _ _ => l.1 σ' H1 Γ' S' Hs1 e x' k1
theorem gs_asg {i : Nat} (h : EvD C te Γ S d S') (e : E.nx (Γ.set i (.dat d)) S') : GS C (tAsg te (gName i)) E Γ S := gs_asgT h gt_name e
theorem gs_drop (h : EvD C te Γ S d S') (e : E.nx Γ S') : GS C (tDrop te) E Γ S := fun B D l σ Hs H x k =>
  h B σ Hs H x k _ fun v Hs1 H1 k1 f1 d1 => l.1 σ H1 Γ S' Hs1 e (x.fr k f1) k1
theorem gs_if {b : Bool} (h : EvT C tc Γ S b S') (h1 : b = true → GS C t E Γ S') (h2 : b = false → GS C u E Γ S') : GS C (tIfS tc t u) E Γ S := fun B D l σ Hs H x k =>
  h B σ Hs H x k _ fun Hs1 H1 k1 f1 => by
    cases b with
    | true =>
      show t D σ H1
      exact h1 rfl B D l σ Hs1 H1 (x.fr k f1) k1
    | false =>
      show u D σ H1
      exact h2 rfl B D l σ Hs1 H1 (x.fr k f1) k1
theorem DE.le.base {B : Bs} {D : Ends} {Hs H : Hp} (l : E.le C B D) (k : HOk C B S Hs H) : E.le C ⟨Hs, B.H0⟩ D :=
  ⟨fun σ H Γ S Hs e x k' => l.1 σ H Γ S Hs e (x.rebase rfl) (k.rebase k'), fun v H d S Hs e k' => l.2.1 v H d S Hs e (k.rebase k'), fun σ H Γ S Hs e x k' => l.2.2.1 σ H Γ S Hs e (x.rebase rfl) (k.rebase k'),
    fun σ H Γ S Hs e x k' => l.2.2.2 σ H Γ S Hs e (x.rebase rfl) (k.rebase k')⟩
/-- a for: Inv by the turn, the slots, the store -/
theorem gs_for {α : Type} {as : List α} {enc : α → PyData} {wi : TI} {tb : TS} (hi : EvI C wi Γ S (as.map enc) S1) (Inv : Nat → List Sl → Sto → Prop) (h0 : Inv 0 Γ S1)
    (hs : ∀ i a Γ' S', as[i]? = some a → Inv i Γ' S' → ∃ Γx js, GT C g (enc a) js Γ' Γx ∧ GS C tb { E with nx := Inv (i + 1), ct := Inv (i + 1), bk := E.nx } Γx S') (hd : ∀ Γ' S', Inv as.length Γ' S' → E.nx Γ' S') :
    GS C (tFor wi g tb) E Γ S := fun B D l σ Hs H x k =>
  hi B σ Hs H x k _ fun J Hs1 H1 k1 f1 w => by
    have xl : (as.map enc).length = as.length := List.length_map ..
    refine ⟨fun i m σ' H' => m = as.length - i ∧ i ≤ as.length ∧ ∃ Γ' S' Hs', Inv i Γ' S' ∧ SlsOk C ⟨Hs1, B.H0⟩ Hs' H' σ' Γ' ∧ HOk C ⟨Hs1, B.H0⟩ S' Hs' H', ⟨as.length, rfl, Nat.zero_le _, Γ, S1, Hs1, h0, (x.fr k f1).rebase rfl, k1.base⟩, ?_⟩
    rintro i m σ' H' ⟨rfl, hile, Γ', S', Hs', hI, x', k'⟩
    by_cases hlt : i < as.length
    · refine .inr ⟨w.goes i Hs' H' (by rw [xl]; exact hlt) k'.exs0 k'.exs, fun σ2 H2 => ∃ Γ' S' Hs', Inv (i + 1) Γ' S' ∧ SlsOk C ⟨Hs1, B.H0⟩ Hs' H2 σ2 Γ' ∧ HOk C ⟨Hs1, B.H0⟩ S' Hs' H2, fun σ2 H2 hN => ⟨as.length - (i + 1), by omega, rfl, hlt, hN⟩, fun v H2 hy => ?_⟩
      have ea : (as.map enc)[i]? = some (enc as[i]) := by
        rw [List.getElem?_map, List.getElem?_eq_getElem hlt] <;> rfl
      obtain ⟨Hs2, al, hv⟩ := w.yields i _ Hs' H' v H2 ea k'.exs0 k'.exs hy
      obtain ⟨k2, f2⟩ := k'.alc al
      obtain ⟨Γx, js, ht, hb⟩ := hs i as[i] Γ' S' (List.getElem?_eq_getElem hlt) hI
      have lb := l.base k1
      refine ht ⟨Hs1, B.H0⟩ S' v σ' Hs2 H2 (x'.fr k' f2) k2 hv _ fun σ2 x2 _ _ => ?_
      exact hb ⟨Hs1, B.H0⟩ { D with nx := fun σ2 H2 => ∃ Γ' S' Hs', Inv (i + 1) Γ' S' ∧ SlsOk C ⟨Hs1, B.H0⟩ Hs' H2 σ2 Γ' ∧ HOk C ⟨Hs1, B.H0⟩ S' Hs' H2, ct := fun σ2 H2 => ∃ Γ' S' Hs', Inv (i + 1) Γ' S' ∧ SlsOk C ⟨Hs1, B.H0⟩ Hs' H2 σ2 Γ' ∧ HOk C ⟨Hs1, B.H0⟩ S' Hs' H2, bk := D.nx }
        ⟨fun σ H Γ S Hs e x k => ⟨Γ, S, Hs, e, x, k⟩, lb.2.1, lb.1, fun σ H Γ S Hs e x k => ⟨Γ, S, Hs, e, x, k⟩⟩ σ2 Hs2 H2 x2 k2
    · have ei : i = as.length := by omega
      subst ei
      refine .inl ⟨?_, ?_⟩
      · have := w.stops Hs' H' k'.exs0 k'.exs
        rw [xl] at this
        exact this
      · exact (l.base k1).1 σ' H' Γ' S' Hs' (hd Γ' S' hI) x' k'
/-- two names at once -/
theorem gs_par {i j : Nat} {ta : TA} {d1 d2 : PyData} (h : EvA C ta Γ S [d1, d2] S') (e : E.nx ((Γ.set i (.dat d1)).set j (.dat d2)) S') : GS C (tPar i j ta) E Γ S := fun B D l σ Hs H x k =>
  h B σ Hs H x k _ fun vs Hs1 H1 k1 f1 d1 => by
    cases d1 with
    | cons h1 h2 =>
      cases h2 with
      | cons h2 h3 =>
        cases h3
        exact ⟨_, _, rfl, l.1 _ H1 _ S' Hs1 e (((x.fr k f1).setD i h1).setD j h2) k1⟩
/-- weaken what is known -/
theorem GS.mono {E' : DE} (h : GS C t E Γ S) (h1 : ∀ Γ S, E.nx Γ S → E'.nx Γ S) (h2 : ∀ d S, E.rt d S → E'.rt d S) (h3 : ∀ Γ S, E.bk Γ S → E'.bk Γ S) (h4 : ∀ Γ S, E.ct Γ S → E'.ct Γ S) : GS C t E' Γ S := fun B D l σ Hs H x k =>
  h B D ⟨fun σ H Γ S Hs e => l.1 σ H Γ S Hs (h1 _ _ e), fun v H d S Hs e => l.2.1 v H d S Hs (h2 _ _ e), fun σ H Γ S Hs e => l.2.2.1 σ H Γ S Hs (h3 _ _ e), fun σ H Γ S Hs e => l.2.2.2 σ H Γ S Hs (h4 _ _ e)⟩ σ Hs H x k
end

/-! ### own lists -/
section
variable {C : Cq} {B : Bs} {E : DE} {Γ Γ' : List Sl} {S S' S1 S2 : Sto} {t u : TS} {te ta tb : TE} {tc : TT} {d : PyData} {xs : List PyData} {Hs H Hs' H' : Hp} {σ : L2.St} {p : Addr} {o : HO} {vs : List V}
/-- a new object that does not stay -/
theorem HOk.laidO (h : HOk C B S Hs H) (hp : H p = none) : HOk C B S Hs (upd H p o) := by
  refine ⟨fun a u hb e => ?_, h.exs0, fun a u e => ?_, h.new, fun lo e => ?_⟩
  · rw [upd_ne (ne_of_none (h.ex0 a u hb e) hp)]
    exact h.ex0 a u hb e
  · rw [upd_ne (ne_of_none (h.exs a u e) hp)]
    exact h.exs a u e
  · obtain ⟨s, s6⟩ := h.sto lo e
    refine ⟨⟨s.nd, s.nl, ?_, ?_⟩, s6⟩
    · rw [upd_ne (ne_of_none s.d hp)]
      exact s.d
    · rw [upd_ne (ne_of_none s.l hp)]
      exact s.l
theorem HOk.laidOFr (h : HOk C B S Hs H) (hp : H p = none) : Fr C Hs H Hs (upd H p o) :=
  ⟨Ex.refl _, fun a u _ e => by
    rw [upd_ne (ne_of_none e hp)]
    exact e, fun a u e => .inl ⟨u, e⟩⟩
/-- a write to an object that does not stay and was not there at the entry -/
theorem HOk.wrote (h : HOk C B S Hs H) (h0 : B.H0 p = none) (hs : Hs p = none) : HOk C B S Hs (upd H p o) := by
  have nb : ¬ C.bad p := fun hb => by
    obtain ⟨_, _, u, z⟩ := h.bad_no hb
    rw [h0] at z
    cases z
  refine ⟨fun a u hb e => ?_, h.exs0, fun a u e => ?_, h.new, fun lo e => ?_⟩
  · rw [upd_ne (ne_of_none e h0)]
    exact h.ex0 a u hb e
  · rw [upd_ne (ne_of_none e hs)]
    exact h.exs a u e
  · obtain ⟨s, s6⟩ := h.sto lo e
    have n1 : lo.d ≠ p := fun z => nb ⟨lo, e, .inl z.symm⟩
    have n2 : lo.l ≠ p := fun z => nb ⟨lo, e, .inr z.symm⟩
    refine ⟨⟨s.nd, s.nl, ?_, ?_⟩, s6⟩
    · rw [upd_ne n1]
      exact s.d
    · rw [upd_ne n2]
      exact s.l
theorem en_lst {tl : TA} (ha : EvA C tl Γ S xs S1) (hl : xs.length ≤ sizeLine) : EvN C (tLst tl) Γ S xs S1 := fun B σ Hs H x k Q q =>
  ha B σ Hs H x k _ fun vs Hs1 H1 k1 f1 d1 => ⟨by rw [DpAll.length d1]; exact hl, fun p hp => by
    have hp0 : H p = none := by
      cases z : H p with
      | none => rfl
      | some u =>
        by_cases hb : C.bad p
        · obtain ⟨_, ⟨u', z'⟩, _⟩ := k1.bad_no hb
          rw [hp] at z'
          cases z'
        · rw [f1.ex p u hb z] at hp
          cases hp
    exact q p vs Hs1 _ (k1.laidO hp) (Fr.trans k1 (k1.laidO hp) f1 (k1.laidOFr hp)) hp0 upd_same (k1.freshS hp) d1⟩
/-- the slots with a new own list -/
theorem SlsOk.setO (x : SlsOk C B Hs H σ Γ) (i : Nat) (hn : ∀ (j : Nat) (xs : List PyData), Γ[j]? = some (Sl.own xs) → σ[j]? ≠ some (some (.ref p))) (h : H p = some (.lst vs)) (hd : DpAll C.K Hs vs xs) (hs : Hs p = none) (h0 : B.H0 p = none) :
    SlsOk C B Hs H (σ.set i (some (.ref p))) (Γ.set i (.own xs)) := by
  have y := x.setU i (some (.ref p))
  refine ⟨by rw [List.length_set, List.length_set, x.len], fun j g e => ?_, fun j k xs ys e1 e2 ne => ?_⟩
  · by_cases hj : i = j
    · subst hj
      have hl : i < Γ.length := by
        have := (List.getElem?_eq_some_iff.mp e).1
        simpa using this
      rw [List.getElem?_set_self hl] at e
      cases e
      exact ⟨_, List.getElem?_set_self (by rw [x.len]; exact hl), p, vs, rfl, h, hd, hs, h0⟩
    · rw [List.getElem?_set_ne hj] at e
      exact y.at_ j g (by rw [List.getElem?_set_ne hj]; exact e)
  · by_cases hj : i = j
    · subst hj
      by_cases hk : i = k
      · exact absurd hk ne
      · rw [List.getElem?_set_ne hk] at e2
        have hl : i < σ.length := by
          have := (List.getElem?_eq_some_iff.mp e1).1
          rw [x.len]
          simpa using this
        rw [List.getElem?_set_self hl, List.getElem?_set_ne hk]
        exact fun z => hn k ys e2 z.symm
    · rw [List.getElem?_set_ne hj] at e1
      by_cases hk : i = k
      · subst hk
        have hl : i < σ.length := by
          have := (List.getElem?_eq_some_iff.mp e2).1
          rw [x.len]
          simpa using this
        rw [List.getElem?_set_self hl, List.getElem?_set_ne hj]
        exact fun z => hn j xs e1 z
      · rw [List.getElem?_set_ne hk] at e2
        rw [List.getElem?_set_ne hj, List.getElem?_set_ne hk]
        exact x.apart j k xs ys e1 e2 ne
/-- an own list's address is not a fresh one -/
theorem SlsOk.own_ne (x : SlsOk C B Hs H σ Γ) (hp : H p = none) : ∀ (j : Nat) (xs : List PyData), Γ[j]? = some (Sl.own xs) → σ[j]? ≠ some (some (.ref p)) := fun j xs e z => by
  obtain ⟨s, q1, p', vs', rfl, q2, _⟩ := x.at_ j _ e
  rw [z] at q1
  cases q1
  rw [hp] at q2
  cases q2
theorem gs_asgO {i : Nat} (h : EvN C te Γ S xs S') (e : E.nx (Γ.set i (.own xs)) S') : GS C (tAsg te (gName i)) E Γ S := fun B D l σ Hs H x k =>
  h B σ Hs H x k _ fun p vs Hs1 H1 k1 f1 hp h1 h2 h3 => by
    have x1 := x.fr k f1
    refine l.1 _ H1 _ S' Hs1 e (x1.setO i (fun j ys ej z => x.own_ne hp j ys ej z) h1 h3 h2 (k.fresh0 hp)) k1
/-- a, b = e, [..] : the second new, held by nobody else -/
theorem gs_parDO {i j : Nat} (ha : EvD C ta Γ S d S1) (hb : EvN C tb Γ S1 xs S2) (e : E.nx ((Γ.set i (.dat d)).set j (.own xs)) S2) : GS C (tPar i j (tCons ta (tCons tb tNil))) E Γ S := fun B D l σ Hs H x k =>
  ha B σ Hs H x k _ fun v Hs1 H1 k1 f1 d1 => hb B σ Hs1 H1 (x.fr k f1) k1 _ fun p vs Hs2 H2 k2 f2 hp h1 h2 h3 => by
    refine ⟨_, _, rfl, l.1 _ H2 _ S2 Hs2 e ?_ k2⟩
    have x1 := (x.fr k f1).setD i d1
    refine ((x1.fr k1 f2)).setO j (fun m ys em z => x1.own_ne hp m ys em z) h1 h3 h2 (k1.fresh0 hp)
/-- both new -/
theorem gs_parOO {i j : Nat} {ys : List PyData} (ha : EvN C ta Γ S xs S1) (hb : EvN C tb Γ S1 ys S2) (e : E.nx ((Γ.set i (.own xs)).set j (.own ys)) S2) : GS C (tPar i j (tCons ta (tCons tb tNil))) E Γ S := fun B D l σ Hs H x k =>
  ha B σ Hs H x k _ fun p vs Hs1 H1 k1 f1 hp h1 h2 h3 => hb B σ Hs1 H1 (x.fr k f1) k1 _ fun p' vs' Hs2 H2 k2 f2 hp' h1' h2' h3' => by
    refine ⟨_, _, rfl, l.1 _ H2 _ S2 Hs2 e ?_ k2⟩
    have x1 : SlsOk C B Hs1 H1 (σ.set i (some (.ref p))) (Γ.set i (.own xs)) := (x.fr k f1).setO i (fun m ys em z => x.own_ne hp m ys em z) h1 h3 h2 (k.fresh0 hp)
    exact (x1.fr k1 f2).setO j (fun m ys em z => x1.own_ne hp' m ys em z) h1' h3' h2' (k1.fresh0 hp')
/-- the own list in slot i, changed -/
theorem SlsOk.wrote (x : SlsOk C B Hs H σ Γ) {i : Nat} {ys : List PyData} {ws : List V} (e : Γ[i]? = some (.own xs)) (es : σ[i]? = some (some (.ref p))) (hd : DpAll C.K Hs ws ys) : SlsOk C B Hs (upd H p (.lst ws)) σ (Γ.set i (.own ys)) := by
  obtain ⟨s, q1, p', vs', rfl, q2, q3, q4, q5⟩ := x.at_ i _ e
  rw [es] at q1
  cases q1
  refine ⟨by rw [List.length_set, x.len], fun j g ej => ?_, fun j k zs ws' e1 e2 ne => ?_⟩
  · by_cases hj : i = j
    · subst hj
      have hl : i < Γ.length := (List.getElem?_eq_some_iff.mp e).1
      rw [List.getElem?_set_self hl] at ej
      cases ej
      exact ⟨_, es, p, ws, rfl, upd_same, hd, q4, q5⟩
    · rw [List.getElem?_set_ne hj] at ej
      obtain ⟨s', r1, r2⟩ := x.at_ j g ej
      refine ⟨s', r1, ?_⟩
      cases g with
      | un => trivial
      | dat d => exact r2
      | sto => exact r2
      | far => exact r2
      | dk kvs => exact r2
      | odk kvs =>
        obtain ⟨p2, e2, t1, t2, t3⟩ := r2
        have np : p2 ≠ p := fun z => by
          rw [z, q2] at t1
          cases t1
        exact ⟨p2, e2, by rw [upd_ne np]; exact t1, t2, t3⟩
      | own zs =>
        obtain ⟨p2, vs2, rfl, t1, t2, t3, t4⟩ := r2
        have np : p2 ≠ p := fun z => by
          subst z
          exact x.apart i j _ _ e ej hj (es.trans r1.symm)
        exact ⟨p2, vs2, rfl, by rw [upd_ne np]; exact t1, t2, t3, t4⟩
  · have f : ∀ (m : Nat) (zs : List PyData), (Γ.set i (Sl.own ys))[m]? = some (.own zs) → ∃ zs', Γ[m]? = some (Sl.own zs') := fun m zs em => by
      by_cases hm : i = m
      · subst hm
        exact ⟨_, e⟩
      · rw [List.getElem?_set_ne hm] at em
        exact ⟨_, em⟩
    obtain ⟨z1, g1⟩ := f j _ e1
    obtain ⟨z2, g2⟩ := f k _ e2
    exact x.apart j k _ _ g1 g2 ne
/-- x.append(e) -/
theorem gs_app {i : Nat} (ei : Γ[i]? = some (.own xs)) (h : EvD C te Γ S d S') (hl : xs.length < 1000000) (e : E.nx (Γ.set i (.own (xs ++ [d]))) S') : GS C (tDrop (tBM C.K "list" rAppend (tVar i) (tCons te tNil))) E Γ S := fun B D l σ Hs H x k => by
  obtain ⟨s, q1, p, vs, rfl, q2, q3, q4, q5⟩ := x.at_ i _ ei
  refine ⟨.ref p, q1, .inl ⟨rfl, _, .inl (.inl q2)⟩, h B σ Hs H x k _ fun v Hs1 H1 k1 f1 d1 => ?_⟩
  have x1 := x.fr k f1
  obtain ⟨s, r1, p', vs', rfl, r2, r3, r4, r5⟩ := x1.at_ i _ ei
  rw [q1] at r1
  cases r1
  have zs : sizeLine = 16777216 := sizeLine_eq
  refine ⟨p, vs', v, rfl, rfl, r2, by rw [DpAll.length r3]; omega, ?_⟩
  exact l.1 _ _ _ S' Hs1 e (x1.wrote ei q1 (DpAll.append r3 (DpAll.one d1))) (k1.wrote r5 r4)
/-- x[j] = e -/
theorem gs_set {i j : Nat} {n : Int} {tj : TE} (ei : Γ[i]? = some (.own xs)) (h : EvD C te Γ S d S1) (hj : EvD C tj Γ S1 (.int n) S') (hn : ixN xs.length n = some j) (e : E.nx (Γ.set i (.own (xs.set j d))) S') :
    GS C (tAsg te (gSub (tVar i) tj rSetL)) E Γ S := fun B D l σ Hs H x k =>
  h B σ Hs H x k _ fun v Hs1 H1 k1 f1 d1 => by
    have x1 := x.fr k f1
    obtain ⟨s, q1, p, vs, rfl, q2, q3, q4, q5⟩ := x1.at_ i _ ei
    refine ⟨.ref p, q1, hj B σ Hs1 H1 x1 k1 _ fun w Hs2 H2 k2 f2 d2 => ?_⟩
    have x2 := x1.fr k1 f2
    obtain ⟨s, r1, p', vs', rfl, r2, r3, r4, r5⟩ := x2.at_ i _ ei
    rw [q1] at r1
    cases r1
    refine ⟨p, vs', n, j, rfl, Dp.toI d2, r2, by rw [DpAll.length r3]; exact hn, ?_⟩
    exact l.1 _ _ _ S' Hs2 e (x2.wrote ei q1 (DpAll.set r3 j (dp_mono f2.exs _ _ d1))) (k2.wrote r5 r4)
/-- y = x.pop(e) -/
theorem gs_asgPop {i m : Nat} {n : Int} {j : Nat} (im : i ≠ m) (ei : Γ[i]? = some (.own xs)) (hj : EvD C te Γ S (.int n) S') (hn : seqIndex? n xs.length = some j) (hb : -1000000 ≤ n ∧ n ≤ 1000000) (hx : xs[j]? = some d) (e : E.nx ((Γ.set i (.own (xs.eraseIdx j))).set m (.dat d)) S') :
    GS C (tAsg (tBM C.K "list" rPopAt (tVar i) (tCons te tNil)) (gName m)) E Γ S := fun B D l σ Hs H x k => by
  obtain ⟨s, q1, p, vs, rfl, q2, q3, q4, q5⟩ := x.at_ i _ ei
  refine ⟨.ref p, q1, .inl ⟨rfl, _, .inl (.inl q2)⟩, hj B σ Hs H x k _ fun v Hs1 H1 k1 f1 d1 => ?_⟩
  have x1 := x.fr k f1
  obtain ⟨s, r1, p', vs', rfl, r2, r3, r4, r5⟩ := x1.at_ i _ ei
  rw [q1] at r1
  cases r1
  obtain ⟨y, t1, t2⟩ := DpAll.get r3 hx
  refine ⟨p, vs', n, j, y, rfl, by rw [Dp.toI d1], r2, by omega, by omega, by rw [DpAll.length r3]; exact hn, t1, ?_⟩
  have er : ∀ (vs : List V) (ds : List PyData) (j : Nat), DpAll C.K Hs1 vs ds → DpAll C.K Hs1 (vs.eraseIdx j) (ds.eraseIdx j) := by
    intro vs ds
    induction ds generalizing vs with
    | nil =>
      intro j h
      cases h
      exact .nil
    | cons d ds ih =>
      intro j h
      cases h with
      | cons h1 h2 =>
        cases j with
        | zero => exact h2
        | succ j => exact .cons h1 (ih _ j h2)
  have x2 : SlsOk C B Hs1 (upd H1 p (.lst (vs'.eraseIdx j))) σ (Γ.set i (.own (xs.eraseIdx j))) := x1.wrote ei q1 (er _ _ j r3)
  exact l.1 _ _ _ S' Hs1 e (x2.setD m t2) (k1.wrote r5 r4)
/-- an own list stays from here on -/
theorem frz_ok (x : SlsOk C B Hs H σ Γ) (k : HOk C B S Hs H) {i : Nat} (ei : Γ[i]? = some (.own xs)) : ∃ p vs, σ[i]? = some (some (.ref p)) ∧ H p = some (.lst vs) ∧ Hs p = none ∧ B.H0 p = none ∧ SlsOk C B (upd Hs p (.lst vs)) H σ (Γ.set i (.dat (.list xs))) ∧ HOk C B S (upd Hs p (.lst vs)) H := by
  obtain ⟨s, q1, p, vs, rfl, q2, q3, q4, q5⟩ := x.at_ i _ ei
  have nb : ¬ C.bad p := fun hb => by
    obtain ⟨_, _, u, z⟩ := k.bad_no hb
    rw [q5] at z
    cases z
  refine ⟨p, vs, q1, q2, q4, q5, ⟨by rw [List.length_set, x.len], fun j g ej => ?_, fun j m ys zs e1 e2 ne => ?_⟩, ?_⟩
  · by_cases hj : i = j
    · subst hj
      rw [List.getElem?_set_self (List.getElem?_eq_some_iff.mp ei).1] at ej
      cases ej
      exact ⟨_, q1, _, rfl, .lst (SqL.of upd_same) (dpAll_mono (Ex.new q4) _ _ q3)⟩
    · rw [List.getElem?_set_ne hj] at ej
      obtain ⟨s', r1, r2⟩ := x.at_ j g ej
      refine ⟨s', r1, ?_⟩
      cases g with
      | un => trivial
      | dat d =>
        obtain ⟨v, e1, e2⟩ := r2
        exact ⟨v, e1, dp_mono (Ex.new q4) _ _ e2⟩
      | sto => exact r2
      | far => exact r2
      | dk kvs =>
        obtain ⟨p2, e1, e2⟩ := r2
        exact ⟨p2, e1, Ex.new q4 p2 _ e2⟩
      | odk kvs =>
        obtain ⟨p2, e2, t1, t2, t3⟩ := r2
        have np : p2 ≠ p := fun z => by
          rw [z, q2] at t1
          cases t1
        exact ⟨p2, e2, t1, by rw [upd_ne np]; exact t2, t3⟩
      | own zs =>
        obtain ⟨p2, vs2, rfl, t1, t2, t3, t4⟩ := r2
        have np : p2 ≠ p := fun z => by
          subst z
          exact x.apart i j _ _ ei ej hj (q1.trans r1.symm)
        exact ⟨p2, vs2, rfl, t1, dpAll_mono (Ex.new q4) _ _ t2, by rw [upd_ne np]; exact t3, t4⟩
  · have f : ∀ (m : Nat) (zs : List PyData), (Γ.set i (Sl.dat (.list xs)))[m]? = some (Sl.own zs) → Γ[m]? = some (Sl.own zs) := fun m zs em => by
      by_cases hm : i = m
      · subst hm
        rw [List.getElem?_set_self (List.getElem?_eq_some_iff.mp ei).1] at em
        cases em
      · rw [List.getElem?_set_ne hm] at em
        exact em
    exact x.apart j m _ _ (f _ _ e1) (f _ _ e2) ne
  · refine ⟨k.ex0, k.exs0.trans (Ex.new q4), fun a u e => ?_, fun a u e => ?_, fun lo e => ?_⟩
    · by_cases hq : a = p
      · subst hq
        rw [upd_same] at e
        cases e
        exact q2
      · rw [upd_ne hq] at e
        exact k.exs a u e
    · by_cases hq : a = p
      · subst hq
        exact .inr q5
      · rw [upd_ne hq] at e
        exact k.new a u e
    · obtain ⟨s, s6⟩ := k.sto lo e
      have n1 : lo.d ≠ p := fun z => nb ⟨lo, e, .inl z.symm⟩
      have n2 : lo.l ≠ p := fun z => nb ⟨lo, e, .inr z.symm⟩
      refine ⟨⟨?_, ?_, s.d, s.l⟩, s6⟩
      · rw [upd_ne n1]
        exact s.nd
      · rw [upd_ne n2]
        exact s.nl
theorem gs_frz {i : Nat} (ei : Γ[i]? = some (.own xs)) (h : GS C t E (Γ.set i (.dat (.list xs))) S) : GS C t E Γ S := fun B D l σ Hs H x k => by
  obtain ⟨p, vs, _, _, _, _, x1, k1⟩ := frz_ok x k ei
  exact h B D l σ _ H x1 k1
/-- a datum that names no object -/
def flatD : PyData → Bool
  | .none | .bool _ | .int _ | .str _ => true
  | _ => false
theorem flatD_any {K : PySem.W.Frag} {H H' : Hp} {v : V} {d : PyData} (h : Dp K H v d) (f : flatD d = true) : Dp K H' v d := by
  cases h with
  | non => exact .non
  | bl b => exact .bl b
  | int i => exact .int i
  | str x => exact .str x
  | lst _ _ => cases f
  | tup _ _ => cases f
/-- without one object -/
def less (Hs : Hp) (p : Addr) : Hp := fun a => if a = p then none else Hs a
theorem less_ok {Hp1 : Hp} (k : HOk C B S Hs H) (ep : Hs p = none) (hp : H p = some o) (h0 : B.H0 p = none) (k1 : HOk C B S' Hp1 H') (f1 : Fr C (upd Hs p o) H Hp1 H') : HOk C B S' (less Hp1 p) H' ∧ Fr C Hs H (less Hp1 p) H' := by
  have hl : ∀ a u, less Hp1 p a = some u → Hp1 a = some u ∧ a ≠ p := fun a u e => by
    unfold less at e
    by_cases ha : a = p
    · rw [if_pos ha] at e
      cases e
    · rw [if_neg ha] at e
      exact ⟨e, ha⟩
  have hl2 : ∀ a u, Hp1 a = some u → a ≠ p → less Hp1 p a = some u := fun a u e n => by
    unfold less
    rw [if_neg n]
    exact e
  have nb : ¬ C.bad p := fun hb => by
    obtain ⟨_, _, u, z⟩ := k.bad_no hb
    rw [h0] at z
    cases z
  refine ⟨⟨k1.ex0, fun a u e => hl2 a u (k1.exs0 a u e) (fun z => ?_), fun a u e => k1.exs a u (hl a u e).1, fun a u e => k1.new a u (hl a u e).1, fun lo e => ?_⟩, ⟨fun a u e => ?_, f1.ex, fun a u e => ?_⟩⟩
  · subst z
    rw [k.exs0 a u e] at ep
    cases ep
  · obtain ⟨s, s6⟩ := k1.sto lo e
    refine ⟨⟨?_, ?_, s.d, s.l⟩, s6⟩
    · unfold less
      split
      · rfl
      · exact s.nd
    · unfold less
      split
      · rfl
      · exact s.nl
  · have ne : a ≠ p := ne_of_none e ep
    exact hl2 a u (f1.exs a u (by rw [upd_ne ne]; exact e)) ne
  · obtain ⟨e1, ne⟩ := hl a u e
    rcases f1.new a u e1 with ⟨u', z⟩ | z
    · rw [upd_ne ne] at z
      exact .inl ⟨u', z⟩
    · exact .inr z
/-- an own list read for a flat value -/
theorem ed_frz {i : Nat} (ei : Γ[i]? = some (.own xs)) (f : flatD d = true) (h : EvD C te (Γ.set i (.dat (.list xs))) S d S') : EvD C te Γ S d S' := fun B σ Hs H x k Q q => by
  obtain ⟨p, vs, _, hp, ep, h0, x1, k1⟩ := frz_ok x k ei
  refine h B σ _ H x1 k1 Q fun v Hs2 H2 k2 f2 d2 => ?_
  obtain ⟨k3, f3⟩ := less_ok k ep hp h0 k2 f2
  exact q v _ H2 k3 f3 (flatD_any d2 f)
theorem et_frz {b : Bool} {i : Nat} (ei : Γ[i]? = some (.own xs)) (h : EvT C tc (Γ.set i (.dat (.list xs))) S b S') : EvT C tc Γ S b S' := fun B σ Hs H x k Q q => by
  obtain ⟨p, vs, _, hp, ep, h0, x1, k1⟩ := frz_ok x k ei
  refine h B σ _ H x1 k1 Q fun Hs2 H2 k2 f2 => ?_
  obtain ⟨k3, f3⟩ := less_ok k ep hp h0 k2 f2
  exact q _ H2 k3 f3
end
end Dl


set_option Elab.async false
set_option linter.all false
set_option maxRecDepth 100000
set_option maxHeartbeats 4000000
set_option autoImplicit false
/-! rules of the machine that the hand layer lacks: zip of a list and a tuple, enumerate of a tuple -/
namespace Ml
open PySem PySem.Spec PyProof.Rows L2

/-! ### zip of two sequences, each a list (true) or a tuple (false) -/
def SqC (c : Bool) (K : PySem.W.Frag) (H : Hp) (a : Addr) (xs : List V) : Prop := match c with
  | true => SqL K H a xs
  | false => SqT K H a xs
def IterC (c : Bool) (h : Heap) (it a : Addr) (i : Nat) : Prop := match c with
  | true => h.IsListIter it a i
  | false => h.IsTupleIter it a i
def IsC (c : Bool) (h : Heap) (a : Addr) (xs : Array Value) : Prop := match c with
  | true => h.IsList a xs
  | false => h.IsTuple a xs
section
variable {prog : Program} {w : World} {A : Around} {E : Value → Shared → Prop} {s : Shared} {h h' : Heap}
theorem drawsC (c : Bool) (hh : A.handled = none) (it l : Addr) (hne : l ≠ it) (items : Array Value) :
    Draws prog w A it [it, l] items.size (fun i v => items[i]? = some v) (fun i h => IterC c h it l i ∧ IsC c h l items) := by
  cases c with
  | true => exact Draws.list hh it l hne items
  | false => exact Draws.tuple hh it l hne items
theorem IterC.at_ {c : Bool} {it a : Addr} {i : Nat} (x : IterC c h it a i) (k : ∀ o, h.get? it = some o → h'.get? it = some o) : IterC c h' it a i := by
  cases c with
  | true => exact Heap.IsListIter.at x k
  | false => exact Heap.IsTupleIter.at x k
theorem IterC.obj {c : Bool} {it a : Addr} {i : Nat} (x : IterC c h it a i) : ∃ o, h.get? it = some o ∧ ∀ v, o.data ≠ .cell v := by
  cases c with
  | true =>
    obtain ⟨o1, e1, _, d1⟩ := x
    exact ⟨o1, e1, fun v q => by rw [d1] at q; cases q⟩
  | false =>
    obtain ⟨o1, e1, _, d1⟩ := x
    exact ⟨o1, e1, fun v q => by rw [d1] at q; cases q⟩
theorem IsC.keeps {c : Bool} {a : Addr} {xs : Array Value} (x : IsC c h a xs) (k : ∀ o, h.get? a = some o → h'.get? a = some o) : IsC c h' a xs := by
  cases c with
  | true => exact Heap.IsList.at x k
  | false => exact Heap.IsTuple.at x k
end
section
variable {X : Cx} {pins : List (Addr × Obj)} {σ : L2.St} {H : Hp} {s : Shared} {a : Addr} {xs ys : List V}
theorem getC {c : Bool} (I : Inv X pins σ H s) (h : SqC c X.K H a xs) : ∃ its : List Value, Vals xs its ∧ IsC c s.heap a its.toArray ∧ a < s.heap.objs.size := by
  cases c with
  | true =>
    obtain ⟨its, rv, p, _⟩ := I.list h
    exact ⟨its, rv, p.isList, p.lt⟩
  | false =>
    obtain ⟨its, rv, p, _⟩ := I.tuple h
    exact ⟨its, rv, p, p.lt⟩
theorem injC {c : Bool} (I : Inv X pins σ H s) (h : SqC c X.K H a xs) (h' : SqC c X.K H a ys) : xs = ys := by
  cases c with
  | true => exact I.list_inj h h'
  | false => exact I.tuple_inj h h'
end
def ItzC (K : PySem.W.Frag) (c1 c2 : Bool) (a b : Addr) : It :=
  ⟨fun i H => ∃ (xs ys : List V) (x y : V), SqC c1 K H a xs ∧ SqC c2 K H b ys ∧ xs[i]? = some x ∧ ys[i]? = some y,
    fun i H v H' => ∃ T x y, v = .ref T ∧ H T = none ∧ H' = upd H T (.tup [x, y]) ∧ (∀ xs, SqC c1 K H a xs → xs[i]? = some x) ∧ ∀ ys, SqC c2 K H b ys → ys[i]? = some y,
    fun i H => ∃ xs ys : List V, SqC c1 K H a xs ∧ SqC c2 K H b ys ∧ xs.length ≥ i ∧ ys.length ≥ i ∧ (xs.length = i ∨ ys.length = i)⟩
theorem turn_zipC {P : Program} {w : World} {K : PySem.W.Frag} {elts : List Expr} {kk : Nat} {tpos : Pos} {c1 c2 : Bool} {a b z TI TO i1 i2 : Addr} (D : ZipApart z TI TO i1 i2 a b) (S : ZipSep2 z TI TO i1 i2 [i1, a] [i2, b]) :
    Turn P w K (.Tuple elts kk tpos) (ItzC K c1 c2 a b) [z, TI, TO, i1, i2] z (fun i h => IsZip h z TI TO .none ∧ IsPair h TI (.ref i1) (.ref i2) ∧ (∃ x y, IsPair h TO x y) ∧ IterC c1 h i1 a i ∧ IterC c2 h i2 b i) where
  mem := by simp
  obj := fun i h st c hc => by
    obtain ⟨hz, hTI, ⟨x, y, hTO⟩, h1, h2⟩ := st
    have e' : c = z ∨ c = TI ∨ c = TO ∨ c = i1 ∨ c = i2 := by simpa using hc
    rcases e' with q | q | q | q | q
    · rw [q]; exact ⟨_, hz, fun v q => nomatch q⟩
    · rw [q]; exact ⟨_, hTI, fun v q => nomatch q⟩
    · rw [q]; exact ⟨_, hTO, fun v q => nomatch q⟩
    · rw [q]; exact h1.obj
    · rw [q]; exact h2.obj
  keep := fun i h h' st k => by
    obtain ⟨hz, hTI, ⟨x, y, hTO⟩, h1, h2⟩ := st
    exact ⟨k z (by simp) _ hz, k TI (by simp) _ hTI, ⟨x, y, k TO (by simp) _ hTO⟩, h1.at_ fun o q => k i1 (by simp) o q, h2.at_ fun o q => k i2 (by simp) o q⟩
  item := by
    intro X hP hw hK hc i pins s σ H E I hf st hg
    subst hP hw hK
    obtain ⟨hz, hTI, ⟨x0, y0, hTO⟩, h1, h2⟩ := st
    obtain ⟨xs, ys, x, y, hqx, hqy, hx, hy⟩ := hg
    obtain ⟨its, rv, p, _⟩ := getC I hqx
    obtain ⟨its2, rv2, p2, _⟩ := getC I hqy
    obtain ⟨u, hu, ru⟩ := rv.get hx
    obtain ⟨u2, hu2, ru2⟩ := rv2.get hy
    have hzl : z < s.heap.objs.size := Heap.lt_size hz
    have lu : i < its.toArray.size := by simpa using (List.getElem?_eq_some_iff.mp hu).1
    have lu2 : i < its2.toArray.size := by simpa using (List.getElem?_eq_some_iff.mp hu2).1
    refine wpAny_pyNext_zipD2_item S (drawsC c1 (show X.A.in1.handled = none from I.ok.hd hc) i1 a D.l1i1 its.toArray) (drawsC c2 (show X.A.in1.handled = none from I.ok.hd hc) i2 b D.l2i2 its2.toArray) hz hTI hTO ⟨h1, p⟩ ⟨h2, p2⟩ lu lu2
      fun y1 y2 h' tk e1 e2 z' TO' st1' st2' hT hsz hk => ?_
    have ey1 : y1 = u := by
      have : its.toArray[i]? = some u := by simpa using hu
      rw [this] at e1
      exact (Option.some.inj e1).symm
    have ey2 : y2 = u2 := by
      have : its2.toArray[i]? = some u2 := by simpa using hu2
      rw [this] at e2
      exact (Option.some.inj e2).symm
    subst ey1 ey2
    refine ⟨_, rfl, wpAny_letOwnedTupleGo_zip (s := { s with heap := h', toks := tk }) z' fun h'' z'' sb => ?_⟩
    have hT2 : h''.get? s.heap.objs.size = some { cls := .type "tuple", data := .seq #[y1, y2] } := (sb.2 _ (Nat.ne_of_gt hzl)).trans hT
    have new : ObjOk X.prog X.w (upd H s.heap.objs.size (.tup [x, y])) h'' s.heap.objs.size (.tup [x, y]) :=
      ⟨by show 2 ≤ sizeLine; decide, [y1, y2], .cons ru (.cons ru2 .nil), ⟨_, hT2, rfl, _, rfl⟩⟩
    have I1 : Inv X pins σ (upd H s.heap.objs.size (.tup [x, y])) { s with heap := h'', toks := tk } :=
      I.turnedNew (t' := tk) (ch := [z, TI, TO, i1, i2]) (fun c o hb q => (sb.2 c (fun q' => hb (by simp [q']))).trans (hk c o (fun q' => hb (by simp [q'])) (fun q' => hb (by simp [q'])) (fun q' => hb (by simp [q'])) (fun q' => hb (by simp [q'])) q)) hf (Nat.le_refl _) new
    refine ⟨.ref s.heap.objs.size, _, I1, rfl, ⟨_, x, y, rfl, I.hok.fresh (Nat.le_refl _), rfl, fun l hl => by rw [injC I hl hqx]; exact hx, fun l hl => by rw [injC I hl hqy]; exact hy⟩, ⟨z'', ?_, ⟨y1, y2, ?_⟩, ?_, ?_⟩, fun c hcm => ?_⟩
    · exact (sb.2 _ D.TIz).trans (hk _ _ D.TIz D.TITO D.TIi1 D.TIi2 hTI)
    · exact (sb.2 _ D.TOz).trans TO'
    · exact st1'.1.at_ fun o q => (sb.2 _ D.i1z).trans q
    · exact st2'.1.at_ fun o q => (sb.2 _ D.i2z).trans q
    · have hlt : c < s.heap.objs.size := by
        have e' : c = z ∨ c = TI ∨ c = TO ∨ c = i1 ∨ c = i2 := by simpa using hcm
        rcases e' with q | q | q | q | q
        · rw [q]; exact hzl
        · rw [q]; exact Heap.lt_size hTI
        · rw [q]; exact Heap.lt_size hTO
        · rw [q]; obtain ⟨_, e1, _⟩ := h1.obj; exact Heap.lt_size e1
        · rw [q]; obtain ⟨_, e2, _⟩ := h2.obj; exact Heap.lt_size e2
      rw [upd_ne (Nat.ne_of_lt hlt)]
      exact (hf c hcm).1
  done := by
    intro X hP hw hK hc i pins s σ H E I hf st hg
    subst hP hw hK
    obtain ⟨hz, hTI, ⟨x0, y0, hTO⟩, h1, h2⟩ := st
    obtain ⟨xs, ys, hqx, hqy, l1, l2, hend⟩ := hg
    obtain ⟨its, rv, p, _⟩ := getC I hqx
    obtain ⟨its2, rv2, p2, _⟩ := getC I hqy
    have e1 := rv.length
    have e2 := rv2.length
    refine wpAny_pyNext_zipD2_end S (drawsC c1 (show X.A.in1.handled = none from I.ok.hd hc) i1 a D.l1i1 its.toArray) (drawsC c2 (show X.A.in1.handled = none from I.ok.hd hc) i2 b D.l2i2 its2.toArray) hz hTI hTO ⟨h1, p⟩ ⟨h2, p2⟩ (by simp; omega) (by simp; omega) (by simp; omega)
      fun h' tk hk => ⟨rfl, I.turnedL (t' := tk) (ch := [z, TI, TO, i1, i2]) (fun c o hb q =>
      hk c o (fun q' => hb (by simp [q'])) (fun q' => hb (by simp [q'])) (fun q' => hb (by simp [q'])) (fun q' => hb (by simp [q'])) q) hf⟩
  self := fun A i s Q E st h => wpAny_pyIter_zip st.1 h

abbrev zipLTH1 (h : Heap) (l1 : Addr) : Heap := h.push { cls := .type "list_iterator", data := .fields #[.ref l1, .int 0 0] }
abbrev zipLTH2 (h : Heap) (l1 l2 : Addr) : Heap := (zipLTH1 h l1).push { cls := .type "tuple_iterator", data := .fields #[.ref l2, .int 0 0] }
abbrev zipLTH3 (h : Heap) (l1 l2 : Addr) : Heap := (zipLTH2 h l1 l2).push { cls := .type "tuple", data := .seq #[.ref h.objs.size, .ref (zipLTH1 h l1).objs.size] }
abbrev zipLTH4 (h : Heap) (l1 l2 : Addr) : Heap := (zipLTH3 h l1 l2).push { cls := .type "tuple", data := .seq #[.none, .none] }
abbrev zipLTH5 (h : Heap) (l1 l2 : Addr) : Heap := (zipLTH4 h l1 l2).push { cls := .type "zip", data := .fields #[.none, .bool false, .bool false, .ref (zipLTH2 h l1 l2).objs.size, .ref (zipLTH3 h l1 l2).objs.size] }
theorem meets_zipLT_new (l1 l2 : Addr) (xs ys : Array Value) :
    Meets (Builtin.«zip.__new__» ⟨[.type "zip", .ref l1, .ref l2], []⟩) (fun _ R s => s.heap.IsList l1 xs ∧ s.heap.IsTuple l2 ys ∧
      R (.ok (.ret (.ref (zipLTH4 s.heap l1 l2).objs.size))) { s with heap := zipLTH5 s.heap l1 l2 }) :=
  .of_wp fun prog w A R s h => by
    obtain ⟨hp, g, d, tk, os⟩ := s; obtain ⟨hl1, hl2, h⟩ := h
    have hsub := sub_zip
    have hL1 : Heap.IsList (Shared.heap ⟨hp, g, d, tk, os⟩) l1 xs := hl1
    have hL2 : Heap.IsTuple (Shared.heap ⟨hp.push { cls := .type "list_iterator", data := .fields #[.ref l1, .int 0 0] }, g, d, tk, os⟩) l2 ys := Heap.IsTuple.push hl2 _
    wp_walk using wpAny_pyIter_list hL1, wpAny_pyIter_tuple hL2
    exact ⟨_, rfl, h⟩
theorem call_zipLT {prog : Program} {w : World} {A : Around} {E : Value → Shared → Prop} {s : Shared} {l1 l2 : Addr} {xs ys : Array Value} {Q : Value → Shared → Prop} (hl1 : s.heap.IsList l1 xs) (hl2 : s.heap.IsTuple l2 ys)
    (h : ∀ h', IsZip h' (s.heap.objs.size + 4) (s.heap.objs.size + 2) (s.heap.objs.size + 3) .none → IsPair h' (s.heap.objs.size + 2) (.ref s.heap.objs.size) (.ref (s.heap.objs.size + 1)) →
      IsPair h' (s.heap.objs.size + 3) .none .none → h'.IsListIter s.heap.objs.size l1 0 → h'.IsTupleIter (s.heap.objs.size + 1) l2 0 → h'.objs.size = s.heap.objs.size + 5 →
      (∀ c o, s.heap.get? c = some o → h'.get? c = some o) → Q (.ref (s.heap.objs.size + 4)) { s with heap := h' }) :
    wpAny (model prog w) A (call (.type "zip") [.ref l1, .ref l2]) Q E s := by
  refine callType_new F.called_zip (by decide) (F.typeCall_zip_2 _ _) (F.newCall_zip_2 _ _) (fun obj => F.args_object_init_3 obj _ _) F.entry_zip_new
    (meets_zipLT_new l1 l2 xs ys) ⟨hl1, hl2, ?_⟩
  have z1 : (zipLTH1 s.heap l1).objs.size = s.heap.objs.size + 1 := Heap.size_push ..
  have z2 : (zipLTH2 s.heap l1 l2).objs.size = s.heap.objs.size + 2 := by rw [Heap.size_push, z1]
  have z3 : (zipLTH3 s.heap l1 l2).objs.size = s.heap.objs.size + 3 := by rw [Heap.size_push, z2]
  have z4 : (zipLTH4 s.heap l1 l2).objs.size = s.heap.objs.size + 4 := by rw [Heap.size_push, z3]
  have z5 : (zipLTH5 s.heap l1 l2).objs.size = s.heap.objs.size + 5 := by rw [Heap.size_push, z4]
  have g5 : (zipLTH5 s.heap l1 l2).get? (zipLTH4 s.heap l1 l2).objs.size = some _ := Heap.get?_push_size _ rfl
  have g4 : (zipLTH5 s.heap l1 l2).get? (zipLTH3 s.heap l1 l2).objs.size = some _ := Heap.get?_push_of_some _ (Heap.get?_push_size _ rfl)
  have g3 : (zipLTH5 s.heap l1 l2).get? (zipLTH2 s.heap l1 l2).objs.size = some _ := Heap.get?_push_of_some _ (Heap.get?_push_of_some _ (Heap.get?_push_size _ rfl))
  have g2 : (zipLTH5 s.heap l1 l2).get? (zipLTH1 s.heap l1).objs.size = some _ := Heap.get?_push_of_some _ (Heap.get?_push_of_some _ (Heap.get?_push_of_some _ (Heap.get?_push_size _ rfl)))
  have g1 : (zipLTH5 s.heap l1 l2).get? s.heap.objs.size = some _ := Heap.get?_push_of_some _ (Heap.get?_push_of_some _ (Heap.get?_push_of_some _ (Heap.get?_push_of_some _ (Heap.get?_push_size _ rfl))))
  show _ ∧ _
  rw [z2, z3, z4] at g5
  rw [z1, z2] at g3
  rw [z3] at g4
  rw [z1] at g2
  rw [z4]
  exact ⟨⟨_, g5, rfl⟩, h _ g5 g3 g4 ⟨_, g1, rfl, rfl⟩ ⟨_, g2, rfl, rfl⟩ z5 fun c o x =>
    Heap.get?_push_of_some _ (Heap.get?_push_of_some _ (Heap.get?_push_of_some _ (Heap.get?_push_of_some _ (Heap.get?_push_of_some _ x))))⟩

abbrev zipTLH1 (h : Heap) (l1 : Addr) : Heap := h.push { cls := .type "tuple_iterator", data := .fields #[.ref l1, .int 0 0] }
abbrev zipTLH2 (h : Heap) (l1 l2 : Addr) : Heap := (zipTLH1 h l1).push { cls := .type "list_iterator", data := .fields #[.ref l2, .int 0 0] }
abbrev zipTLH3 (h : Heap) (l1 l2 : Addr) : Heap := (zipTLH2 h l1 l2).push { cls := .type "tuple", data := .seq #[.ref h.objs.size, .ref (zipTLH1 h l1).objs.size] }
abbrev zipTLH4 (h : Heap) (l1 l2 : Addr) : Heap := (zipTLH3 h l1 l2).push { cls := .type "tuple", data := .seq #[.none, .none] }
abbrev zipTLH5 (h : Heap) (l1 l2 : Addr) : Heap := (zipTLH4 h l1 l2).push { cls := .type "zip", data := .fields #[.none, .bool false, .bool false, .ref (zipTLH2 h l1 l2).objs.size, .ref (zipTLH3 h l1 l2).objs.size] }
theorem meets_zipTL_new (l1 l2 : Addr) (xs ys : Array Value) :
    Meets (Builtin.«zip.__new__» ⟨[.type "zip", .ref l1, .ref l2], []⟩) (fun _ R s => s.heap.IsTuple l1 xs ∧ s.heap.IsList l2 ys ∧
      R (.ok (.ret (.ref (zipTLH4 s.heap l1 l2).objs.size))) { s with heap := zipTLH5 s.heap l1 l2 }) :=
  .of_wp fun prog w A R s h => by
    obtain ⟨hp, g, d, tk, os⟩ := s; obtain ⟨hl1, hl2, h⟩ := h
    have hsub := sub_zip
    have hL1 : Heap.IsTuple (Shared.heap ⟨hp, g, d, tk, os⟩) l1 xs := hl1
    have hL2 : Heap.IsList (Shared.heap ⟨hp.push { cls := .type "tuple_iterator", data := .fields #[.ref l1, .int 0 0] }, g, d, tk, os⟩) l2 ys := Heap.IsList.push hl2 _
    wp_walk using wpAny_pyIter_tuple hL1, wpAny_pyIter_list hL2
    exact ⟨_, rfl, h⟩
theorem call_zipTL {prog : Program} {w : World} {A : Around} {E : Value → Shared → Prop} {s : Shared} {l1 l2 : Addr} {xs ys : Array Value} {Q : Value → Shared → Prop} (hl1 : s.heap.IsTuple l1 xs) (hl2 : s.heap.IsList l2 ys)
    (h : ∀ h', IsZip h' (s.heap.objs.size + 4) (s.heap.objs.size + 2) (s.heap.objs.size + 3) .none → IsPair h' (s.heap.objs.size + 2) (.ref s.heap.objs.size) (.ref (s.heap.objs.size + 1)) →
      IsPair h' (s.heap.objs.size + 3) .none .none → h'.IsTupleIter s.heap.objs.size l1 0 → h'.IsListIter (s.heap.objs.size + 1) l2 0 → h'.objs.size = s.heap.objs.size + 5 →
      (∀ c o, s.heap.get? c = some o → h'.get? c = some o) → Q (.ref (s.heap.objs.size + 4)) { s with heap := h' }) :
    wpAny (model prog w) A (call (.type "zip") [.ref l1, .ref l2]) Q E s := by
  refine callType_new F.called_zip (by decide) (F.typeCall_zip_2 _ _) (F.newCall_zip_2 _ _) (fun obj => F.args_object_init_3 obj _ _) F.entry_zip_new
    (meets_zipTL_new l1 l2 xs ys) ⟨hl1, hl2, ?_⟩
  have z1 : (zipTLH1 s.heap l1).objs.size = s.heap.objs.size + 1 := Heap.size_push ..
  have z2 : (zipTLH2 s.heap l1 l2).objs.size = s.heap.objs.size + 2 := by rw [Heap.size_push, z1]
  have z3 : (zipTLH3 s.heap l1 l2).objs.size = s.heap.objs.size + 3 := by rw [Heap.size_push, z2]
  have z4 : (zipTLH4 s.heap l1 l2).objs.size = s.heap.objs.size + 4 := by rw [Heap.size_push, z3]
  have z5 : (zipTLH5 s.heap l1 l2).objs.size = s.heap.objs.size + 5 := by rw [Heap.size_push, z4]
  have g5 : (zipTLH5 s.heap l1 l2).get? (zipTLH4 s.heap l1 l2).objs.size = some _ := Heap.get?_push_size _ rfl
  have g4 : (zipTLH5 s.heap l1 l2).get? (zipTLH3 s.heap l1 l2).objs.size = some _ := Heap.get?_push_of_some _ (Heap.get?_push_size _ rfl)
  have g3 : (zipTLH5 s.heap l1 l2).get? (zipTLH2 s.heap l1 l2).objs.size = some _ := Heap.get?_push_of_some _ (Heap.get?_push_of_some _ (Heap.get?_push_size _ rfl))
  have g2 : (zipTLH5 s.heap l1 l2).get? (zipTLH1 s.heap l1).objs.size = some _ := Heap.get?_push_of_some _ (Heap.get?_push_of_some _ (Heap.get?_push_of_some _ (Heap.get?_push_size _ rfl)))
  have g1 : (zipTLH5 s.heap l1 l2).get? s.heap.objs.size = some _ := Heap.get?_push_of_some _ (Heap.get?_push_of_some _ (Heap.get?_push_of_some _ (Heap.get?_push_of_some _ (Heap.get?_push_size _ rfl))))
  show _ ∧ _
  rw [z2, z3, z4] at g5
  rw [z1, z2] at g3
  rw [z3] at g4
  rw [z1] at g2
  rw [z4]
  exact ⟨⟨_, g5, rfl⟩, h _ g5 g3 g4 ⟨_, g1, rfl, rfl⟩ ⟨_, g2, rfl, rfl⟩ z5 fun c o x =>
    Heap.get?_push_of_some _ (Heap.get?_push_of_some _ (Heap.get?_push_of_some _ (Heap.get?_push_of_some _ (Heap.get?_push_of_some _ x))))⟩

theorem call_zipC {prog : Program} {w : World} {A : Around} {E : Value → Shared → Prop} {s : Shared} {c1 c2 : Bool} {l1 l2 : Addr} {xs ys : Array Value} {Q : Value → Shared → Prop} (hl1 : IsC c1 s.heap l1 xs) (hl2 : IsC c2 s.heap l2 ys)
    (h : ∀ h', IsZip h' (s.heap.objs.size + 4) (s.heap.objs.size + 2) (s.heap.objs.size + 3) .none → IsPair h' (s.heap.objs.size + 2) (.ref s.heap.objs.size) (.ref (s.heap.objs.size + 1)) →
      IsPair h' (s.heap.objs.size + 3) .none .none → IterC c1 h' s.heap.objs.size l1 0 → IterC c2 h' (s.heap.objs.size + 1) l2 0 → h'.objs.size = s.heap.objs.size + 5 →
      (∀ c o, s.heap.get? c = some o → h'.get? c = some o) → Q (.ref (s.heap.objs.size + 4)) { s with heap := h' }) :
    wpAny (model prog w) A (call (.type "zip") [.ref l1, .ref l2]) Q E s := by
  cases c1 with
  | true =>
    cases c2 with
    | true => exact call_zip_2 hl1 hl2 h
    | false => exact call_zipLT hl1 hl2 h
  | false =>
    cases c2 with
    | true => exact call_zipTL hl1 hl2 h
    | false => exact RZ.call_zipT hl1 hl2 h
theorem mem2 {x a b : Addr} : x ∉ ([a, b] : List Addr) ↔ x ≠ a ∧ x ≠ b := by simp
theorem nn {x y : Nat} (h : ¬ x = y) : (x : Addr) ≠ (y : Addr) := h
theorem sep_of {I l1 l2 : Nat} (h1 : l1 < I) (h2 : l2 < I) : ZipSep2 (I + 4) (I + 2) (I + 3) I (I + 1) [I, l1] [I + 1, l2] where
  TIz := nn (by omega)
  TOz := nn (by omega)
  TITO := nn (by omega)
  TIi1 := nn (by omega)
  mem1 := List.mem_cons_self
  zf1 := mem2.mpr ⟨nn (by omega), nn (by omega)⟩
  Tf1 := mem2.mpr ⟨nn (by omega), nn (by omega)⟩
  TIi2 := nn (by omega)
  mem2 := List.mem_cons_self
  zf2 := mem2.mpr ⟨nn (by omega), nn (by omega)⟩
  Tf2 := mem2.mpr ⟨nn (by omega), nn (by omega)⟩
  sep1_2 := mem2.mpr ⟨nn (by omega), nn (by omega)⟩
  sep2_1 := mem2.mpr ⟨nn (by omega), nn (by omega)⟩
def iZipC (K : PySem.W.Frag) (c1 c2 : Bool) (ta : TA) : TI := fun σ H R => ta σ H fun vs H1 => ∃ a b xs ys, vs = [.ref a, .ref b] ∧ SqC c1 K H1 a xs ∧ SqC c2 K H1 b ys ∧ R (ItzC K c1 c2 a b) H1
theorem pi_zipC (c1 c2 : Bool) {X : Cx} {e e2 : Expr} {ta : TA} {p pos tpos : Pos} {elts : List Expr} {kk : Nat} (hg : Gl X "zip") (hm : X.mg "zip" = none) (ha : PA X [e, e2] ta)
    (hs : starEach [e, e2] X.env = (false, eval e X.env) :: starEach [e2] X.env := by rfl) (hpl : (backTo pos (starEach [e2] X.env)).any (·.1) = false := by rfl) :
    PI X (.Tuple elts kk tpos) (.Call (.Name "zip" p) [e, e2] [] pos) (iZipC X.K c1 c2 ta) := by
  refine ⟨fun pins s σ H R I h => ?_⟩
  refine Call_ (ld_blt I hg hm PyProof.Rows.boot_zip (PyProof.Rows.callWith_type1 (thn (ha.run pos pins s σ H _ I h) fun us s1 ⟨vs, H1, I1, r1, q1⟩ => ?_) hs hpl))
  obtain ⟨a, b, xs, ys, ex, hqx, hqy, q⟩ := q1
  subst ex
  cases r1 with
  | cons r rr =>
    cases rr with
    | cons r' rr =>
      cases rr
      cases r
      cases r'
      have fresh5 : ∀ c, c ∈ [s1.heap.objs.size + 4, s1.heap.objs.size + 2, s1.heap.objs.size + 3, s1.heap.objs.size, s1.heap.objs.size + 1] → FpOk X pins H1 c := fun c hcm => by
        have e' : c = s1.heap.objs.size + 4 ∨ c = s1.heap.objs.size + 2 ∨ c = s1.heap.objs.size + 3 ∨ c = s1.heap.objs.size ∨ c = s1.heap.objs.size + 1 := by simpa using hcm
        have hle : s1.heap.objs.size ≤ c := by
          rcases e' with z | z | z | z | z
          · rw [z]; exact Nat.le_add_right _ _
          · rw [z]; exact Nat.le_add_right _ _
          · rw [z]; exact Nat.le_add_right _ _
          · rw [z]; exact Nat.le_refl _
          · rw [z]; exact Nat.le_add_right _ _
        exact I1.fpOk hle (I1.hok.fresh hle)
      obtain ⟨its, rv, p1, l1⟩ := getC I1 hqx
      obtain ⟨its2, rv2, p2, l2⟩ := getC I1 hqy
      refine call_zipC p1 p2 fun h' hz hTI hTO h1 h2 hsz hk => wpAny_pyIter_zip hz ?_
      have I2 : Inv X pins σ H1 { s1 with heap := h' } := I1.kept (t' := s1.toks) hk
      exact ⟨s1.heap.objs.size + 4, [s1.heap.objs.size + 4, s1.heap.objs.size + 2, s1.heap.objs.size + 3, s1.heap.objs.size, s1.heap.objs.size + 1], _, _, H1, rfl, I2, turn_zipC (PySem.W.ktu_apart s1.heap.objs.size a b l1 l2) (sep_of l1 l2), ⟨hz, hTI, ⟨_, _, hTO⟩, h1, h2⟩, fresh5, q⟩

/-! ### enumerate of a tuple -/
theorem meets_enumerate_newT (l : Addr) (items : Array Value) :
    Meets (Builtin.«enumerate.__new__» ⟨[.type "enumerate", .ref l], []⟩) (fun _ R s => s.heap.IsTuple l items ∧
      R (.ok (.ret (.ref (s.heap.push { cls := .type "tuple_iterator", data := .fields #[.ref l, .int 0 0] }).objs.size)))
        { s with heap := (s.heap.push { cls := .type "tuple_iterator", data := .fields #[.ref l, .int 0 0] }).push { cls := .type "enumerate", data := .fields #[.none, .bool false, .ref s.heap.objs.size, rawInt 0, .none, .none] } }) :=
  .of_wp fun prog w A R s h => by
    obtain ⟨hp, g, d, tk, os⟩ := s; obtain ⟨hl, h⟩ := h
    have hsub := sub_enumerate
    have hL : Heap.IsTuple (Shared.heap ⟨hp, g, d, tk, os⟩) l items := hl
    obtain ⟨o, ho, _⟩ := id hl
    wp_walk using wpAny_loadPart' ho
    refine wpAny_stack_any fun st => wpAny_pure ?_
    split
    · rename_i c _ _ _ _ _
      cases (c == Value.type "enumerate")
      · wp_walk using wpAny_loadPart' ho, wpAny_pyIter_tuple hL
        exact ⟨_, rfl, h⟩
      · wp_walk using wpAny_loadPart' ho, wpAny_pyIter_tuple hL
        exact ⟨_, rfl, h⟩
    · wp_walk using wpAny_loadPart' ho, wpAny_pyIter_tuple hL
      exact ⟨_, rfl, h⟩
theorem call_enumerateT {prog : Program} {w : World} {A : Around} {E : Value → Shared → Prop} {s : Shared} {l : Addr} {items : Array Value} {Q : Value → Shared → Prop} (hL : s.heap.IsTuple l items)
    (h : ∀ h', IsEnum h' (s.heap.objs.size + 1) s.heap.objs.size 0 .none → h'.IsTupleIter s.heap.objs.size l 0 → h'.objs.size = s.heap.objs.size + 2 →
      (∀ b o, s.heap.get? b = some o → h'.get? b = some o) → Q (.ref (s.heap.objs.size + 1)) { s with heap := h' }) :
    wpAny (model prog w) A (call (.type "enumerate") [.ref l]) Q E s := by
  refine callType_new F.called_enumerate (by decide) (F.typeCall_enumerate_1 _) (F.newCall_enumerate_1 _) (fun obj => F.args_object_init_2 obj _) F.entry_enumerate_new
    (meets_enumerate_newT l items) ⟨hL, ?_⟩
  have hz : (s.heap.push { cls := .type "tuple_iterator", data := .fields #[.ref l, .int 0 0] }).objs.size = s.heap.objs.size + 1 := Heap.size_push ..
  show _ ∧ _
  rw [hz]
  have he : IsEnum ((s.heap.push { cls := .type "tuple_iterator", data := .fields #[.ref l, .int 0 0] }).push
      { cls := .type "enumerate", data := .fields #[.none, .bool false, .ref s.heap.objs.size, rawInt 0, .none, .none] }) (s.heap.objs.size + 1) s.heap.objs.size 0 .none := by
    have := Heap.get?_push_size (s.heap.push { cls := .type "tuple_iterator", data := .fields #[.ref l, .int 0 0] })
      (o := { cls := .type "enumerate", data := .fields #[.none, .bool false, .ref s.heap.objs.size, rawInt 0, .none, .none] }) rfl
    rw [hz] at this; exact this
  refine ⟨⟨_, he, rfl⟩, h _ he ⟨_, Heap.get?_push_of_some _ (Heap.get?_push_size _ rfl), rfl, rfl⟩ (by rw [Heap.size_push, hz]) fun b o x => Heap.get?_push_of_some _ (Heap.get?_push_of_some _ x)⟩
theorem call_enumerateC {prog : Program} {w : World} {A : Around} {E : Value → Shared → Prop} {s : Shared} {c : Bool} {l : Addr} {items : Array Value} {Q : Value → Shared → Prop} (hL : IsC c s.heap l items)
    (h : ∀ h', IsEnum h' (s.heap.objs.size + 1) s.heap.objs.size 0 .none → IterC c h' s.heap.objs.size l 0 → h'.objs.size = s.heap.objs.size + 2 →
      (∀ b o, s.heap.get? b = some o → h'.get? b = some o) → Q (.ref (s.heap.objs.size + 1)) { s with heap := h' }) :
    wpAny (model prog w) A (call (.type "enumerate") [.ref l]) Q E s := by
  cases c with
  | true => exact call_enumerate_list hL h
  | false => exact call_enumerateT hL h
def IteC (K : PySem.W.Frag) (c : Bool) (a : Addr) : It :=
  ⟨fun i H => ∃ (xs : List V) (x : V), SqC c K H a xs ∧ xs[i]? = some x, fun i H v H' => ∃ T x, v = .ref T ∧ H T = none ∧ H' = upd H T (.tup [.int (i : Nat), x]) ∧ ∀ xs, SqC c K H a xs → xs[i]? = some x, fun i H => ∃ xs : List V, SqC c K H a xs ∧ xs.length = i⟩
theorem turn_enumC {P : Program} {w : World} {K : PySem.W.Frag} {elts : List Expr} {kk : Nat} {tpos : Pos} {c : Bool} (a e it : Addr) (hae : a ≠ e) (hai : a ≠ it) :
    Turn P w K (.Tuple elts kk tpos) (IteC K c a) [e, it] e (fun i h => (∃ old, IsEnum h e it ((i : Nat) : Int) old) ∧ IterC c h it a i ∧ e ≠ it) where
  mem := by simp
  obj := fun i h st b hb => by
    obtain ⟨⟨old, he⟩, hi, _⟩ := st
    have e' : b = e ∨ b = it := by simpa using hb
    rcases e' with z | z
    · rw [z]; exact ⟨_, he, fun v q => nomatch q⟩
    · rw [z]; exact hi.obj
  keep := fun i h h' st k => let ⟨⟨old, he⟩, hi, hne⟩ := st; ⟨⟨old, k e (by simp) _ he⟩, hi.at_ fun o q => k it (by simp) o q, hne⟩
  item := by
    intro X hP hw hK hc i pins s σ H E I hf st hg
    subst hP hw hK
    obtain ⟨⟨old, he⟩, hit, hne⟩ := st
    obtain ⟨xs, x, hq, hx⟩ := hg
    obtain ⟨its, rv, p, _⟩ := getC I hq
    obtain ⟨u, hu, ru⟩ := rv.get hx
    have hel : e < s.heap.objs.size := Heap.lt_size he
    have hil : it < s.heap.objs.size := by obtain ⟨_, q, _⟩ := hit.obj; exact Heap.lt_size q
    have lu : i < its.toArray.size := by simpa using (List.getElem?_eq_some_iff.mp hu).1
    refine wpAny_pyNext_enum_itemD (drawsC c (show X.A.in1.handled = none from I.ok.hd hc) it a hai its.toArray) he ⟨hit, p⟩ lu hne (by simp only [List.mem_cons, List.not_mem_nil, or_false, not_or]; exact ⟨hne, fun z => hae z.symm⟩) fun y h' tk ey ho st' hT hsz hk => ?_
    have ey1 : y = u := by
      have : its.toArray[i]? = some u := by simpa using hu
      rw [this] at ey
      exact (Option.some.inj ey).symm
    subst ey1
    refine ⟨_, rfl, wpAny_letOwnedTupleGo_enum (s := { s with heap := h', toks := tk + 1 }) ho fun h'' he' sb => ?_⟩
    have hT2 : h''.get? s.heap.objs.size = some { cls := .type "tuple", data := .seq #[.int i tk, y] } := (sb.2 _ (Nat.ne_of_gt hel)).trans hT
    have new : ObjOk X.prog X.w (upd H s.heap.objs.size (.tup [.int (i : Nat), x])) h'' s.heap.objs.size (.tup [.int (i : Nat), x]) :=
      ⟨by show 2 ≤ sizeLine; decide, [.int i tk, y], .cons ⟨_, rfl⟩ (.cons ru .nil), ⟨_, hT2, rfl, _, rfl⟩⟩
    have I1 : Inv X pins σ (upd H s.heap.objs.size (.tup [.int (i : Nat), x])) { s with heap := h'', toks := tk + 1 } :=
      I.turnedNew (ch := [e, it]) (fun b ob hb q => (sb.2 b (fun z => hb (by simp [z]))).trans (hk b ob (fun z => hb (by simp [z])) (fun z => hb (by simp [z])) q)) hf (Nat.le_refl _) new
    refine ⟨.ref s.heap.objs.size, _, I1, rfl, ⟨_, x, rfl, I.hok.fresh (Nat.le_refl _), rfl, fun ys hy => by rw [injC I hy hq]; exact hx⟩, ⟨⟨y, ?_⟩, st'.1.at_ fun o q => (sb.2 it (Ne.symm hne)).trans q, hne⟩, fun b hb => ?_⟩
    · have e1 : ((i + 1 : Nat) : Int) = (i : Int) + 1 := by omega
      rw [e1]; exact he'
    · have hb' : b < s.heap.objs.size := by
        have e' : b = e ∨ b = it := by simpa using hb
        rcases e' with z | z
        · rw [z]; exact hel
        · rw [z]; exact hil
      rw [upd_ne (Nat.ne_of_lt hb')]
      exact (hf b hb).1
  done := by
    intro X hP hw hK hc i pins s σ H E I hf st hg
    subst hP hw hK
    obtain ⟨⟨old, he⟩, hit, hne⟩ := st
    obtain ⟨xs, hq, hx⟩ := hg
    obtain ⟨its, rv, p, _⟩ := getC I hq
    obtain ⟨f0, f1, f2, f3, f4, f5⟩ := hf it (by simp)
    have hl := rv.length
    have ei : i = its.toArray.size := by simp; omega
    subst ei
    exact wpAny_pyNext_enum_endD (drawsC c (show X.A.in1.handled = none from I.ok.hd hc) it a hai its.toArray) he ⟨hit, p⟩ fun h' eb => ⟨rfl, I.turned (t' := s.toks) (fun b o hb q => eb b o hb q) f0 f1 f3 f4 f5⟩
  self := fun A i s Q E st h => let ⟨⟨_, he⟩, _⟩ := st; wpAny_pyIter_enum he h
def iEnumC (K : PySem.W.Frag) (c : Bool) (ta : TA) : TI := fun σ H R => ta σ H fun vs H1 => ∃ a xs, vs = [.ref a] ∧ SqC c K H1 a xs ∧ R (IteC K c a) H1
theorem pi_enumC (c : Bool) {X : Cx} {e : Expr} {ta : TA} {p pos tpos : Pos} {elts : List Expr} {kk : Nat} (hg : Gl X "enumerate") (hm : X.mg "enumerate" = none) (ha : PA X [e] ta) (hs : starEach [e] X.env = [(false, eval e X.env)] := by rfl) :
    PI X (.Tuple elts kk tpos) (.Call (.Name "enumerate" p) [e] [] pos) (iEnumC X.K c ta) := by
  refine ⟨fun pins s σ H R I h => ?_⟩
  refine Call_ (ld_blt I hg hm boot_enumerate (PyProof.Rows.callWith_type1 (thn (ha.run pos pins s σ H _ I h) fun us s1 ⟨vs, H1, I1, r1, q1⟩ => ?_) hs rfl))
  obtain ⟨a, xs, ex, hq, q⟩ := q1
  subst ex
  cases r1 with
  | cons r rr =>
    cases rr
    cases r
    obtain ⟨its, rv, p', hlt⟩ := getC I1 hq
    refine call_enumerateC p' fun h' he hit hsz hk => wpAny_pyIter_enum he ?_
    have I2 : Inv X pins σ H1 { s1 with heap := h' } := I1.kept (t' := s1.toks) hk
    refine ⟨s1.heap.objs.size + 1, [s1.heap.objs.size + 1, s1.heap.objs.size], _, _, H1, rfl, I2, turn_enumC a (s1.heap.objs.size + 1) s1.heap.objs.size (Nat.ne_of_lt (Nat.lt_succ_of_lt hlt)) (Nat.ne_of_lt hlt), ⟨⟨.none, he⟩, hit, Nat.succ_ne_self _⟩, fun b hb => ?_, q⟩
    have e' : b = s1.heap.objs.size + 1 ∨ b = s1.heap.objs.size := by simpa using hb
    have hle : s1.heap.objs.size ≤ b := by
      rcases e' with z | z
      · rw [z]; exact Nat.le_add_right _ _
      · rw [z]; exact Nat.le_refl _
    exact I1.fpOk hle (I1.hok.fresh hle)
end Ml


set_option Elab.async false
set_option linter.all false
set_option maxRecDepth 100000
set_option maxHeartbeats 4000000
set_option autoImplicit false
namespace Ml
open PySem PySem.Spec PyProof.Rows L2
section
variable {X : Cx}
/-! ### list + list, lists of any standing -/
def rCatS (K : PySem.W.Frag) : R2 := fun x y H Q => ∃ a b xs ys, x = .ref a ∧ y = .ref b ∧ SqL K H a xs ∧ SqL K H b ys ∧ xs.length + ys.length ≤ sizeLine ∧ ∀ p, H p = none → Q (.ref p) (upd H p (.lst (xs ++ ys)))
theorem op_catS : OpR X (binaryOp .Add) (rCatS X.K) := by
  intro pins s σ H x y v u Q I rx ry h
  obtain ⟨a, b, xs, ys, rfl, rfl, ha, hb, hz, q⟩ := h
  cases rx
  cases ry
  obtain ⟨its, r1, p1, _⟩ := I.list ha
  obtain ⟨its2, r2, p2, _⟩ := I.list hb
  have hl := p1.isList
  have hb := p2.isList
  obtain ⟨⟨cls, dd, data, sl⟩, ho, hc, n, hd⟩ := id hl
  obtain ⟨⟨cls2, dd2, data2, sl2⟩, ho2, hc2, n2, hd2⟩ := id hb
  simp only at hc hd hc2 hd2
  subst hc hd hc2 hd2
  have e : its.toArray ++ its2.toArray = (its ++ its2).toArray := by simp
  have l1 := r1.length
  have l2 := r2.length
  refine concat_meets ⟨_, ho, rfl⟩ ⟨_, ho2, rfl⟩ noFill_list_add seq_list_add PySem.F.slot_list_add PySem.F.entry_list_add (PySem.F.args_list_add_2 _ _) (list_addW a b its.toArray its2.toArray n n2 dd dd2 sl sl2 (by simp; omega)) ⟨ho, ho2, ?_⟩
  rw [e]
  refine ⟨.ref s.heap.objs.size, _, I.laid (t' := s.toks) (o := .lst (xs ++ ys)) (fun b ob q => Heap.get?_push_of_some _ q) (Nat.le_refl _) ?_, rfl, q _ (I.hok.fresh (Nat.le_refl _))⟩
  exact ⟨by rw [List.length_append]; exact hz, _, 0, r1.append r2, Heap.get?_push_size _ rfl⟩
/-! ### d[k], d.get(k, x) of a written dict -/
theorem ix_kd {d : Addr} {es : Array DictEntry} {n : Nat} (D : KDict X.K X.w d es n) : IxR X (fun x y H Q => ∃ (z : Str) (u0 : Value) (v0 : V), x = .ref d ∧ y = .str z ∧ PySem.W.nsIn X.K d z = some (some u0) ∧ RelV v0 u0 ∧ Q v0 H) := by
  intro value slice pins s σ H x y v u Q I rx ry h hs
  obtain ⟨z, u0, v0, rfl, rfl, e, r, q⟩ := h
  cases rx
  obtain ⟨t, rfl⟩ := ry
  exact tail_any (kd_type D I) PySem.F.slot_dict_getitem.lookup (wpAny_getItem_of (PySem.strKind_is X.prog X.w z t) (PySem.W.mapOf_K (prog := X.prog) I.kIn D.at_ D.lit) (PySem.W.find_K D.at_ e) ⟨v0, H, I.tok _, r, q⟩) hs
def tKGet (K : PySem.W.Frag) (d : Addr) (td ty tx : TE) : TE := fun σ H Q => td σ H fun x H1 => x = .ref d ∧ ty σ H1 fun y H2 => tx σ H2 fun z H3 => ∃ (k : Str) (r : Option Value), y = .str k ∧ PySem.W.nsIn K d k = some r ∧ (r = none → Q z H3) ∧ ∀ u0, r = some u0 → ∃ v0, RelV v0 u0 ∧ Q v0 H3
theorem pe_kget {o e f : Expr} {td ty tx : TE} {apos cpos : Pos} {d : Addr} {es : Array DictEntry} {n : Nat} (D : KDict X.K X.w d es n) (ho : PE X o td) (he : PE X e ty) (hf : PE X f tx) (m : M2 X o "get" apos e f cpos) : PE X (.Call (.Attribute o "get" apos) [e, f] [] cpos) (tKGet X.K d td ty tx) := by
  refine ⟨fun pins s σ H Q I h => ?_⟩
  refine wpAny_Call_method m.base m.few m.line PySem.F.plainAttrs_dict PySem.F.slot_dict_get PySem.F.type_dict_get (thn (ho.run pins s σ H _ I h) fun u s1 ⟨x, H1, I1, rx, ex, q1⟩ => ?_)
  subst ex
  obtain rfl : u = Value.ref d := rx
  refine ⟨kd_type D I1, fun b q => ?_, ?_⟩
  · cases q
    exact ⟨_, I1.kIn _ _ D.at_, rfl⟩
  rw [m.trees]
  refine Calls.callWith_builtin rfl (Calls.evalArgs_plain (Calls.spliced_cons (thn (he.run pins s1 σ H1 _ I1 q1) fun iv s2 ⟨y, H2, I2, ry, q2⟩ =>
    Calls.spliced_cons (thn (hf.run pins s2 σ H2 _ I2 q2) fun fv s3 ⟨z, H3, I3, rz, k, r, ey, e, qn, qs⟩ => Calls.spliced_nil ?_))))
  subst ey
  obtain ⟨t, rfl⟩ := ry
  have mp := PySem.W.mapOf_K (prog := X.prog) (w := X.w) I3.kIn D.at_ D.lit
  refine call_meetsIn PySem.F.slot_dict_get mp.typeIs PySem.F.entry_dict_get (PySem.F.args_dict_get_3 _ _ _) (meets_dict_get_default (strKind X.prog X.w) d (PySem.strKind_is X.prog X.w k t) D.low fv) ⟨_, mp, ?_⟩
  show EP X pins σ Q _ _
  rw [PySem.W.find_K D.at_ e]
  cases r with
  | none => exact ⟨z, H3, I3.tok _, rz, qn rfl⟩
  | some u0 =>
    obtain ⟨v0, r0, q0⟩ := qs u0 rfl
    exact ⟨v0, H3, I3.tok _, r0, q0⟩
/-! ### repr of data -/
def rRepr (K : PySem.W.Frag) : List V → Hp → VK → Prop := fun xs H Q => ∃ x d, xs = [x] ∧ Dp K H x d ∧ PyProof.Rows.isDisplay d = true ∧ d.showable = true ∧ d.hasDict = false ∧ d.depth ≤ 60 ∧ d.shown.length ≤ sizeLine ∧ Q (.str d.shown) H
theorem cr_repr (hg : X.A.guards = some []) (hu : X.A.units + 64 < cLine) : CallR X (.builtin "repr") (rRepr X.K) := by
  intro pins s σ H xs us Q I r h
  obtain ⟨x, d, rfl, hd, h1, h2, h3, h4, h5, q⟩ := h
  obtain ⟨u, rfl, ru⟩ := vals1 r
  obtain ⟨as, rd⟩ := Dp.reads I d x u hd ru
  obtain ⟨a, rfl⟩ := PyProof.Rows.isRef_of_reads rd h1
  exact repr_of_reads' rd h2 (PyData.noDict_hsm h3) hg (by omega) (fun _ _ e => e) (fun h' u tk hk => ⟨.str _, H, I.kept (t' := tk) hk, ⟨_, rfl⟩, q⟩) h5
/-! ### sorted of a tuple of texts -/
def rSortedT (K : PySem.W.Frag) : List V → Hp → VK → Prop := fun vs H Q => ∃ (a : Addr) (xs : List Str), vs = [V.ref a] ∧ SqT K H a (xs.map V.str) ∧ xs.length < 64 ∧
  ∀ (ys : List Str) (p : Addr), ys.Perm xs → sortedS ys = true → H p = none → Q (.ref p) (upd H p (.lst (ys.map V.str)))
theorem cr_sortedT : CallR X (.builtin "sorted") (rSortedT X.K) := by
  intro pins s σ H vs us Q I r h
  obtain ⟨a, xs, rfl, hs, h64, q⟩ := h
  obtain ⟨its, rv, ⟨o, ho, hc, n, hd⟩, hz⟩ := I.tuple hs
  rw [Vals.ref1 r]
  have hlen0 := rv.length
  rw [List.length_map] at hlen0
  have hS := rv.strs
  refine Calls.call_function_entry kind_sorted plain_sorted entry_sorted (args_sorted1 _) ?_
  unfold Builtin.«sorted»
  refine wpAny_bind (m := checkCount "sorted" 1 1 _) (wpAny_pure ?_)
  refine wpAny_bind (wpAny_collect_seq a (.inr rfl) ho hc hd (fun h' hk => ?_) (by rw [List.size_toArray]; rw [sizeLine_eq]; omega))
  have I2 : Inv X pins σ H { s with heap := h' } := I.kept (t' := s.toks) hk
  refine wpAny_bind (wpAny_newList ?_)
  show wpAny _ _ _ _ _ { s with heap := h'.push (seqObj "list" its.toArray 0) }
  have hoL : (h'.push (seqObj "list" its.toArray 0)).get? h'.objs.size = some (seqObj "list" its.toArray 0) := Heap.get?_push_size _ rfl
  have I3 : Inv X pins σ (upd H h'.objs.size (.lst (xs.map V.str))) { s with heap := h'.push (seqObj "list" its.toArray 0) } :=
    I2.laid (t' := s.toks) (o := .lst (xs.map V.str)) (fun b ob q => Heap.get?_push_of_some _ q) (Nat.le_refl _) ⟨by rw [List.length_map, sizeLine_eq]; omega, its, 0, rv, hoL⟩
  have hn : H h'.objs.size = none := I2.hok.fresh (Nat.le_refl _)
  refine wpAny_bind (wpAny_holding (wpAny_call_entry slot_list_sort ⟨_, hoL, rfl⟩ entry_list_sort (list_sort_treeK strKind_oneLt hoL hS.keysOf (fun v₁ v₂ rest e => keyKind_strs (by rw [← e]; exact hS)) (by omega) fun st' a1 a2 => ⟨_, rfl, ?_⟩) (args_list_sort _)))
  obtain ⟨ys, b1, b2, b3⟩ := sorted_out_str hS a1 a2
  refine wpAny_pure ⟨_, rfl, ?_⟩
  obtain ⟨ep, he'⟩ := PyProof.Rows.sortedHeap_at (vs := its) (out := (arrOf st').map (·.2)) hoL
  have hlen : (ys.map V.str).length ≤ sizeLine := by rw [List.length_map, b2.length_eq]; exact small64 h64
  refine ⟨.ref h'.objs.size, upd (upd H h'.objs.size (.lst (xs.map V.str))) h'.objs.size (.lst (ys.map V.str)), I3.write (e := h'.objs.size) (t' := s.toks) (by rw [upd_same]; trivial) (.inl rfl) (fun b u hb hu => ?_) ⟨_, he'⟩ ⟨hlen, _, ep, vals_of_strs b1, he'⟩, rfl, ?_⟩
  · rw [PyProof.Rows.sortedHeap_old hb (Heap.lt_size hu)]
    exact hu
  · rw [upd_upd]
    exact q ys _ b2 b3 hn
end
end Ml


set_option Elab.async false
set_option linter.all false
set_option maxRecDepth 100000
set_option maxHeartbeats 4000000
set_option autoImplicit false
namespace Ml
open PySem PySem.Spec PyProof.Rows L2
/-! ### tuple * int, every int -/
theorem tuple_mulW1 (l : Addr) (items : Array Value) (n : Nat) (dd : Option Addr) (sl : Array (Option Value)) (u : Tok) :
    Meets (Builtin.«tuple.__mul__» ⟨[.ref l, .int 1 u], []⟩) (fun _ R s => s.heap.get? l = some { cls := .type "tuple", dict := dd, data := .seq items n, slots := sl } ∧ R (.ok (.ret (Value.ref l))) s) :=
  .of_wp fun prog w A R s h => by
    obtain ⟨hp, g, d, tk, os⟩ := s
    obtain ⟨hl, h⟩ := h
    have f1 := AutoSeq1.idx_int
    have c1 : (items.isEmpty || (1 : Int) == 1) = true := by simp
    wp_walk using wpAny_loadPart' hl
    repeat (first
      | (refine wpAny_ite_true (decide_eq_true (by rw [c1])) ?_; wp_walk using wpAny_loadPart' hl)
      | (refine wpAny_ite_false (decide_eq_false (by decide)) ?_; wp_walk using wpAny_loadPart' hl))
    exact ⟨_, rfl, h⟩
theorem tuple_mulW0 (l : Addr) (items : Array Value) (n : Nat) (dd : Option Addr) (sl : Array (Option Value)) (x : Int) (u : Tok) (c0 : (decide (x < -(2 ^ 63)) || decide (x ≥ 2 ^ 63)) = false) (c1 : (items.isEmpty || x == 1) = false) (c2 : (decide (x ≤ 0) || items.isEmpty) = true) :
    Meets (Builtin.«tuple.__mul__» ⟨[.ref l, .int x u], []⟩) (fun _ R s => s.heap.get? l = some { cls := .type "tuple", dict := dd, data := .seq items n, slots := sl } ∧
      R (.ok (.ret (Value.ref s.heap.objs.size))) { s with heap := s.heap.push { cls := Value.type "tuple", data := Data.seq #[] }, toks := s.toks }) :=
  .of_wp fun prog w A R s h => by
    obtain ⟨hp, g, d, tk, os⟩ := s
    obtain ⟨hl, h⟩ := h
    have f1 := AutoSeq1.idx_int
    wp_walk using wpAny_loadPart' hl
    repeat (first
      | (refine wpAny_ite_false (decide_eq_false (by rw [c0]; exact Bool.false_ne_true)) ?_; wp_walk using wpAny_loadPart' hl)
      | (refine wpAny_ite_false (decide_eq_false (by rw [c1]; exact Bool.false_ne_true)) ?_; wp_walk using wpAny_loadPart' hl)
      | (refine wpAny_ite_true (decide_eq_true (by rw [c2])) ?_; wp_walk using wpAny_loadPart' hl))
    exact ⟨_, rfl, h⟩
def rRepA (K : PySem.W.Frag) : R2 := fun x y H Q => ∃ l k xs, x = .ref l ∧ y = .int k ∧ SqT K H l xs ∧ xs ≠ [] ∧ -1000 ≤ k ∧ k ≤ 1000 ∧ xs.length ≤ 1000 ∧ (k = 1 → Q (.ref l) H) ∧ (k ≠ 1 → ∀ p, H p = none → Q (.ref p) (upd H p (.tup (List.replicate k.toNat xs).flatten)))
section
variable {X : Cx}
theorem op_repA : OpR X (binaryOp .Mult) (rRepA X.K) := by
  intro pins s σ H x y v u Q I rx ry h
  obtain ⟨l, k, xs, rfl, rfl, hT, hne, h1, h2, hz, q1, q⟩ := h
  by_cases k2 : 2 ≤ k
  · exact op_repT pins s σ H _ _ v u Q I rx ry ⟨l, k, xs, rfl, rfl, hT, hne, k2, h2, hz, q (by omega)⟩
  cases rx
  obtain ⟨t, rfl⟩ := ry
  obtain ⟨its, r, ⟨⟨cls, dd, data, sl⟩, ho, hc, n, hd⟩, hs⟩ := I.tuple hT
  simp only at hc hd
  subst hc hd
  have hle : its.length = xs.length := r.length.symm
  have hn : its ≠ [] := fun e => hne (by
    rw [e] at hle
    exact List.eq_nil_of_length_eq_zero hle.symm)
  have hi : its.toArray.isEmpty = false := by
    cases its with
    | nil => exact absurd rfl hn
    | cons a b => rfl
  by_cases k1 : k = 1
  · subst k1
    refine wpAny_binaryOp_repeat_ref (T := "tuple") (U := "int") (by decide) ⟨_, ho, rfl⟩ (fun s' => typeIs_int s' 1 t) noFill_tuple_mul F.fills_int_mul F.slot_int_rmul repeat_tuple F.slot_int_index.lookup
      (call_meets F.slot_int_rmul (typeIs_int s 1 t) F.entry_int_rmul (F.args_int_rmul_2 _ _) (int_rmul_tuple 1 t l its.toArray n dd sl)
        ⟨ho, rfl, ⟨_, ho, rfl⟩, call_meets F.slot_tuple_mul ⟨_, ho, rfl⟩ F.entry_tuple_mul (F.args_tuple_mul_2 _ _) (tuple_mulW1 l its.toArray n dd sl t) ⟨ho, ?_⟩⟩)
    exact ⟨.ref l, H, I.tok _, rfl, q1 rfl⟩
  · have c0 : (decide (k < -(2 ^ 63)) || decide (k ≥ 2 ^ 63)) = false := by
      rw [decide_eq_false (by omega), decide_eq_false (by omega)] <;> rfl
    have c1 : (its.toArray.isEmpty || k == 1) = false := by
      rw [hi, Bool.false_or]
      exact beq_eq_false_iff_ne.mpr k1
    have c2 : (decide (k ≤ 0) || its.toArray.isEmpty) = true := by
      rw [decide_eq_true (by omega)] <;> rfl
    refine wpAny_binaryOp_repeat_ref (T := "tuple") (U := "int") (by decide) ⟨_, ho, rfl⟩ (fun s' => typeIs_int s' k t) noFill_tuple_mul F.fills_int_mul F.slot_int_rmul repeat_tuple F.slot_int_index.lookup
      (call_meets F.slot_int_rmul (typeIs_int s k t) F.entry_int_rmul (F.args_int_rmul_2 _ _) (int_rmul_tuple k t l its.toArray n dd sl)
        ⟨ho, rfl, ⟨_, ho, rfl⟩, call_meets F.slot_tuple_mul ⟨_, ho, rfl⟩ F.entry_tuple_mul (F.args_tuple_mul_2 _ _) (tuple_mulW0 l its.toArray n dd sl k t c0 c1 c2) ⟨ho, ?_⟩⟩)
    have ek : k.toNat = 0 := by omega
    have qq := q k1 s.heap.objs.size (I.hok.fresh (Nat.le_refl _))
    rw [ek] at qq
    exact ⟨.ref s.heap.objs.size, _, I.laid (t' := s.toks) (o := .tup []) (fun b ob q => Heap.get?_push_of_some _ q) (Nat.le_refl _) ⟨Nat.zero_le _, [], .nil, IsTup.new _ _⟩, rfl, qq⟩
end
end Ml


set_option Elab.async false
set_option linter.all false
set_option maxRecDepth 100000
set_option maxHeartbeats 4000000
set_option autoImplicit false
/-! the operations over data; calls; promises -/
namespace Dl
open PySem PySem.Spec PyProof.Rows L2
theorem sz {n : Nat} (h : n ≤ 1000000) : n ≤ sizeLine := by
  have := sizeLine_eq
  omega
section
variable {K : PySem.W.Frag}
theorem rd_I0 {g : Int → Int → Int} {i j : Int} : RD K (rI0 fun i j => .int (g i j)) (.int i) (.int j) (.int (g i j)) := fun Hs H x y Q e hx hy q => ⟨i, j, Dp.toI hx, Dp.toI hy, q _ _ _ .same (.int _)⟩
theorem rd_B0 {g : Int → Int → Bool} {i j : Int} : RD K (rI0 fun i j => .bl (g i j)) (.int i) (.int j) (.bool (g i j)) := fun Hs H x y Q e hx hy q => ⟨i, j, Dp.toI hx, Dp.toI hy, q _ _ _ .same (.bl _)⟩
theorem rd_I {Cc : Int → Int → Prop} {g : Int → Int → Int} {i j : Int} (hc : Cc i j) : RD K (rI Cc fun i j => .int (g i j)) (.int i) (.int j) (.int (g i j)) := fun Hs H x y Q e hx hy q => ⟨i, j, Dp.toI hx, Dp.toI hy, hc, q _ _ _ .same (.int _)⟩
theorem ru_I {g : Int → Int} {i : Int} : RU K (rU fun i => .int (g i)) (.int i) (.int (g i)) := fun Hs H x Q e hx q => ⟨i, Dp.toI hx, q _ _ _ .same (.int _)⟩
theorem rd_eqI {i j : Int} : RD K rEq (.int i) (.int j) (.bool (decide (i = j))) := fun Hs H x y Q e hx hy q => by
  rw [Dp.toI hx, Dp.toI hy]
  refine ⟨rfl, ?_⟩
  have e : decide (V.int i = V.int j) = decide (i = j) := by
    by_cases h : i = j
    · subst h
      simp
    · simp [h]
  rw [e]
  exact q _ _ _ .same (.bl _)
theorem rd_neI {i j : Int} : RD K rNe (.int i) (.int j) (.bool (!decide (i = j))) := fun Hs H x y Q e hx hy q => by
  rw [Dp.toI hx, Dp.toI hy]
  refine ⟨rfl, ?_⟩
  have e : decide (V.int i = V.int j) = decide (i = j) := by
    by_cases h : i = j
    · subst h
      simp
    · simp [h]
  rw [e]
  exact q _ _ _ .same (.bl _)
theorem rd_eqS {i j : Str} : RD K rEq (.str i) (.str j) (.bool (decide (i = j))) := fun Hs H x y Q e hx hy q => by
  rw [Dp.toS hx, Dp.toS hy]
  refine ⟨rfl, ?_⟩
  have e : decide (V.str i = V.str j) = decide (i = j) := by
    by_cases h : i = j
    · subst h
      simp
    · simp [h]
  rw [e]
  exact q _ _ _ .same (.bl _)
theorem rd_eqD {a b : PyData} (ha : SeqAt.shaped a = true) (hb : SeqAt.shaped b = true) : RD K (rEqD K) a b (.bool (PyData.eqv a b)) := fun Hs H x y Q e hx hy q =>
  ⟨a, b, dp_mono e _ _ hx, dp_mono e _ _ hy, ha, hb, q _ _ _ .same (.bl _)⟩
theorem rd_neD {a b : PyData} (ha : SeqAt.shaped a = true) (hb : SeqAt.shaped b = true) : RD K (rNeD K) a b (.bool (!PyData.eqv a b)) := fun Hs H x y Q e hx hy q =>
  ⟨a, b, dp_mono e _ _ hx, dp_mono e _ _ hy, ha, hb, q _ _ _ .same (.bl _)⟩
def isNon : PyData → Bool
  | .none => true
  | _ => false
theorem dp_non {H : Hp} {x : V} {d : PyData} (h : Dp K H x d) : decide (x = .non) = isNon d := by
  cases h <;> simp [isNon]
theorem rd_isN {a : PyData} : RD K (fun x y H Q => y = .non ∧ Q (.bl (decide (x = .non))) H) a .none (.bool (isNon a)) := fun Hs H x y Q e hx hy q =>
  ⟨Dp.toN hy, by rw [dp_non hx]; exact q _ _ _ .same (.bl _)⟩
theorem rd_notN {a : PyData} : RD K (fun x y H Q => y = .non ∧ Q (.bl (!decide (x = .non))) H) a .none (.bool (!isNon a)) := fun Hs H x y Q e hx hy q =>
  ⟨Dp.toN hy, by rw [dp_non hx]; exact q _ _ _ .same (.bl _)⟩
/-! ### in -/
theorem inV_ints (i : Int) (ns : List Int) : inV (.int i) (ns.map V.int) = decide (i ∈ ns) := by
  unfold inV
  induction ns with
  | nil => rfl
  | cons n ns ih =>
    rw [List.map_cons, List.any_cons, ih]
    by_cases h : i = n
    · subst h
      simp [eqV]
    · have h2 : (n == i) = false := beq_eq_false_iff_ne.mpr fun e => h e.symm
      simp [eqV, h2, h]
theorem inV_strs (i : Str) (ns : List Str) : inV (.str i) (ns.map V.str) = decide (i ∈ ns) := by
  unfold inV
  induction ns with
  | nil => rfl
  | cons n ns ih =>
    rw [List.map_cons, List.any_cons, ih]
    by_cases h : i = n
    · subst h
      simp [eqV]
    · have h2 : (n == i) = false := beq_eq_false_iff_ne.mpr fun e => h e.symm
      simp [eqV, h2, h]
theorem flat_ints (ns : List Int) : (ns.map V.int).all flatV = true := by simp [flatV]
theorem flat_strs (ns : List Str) : (ns.map V.str).all flatV = true := by simp [flatV]
theorem rd_inI {neg : Bool} {i : Int} {ns : List Int} : RD K (rIn K neg) (.int i) (.list (ns.map PyData.int)) (.bool (if neg then !decide (i ∈ ns) else decide (i ∈ ns))) := fun Hs H x y Q e hx hy q => by
  obtain ⟨a, xs, rfl, hs, hd⟩ := Dp.toL hy
  have := DpAll.ints hd
  subst this
  rw [Dp.toI hx]
  refine ⟨a, _, rfl, .inl (sqL_mono e hs), rfl, flat_ints ns, ?_⟩
  rw [inV_ints]
  exact q _ _ _ .same (.bl _)
theorem rd_inIT {neg : Bool} {i : Int} {ns : List Int} : RD K (rIn K neg) (.int i) (.tuple (ns.map PyData.int)) (.bool (if neg then !decide (i ∈ ns) else decide (i ∈ ns))) := fun Hs H x y Q e hx hy q => by
  obtain ⟨a, xs, rfl, hs, hd⟩ := Dp.toT hy
  have := DpAll.ints hd
  subst this
  rw [Dp.toI hx]
  refine ⟨a, _, rfl, .inr (sqT_mono e hs), rfl, flat_ints ns, ?_⟩
  rw [inV_ints]
  exact q _ _ _ .same (.bl _)
theorem rd_inS {neg : Bool} {i : Str} {ns : List Str} : RD K (rIn K neg) (.str i) (.list (ns.map PyData.str)) (.bool (if neg then !decide (i ∈ ns) else decide (i ∈ ns))) := fun Hs H x y Q e hx hy q => by
  obtain ⟨a, xs, rfl, hs, hd⟩ := Dp.toL hy
  have := DpAll.strs hd
  subst this
  rw [Dp.toS hx]
  refine ⟨a, _, rfl, .inl (sqL_mono e hs), rfl, flat_strs ns, ?_⟩
  rw [inV_strs]
  exact q _ _ _ .same (.bl _)
theorem rd_inST {neg : Bool} {i : Str} {ns : List Str} : RD K (rIn K neg) (.str i) (.tuple (ns.map PyData.str)) (.bool (if neg then !decide (i ∈ ns) else decide (i ∈ ns))) := fun Hs H x y Q e hx hy q => by
  obtain ⟨a, xs, rfl, hs, hd⟩ := Dp.toT hy
  have := DpAll.strs hd
  subst this
  rw [Dp.toS hx]
  refine ⟨a, _, rfl, .inr (sqT_mono e hs), rfl, flat_strs ns, ?_⟩
  rw [inV_strs]
  exact q _ _ _ .same (.bl _)
/-! ### sequences -/
theorem rd_ixL {xs : List PyData} {i : Int} {d : PyData} {j : Nat} (h : ixN xs.length i = some j) (hx : xs[j]? = some d) : RD K (rIx K) (.list xs) (.int i) d := fun Hs H x y Q e hx' hy q => by
  obtain ⟨a, vs, rfl, hs, hd⟩ := Dp.toL hx'
  obtain ⟨v, q1, q2⟩ := DpAll.get hd hx
  rw [Dp.toI hy]
  refine .inl ⟨a, vs, i, v, rfl, rfl, sqL_mono e hs, ?_, q _ _ _ .same q2⟩
  unfold atI
  rw [DpAll.length hd, h]
  exact q1
theorem rd_ixT {xs : List PyData} {i : Int} {d : PyData} {j : Nat} (h : ixN xs.length i = some j) (hx : xs[j]? = some d) : RD K (rIx K) (.tuple xs) (.int i) d := fun Hs H x y Q e hx' hy q => by
  obtain ⟨a, vs, rfl, hs, hd⟩ := Dp.toT hx'
  obtain ⟨v, q1, q2⟩ := DpAll.get hd hx
  rw [Dp.toI hy]
  refine .inr (.inl ⟨a, vs, i, v, rfl, rfl, sqT_mono e hs, ?_, q _ _ _ .same q2⟩)
  unfold atI
  rw [DpAll.length hd, h]
  exact q1
theorem ixN_nat {n : Nat} {i : Int} (h0 : 0 ≤ i) (h : i < n) : ixN n i = some i.toNat := by
  unfold ixN
  rw [if_pos h0, if_pos h]
theorem rd_catL {xs ys : List PyData} (h : xs.length + ys.length ≤ 1000000) : RD K (Ml.rCatS K) (.list xs) (.list ys) (.list (xs ++ ys)) := fun Hs H x y Q e hx hy q => by
  obtain ⟨a, vs, rfl, hs, hd⟩ := Dp.toL hx
  obtain ⟨b, ws, rfl, hs', hd'⟩ := Dp.toL hy
  refine ⟨a, b, vs, ws, rfl, rfl, sqL_mono e hs, sqL_mono e hs', by rw [DpAll.length hd, DpAll.length hd']; exact sz h, fun p hp => q _ _ _ (.new p _ hp) (.lst (SqL.of upd_same) ?_)⟩
  have hps : Hs p = none := by
    cases z : Hs p with
    | none => rfl
    | some u =>
      rw [e p u z] at hp
      cases hp
  exact dpAll_mono (Ex.new hps) _ _ (DpAll.append hd hd')
theorem rd_catT {xs ys : List PyData} (h : xs.length + ys.length ≤ 1000000) : RD K (rCatA K) (.tuple xs) (.tuple ys) (.tuple (xs ++ ys)) := fun Hs H x y Q e hx hy q => by
  obtain ⟨a, vs, rfl, hs, hd⟩ := Dp.toT hx
  obtain ⟨b, ws, rfl, hs', hd'⟩ := Dp.toT hy
  have l1 := DpAll.length hd
  have l2 := DpAll.length hd'
  refine ⟨a, b, vs, ws, rfl, rfl, sqT_mono e hs, sqT_mono e hs', by rw [l1, l2]; exact sz h, fun z => ?_, fun _ z => ?_, fun _ _ p hp => q _ _ _ (.new p _ hp) (.tup (SqT.of upd_same) ?_)⟩
  · subst z
    have : xs = [] := List.eq_nil_of_length_eq_zero l1.symm
    subst this
    exact q _ _ _ .same (.tup hs' hd')
  · subst z
    have : ys = [] := List.eq_nil_of_length_eq_zero l2.symm
    subst this
    rw [List.append_nil] at q
    exact q _ _ _ .same (.tup hs hd)
  · have hps : Hs p = none := by
      cases z : Hs p with
      | none => rfl
      | some u =>
        rw [e p u z] at hp
        cases hp
    exact dpAll_mono (Ex.new hps) _ _ (DpAll.append hd hd')
/-- xs[lo:hi] of data -/
def cutD (xs : List PyData) (lo hi : Option Int) : List PyData := (xs.drop (HT.sIx xs.length 0 lo)).take (HT.sIx xs.length xs.length hi - HT.sIx xs.length 0 lo)
theorem cut_all {H : Hp} {vs : List V} {xs : List PyData} (h : DpAll K H vs xs) (lo hi : Option Int) : DpAll K H (cutV vs lo hi) (cutD xs lo hi) := by
  unfold cutV cutD
  rw [DpAll.length h]
  exact DpAll.take (DpAll.drop h _) _
theorem ed_slL {C : Cq} {Γ : List Sl} {S S1 S2 S3 : Sto} {te : TE} {tl th : TO} {xs : List PyData} {lo hi : Option Int} (h : EvD C te Γ S (.list xs) S1) (hl : EvO C tl Γ S1 lo S2) (hh : EvO C th Γ S2 hi S3) : EvD C (tSl (rSlL C.K) te tl th) Γ S (.list (cutD xs lo hi)) S3 := fun B σ Hs H x k Q q =>
  h B σ Hs H x k _ fun v Hs1 H1 k1 f1 d1 => hl B σ Hs1 H1 (x.fr k f1) k1 _ fun Hs2 H2 k2 f2 => hh B σ Hs2 H2 ((x.fr k f1).fr k1 f2) k2 _ fun Hs3 H3 k3 f3 => by
    obtain ⟨a, vs, rfl, hs, hd⟩ := Dp.toL d1
    have hs3 := sqL_mono (f2.exs.trans f3.exs) hs
    refine ⟨a, vs, rfl, sqL_mono k3.exs hs3, fun p hp => q _ _ _ (k3.laid hp) (Fr.trans k3 (k3.laid hp) (Fr.trans k2 k3 (Fr.trans k1 k2 f1 f2) f3) (k3.laidFr hp)) (.lst (SqL.of upd_same) (dpAll_mono (((f2.exs.trans f3.exs)).trans (Ex.new (k3.freshS hp))) _ _ (cut_all hd lo hi)))⟩
theorem ed_slT {C : Cq} {Γ : List Sl} {S S1 S2 S3 : Sto} {te : TE} {tl th : TO} {xs : List PyData} {lo hi : Option Int} (h : EvD C te Γ S (.tuple xs) S1) (hl : EvO C tl Γ S1 lo S2) (hh : EvO C th Γ S2 hi S3) : EvD C (tSl (rSlA C.K) te tl th) Γ S (.tuple (cutD xs lo hi)) S3 := fun B σ Hs H x k Q q =>
  h B σ Hs H x k _ fun v Hs1 H1 k1 f1 d1 => hl B σ Hs1 H1 (x.fr k f1) k1 _ fun Hs2 H2 k2 f2 => hh B σ Hs2 H2 ((x.fr k f1).fr k1 f2) k2 _ fun Hs3 H3 k3 f3 => by
    obtain ⟨a, vs, rfl, hs, hd⟩ := Dp.toT d1
    have hs3 := sqT_mono (f2.exs.trans f3.exs) hs
    have l1 := DpAll.length hd
    refine ⟨a, vs, rfl, sqT_mono k3.exs hs3, fun z => ?_, fun _ p hp => q _ _ _ (k3.laid hp) (Fr.trans k3 (k3.laid hp) (Fr.trans k2 k3 (Fr.trans k1 k2 f1 f2) f3) (k3.laidFr hp)) (.tup (SqT.of upd_same) (dpAll_mono (((f2.exs.trans f3.exs)).trans (Ex.new (k3.freshS hp))) _ _ (cut_all hd lo hi)))⟩
    have ec : cutD xs lo hi = xs := by
      unfold cutD
      rw [l1] at z
      rw [z.1, z.2]
      simp
    rw [ec] at q
    exact q _ _ _ k3 (Fr.trans k2 k3 (Fr.trans k1 k2 f1 f2) f3) (.tup hs3 (dpAll_mono (f2.exs.trans f3.exs) _ _ hd))
/-! ### built-ins -/
theorem rc_len {xs : List PyData} : RC K (fun vs H Q => ∃ p ys, vs = [.ref p] ∧ (SqL K H p ys ∨ SqT K H p ys) ∧ Q (.int ys.length) H) [.list xs] (.int xs.length) := fun Hs H vs Q e hx q => by
  cases hx with
  | cons h1 h2 =>
    cases h2
    obtain ⟨a, ws, rfl, hs, hd⟩ := Dp.toL h1
    refine ⟨a, ws, rfl, .inl (sqL_mono e hs), ?_⟩
    rw [DpAll.length hd]
    exact q _ _ _ .same (.int _)
theorem rc_lenT {xs : List PyData} : RC K (fun vs H Q => ∃ p ys, vs = [.ref p] ∧ (SqL K H p ys ∨ SqT K H p ys) ∧ Q (.int ys.length) H) [.tuple xs] (.int xs.length) := fun Hs H vs Q e hx q => by
  cases hx with
  | cons h1 h2 =>
    cases h2
    obtain ⟨a, ws, rfl, hs, hd⟩ := Dp.toT h1
    refine ⟨a, ws, rfl, .inr (sqT_mono e hs), ?_⟩
    rw [DpAll.length hd]
    exact q _ _ _ .same (.int _)
theorem freshS {Hs H : Hp} {p : Addr} (e : Ex Hs H) (hp : H p = none) : Hs p = none := by
  cases z : Hs p with
  | none => rfl
  | some u =>
    rw [e p u z] at hp
    cases hp
theorem rc_list {xs : List PyData} : RC K (fun vs H Q => ∃ p ys, vs = [.ref p] ∧ (SqL K H p ys ∨ SqT K H p ys) ∧ ∀ l, H l = none → Q (.ref l) (upd H l (.lst ys))) [.list xs] (.list xs) := fun Hs H vs Q e hx q => by
  cases hx with
  | cons h1 h2 =>
    cases h2
    obtain ⟨a, ws, rfl, hs, hd⟩ := Dp.toL h1
    exact ⟨a, ws, rfl, .inl (sqL_mono e hs), fun l hl => q _ _ _ (.new l _ hl) (.lst (SqL.of upd_same) (dpAll_mono (Ex.new (freshS e hl)) _ _ hd))⟩
theorem rc_listT {xs : List PyData} : RC K (fun vs H Q => ∃ p ys, vs = [.ref p] ∧ (SqL K H p ys ∨ SqT K H p ys) ∧ ∀ l, H l = none → Q (.ref l) (upd H l (.lst ys))) [.tuple xs] (.list xs) := fun Hs H vs Q e hx q => by
  cases hx with
  | cons h1 h2 =>
    cases h2
    obtain ⟨a, ws, rfl, hs, hd⟩ := Dp.toT h1
    exact ⟨a, ws, rfl, .inr (sqT_mono e hs), fun l hl => q _ _ _ (.new l _ hl) (.lst (SqL.of upd_same) (dpAll_mono (Ex.new (freshS e hl)) _ _ hd))⟩
theorem rc_tuple {xs : List PyData} : RC K (fun vs H Q => ∃ p ys, vs = [.ref p] ∧ ((SqL K H p ys ∧ ∀ l, H l = none → Q (.ref l) (upd H l (.tup ys))) ∨ (SqT K H p ys ∧ Q (.ref p) H))) [.list xs] (.tuple xs) := fun Hs H vs Q e hx q => by
  cases hx with
  | cons h1 h2 =>
    cases h2
    obtain ⟨a, ws, rfl, hs, hd⟩ := Dp.toL h1
    exact ⟨a, ws, rfl, .inl ⟨sqL_mono e hs, fun l hl => q _ _ _ (.new l _ hl) (.tup (SqT.of upd_same) (dpAll_mono (Ex.new (freshS e hl)) _ _ hd))⟩⟩
theorem rc_tupleT {xs : List PyData} : RC K (fun vs H Q => ∃ p ys, vs = [.ref p] ∧ ((SqL K H p ys ∧ ∀ l, H l = none → Q (.ref l) (upd H l (.tup ys))) ∨ (SqT K H p ys ∧ Q (.ref p) H))) [.tuple xs] (.tuple xs) := fun Hs H vs Q e hx q => by
  cases hx with
  | cons h1 h2 =>
    cases h2
    obtain ⟨a, ws, rfl, hs, hd⟩ := Dp.toT h1
    exact ⟨a, ws, rfl, .inr ⟨sqT_mono e hs, q _ _ _ .same (.tup hs hd)⟩⟩
theorem rc_any {bs : List Bool} : RC K (rAny K) [.list (bs.map PyData.bool)] (.bool (bs.any id)) := fun Hs H vs Q e hx q => by
  cases hx with
  | cons h1 h2 =>
    cases h2
    obtain ⟨a, ws, rfl, hs, hd⟩ := Dp.toL h1
    have := DpAll.bools hd
    subst this
    exact ⟨a, bs, rfl, sqL_mono e hs, q _ _ _ .same (.bl _)⟩
theorem rc_all {bs : List Bool} : RC K (rAll K) [.list (bs.map PyData.bool)] (.bool (bs.all id)) := fun Hs H vs Q e hx q => by
  cases hx with
  | cons h1 h2 =>
    cases h2
    obtain ⟨a, ws, rfl, hs, hd⟩ := Dp.toL h1
    have := DpAll.bools hd
    subst this
    exact ⟨a, bs, rfl, sqL_mono e hs, q _ _ _ .same (.bl _)⟩
theorem rc_sum {ns : List Int} : RC K (rSum K) [.list (ns.map PyData.int)] (.int ns.sum) := fun Hs H vs Q e hx q => by
  cases hx with
  | cons h1 h2 =>
    cases h2
    obtain ⟨a, ws, rfl, hs, hd⟩ := Dp.toL h1
    have := DpAll.ints hd
    subst this
    exact ⟨a, ns, rfl, sqL_mono e hs, q _ _ _ .same (.int _)⟩
theorem rc_int {i : Int} : RC K (fun xs H Q => (∃ i, xs = [.int i] ∧ Q (.int i) H) ∨ ∃ k, xs = [.bl k] ∧ Q (.int (if k then 1 else 0)) H) [.int i] (.int i) := fun Hs H vs Q e hx q => by
  cases hx with
  | cons h1 h2 =>
    cases h2
    cases h1
    exact .inl ⟨i, rfl, q _ _ _ .same (.int _)⟩
theorem rc_intB {b : Bool} : RC K (fun xs H Q => (∃ i, xs = [.int i] ∧ Q (.int i) H) ∨ ∃ k, xs = [.bl k] ∧ Q (.int (if k then 1 else 0)) H) [.bool b] (.int (if b then 1 else 0)) := fun Hs H vs Q e hx q => by
  cases hx with
  | cons h1 h2 =>
    cases h2
    cases h1
    exact .inr ⟨b, rfl, q _ _ _ .same (.int _)⟩
theorem rc_abs {i : Int} : RC K (fun xs H Q => ∃ i, xs = [.int i] ∧ Q (.int (if i < 0 then -i else i)) H) [.int i] (.int (if i < 0 then -i else i)) := fun Hs H vs Q e hx q => by
  cases hx with
  | cons h1 h2 =>
    cases h2
    cases h1
    exact ⟨i, rfl, q _ _ _ .same (.int _)⟩
theorem rc_min2 {i j : Int} : RC K (fun xs H Q => ∃ i j, xs = [.int i, .int j] ∧ Q (.int (if j < i then j else i)) H) [.int i, .int j] (.int (if j < i then j else i)) := fun Hs H vs Q e hx q => by
  cases hx with
  | cons h1 h2 =>
    cases h2 with
    | cons h2 h3 =>
      cases h3
      cases h1
      cases h2
      exact ⟨i, j, rfl, q _ _ _ .same (.int _)⟩
theorem rc_repr {d : PyData} (h1 : PyProof.Rows.isDisplay d = true) (h2 : d.showable = true) (h3 : d.hasDict = false) (h4 : d.depth ≤ 60) (h5 : d.shown.length ≤ sizeLine) : RC K (Ml.rRepr K) [d] (.str d.shown) := fun Hs H vs Q e hx q => by
  cases hx with
  | cons hd hn =>
    cases hn
    exact ⟨_, d, rfl, dp_mono e _ _ hd, h1, h2, h3, h4, h5, q _ _ _ .same (.str _)⟩
/-- truth of data -/
def truD : PyData → Bool
  | .none => false
  | .bool b => b
  | .int i => i != 0
  | .str x => (x.length : Int) != 0
  | .list xs | .tuple xs => !xs.isEmpty
  | .dict _ => true
theorem isEmpty_all {H : Hp} {vs : List V} {xs : List PyData} (h : DpAll K H vs xs) : (!vs.isEmpty) = !xs.isEmpty := by
  cases h <;> rfl
theorem et_tru {C : Cq} {Γ : List Sl} {S S1 : Sto} {te : TE} {xs : List PyData} (h : EvD C te Γ S (.list xs) S1) : EvT C (fun σ H Q => te σ H fun x H' => ∃ k, TruV C.K x H' k ∧ Q k H') Γ S (!xs.isEmpty) S1 := fun B σ Hs H x k Q q =>
  h B σ Hs H x k _ fun v Hs1 H1 k1 f1 d1 => by
    obtain ⟨a, ws, rfl, hs, hd⟩ := Dp.toL d1
    exact ⟨_, .inl ⟨ws, sqL_mono k1.exs hs, (isEmpty_all hd).symm⟩, q _ _ k1 f1⟩
end

/-! ### zip, enumerate, list(range) -/
/-- a list or a tuple -/
def sqD (c : Bool) (xs : List PyData) : PyData := match c with
  | true => .list xs
  | false => .tuple xs
section
variable {K : PySem.W.Frag} {C : Cq} {S S' : Sto} {Γ : List Sl} {te : TE} {ta : TA} {xs ys : List PyData} {Hs0 H : Hp}
theorem sqC_mono {c : Bool} {H H' : Hp} {a : Addr} {vs : List V} (e : Ex H H') (h : Ml.SqC c K H a vs) : Ml.SqC c K H' a vs := by
  cases c with
  | true => exact sqL_mono e h
  | false => exact sqT_mono e h
theorem Dp.toC {c : Bool} {v : V} (h : Dp K H v (sqD c xs)) : ∃ a vs, v = .ref a ∧ Ml.SqC c K H a vs ∧ DpAll K H vs xs := by
  cases c with
  | true => exact Dp.toL h
  | false => exact Dp.toT h
def pairD (a b : PyData) : PyData := .tuple [a, b]
theorem walkD_zip {c1 c2 : Bool} {a b : Addr} {vs ws : List V} (h1 : Ml.SqC c1 K Hs0 a vs) (d1 : DpAll K Hs0 vs xs) (h2 : Ml.SqC c2 K Hs0 b ws) (d2 : DpAll K Hs0 ws ys) : WalkD K (Ml.ItzC K c1 c2 a b) (List.zipWith pairD xs ys) Hs0 where
  goes := fun i Hs H hi e1 e2 => by
    rw [List.length_zipWith] at hi
    have l1 := DpAll.length d1
    have l2 := DpAll.length d2
    exact ⟨vs, ws, vs[i]'(by omega), ws[i]'(by omega), sqC_mono (e1.trans e2) h1, sqC_mono (e1.trans e2) h2, List.getElem?_eq_getElem _, List.getElem?_eq_getElem _⟩
  stops := fun Hs H e1 e2 => by
    have l1 := DpAll.length d1
    have l2 := DpAll.length d2
    refine ⟨vs, ws, sqC_mono (e1.trans e2) h1, sqC_mono (e1.trans e2) h2, ?_, ?_, ?_⟩ <;> rw [List.length_zipWith] <;> omega
  yields := fun i d Hs H x H' hx e1 e2 y => by
    obtain ⟨T, u, v, rfl, hT, rfl, q1, q2⟩ := y
    have r1 := q1 vs (sqC_mono (e1.trans e2) h1)
    have r2 := q2 ws (sqC_mono (e1.trans e2) h2)
    obtain ⟨da, g1, g2⟩ := DpAll.at_ d1 r1
    obtain ⟨db, g3, g4⟩ := DpAll.at_ d2 r2
    have ed : d = pairD da db := by
      rw [List.getElem?_zipWith, g1, g3] at hx
      exact (Option.some.inj hx).symm
    subst ed
    refine ⟨_, .new T _ hT, .tup (SqT.of upd_same) (dpAll_mono (Ex.new (freshS e2 hT)) _ _ (.cons (dp_mono e1 _ _ g2) (.cons (dp_mono e1 _ _ g4) .nil)))⟩
theorem ei_zip {c1 c2 : Bool} (h : EvA C ta Γ S [sqD c1 xs, sqD c2 ys] S') : EvI C (Ml.iZipC C.K c1 c2 ta) Γ S (List.zipWith pairD xs ys) S' := fun B σ Hs H x k R q =>
  h B σ Hs H x k _ fun vs Hs1 H1 k1 f1 d1 => by
    cases d1 with
    | cons d1 d2 =>
      cases d2 with
      | cons d2 d3 =>
        cases d3
        obtain ⟨a, ws, rfl, hs, hd⟩ := Dp.toC d1
        obtain ⟨b, ws', rfl, hs', hd'⟩ := Dp.toC d2
        exact ⟨a, b, ws, ws', rfl, sqC_mono k1.exs hs, sqC_mono k1.exs hs', q _ _ _ k1 f1 (walkD_zip hs hd hs' hd')⟩
/-- what enumerate gives -/
def enumD (xs : List PyData) : List PyData := xs.zipIdx.map fun p => pairD (.int (p.2 : Int)) p.1
theorem enumD_len : (enumD xs).length = xs.length := by simp [enumD]
theorem enumD_get {i : Nat} : (enumD xs)[i]? = (xs[i]?).map fun x => pairD (.int (i : Int)) x := by
  unfold enumD
  rw [List.getElem?_map, List.getElem?_zipIdx]
  cases xs[i]? <;> simp
theorem walkD_enum {c : Bool} {a : Addr} {vs : List V} (h1 : Ml.SqC c K Hs0 a vs) (d1 : DpAll K Hs0 vs xs) : WalkD K (Ml.IteC K c a) (enumD xs) Hs0 where
  goes := fun i Hs H hi e1 e2 => by
    rw [enumD_len] at hi
    have l1 := DpAll.length d1
    exact ⟨vs, vs[i]'(by omega), sqC_mono (e1.trans e2) h1, List.getElem?_eq_getElem _⟩
  stops := fun Hs H e1 e2 => ⟨vs, sqC_mono (e1.trans e2) h1, by rw [enumD_len, DpAll.length d1]⟩
  yields := fun i d Hs H x H' hx e1 e2 y => by
    obtain ⟨T, u, rfl, hT, rfl, q1⟩ := y
    have r1 := q1 vs (sqC_mono (e1.trans e2) h1)
    obtain ⟨da, g1, g2⟩ := DpAll.at_ d1 r1
    have ed : d = pairD (.int (i : Int)) da := by
      rw [enumD_get, g1] at hx
      exact (Option.some.inj hx).symm
    subst ed
    exact ⟨_, .new T _ hT, .tup (SqT.of upd_same) (dpAll_mono (Ex.new (freshS e2 hT)) _ _ (.cons (.int _) (.cons (dp_mono e1 _ _ g2) .nil)))⟩
theorem ei_enum {c : Bool} (h : EvA C ta Γ S [sqD c xs] S') : EvI C (Ml.iEnumC C.K c ta) Γ S (enumD xs) S' := fun B σ Hs H x k R q =>
  h B σ Hs H x k _ fun vs Hs1 H1 k1 f1 d1 => by
    cases d1 with
    | cons d1 d2 =>
      cases d2
      obtain ⟨a, ws, rfl, hs, hd⟩ := Dp.toC d1
      exact ⟨a, ws, rfl, sqC_mono k1.exs hs, q _ _ _ k1 f1 (walkD_enum hs hd)⟩
end
end Dl


set_option Elab.async false
set_option linter.all false
set_option maxRecDepth 100000
set_option maxHeartbeats 4000000
set_option autoImplicit false
/-! promises over data, calls -/
namespace Dl
open PySem PySem.Spec PyProof.Rows L2
abbrev Rel := List PyData → PyData → Prop
/-- near, total, the store ahead, the further arguments, the result, the store behind -/
abbrev RelS := List Int → Int → Sto → List PyData → PyData → Sto → Prop
def spD (K : PySem.W.Frag) (R : Rel) : Sp := fun vs H Q _ => ∃ Hs ds d, R ds d ∧ Ex Hs H ∧ DpAll K Hs vs ds ∧
  ∀ v Hs' H', Ex H H' → Ex Hs Hs' → Ex Hs' H' → (∀ a o, Hs' a = some o → (∃ u, Hs a = some u) ∨ H a = none) → Dp K Hs' v d → Q v H'
def spS (K : PySem.W.Frag) (R : RelS) : Sp := fun vs H Q _ => ∃ lo Hs ds d S S' vs', vs = .ref lo.d :: vs' ∧ R lo.near lo.total S ds d S' ∧ Ex Hs H ∧ StoAt lo S Hs H ∧ Dp K Hs (.ref lo.n) (.list (lo.near.map PyData.int)) ∧ DpAll K Hs vs' ds ∧
  ∀ v Hs' H', (∀ a o, a ≠ lo.d → a ≠ lo.l → H a = some o → H' a = some o) → Ex Hs Hs' → Ex Hs' H' → (∀ a o, Hs' a = some o → (∃ u, Hs a = some u) ∨ H a = none) → StoAt lo S' Hs' H' → Dp K Hs' v d → Q v H'
section
variable {C : Cq} {B : Bs} {Γ : List Sl} {S S1 S2 : Sto} {Hs H Hs' H' : Hp} {ta : TA} {ds : List PyData} {d : PyData} {R : Rel} {RS : RelS}
theorem call_ok (k : HOk C B S Hs H) (e1 : Ex H H') (e2 : Ex Hs Hs') (e3 : Ex Hs' H') (n : ∀ a o, Hs' a = some o → (∃ u, Hs a = some u) ∨ H a = none) : HOk C B S Hs' H' ∧ Fr C Hs H Hs' H' := by
  refine ⟨⟨fun a o hb e => e1 a o (k.ex0 a o hb e), k.exs0.trans e2, e3, fun a o e => ?_, fun lo e => ?_⟩, ⟨e2, fun a o _ e => e1 a o e, n⟩⟩
  · rcases n a o e with ⟨u, q⟩ | q
    · exact k.new a u q
    · exact .inr (k.fresh0 q)
  · obtain ⟨s, s6⟩ := k.sto lo e
    have nn : ∀ a u, Hs a = none → H a = some u → Hs' a = none := fun a u z1 z2 => by
      cases q : Hs' a with
      | none => rfl
      | some o =>
        rcases n a o q with ⟨u', y⟩ | y
        · rw [z1] at y
          cases y
        · rw [z2] at y
          cases y
    exact ⟨⟨nn _ _ s.nd s.d, nn _ _ s.nl s.l, e1 _ _ s.d, e1 _ _ s.l⟩, s6⟩
theorem ed_call {E : XK} (ha : EvA C ta Γ S ds S1) (hR : R ds d) : EvD C (tCall (spD C.K R) [] E ta) Γ S d S1 := fun B σ Hs H x k Q q =>
  ha B σ Hs H x k _ fun vs Hs1 H1 k1 f1 d1 => ⟨Hs1, ds, d, hR, k1.exs, by rw [List.append_nil]; exact d1, fun v Hs2 H2 e1 e2 e3 n dv => by
    obtain ⟨k2, f2⟩ := call_ok k1 e1 e2 e3 n
    exact q v Hs2 H2 k2 (Fr.trans k1 k2 f1 f2) dv⟩
theorem ed_callS {E : XK} {lo : Lo} {i : Nat} (hl : C.lo = some lo) (hi : Γ[i]? = some .sto) (ha : EvA C ta Γ S ds S1) (hR : RS lo.near lo.total S1 ds d S2) : EvD C (tCall (spS C.K RS) [] E (tCons (tVar i) ta)) Γ S d S2 := fun B σ Hs H x k Q q => by
  obtain ⟨s, q1, lo', el, rfl⟩ := x.at_ i _ hi
  rw [hl] at el
  cases el
  refine ⟨.ref lo.d, q1, ha B σ Hs H x k _ fun vs Hs1 H1 k1 f1 d1 => ?_⟩
  obtain ⟨s, s5, s6, s7⟩ := k1.sto lo hl
  refine ⟨lo, Hs1, ds, d, S1, S2, vs, ?_, hR, k1.exs, s, dp_mono k1.exs0 _ _ s5, d1, fun v Hs2 H2 e1 e2 e3 n st dv => ?_⟩
  · rw [List.append_nil]
  · have nb : ∀ a, ¬ C.bad a → a ≠ lo.d ∧ a ≠ lo.l := fun a h => ⟨fun z => h ⟨lo, hl, .inl z⟩, fun z => h ⟨lo, hl, .inr z⟩⟩
    have k2 : HOk C B S2 Hs2 H2 := by
      refine ⟨fun a o hb e => e1 a o (nb a hb).1 (nb a hb).2 (k1.ex0 a o hb e), k1.exs0.trans e2, e3, fun a o e => ?_, fun lo2 e => ?_⟩
      · rcases n a o e with ⟨u, q⟩ | q
        · exact k1.new a u q
        · exact .inr (k1.fresh0 q)
      · rw [hl] at e
        cases e
        exact ⟨st, s5, s6, s7⟩
    have f2 : Fr C Hs1 H1 Hs2 H2 := ⟨e2, fun a o hb e => e1 a o (nb a hb).1 (nb a hb).2 e, n⟩
    exact q v Hs2 H2 k2 (Fr.trans k1 k2 f1 f2) dv
/-- the slots at the entry -/
def slots (n : Nat) (ds : List PyData) : List Sl := ds.map Sl.dat ++ List.replicate (n - ds.length) .un
def slotsS (n : Nat) (ds : List PyData) : List Sl := .sto :: (ds.map Sl.dat ++ List.replicate (n - 1 - ds.length) .un)
def retE (d : PyData) : DE := { nx := fun _ _ => d = .none, rt := fun d' _ => d' = d }
def retS (d : PyData) (S' : Sto) : DE := { nx := fun _ S => d = .none ∧ S = S', rt := fun d' S => d' = d ∧ S = S' }
abbrev S0 : Sto := ⟨[], 0⟩
theorem start_dat {K : PySem.W.Frag} {C : Cq} (hK : C.K = K) {n : Nat} {vs : List V} (hd : DpAll K Hs vs ds) : SlsOk C B Hs H (vs.map some ++ List.replicate (n - vs.length) none) (slots n ds) := by
  have hl := DpAll.length hd
  refine ⟨?_, fun i g e => ?_, fun i j xs ys e => ?_⟩
  · unfold slots
    simp [hl]
  · unfold slots at e
    by_cases hi : i < ds.length
    · rw [List.getElem?_append_left (by simpa using hi), List.getElem?_map, List.getElem?_eq_getElem hi] at e
      cases e
      obtain ⟨v, q1, q2⟩ := DpAll.get hd (List.getElem?_eq_getElem hi)
      refine ⟨some v, ?_, v, rfl, by rw [hK]; exact q2⟩
      rw [List.getElem?_append_left (by rw [List.length_map]; omega), List.getElem?_map, q1] <;> rfl
    · rw [List.getElem?_append_right (by simpa using hi), List.getElem?_replicate] at e
      split at e
      · rename_i h
        cases e
        refine ⟨none, ?_, trivial⟩
        rw [List.getElem?_append_right (by rw [List.length_map]; omega), List.getElem?_replicate]
        rw [List.length_map] at h ⊢
        rw [if_pos (by omega)]
      · cases e
  · exfalso
    unfold slots at e
    by_cases hi : i < ds.length
    · rw [List.getElem?_append_left (by simpa using hi), List.getElem?_map, List.getElem?_eq_getElem hi] at e
      cases e
    · rw [List.getElem?_append_right (by simpa using hi), List.getElem?_replicate] at e
      split at e <;> cases e
theorem fin_pure {K : PySem.W.Frag} {Q : VK} {vs : List V} {N : List Str} {t : TS} (ex : Ex Hs H) (hd : DpAll K Hs vs ds)
    (q : ∀ v Hs' H', Ex H H' → Ex Hs Hs' → Ex Hs' H' → (∀ a o, Hs' a = some o → (∃ u, Hs a = some u) ∨ H a = none) → Dp K Hs' v d → Q v H') (g : GS ⟨K, none⟩ t (retE d) (slots N.length ds) S0) :
    t { nx := fun _ H' => Q .non H', rt := Q } (L2.start N vs) H := by
  have kb : ∀ a, ¬ (Cq.mk K none).bad a := fun a ⟨lo, e, _⟩ => by cases e
  have k0 : HOk ⟨K, none⟩ ⟨Hs, H⟩ S0 Hs H := ⟨fun a o _ e => e, Ex.refl _, ex, fun a o e => .inl ⟨o, e⟩, fun lo e => by cases e⟩
  refine g ⟨Hs, H⟩ _ ⟨fun σ H' Γ S Hs' e x k => ?_, fun v H' d' S Hs' e k dv => ?_, fun σ H' Γ S Hs' e => e.elim, fun σ H' Γ S Hs' e => e.elim⟩ (L2.start N vs) Hs H (start_dat rfl hd) k0
  · have ed : d = .none := e
    subst ed
    exact q .non Hs' H' (fun a o e => k.ex0 a o (kb a) e) k.exs0 k.exs (fun a o e => k.new a o e) .non
  · have ed : d' = d := e
    subst ed
    exact q v Hs' H' (fun a o e => k.ex0 a o (kb a) e) k.exs0 k.exs (fun a o e => k.new a o e) dv
theorem fin_eff {K : PySem.W.Frag} {Q : VK} {vs : List V} {N : List Str} {t : TS} {lo : Lo} {S' : Sto} (ex : Ex Hs H) (st : StoAt lo S Hs H) (sn : Dp K Hs (.ref lo.n) (.list (lo.near.map PyData.int))) (hd : DpAll K Hs vs ds) (hN : vs.length + 1 ≤ N.length)
    (q : ∀ v Hs' H', (∀ a o, a ≠ lo.d → a ≠ lo.l → H a = some o → H' a = some o) → Ex Hs Hs' → Ex Hs' H' → (∀ a o, Hs' a = some o → (∃ u, Hs a = some u) ∨ H a = none) → StoAt lo S' Hs' H' → Dp K Hs' v d → Q v H')
    (g : GS ⟨K, some lo⟩ t (retS d S') (slotsS N.length ds) S) :
    t { nx := fun _ H' => Q .non H', rt := Q } (L2.start N (.ref lo.d :: vs)) H := by
  have kb : ∀ a, a ≠ lo.d → a ≠ lo.l → ¬ (Cq.mk K (some lo)).bad a := fun a h1 h2 ⟨lo', e, z⟩ => by
    cases e
    rcases z with z | z
    · exact h1 z
    · exact h2 z
  have k0 : HOk ⟨K, some lo⟩ ⟨Hs, H⟩ S Hs H := ⟨fun a o _ e => e, Ex.refl _, ex, fun a o e => .inl ⟨o, e⟩, fun lo' e => by
    cases e
    exact ⟨st, sn, ⟨_, st.d⟩, ⟨_, st.l⟩⟩⟩
  have hl := DpAll.length hd
  have x0 : SlsOk ⟨K, some lo⟩ ⟨Hs, H⟩ Hs H (vs.map some ++ List.replicate (N.length - 1 - vs.length) none) (slots (N.length - 1) ds) := start_dat rfl hd
  have x1 : SlsOk ⟨K, some lo⟩ ⟨Hs, H⟩ Hs H (L2.start N (.ref lo.d :: vs)) (slotsS N.length ds) := by
    have es : L2.start N (.ref lo.d :: vs) = some (.ref lo.d) :: (vs.map some ++ List.replicate (N.length - 1 - vs.length) none) := by
      unfold L2.start
      rw [List.map_cons, List.length_cons, List.cons_append]
      congr 3
      omega
    rw [es]
    refine ⟨?_, fun i g e => ?_, fun i j xs ys e1 e2 ne => ?_⟩
    · show _ + 1 = _ + 1
      rw [x0.len] <;> rfl
    · cases i with
      | zero =>
        have e' : some Sl.sto = some g := e
        cases e'
        exact ⟨_, rfl, lo, rfl, rfl⟩
      | succ i => exact x0.at_ i g e
    · cases i with
      | zero =>
        have e' : some Sl.sto = some (Sl.own xs) := e1
        cases e'
      | succ i =>
        cases j with
        | zero =>
          have e' : some Sl.sto = some (Sl.own ys) := e2
          cases e'
        | succ j => exact x0.apart i j xs ys e1 e2 (by omega)
  refine g ⟨Hs, H⟩ _ ⟨fun σ H' Γ S2 Hs' e x k => ?_, fun v H' d' S2 Hs' e k dv => ?_, fun σ H' Γ S Hs' e => e.elim, fun σ H' Γ S Hs' e => e.elim⟩ (L2.start N (.ref lo.d :: vs)) Hs H x1 k0
  · obtain ⟨ed, eS⟩ : d = .none ∧ S2 = S' := e
    subst ed eS
    exact q .non Hs' H' (fun a o h1 h2 e => k.ex0 a o (kb a h1 h2) e) k.exs0 k.exs (fun a o e => k.new a o e) (k.sto lo rfl).1 .non
  · obtain ⟨ed, eS⟩ : d' = d ∧ S2 = S' := e
    subst ed eS
    exact q v Hs' H' (fun a o h1 h2 e => k.ex0 a o (kb a h1 h2) e) k.exs0 k.exs (fun a o e => k.new a o e) (k.sto lo rfl).1 dv
end
/-- THE RULE for a def that draws nothing: its body over data -/
theorem cal_pure {P : Program} {w : World} {K : PySem.W.Frag} {mg : Str → Option Value} {base : Heap} {x nm qual : Str} {params : Arguments} {body : List Stmt} {scope : Scope} {kws : List (Str × V)} {f : Addr} {fd : FuncData} {N ps : List Str} {k : Nat} {R : Rel}
    (F : FunD K nm qual params body scope [] kws f fd) (hm : mg x = some (.ref f)) (hb : Binds K fd ps []) (S : FnScope N ps scope) (hlen : ∀ ds d, R ds d → ds.length = ps.length)
    (hbody : ∀ ds d, R ds d → ∀ (cdv : Value) (A : Around) (outer : List Env) (s : Shared) (H : Hp) (E : XK), Room k (A.deeper (envOfC qual scope s.heap.objs.size f cdv)) →
      ∃ t, PSs (cxOf CX0 P w K mg base N qual scope f cdv A outer s H E).nox body t ∧ GS ⟨K, none⟩ t (retE d) (slots N.length ds) S0) : C8.Cal P w K mg base (k + 1) x (spD K R) [] := by
  refine ⟨f, fd, ps, [], F.ok S (fun vs H Q E h => ?_) (fun cdv A outer s H vs Q E hr h => ?_), hm, F.kp, hb, .nil⟩
  · obtain ⟨Hs, ds, d, hR, _, hd, _⟩ := h
    rw [DpAll.length hd, hlen ds d hR]
  · obtain ⟨Hs, ds, d, hR, ex, hd, q⟩ := h
    obtain ⟨t, h1, h2⟩ := hbody ds d hR cdv A outer s H E hr
    exact ⟨t, PSs.nox h1, fin_pure ex hd q h2⟩
theorem cal_eff {P : Program} {w : World} {K : PySem.W.Frag} {mg : Str → Option Value} {base : Heap} {x nm qual : Str} {params : Arguments} {body : List Stmt} {scope : Scope} {kws : List (Str × V)} {f : Addr} {fd : FuncData} {N ps : List Str} {k : Nat} {R : RelS}
    (F : FunD K nm qual params body scope [] kws f fd) (hm : mg x = some (.ref f)) (hb : Binds K fd ps []) (S : FnScope N ps scope) (hlen : ∀ a b c ds d c', R a b c ds d c' → ds.length + 1 = ps.length)
    (hbody : ∀ (lo : Lo) (c : Sto) ds d c', R lo.near lo.total c ds d c' → ∀ (cdv : Value) (A : Around) (outer : List Env) (s : Shared) (H : Hp) (E : XK), Room k (A.deeper (envOfC qual scope s.heap.objs.size f cdv)) →
      ∃ t, PSs (cxOf CX0 P w K mg base N qual scope f cdv A outer s H E).nox body t ∧ GS ⟨K, some lo⟩ t (retS d c') (slotsS N.length ds) c) : C8.Cal P w K mg base (k + 1) x (spS K R) [] := by
  refine ⟨f, fd, ps, [], F.ok S (fun vs H Q E h => ?_) (fun cdv A outer s H vs Q E hr h => ?_), hm, F.kp, hb, .nil⟩
  · obtain ⟨lo, Hs, ds, d, c, c', vs', rfl, hR, _, _, _, hd, _⟩ := h
    rw [List.length_cons, DpAll.length hd, hlen _ _ _ ds d _ hR]
  · obtain ⟨lo, Hs, ds, d, c, c', vs', rfl, hR, ex, st, sn, hd, q⟩ := h
    obtain ⟨t, h1, h2⟩ := hbody lo c ds d c' hR cdv A outer s H E hr
    refine ⟨t, PSs.nox h1, fin_eff ex st sn hd ?_ q h2⟩
    have hp : ps.length ≤ N.length := by
      have := congrArg List.length S.pre
      rw [List.length_take] at this
      omega
    have := hlen _ _ _ ds d _ hR
    rw [DpAll.length hd]
    omega
end Dl


set_option Elab.async false
set_option linter.all false
set_option maxRecDepth 100000
set_option maxHeartbeats 0
namespace Bx
open PySem PySem.Spec PyProof.Rows L2
def top (i : Nat) : Stmt := PySem.Challenge.pw_boxlaws_k77_whole_sorts_enough_for_turne.main.body.getD i (.Pass ⟨0, 0, 0, 0⟩)
abbrev R : PySem.W.OpenRow := PySem.W.OpenLaw.row PySem.Challenge.rw_boxlaws_k77_whole_sorts_enough_for_turne
def d_inverse : He.DefD := ⟨("inverse", none), "inverse", "inverse", defArgs (top 5), defBody (top 5), defScope (top 5), [], []⟩
def d_lead_of_flats : He.DefD := ⟨("lead_of_flats", none), "lead_of", "lead_of", defArgs (top 7), defBody (top 7), defScope (top 7), [], []⟩
def d_added : He.DefD := ⟨("added", none), "added", "added", defArgs (top 9), defBody (top 9), defScope (top 9), [], []⟩
def d_stairs_of : He.DefD := ⟨("stairs_of", none), "stairs_of", "stairs_of", defArgs (top 10), defBody (top 10), defScope (top 10), [], []⟩
def d_flat_of : He.DefD := ⟨("flat_of", none), "flat_of", "flat_of", defArgs (top 11), defBody (top 11), defScope (top 11), [], []⟩
def d_has : He.DefD := ⟨("has", none), "has", "has", defArgs (top 12), defBody (top 12), defScope (top 12), [], []⟩
def d_upright : He.DefD := ⟨("upright", none), "upright", "upright", defArgs (top 13), defBody (top 13), defScope (top 13), [], []⟩
def d_part_at : He.DefD := ⟨("part_at", none), "part_at", "part_at", defArgs (top 14), defBody (top 14), defScope (top 14), [], []⟩
def d_turned_flat : He.DefD := ⟨("turned_flat", none), "turned_flat", "turned_flat", defArgs (top 16), defBody (top 16), defScope (top 16), [], []⟩
def d_exchanged_flat : He.DefD := ⟨("exchanged_flat", none), "exchanged_flat", "exchanged_flat", defArgs (top 17), defBody (top 17), defScope (top 17), [], []⟩
def d_need_sort : He.DefD := ⟨("need_sort", none), "need_sort", "need_sort", defArgs (top 23), defBody (top 23), defScope (top 23), [], []⟩
def d_all_sorts : He.DefD := ⟨("all_sorts", none), "all_sorts", "all_sorts", defArgs (top 24), defBody (top 24), defScope (top 24), [], []⟩
def d_sort_words : He.DefD := ⟨("sort_words", none), "sort_words", "sort_words", defArgs (top 25), defBody (top 25), defScope (top 25), [], []⟩
def d_sort_with : He.DefD := ⟨("sort_with", none), "sort_with", "sort_with", defArgs (top 26), defBody (top 26), defScope (top 26), [], []⟩
def d_turned_sort : He.DefD := ⟨("turned_sort", none), "turned_sort", "turned_sort", defArgs (top 27), defBody (top 27), defScope (top 27), [], []⟩
def d_exchanged_sort : He.DefD := ⟨("exchanged_sort", none), "exchanged_sort", "exchanged_sort", defArgs (top 28), defBody (top 28), defScope (top 28), [], []⟩
def d_asked_of : He.DefD := ⟨("asked_of", none), "asked_of", "asked_of", defArgs (top 32), defBody (top 32), defScope (top 32), [], []⟩
def d_lead_of_sortrules : He.DefD := ⟨("lead_of_sortrules", none), "lead_of", "lead_of", defArgs (top 33), defBody (top 33), defScope (top 33), [], []⟩
def d_leads_of : He.DefD := ⟨("leads_of", none), "leads_of", "leads_of", defArgs (top 35), defBody (top 35), defScope (top 35), [], []⟩
def d_are_alike : He.DefD := ⟨("are_alike", none), "are_alike", "are_alike", defArgs (top 36), defBody (top 36), defScope (top 36), [], []⟩
def d_lot_row : He.DefD := ⟨("lot_row", none), "lot_row", "lot_row", defArgs (top 37), defBody (top 37), defScope (top 37), [], []⟩
def d_is_alike_to : He.DefD := ⟨("is_alike_to", none), "is_alike_to", "is_alike_to", defArgs (top 38), defBody (top 38), defScope (top 38), [], []⟩
def d_odd_lone : He.DefD := ⟨("odd_lone", none), "odd_lone", "odd_lone", defArgs (top 39), defBody (top 39), defScope (top 39), [], []⟩
def d_odd_ends : He.DefD := ⟨("odd_ends", none), "odd_ends", "odd_ends", defArgs (top 40), defBody (top 40), defScope (top 40), [], []⟩
def d_papers_of : He.DefD := ⟨("papers_of", none), "papers_of", "papers_of", defArgs (top 41), defBody (top 41), defScope (top 41), [], []⟩
def d_rule_broken : He.DefD := ⟨("rule_broken", none), "rule_broken", "rule_broken", defArgs (top 42), defBody (top 42), defScope (top 42), [], []⟩
def d_enough : He.DefD := ⟨("enough", none), "enough", "enough", defArgs (top 43), defBody (top 43), defScope (top 43), [], []⟩
def d_sorts_enough : He.DefD := ⟨("sorts_enough", none), "sorts_enough", "sorts_enough", defArgs (top 44), defBody (top 44), defScope (top 44), [], []⟩
def d__law_store : He.DefD := ⟨("_law_store", none), "_law_store", "_law_store", defArgs (top 46), defBody (top 46), defScope (top 46), [], []⟩
def d__law_draw : He.DefD := ⟨("_law_draw", none), "_law_draw", "_law_draw", defArgs (top 47), defBody (top 47), defScope (top 47), [], []⟩
def d__law_pick : He.DefD := ⟨("_law_pick", none), "_law_pick", "_law_pick", defArgs (top 48), defBody (top 48), defScope (top 48), [], []⟩
def d__law_shuffled : He.DefD := ⟨("_law_shuffled", none), "_law_shuffled", "_law_shuffled", defArgs (top 49), defBody (top 49), defScope (top 49), [], []⟩
def d__law_ends : He.DefD := ⟨("_law_ends", none), "_law_ends", "_law_ends", defArgs (top 50), defBody (top 50), defScope (top 50), [], []⟩
def d__law_marks : He.DefD := ⟨("_law_marks", none), "_law_marks", "_law_marks", defArgs (top 51), defBody (top 51), defScope (top 51), [], []⟩
def d__law_lots_plane : He.DefD := ⟨("_law_lots_plane", none), "_law_lots_plane", "_law_lots_plane", defArgs (top 52), defBody (top 52), defScope (top 52), [], []⟩
def d__law_stairs : He.DefD := ⟨("_law_stairs", none), "_law_stairs", "_law_stairs", defArgs (top 53), defBody (top 53), defScope (top 53), [], []⟩
def d__law_factors : He.DefD := ⟨("_law_factors", none), "_law_factors", "_law_factors", defArgs (top 54), defBody (top 54), defScope (top 54), [], []⟩
def d__law_led : He.DefD := ⟨("_law_led", none), "_law_led", "_law_led", defArgs (top 55), defBody (top 55), defScope (top 55), [], []⟩
def d__law_kept : He.DefD := ⟨("_law_kept", none), "_law_kept", "_law_kept", defArgs (top 56), defBody (top 56), defScope (top 56), [], []⟩
def d__law_inverse : He.DefD := ⟨("_law_inverse", none), "_law_inverse", "_law_inverse", defArgs (top 57), defBody (top 57), defScope (top 57), [], []⟩
def d__law_less : He.DefD := ⟨("_law_less", none), "_law_less", "_law_less", defArgs (top 58), defBody (top 58), defScope (top 58), [], []⟩
def d__law_plane : He.DefD := ⟨("_law_plane", none), "_law_plane", "_law_plane", defArgs (top 59), defBody (top 59), defScope (top 59), [], []⟩
def d__law_lead : He.DefD := ⟨("_law_lead", none), "_law_lead", "_law_lead", defArgs (top 60), defBody (top 60), defScope (top 60), [], []⟩
def d__law_leads : He.DefD := ⟨("_law_leads", none), "_law_leads", "_law_leads", defArgs (top 61), defBody (top 61), defScope (top 61), [], []⟩
def d__law_column : He.DefD := ⟨("_law_column", none), "_law_column", "_law_column", defArgs (top 62), defBody (top 62), defScope (top 62), [], []⟩
def d__law_turned_plane : He.DefD := ⟨("_law_turned_plane", none), "_law_turned_plane", "_law_turned_plane", defArgs (top 63), defBody (top 63), defScope (top 63), [], []⟩
def d__law_exchanged_plane : He.DefD := ⟨("_law_exchanged_plane", none), "_law_exchanged_plane", "_law_exchanged_plane", defArgs (top 64), defBody (top 64), defScope (top 64), [], []⟩
def d__law_has : He.DefD := ⟨("_law_has", none), "_law_has", "_law_has", defArgs (top 65), defBody (top 65), defScope (top 65), [], []⟩
def d__law_seen : He.DefD := ⟨("_law_seen", none), "_law_seen", "_law_seen", defArgs (top 66), defBody (top 66), defScope (top 66), [], []⟩
def d__law_unseen : He.DefD := ⟨("_law_unseen", none), "_law_unseen", "_law_unseen", defArgs (top 67), defBody (top 67), defScope (top 67), [], []⟩
def d__law_table : He.DefD := ⟨("_law_table", none), "_law_table", "_law_table", defArgs (top 68), defBody (top 68), defScope (top 68), [], []⟩
def d__law_rules : He.DefD := ⟨("_law_rules", none), "_law_rules", "_law_rules", defArgs (top 69), defBody (top 69), defScope (top 69), [], []⟩
def d__law_crowd : He.DefD := ⟨("_law_crowd", none), "_law_crowd", "_law_crowd", defArgs (top 70), defBody (top 70), defScope (top 70), [], []⟩
def d__law_broken_rule : He.DefD := ⟨("_law_broken_rule", none), "_law_broken_rule", "_law_broken_rule", defArgs (top 71), defBody (top 71), defScope (top 71), [], []⟩
def d__law_keepers : He.DefD := ⟨("_law_keepers", none), "_law_keepers", "_law_keepers", defArgs (top 72), defBody (top 72), defScope (top 72), [], []⟩
def d__law_spoilt : He.DefD := ⟨("_law_spoilt", none), "_law_spoilt", "_law_spoilt", defArgs (top 73), defBody (top 73), defScope (top 73), [], []⟩
def d__law_swaps : He.DefD := ⟨("_law_swaps", none), "_law_swaps", "_law_swaps", defArgs (top 74), defBody (top 74), defScope (top 74), [], []⟩
def d__law_words : He.DefD := ⟨("_law_words", none), "_law_words", "_law_words", defArgs (top 75), defBody (top 75), defScope (top 75), [], []⟩
def d__law_mirrors : He.DefD := ⟨("_law_mirrors", none), "_law_mirrors", "_law_mirrors", defArgs (top 76), defBody (top 76), defScope (top 76), [], []⟩
def d__law_flat_drawn : He.DefD := ⟨("_law_flat_drawn", none), "_law_flat_drawn", "_law_flat_drawn", defArgs (top 77), defBody (top 77), defScope (top 77), [], []⟩
def d__law_by_mirrors : He.DefD := ⟨("_law_by_mirrors", none), "_law_by_mirrors", "_law_by_mirrors", defArgs (top 78), defBody (top 78), defScope (top 78), [], []⟩
def d_law : He.DefD := ⟨("law", none), "law", "law", defArgs (top 79), defBody (top 79), defScope (top 79), [], []⟩
def fn0 : List He.DefD := [d_inverse, d_lead_of_flats, d_added, d_stairs_of, d_flat_of, d_has, d_upright, d_part_at, d_turned_flat, d_exchanged_flat, d_need_sort, d_all_sorts, d_sort_words, d_sort_with, d_turned_sort, d_exchanged_sort, d_asked_of, d_lead_of_sortrules, d_leads_of, d_are_alike, d_lot_row, d_is_alike_to, d_odd_lone, d_odd_ends, d_papers_of, d_rule_broken, d_enough, d_sorts_enough, d__law_store, d__law_draw]
def fn1 : List He.DefD := [d__law_pick, d__law_shuffled, d__law_ends, d__law_marks, d__law_lots_plane, d__law_stairs, d__law_factors, d__law_led, d__law_kept, d__law_inverse, d__law_less, d__law_plane, d__law_lead, d__law_leads, d__law_column, d__law_turned_plane, d__law_exchanged_plane, d__law_has, d__law_seen, d__law_unseen, d__law_table, d__law_rules, d__law_crowd, d__law_broken_rule, d__law_keepers, d__law_spoilt, d__law_swaps, d__law_words, d__law_mirrors, d__law_flat_drawn]
def fn2 : List He.DefD := [d__law_by_mirrors, d_law]
def fn : List He.DefD := fn0 ++ fn1 ++ fn2
def fa0 : List He.Fa := [.free "len", .free "range", .free "tuple", .free "list", .free "zip", .free "enumerate", .free "any", .free "all", .free "sorted", .free "isinstance", .free "int", .free "abs", .free "sum", .free "repr", .free "min", .free "str"]
def fa1 : List He.Fa := [.glo "inverse", .glo "lead_of_flats", .glo "added", .glo "stairs_of", .glo "flat_of", .glo "has", .glo "upright", .glo "part_at", .glo "turned_flat", .glo "exchanged_flat", .glo "need_sort", .glo "all_sorts", .glo "sort_words", .glo "sort_with", .glo "turned_sort", .glo "exchanged_sort", .glo "asked_of", .glo "lead_of_sortrules", .glo "leads_of", .glo "are_alike", .glo "lot_row", .glo "is_alike_to", .glo "odd_lone", .glo "odd_ends", .glo "papers_of", .glo "rule_broken", .glo "enough", .glo "sorts_enough", .glo "_law_store", .glo "_law_draw"]
def fa2 : List He.Fa := [.glo "_law_pick", .glo "_law_shuffled", .glo "_law_ends", .glo "_law_marks", .glo "_law_lots_plane", .glo "_law_stairs", .glo "_law_factors", .glo "_law_led", .glo "_law_kept", .glo "_law_inverse", .glo "_law_less", .glo "_law_plane", .glo "_law_lead", .glo "_law_leads", .glo "_law_column", .glo "_law_turned_plane", .glo "_law_exchanged_plane", .glo "_law_has", .glo "_law_seen", .glo "_law_unseen", .glo "_law_table", .glo "_law_rules", .glo "_law_crowd", .glo "_law_broken_rule", .glo "_law_keepers", .glo "_law_spoilt", .glo "_law_swaps", .glo "_law_words", .glo "_law_mirrors", .glo "_law_flat_drawn"]
def fa3 : List He.Fa := [.glo "_law_by_mirrors", .glo "law"]
def fa : List He.Fa := fa0 ++ fa1 ++ fa2 ++ fa3
def wordsV : List V := [.str "wire", .str "cross", .str "copy", .str "drop", .str "add", .str "nought", .str "times", .str "uncopy", .str "undrop", .str "unadd", .str "unnought", .str "untimes"]
def sortsV : List V := [.str "cross", .str "copy", .str "copy drop", .str "uncopy", .str "uncopy undrop", .str "copy uncopy", .str "copy drop uncopy undrop", .str "add", .str "add nought", .str "unadd", .str "unadd unnought", .str "add unadd", .str "add nought unadd unnought", .str "copy drop add nought", .str "uncopy undrop unadd unnought", .str "copy drop add nought unnought", .str "nought uncopy undrop unadd unnought", .str "copy drop add nought undrop", .str "drop uncopy undrop unadd unnought", .str "copy drop add nought undrop unnought", .str "drop nought uncopy undrop unadd unnought", .str "times", .str "untimes", .str "all"]
def kv_TURNED_WORDS : List (Str × Str) := [("wire", "wire"), ("cross", "cross"), ("copy", "uncopy"), ("uncopy", "copy"), ("drop", "undrop"), ("undrop", "drop"), ("add", "unadd"), ("unadd", "add"), ("nought", "unnought"), ("unnought", "nought"), ("times", "untimes"), ("untimes", "times")]
def kv_EXCHANGED_WORDS : List (Str × Str) := [("wire", "wire"), ("cross", "cross"), ("copy", "unadd"), ("unadd", "copy"), ("uncopy", "add"), ("add", "uncopy"), ("drop", "unnought"), ("unnought", "drop"), ("undrop", "nought"), ("nought", "undrop"), ("times", "untimes"), ("untimes", "times")]
def kv_RULES : List (Str × List Str) := [("cross", ["total", "single", "copied", "used", "once"]), ("copy", ["total", "single", "copied", "used"]), ("copy drop", ["total", "single", "copied"]), ("copy uncopy", ["free", "sides"]), ("copy drop uncopy undrop", ["free"]), ("copy drop add nought", ["total", "single"]), ("copy drop add nought unnought", ["single"]), ("copy drop add nought undrop", ["total"]), ("copy drop add nought undrop unnought", []), ("times", ["many", "total", "single", "lone"]), ("all", [])]
def sortsL : List Str := ["cross", "copy", "copy drop", "uncopy", "uncopy undrop", "copy uncopy", "copy drop uncopy undrop", "add", "add nought", "unadd", "unadd unnought", "add unadd", "add nought unadd unnought", "copy drop add nought", "uncopy undrop unadd unnought", "copy drop add nought unnought", "nought uncopy undrop unadd unnought", "copy drop add nought undrop", "drop uncopy undrop unadd unnought", "copy drop add nought undrop unnought", "drop nought uncopy undrop unadd unnought", "times", "untimes", "all"]
def wordsL : List Str := ["wire", "cross", "copy", "drop", "add", "nought", "times", "uncopy", "undrop", "unadd", "unnought", "untimes"]
def noOthers : List Str := ["cross", "copy", "copy drop", "copy uncopy", "copy drop uncopy undrop", "copy drop add nought", "copy drop add nought unnought", "copy drop add nought undrop", "copy drop add nought undrop unnought", "times", "all"]
def kv_OTHERS : List (Str × List Str) := [("uncopy", ["copy", "turned"]), ("uncopy undrop", ["copy drop", "turned"]), ("add", ["copy", "both"]), ("add nought", ["copy drop", "both"]), ("unadd", ["copy", "exchanged"]), ("unadd unnought", ["copy drop", "exchanged"]), ("add unadd", ["copy uncopy", "exchanged"]), ("add nought unadd unnought", ["copy drop uncopy undrop", "exchanged"]), ("uncopy undrop unadd unnought", ["copy drop add nought", "turned"]), ("nought uncopy undrop unadd unnought", ["copy drop add nought unnought", "turned"]), ("drop uncopy undrop unadd unnought", ["copy drop add nought undrop", "turned"]), ("drop nought uncopy undrop unadd unnought", ["copy drop add nought undrop unnought", "turned"]), ("untimes", ["times", "turned"])]
/-- a tuple of the written part -/
def tupAt (K : PySem.W.Frag) (a : Addr) (vs : List V) : Bool := match K.lookup a with
  | some ⟨.type c, _, .seq its _, _⟩ => decide (c = "tuple") && (decide (its.size ≤ sizeLine) && He.relAll vs its.toList)
  | _ => false
def strAt (K : PySem.W.Frag) (a : Addr) (kvs : List (Str × Str)) : Bool := kvs.all fun q => match PySem.W.nsIn K a q.1 with
  | some (some u) => He.relB (.str q.2) u
  | _ => false
def tupsAt (K : PySem.W.Frag) (a : Addr) (kvs : List (Str × List Str)) : Bool := kvs.all fun q => match PySem.W.nsIn K a q.1 with
  | some (some (.ref t)) => tupAt K t (q.2.map V.str)
  | _ => false
def noAt (K : PySem.W.Frag) (a : Addr) (ks : List Str) : Bool := ks.all fun q => match PySem.W.nsIn K a q with
  | some none => true
  | _ => false
def exB (K : PySem.W.Frag) : Bool := noAt K (He.ga K "OTHERS") noOthers && (tupAt K (He.ga K "WORDS") wordsV && (tupAt K (He.ga K "SORTS") sortsV && (strAt K (He.ga K "TURNED_WORDS") kv_TURNED_WORDS && (strAt K (He.ga K "EXCHANGED_WORDS") kv_EXCHANGED_WORDS &&
  (tupsAt K (He.ga K "RULES") kv_RULES && (tupsAt K (He.ga K "OTHERS") kv_OTHERS && (["WORDS", "SORTS", "TURNED_WORDS", "EXCHANGED_WORDS", "RULES", "OTHERS"] : List Str).all fun x => (He.Fa.glo x).ok K))))))
def ts : List He.Tab := [(fun K => He.ga K "TURNED_WORDS", kv_TURNED_WORDS.map (·.1)), (fun K => He.ga K "EXCHANGED_WORDS", kv_EXCHANGED_WORDS.map (·.1)), (fun K => He.ga K "RULES", kv_RULES.map (·.1)), (fun K => He.ga K "OTHERS", kv_OTHERS.map (·.1))]
/-! ### the Hook -/
abbrev AlM : Type := He.AlT × Bool
def obsM (n : Nat) (g : Addr → Option Obj) : AlM := (He.obsTG n fa fn ts g, exB (He.frG g (He.asD g n)))
def hk (n : Nat) : PySem.W.Hook where
  α := AlM
  obs := fun s => obsM n s.heap.get?
  val := fun w => (He.valT fn ts w, true)
  says := fun w h => ∃ K : PySem.W.Frag, K.In h ∧ He.SaysT fa fn ts w K ∧ exB K = true
  of := fun _ _ e => ⟨_, He.frG_in, congrArg Prod.fst e, congrArg Prod.snd e⟩
  keeps := fun _ _ _ ⟨K, hK, c⟩ k => ⟨K, PySem.W.Frag.In.keeps hK k, c⟩
def ob (s : PySem.W.SharedT) : AlM := obsM 4 (HandSHeadRun.getT s)
theorem ob_eq (s : PySem.W.SharedT) : ob s = (hk 4).obs s.abs := by
  have e : HandSHeadRun.getT s = s.abs.heap.get? := funext (HandSHeadRun.getT_eq s)
  show obsM 4 (HandSHeadRun.getT s) = obsM 4 s.abs.heap.get?
  rw [e]
def ln0 : List Str := ["BoxError", "Unfit", "NoSuchSort", "__name__", "WORDS", "SORTS", "TURNED_WORDS", "EXCHANGED_WORDS", "RULES", "OTHERS", "lead_of", "inverse", "lead_of_flats", "added", "stairs_of", "flat_of", "has", "upright", "part_at", "turned_flat", "exchanged_flat", "need_sort", "all_sorts", "sort_words", "sort_with", "turned_sort", "exchanged_sort", "asked_of", "lead_of_sortrules", "leads_of"]
def ln1 : List Str := ["are_alike", "lot_row", "is_alike_to", "odd_lone", "odd_ends", "papers_of", "rule_broken", "enough", "sorts_enough", "_law_store", "_law_draw", "_law_pick", "_law_shuffled", "_law_ends", "_law_marks", "_law_lots_plane", "_law_stairs", "_law_factors", "_law_led", "_law_kept", "_law_inverse", "_law_less", "_law_plane", "_law_lead", "_law_leads", "_law_column", "_law_turned_plane", "_law_exchanged_plane", "_law_has", "_law_seen"]
def ln2 : List Str := ["_law_unseen", "_law_table", "_law_rules", "_law_crowd", "_law_broken_rule", "_law_keepers", "_law_spoilt", "_law_swaps", "_law_words", "_law_mirrors", "_law_flat_drawn", "_law_by_mirrors"]
def loose : List Str := ln0 ++ ln1 ++ ln2
end Bx


set_option Elab.async false
set_option linter.all false
set_option maxRecDepth 100000
set_option maxHeartbeats 4000000
set_option autoImplicit false
namespace Bx
open PySem PySem.Spec PyProof.Rows L2
/-- what stands behind the top -/
structure Tx (w : World) (K : PySem.W.Frag) (mg : Str → Option Value) (base : Heap) : Prop where
  X : K.In base
  G : base.Ns mainGlobals mg
  c : He.SaysT fa fn ts w K
  e : exB K = true
theorem relB_val {v : V} {u : Value} (h : He.relB v u = true) : RelV v u := He.relB_ok h
theorem tupAt_ok {K : PySem.W.Frag} {a : Addr} {vs : List V} (h : tupAt K a vs = true) (H : Hp) : SqT K H a vs := by
  unfold tupAt at h
  cases q : K.lookup a with
  | none =>
    rw [q] at h
    cases h
  | some o =>
    obtain ⟨oc, od, dt, osl⟩ := o
    rw [q] at h
    cases oc with
    | type c =>
      cases dt with
      | seq its n =>
        obtain ⟨h1, h2⟩ := He.ba (show (decide (c = "tuple") && (decide (its.size ≤ sizeLine) && He.relAll vs its.toList)) = true from h)
        obtain ⟨h3, h4⟩ := He.ba h2
        exact .inr ⟨_, its, n, q, congrArg Value.type (of_decide_eq_true h1), rfl, of_decide_eq_true h3, He.relAll_ok h4⟩
      | _ => cases h
    | _ => cases dt <;> cases h
section
variable {w : World} {K : PySem.W.Frag} {mg : Str → Option Value} {base : Heap}
theorem Tx.b_len (T : Tx w K mg base) : mg "len" = none := He.free_ok T.X T.G (T.c.d.fact 0 (f := .free "len") rfl)
theorem Tx.b_range (T : Tx w K mg base) : mg "range" = none := He.free_ok T.X T.G (T.c.d.fact 1 (f := .free "range") rfl)
theorem Tx.b_tuple (T : Tx w K mg base) : mg "tuple" = none := He.free_ok T.X T.G (T.c.d.fact 2 (f := .free "tuple") rfl)
theorem Tx.b_list (T : Tx w K mg base) : mg "list" = none := He.free_ok T.X T.G (T.c.d.fact 3 (f := .free "list") rfl)
theorem Tx.b_zip (T : Tx w K mg base) : mg "zip" = none := He.free_ok T.X T.G (T.c.d.fact 4 (f := .free "zip") rfl)
theorem Tx.b_enumerate (T : Tx w K mg base) : mg "enumerate" = none := He.free_ok T.X T.G (T.c.d.fact 5 (f := .free "enumerate") rfl)
theorem Tx.b_any (T : Tx w K mg base) : mg "any" = none := He.free_ok T.X T.G (T.c.d.fact 6 (f := .free "any") rfl)
theorem Tx.b_all (T : Tx w K mg base) : mg "all" = none := He.free_ok T.X T.G (T.c.d.fact 7 (f := .free "all") rfl)
theorem Tx.b_sorted (T : Tx w K mg base) : mg "sorted" = none := He.free_ok T.X T.G (T.c.d.fact 8 (f := .free "sorted") rfl)
theorem Tx.b_isinstance (T : Tx w K mg base) : mg "isinstance" = none := He.free_ok T.X T.G (T.c.d.fact 9 (f := .free "isinstance") rfl)
theorem Tx.b_int (T : Tx w K mg base) : mg "int" = none := He.free_ok T.X T.G (T.c.d.fact 10 (f := .free "int") rfl)
theorem Tx.b_abs (T : Tx w K mg base) : mg "abs" = none := He.free_ok T.X T.G (T.c.d.fact 11 (f := .free "abs") rfl)
theorem Tx.b_sum (T : Tx w K mg base) : mg "sum" = none := He.free_ok T.X T.G (T.c.d.fact 12 (f := .free "sum") rfl)
theorem Tx.b_repr (T : Tx w K mg base) : mg "repr" = none := He.free_ok T.X T.G (T.c.d.fact 13 (f := .free "repr") rfl)
theorem Tx.b_min (T : Tx w K mg base) : mg "min" = none := He.free_ok T.X T.G (T.c.d.fact 14 (f := .free "min") rfl)
theorem Tx.b_str (T : Tx w K mg base) : mg "str" = none := He.free_ok T.X T.G (T.c.d.fact 15 (f := .free "str") rfl)
theorem Tx.g_inverse (T : Tx w K mg base) : mg "inverse" = some (.ref (He.ga K "inverse")) := He.glo_ok T.X T.G (T.c.d.fact 16 (f := .glo "inverse") rfl)
theorem Tx.g_lead_of_flats (T : Tx w K mg base) : mg "lead_of_flats" = some (.ref (He.ga K "lead_of_flats")) := He.glo_ok T.X T.G (T.c.d.fact 17 (f := .glo "lead_of_flats") rfl)
theorem Tx.g_added (T : Tx w K mg base) : mg "added" = some (.ref (He.ga K "added")) := He.glo_ok T.X T.G (T.c.d.fact 18 (f := .glo "added") rfl)
theorem Tx.g_stairs_of (T : Tx w K mg base) : mg "stairs_of" = some (.ref (He.ga K "stairs_of")) := He.glo_ok T.X T.G (T.c.d.fact 19 (f := .glo "stairs_of") rfl)
theorem Tx.g_flat_of (T : Tx w K mg base) : mg "flat_of" = some (.ref (He.ga K "flat_of")) := He.glo_ok T.X T.G (T.c.d.fact 20 (f := .glo "flat_of") rfl)
theorem Tx.g_has (T : Tx w K mg base) : mg "has" = some (.ref (He.ga K "has")) := He.glo_ok T.X T.G (T.c.d.fact 21 (f := .glo "has") rfl)
theorem Tx.g_upright (T : Tx w K mg base) : mg "upright" = some (.ref (He.ga K "upright")) := He.glo_ok T.X T.G (T.c.d.fact 22 (f := .glo "upright") rfl)
theorem Tx.g_part_at (T : Tx w K mg base) : mg "part_at" = some (.ref (He.ga K "part_at")) := He.glo_ok T.X T.G (T.c.d.fact 23 (f := .glo "part_at") rfl)
theorem Tx.g_turned_flat (T : Tx w K mg base) : mg "turned_flat" = some (.ref (He.ga K "turned_flat")) := He.glo_ok T.X T.G (T.c.d.fact 24 (f := .glo "turned_flat") rfl)
theorem Tx.g_exchanged_flat (T : Tx w K mg base) : mg "exchanged_flat" = some (.ref (He.ga K "exchanged_flat")) := He.glo_ok T.X T.G (T.c.d.fact 25 (f := .glo "exchanged_flat") rfl)
theorem Tx.g_need_sort (T : Tx w K mg base) : mg "need_sort" = some (.ref (He.ga K "need_sort")) := He.glo_ok T.X T.G (T.c.d.fact 26 (f := .glo "need_sort") rfl)
theorem Tx.g_all_sorts (T : Tx w K mg base) : mg "all_sorts" = some (.ref (He.ga K "all_sorts")) := He.glo_ok T.X T.G (T.c.d.fact 27 (f := .glo "all_sorts") rfl)
theorem Tx.g_sort_words (T : Tx w K mg base) : mg "sort_words" = some (.ref (He.ga K "sort_words")) := He.glo_ok T.X T.G (T.c.d.fact 28 (f := .glo "sort_words") rfl)
theorem Tx.g_sort_with (T : Tx w K mg base) : mg "sort_with" = some (.ref (He.ga K "sort_with")) := He.glo_ok T.X T.G (T.c.d.fact 29 (f := .glo "sort_with") rfl)
theorem Tx.g_turned_sort (T : Tx w K mg base) : mg "turned_sort" = some (.ref (He.ga K "turned_sort")) := He.glo_ok T.X T.G (T.c.d.fact 30 (f := .glo "turned_sort") rfl)
theorem Tx.g_exchanged_sort (T : Tx w K mg base) : mg "exchanged_sort" = some (.ref (He.ga K "exchanged_sort")) := He.glo_ok T.X T.G (T.c.d.fact 31 (f := .glo "exchanged_sort") rfl)
theorem Tx.g_asked_of (T : Tx w K mg base) : mg "asked_of" = some (.ref (He.ga K "asked_of")) := He.glo_ok T.X T.G (T.c.d.fact 32 (f := .glo "asked_of") rfl)
theorem Tx.g_lead_of_sortrules (T : Tx w K mg base) : mg "lead_of_sortrules" = some (.ref (He.ga K "lead_of_sortrules")) := He.glo_ok T.X T.G (T.c.d.fact 33 (f := .glo "lead_of_sortrules") rfl)
theorem Tx.g_leads_of (T : Tx w K mg base) : mg "leads_of" = some (.ref (He.ga K "leads_of")) := He.glo_ok T.X T.G (T.c.d.fact 34 (f := .glo "leads_of") rfl)
theorem Tx.g_are_alike (T : Tx w K mg base) : mg "are_alike" = some (.ref (He.ga K "are_alike")) := He.glo_ok T.X T.G (T.c.d.fact 35 (f := .glo "are_alike") rfl)
theorem Tx.g_lot_row (T : Tx w K mg base) : mg "lot_row" = some (.ref (He.ga K "lot_row")) := He.glo_ok T.X T.G (T.c.d.fact 36 (f := .glo "lot_row") rfl)
theorem Tx.g_is_alike_to (T : Tx w K mg base) : mg "is_alike_to" = some (.ref (He.ga K "is_alike_to")) := He.glo_ok T.X T.G (T.c.d.fact 37 (f := .glo "is_alike_to") rfl)
theorem Tx.g_odd_lone (T : Tx w K mg base) : mg "odd_lone" = some (.ref (He.ga K "odd_lone")) := He.glo_ok T.X T.G (T.c.d.fact 38 (f := .glo "odd_lone") rfl)
theorem Tx.g_odd_ends (T : Tx w K mg base) : mg "odd_ends" = some (.ref (He.ga K "odd_ends")) := He.glo_ok T.X T.G (T.c.d.fact 39 (f := .glo "odd_ends") rfl)
theorem Tx.g_papers_of (T : Tx w K mg base) : mg "papers_of" = some (.ref (He.ga K "papers_of")) := He.glo_ok T.X T.G (T.c.d.fact 40 (f := .glo "papers_of") rfl)
theorem Tx.g_rule_broken (T : Tx w K mg base) : mg "rule_broken" = some (.ref (He.ga K "rule_broken")) := He.glo_ok T.X T.G (T.c.d.fact 41 (f := .glo "rule_broken") rfl)
theorem Tx.g_enough (T : Tx w K mg base) : mg "enough" = some (.ref (He.ga K "enough")) := He.glo_ok T.X T.G (T.c.d.fact 42 (f := .glo "enough") rfl)
theorem Tx.g_sorts_enough (T : Tx w K mg base) : mg "sorts_enough" = some (.ref (He.ga K "sorts_enough")) := He.glo_ok T.X T.G (T.c.d.fact 43 (f := .glo "sorts_enough") rfl)
theorem Tx.g__law_store (T : Tx w K mg base) : mg "_law_store" = some (.ref (He.ga K "_law_store")) := He.glo_ok T.X T.G (T.c.d.fact 44 (f := .glo "_law_store") rfl)
theorem Tx.g__law_draw (T : Tx w K mg base) : mg "_law_draw" = some (.ref (He.ga K "_law_draw")) := He.glo_ok T.X T.G (T.c.d.fact 45 (f := .glo "_law_draw") rfl)
theorem Tx.g__law_pick (T : Tx w K mg base) : mg "_law_pick" = some (.ref (He.ga K "_law_pick")) := He.glo_ok T.X T.G (T.c.d.fact 46 (f := .glo "_law_pick") rfl)
theorem Tx.g__law_shuffled (T : Tx w K mg base) : mg "_law_shuffled" = some (.ref (He.ga K "_law_shuffled")) := He.glo_ok T.X T.G (T.c.d.fact 47 (f := .glo "_law_shuffled") rfl)
theorem Tx.g__law_ends (T : Tx w K mg base) : mg "_law_ends" = some (.ref (He.ga K "_law_ends")) := He.glo_ok T.X T.G (T.c.d.fact 48 (f := .glo "_law_ends") rfl)
theorem Tx.g__law_marks (T : Tx w K mg base) : mg "_law_marks" = some (.ref (He.ga K "_law_marks")) := He.glo_ok T.X T.G (T.c.d.fact 49 (f := .glo "_law_marks") rfl)
theorem Tx.g__law_lots_plane (T : Tx w K mg base) : mg "_law_lots_plane" = some (.ref (He.ga K "_law_lots_plane")) := He.glo_ok T.X T.G (T.c.d.fact 50 (f := .glo "_law_lots_plane") rfl)
theorem Tx.g__law_stairs (T : Tx w K mg base) : mg "_law_stairs" = some (.ref (He.ga K "_law_stairs")) := He.glo_ok T.X T.G (T.c.d.fact 51 (f := .glo "_law_stairs") rfl)
theorem Tx.g__law_factors (T : Tx w K mg base) : mg "_law_factors" = some (.ref (He.ga K "_law_factors")) := He.glo_ok T.X T.G (T.c.d.fact 52 (f := .glo "_law_factors") rfl)
theorem Tx.g__law_led (T : Tx w K mg base) : mg "_law_led" = some (.ref (He.ga K "_law_led")) := He.glo_ok T.X T.G (T.c.d.fact 53 (f := .glo "_law_led") rfl)
theorem Tx.g__law_kept (T : Tx w K mg base) : mg "_law_kept" = some (.ref (He.ga K "_law_kept")) := He.glo_ok T.X T.G (T.c.d.fact 54 (f := .glo "_law_kept") rfl)
theorem Tx.g__law_inverse (T : Tx w K mg base) : mg "_law_inverse" = some (.ref (He.ga K "_law_inverse")) := He.glo_ok T.X T.G (T.c.d.fact 55 (f := .glo "_law_inverse") rfl)
theorem Tx.g__law_less (T : Tx w K mg base) : mg "_law_less" = some (.ref (He.ga K "_law_less")) := He.glo_ok T.X T.G (T.c.d.fact 56 (f := .glo "_law_less") rfl)
theorem Tx.g__law_plane (T : Tx w K mg base) : mg "_law_plane" = some (.ref (He.ga K "_law_plane")) := He.glo_ok T.X T.G (T.c.d.fact 57 (f := .glo "_law_plane") rfl)
theorem Tx.g__law_lead (T : Tx w K mg base) : mg "_law_lead" = some (.ref (He.ga K "_law_lead")) := He.glo_ok T.X T.G (T.c.d.fact 58 (f := .glo "_law_lead") rfl)
theorem Tx.g__law_leads (T : Tx w K mg base) : mg "_law_leads" = some (.ref (He.ga K "_law_leads")) := He.glo_ok T.X T.G (T.c.d.fact 59 (f := .glo "_law_leads") rfl)
theorem Tx.g__law_column (T : Tx w K mg base) : mg "_law_column" = some (.ref (He.ga K "_law_column")) := He.glo_ok T.X T.G (T.c.d.fact 60 (f := .glo "_law_column") rfl)
theorem Tx.g__law_turned_plane (T : Tx w K mg base) : mg "_law_turned_plane" = some (.ref (He.ga K "_law_turned_plane")) := He.glo_ok T.X T.G (T.c.d.fact 61 (f := .glo "_law_turned_plane") rfl)
theorem Tx.g__law_exchanged_plane (T : Tx w K mg base) : mg "_law_exchanged_plane" = some (.ref (He.ga K "_law_exchanged_plane")) := He.glo_ok T.X T.G (T.c.d.fact 62 (f := .glo "_law_exchanged_plane") rfl)
theorem Tx.g__law_has (T : Tx w K mg base) : mg "_law_has" = some (.ref (He.ga K "_law_has")) := He.glo_ok T.X T.G (T.c.d.fact 63 (f := .glo "_law_has") rfl)
theorem Tx.g__law_seen (T : Tx w K mg base) : mg "_law_seen" = some (.ref (He.ga K "_law_seen")) := He.glo_ok T.X T.G (T.c.d.fact 64 (f := .glo "_law_seen") rfl)
theorem Tx.g__law_unseen (T : Tx w K mg base) : mg "_law_unseen" = some (.ref (He.ga K "_law_unseen")) := He.glo_ok T.X T.G (T.c.d.fact 65 (f := .glo "_law_unseen") rfl)
theorem Tx.g__law_table (T : Tx w K mg base) : mg "_law_table" = some (.ref (He.ga K "_law_table")) := He.glo_ok T.X T.G (T.c.d.fact 66 (f := .glo "_law_table") rfl)
theorem Tx.g__law_rules (T : Tx w K mg base) : mg "_law_rules" = some (.ref (He.ga K "_law_rules")) := He.glo_ok T.X T.G (T.c.d.fact 67 (f := .glo "_law_rules") rfl)
theorem Tx.g__law_crowd (T : Tx w K mg base) : mg "_law_crowd" = some (.ref (He.ga K "_law_crowd")) := He.glo_ok T.X T.G (T.c.d.fact 68 (f := .glo "_law_crowd") rfl)
theorem Tx.g__law_broken_rule (T : Tx w K mg base) : mg "_law_broken_rule" = some (.ref (He.ga K "_law_broken_rule")) := He.glo_ok T.X T.G (T.c.d.fact 69 (f := .glo "_law_broken_rule") rfl)
theorem Tx.g__law_keepers (T : Tx w K mg base) : mg "_law_keepers" = some (.ref (He.ga K "_law_keepers")) := He.glo_ok T.X T.G (T.c.d.fact 70 (f := .glo "_law_keepers") rfl)
theorem Tx.g__law_spoilt (T : Tx w K mg base) : mg "_law_spoilt" = some (.ref (He.ga K "_law_spoilt")) := He.glo_ok T.X T.G (T.c.d.fact 71 (f := .glo "_law_spoilt") rfl)
theorem Tx.g__law_swaps (T : Tx w K mg base) : mg "_law_swaps" = some (.ref (He.ga K "_law_swaps")) := He.glo_ok T.X T.G (T.c.d.fact 72 (f := .glo "_law_swaps") rfl)
theorem Tx.g__law_words (T : Tx w K mg base) : mg "_law_words" = some (.ref (He.ga K "_law_words")) := He.glo_ok T.X T.G (T.c.d.fact 73 (f := .glo "_law_words") rfl)
theorem Tx.g__law_mirrors (T : Tx w K mg base) : mg "_law_mirrors" = some (.ref (He.ga K "_law_mirrors")) := He.glo_ok T.X T.G (T.c.d.fact 74 (f := .glo "_law_mirrors") rfl)
theorem Tx.g__law_flat_drawn (T : Tx w K mg base) : mg "_law_flat_drawn" = some (.ref (He.ga K "_law_flat_drawn")) := He.glo_ok T.X T.G (T.c.d.fact 75 (f := .glo "_law_flat_drawn") rfl)
theorem Tx.g__law_by_mirrors (T : Tx w K mg base) : mg "_law_by_mirrors" = some (.ref (He.ga K "_law_by_mirrors")) := He.glo_ok T.X T.G (T.c.d.fact 76 (f := .glo "_law_by_mirrors") rfl)
theorem Tx.g_law (T : Tx w K mg base) : mg "law" = some (.ref (He.ga K "law")) := He.glo_ok T.X T.G (T.c.d.fact 77 (f := .glo "law") rfl)
theorem Tx.f_inverse (T : Tx w K mg base) : ∃ fd, FunD K "inverse" "inverse" (defArgs (top 5)) (defBody (top 5)) (defScope (top 5)) [] [] (He.ga K "inverse") fd := T.c.d.def_ 0 (d := d_inverse) rfl
theorem Tx.f_lead_of_flats (T : Tx w K mg base) : ∃ fd, FunD K "lead_of" "lead_of" (defArgs (top 7)) (defBody (top 7)) (defScope (top 7)) [] [] (He.ga K "lead_of_flats") fd := T.c.d.def_ 1 (d := d_lead_of_flats) rfl
theorem Tx.f_added (T : Tx w K mg base) : ∃ fd, FunD K "added" "added" (defArgs (top 9)) (defBody (top 9)) (defScope (top 9)) [] [] (He.ga K "added") fd := T.c.d.def_ 2 (d := d_added) rfl
theorem Tx.f_stairs_of (T : Tx w K mg base) : ∃ fd, FunD K "stairs_of" "stairs_of" (defArgs (top 10)) (defBody (top 10)) (defScope (top 10)) [] [] (He.ga K "stairs_of") fd := T.c.d.def_ 3 (d := d_stairs_of) rfl
theorem Tx.f_flat_of (T : Tx w K mg base) : ∃ fd, FunD K "flat_of" "flat_of" (defArgs (top 11)) (defBody (top 11)) (defScope (top 11)) [] [] (He.ga K "flat_of") fd := T.c.d.def_ 4 (d := d_flat_of) rfl
theorem Tx.f_has (T : Tx w K mg base) : ∃ fd, FunD K "has" "has" (defArgs (top 12)) (defBody (top 12)) (defScope (top 12)) [] [] (He.ga K "has") fd := T.c.d.def_ 5 (d := d_has) rfl
theorem Tx.f_upright (T : Tx w K mg base) : ∃ fd, FunD K "upright" "upright" (defArgs (top 13)) (defBody (top 13)) (defScope (top 13)) [] [] (He.ga K "upright") fd := T.c.d.def_ 6 (d := d_upright) rfl
theorem Tx.f_part_at (T : Tx w K mg base) : ∃ fd, FunD K "part_at" "part_at" (defArgs (top 14)) (defBody (top 14)) (defScope (top 14)) [] [] (He.ga K "part_at") fd := T.c.d.def_ 7 (d := d_part_at) rfl
theorem Tx.f_turned_flat (T : Tx w K mg base) : ∃ fd, FunD K "turned_flat" "turned_flat" (defArgs (top 16)) (defBody (top 16)) (defScope (top 16)) [] [] (He.ga K "turned_flat") fd := T.c.d.def_ 8 (d := d_turned_flat) rfl
theorem Tx.f_exchanged_flat (T : Tx w K mg base) : ∃ fd, FunD K "exchanged_flat" "exchanged_flat" (defArgs (top 17)) (defBody (top 17)) (defScope (top 17)) [] [] (He.ga K "exchanged_flat") fd := T.c.d.def_ 9 (d := d_exchanged_flat) rfl
theorem Tx.f_need_sort (T : Tx w K mg base) : ∃ fd, FunD K "need_sort" "need_sort" (defArgs (top 23)) (defBody (top 23)) (defScope (top 23)) [] [] (He.ga K "need_sort") fd := T.c.d.def_ 10 (d := d_need_sort) rfl
theorem Tx.f_all_sorts (T : Tx w K mg base) : ∃ fd, FunD K "all_sorts" "all_sorts" (defArgs (top 24)) (defBody (top 24)) (defScope (top 24)) [] [] (He.ga K "all_sorts") fd := T.c.d.def_ 11 (d := d_all_sorts) rfl
theorem Tx.f_sort_words (T : Tx w K mg base) : ∃ fd, FunD K "sort_words" "sort_words" (defArgs (top 25)) (defBody (top 25)) (defScope (top 25)) [] [] (He.ga K "sort_words") fd := T.c.d.def_ 12 (d := d_sort_words) rfl
theorem Tx.f_sort_with (T : Tx w K mg base) : ∃ fd, FunD K "sort_with" "sort_with" (defArgs (top 26)) (defBody (top 26)) (defScope (top 26)) [] [] (He.ga K "sort_with") fd := T.c.d.def_ 13 (d := d_sort_with) rfl
theorem Tx.f_turned_sort (T : Tx w K mg base) : ∃ fd, FunD K "turned_sort" "turned_sort" (defArgs (top 27)) (defBody (top 27)) (defScope (top 27)) [] [] (He.ga K "turned_sort") fd := T.c.d.def_ 14 (d := d_turned_sort) rfl
theorem Tx.f_exchanged_sort (T : Tx w K mg base) : ∃ fd, FunD K "exchanged_sort" "exchanged_sort" (defArgs (top 28)) (defBody (top 28)) (defScope (top 28)) [] [] (He.ga K "exchanged_sort") fd := T.c.d.def_ 15 (d := d_exchanged_sort) rfl
theorem Tx.f_asked_of (T : Tx w K mg base) : ∃ fd, FunD K "asked_of" "asked_of" (defArgs (top 32)) (defBody (top 32)) (defScope (top 32)) [] [] (He.ga K "asked_of") fd := T.c.d.def_ 16 (d := d_asked_of) rfl
theorem Tx.f_lead_of_sortrules (T : Tx w K mg base) : ∃ fd, FunD K "lead_of" "lead_of" (defArgs (top 33)) (defBody (top 33)) (defScope (top 33)) [] [] (He.ga K "lead_of_sortrules") fd := T.c.d.def_ 17 (d := d_lead_of_sortrules) rfl
theorem Tx.f_leads_of (T : Tx w K mg base) : ∃ fd, FunD K "leads_of" "leads_of" (defArgs (top 35)) (defBody (top 35)) (defScope (top 35)) [] [] (He.ga K "leads_of") fd := T.c.d.def_ 18 (d := d_leads_of) rfl
theorem Tx.f_are_alike (T : Tx w K mg base) : ∃ fd, FunD K "are_alike" "are_alike" (defArgs (top 36)) (defBody (top 36)) (defScope (top 36)) [] [] (He.ga K "are_alike") fd := T.c.d.def_ 19 (d := d_are_alike) rfl
theorem Tx.f_lot_row (T : Tx w K mg base) : ∃ fd, FunD K "lot_row" "lot_row" (defArgs (top 37)) (defBody (top 37)) (defScope (top 37)) [] [] (He.ga K "lot_row") fd := T.c.d.def_ 20 (d := d_lot_row) rfl
theorem Tx.f_is_alike_to (T : Tx w K mg base) : ∃ fd, FunD K "is_alike_to" "is_alike_to" (defArgs (top 38)) (defBody (top 38)) (defScope (top 38)) [] [] (He.ga K "is_alike_to") fd := T.c.d.def_ 21 (d := d_is_alike_to) rfl
theorem Tx.f_odd_lone (T : Tx w K mg base) : ∃ fd, FunD K "odd_lone" "odd_lone" (defArgs (top 39)) (defBody (top 39)) (defScope (top 39)) [] [] (He.ga K "odd_lone") fd := T.c.d.def_ 22 (d := d_odd_lone) rfl
theorem Tx.f_odd_ends (T : Tx w K mg base) : ∃ fd, FunD K "odd_ends" "odd_ends" (defArgs (top 40)) (defBody (top 40)) (defScope (top 40)) [] [] (He.ga K "odd_ends") fd := T.c.d.def_ 23 (d := d_odd_ends) rfl
theorem Tx.f_papers_of (T : Tx w K mg base) : ∃ fd, FunD K "papers_of" "papers_of" (defArgs (top 41)) (defBody (top 41)) (defScope (top 41)) [] [] (He.ga K "papers_of") fd := T.c.d.def_ 24 (d := d_papers_of) rfl
theorem Tx.f_rule_broken (T : Tx w K mg base) : ∃ fd, FunD K "rule_broken" "rule_broken" (defArgs (top 42)) (defBody (top 42)) (defScope (top 42)) [] [] (He.ga K "rule_broken") fd := T.c.d.def_ 25 (d := d_rule_broken) rfl
theorem Tx.f_enough (T : Tx w K mg base) : ∃ fd, FunD K "enough" "enough" (defArgs (top 43)) (defBody (top 43)) (defScope (top 43)) [] [] (He.ga K "enough") fd := T.c.d.def_ 26 (d := d_enough) rfl
theorem Tx.f_sorts_enough (T : Tx w K mg base) : ∃ fd, FunD K "sorts_enough" "sorts_enough" (defArgs (top 44)) (defBody (top 44)) (defScope (top 44)) [] [] (He.ga K "sorts_enough") fd := T.c.d.def_ 27 (d := d_sorts_enough) rfl
theorem Tx.f__law_store (T : Tx w K mg base) : ∃ fd, FunD K "_law_store" "_law_store" (defArgs (top 46)) (defBody (top 46)) (defScope (top 46)) [] [] (He.ga K "_law_store") fd := T.c.d.def_ 28 (d := d__law_store) rfl
theorem Tx.f__law_draw (T : Tx w K mg base) : ∃ fd, FunD K "_law_draw" "_law_draw" (defArgs (top 47)) (defBody (top 47)) (defScope (top 47)) [] [] (He.ga K "_law_draw") fd := T.c.d.def_ 29 (d := d__law_draw) rfl
theorem Tx.f__law_pick (T : Tx w K mg base) : ∃ fd, FunD K "_law_pick" "_law_pick" (defArgs (top 48)) (defBody (top 48)) (defScope (top 48)) [] [] (He.ga K "_law_pick") fd := T.c.d.def_ 30 (d := d__law_pick) rfl
theorem Tx.f__law_shuffled (T : Tx w K mg base) : ∃ fd, FunD K "_law_shuffled" "_law_shuffled" (defArgs (top 49)) (defBody (top 49)) (defScope (top 49)) [] [] (He.ga K "_law_shuffled") fd := T.c.d.def_ 31 (d := d__law_shuffled) rfl
theorem Tx.f__law_ends (T : Tx w K mg base) : ∃ fd, FunD K "_law_ends" "_law_ends" (defArgs (top 50)) (defBody (top 50)) (defScope (top 50)) [] [] (He.ga K "_law_ends") fd := T.c.d.def_ 32 (d := d__law_ends) rfl
theorem Tx.f__law_marks (T : Tx w K mg base) : ∃ fd, FunD K "_law_marks" "_law_marks" (defArgs (top 51)) (defBody (top 51)) (defScope (top 51)) [] [] (He.ga K "_law_marks") fd := T.c.d.def_ 33 (d := d__law_marks) rfl
theorem Tx.f__law_lots_plane (T : Tx w K mg base) : ∃ fd, FunD K "_law_lots_plane" "_law_lots_plane" (defArgs (top 52)) (defBody (top 52)) (defScope (top 52)) [] [] (He.ga K "_law_lots_plane") fd := T.c.d.def_ 34 (d := d__law_lots_plane) rfl
theorem Tx.f__law_stairs (T : Tx w K mg base) : ∃ fd, FunD K "_law_stairs" "_law_stairs" (defArgs (top 53)) (defBody (top 53)) (defScope (top 53)) [] [] (He.ga K "_law_stairs") fd := T.c.d.def_ 35 (d := d__law_stairs) rfl
theorem Tx.f__law_factors (T : Tx w K mg base) : ∃ fd, FunD K "_law_factors" "_law_factors" (defArgs (top 54)) (defBody (top 54)) (defScope (top 54)) [] [] (He.ga K "_law_factors") fd := T.c.d.def_ 36 (d := d__law_factors) rfl
theorem Tx.f__law_led (T : Tx w K mg base) : ∃ fd, FunD K "_law_led" "_law_led" (defArgs (top 55)) (defBody (top 55)) (defScope (top 55)) [] [] (He.ga K "_law_led") fd := T.c.d.def_ 37 (d := d__law_led) rfl
theorem Tx.f__law_kept (T : Tx w K mg base) : ∃ fd, FunD K "_law_kept" "_law_kept" (defArgs (top 56)) (defBody (top 56)) (defScope (top 56)) [] [] (He.ga K "_law_kept") fd := T.c.d.def_ 38 (d := d__law_kept) rfl
theorem Tx.f__law_inverse (T : Tx w K mg base) : ∃ fd, FunD K "_law_inverse" "_law_inverse" (defArgs (top 57)) (defBody (top 57)) (defScope (top 57)) [] [] (He.ga K "_law_inverse") fd := T.c.d.def_ 39 (d := d__law_inverse) rfl
theorem Tx.f__law_less (T : Tx w K mg base) : ∃ fd, FunD K "_law_less" "_law_less" (defArgs (top 58)) (defBody (top 58)) (defScope (top 58)) [] [] (He.ga K "_law_less") fd := T.c.d.def_ 40 (d := d__law_less) rfl
theorem Tx.f__law_plane (T : Tx w K mg base) : ∃ fd, FunD K "_law_plane" "_law_plane" (defArgs (top 59)) (defBody (top 59)) (defScope (top 59)) [] [] (He.ga K "_law_plane") fd := T.c.d.def_ 41 (d := d__law_plane) rfl
theorem Tx.f__law_lead (T : Tx w K mg base) : ∃ fd, FunD K "_law_lead" "_law_lead" (defArgs (top 60)) (defBody (top 60)) (defScope (top 60)) [] [] (He.ga K "_law_lead") fd := T.c.d.def_ 42 (d := d__law_lead) rfl
theorem Tx.f__law_leads (T : Tx w K mg base) : ∃ fd, FunD K "_law_leads" "_law_leads" (defArgs (top 61)) (defBody (top 61)) (defScope (top 61)) [] [] (He.ga K "_law_leads") fd := T.c.d.def_ 43 (d := d__law_leads) rfl
theorem Tx.f__law_column (T : Tx w K mg base) : ∃ fd, FunD K "_law_column" "_law_column" (defArgs (top 62)) (defBody (top 62)) (defScope (top 62)) [] [] (He.ga K "_law_column") fd := T.c.d.def_ 44 (d := d__law_column) rfl
theorem Tx.f__law_turned_plane (T : Tx w K mg base) : ∃ fd, FunD K "_law_turned_plane" "_law_turned_plane" (defArgs (top 63)) (defBody (top 63)) (defScope (top 63)) [] [] (He.ga K "_law_turned_plane") fd := T.c.d.def_ 45 (d := d__law_turned_plane) rfl
theorem Tx.f__law_exchanged_plane (T : Tx w K mg base) : ∃ fd, FunD K "_law_exchanged_plane" "_law_exchanged_plane" (defArgs (top 64)) (defBody (top 64)) (defScope (top 64)) [] [] (He.ga K "_law_exchanged_plane") fd := T.c.d.def_ 46 (d := d__law_exchanged_plane) rfl
theorem Tx.f__law_has (T : Tx w K mg base) : ∃ fd, FunD K "_law_has" "_law_has" (defArgs (top 65)) (defBody (top 65)) (defScope (top 65)) [] [] (He.ga K "_law_has") fd := T.c.d.def_ 47 (d := d__law_has) rfl
theorem Tx.f__law_seen (T : Tx w K mg base) : ∃ fd, FunD K "_law_seen" "_law_seen" (defArgs (top 66)) (defBody (top 66)) (defScope (top 66)) [] [] (He.ga K "_law_seen") fd := T.c.d.def_ 48 (d := d__law_seen) rfl
theorem Tx.f__law_unseen (T : Tx w K mg base) : ∃ fd, FunD K "_law_unseen" "_law_unseen" (defArgs (top 67)) (defBody (top 67)) (defScope (top 67)) [] [] (He.ga K "_law_unseen") fd := T.c.d.def_ 49 (d := d__law_unseen) rfl
theorem Tx.f__law_table (T : Tx w K mg base) : ∃ fd, FunD K "_law_table" "_law_table" (defArgs (top 68)) (defBody (top 68)) (defScope (top 68)) [] [] (He.ga K "_law_table") fd := T.c.d.def_ 50 (d := d__law_table) rfl
theorem Tx.f__law_rules (T : Tx w K mg base) : ∃ fd, FunD K "_law_rules" "_law_rules" (defArgs (top 69)) (defBody (top 69)) (defScope (top 69)) [] [] (He.ga K "_law_rules") fd := T.c.d.def_ 51 (d := d__law_rules) rfl
theorem Tx.f__law_crowd (T : Tx w K mg base) : ∃ fd, FunD K "_law_crowd" "_law_crowd" (defArgs (top 70)) (defBody (top 70)) (defScope (top 70)) [] [] (He.ga K "_law_crowd") fd := T.c.d.def_ 52 (d := d__law_crowd) rfl
theorem Tx.f__law_broken_rule (T : Tx w K mg base) : ∃ fd, FunD K "_law_broken_rule" "_law_broken_rule" (defArgs (top 71)) (defBody (top 71)) (defScope (top 71)) [] [] (He.ga K "_law_broken_rule") fd := T.c.d.def_ 53 (d := d__law_broken_rule) rfl
theorem Tx.f__law_keepers (T : Tx w K mg base) : ∃ fd, FunD K "_law_keepers" "_law_keepers" (defArgs (top 72)) (defBody (top 72)) (defScope (top 72)) [] [] (He.ga K "_law_keepers") fd := T.c.d.def_ 54 (d := d__law_keepers) rfl
theorem Tx.f__law_spoilt (T : Tx w K mg base) : ∃ fd, FunD K "_law_spoilt" "_law_spoilt" (defArgs (top 73)) (defBody (top 73)) (defScope (top 73)) [] [] (He.ga K "_law_spoilt") fd := T.c.d.def_ 55 (d := d__law_spoilt) rfl
theorem Tx.f__law_swaps (T : Tx w K mg base) : ∃ fd, FunD K "_law_swaps" "_law_swaps" (defArgs (top 74)) (defBody (top 74)) (defScope (top 74)) [] [] (He.ga K "_law_swaps") fd := T.c.d.def_ 56 (d := d__law_swaps) rfl
theorem Tx.f__law_words (T : Tx w K mg base) : ∃ fd, FunD K "_law_words" "_law_words" (defArgs (top 75)) (defBody (top 75)) (defScope (top 75)) [] [] (He.ga K "_law_words") fd := T.c.d.def_ 57 (d := d__law_words) rfl
theorem Tx.f__law_mirrors (T : Tx w K mg base) : ∃ fd, FunD K "_law_mirrors" "_law_mirrors" (defArgs (top 76)) (defBody (top 76)) (defScope (top 76)) [] [] (He.ga K "_law_mirrors") fd := T.c.d.def_ 58 (d := d__law_mirrors) rfl
theorem Tx.f__law_flat_drawn (T : Tx w K mg base) : ∃ fd, FunD K "_law_flat_drawn" "_law_flat_drawn" (defArgs (top 77)) (defBody (top 77)) (defScope (top 77)) [] [] (He.ga K "_law_flat_drawn") fd := T.c.d.def_ 59 (d := d__law_flat_drawn) rfl
theorem Tx.f__law_by_mirrors (T : Tx w K mg base) : ∃ fd, FunD K "_law_by_mirrors" "_law_by_mirrors" (defArgs (top 78)) (defBody (top 78)) (defScope (top 78)) [] [] (He.ga K "_law_by_mirrors") fd := T.c.d.def_ 60 (d := d__law_by_mirrors) rfl
theorem Tx.f_law (T : Tx w K mg base) : ∃ fd, FunD K "law" "law" (defArgs (top 79)) (defBody (top 79)) (defScope (top 79)) [] [] (He.ga K "law") fd := T.c.d.def_ 61 (d := d_law) rfl
theorem Tx.ex (T : Tx w K mg base) : tupAt K (He.ga K "WORDS") wordsV = true ∧ tupAt K (He.ga K "SORTS") sortsV = true ∧ strAt K (He.ga K "TURNED_WORDS") kv_TURNED_WORDS = true ∧ strAt K (He.ga K "EXCHANGED_WORDS") kv_EXCHANGED_WORDS = true ∧
    tupsAt K (He.ga K "RULES") kv_RULES = true ∧ tupsAt K (He.ga K "OTHERS") kv_OTHERS = true ∧ ∀ x ∈ (["WORDS", "SORTS", "TURNED_WORDS", "EXCHANGED_WORDS", "RULES", "OTHERS"] : List Str), mg x = some (.ref (He.ga K x)) := by
  have h := T.e
  unfold exB at h
  obtain ⟨_, h⟩ := He.ba h
  obtain ⟨h1, h⟩ := He.ba h
  obtain ⟨h2, h⟩ := He.ba h
  obtain ⟨h3, h⟩ := He.ba h
  obtain ⟨h4, h⟩ := He.ba h
  obtain ⟨h5, h⟩ := He.ba h
  obtain ⟨h6, h7⟩ := He.ba h
  exact ⟨h1, h2, h3, h4, h5, h6, fun x hx => He.glo_ok T.X T.G (List.all_eq_true.mp h7 x hx)⟩
theorem Tx.g_WORDS (T : Tx w K mg base) : mg "WORDS" = some (.ref (He.ga K "WORDS")) := T.ex.2.2.2.2.2.2 _ (by simp)
theorem Tx.g_SORTS (T : Tx w K mg base) : mg "SORTS" = some (.ref (He.ga K "SORTS")) := T.ex.2.2.2.2.2.2 _ (by simp)
theorem Tx.g_TURNED_WORDS (T : Tx w K mg base) : mg "TURNED_WORDS" = some (.ref (He.ga K "TURNED_WORDS")) := T.ex.2.2.2.2.2.2 _ (by simp)
theorem Tx.g_EXCHANGED_WORDS (T : Tx w K mg base) : mg "EXCHANGED_WORDS" = some (.ref (He.ga K "EXCHANGED_WORDS")) := T.ex.2.2.2.2.2.2 _ (by simp)
theorem Tx.g_RULES (T : Tx w K mg base) : mg "RULES" = some (.ref (He.ga K "RULES")) := T.ex.2.2.2.2.2.2 _ (by simp)
theorem Tx.g_OTHERS (T : Tx w K mg base) : mg "OTHERS" = some (.ref (He.ga K "OTHERS")) := T.ex.2.2.2.2.2.2 _ (by simp)
theorem Tx.k_TURNED_WORDS (T : Tx w K mg base) : ∃ es n, KDict K w (He.ga K "TURNED_WORDS") es n := T.c.tab 0 (t := (fun K => He.ga K "TURNED_WORDS", kv_TURNED_WORDS.map (·.1))) rfl
theorem Tx.k_EXCHANGED_WORDS (T : Tx w K mg base) : ∃ es n, KDict K w (He.ga K "EXCHANGED_WORDS") es n := T.c.tab 1 (t := (fun K => He.ga K "EXCHANGED_WORDS", kv_EXCHANGED_WORDS.map (·.1))) rfl
theorem Tx.k_RULES (T : Tx w K mg base) : ∃ es n, KDict K w (He.ga K "RULES") es n := T.c.tab 2 (t := (fun K => He.ga K "RULES", kv_RULES.map (·.1))) rfl
theorem Tx.k_OTHERS (T : Tx w K mg base) : ∃ es n, KDict K w (He.ga K "OTHERS") es n := T.c.tab 3 (t := (fun K => He.ga K "OTHERS", kv_OTHERS.map (·.1))) rfl
theorem Tx.no (T : Tx w K mg base) : noAt K (He.ga K "OTHERS") noOthers = true := by
  have h := T.e
  unfold exB at h
  exact (He.ba h).1
theorem sortsV_eq : sortsV = sortsL.map V.str := rfl
theorem wordsV_eq : wordsV = wordsL.map V.str := rfl
theorem Tx.v_SORTS (T : Tx w K mg base) (H : Hp) : Dp K H (.ref (He.ga K "SORTS")) (.tuple (sortsL.map PyData.str)) := .tup (tupAt_ok T.ex.2.1 H) (by rw [sortsV_eq]; exact Dl.DpAll.ofStrs _)
theorem Tx.v_WORDS (T : Tx w K mg base) (H : Hp) : Dp K H (.ref (He.ga K "WORDS")) (.tuple (wordsL.map PyData.str)) := .tup (tupAt_ok T.ex.1 H) (by rw [wordsV_eq]; exact Dl.DpAll.ofStrs _)
/-- a key of a written dict, by data -/
def KS (K : PySem.W.Frag) (d : Addr) (k : Str) (dz : PyData) : Prop := ∃ u0 v0, PySem.W.nsIn K d k = some (some u0) ∧ RelV v0 u0 ∧ ∀ H, Dp K H v0 dz
theorem strAt_ok {a : Addr} {kvs : List (Str × Str)} (h : strAt K a kvs = true) {k z : Str} (hk : (k, z) ∈ kvs) : KS K a k (.str z) := by
  have h1 := List.all_eq_true.mp h _ hk
  dsimp only at h1
  split at h1
  · rename_i u e
    exact ⟨u, .str z, e, He.relB_ok h1, fun H => .str z⟩
  · cases h1
theorem tupsAt_ok {a : Addr} {kvs : List (Str × List Str)} (h : tupsAt K a kvs = true) {k : Str} {z : List Str} (hk : (k, z) ∈ kvs) : KS K a k (.tuple (z.map PyData.str)) := by
  have h1 := List.all_eq_true.mp h _ hk
  dsimp only at h1
  split at h1
  · rename_i t e
    exact ⟨.ref t, .ref t, e, rfl, fun H => .tup (tupAt_ok h1 H) (Dl.DpAll.ofStrs _)⟩
  · cases h1
theorem noAt_ok {a : Addr} {ks : List Str} (h : noAt K a ks = true) {k : Str} (hk : k ∈ ks) : PySem.W.nsIn K a k = some none := by
  have h1 := List.all_eq_true.mp h _ hk
  split at h1
  · assumption
  · cases h1
end
end Bx


set_option Elab.async false
set_option linter.all false
set_option maxRecDepth 100000
set_option maxHeartbeats 4000000
set_option autoImplicit false
/-! small rules over data -/
namespace Dl
open PySem PySem.Spec PyProof.Rows L2
def rgI (lo : Int) (n : Nat) : List Int := (List.range n).map fun (i : Nat) => lo + (i : Int)
theorem rngD_eq (lo : Int) (n : Nat) : rngD lo n = (rgI lo n).map PyData.int := by simp [rngD, rgI, Function.comp_def]
theorem rgV_eq (a b : Int) : rgV a b = (rgI a (b - a).toNat).map V.int := by simp [rgV, rgI, Function.comp_def]
section
variable {C : Cq} {S S1 S2 S' : Sto} {Γ Γ' : List Sl} {te ta tb : TE} {tl : TA} {wi : TI} {m n : Int} {xs ys : List PyData} {d dz : PyData} {K : PySem.W.Frag}
theorem ei_is (h : EvI C wi Γ S xs S') (e : xs = ys) : EvI C wi Γ S ys S' := e ▸ h
theorem ed_newL {B : Bs} {Hs H : Hp} {vs : List V} {p : Addr} (k : HOk C B S Hs H) (hp : H p = none) (hd : DpAll C.K Hs vs xs) : HOk C B S (upd Hs p (.lst vs)) (upd H p (.lst vs)) ∧ Fr C Hs H (upd Hs p (.lst vs)) (upd H p (.lst vs)) ∧ Dp C.K (upd Hs p (.lst vs)) (.ref p) (.list xs) :=
  ⟨k.laid hp, k.laidFr hp, .lst (SqL.of upd_same) (dpAll_mono (Ex.new (k.freshS hp)) _ _ hd)⟩
theorem ed_lrg1 (h : EvD C te Γ S (.int n) S') (hb : -1000000 ≤ n ∧ n ≤ 1000000) : EvD C (tLstRg (tRg1 te)) Γ S (.list ((rgI 0 n.toNat).map .int)) S' := fun B σ Hs H x k Q q =>
  h B σ Hs H x k _ fun v Hs1 H1 k1 f1 d1 => ⟨n, Dp.toI d1, ⟨by omega, by omega, by omega, by omega, by omega⟩, fun p hp => by
    obtain ⟨a, b, c⟩ := ed_newL (xs := (rgI 0 n.toNat).map .int) (vs := rgV 0 n) k1 hp (by rw [rgV_eq, Int.sub_zero]; exact DpAll.ofInts _)
    exact q _ _ _ a (Fr.trans k1 a f1 b) c⟩
theorem ed_lrg2 (h : EvD C ta Γ S (.int m) S1) (h2 : EvD C tb Γ S1 (.int n) S') (hb : -1000000 ≤ m ∧ m ≤ 1000000 ∧ -1000000 ≤ n ∧ n ≤ 1000000) : EvD C (tLstRg (tRg2 ta tb)) Γ S (.list ((rgI m (n - m).toNat).map .int)) S' := fun B σ Hs H x k Q q =>
  h B σ Hs H x k _ fun v Hs1 H1 k1 f1 d1 => h2 B σ Hs1 H1 (x.fr k f1) k1 _ fun u Hs2 H2 k2 f2 d2 => ⟨m, n, Dp.toI d1, Dp.toI d2, ⟨by omega, by omega, by omega, by omega, by omega⟩, fun p hp => by
    obtain ⟨a, b, c⟩ := ed_newL (xs := (rgI m (n - m).toNat).map .int) (vs := rgV m n) k2 hp (by rw [rgV_eq]; exact DpAll.ofInts _)
    exact q _ _ _ a (Fr.trans k2 a (Fr.trans k1 k2 f1 f2) b) c⟩
theorem ed_ofN (h : EvN C te Γ S xs S') : EvD C te Γ S (.list xs) S' := fun B σ Hs H x k Q q =>
  h B σ Hs H x k _ fun p vs Hs1 H1 k1 f1 hp h1 h2 h3 => by
    have h0 : B.H0 p = none := k.fresh0 hp
    have nb : ¬ C.bad p := fun hb => by
      obtain ⟨_, _, u, z⟩ := k1.bad_no hb
      rw [h0] at z
      cases z
    have k2 : HOk C B S' (upd Hs1 p (.lst vs)) H1 := by
      refine ⟨k1.ex0, k1.exs0.trans (Ex.new h2), fun a u e => ?_, fun a u e => ?_, fun lo e => ?_⟩
      · by_cases hq : a = p
        · subst hq
          rw [upd_same] at e
          cases e
          exact h1
        · rw [upd_ne hq] at e
          exact k1.exs a u e
      · by_cases hq : a = p
        · subst hq
          exact .inr h0
        · rw [upd_ne hq] at e
          exact k1.new a u e
      · obtain ⟨s, s6⟩ := k1.sto lo e
        have n1 : lo.d ≠ p := fun z => nb ⟨lo, e, .inl z.symm⟩
        have n2 : lo.l ≠ p := fun z => nb ⟨lo, e, .inr z.symm⟩
        refine ⟨⟨?_, ?_, s.d, s.l⟩, s6⟩
        · rw [upd_ne n1]
          exact s.nd
        · rw [upd_ne n2]
          exact s.nl
    refine q _ _ H1 k2 ⟨f1.exs.trans (Ex.new h2), f1.ex, fun a u e => ?_⟩ (.lst (SqL.of upd_same) (dpAll_mono (Ex.new h2) _ _ h3))
    by_cases hq : a = p
    · subst hq
      exact .inr hp
    · rw [upd_ne hq] at e
      exact f1.new a u e
theorem dpAll_app {H : Hp} {vs : List V} (h : DpAll K H vs xs) : ∀ n : Nat, DpAll K H (List.replicate n vs).flatten (List.replicate n xs).flatten
  | 0 => .nil
  | n + 1 => by
    rw [List.replicate_succ, List.replicate_succ, List.flatten_cons, List.flatten_cons]
    exact DpAll.append h (dpAll_app h n)
/-- [..] * n -/
theorem en_rep (ha : EvA C tl Γ S xs S1) (hb : EvD C tb Γ S1 (.int n) S2) (hl : xs.length ≤ 1000) (hn : -1000 ≤ n ∧ n ≤ 1000) : EvN C (tOp rRep (tLst tl) tb) Γ S (List.replicate n.toNat xs).flatten S2 := fun B σ Hs H x k Q q =>
  (en_lst ha (sz (by omega))) B σ Hs H x k _ fun p vs Hs1 H1 k1 f1 hp h1 h2 h3 => hb B σ Hs1 H1 (x.fr k f1) k1 _ fun v Hs2 H2 k2 f2 d2 => by
    have h0 : B.H0 p = none := k.fresh0 hp
    have nb : ¬ C.bad p := fun hb => by
      obtain ⟨_, _, u, z⟩ := k1.bad_no hb
      rw [h0] at z
      cases z
    have hl2 := DpAll.length h3
    have hm : vs.length * n.toNat ≤ 1000 * 1000 := Nat.mul_le_mul (by omega) (by omega)
    refine ⟨p, n, vs, rfl, Dp.toI d2, f2.ex p _ nb h1, by omega, by omega, sz (by omega), fun p2 hp2 => ?_⟩
    have hp20 : H p2 = none := by
      cases z : H p2 with
      | none => rfl
      | some u =>
        by_cases hb : C.bad p2
        · obtain ⟨_, ⟨u', z'⟩, _⟩ := k2.bad_no hb
          rw [hp2] at z'
          cases z'
        · rw [f2.ex p2 u hb (f1.ex p2 u hb z)] at hp2
          cases hp2
    exact q p2 _ Hs2 _ (k2.laidO hp2) (Fr.trans k2 (k2.laidO hp2) (Fr.trans k1 k2 f1 f2) (k2.laidOFr hp2)) hp20 upd_same (k2.freshS hp2) (dpAll_app (dpAll_mono f2.exs _ _ h3) _)
/-- list(x), a new one -/
theorem en_listC {r : List V → Hp → VK → Prop} (hr : r = fun vs H Q => ∃ p ys, vs = [.ref p] ∧ (SqL C.K H p ys ∨ SqT C.K H p ys) ∧ ∀ l, H l = none → Q (.ref l) (upd H l (.lst ys))) {c : Bool} (ha : EvA C tl Γ S [sqD c xs] S1) : EvN C (tCB r tl) Γ S xs S1 := fun B σ Hs H x k Q q =>
  ha B σ Hs H x k _ fun vs Hs1 H1 k1 f1 d1 => by
    subst hr
    cases d1 with
    | cons d1 d2 =>
      cases d2
      obtain ⟨a, ws, rfl, hs, hd⟩ := Dp.toC d1
      refine ⟨a, ws, rfl, ?_, fun p hp => ?_⟩
      · cases c with
        | true => exact .inl (sqL_mono k1.exs hs)
        | false => exact .inr (sqT_mono k1.exs hs)
      · have hp0 : H p = none := by
          cases z : H p with
          | none => rfl
          | some u =>
            by_cases hb : C.bad p
            · obtain ⟨_, ⟨u', z'⟩, _⟩ := k1.bad_no hb
              rw [hp] at z'
              cases z'
            · rw [f1.ex p u hb z] at hp
              cases hp
        exact q p _ Hs1 _ (k1.laidO hp) (Fr.trans k1 (k1.laidO hp) f1 (k1.laidOFr hp)) hp0 upd_same (k1.freshS hp) hd
theorem rd_repT (h1 : xs ≠ []) (h2 : xs.length ≤ 1000) (hn : -1000 ≤ n ∧ n ≤ 1000) : RD K (Ml.rRepA K) (.tuple xs) (.int n) (.tuple (List.replicate n.toNat xs).flatten) := fun Hs H x y Q e hx hy q => by
  obtain ⟨a, vs, rfl, hs, hd⟩ := Dp.toT hx
  have hl := DpAll.length hd
  refine ⟨a, n, vs, rfl, Dp.toI hy, sqT_mono e hs, fun z => ?_, by omega, by omega, by omega, fun e1 => ?_, fun e1 p hp => q _ _ _ (.new p _ hp) (.tup (SqT.of upd_same) (dpAll_mono (Ex.new (freshS e hp)) _ _ (dpAll_app hd _)))⟩
  · subst z
    exact h1 (List.eq_nil_of_length_eq_zero hl.symm)
  · subst e1
    refine q _ _ _ .same ?_
    have ex : (List.replicate (1 : Int).toNat xs).flatten = xs := by simp
    rw [ex]
    exact .tup hs hd
/-! ### texts -/
theorem rd_catStr {a b : Str} (h : a.length + b.length ≤ 1000000) : RD K (fun x y H Q => ∃ i j, x = .str i ∧ y = .str j ∧ i.length + j.length ≤ sizeLine ∧ Q (.str (i ++ j)) H) (.str a) (.str b) (.str (a ++ b)) := fun Hs H x y Q e hx hy q =>
  ⟨a, b, Dp.toS hx, Dp.toS hy, sz h, q _ _ _ .same (.str _)⟩
theorem rd_inStr {a b : Str} : RD K (fun x y H Q => ∃ i j, x = .str i ∧ y = .str j ∧ Q (.bl (!(Builtin.Str.occurrences j i 0 j.length 1).isEmpty)) H) (.str a) (.str b) (.bool (!(Builtin.Str.occurrences b a 0 b.length 1).isEmpty)) := fun Hs H x y Q e hx hy q =>
  ⟨a, b, Dp.toS hx, Dp.toS hy, q _ _ _ .same (.bl _)⟩
theorem ed_isi {a : Str} (h : EvD C ta Γ S (.str a) S') : EvD C (tCB (rIsi C.K) (tCons ta (tCons (tC (.ty "str")) tNil))) Γ S (.bool true) S' := fun B σ Hs H x k Q q =>
  h B σ Hs H x k _ fun v Hs1 H1 k1 f1 d1 => by
    have e := Dp.toS d1
    subst e
    exact ⟨_, _, .type "str", .type "str", true, rfl, .ty "str", .base (.str a), by kernel_rfl, q _ _ _ k1 f1 (.bl _)⟩
/-- a new list of texts -/
theorem nst {B : Bs} {Hs H H0 Hs0 : Hp} {ws : List Str} {Q : VK} (k : HOk C B S Hs H) (k0 : HOk C B S' Hs0 H0) (f : Fr C Hs0 H0 Hs H) (q : ∀ v Hs' H', HOk C B S Hs' H' → Fr C Hs0 H0 Hs' H' → Dp C.K Hs' v (.list (ws.map .str)) → Q v H') : rNewStrs ws H Q := fun p hp => by
  obtain ⟨a, b, c⟩ := ed_newL (xs := ws.map .str) (vs := ws.map V.str) k hp (DpAll.ofStrs _)
  exact q _ _ _ a (Fr.trans k a f b) c
theorem ed_split {a b : Str} (h : EvD C ta Γ S (.str a) S1) (h2 : EvD C tb Γ S1 (.str b) S') (hb : (b.length == 0) = false) (hl : a.length ≤ 1000) :
    EvD C (tM1 (fun x xs H Q => ∃ a b, x = .str a ∧ xs = [.str b] ∧ (b.length == 0) = false ∧ a.length + 2 ≤ sizeLine ∧ rNewStrs (Txt.split a b) H Q) ta tb) Γ S (.list ((Txt.split a b).map .str)) S' := fun B σ Hs H x k Q q =>
  h B σ Hs H x k _ fun v Hs1 H1 k1 f1 d1 => ⟨⟨a, Dp.toS d1⟩, h2 B σ Hs1 H1 (x.fr k f1) k1 _ fun u Hs2 H2 k2 f2 d2 => ⟨a, b, Dp.toS d1, by rw [Dp.toS d2], hb, sz (by omega), nst k2 k (Fr.trans k1 k2 f1 f2) q⟩⟩
theorem ed_words {a : Str} (h : EvD C ta Γ S (.str a) S') (hl : a.length ≤ 1000) :
    EvD C (tM0 (fun x xs H Q => ∃ a, x = .str a ∧ xs = [] ∧ a.length + 2 ≤ sizeLine ∧ rNewStrs (Txt.words a) H Q) ta) Γ S (.list ((Txt.words a).map .str)) S' := fun B σ Hs H x k Q q =>
  h B σ Hs H x k _ fun v Hs1 H1 k1 f1 d1 => ⟨⟨a, Dp.toS d1⟩, a, Dp.toS d1, rfl, sz (by omega), nst k1 k f1 q⟩
theorem ed_join {a : Str} {ws : List Str} (h : EvD C ta Γ S (.str a) S1) (h2 : EvD C tb Γ S1 (.list (ws.map .str)) S') (hl : (ws.map (·.length)).sum + ws.length * a.length ≤ 100000) :
    EvD C (tM1 (fun x xs H Q => ∃ a p, ∃ ys : List Str, x = .str a ∧ xs = [.ref p] ∧ (SqL C.K H p (ys.map V.str) ∨ SqT C.K H p (ys.map V.str)) ∧
      (ys.map (·.length)).sum + ys.length * a.length ≤ 16777216 ∧ Q (.str (Txt.join a ys)) H) ta tb) Γ S (.str (Txt.join a ws)) S' := fun B σ Hs H x k Q q =>
  h B σ Hs H x k _ fun v Hs1 H1 k1 f1 d1 => ⟨⟨a, Dp.toS d1⟩, h2 B σ Hs1 H1 (x.fr k f1) k1 _ fun u Hs2 H2 k2 f2 d2 => by
    obtain ⟨p, vs, rfl, hs, hd⟩ := Dp.toL d2
    have e := DpAll.strs hd
    subst e
    exact ⟨a, p, ws, Dp.toS d1, rfl, .inl (sqL_mono k2.exs hs), by omega, q _ _ _ k2 (Fr.trans k1 k2 f1 f2) (.str _)⟩⟩
/-! ### written dicts -/
def kix (K : PySem.W.Frag) (d : Addr) : R2 := fun x y H Q => ∃ (z : Str) (u0 : Value) (v0 : V), x = .ref d ∧ y = .str z ∧ PySem.W.nsIn K d z = some (some u0) ∧ RelV v0 u0 ∧ Q v0 H
theorem ed_kix {a : Addr} {z : Str} (hk : Bx.KS C.K a z dz) (h : EvD C tb Γ S (.str z) S') : EvD C (tOp (kix C.K a) (tC (.ref a)) tb) Γ S dz S' := fun B σ Hs H x k Q q =>
  h B σ Hs H x k _ fun v Hs1 H1 k1 f1 d1 => by
    obtain ⟨u0, v0, e1, e2, e3⟩ := hk
    exact ⟨z, u0, v0, rfl, Dp.toS d1, e1, e2, q _ _ _ k1 f1 (e3 _)⟩
theorem ed_kget {a : Addr} {z : Str} (h : EvD C tb Γ S (.str z) S1) (h2 : EvD C te Γ S1 d S') (hk : Bx.KS C.K a z dz ∨ (PySem.W.nsIn C.K a z = some none ∧ dz = d)) : EvD C (Ml.tKGet C.K a (tC (.ref a)) tb te) Γ S dz S' := fun B σ Hs H x k Q q =>
  ⟨rfl, h B σ Hs H x k _ fun v Hs1 H1 k1 f1 d1 => h2 B σ Hs1 H1 (x.fr k f1) k1 _ fun u Hs2 H2 k2 f2 d2 => by
    rcases hk with ⟨u0, v0, e1, e2, e3⟩ | ⟨e1, rfl⟩
    · exact ⟨z, some u0, Dp.toS d1, e1, (fun z => nomatch z), fun u1 e4 => by
        cases e4
        exact ⟨v0, e2, q _ _ _ k2 (Fr.trans k1 k2 f1 f2) (e3 _)⟩⟩
    · exact ⟨z, none, Dp.toS d1, e1, fun _ => q _ _ _ k2 (Fr.trans k1 k2 f1 f2) d2, fun u1 e4 => nomatch e4⟩⟩
/-! ### sorted -/
def leS (a b : Str) : Bool := !Spec.ltCps b.cps.toList a.cps.toList
theorem leS_iff {a b : Str} : leS a b = true ↔ a.cps.toList ≤ b.cps.toList := by
  unfold leS
  rw [ltCps_eq, Bool.not_eq_true', decide_eq_false_iff_not]
  exact ⟨fun h => List.not_lt.mp h, fun h => List.not_lt.mpr h⟩
def insS (a : Str) : List Str → List Str
  | [] => [a]
  | b :: l => if leS a b = true then a :: b :: l else b :: insS a l
def sortF (ws : List Str) : List Str := ws.foldr insS []
theorem insS_perm (a : Str) : ∀ l : List Str, (insS a l).Perm (a :: l)
  | [] => List.Perm.refl _
  | b :: l => by
    unfold insS
    split
    · exact List.Perm.refl _
    · exact ((insS_perm a l).cons b).trans (List.Perm.swap a b l)
theorem insS_pw (a : Str) : ∀ l : List Str, l.Pairwise (fun a b => leS a b = true) → (insS a l).Pairwise (fun a b => leS a b = true)
  | [], _ => List.pairwise_singleton _ _
  | b :: l, h => by
    unfold insS
    obtain ⟨h1, h2⟩ := List.pairwise_cons.mp h
    split
    · rename_i q
      refine List.pairwise_cons.mpr ⟨fun y hy => ?_, h⟩
      rcases List.mem_cons.mp hy with rfl | hy
      · exact q
      · exact leS_iff.mpr (List.le_trans (leS_iff.mp q) (leS_iff.mp (h1 y hy)))
    · rename_i q
      refine List.pairwise_cons.mpr ⟨fun y hy => ?_, insS_pw a l h2⟩
      rcases List.mem_cons.mp ((insS_perm a l).mem_iff.mp hy) with rfl | hy
      · have q' : ¬ (y.cps.toList ≤ b.cps.toList) := fun z => q (leS_iff.mpr z)
        exact leS_iff.mpr ((List.le_total b.cps.toList y.cps.toList).resolve_right q')
      · exact h1 y hy
theorem sortF_pw : ∀ ws : List Str, (sortF ws).Pairwise (fun a b => leS a b = true)
  | [] => .nil
  | a :: ws => insS_pw a _ (sortF_pw ws)
theorem sortF_perm : ∀ ws : List Str, (sortF ws).Perm ws
  | [] => List.Perm.refl _
  | a :: ws => (insS_perm a _).trans ((sortF_perm ws).cons a)
theorem rising_pw : ∀ (p : Str) (l : List Str), risingS p l = true → (p :: l).Pairwise (fun a b => leS a b = true)
  | p, [], _ => List.pairwise_singleton _ _
  | p, x :: r, h => by
    have h' : (!Spec.ltCps x.cps.toList p.cps.toList && risingS x r) = true := h
    rw [Bool.and_eq_true] at h'
    have ih := rising_pw x r h'.2
    have h1 : leS p x = true := h'.1
    refine List.pairwise_cons.mpr ⟨fun y hy => ?_, ih⟩
    rcases List.mem_cons.mp hy with rfl | hy
    · exact h1
    · exact leS_iff.mpr (List.le_trans (leS_iff.mp h1) (leS_iff.mp ((List.pairwise_cons.mp ih).1 y hy)))
theorem sorted_pw : ∀ (l : List Str), sortedS l = true → l.Pairwise (fun a b => leS a b = true)
  | [], _ => .nil
  | x :: r, h => rising_pw x r h
theorem sortF_eq {ys xs : List Str} (h : ys.Perm xs) (hs : sortedS ys = true) : ys = sortF xs := by
  refine List.Perm.eq_of_pairwise (le := fun a b => leS a b = true) ?_ (sorted_pw ys hs) (sortF_pw xs) (h.trans (sortF_perm xs).symm)
  intro a b _ _ h1 h2
  have := List.le_antisymm (leS_iff.mp h1) (leS_iff.mp h2)
  exact Str.ext' (Array.toList_inj.mp this)
theorem ed_sortL {ws : List Str} (h : EvA C tl Γ S [.list (ws.map .str)] S') (hl : ws.length < 64) : EvD C (tCB (rSortedS C.K) tl) Γ S (.list ((sortF ws).map .str)) S' := fun B σ Hs H x k Q q =>
  h B σ Hs H x k _ fun vs Hs1 H1 k1 f1 d1 => by
    cases d1 with
    | cons d1 d2 =>
      cases d2
      obtain ⟨a, xs, rfl, hs, hd⟩ := Dp.toL d1
      have e := DpAll.strs hd
      subst e
      refine ⟨a, ws, rfl, sqL_mono k1.exs hs, hl, fun ys p hp hso hf => ?_⟩
      rw [sortF_eq hp hso]
      obtain ⟨a, b, c⟩ := ed_newL (xs := (sortF ws).map .str) (vs := (sortF ws).map V.str) k1 hf (DpAll.ofStrs _)
      exact q _ _ _ a (Fr.trans k1 a f1 b) c
theorem ed_sortT {ws : List Str} (h : EvA C tl Γ S [.tuple (ws.map .str)] S') (hl : ws.length < 64) : EvD C (tCB (Ml.rSortedT C.K) tl) Γ S (.list ((sortF ws).map .str)) S' := fun B σ Hs H x k Q q =>
  h B σ Hs H x k _ fun vs Hs1 H1 k1 f1 d1 => by
    cases d1 with
    | cons d1 d2 =>
      cases d2
      obtain ⟨a, xs, rfl, hs, hd⟩ := Dp.toT d1
      have e := DpAll.strs hd
      subst e
      refine ⟨a, ws, rfl, sqT_mono k1.exs hs, hl, fun ys p hp hso hf => ?_⟩
      rw [sortF_eq hp hso]
      obtain ⟨a, b, c⟩ := ed_newL (xs := (sortF ws).map .str) (vs := (sortF ws).map V.str) k1 hf (DpAll.ofStrs _)
      exact q _ _ _ a (Fr.trans k1 a f1 b) c
/-! ### list.index of texts -/
theorem eqV_str (a b : Str) : eqV (.str a) (.str b) = decide (a = b) := by
  by_cases h : a = b
  · subst h
    simp [eqV]
  · have h2 : (a == b) = false := beq_eq_false_iff_ne.mpr h
    simp [eqV, h2, h]
theorem ed_index {ws : List Str} {a : Str} {j : Nat} (h : EvD C ta Γ S (.list (ws.map .str)) S1) (h2 : EvA C tl Γ S1 [.str a] S') (hj : ws[j]? = some a) (hno : ∀ m z, m < j → ws[m]? = some z → z ≠ a) :
    EvD C (tBM C.K "list" (rIndex C.K) ta tl) Γ S (.int (j : Int)) S' := fun B σ Hs H x k Q q =>
  h B σ Hs H x k _ fun v Hs1 H1 k1 f1 d1 => by
    obtain ⟨p, vs, rfl, hs, hd⟩ := Dp.toL d1
    have e := DpAll.strs hd
    subst e
    refine ⟨.inl ⟨rfl, _, sqL_mono k1.exs hs⟩, h2 B σ Hs1 H1 (x.fr k f1) k1 _ fun us Hs2 H2 k2 f2 d2 => ?_⟩
    have e := DpAll.strs (ns := [a]) d2
    subst e
    refine ⟨p, _, .str a, j, .str a, rfl, rfl, sqL_mono (f2.exs.trans k2.exs) hs, rfl, flat_strs ws, by rw [List.getElem?_map, hj] <;> rfl, by rw [eqV_str] <;> simp, fun m z' hm hz => ?_, q _ _ _ k2 (Fr.trans k1 k2 f1 f2) (.int _)⟩
    rw [List.getElem?_map] at hz
    cases hw : ws[m]? with
    | none =>
      rw [hw] at hz
      cases hz
    | some w =>
      rw [hw] at hz
      cases hz
      rw [eqV_str, decide_eq_false (hno m w hm hw)]
/-! ### unpacking a list -/
theorem gt_unl {gs : TGs} {ds : List PyData} {js : List Nat} {Γ1 : List Sl} {n : Nat} (hs : GTs C gs ds js Γ Γ1) (hn : ds.length = n) : GT C (gUnl C.K n gs) (.list ds) js Γ Γ1 := fun B S v σ Hs H x k hd Q q => by
  obtain ⟨a, vs, rfl, hsq, hda⟩ := Dp.toL hd
  exact ⟨a, vs, rfl, sqL_mono k.exs hsq, by rw [DpAll.length hda, hn], hs B S vs σ Hs H x k hda Q q⟩
end
end Dl


set_option Elab.async false
set_option linter.all false
set_option maxRecDepth 100000
set_option maxHeartbeats 4000000
set_option autoImplicit false
/-! the law's store -/
namespace Dl
open PySem PySem.Spec PyProof.Rows L2
section
variable {C : Cq} {B : Bs} {E : DE} {Γ Γ' : List Sl} {S S' S1 S2 : Sto} {t u : TS} {te ta tb : TE} {d : PyData} {Hs H Hs' H' : Hp} {σ : L2.St} {lo : Lo} {i j : Nat} {n : Int}
theorem SlsOk.setG (x : SlsOk C B Hs H σ Γ) (i : Nat) {s : Option V} {g : Sl} (h : SlOk C B Hs H s g) (ho : ∀ xs, g ≠ .own xs) : SlsOk C B Hs H (σ.set i s) (Γ.set i g) := by
  have y := x.setU i s
  refine ⟨by rw [List.length_set, List.length_set, x.len], fun j g' e => ?_, fun j k xs ys e1 e2 ne => ?_⟩
  · by_cases hj : i = j
    · subst hj
      have hl : i < Γ.length := by
        have := (List.getElem?_eq_some_iff.mp e).1
        simpa using this
      rw [List.getElem?_set_self hl] at e
      cases e
      exact ⟨s, List.getElem?_set_self (by rw [x.len]; exact hl), h⟩
    · rw [List.getElem?_set_ne hj] at e
      refine y.at_ j g' (by rw [List.getElem?_set_ne hj]; exact e)
  · have nn : ∀ (m : Nat) (zs : List PyData), (Γ.set i g)[m]? = some (.own zs) → i ≠ m := by
      rintro m zs e rfl
      rw [List.getElem?_set] at e
      simp only [if_true] at e
      split at e
      · exact ho zs (Option.some.inj e)
      · cases e
    have ji := nn j xs e1
    have ki := nn k ys e2
    refine y.apart j k xs ys ?_ ?_ ne
    · rw [List.getElem?_set_ne ji] at e1 ⊢
      exact e1
    · rw [List.getElem?_set_ne ki] at e2 ⊢
      exact e2
theorem sto_slot (x : SlsOk C B Hs H σ Γ) (hl : C.lo = some lo) (hi : Γ[i]? = some .sto) : σ[i]? = some (some (.ref lo.d)) := by
  obtain ⟨s, q1, lo', el, rfl⟩ := x.at_ i _ hi
  rw [hl] at el
  cases el
  exact q1
theorem far_slot (x : SlsOk C B Hs H σ Γ) (hl : C.lo = some lo) (hi : Γ[i]? = some .far) : σ[i]? = some (some (.ref lo.l)) := by
  obtain ⟨s, q1, lo', el, rfl⟩ := x.at_ i _ hi
  rw [hl] at el
  cases el
  exact q1
theorem ed_stoTurn (hl : C.lo = some lo) (hi : Γ[i]? = some .sto) : EvD C (tDGet (tVar i) (tC (.str "turn"))) Γ S (.int S.turn) S := fun B σ Hs H x k Q q =>
  ⟨.ref lo.d, sto_slot x hl hi, lo.d, .int S.turn, rfl, .inl ⟨stoKvs lo S, .inr "turn", .inl (k.sto lo hl).1.d, rfl, rfl⟩, q _ Hs H k Fr.refl (.int _)⟩
theorem ed_stoTotal (hl : C.lo = some lo) (hi : Γ[i]? = some .sto) : EvD C (tDGet (tVar i) (tC (.str "total"))) Γ S (.int lo.total) S := fun B σ Hs H x k Q q =>
  ⟨.ref lo.d, sto_slot x hl hi, lo.d, .int lo.total, rfl, .inl ⟨stoKvs lo S, .inr "total", .inl (k.sto lo hl).1.d, rfl, rfl⟩, q _ Hs H k Fr.refl (.int _)⟩
theorem ed_stoNear (hl : C.lo = some lo) (hi : Γ[i]? = some .sto) : EvD C (tDGet (tVar i) (tC (.str "near"))) Γ S (.list (lo.near.map .int)) S := fun B σ Hs H x k Q q =>
  ⟨.ref lo.d, sto_slot x hl hi, lo.d, .ref lo.n, rfl, .inl ⟨stoKvs lo S, .inr "near", .inl (k.sto lo hl).1.d, rfl, rfl⟩, q _ Hs H k Fr.refl (dp_mono k.exs0 _ _ (k.sto lo hl).2.1)⟩
theorem gs_far (hl : C.lo = some lo) (hi : Γ[i]? = some .sto) (e : E.nx (Γ.set j .far) S) : GS C (tAsg (tDGet (tVar i) (tC (.str "far"))) (gName j)) E Γ S := fun B D l σ Hs H x k =>
  ⟨.ref lo.d, sto_slot x hl hi, lo.d, .ref lo.l, rfl, .inl ⟨stoKvs lo S, .inr "far", .inl (k.sto lo hl).1.d, rfl, rfl⟩, l.1 _ H _ S Hs e (x.setG j ⟨lo, hl, rfl⟩ (fun _ z => nomatch z)) k⟩
theorem et_farNe (hl : C.lo = some lo) (hi : Γ[i]? = some .far) : EvT C (tTest (tOp (rNeD C.K) (tVar i) (tLst tNil))) Γ S (!S.far.isEmpty) S := fun B σ Hs H x k Q q => by
  refine ⟨.ref lo.l, far_slot x hl hi, Nat.zero_le _, fun p hp => ?_⟩
  have k2 := k.laid (o := .lst []) hp
  refine ⟨.list (S.far.map .int), .list [], ?_, .lst (SqL.of upd_same) .nil, ?_, by decide +kernel, !S.far.isEmpty, ?_⟩
  · refine .lst (SqL.of (k2.sto lo hl).1.l) (DpAll.ofInts _)
  · unfold SeqAt.shaped
    have h1 : ∀ r : List Int, PyData.canLayAll0 (r.map PyData.int) = true := fun r => by
      induction r with
      | nil => rfl
      | cons a r ih => simp [PyData.canLayAll0, PyData.canLay0, ih]
    have h2 : ∀ r : List Int, PyData.depthAll (r.map PyData.int) = 0 := fun r => by
      induction r with
      | nil => rfl
      | cons a r ih => simp [PyData.depthAll, PyData.depth, ih]
    simp [PyData.canLay0, PyData.depth, h1, h2]
  · refine ⟨?_, q _ _ k2 (k.laidFr hp)⟩
    cases S.far <;> simp [PyData.eqv, PyData.eqvAll]
/-- a write to the store's far list -/
theorem HOk.farW (k : HOk C B S Hs H) (hl : C.lo = some lo) (ns : List Int) : HOk C B { S with far := ns } Hs (upd H lo.l (.lst (ns.map .int))) := by
  obtain ⟨s, s6⟩ := k.sto lo hl
  have hb : C.bad lo.l := ⟨lo, hl, .inr rfl⟩
  refine ⟨fun a u hbad e => ?_, k.exs0, fun a u e => ?_, k.new, fun lo' e => ?_⟩
  · have ne : a ≠ lo.l := fun z => hbad (z ▸ hb)
    rw [upd_ne ne]
    exact k.ex0 a u hbad e
  · have ne : a ≠ lo.l := ne_of_none e s.nl
    rw [upd_ne ne]
    exact k.exs a u e
  · rw [hl] at e
    cases e
    refine ⟨⟨s.nd, s.nl, ?_, upd_same⟩, s6⟩
    have ne : lo.d ≠ lo.l := fun z => by
      have := s.d
      rw [z, s.l] at this
      cases this
    rw [upd_ne ne]
    exact s.d
theorem HOk.turnW (k : HOk C B S Hs H) (hl : C.lo = some lo) (n : Int) : HOk C B { S with turn := n } Hs (upd H lo.d (.dK (stoKvs lo { S with turn := n }))) := by
  obtain ⟨s, s6⟩ := k.sto lo hl
  have hb : C.bad lo.d := ⟨lo, hl, .inl rfl⟩
  refine ⟨fun a u hbad e => ?_, k.exs0, fun a u e => ?_, k.new, fun lo' e => ?_⟩
  · have ne : a ≠ lo.d := fun z => hbad (z ▸ hb)
    rw [upd_ne ne]
    exact k.ex0 a u hbad e
  · have ne : a ≠ lo.d := ne_of_none e s.nd
    rw [upd_ne ne]
    exact k.exs a u e
  · rw [hl] at e
    cases e
    refine ⟨⟨s.nd, s.nl, upd_same, ?_⟩, s6⟩
    have ne : lo.l ≠ lo.d := fun z => by
      have := s.d
      rw [← z, s.l] at this
      cases this
    rw [upd_ne ne]
    exact s.l
theorem badFr {a : Addr} {o : HO} (k : HOk C B S Hs H) (hb : C.bad a) : Fr C Hs H Hs (upd H a o) :=
  ⟨Ex.refl _, fun b u nb e => by
    have ne : b ≠ a := fun z => nb (z ▸ hb)
    rw [upd_ne ne]
    exact e, fun b u e => .inl ⟨u, e⟩⟩
theorem gs_farPop {c : Int} {rest : List Int} (hl : C.lo = some lo) (hi : Γ[i]? = some .far) (ec : S.far = rest ++ [c]) (e : E.nx (Γ.set j (.dat (.int c))) { S with far := rest }) :
    GS C (tAsg (tBM0 C.K "list" rPop (tVar i)) (gName j)) E Γ S := fun B D l σ Hs H x k => by
  have sl := (k.sto lo hl).1.l
  have k2 := k.farW hl rest
  have x2 := x.fr k (badFr (o := .lst (rest.map .int)) k ⟨lo, hl, .inr rfl⟩)
  refine ⟨.ref lo.l, far_slot x hl hi, .inl ⟨rfl, _, .inl (.inl sl)⟩, lo.l, _, .int c, rfl, rfl, sl, ?_, ?_⟩
  · rw [ec]
    simp
  · rw [ec, List.map_append, List.map_singleton, List.dropLast_concat]
    exact l.1 _ _ _ _ Hs e (x2.setD j (.int c)) k2
theorem gs_farApp (hl : C.lo = some lo) (hi : Γ[i]? = some .far) (h : EvD C te Γ S (.int n) S) (hs : S.far.length < 1000000) (e : E.nx Γ { S with far := S.far ++ [n] }) :
    GS C (tDrop (tBM C.K "list" rAppend (tVar i) (tCons te tNil))) E Γ S := fun B D l σ Hs H x k => by
  have sl := (k.sto lo hl).1.l
  refine ⟨.ref lo.l, far_slot x hl hi, .inl ⟨rfl, _, .inl (.inl sl)⟩, h B σ Hs H x k _ fun v Hs1 H1 k1 f1 d1 => ?_⟩
  have sl1 := (k1.sto lo hl).1.l
  have k2 := k1.farW hl (S.far ++ [n])
  have x2 := (x.fr k f1).fr k1 (badFr (o := .lst ((S.far ++ [n]).map .int)) k1 ⟨lo, hl, .inr rfl⟩)
  have zs : sizeLine = 16777216 := sizeLine_eq
  refine ⟨lo.l, _, v, rfl, rfl, sl1, by rw [List.length_map]; omega, ?_⟩
  rw [Dp.toI d1]
  have em : (S.far ++ [n]).map V.int = S.far.map V.int ++ [V.int n] := by rw [List.map_append] <;> rfl
  rw [em] at k2 x2
  exact l.1 _ _ _ _ Hs1 e x2 k2
theorem gs_turn (hl : C.lo = some lo) (hi : Γ[i]? = some .sto) (h : EvD C te Γ S (.int n) S) (e : E.nx Γ { S with turn := n }) :
    GS C (tAsg te (gSub (tVar i) (tC (.str "turn")) rSetD)) E Γ S := fun B D l σ Hs H x k =>
  h B σ Hs H x k _ fun v Hs1 H1 k1 f1 d1 => by
    have x1 := x.fr k f1
    have k2 := k1.turnW hl n
    have x2 := x1.fr k1 (badFr (o := .dK (stoKvs lo { S with turn := n })) k1 ⟨lo, hl, .inl rfl⟩)
    refine ⟨.ref lo.d, sto_slot x1 hl hi, lo.d, _, rfl, .inl ⟨stoKvs lo S, .inr "turn", (k1.sto lo hl).1.d, rfl, ?_, rfl⟩, ?_⟩
    · have zs : sizeLine = 16777216 := sizeLine_eq
      show 4 < sizeLine
      omega
    · rw [Dp.toI d1]
      exact l.1 _ _ _ _ Hs1 e x2 k2
end
end Dl


set_option Elab.async false
set_option linter.all false
set_option maxRecDepth 100000
set_option maxHeartbeats 4000000
set_option autoImplicit false
/-! dicts of texts, made and read; deep membership -/
namespace Dl
open PySem PySem.Spec PyProof.Rows L2
section
variable {C : Cq} {B : Bs} {E : DE} {Γ Γ' : List Sl} {S S' S1 S2 : Sto} {t u : TS} {te ta tb tk tv : TE} {d : PyData} {Hs H Hs' H' : Hp} {σ : L2.St} {lo : Lo} {i j : Nat} {n : Int} {K : PySem.W.Frag}
theorem rd_inD {ds : List PyData} (h1 : SeqAt.shaped d = true) (h2 : SeqAt.shaped (.list ds) = true) : RD K (rInD K) d (.list ds) (.bool (ds.any fun z => PyData.eqv z d)) := fun Hs H x y Q e hx hy q =>
  ⟨d, ds, dp_mono e _ _ hx, dp_mono e _ _ hy, h1, h2, q _ _ _ .same (.bl _)⟩
theorem rd_notInD {ds : List PyData} (h1 : SeqAt.shaped d = true) (h2 : SeqAt.shaped (.list ds) = true) : RD K (rNotInD K) d (.list ds) (.bool (!ds.any fun z => PyData.eqv z d)) := fun Hs H x y Q e hx hy q =>
  ⟨d, ds, dp_mono e _ _ hx, dp_mono e _ _ hy, h1, h2, q _ _ _ .same (.bl _)⟩
def pairV (kv : Str × Str) : Key × V := (.inr kv.1, .str kv.2)
def EvP (C : Cq) (trs : List (TE × TE)) (Γ : List Sl) (S : Sto) (kvs : List (Str × Str)) (S' : Sto) : Prop :=
  ∀ B σ Hs H, SlsOk C B Hs H σ Γ → HOk C B S Hs H → ∀ Q : List (V × V) → Hp → Prop, (∀ Hs' H', HOk C B S' Hs' H' → Fr C Hs H Hs' H' → Q (kvs.map fun kv => (V.str kv.1, V.str kv.2)) H') → tPairs trs σ H Q
theorem ep_nil : EvP C [] Γ S [] S := fun B σ Hs H x k Q q => q Hs H k Fr.refl
theorem ep_cons {a b : Str} {trs : List (TE × TE)} {kvs : List (Str × Str)} (h1 : EvD C tk Γ S (.str a) S) (h2 : EvD C tv Γ S (.str b) S) (h3 : EvP C trs Γ S kvs S) : EvP C ((tk, tv) :: trs) Γ S ((a, b) :: kvs) S := fun B σ Hs H x k Q q =>
  h1 B σ Hs H x k _ fun v Hs1 H1 k1 f1 d1 => h2 B σ Hs1 H1 (x.fr k f1) k1 _ fun u Hs2 H2 k2 f2 d2 => h3 B σ Hs2 H2 ((x.fr k f1).fr k1 f2) k2 _ fun Hs3 H3 k3 f3 => by
    rw [Dp.toS d1, Dp.toS d2]
    exact q Hs3 H3 k3 (Fr.trans k2 k3 (Fr.trans k1 k2 f1 f2) f3)
/-- written and from here on staying -/
theorem HOk.wfrz {p : Addr} {o : HO} (k : HOk C B S Hs H) (h0 : B.H0 p = none) (hs : Hs p = none) : HOk C B S (upd Hs p o) (upd H p o) := by
  have k1 := k.wrote (o := o) h0 hs
  have nb : ¬ C.bad p := fun hb => by
    obtain ⟨_, _, u, z⟩ := k.bad_no hb
    rw [h0] at z
    cases z
  refine ⟨k1.ex0, k.exs0.trans (Ex.new hs), upd_ex k.exs, fun a u e => ?_, fun lo e => ?_⟩
  · by_cases hq : a = p
    · subst hq
      exact .inr h0
    · rw [upd_ne hq] at e
      exact k.new a u e
  · obtain ⟨s, s6⟩ := k1.sto lo e
    have n1 : lo.d ≠ p := fun z => nb ⟨lo, e, .inl z.symm⟩
    have n2 : lo.l ≠ p := fun z => nb ⟨lo, e, .inr z.symm⟩
    refine ⟨⟨?_, ?_, s.d, s.l⟩, s6⟩
    · rw [upd_ne n1]
      exact s.nd
    · rw [upd_ne n2]
      exact s.nl
theorem gs_disp {trs : List (TE × TE)} {kvs : List (Str × Str)} (h : EvP C trs Γ S kvs S) (hl : kvs.length ≤ 15) (e : E.nx (Γ.set j (.dk (mergeK [] (kvs.map pairV)))) S) : GS C (tAsg (tDisp trs) (gName j)) E Γ S := fun B D l σ Hs H x k p hp => by
  have k1 := k.laidO (o := .dK []) hp
  have f1 := k.laidOFr (o := .dK []) hp
  refine h B σ Hs _ (x.fr k f1) k1 _ fun Hs2 H2 k2 f2 => ?_
  have h0 : B.H0 p = none := k.fresh0 hp
  have nb : ¬ C.bad p := fun hb => by
    obtain ⟨_, _, u, z⟩ := k.bad_no hb
    rw [h0] at z
    cases z
  have hs2 : Hs2 p = none := by
    cases z : Hs2 p with
    | none => rfl
    | some u =>
      rcases f2.new p u z with ⟨u', y⟩ | y
      · rw [k.freshS hp] at y
        cases y
      · rw [upd_same] at y
        cases y
  refine ⟨f2.ex p _ nb upd_same, kvs.map pairV, ?_, by rw [List.length_map]; exact hl, ?_⟩
  · rw [List.map_map]
    rfl
  have k3 := k2.wfrz (o := .dK (mergeK [] (kvs.map pairV))) h0 hs2
  have x2 := (x.fr k f1).fr k1 f2
  have f3 : Fr C Hs H (upd Hs2 p (.dK (mergeK [] (kvs.map pairV)))) (upd H2 p (.dK (mergeK [] (kvs.map pairV)))) := by
    refine ⟨f2.exs.trans (Ex.new hs2), fun a o nb' e' => ?_, fun a o e' => ?_⟩
    · have ne : a ≠ p := ne_of_none e' hp
      rw [upd_ne ne]
      exact f2.ex a o nb' (by rw [upd_ne ne]; exact e')
    · by_cases hq : a = p
      · subst hq
        exact .inr hp
      · rw [upd_ne hq] at e'
        rcases f2.new a o e' with z | z
        · exact .inl z
        · rw [upd_ne hq] at z
          exact .inr z
  have x3 := x.fr k f3
  exact l.1 _ _ _ S _ e (x3.setG j ⟨p, rfl, upd_same⟩ (fun _ z => nomatch z)) k3
theorem dk_slot {kvs : List (Key × V)} (x : SlsOk C B Hs H σ Γ) (hi : Γ[i]? = some (.dk kvs)) : ∃ p, σ[i]? = some (some (.ref p)) ∧ Hs p = some (.dK kvs) := by
  obtain ⟨s, q1, p, rfl, q2⟩ := x.at_ i _ hi
  exact ⟨p, q1, q2⟩
theorem ed_dkGet1 {kvs : List (Key × V)} {a z : Str} (hi : Γ[i]? = some (.dk kvs)) (h : EvD C ta Γ S (.str a) S') (hv : valV kvs (.inr a) = some (.str z)) : EvD C (tDGet1 (tVar i) ta) Γ S (.str z) S' := fun B σ Hs H x k Q q => by
  obtain ⟨p, q1, q2⟩ := dk_slot x hi
  refine ⟨.ref p, q1, p, rfl, .inl ⟨kvs, .inl (k.exs _ _ q2)⟩, h B σ Hs H x k _ fun v Hs1 H1 k1 f1 d1 => ?_⟩
  rw [Dp.toS d1]
  refine ⟨some (.str z), .inl ⟨kvs, .inr a, .inl (k1.exs _ _ (f1.exs _ _ q2)), rfl, hv.symm⟩, q _ _ _ k1 f1 (.str _)⟩
theorem ed_dkGet2 {kvs : List (Key × V)} {a b z : Str} (hi : Γ[i]? = some (.dk kvs)) (h : EvD C ta Γ S (.str a) S1) (h2 : EvD C tb Γ S1 (.str b) S') (hv : (valV kvs (.inr a)).getD (.str b) = .str z) : EvD C (tDGet2 (tVar i) ta tb) Γ S (.str z) S' := fun B σ Hs H x k Q q => by
  obtain ⟨p, q1, q2⟩ := dk_slot x hi
  refine ⟨.ref p, q1, p, rfl, .inl ⟨kvs, .inl (k.exs _ _ q2)⟩, h B σ Hs H x k _ fun v Hs1 H1 k1 f1 d1 => h2 B σ Hs1 H1 (x.fr k f1) k1 _ fun u Hs2 H2 k2 f2 d2 => ?_⟩
  rw [Dp.toS d1, Dp.toS d2]
  refine ⟨valV kvs (.inr a), .inl ⟨kvs, .inr a, .inl (k2.exs _ _ (f2.exs _ _ (f1.exs _ _ q2))), rfl, rfl⟩, ?_⟩
  rw [hv]
  exact q _ _ _ k2 (Fr.trans k1 k2 f1 f2) (.str _)
/-! ### a dict that is being filled -/
theorem gs_dnew (e : E.nx (Γ.set j (.odk [])) S) : GS C (tAsg tDNewK (gName j)) E Γ S := fun B D l σ Hs H x k p hp => by
  have k1 := k.laidO (o := .dK []) hp
  have x1 := x.fr k (k.laidOFr (o := .dK []) hp)
  exact l.1 _ _ _ S Hs e (x1.setG j ⟨p, rfl, upd_same, k.freshS hp, k.fresh0 hp⟩ (fun _ z => nomatch z)) k1
theorem gs_dset {kvs : List (Key × V)} {a z : Str} (hi : Γ[i]? = some (.odk kvs)) (un : ∀ m kvs', Γ[m]? = some (Sl.odk kvs') → m = i) (h : EvD C te Γ S (.str z) S1) (h2 : EvD C ta Γ S1 (.str a) S') (hl : kvs.length < 1000000) (e : E.nx (Γ.set i (.odk (putK kvs (.inr a) (.str z)))) S') : GS C (tAsg te (gSub (tVar i) ta rSetD)) E Γ S := fun B D l σ Hs H x k =>
  h B σ Hs H x k _ fun v Hs1 H1 k1 f1 d1 => by
    have x1 := x.fr k f1
    obtain ⟨s, q1, p, rfl, q2, q3, q4⟩ := x1.at_ i _ hi
    refine ⟨.ref p, q1, h2 B σ Hs1 H1 x1 k1 _ fun u Hs2 H2 k2 f2 d2 => ?_⟩
    have x2 := x1.fr k1 f2
    obtain ⟨s, r1, p', rfl, r2, r3, r4⟩ := x2.at_ i _ hi
    rw [q1] at r1
    cases r1
    have zs : sizeLine = 16777216 := sizeLine_eq
    rw [Dp.toS d2, Dp.toS d1]
    refine ⟨p, _, rfl, .inl ⟨kvs, .inr a, r2, rfl, by omega, rfl⟩, ?_⟩
    have k3 := k2.wrote (o := .dK (putK kvs (.inr a) (.str z))) r4 r3
    refine l.1 _ _ _ S' Hs2 e ⟨by rw [List.length_set, x2.len], fun m g em => ?_, fun m n xs ys e1 e2 ne => ?_⟩ k3
    · by_cases hm : i = m
      · subst hm
        have hl' : i < Γ.length := (List.getElem?_eq_some_iff.mp hi).1
        rw [List.getElem?_set_self hl'] at em
        cases em
        exact ⟨_, q1, p, rfl, upd_same, r3, r4⟩
      · rw [List.getElem?_set_ne hm] at em
        obtain ⟨s', t1, t2⟩ := x2.at_ m g em
        refine ⟨s', t1, ?_⟩
        cases g with
        | un => trivial
        | dat d => exact t2
        | sto => exact t2
        | far => exact t2
        | dk kvs => exact t2
        | odk kvs' => exact absurd (un m kvs' em).symm hm
        | own zs =>
          obtain ⟨p2, vs2, u1, u2, u3, u4, u5⟩ := t2
          have np : p2 ≠ p := fun z => by
            rw [z, r2] at u2
            cases u2
          exact ⟨p2, vs2, u1, by rw [upd_ne np]; exact u2, u3, u4, u5⟩
    · have f : ∀ (m : Nat) (zs : List PyData), (Γ.set i (Sl.odk (putK kvs (.inr a) (.str z))))[m]? = some (.own zs) → Γ[m]? = some (Sl.own zs) := fun m zs em => by
        by_cases hm : i = m
        · subst hm
          rw [List.getElem?_set_self (List.getElem?_eq_some_iff.mp hi).1] at em
          cases em
        · rw [List.getElem?_set_ne hm] at em
          exact em
      exact x2.apart m n xs ys (f _ _ e1) (f _ _ e2) ne
/-- run, then go on by hand -/
theorem gs_run {D : Ends} {nx : List Sl → Sto → Prop} (g : GS C t { nx := nx, rt := fun _ _ => False } Γ S) (x : SlsOk C B Hs H σ Γ) (k : HOk C B S Hs H) (h : ∀ σ' H' Γ' S' Hs', nx Γ' S' → SlsOk C B Hs' H' σ' Γ' → HOk C B S' Hs' H' → D.nx σ' H') : t D σ H :=
  g B D ⟨fun σ' H' Γ' S' Hs' e x k => h σ' H' Γ' S' Hs' e x k, fun v H d S Hs e => e.elim, fun σ H Γ S Hs e => e.elim, fun σ H Γ S Hs e => e.elim⟩ σ Hs H x k
theorem gs_run2 {D : Ends} {nx : List Sl → Sto → Prop} (g : GS C t { nx := nx, rt := fun _ _ => False } Γ S) (x : SlsOk C B Hs H σ Γ) (k : HOk C B S Hs H) (h : ∀ σ' H' Γ' S' Hs', nx Γ' S' → SlsOk C B Hs' H' σ' Γ' → HOk C B S' Hs' H' → u D σ' H') : tSeq t u D σ H := gs_run (D := { D with nx := u D }) g x k h
/-- a def that returns a dict, by a text for each bool -/
def spDk (K : PySem.W.Frag) (f : Bool → List (Key × V)) : Sp := fun vs H Q _ => ∃ Hs b, vs = [.bl b] ∧ Ex Hs H ∧ ∀ p Hs' H', Ex H H' → Ex Hs Hs' → Ex Hs' H' → (∀ a o, Hs' a = some o → (∃ u, Hs a = some u) ∨ H a = none) → Hs' p = some (.dK (f b)) → Q (.ref p) H'
/-- d, l = f(b), [] -/
theorem gs_dkOwn {f : Bool → List (Key × V)} {X : XK} {b : Bool} (ij : i ≠ j) (h : EvD C ta Γ S (.bool b) S') (e : E.nx ((Γ.set i (.dk (f b))).set j (.own [])) S') : GS C (tAsg (tTup (tCons (tCall (spDk C.K f) [] X (tCons ta tNil)) (tCons (tLst tNil) tNil))) (gTup C.K 2 (gCons (gName i) (gCons (gName j) gNil)))) E Γ S := fun B D l σ Hs H x k =>
  h B σ Hs H x k _ fun v Hs1 H1 k1 f1 d1 => by
    rw [Dp.toB d1]
    refine ⟨Hs1, b, rfl, k1.exs, fun p Hs2 H2 e1 e2 e3 n q => ?_⟩
    obtain ⟨k2, f2⟩ := call_ok k1 e1 e2 e3 n
    refine ⟨Nat.zero_le _, fun p2 hp2 => ?_⟩
    have k3 := k2.laidO (o := .lst []) hp2
    have f3 := k2.laidOFr (o := .lst []) hp2
    have zs : sizeLine = 16777216 := sizeLine_eq
    refine ⟨by show 2 ≤ sizeLine; omega, fun T hT => ?_⟩
    have k4 := k3.laid (o := .tup [.ref p, .ref p2]) hT
    have f4 := k3.laidFr (o := .tup [.ref p, .ref p2]) hT
    have nT : p2 ≠ T := fun z => by
      rw [← z, upd_same] at hT
      cases hT
    refine ⟨T, [.ref p, .ref p2], rfl, SqT.of upd_same, rfl, .ref p, [.ref p2], rfl, .ref p2, [], rfl, rfl, ?_⟩
    have x4 := (((x.fr k f1).fr k1 f2).fr k2 f3).fr k3 f4
    have hq : (upd Hs2 T (HO.tup [.ref p, .ref p2])) p = some (.dK (f b)) := Ex.new (k3.freshS hT) p _ q
    have x5 := x4.setG i (s := some (.ref p)) (g := .dk (f b)) ⟨p, rfl, hq⟩ (fun _ z => nomatch z)
    refine l.1 _ _ _ S' _ e (x5.setO j (fun m ys em z => ?_) (vs := []) ?_ .nil ?_ (k2.fresh0 hp2)) k4
    · have hne : Γ[m]? = some (Sl.own ys) := by
        by_cases hm : i = m
        · subst hm
          rw [List.getElem?_set] at em
          simp only [if_true] at em
          split at em <;> cases em
        · rw [List.getElem?_set_ne hm] at em
          exact em
      have z' : σ[m]? = some (some (.ref p2)) := by
        by_cases hm : i = m
        · subst hm
          rw [List.getElem?_set] at em
          simp only [if_true] at em
          split at em <;> cases em
        · rw [List.getElem?_set_ne hm] at z
          exact z
      exact ((x.fr k f1).fr k1 f2).own_ne hp2 m ys hne z'
    · rw [upd_ne nT, upd_same]
    · rw [upd_ne nT]
      exact k2.freshS hp2
end
end Dl


set_option Elab.async false
set_option linter.all false
set_option maxRecDepth 100000
set_option maxHeartbeats 4000000
set_option autoImplicit false
/-! the rules with the written part named -/
namespace Mk
open PySem PySem.Spec PyProof.Rows L2
abbrev rLen (K : PySem.W.Frag) : List V → Hp → VK → Prop := fun xs H Q => ∃ p ys, xs = [.ref p] ∧ (SqL K H p ys ∨ SqT K H p ys) ∧ Q (.int ys.length) H
abbrev rLst (K : PySem.W.Frag) : List V → Hp → VK → Prop := fun xs H Q => ∃ p ys, xs = [.ref p] ∧ (SqL K H p ys ∨ SqT K H p ys) ∧ ∀ l, H l = none → Q (.ref l) (upd H l (.lst ys))
abbrev rTup (K : PySem.W.Frag) : List V → Hp → VK → Prop := fun xs H Q => ∃ p ys, xs = [.ref p] ∧ ((SqL K H p ys ∧ ∀ l, H l = none → Q (.ref l) (upd H l (.tup ys))) ∨ (SqT K H p ys ∧ Q (.ref p) H))
section
variable {X : Cx} (K : PySem.W.Frag) (h : X.K = K)
include h
theorem len : CallR X (.builtin "len") (rLen K) := h ▸ call_len_seq
theorem list : CallR X (.type "list") (rLst K) := h ▸ call_list_of
theorem tuple : CallR X (.type "tuple") (rTup K) := h ▸ call_tuple_of
theorem any (hc : X.calm = true) : CallR X (.builtin "any") (rAny K) := h ▸ cr_any hc
theorem all (hc : X.calm = true) : CallR X (.builtin "all") (rAll K) := h ▸ cr_all hc
theorem sum (hc : X.calm = true) : CallR X (.builtin "sum") (rSum K) := h ▸ cr_sum hc
theorem repr (hg : X.A.guards = some []) (hu : X.A.units + 64 < cLine) : CallR X (.builtin "repr") (Ml.rRepr K) := h ▸ Ml.cr_repr hg hu
theorem isi : CallR X (.builtin "isinstance") (rIsi K) := h ▸ call_isi
theorem sortS : CallR X (.builtin "sorted") (rSortedS K) := h ▸ cr_sortedS
theorem sortT : CallR X (.builtin "sorted") (Ml.rSortedT K) := h ▸ Ml.cr_sortedT
theorem ix : IxR X (rIx K) := h ▸ ix_seq
theorem catS : OpR X (binaryOp .Add) (Ml.rCatS K) := h ▸ Ml.op_catS
theorem catA : OpR X (binaryOp .Add) (rCatA K) := h ▸ op_catA
theorem repA : OpR X (binaryOp .Mult) (Ml.rRepA K) := h ▸ Ml.op_repA
theorem in_ : OpR X (compareOp .In) (rIn K false) := h ▸ op_in_seq
theorem notIn : OpR X (compareOp .NotIn) (rIn K true) := h ▸ op_notIn_seq
theorem eqD (hu : X.A.units + 64 < cLine) : OpR X (compareOp .Eq) (rEqD K) := h ▸ op_eqD hu
theorem neD (hu : X.A.units + 64 < cLine) : OpR X (compareOp .NotEq) (rNeD K) := h ▸ op_neD hu
theorem slL : SlR X (rSlL K) := h ▸ sl_list
theorem slT : SlR X (rSlA K) := h ▸ sl_tupA
theorem inD (hu : X.A.units + 65 < cLine) : OpR X (compareOp .In) (rInD K) := h ▸ op_inD hu
theorem notInD (hu : X.A.units + 65 < cLine) : OpR X (compareOp .NotIn) (rNotInD K) := h ▸ op_notInD hu
theorem index : MtR X "list.index" (rIndex K) := h ▸ mt_index
end
theorem kd {X : Cx} {K : PySem.W.Frag} {d : Addr} {es : Array DictEntry} {n : Nat} (D : KDict X.K X.w d es n) (h : X.K = K) : IxR X (Dl.kix K d) := h ▸ Ml.ix_kd D
abbrev rJoin (K : PySem.W.Frag) : V → List V → Hp → VK → Prop := fun x xs H Q => ∃ a p, ∃ ys : List Str, x = .str a ∧ xs = [.ref p] ∧ (SqL K H p (ys.map V.str) ∨ SqT K H p (ys.map V.str)) ∧ (ys.map (·.length)).sum + ys.length * a.length ≤ 16777216 ∧ Q (.str (Txt.join a ys)) H
theorem pe_join {X : Cx} (K : PySem.W.Frag) (h : X.K = K) {o e : Expr} {to te : TE} {apos pos : Pos} (ho : PE X o to) (he : PE X e te) (hs : starEach [e] X.env = [(false, eval e X.env)] := by rfl) (hbase : attributeBase o "join" X.env (eval o X.env) = eval o X.env := by rfl) (hline : (apos.endLine == pos.line) = true := by rfl) :
    PE X (.Call (.Attribute o "join" apos) [e] [] pos) (tM1 (rJoin K) to te) := by
  subst h
  exact L2.pe_join ho he hs hbase hline
theorem pc0 {X : Cx} {k j : Nat} {x : Str} {sp : Sp} {dvs : List V} {p pos : Pos} (c : C8.Cal X.prog X.w X.K X.mg X.base k x sp dvs) (hr : Room j X.A) (hk : k ≤ j) (hg : Gl X x) (hdb : (x == ("__debug__" : Str)) = false := by decide) : PE X (.Call (.Name x p) [] [] pos) (tCall sp dvs C8.E0 tNil) := by
  obtain ⟨f, fd, ps, ds, F, hm, kp, b, d⟩ := c.ex
  exact pe_call0 F (hr.mono hk) hg hm kp b d C8.pass0 hdb
theorem hu65 {A : Around} {k : Nat} (hr : Room k A) : A.units + 65 < cLine := by
  have := hr.un
  omega
end Mk


set_option Elab.async false
set_option linter.all false
set_option maxRecDepth 100000
set_option maxHeartbeats 4000000
set_option autoImplicit false
namespace Pm
open PySem PySem.Spec PyProof.Rows L2 Dl Bx
variable {P : Program} {w : World} {K : PySem.W.Frag} {mg : Str → Option Value} {base : Heap}
local macro_rules | `(tactic| trivial) => `(tactic| first | omega | exact Or.inr ⟨by omega, by omega⟩ | exact Or.inl ⟨by omega, by omega⟩ | exact ⟨by omega, by omega⟩)
/-! ### lists of ints as data -/
def eT (r : List Int) : PyData := .tuple (r.map PyData.int)
def eL (r : List Int) : PyData := .list (r.map PyData.int)
theorem rgI_len (lo : Int) (n : Nat) : (rgI lo n).length = n := by simp [rgI]
theorem rgI_get {lo : Int} {n i : Nat} {a : Int} (h : (rgI lo n)[i]? = some a) : a = lo + i ∧ i < n := by
  have hi : i < n := by
    have := (List.getElem?_eq_some_iff.mp h).1
    rwa [rgI_len] at this
  rw [rgI, List.getElem?_map, List.getElem?_range hi] at h
  cases h
  exact ⟨rfl, hi⟩
theorem rgI_mem {lo : Int} {n : Nat} {a : Int} (h : a ∈ rgI lo n) : lo ≤ a ∧ a < lo + n := by
  obtain ⟨i, hi⟩ := List.getElem?_of_mem h
  obtain ⟨rfl, h2⟩ := rgI_get hi
  omega
/-- a for with an early return of a plain search -/
theorem drop_get {α : Type} {l : List α} {i : Nat} {a : α} (h : l[i]? = some a) : l.drop i = a :: l.drop (i + 1) := by
  obtain ⟨h1, h2⟩ := List.getElem?_eq_some_iff.mp h
  rw [List.drop_eq_getElem_cons h1, h2]
def invF (p x : Int) : Option Int := (rgI 1 (p - 1).toNat).find? fun o => decide (x * o % p = 1)
def R_inverse : Rel := fun ds d => ∃ p x o, ds = [.int p, .int x] ∧ 1 ≤ p ∧ p ≤ 1000 ∧ invF p x = some o ∧ d = .int o
theorem sc_inverse : FnScope ["prime", "number", "other"] ["prime", "number"] (defScope (Bx.top 5)) := ⟨rfl, rfl, rfl, by decide +kernel, rfl, by decide +kernel, by decide +kernel⟩
theorem ok_inverse (T : Tx w K mg base) : C8.Cal P w K mg base 1 "inverse" (spD K R_inverse) [] := by
  obtain ⟨fd, F⟩ := T.f_inverse
  refine cal_pure F T.g_inverse (F.bindsN (fun _ _ _ _ _ _ us hl => match us, hl with | [_, _], _ => rfl)) sc_inverse (by rintro _ _ ⟨p, x, o, rfl, hp, hp2, ho, rfl⟩ <;> rfl) ?_
  rintro _ _ ⟨p, x, o, rfl, hp, hp2, ho, rfl⟩ cdv A outer sh H E hr
  have nd := sc_inverse.nd
  refine ⟨_, (pss_cons (ps_for PassesOwn.never rfl (pi_range2 (by rfl) T.b_range (pa_cons pe_int (pa_cons (pv 0) pa_nil))) (pg_name (i := 2) nd rfl (.inl rfl)) (pss_one (ps_if (pt_cmpR op_eq (pe_op op_mod (pe_op op_mul (pv 1) (pv 2)) (pv 0)) pe_int (nomark _)) (pss_one (ps_ret (pv 2))) pss_nil)))
      (pss_one ps_never)), ?_⟩
  refine gs_seq (gs_for (as := rgI 1 (p - 1).toNat) (enc := .int) (ei_is (ei_rng2 (ea_cons ed_int (ea_cons (ed_var rfl) ea_nil)) ?_) (rngD_eq _ _)) (fun i Γ S => ∃ s, Γ = [.dat (.int p), .dat (.int x), s] ∧ S = S0 ∧ ((rgI 1 (p - 1).toNat).drop i).find? (fun o => decide (x * o % p = 1)) = some o) ?_ ?_ ?_)
  · omega
  · exact ⟨_, rfl, rfl, ho⟩
  · rintro i a Γ' S' ha ⟨s, rfl, rfl, hf⟩
    have hb := rgI_mem (List.mem_of_getElem? ha)
    refine ⟨_, _, gt_name, gs_if (et_test (ed_op (ed_op (ed_op (ed_var rfl) (ed_var rfl) (rd_I (by trivial))) (ed_var rfl) (rd_I (by trivial))) ed_int rd_eqI)) (fun h => gs_ret (ed_var rfl) ?_) (fun h => gs_next ?_)⟩
    · rw [drop_get ha, List.find?_cons] at hf
      rw [h] at hf
      exact congrArg PyData.int (Option.some.inj hf)
    · rw [drop_get ha, List.find?_cons] at hf
      rw [h] at hf
      exact ⟨_, rfl, rfl, hf⟩
  · rintro Γ' S' ⟨s, rfl, rfl, hf⟩
    rw [List.drop_length] at hf
    cases hf
/-! ### the first place that is not 0 -/
def leadF (r : List Int) : Option Nat := r.findIdx? fun x => x != 0
def encO : Option Nat → PyData
  | none => .none
  | some i => .int (i : Int)
def R_lead_of_flats : Rel := fun ds d => ∃ (r : List Int) (c : Bool), ds = [sqD c (r.map .int)] ∧ r.length ≤ 1000 ∧ d = encO (leadF r)
theorem rc_lenC {K : PySem.W.Frag} {xs : List PyData} {c : Bool} : RC K (fun vs H Q => ∃ p ys, vs = [.ref p] ∧ (SqL K H p ys ∨ SqT K H p ys) ∧ Q (.int ys.length) H) [sqD c xs] (.int xs.length) := by
  cases c
  · exact rc_lenT
  · exact rc_len
theorem rd_ixC {K : PySem.W.Frag} {xs : List PyData} {i : Int} {d : PyData} {j : Nat} {c : Bool} (h : ixN xs.length i = some j) (hx : xs[j]? = some d) : RD K (rIx K) (sqD c xs) (.int i) d := by
  cases c
  · exact rd_ixT h hx
  · exact rd_ixL h hx
theorem findIdx_drop {r : List Int} {i : Nat} {f : Int → Bool} (hno : ∀ j x, j < i → r[j]? = some x → f x = false) : r.findIdx? f = ((r.drop i).findIdx? f).map (· + i) := by
  induction i generalizing r with
  | zero => simp
  | succ i ih =>
    cases r with
    | nil => simp
    | cons a r =>
      rw [List.findIdx?_cons, hno 0 a (by omega) rfl, List.drop_succ_cons, ih (r := r) fun j x hj hx => hno (j + 1) x (by omega) (by simpa using hx)]
      cases (List.drop i r).findIdx? f <;> simp
      omega
theorem sc_lead_of_flats : FnScope ["row", "place"] ["row"] (defScope (Bx.top 7)) := ⟨rfl, rfl, rfl, by decide +kernel, rfl, by decide +kernel, by decide +kernel⟩
theorem ok_lead_of_flats (T : Tx w K mg base) : C8.Cal P w K mg base 1 "lead_of_flats" (spD K R_lead_of_flats) [] := by
  obtain ⟨fd, F⟩ := T.f_lead_of_flats
  refine cal_pure F T.g_lead_of_flats (F.bindsN (fun _ _ _ _ _ _ us hl => match us, hl with | [_], _ => rfl)) sc_lead_of_flats (by rintro _ _ ⟨r, c, rfl, hl, rfl⟩ <;> rfl) ?_
  rintro _ _ ⟨r, c, rfl, hl, rfl⟩ cdv A outer sh H E hr
  have nd := sc_lead_of_flats.nd
  refine ⟨_, (pss_cons (ps_for PassesOwn.never rfl (pi_range1 (by rfl) T.b_range (pa_cons (pe_callB (Mk.len K rfl) (by rfl) T.b_len PySem.boot_len (pa_cons (pv 0) pa_nil)) pa_nil)) (pg_name (i := 1) nd rfl (.inl rfl)) (pss_one (ps_if (pt_cmpR op_ne (pe_ix (Mk.ix K rfl) (pv 0) (pv 1) (fun _ _ => rfl)) pe_int (nomark _)) (pss_one (ps_ret (pv 1))) pss_nil)))
      (pss_one (ps_ret pe_non))), ?_⟩
  refine gs_seq (gs_for (as := rgI 0 r.length) (enc := .int) (ei_is (ei_rng1 (ea_cons (ed_cb (ea_cons (ed_var rfl) ea_nil) rc_lenC) ea_nil) ?_) ?_) (fun i Γ S => ∃ s, Γ = [.dat (sqD c (r.map .int)), s] ∧ S = S0 ∧ leadF r = ((r.drop i).findIdx? fun x => x != 0).map (· + i)) ?_ ?_ ?_)
  · rw [List.length_map]
    omega
  · rw [rngD_eq, List.length_map, Int.toNat_natCast]
  · exact ⟨_, rfl, rfl, by simp [leadF]⟩
  · rintro i a Γ' S' ha ⟨s, rfl, rfl, hf⟩
    obtain ⟨rfl, hi⟩ := rgI_get ha
    have hx : r[i]? = some r[i] := List.getElem?_eq_getElem hi
    refine ⟨_, _, gt_name, gs_if (et_test (ed_op (ed_op (ed_var rfl) (ed_var rfl) (rd_ixC (d := .int r[i]) (ixN_nat (by omega) (by rw [List.length_map]; omega)) (by simp))) ed_int rd_neI)) (fun h => gs_ret (ed_var rfl) ?_) (fun h => gs_next ?_)⟩
    · rw [drop_get hx, List.findIdx?_cons] at hf
      have h0 : (r[i] != 0) = true := by simpa using h
      rw [h0] at hf
      rw [hf]
      show PyData.int _ = encO (some _)
      simp [encO]
    · rw [drop_get hx, List.findIdx?_cons] at hf
      have h0 : (r[i] != 0) = false := by simpa using h
      rw [h0] at hf
      refine ⟨_, rfl, rfl, ?_⟩
      rw [hf]
      simp [Function.comp_def, Nat.add_assoc, Nat.add_comm 1]
  · rintro Γ' S' ⟨s, rfl, rfl, hf⟩
    rw [rgI_len, List.drop_length] at hf
    refine gs_ret ed_non ?_
    rw [hf]
    rfl
end Pm


set_option Elab.async false
set_option linter.all false
set_option maxRecDepth 100000
set_option maxHeartbeats 4000000
set_option autoImplicit false
namespace Pm
open PySem PySem.Spec PyProof.Rows L2 Dl Bx
variable {P : Program} {w : World} {K : PySem.W.Frag} {mg : Str → Option Value} {base : Heap}
local macro_rules | `(tactic| trivial) => `(tactic| first | omega | exact Or.inr ⟨by omega, by omega⟩ | exact Or.inl ⟨by omega, by omega⟩ | exact ⟨by omega, by omega⟩)
/-! ### shapes -/
theorem lay_ints (r : List Int) : PyData.canLayAll0 (r.map PyData.int) = true := by
  induction r with
  | nil => rfl
  | cons a r ih => simp [PyData.canLayAll0, PyData.canLay0, ih]
theorem dep_ints (r : List Int) : PyData.depthAll (r.map PyData.int) = 0 := by
  induction r with
  | nil => rfl
  | cons a r ih => simp [PyData.depthAll, PyData.depth, ih]
theorem lay_rows {f : List Int → PyData} (hf : ∀ r, (f r).canLay0 = true) (rs : List (List Int)) : PyData.canLayAll0 (rs.map f) = true := by
  induction rs with
  | nil => rfl
  | cons a r ih => simp [PyData.canLayAll0, hf, ih]
theorem dep_rows {f : List Int → PyData} (hf : ∀ r, (f r).depth ≤ 1) (rs : List (List Int)) : PyData.depthAll (rs.map f) ≤ 1 := by
  induction rs with
  | nil => simp [PyData.depthAll]
  | cons a r ih =>
    simp only [List.map_cons, PyData.depthAll]
    exact Nat.max_le.mpr ⟨hf a, ih⟩
theorem lay_eT (r : List Int) : (eT r).canLay0 = true := by simp [eT, PyData.canLay0, lay_ints]
theorem lay_eL (r : List Int) : (eL r).canLay0 = true := by simp [eL, PyData.canLay0, lay_ints]
theorem dep_eT (r : List Int) : (eT r).depth ≤ 1 := by simp [eT, PyData.depth, dep_ints]
theorem dep_eL (r : List Int) : (eL r).depth ≤ 1 := by simp [eL, PyData.depth, dep_ints]
theorem sh_mk {d : PyData} (h1 : d.canLay0 = true) (h2 : d.depth ≤ 64) : SeqAt.shaped d = true := by
  unfold SeqAt.shaped
  rw [h1, decide_eq_true h2] <;> rfl
theorem sh_eT (r : List Int) : SeqAt.shaped (eT r) = true := sh_mk (lay_eT r) (by have := dep_eT r; omega)
theorem sh_eL (r : List Int) : SeqAt.shaped (eL r) = true := sh_mk (lay_eL r) (by have := dep_eL r; omega)
theorem sh_LL (rs : List (List Int)) : SeqAt.shaped (.list (rs.map eL)) = true := sh_mk (by simp [PyData.canLay0, lay_rows lay_eL]) (by have := dep_rows dep_eL rs; simp [PyData.depth]; omega)
theorem sh_LT (rs : List (List Int)) : SeqAt.shaped (.list (rs.map eT)) = true := sh_mk (by simp [PyData.canLay0, lay_rows lay_eT]) (by have := dep_rows dep_eT rs; simp [PyData.depth]; omega)
theorem sh_nil : SeqAt.shaped (.list []) = true := by decide +kernel
theorem eqv_nil {α : Type} (f : α → PyData) (l : List α) : PyData.eqv (.list (l.map f)) (.list []) = l.isEmpty := by
  cases l <;> simp [PyData.eqv, PyData.eqvAll]
theorem eqv_ints (a b : List Int) : PyData.eqv (eT a) (eT b) = decide (a = b) := by
  unfold eT
  rw [PyData.eqv]
  induction a generalizing b with
  | nil => cases b <;> simp [PyData.eqvAll]
  | cons x a ih =>
    cases b with
    | nil => simp [PyData.eqvAll]
    | cons y b =>
      simp only [List.map_cons, PyData.eqvAll, PyData.eqv, ih]
      by_cases h1 : x = y <;> by_cases h2 : a = b <;> simp [h1, h2]
/-! ### primes, rows -/
def Pr (p : Int) : Prop := p = 2 ∨ p = 3 ∨ p = 5 ∨ p = 7
theorem Pr.b {p : Int} (h : Pr p) : 2 ≤ p ∧ p ≤ 7 := by
  unfold Pr at h
  omega
theorem Pr.inv {p : Int} (h : Pr p) {x : Int} (h1 : 0 < x) (h2 : x < p) : ∃ o, invF p x = some o ∧ 1 ≤ o ∧ o < p ∧ x * o % p = 1 := by
  have h3 : ∀ p : Fin 8, ∀ x : Fin 8, ((p : Nat) = 2 ∨ (p : Nat) = 3 ∨ (p : Nat) = 5 ∨ (p : Nat) = 7) → 0 < (x : Nat) → (x : Nat) < p → (invF (p : Nat) (x : Nat)).isSome = true := by decide +kernel
  have hb := h.b
  have h4 := h3 ⟨p.toNat, by omega⟩ ⟨x.toNat, by omega⟩ (by unfold Pr at h; simp only; omega) (by simp only; omega) (by simp only; omega)
  simp only at h4
  rw [Int.toNat_of_nonneg (by omega), Int.toNat_of_nonneg (by omega)] at h4
  obtain ⟨o, ho⟩ := Option.isSome_iff_exists.mp h4
  have hm := List.find?_some ho
  have hr := rgI_mem (List.mem_of_find?_eq_some ho)
  refine ⟨o, ho, hr.1, by omega, by simpa using hm⟩
/-- rows of length n, numbers 0 .. p - 1 -/
def RowOk (p : Int) (n : Nat) (r : List Int) : Prop := r.length = n ∧ ∀ x ∈ r, 0 ≤ x ∧ x < p
def RowsOk (p : Int) (n : Nat) (rs : List (List Int)) : Prop := ∀ r ∈ rs, RowOk p n r
theorem RowOk.at_ {p : Int} {n : Nat} {r : List Int} (h : RowOk p n r) {j : Nat} (hj : j < n) : r[j]? = some (r.getD j 0) ∧ 0 ≤ r.getD j 0 ∧ r.getD j 0 < p := by
  have hl := h.1
  have e : r.getD j 0 = r[j]'(by omega) := by simp [List.getD, List.getElem?_eq_getElem (show j < r.length by omega)]
  refine ⟨by rw [e]; exact List.getElem?_eq_getElem _, ?_⟩
  rw [e]
  exact h.2 _ (List.getElem_mem _)
theorem map_get {α : Type} {f : α → PyData} {l : List α} {i : Nat} {a : α} (h : l[i]? = some a) : (l.map f)[i]? = some (f a) := by
  rw [List.getElem?_map, h] <;> rfl
/-! ### added -/
def addF (p : Int) (r o : List Int) (f : Int) : List Int := List.zipWith (fun a b => (a + f * b) % p) r o
theorem zip_enc (r o : List Int) : List.zipWith pairD (r.map .int) (o.map .int) = (r.zip o).map fun q => pairD (.int q.1) (.int q.2) := by
  rw [List.zipWith_map, List.zip, List.map_zipWith]
def R_added : Rel := fun ds d => ∃ (p : Int) (r o : List Int) (f : Int) (c1 c2 : Bool), ds = [.int p, sqD c1 (r.map .int), sqD c2 (o.map .int), .int f] ∧ 0 < p ∧ p ≤ 1000 ∧ -1000 ≤ f ∧ f ≤ 1000 ∧ r.length ≤ 1000 ∧ d = eL (addF p r o f)
theorem sc_added : FnScope ["prime", "row", "other", "factor", "one", "two"] ["prime", "row", "other", "factor"] (defScope (Bx.top 9)) := ⟨rfl, rfl, rfl, by decide +kernel, rfl, by decide +kernel, by decide +kernel⟩
theorem ok_added (T : Tx w K mg base) : C8.Cal P w K mg base 1 "added" (spD K R_added) [] := by
  obtain ⟨fd, F⟩ := T.f_added
  refine cal_pure F T.g_added (F.bindsN (fun _ _ _ _ _ _ us hl => match us, hl with | [_, _, _, _], _ => rfl)) sc_added (by rintro _ _ ⟨p, r, o, f, c1, c2, rfl, hp, hp2, hf, hf2, hl, rfl⟩ <;> rfl) ?_
  rintro _ _ ⟨p, r, o, f, c1, c2, rfl, hp, hp2, hf, hf2, hl, rfl⟩ cdv A outer sh H E hr
  have nd := sc_added.nd
  refine ⟨_, (pss_one (ps_ret (pe_lc (own := [("one", 4), ("two", 5)]) (g := (gTup K 2 (gCons (gName 4) (gCons (gName 5) gNil)))) (tt := tYes) rfl nd (Ml.pi_zipC c1 c2 (by rfl) T.b_zip (pa_cons (pv 1) (pa_cons (pv 2) pa_nil))) (blkOk_by (by rfl)) (fun _ _ _ _ _ => (pg_tup rfl (pgs_cons (pg_name (i := 4) nd rfl (.inl rfl)) (pgs_cons (pg_name (i := 5) nd rfl (.inl rfl)) pgs_nil)))) (fun _ _ _ _ _ => pts_nil) (fun _ _ _ _ _ => (pe_op op_mod (pe_op op_add (pv 4) (pe_op op_mul (pv 3) (pv 5))) (pv 0)))))), ?_⟩
  refine gs_ret (ed_is (ed_lcm (as := r.zip o) (enc := fun q => pairD (.int q.1) (.int q.2)) (fun q => .int ((q.1 + f * q.2) % p)) (ei_is (ei_zip (c1 := c1) (c2 := c2) (ea_cons (ed_var rfl) (ea_cons (ed_var rfl) ea_nil))) (zip_enc r o)) ?_ fun q hq => ⟨_, _, gt_tup (gts_cons gt_name (gts_cons gt_name gts_nil)) rfl, by simp, fun s => (ed_op (ed_op (ed_var rfl) (ed_op (ed_var rfl) (ed_var rfl) (rd_I (by trivial))) rd_I0) (ed_var rfl) (rd_I (by trivial)))⟩) ?_) rfl
  · rw [List.length_zip]
    omega
  · unfold eL addF
    rw [List.zip, List.map_zipWith, List.map_zipWith]
/-! ### stairs -/
def stepF (p : Int) (j : Nat) (S : List (List Int) × List (List Int)) : List (List Int) × List (List Int) := match S.1.filter fun r => r.getD j 0 != 0 with
  | [] => S
  | h :: _ =>
    let own := h.map fun x => (invF p (h.getD j 0)).getD 0 * x % p
    (S.1.map fun r => addF p r own (-(r.getD j 0)), (S.2.map fun r => addF p r own (-(r.getD j 0))) ++ [own])
def stepsF (p : Int) (rows : List (List Int)) (n : Nat) : List (List Int) × List (List Int) := (List.range n).foldl (fun S j => stepF p j S) (rows, [])
def stairF (p : Int) (n : Nat) (rows : List (List Int)) : List (List Int) := (stepsF p rows n).2
theorem stepsF_succ (p : Int) (rows : List (List Int)) (n : Nat) : stepsF p rows (n + 1) = stepF p n (stepsF p rows n) := by
  unfold stepsF
  rw [List.range_succ, List.foldl_append] <;> rfl
theorem addF_ok {p : Int} {n : Nat} {r o : List Int} {f : Int} (hp : 0 < p) (hr : r.length = n) (ho : o.length = n) : RowOk p n (addF p r o f) := by
  refine ⟨by simp [addF, hr, ho], fun x hx => ?_⟩
  unfold addF at hx
  rw [List.mem_iff_getElem?] at hx
  obtain ⟨i, hi⟩ := hx
  rw [List.getElem?_zipWith] at hi
  cases h1 : r[i]? <;> cases h2 : o[i]? <;> rw [h1, h2] at hi <;> first | cases hi | skip
  exact ⟨Int.emod_nonneg _ (by omega), Int.emod_lt_of_pos _ hp⟩
theorem own_ok {p : Int} {n : Nat} {h : List Int} {f : Int} (hp : 0 < p) (hr : h.length = n) : RowOk p n (h.map fun x => f * x % p) := by
  refine ⟨by simp [hr], fun x hx => ?_⟩
  obtain ⟨y, _, rfl⟩ := List.mem_map.mp hx
  exact ⟨Int.emod_nonneg _ (by omega), Int.emod_lt_of_pos _ hp⟩
theorem stepF_ok {p : Int} {n j : Nat} {S : List (List Int) × List (List Int)} (hp : 0 < p) (h1 : RowsOk p n S.1) (h2 : RowsOk p n S.2) : RowsOk p n (stepF p j S).1 ∧ RowsOk p n (stepF p j S).2 := by
  unfold stepF
  split
  · exact ⟨h1, h2⟩
  · rename_i h t e
    have hh : h ∈ S.1 := (List.mem_filter.mp (by rw [e]; exact List.mem_cons_self)).1
    have ho := own_ok (p := p) (n := n) (f := (invF p (h.getD j 0)).getD 0) hp (h1 h hh).1
    refine ⟨fun r hr => ?_, fun r hr => ?_⟩
    · obtain ⟨q, hq, rfl⟩ := List.mem_map.mp hr
      exact addF_ok hp (h1 q hq).1 ho.1
    · rcases List.mem_append.mp hr with hr | hr
      · obtain ⟨q, hq, rfl⟩ := List.mem_map.mp hr
        exact addF_ok hp (h2 q hq).1 ho.1
      · rw [List.mem_singleton.mp hr]
        exact ho
theorem stepsF_ok {p : Int} {n : Nat} {rows : List (List Int)} (hp : 0 < p) (h : RowsOk p n rows) : ∀ i, RowsOk p n (stepsF p rows i).1 ∧ RowsOk p n (stepsF p rows i).2
  | 0 => ⟨h, fun r hr => nomatch hr⟩
  | i + 1 => by
    rw [stepsF_succ]
    exact stepF_ok hp (stepsF_ok hp h i).1 (stepsF_ok hp h i).2
theorem stepF_len {p : Int} {j : Nat} {S : List (List Int) × List (List Int)} : (stepF p j S).1.length = S.1.length ∧ (stepF p j S).2.length ≤ S.2.length + 1 := by
  unfold stepF
  split
  · exact ⟨rfl, by omega⟩
  · simp
theorem stepsF_len {p : Int} {rows : List (List Int)} : ∀ i, (stepsF p rows i).1.length = rows.length ∧ (stepsF p rows i).2.length ≤ i
  | 0 => ⟨rfl, Nat.le_refl _⟩
  | i + 1 => by
    rw [stepsF_succ]
    have h1 := stepF_len (p := p) (j := i) (S := stepsF p rows i)
    have h2 := stepsF_len (p := p) (rows := rows) i
    omega
theorem stairF_ok {p : Int} {n : Nat} {rows : List (List Int)} (hp : 0 < p) (h : RowsOk p n rows) : RowsOk p n (stairF p n rows) := (stepsF_ok hp h n).2
theorem stairF_len {p : Int} {n : Nat} {rows : List (List Int)} : (stairF p n rows).length ≤ n := (stepsF_len n).2
def R_stairs_of : Rel := fun ds d => ∃ (p : Int) (n : Nat) (rows : List (List Int)) (c c2 : Bool), ds = [.int p, .int (n : Int), sqD c (rows.map fun r => sqD c2 (r.map .int))] ∧ Pr p ∧ n ≤ 100 ∧ rows.length ≤ 1000 ∧ RowsOk p n rows ∧ d = .list ((stairF p n rows).map eL)
theorem rc_listC {K : PySem.W.Frag} {xs : List PyData} {c : Bool} : RC K (fun vs H Q => ∃ p ys, vs = [.ref p] ∧ (SqL K H p ys ∨ SqT K H p ys) ∧ ∀ l, H l = none → Q (.ref l) (upd H l (.lst ys))) [sqD c xs] (.list xs) := by
  cases c
  · exact rc_listT
  · exact rc_list
theorem rc_tupleC {K : PySem.W.Frag} {xs : List PyData} {c : Bool} : RC K (fun vs H Q => ∃ p ys, vs = [.ref p] ∧ ((SqL K H p ys ∧ ∀ l, H l = none → Q (.ref l) (upd H l (.tup ys))) ∨ (SqT K H p ys ∧ Q (.ref p) H))) [sqD c xs] (.tuple xs) := by
  cases c
  · exact rc_tupleT
  · exact rc_tuple
theorem ne_bne (x : Int) : (!decide (x = 0)) = (x != 0) := by by_cases h : x = 0 <;> simp [h]
theorem mm {α β γ : Type} (g : α → β) (f : β → γ) (l : List α) : (l.map g).map f = l.map fun x => f (g x) := by rw [List.map_map] <;> rfl
theorem rng0 (n : Nat) : rngD 0 n = (List.range n).map fun (j : Nat) => PyData.int (j : Int) := by simp [rngD]
theorem range_get {n i a : Nat} (h : (List.range n)[i]? = some a) : i = a ∧ i < n := by
  obtain ⟨h1, h2⟩ := List.getElem?_eq_some_iff.mp h
  rw [List.length_range] at h1
  rw [List.getElem_range] at h2
  exact ⟨h2, h1⟩
theorem row_at {p : Int} {n : Nat} {r : List Int} (h : RowOk p n r) {j : Nat} (hj : j < n) : (r.map PyData.int)[j]? = some (.int (r.getD j 0)) := map_get (h.at_ hj).1
theorem rd_ixRow {K : PySem.W.Frag} (c : Bool) {p : Int} {n : Nat} {r : List Int} {j : Nat} (h : RowOk p n r) (hj : j < n) : RD K (rIx K) (sqD c (r.map .int)) (.int (j : Int)) (.int (r.getD j 0)) :=
  rd_ixC (j := j) (ixN_nat (by omega) (by rw [List.length_map, h.1]; omega)) (row_at h hj)
/-- xs[0] -/
theorem rd_ix0 {K : PySem.W.Frag} (c : Bool) {d : PyData} {xs : List PyData} : RD K (rIx K) (sqD c (d :: xs)) (.int 0) d :=
  rd_ixC (j := 0) (ixN_nat (by omega) (by simp)) rfl
theorem stepF_cons {p : Int} {j : Nat} {S : List (List Int) × List (List Int)} {h : List Int} {t : List (List Int)} (e : (S.1.filter fun r => r.getD j 0 != 0) = h :: t) :
    stepF p j S = (S.1.map fun r => addF p r (h.map fun x => (invF p (h.getD j 0)).getD 0 * x % p) (-(r.getD j 0)), (S.2.map fun r => addF p r (h.map fun x => (invF p (h.getD j 0)).getD 0 * x % p) (-(r.getD j 0))) ++ [h.map fun x => (invF p (h.getD j 0)).getD 0 * x % p]) := by
  unfold stepF
  rw [e]
theorem stepF_nil {p : Int} {j : Nat} {S : List (List Int) × List (List Int)} (e : (S.1.filter fun r => r.getD j 0 != 0) = []) : stepF p j S = S := by
  unfold stepF
  rw [e]
theorem sc_stairs_of : FnScope ["prime", "ends", "rows", "left", "found", "place", "heads", "factor", "own", "row", "number"] ["prime", "ends", "rows"] (defScope (Bx.top 10)) := ⟨rfl, rfl, rfl, by decide +kernel, rfl, by decide +kernel, by decide +kernel⟩
theorem ok_stairs_of (T : Tx w K mg base) : C8.Cal P w K mg base 2 "stairs_of" (spD K R_stairs_of) [] := by
  obtain ⟨fd, F⟩ := T.f_stairs_of
  have ok_added := ok_added (P := P) T
  have ok_inverse := ok_inverse (P := P) T
  refine cal_pure F T.g_stairs_of (F.bindsN (fun _ _ _ _ _ _ us hl => match us, hl with | [_, _, _], _ => rfl)) sc_stairs_of (by rintro _ _ ⟨p, n, rows, c, c2, rfl, hp, hn, hl, hR, rfl⟩ <;> rfl) ?_
  rintro _ _ ⟨p, n, rows, c, c2, rfl, hp, hn, hl, hR, rfl⟩ cdv A outer sh H E hr
  have nd := sc_stairs_of.nd
  have hb := hp.b
  cases c
  refine ⟨_, (pss_cons (ps_par (i := 3) (j := 4) rfl nd rfl rfl (by decide) rfl rfl (pa_cons (pe_lc (own := [("row", 9)]) (g := (gName 9)) (tt := tYes) rfl nd (pi_tup (pv 2)) (blkOk_by (by rfl)) (fun _ _ _ _ _ => (pg_name (i := 9) nd rfl (.inl rfl))) (fun _ _ _ _ _ => pts_nil) (fun _ _ _ _ _ => (pe_callTy (Mk.list K rfl) (by rfl) T.b_list PyProof.Rows.boot_list (pa_cons (pv 9) pa_nil)))) (pa_cons (pe_lst pa_nil) pa_nil)) (by rfl))
      (pss_cons (ps_for PassesOwn.never rfl (pi_range1 (by rfl) T.b_range (pa_cons (pv 1) pa_nil)) (pg_name (i := 5) nd rfl (.inr rfl)) (pss_cons (ps_setLc (i := 6) (own := [("row", 9)]) (g := (gName 9)) rfl nd rfl rfl (sw_true rfl rfl rfl (by decide +kernel)) (pi_list (pv 3)) (blkOk_by (by rfl)) (fun _ _ _ _ _ => (pg_name (i := 9) nd rfl (.inl rfl))) (fun _ _ _ _ _ => (pts_one (pt_cmpR op_ne (pe_ix (Mk.ix K rfl) (pv 9) (pv 5) (fun _ _ => rfl)) pe_int (nomark _)))) (fun _ _ _ _ _ => (pv 9)))
      (pss_cons (ps_if (pt_cmpR (Mk.eqD K rfl hr.units) (pv 6) (pe_lst pa_nil) (nomark _)) (pss_one ps_continue) pss_nil)
      (pss_cons (ps_set (i := 7) nd rfl (.inr rfl) (C8.pe_c ok_inverse hr (by decide) (by rfl) (pa_cons (pv 0) (pa_cons (pe_ix (Mk.ix K rfl) (pe_ix (Mk.ix K rfl) (pv 6) pe_int (fun _ _ => rfl)) (pv 5) (fun _ _ => rfl)) pa_nil))))
      (pss_cons (ps_set (i := 8) nd rfl (.inr rfl) (pe_lc (own := [("number", 10)]) (g := (gName 10)) (tt := tYes) rfl nd (pi_list (pe_ix (Mk.ix K rfl) (pv 6) pe_int (fun _ _ => rfl))) (blkOk_by (by rfl)) (fun _ _ _ _ _ => (pg_name (i := 10) nd rfl (.inl rfl))) (fun _ _ _ _ _ => pts_nil) (fun _ _ _ _ _ => (pe_op op_mod (pe_op op_mul (pv 7) (pv 10)) (pv 0)))))
      (pss_cons (ps_setLc (i := 3) (own := [("row", 9)]) (g := (gName 9)) (tt := tYes) rfl nd rfl rfl (sw_true rfl rfl rfl (by decide +kernel)) (pi_list (pv 3)) (blkOk_by (by rfl)) (fun _ _ _ _ _ => (pg_name (i := 9) nd rfl (.inl rfl))) (fun _ _ _ _ _ => pts_nil) (fun _ _ _ _ _ => (C8.pe_c ok_added hr (by decide) (by rfl) (pa_cons (pv 0) (pa_cons (pv 9) (pa_cons (pv 8) (pa_cons (pe_un un_neg (pe_ix (Mk.ix K rfl) (pv 9) (pv 5) (fun _ _ => rfl))) pa_nil)))))))
      (pss_one (ps_set (i := 4) nd rfl (.inl rfl) (pe_op (Mk.catS K rfl) (pe_lc (own := [("row", 9)]) (g := (gName 9)) (tt := tYes) rfl nd (pi_list (pv 4)) (blkOk_by (by rfl)) (fun _ _ _ _ _ => (pg_name (i := 9) nd rfl (.inl rfl))) (fun _ _ _ _ _ => pts_nil) (fun _ _ _ _ _ => (C8.pe_c ok_added hr (by decide) (by rfl) (pa_cons (pv 0) (pa_cons (pv 9) (pa_cons (pv 8) (pa_cons (pe_un un_neg (pe_ix (Mk.ix K rfl) (pv 9) (pv 5) (fun _ _ => rfl))) pa_nil))))))) (pe_lst (pa_cons (pv 8) pa_nil)))))))))))
      (pss_one (ps_ret (pv 4))))), ?_⟩
  refine gs_seq (gs_par (ea_cons (ed_lcm (as := rows) (enc := fun r => sqD c2 (r.map .int)) eL (ei_tup (ed_var rfl)) (by omega) fun r hq => ⟨_, _, gt_name, by simp, fun s => ed_cb (ea_cons (ed_var rfl) ea_nil) rc_listC⟩) (ea_cons (ed_lst ea_nil (sz (by simp))) ea_nil)) ?_)
  rotate_left
  refine ⟨_, (pss_cons (ps_par (i := 3) (j := 4) rfl nd rfl rfl (by decide) rfl rfl (pa_cons (pe_lc (own := [("row", 9)]) (g := (gName 9)) (tt := tYes) rfl nd (pi_list (pv 2)) (blkOk_by (by rfl)) (fun _ _ _ _ _ => (pg_name (i := 9) nd rfl (.inl rfl))) (fun _ _ _ _ _ => pts_nil) (fun _ _ _ _ _ => (pe_callTy (Mk.list K rfl) (by rfl) T.b_list PyProof.Rows.boot_list (pa_cons (pv 9) pa_nil)))) (pa_cons (pe_lst pa_nil) pa_nil)) (by rfl))
      (pss_cons (ps_for PassesOwn.never rfl (pi_range1 (by rfl) T.b_range (pa_cons (pv 1) pa_nil)) (pg_name (i := 5) nd rfl (.inr rfl)) (pss_cons (ps_setLc (i := 6) (own := [("row", 9)]) (g := (gName 9)) rfl nd rfl rfl (sw_true rfl rfl rfl (by decide +kernel)) (pi_list (pv 3)) (blkOk_by (by rfl)) (fun _ _ _ _ _ => (pg_name (i := 9) nd rfl (.inl rfl))) (fun _ _ _ _ _ => (pts_one (pt_cmpR op_ne (pe_ix (Mk.ix K rfl) (pv 9) (pv 5) (fun _ _ => rfl)) pe_int (nomark _)))) (fun _ _ _ _ _ => (pv 9)))
      (pss_cons (ps_if (pt_cmpR (Mk.eqD K rfl hr.units) (pv 6) (pe_lst pa_nil) (nomark _)) (pss_one ps_continue) pss_nil)
      (pss_cons (ps_set (i := 7) nd rfl (.inr rfl) (C8.pe_c ok_inverse hr (by decide) (by rfl) (pa_cons (pv 0) (pa_cons (pe_ix (Mk.ix K rfl) (pe_ix (Mk.ix K rfl) (pv 6) pe_int (fun _ _ => rfl)) (pv 5) (fun _ _ => rfl)) pa_nil))))
      (pss_cons (ps_set (i := 8) nd rfl (.inr rfl) (pe_lc (own := [("number", 10)]) (g := (gName 10)) (tt := tYes) rfl nd (pi_list (pe_ix (Mk.ix K rfl) (pv 6) pe_int (fun _ _ => rfl))) (blkOk_by (by rfl)) (fun _ _ _ _ _ => (pg_name (i := 10) nd rfl (.inl rfl))) (fun _ _ _ _ _ => pts_nil) (fun _ _ _ _ _ => (pe_op op_mod (pe_op op_mul (pv 7) (pv 10)) (pv 0)))))
      (pss_cons (ps_setLc (i := 3) (own := [("row", 9)]) (g := (gName 9)) (tt := tYes) rfl nd rfl rfl (sw_true rfl rfl rfl (by decide +kernel)) (pi_list (pv 3)) (blkOk_by (by rfl)) (fun _ _ _ _ _ => (pg_name (i := 9) nd rfl (.inl rfl))) (fun _ _ _ _ _ => pts_nil) (fun _ _ _ _ _ => (C8.pe_c ok_added hr (by decide) (by rfl) (pa_cons (pv 0) (pa_cons (pv 9) (pa_cons (pv 8) (pa_cons (pe_un un_neg (pe_ix (Mk.ix K rfl) (pv 9) (pv 5) (fun _ _ => rfl))) pa_nil)))))))
      (pss_one (ps_set (i := 4) nd rfl (.inl rfl) (pe_op (Mk.catS K rfl) (pe_lc (own := [("row", 9)]) (g := (gName 9)) (tt := tYes) rfl nd (pi_list (pv 4)) (blkOk_by (by rfl)) (fun _ _ _ _ _ => (pg_name (i := 9) nd rfl (.inl rfl))) (fun _ _ _ _ _ => pts_nil) (fun _ _ _ _ _ => (C8.pe_c ok_added hr (by decide) (by rfl) (pa_cons (pv 0) (pa_cons (pv 9) (pa_cons (pv 8) (pa_cons (pe_un un_neg (pe_ix (Mk.ix K rfl) (pv 9) (pv 5) (fun _ _ => rfl))) pa_nil))))))) (pe_lst (pa_cons (pv 8) pa_nil)))))))))))
      (pss_one (ps_ret (pv 4))))), ?_⟩
  refine gs_seq (gs_par (ea_cons (ed_lcm (as := rows) (enc := fun r => sqD c2 (r.map .int)) eL (ei_list (ed_var rfl)) (by omega) fun r hq => ⟨_, _, gt_name, by simp, fun s => ed_cb (ea_cons (ed_var rfl) ea_nil) rc_listC⟩) (ea_cons (ed_lst ea_nil (sz (by simp))) ea_nil)) ?_)
  all_goals
    have inv0 := fun i => stepsF_ok (p := p) (n := n) (rows := rows) (by omega) hR i
    refine gs_seq (gs_for (as := List.range n) (enc := fun (j : Nat) => .int (j : Int)) (ei_is (ei_rng1 (ea_cons (ed_var rfl) ea_nil) ⟨by omega, by omega⟩) (rng0 n)) (fun i Γ S => ∃ L F s5 s6 s7 s8 g2, stepsF p rows i = (L, F) ∧ Γ = [.dat (.int p), .dat (.int (n : Int)), g2, .dat (.list (L.map eL)), .dat (.list (F.map eL)), s5, s6, s7, s8, .un, .un] ∧ S = S0) ⟨rows, [], _, _, _, _, _, rfl, rfl, rfl⟩ ?_ ?_)
    rotate_left
    ·
      rintro Γ' S' ⟨L, F, s5, s6, s7, s8, g2, e, rfl, rfl⟩
      rw [List.length_range] at e
      refine gs_ret (ed_var rfl) ?_
      unfold stairF
      rw [e]
      rfl
    rintro i a Γ' S' ha ⟨L, F, s5, s6, s7, s8, g2, e, rfl, rfl⟩
    obtain ⟨rfl, hi⟩ := range_get ha
    obtain ⟨q1, q2⟩ := inv0 i
    obtain ⟨l1, l2⟩ := stepsF_len (p := p) (rows := rows) i
    have e3 := stepsF_succ p rows i
    rw [e] at q1 q2 l1 l2 e3
    simp only at q1 q2 l1 l2
    refine ⟨_, _, gt_name, ?_⟩
    refine gs_seq (gs_asg (ed_lc (as := L) (enc := eL) (fun r => r.getD i 0 != 0) eL (ei_list (ed_var rfl)) (by omega) fun r hq => ⟨_, _, gt_name, by simp, fun s => ⟨et_is (et_test (ed_op (ed_op (ed_var rfl) (ed_var rfl) (rd_ixRow true (q1 r hq) hi)) ed_int rd_neI)) ?_, fun _ => ed_var rfl⟩⟩) ?_)
    · exact ne_bne _
    refine gs_seq (gs_if (et_test (ed_op (ed_var rfl) (ed_lst ea_nil (sz (by simp))) (rd_eqD (sh_LL _) sh_nil))) (fun h => gs_ct ?_) (fun h => gs_next ?_))
    · rw [eqv_nil] at h
      rw [stepF_nil (List.isEmpty_iff.mp h)] at e3
      exact ⟨_, _, _, _, _, _, _, e3, rfl, rfl⟩
    rw [eqv_nil] at h
    cases eh : L.filter fun r => r.getD i 0 != 0 with
    | nil =>
      rw [eh] at h
      cases h
    | cons hd tl =>
      have hm := List.mem_filter.mp (show hd ∈ L.filter fun r => r.getD i 0 != 0 by rw [eh]; exact List.mem_cons_self)
      have hok := q1 hd hm.1
      have hx := hok.at_ hi
      have hnz : hd.getD i 0 ≠ 0 := by simpa using hm.2
      obtain ⟨o, ho, o1, o2, o3⟩ := hp.inv (x := hd.getD i 0) (by omega) hx.2.2
      rw [stepF_cons eh, ho, Option.getD_some] at e3
      have hown := own_ok (p := p) (n := n) (h := hd) (f := o) (by omega) hok.1
      refine gs_seq (gs_asg (ed_call (ea_cons (ed_var rfl) (ea_cons (ed_op (ed_op (ed_var rfl) ed_int (rd_ix0 true)) (ed_var rfl) (rd_ixRow true hok hi)) ea_nil)) ⟨p, _, o, rfl, by omega, by omega, ho, rfl⟩) ?_)
      refine gs_seq (gs_asg (ed_lcm (as := hd) (enc := .int) (fun x => .int (o * x % p)) (ei_list (ed_op (ed_var rfl) ed_int (rd_ix0 true))) (by have := hok.1; omega) fun x hx => ⟨_, _, gt_name, by simp, fun s => ed_op (ed_op (ed_var rfl) (ed_var rfl) (rd_I (by trivial))) (ed_var rfl) (rd_I (by trivial))⟩) ?_)
      have hL : ∀ (M : List (List Int)), RowsOk p n M → ∀ r ∈ M, R_added [.int p, eL r, .list (hd.map fun x => .int (o * x % p)), .int (-(r.getD i 0))] (eL (addF p r (hd.map fun x => o * x % p) (-(r.getD i 0)))) := fun M hM r hq => by
        have h1 := (hM r hq).at_ hi
        exact ⟨p, r, _, _, true, true, by simp [sqD, eL], by omega, by omega, by omega, by omega, by have := (hM r hq).1; omega, rfl⟩
      refine gs_seq (gs_asg (ed_is (ed_lcm (as := L) (enc := eL) (fun r => eL (addF p r (hd.map fun x => o * x % p) (-(r.getD i 0)))) (ei_list (ed_var rfl)) (by omega) fun r hq => ⟨_, _, gt_name, by simp, fun s => ed_call (ea_cons (ed_var rfl) (ea_cons (ed_var rfl) (ea_cons (ed_var rfl) (ea_cons (ed_un (ed_op (ed_var rfl) (ed_var rfl) (rd_ixRow true (q1 r hq) hi)) ru_I) ea_nil)))) (hL L q1 r hq)⟩) (congrArg PyData.list (mm _ eL L).symm)) ?_)
      refine gs_asg (ed_is (ed_op (ed_lcm (as := F) (enc := eL) (fun r => eL (addF p r (hd.map fun x => o * x % p) (-(r.getD i 0)))) (ei_list (ed_var rfl)) (by omega) fun r hq => ⟨_, _, gt_name, by simp, fun s => ed_call (ea_cons (ed_var rfl) (ea_cons (ed_var rfl) (ea_cons (ed_var rfl) (ea_cons (ed_un (ed_op (ed_var rfl) (ed_var rfl) (rd_ixRow true (q2 r hq) hi)) ru_I) ea_nil)))) (hL F q2 r hq)⟩) (ed_lst (ea_cons (ed_var rfl) ea_nil) (sz (by simp))) (rd_catL (by simp; omega))) (show _ = PyData.list (((F.map fun r => addF p r (hd.map fun x => o * x % p) (-(r.getD i 0))) ++ [hd.map fun x => o * x % p]).map eL) by simp [eL, Function.comp_def])) ?_
      exact ⟨_, _, _, _, _, _, _, e3, rfl, rfl⟩
end Pm


set_option Elab.async false
set_option linter.all false
set_option maxRecDepth 100000
set_option maxHeartbeats 4000000
set_option autoImplicit false
namespace Pm
open PySem PySem.Spec PyProof.Rows L2 Dl Bx
variable {P : Program} {w : World} {K : PySem.W.Frag} {mg : Str → Option Value} {base : Heap}
local macro_rules | `(tactic| trivial) => `(tactic| first | omega | exact Or.inr ⟨by omega, by omega⟩ | exact Or.inl ⟨by omega, by omega⟩ | exact ⟨by omega, by omega⟩)
/-- a flat as data -/
def eF (p : Int) (n : Nat) (rows : List (List Int)) : PyData := .tuple [.int p, .int (n : Int), .tuple (rows.map eT)]
def R_flat_of : Rel := fun ds d => ∃ (p : Int) (n : Nat) (rows : List (List Int)) (c c2 : Bool), ds = [.int p, .int (n : Int), sqD c (rows.map fun r => sqD c2 (r.map .int))] ∧ Pr p ∧ n ≤ 100 ∧ rows.length ≤ 1000 ∧ RowsOk p n rows ∧ d = eF p n (stairF p n rows)
theorem sc_flat_of : FnScope ["prime", "ends", "rows", "row"] ["prime", "ends", "rows"] (defScope (Bx.top 11)) := ⟨rfl, rfl, rfl, by decide +kernel, rfl, by decide +kernel, by decide +kernel⟩
theorem ok_flat_of (T : Tx w K mg base) : C8.Cal P w K mg base 3 "flat_of" (spD K R_flat_of) [] := by
  obtain ⟨fd, F⟩ := T.f_flat_of
  have ok_stairs_of := ok_stairs_of (P := P) T
  refine cal_pure F T.g_flat_of (F.bindsN (fun _ _ _ _ _ _ us hl => match us, hl with | [_, _, _], _ => rfl)) sc_flat_of (by rintro _ _ ⟨p, n, rows, c, c2, rfl, hp, hn, hl, hR, rfl⟩ <;> rfl) ?_
  rintro _ _ ⟨p, n, rows, c, c2, rfl, hp, hn, hl, hR, rfl⟩ cdv A outer sh H E hr
  have nd := sc_flat_of.nd
  refine ⟨_, (pss_one (ps_ret (pe_tup (pa_cons (pv 0) (pa_cons (pv 1) (pa_cons (pe_callTy (Mk.tuple K rfl) (by rfl) T.b_tuple PyProof.Rows.boot_tuple (pa_cons (pe_lc (own := [("row", 3)]) (g := (gName 3)) (tt := tYes) rfl nd (pi_list (C8.pe_c ok_stairs_of hr (by decide) (by rfl) (pa_cons (pv 0) (pa_cons (pv 1) (pa_cons (pv 2) pa_nil))))) (blkOk_by (by rfl)) (fun _ _ _ _ _ => (pg_name (i := 3) nd rfl (.inl rfl))) (fun _ _ _ _ _ => pts_nil) (fun _ _ _ _ _ => (pe_callTy (Mk.tuple K rfl) (by rfl) T.b_tuple PyProof.Rows.boot_tuple (pa_cons (pv 3) pa_nil)))) pa_nil)) pa_nil)))))), ?_⟩
  have hlen := stairF_len (p := p) (n := n) (rows := rows)
  exact gs_ret (ed_tup (ea_cons (ed_var rfl) (ea_cons (ed_var rfl) (ea_cons (ed_cb (ea_cons (ed_lcm (as := stairF p n rows) (enc := eL) eT (ei_list (ed_call (ea_cons (ed_var rfl) (ea_cons (ed_var rfl) (ea_cons (ed_var rfl) ea_nil))) ⟨p, n, rows, c, c2, rfl, hp, hn, hl, hR, rfl⟩)) (by omega)
    fun r hr => ⟨_, _, gt_name, by simp, fun s => ed_cb (ea_cons (ed_var rfl) ea_nil) rc_tuple⟩) ea_nil) rc_tuple) ea_nil))) (sz (by simp))) rfl
/-! ### has -/
theorem leadF_lt {r : List Int} {i : Nat} (h : leadF r = some i) : i < r.length := (List.findIdx?_eq_some_iff_getElem.mp h).1
def redF (p : Int) (rows : List (List Int)) (v : List Int) : List Int := rows.foldl (fun l o => addF p l o (-(l.getD ((leadF o).getD 0) 0))) v
def LeadsOk (rows : List (List Int)) : Prop := ∀ r ∈ rows, (leadF r).isSome = true
theorem LeadsOk.at_ {rows : List (List Int)} (h : LeadsOk rows) {r : List Int} (hr : r ∈ rows) : leadF r = some ((leadF r).getD 0) := by
  have := h r hr
  cases e : leadF r with
  | none =>
    rw [e] at this
    cases this
  | some i => rfl
theorem redF_ok {p : Int} {n : Nat} (hp : 0 < p) : ∀ (rows : List (List Int)) (v : List Int), RowsOk p n rows → RowOk p n v → RowOk p n (redF p rows v)
  | [], v, _, h => h
  | o :: rows, v, h1, h2 => redF_ok hp rows _ (fun r hr => h1 r (List.mem_cons_of_mem _ hr)) (addF_ok hp h2.1 (h1 o List.mem_cons_self).1)
def R_has : Rel := fun ds d => ∃ (p : Int) (n : Nat) (rows : List (List Int)) (v : List Int) (c : Bool), ds = [eF p n rows, sqD c (v.map .int)] ∧ Pr p ∧ n ≤ 100 ∧ rows.length ≤ 1000 ∧ RowsOk p n rows ∧ LeadsOk rows ∧ RowOk p n v ∧ d = .bool (leadF (redF p rows v)).isNone
theorem isNon_encO (o : Option Nat) : isNon (encO o) = o.isNone := by cases o <;> rfl
theorem sc_has : FnScope ["flat", "row", "prime", "ends", "rows", "left", "own"] ["flat", "row"] (defScope (Bx.top 12)) := ⟨rfl, rfl, rfl, by decide +kernel, rfl, by decide +kernel, by decide +kernel⟩
theorem ok_has (T : Tx w K mg base) : C8.Cal P w K mg base 2 "has" (spD K R_has) [] := by
  obtain ⟨fd, F⟩ := T.f_has
  have ok_added := ok_added (P := P) T
  have ok_lead_of_flats := ok_lead_of_flats (P := P) T
  refine cal_pure F T.g_has (F.bindsN (fun _ _ _ _ _ _ us hl => match us, hl with | [_, _], _ => rfl)) sc_has (by rintro _ _ ⟨p, n, rows, v, c, rfl, hp, hn, hl, hR, hL, hv, rfl⟩ <;> rfl) ?_
  rintro _ _ ⟨p, n, rows, v, c, rfl, hp, hn, hl, hR, hL, hv, rfl⟩ cdv A outer sh H E hr
  have nd := sc_has.nd
  refine ⟨_, (pss_cons (ps_asg (pv 0) (pg_tup rfl (pgs_cons (pg_name (i := 2) nd rfl (.inl rfl)) (pgs_cons (pg_name (i := 3) nd rfl (.inl rfl)) (pgs_cons (pg_name (i := 4) nd rfl (.inl rfl)) pgs_nil)))))
      (pss_cons (ps_set (i := 5) nd rfl (.inl rfl) (pe_callTy (Mk.list K rfl) (by rfl) T.b_list PyProof.Rows.boot_list (pa_cons (pv 1) pa_nil)))
      (pss_cons (ps_for PassesOwn.never rfl (pi_tup (pv 4)) (pg_name (i := 6) nd rfl (.inl rfl)) (pss_one (ps_set (i := 5) nd rfl (.inl rfl) (C8.pe_c ok_added hr (by decide) (by rfl) (pa_cons (pv 2) (pa_cons (pv 5) (pa_cons (pv 6) (pa_cons (pe_un un_neg (pe_ix (Mk.ix K rfl) (pv 5) (C8.pe_c ok_lead_of_flats hr (by decide) (by rfl) (pa_cons (pv 6) pa_nil)) (fun _ _ => rfl))) pa_nil))))))))
      (pss_one (ps_ret (pe_cmpR op_isN (C8.pe_c ok_lead_of_flats hr (by decide) (by rfl) (pa_cons (pv 5) pa_nil)) pe_non (nomark _))))))), ?_⟩
  have hb := hp.b
  refine gs_seq (gs_asgT (ed_var rfl) (gt_tup (gts_cons gt_name (gts_cons gt_name (gts_cons gt_name gts_nil))) rfl) ?_)
  refine gs_seq (gs_asg (ed_cb (ea_cons (ed_var rfl) ea_nil) rc_listC) ?_)
  refine gs_seq (gs_for (as := rows) (enc := eT) (ei_tup (ed_var rfl)) (fun i Γ S => ∃ l s6, redF p (rows.drop i) l = redF p rows v ∧ RowOk p n l ∧ Γ = [.dat (eF p n rows), .dat (sqD c (v.map .int)), .dat (.int p), .dat (.int (n : Int)), .dat (.tuple (rows.map eT)), .dat (eL l), s6] ∧ S = S0) ⟨v, _, by simp, hv, rfl, rfl⟩ ?_ ?_)
  · rintro i o Γ' S' ho ⟨l, s6, e, hlo, rfl, rfl⟩
    have hmem := List.mem_of_getElem? ho
    have hlead := hL.at_ hmem
    have hoo := hR o hmem
    have hi := leadF_lt hlead
    rw [hoo.1] at hi
    have hat := hlo.at_ hi
    refine ⟨_, _, gt_name, gs_asg (ed_call (ea_cons (ed_var rfl) (ea_cons (ed_var rfl) (ea_cons (ed_var rfl) (ea_cons (ed_un (ed_op (ed_var rfl) (ed_call (ea_cons (ed_var rfl) ea_nil) (d := .int (((leadF o).getD 0 : Nat) : Int)) ⟨o, false, rfl, by have := hoo.1; omega, by rw [hlead]; rfl⟩) (rd_ixRow true hlo hi)) ru_I) ea_nil)))) ⟨p, l, o, _, true, false, rfl, by omega, by omega, by omega, by omega, by have := hlo.1; omega, rfl⟩) ?_⟩
    refine ⟨_, _, ?_, addF_ok (by omega) hlo.1 hoo.1, rfl, rfl⟩
    rw [← e, drop_get ho]
    rfl
  · rintro Γ' S' ⟨l, s6, e, hlo, rfl, rfl⟩
    rw [List.drop_length] at e
    have e' : l = redF p rows v := e
    refine gs_ret (ed_op (ed_call (ea_cons (ed_var rfl) ea_nil) ⟨l, true, rfl, by have := hlo.1; omega, rfl⟩) ed_non rd_isN) ?_
    rw [isNon_encO, e']
    rfl
/-! ### upright -/
def leadsF (rows : List (List Int)) : List Int := rows.map fun r => (((leadF r).getD 0 : Nat) : Int)
def dualF (p : Int) (n : Nat) (rows : List (List Int)) (q : Nat) : List Int := rows.foldl (fun o r => o.set ((leadF r).getD 0) (-(r.getD q 0) % p)) ((List.replicate n 0).set q 1)
def upAt (p : Int) (n : Nat) (rows : List (List Int)) (i : Nat) : List (List Int) := ((List.range i).filter fun (q : Nat) => !decide ((q : Int) ∈ leadsF rows)).map (dualF p n rows)
def upF (p : Int) (n : Nat) (rows : List (List Int)) : List (List Int) := upAt p n rows n
theorem upAt_yes {p : Int} {n : Nat} {rows : List (List Int)} {i : Nat} (h : (!decide ((i : Int) ∈ leadsF rows)) = true) : upAt p n rows (i + 1) = upAt p n rows i ++ [dualF p n rows i] := by
  unfold upAt
  rw [List.range_succ, List.filter_append, List.map_append]
  exact congrArg (_ ++ ·) (by rw [List.filter_cons_of_pos (by exact h)] <;> rfl)
theorem upAt_no {p : Int} {n : Nat} {rows : List (List Int)} {i : Nat} (h : (!decide ((i : Int) ∈ leadsF rows)) = false) : upAt p n rows (i + 1) = upAt p n rows i := by
  unfold upAt
  rw [List.range_succ, List.filter_append, List.map_append]
  rw [List.filter_cons_of_neg (a := i) (by rw [h]; exact Bool.false_ne_true)]
  simp
theorem set_ok {p : Int} {n : Nat} {r : List Int} {i : Nat} {x : Int} (h : RowOk p n r) (h1 : 0 ≤ x) (h2 : x < p) : RowOk p n (r.set i x) := by
  refine ⟨by rw [List.length_set, h.1], fun y hy => ?_⟩
  rcases List.mem_or_eq_of_mem_set hy with hy | rfl
  · exact h.2 y hy
  · exact ⟨h1, h2⟩
theorem rep_ok {p : Int} {n : Nat} (hp : 0 < p) : RowOk p n (List.replicate n 0) := ⟨by simp, fun y hy => by
  rw [List.eq_of_mem_replicate hy]
  omega⟩
theorem fold_set_ok {p : Int} {n : Nat} {q : Nat} (hp : 0 < p) : ∀ (rows : List (List Int)) (o : List Int), RowOk p n o → RowOk p n (rows.foldl (fun o r => o.set ((leadF r).getD 0) (-(r.getD q 0) % p)) o)
  | [], o, h => h
  | r :: rows, o, h => fold_set_ok hp rows _ (set_ok h (Int.emod_nonneg _ (by omega)) (Int.emod_lt_of_pos _ hp))
theorem dualF_ok {p : Int} {n : Nat} {rows : List (List Int)} {q : Nat} (hp : 1 < p) : RowOk p n (dualF p n rows q) := fold_set_ok (by omega) _ _ (set_ok (rep_ok (by omega)) (by omega) hp)
theorem upAt_ok {p : Int} {n : Nat} {rows : List (List Int)} {i : Nat} (hp : 1 < p) : RowsOk p n (upAt p n rows i) := fun r hr => by
  obtain ⟨q, _, rfl⟩ := List.mem_map.mp hr
  exact dualF_ok hp
theorem upAt_len {p : Int} {n : Nat} {rows : List (List Int)} {i : Nat} : (upAt p n rows i).length ≤ i := by
  unfold upAt
  rw [List.length_map]
  have := List.length_filter_le (fun (q : Nat) => !decide ((q : Int) ∈ leadsF rows)) (List.range i)
  rwa [List.length_range] at this
theorem en_is {C : Cq} {te : TE} {Γ : List Sl} {S S' : Sto} {xs ys : List PyData} (h : EvN C te Γ S xs S') (e : xs = ys) : EvN C te Γ S ys S' := e ▸ h
theorem rep_ints (n : Nat) (x : Int) : (List.replicate (n : Int).toNat [PyData.int x]).flatten = (List.replicate n x).map PyData.int := by
  rw [Int.toNat_natCast]
  induction n with
  | zero => rfl
  | succ n ih => rw [List.replicate_succ, List.flatten_cons, ih, List.replicate_succ, List.map_cons] <;> rfl
theorem ixN_lt {n j : Nat} (h : j < n) : ixN n (j : Int) = some j := by
  rw [ixN_nat (by omega) (by omega), Int.toNat_natCast]
def R_upright : Rel := fun ds d => ∃ (p : Int) (n : Nat) (rows : List (List Int)), ds = [eF p n rows] ∧ Pr p ∧ n ≤ 100 ∧ rows.length ≤ 1000 ∧ RowsOk p n rows ∧ LeadsOk rows ∧ d = eF p n (stairF p n (upF p n rows))
theorem sc_upright : FnScope ["flat", "prime", "ends", "rows", "row", "leads", "found", "place", "own", "lead"] ["flat"] (defScope (Bx.top 13)) := ⟨rfl, rfl, rfl, by decide +kernel, rfl, by decide +kernel, by decide +kernel⟩
theorem ok_upright (T : Tx w K mg base) : C8.Cal P w K mg base 4 "upright" (spD K R_upright) [] := by
  obtain ⟨fd, F⟩ := T.f_upright
  have ok_flat_of := ok_flat_of (P := P) T
  have ok_lead_of_flats := ok_lead_of_flats (P := P) T
  refine cal_pure F T.g_upright (F.bindsN (fun _ _ _ _ _ _ us hl => match us, hl with | [_], _ => rfl)) sc_upright (by rintro _ _ ⟨p, n, rows, rfl, hp, hn, hl, hR, hL, rfl⟩ <;> rfl) ?_
  rintro _ _ ⟨p, n, rows, rfl, hp, hn, hl, hR, hL, rfl⟩ cdv A outer sh H E hr
  have nd := sc_upright.nd
  refine ⟨_, (pss_cons (ps_asg (pv 0) (pg_tup rfl (pgs_cons (pg_name (i := 1) nd rfl (.inl rfl)) (pgs_cons (pg_name (i := 2) nd rfl (.inl rfl)) (pgs_cons (pg_name (i := 3) nd rfl (.inl rfl)) pgs_nil)))))
      (pss_cons (ps_par (i := 5) (j := 6) rfl nd rfl rfl (by decide) rfl rfl (pa_cons (pe_lc (own := [("row", 4)]) (g := (gName 4)) (tt := tYes) rfl nd (pi_tup (pv 3)) (blkOk_by (by rfl)) (fun _ _ _ _ _ => (pg_name (i := 4) nd rfl (.inl rfl))) (fun _ _ _ _ _ => pts_nil) (fun _ _ _ _ _ => (C8.pe_c ok_lead_of_flats hr (by decide) (by rfl) (pa_cons (pv 4) pa_nil)))) (pa_cons (pe_lst pa_nil) pa_nil)) (by rfl))
      (pss_cons (ps_for PassesOwn.never rfl (pi_range1 (by rfl) T.b_range (pa_cons (pv 2) pa_nil)) (pg_name (i := 7) nd rfl (.inl rfl)) (pss_one (ps_if (pt_cmpR (Mk.notIn K rfl) (pv 7) (pv 5) rfl) (pss_cons (ps_set (i := 8) nd rfl (.inl rfl) (pe_op op_rep (pe_lst (pa_cons pe_int pa_nil)) (pv 2)))
      (pss_cons (ps_asg pe_int (pg_sub (pv 8) (pv 7) set_list))
      (pss_cons (ps_for PassesOwn.never rfl (Ml.pi_zipC true false (by rfl) T.b_zip (pa_cons (pv 5) (pa_cons (pv 3) pa_nil))) (pg_tup rfl (pgs_cons (pg_name (i := 9) nd rfl (.inl rfl)) (pgs_cons (pg_name (i := 4) nd rfl (.inl rfl)) pgs_nil))) (pss_one (ps_asg (pe_op op_mod (pe_un un_neg (pe_ix (Mk.ix K rfl) (pv 4) (pv 7) (fun _ _ => rfl))) (pv 1)) (pg_sub (pv 8) (pv 9) set_list))))
      (pss_one (ps_expr (pe_bm PySem.F.plainAttrs_list PySem.F.slot_list_append PySem.F.type_list_append mt_append (pv 6) (pa_cons (pv 8) pa_nil))))))) pss_nil)))
      (pss_one (ps_ret (C8.pe_c ok_flat_of hr (by decide) (by rfl) (pa_cons (pv 1) (pa_cons (pv 2) (pa_cons (pv 6) pa_nil))))))))), ?_⟩
  have hb := hp.b
  refine gs_seq (gs_asgT (ed_var rfl) (gt_tup (gts_cons gt_name (gts_cons gt_name (gts_cons gt_name gts_nil))) rfl) ?_)
  refine gs_seq (gs_parDO (ed_is (ed_lcm (as := rows) (enc := eT) (fun r => .int ((((leadF r).getD 0 : Nat) : Int))) (ei_tup (ed_var rfl)) (by omega) fun r hr => ⟨_, _, gt_name, by simp, fun s => ed_call (ea_cons (ed_var rfl) ea_nil) ⟨r, false, rfl, by have := (hR r hr).1; omega, by rw [hL.at_ hr]; rfl⟩⟩) (congrArg PyData.list (mm _ PyData.int rows).symm)) (en_lst ea_nil (sz (by simp))) ?_)
  refine gs_seq (gs_for (as := List.range n) (enc := fun (j : Nat) => .int (j : Int)) (ei_is (ei_rng1 (ea_cons (ed_var rfl) ea_nil) ⟨by omega, by omega⟩) (rng0 n)) (fun i Γ S => ∃ s4 s7 s8 s9, Γ = [.dat (eF p n rows), .dat (.int p), .dat (.int (n : Int)), .dat (.tuple (rows.map eT)), s4, .dat (.list ((leadsF rows).map .int)), .own ((upAt p n rows i).map eL), s7, s8, s9] ∧ S = S0) ⟨_, _, _, _, rfl, rfl⟩ ?_ ?_)
  · rintro i a Γ' S' ha ⟨s4, s7, s8, s9, rfl, rfl⟩
    obtain ⟨rfl, hi⟩ := range_get ha
    refine ⟨_, _, gt_name, gs_if (et_test (ed_op (ed_var rfl) (ed_var rfl) (rd_inI (ns := leadsF rows)))) (fun h => ?_) (fun h => gs_next ?_)⟩
    · refine gs_seq (gs_asgO (en_is (en_rep (ea_cons ed_int ea_nil) (ed_var rfl) (by simp) (by omega)) (rep_ints n 0)) ?_)
      refine gs_seq (gs_set (xs := (List.replicate n 0).map PyData.int) (j := i) rfl ed_int (ed_var rfl) (ixN_lt (by simp; omega)) ?_)
      refine gs_seq (gs_for (as := rows) (enc := fun r => pairD (.int ((((leadF r).getD 0 : Nat) : Int))) (eT r)) (ei_is (ei_zip (c1 := true) (c2 := false) (ea_cons (ed_var rfl) (ea_cons (ed_var rfl) ea_nil))) ?_)
        (fun k Γ S => ∃ o s4 s9, RowOk p n o ∧ (rows.drop k).foldl (fun o r => o.set ((leadF r).getD 0) (-(r.getD i 0) % p)) o = dualF p n rows i ∧ Γ = [.dat (eF p n rows), .dat (.int p), .dat (.int (n : Int)), .dat (.tuple (rows.map eT)), s4, .dat (.list ((leadsF rows).map .int)), .own ((upAt p n rows i).map eL), .dat (.int (i : Int)), .own (o.map .int), s9] ∧ S = S0)
        ⟨(List.replicate n 0).set i 1, _, _, set_ok (rep_ok (by omega)) (by omega) (by omega), rfl, by rw [List.map_set]; rfl, rfl⟩ ?_ ?_)
      · unfold leadsF
        rw [List.map_map, List.zipWith_map, List.zipWith_self]
        rfl
      · rintro k r Γ' S' hr ⟨o, s4, s9, ho, e, rfl, rfl⟩
        have hmem := List.mem_of_getElem? hr
        have hlead := leadF_lt (hL.at_ hmem)
        rw [(hR r hmem).1] at hlead
        refine ⟨_, _, gt_tup (gts_cons gt_name (gts_cons gt_name gts_nil)) rfl, gs_set (xs := o.map PyData.int) (j := (leadF r).getD 0) rfl (ed_op (ed_un (ed_op (ed_var rfl) (ed_var rfl) (rd_ixRow false (hR r hmem) hi)) ru_I) (ed_var rfl) (rd_I (by trivial))) (ed_var rfl) (ixN_lt (by rw [List.length_map, ho.1]; omega)) ?_⟩
        refine ⟨o.set ((leadF r).getD 0) (-(r.getD i 0) % p), _, _, set_ok ho (Int.emod_nonneg _ (by omega)) (Int.emod_lt_of_pos _ (by omega)), ?_, by rw [List.map_set]; rfl, rfl⟩
        rw [← e, drop_get hr]
        rfl
      · rintro Γ' S' ⟨o, s4, s9, ho, e, rfl, rfl⟩
        rw [List.drop_length] at e
        have e' : o = dualF p n rows i := e
        subst e'
        refine gs_frz (i := 8) rfl (gs_app (i := 6) rfl (ed_var rfl) (by rw [List.length_map]; have := upAt_len (p := p) (n := n) (rows := rows) (i := i); omega) ?_)
        exact ⟨_, _, _, _, by rw [upAt_yes h, List.map_append]; rfl, rfl⟩
    · exact ⟨_, _, _, _, by rw [upAt_no h]; rfl, rfl⟩
  · rintro Γ' S' ⟨s4, s7, s8, s9, rfl, rfl⟩
    rw [List.length_range]
    have := upAt_len (p := p) (n := n) (rows := rows) (i := n)
    exact gs_frz (i := 6) rfl (gs_ret (ed_call (ea_cons (ed_var rfl) (ea_cons (ed_var rfl) (ea_cons (ed_var rfl) ea_nil))) ⟨p, n, upF p n rows, true, true, rfl, hp, hn, by unfold upF; omega, upAt_ok (by omega), rfl⟩) rfl)
/-! ### part_at, turned_flat, exchanged_flat -/
def pickF (r : List Int) (places : List Nat) : List Int := places.map fun j => r.getD j 0
def R_part_at : Rel := fun ds d => ∃ (p : Int) (n : Nat) (rows : List (List Int)) (places : List Nat), ds = [eF p n rows, .tuple (places.map fun (j : Nat) => .int (j : Int))] ∧ Pr p ∧ n ≤ 100 ∧ rows.length ≤ 1000 ∧ RowsOk p n rows ∧ places.length ≤ 100 ∧ (∀ j ∈ places, j < n) ∧ d = eF p places.length (stairF p places.length (rows.map fun r => pickF r places))
theorem pick_ok {p : Int} {n : Nat} {r : List Int} {places : List Nat} (h : RowOk p n r) (hj : ∀ j ∈ places, j < n) : RowOk p places.length (pickF r places) := by
  refine ⟨by simp [pickF], fun x hx => ?_⟩
  obtain ⟨j, hm, rfl⟩ := List.mem_map.mp hx
  exact (h.at_ (hj j hm)).2
theorem sc_part_at : FnScope ["flat", "places", "prime", "ends", "rows", "row", "place"] ["flat", "places"] (defScope (Bx.top 14)) := ⟨rfl, rfl, rfl, by decide +kernel, rfl, by decide +kernel, by decide +kernel⟩
theorem ok_part_at (T : Tx w K mg base) : C8.Cal P w K mg base 4 "part_at" (spD K R_part_at) [] := by
  obtain ⟨fd, F⟩ := T.f_part_at
  have ok_flat_of := ok_flat_of (P := P) T
  refine cal_pure F T.g_part_at (F.bindsN (fun _ _ _ _ _ _ us hl => match us, hl with | [_, _], _ => rfl)) sc_part_at (by rintro _ _ ⟨p, n, rows, places, rfl, hp, hn, hl, hR, hpl, hj, rfl⟩ <;> rfl) ?_
  rintro _ _ ⟨p, n, rows, places, rfl, hp, hn, hl, hR, hpl, hj, rfl⟩ cdv A outer sh H E hr
  have nd := sc_part_at.nd
  refine ⟨_, (pss_cons (ps_asg (pv 0) (pg_tup rfl (pgs_cons (pg_name (i := 2) nd rfl (.inl rfl)) (pgs_cons (pg_name (i := 3) nd rfl (.inl rfl)) (pgs_cons (pg_name (i := 4) nd rfl (.inl rfl)) pgs_nil)))))
      (pss_one (ps_ret (C8.pe_c ok_flat_of hr (by decide) (by rfl) (pa_cons (pv 2) (pa_cons (pe_callB (Mk.len K rfl) (by rfl) T.b_len PySem.boot_len (pa_cons (pv 1) pa_nil)) (pa_cons (pe_lc (own := [("row", 5)]) (g := (gName 5)) (tt := tYes) (te := (tLc (iTup K (tVar 1)) (gName 6) tYes (tOp (rIx K) (tVar 5) (tVar 6)) [6])) rfl nd (pi_tup (pv 4)) (blkOk_by (by rfl)) (fun _ _ _ _ _ => (pg_name (i := 5) nd rfl (.inr rfl))) (fun _ _ _ _ _ => pts_nil) (fun _ _ _ _ _ => (pe_lc (own := [("place", 6)]) (g := (gName 6)) (tt := tYes) rfl nd (pi_tup (pv 1)) (blkOk_by (by rfl)) (fun _ _ _ _ _ => (pg_name (i := 6) nd rfl (.inl rfl))) (fun _ _ _ _ _ => pts_nil) (fun _ _ _ _ _ => (pe_ix (Mk.ix K rfl) (pv 5) (pv 6) (fun _ _ => rfl)))))) pa_nil))))))), ?_⟩
  have hb := hp.b
  refine gs_seq (gs_asgT (ed_var rfl) (gt_tup (gts_cons gt_name (gts_cons gt_name (gts_cons gt_name gts_nil))) rfl) ?_)
  refine gs_ret (ed_call (ea_cons (ed_var rfl) (ea_cons (ed_is (ed_cb (ea_cons (ed_var rfl) ea_nil) rc_lenT) (congrArg (fun k : Nat => PyData.int (k : Int)) (List.length_map ..))) (ea_cons (ed_lcm (as := rows) (enc := eT) (fun r => eL (pickF r places)) (ei_tup (ed_var rfl)) (by omega) fun r hr => ⟨_, _, gt_name, by simp, fun s => ed_is (ed_lcm (as := places) (enc := fun (j : Nat) => .int (j : Int)) (fun j => .int (r.getD j 0)) (ei_tup (ed_var rfl)) (by omega) fun j hjm => ⟨_, _, gt_name, by simp, fun s => ed_op (ed_var rfl) (ed_var rfl) (rd_ixRow false (hR r hr) (hj j hjm))⟩) ?_⟩) ea_nil)))
    ⟨p, places.length, rows.map fun r => pickF r places, true, true, ?_, hp, hpl, by rw [List.length_map]; exact hl, fun q hq => ?_, rfl⟩) rfl
  · unfold eL pickF
    rw [List.map_map]
    rfl
  · rw [List.map_map]
    rfl
  · obtain ⟨r, hr, rfl⟩ := List.mem_map.mp hq
    exact pick_ok (hR r hr) hj
def rotF (w : Nat) (r : List Int) : List Int := r.drop w ++ r.take w
theorem pick_rot {r : List Int} {w n : Nat} (hr : r.length = n) (hw : w ≤ n) : pickF r ((List.range (n - w)).map (w + ·) ++ List.range w) = rotF w r := by
  unfold pickF rotF
  rw [List.map_append]
  congr 1
  · apply List.ext_getElem
    · simp [hr]
    · intro i h1 h2
      simp at h1 h2
      simp [List.getD, List.getElem?_eq_getElem (show w + i < r.length by omega)]
  · apply List.ext_getElem
    · simp [hr]
      omega
    · intro i h1 h2
      simp at h1 h2
      simp [List.getD, List.getElem?_eq_getElem (show i < r.length by omega)]
theorem rgI_nat (lo n : Nat) : (rgI (lo : Int) n).map PyData.int = (((List.range n).map (lo + ·))).map fun (j : Nat) => PyData.int (j : Int) := by
  unfold rgI
  rw [List.map_map, List.map_map]
  apply List.map_congr_left
  intro j _
  simp
theorem rgI_nat0 (n : Nat) : (rgI 0 n).map PyData.int = (List.range n).map fun (j : Nat) => PyData.int (j : Int) := by
  unfold rgI
  rw [List.map_map]
  apply List.map_congr_left
  intro j _
  simp
theorem rot_ok {p : Int} {n w : Nat} {r : List Int} (h : RowOk p n r) : RowOk p n (rotF w r) := by
  refine ⟨?_, fun x hx => ?_⟩
  · unfold rotF
    rw [List.length_append, List.length_drop, List.length_take, h.1]
    omega
  · unfold rotF at hx
    rcases List.mem_append.mp hx with hx | hx
    · exact h.2 x (List.mem_of_mem_drop hx)
    · exact h.2 x (List.mem_of_mem_take hx)
def R_turned_flat : Rel := fun ds d => ∃ (p : Int) (n : Nat) (rows : List (List Int)) (wd : Nat), ds = [eF p n rows, .int (wd : Int)] ∧ Pr p ∧ n ≤ 100 ∧ rows.length ≤ 1000 ∧ RowsOk p n rows ∧ wd ≤ n ∧ d = eF p n (stairF p n (rows.map (rotF wd)))
theorem sc_turned_flat : FnScope ["flat", "left"] ["flat", "left"] (defScope (Bx.top 16)) := ⟨rfl, rfl, rfl, by decide +kernel, rfl, by decide +kernel, by decide +kernel⟩
theorem ok_turned_flat (T : Tx w K mg base) : C8.Cal P w K mg base 5 "turned_flat" (spD K R_turned_flat) [] := by
  obtain ⟨fd, F⟩ := T.f_turned_flat
  have ok_part_at := ok_part_at (P := P) T
  refine cal_pure F T.g_turned_flat (F.bindsN (fun _ _ _ _ _ _ us hl => match us, hl with | [_, _], _ => rfl)) sc_turned_flat (by rintro _ _ ⟨p, n, rows, wd, rfl, hp, hn, hl, hR, hw, rfl⟩ <;> rfl) ?_
  rintro _ _ ⟨p, n, rows, wd, rfl, hp, hn, hl, hR, hw, rfl⟩ cdv A outer sh H E hr
  have nd := sc_turned_flat.nd
  refine ⟨_, (pss_one (ps_ret (C8.pe_c ok_part_at hr (by decide) (by rfl) (pa_cons (pv 0) (pa_cons (pe_callTy (Mk.tuple K rfl) (by rfl) T.b_tuple PyProof.Rows.boot_tuple (pa_cons (pe_op (Mk.catS K rfl) (pe_listRg rfl (by rfl) T.b_list (prg_2 (by rfl) T.b_range (pv 1) (pe_ix (Mk.ix K rfl) (pv 0) pe_int (fun _ _ => rfl)))) (pe_listRg rfl (by rfl) T.b_list (prg_1 (by rfl) T.b_range (pv 1)))) pa_nil)) pa_nil))))), ?_⟩
  have hb := hp.b
  have hx : ∀ {C : Cq} {Γ : List Sl} {S : Sto}, Γ[0]? = some (.dat (eF p n rows)) → EvD C (tOp (rIx C.K) (tVar 0) (tC (.int 1))) Γ S (.int (n : Int)) S := fun h => ed_op (ed_var h) ed_int (rd_ixT (j := 1) rfl rfl)
  have hlen : ((List.range (n - wd)).map (wd + ·) ++ List.range wd).length = n := by simp; omega
  refine gs_ret (ed_is (ed_call (ea_cons (ed_var rfl) (ea_cons (ed_is (ed_cb (ea_cons (ed_op (ed_lrg2 (ed_var rfl) (hx rfl) (by omega)) (ed_lrg1 (ed_var rfl) (by omega)) (rd_catL (by simp [rgI_len]; omega))) ea_nil) rc_tuple) ?_) ea_nil)) ⟨p, n, rows, (List.range (n - wd)).map (wd + ·) ++ List.range wd, rfl, hp, hn, hl, hR, by omega, fun j hj => ?_, rfl⟩) ?_) rfl
  · rw [rgI_nat0, show ((n : Int) - (wd : Int)).toNat = n - wd by omega, rgI_nat, Int.toNat_natCast, ← List.map_append]
  · rcases List.mem_append.mp hj with hj | hj
    · obtain ⟨i, hi, rfl⟩ := List.mem_map.mp hj
      have := List.mem_range.mp hi
      omega
    · have := List.mem_range.mp hj
      omega
  · rw [hlen]
    congr 2
    exact List.map_congr_left fun r hr => pick_rot (hR r hr).1 hw
def negF (p : Int) (wd : Nat) (r : List Int) : List Int := r.take wd ++ (r.drop wd).map fun x => (0 - x) % p
theorem neg_ok {p : Int} {n wd : Nat} {r : List Int} (hp : 0 < p) (h : RowOk p n r) : RowOk p n (negF p wd r) := by
  refine ⟨?_, fun x hx => ?_⟩
  · unfold negF
    rw [List.length_append, List.length_map, List.length_drop, List.length_take, h.1]
    omega
  · unfold negF at hx
    rcases List.mem_append.mp hx with hx | hx
    · exact h.2 x (List.mem_of_mem_take hx)
    · obtain ⟨y, _, rfl⟩ := List.mem_map.mp hx
      exact ⟨Int.emod_nonneg _ (by omega), Int.emod_lt_of_pos _ hp⟩
theorem cut_lo {xs : List PyData} {wd : Nat} : Dl.cutD xs none (some (wd : Int)) = xs.take wd := by
  unfold Dl.cutD
  rw [HT.sIx_nat, HT.sIx_none, List.drop_zero, Nat.sub_zero]
  by_cases h : wd ≤ xs.length
  · rw [Nat.min_eq_left h]
  · rw [Nat.min_eq_right (by omega), List.take_of_length_le (Nat.le_refl _), List.take_of_length_le (by omega)]
theorem cut_hi {xs : List PyData} {wd : Nat} : Dl.cutD xs (some (wd : Int)) none = xs.drop wd := by
  unfold Dl.cutD
  rw [HT.sIx_nat, HT.sIx_none]
  by_cases h : wd ≤ xs.length
  · rw [Nat.min_eq_left h, List.take_of_length_le (by rw [List.length_drop]; omega)]
  · rw [Nat.min_eq_right (by omega), List.drop_of_length_le (by omega), List.drop_of_length_le (by omega)]
    simp
def exRows (p : Int) (n wd : Nat) (rows : List (List Int)) : List (List Int) := (stairF p n (upF p n rows)).map (negF p wd)
def R_exchanged_flat : Rel := fun ds d => ∃ (p : Int) (n : Nat) (rows : List (List Int)) (wd : Nat), ds = [eF p n rows, .int (wd : Int)] ∧ Pr p ∧ n ≤ 100 ∧ rows.length ≤ 1000 ∧ RowsOk p n rows ∧ LeadsOk rows ∧ wd ≤ n ∧ d = eF p n (stairF p n (exRows p n wd rows))
theorem sc_exchanged_flat : FnScope ["flat", "left", "prime", "ends", "rows", "changed", "row", "number"] ["flat", "left"] (defScope (Bx.top 17)) := ⟨rfl, rfl, rfl, by decide +kernel, rfl, by decide +kernel, by decide +kernel⟩
theorem ok_exchanged_flat (T : Tx w K mg base) : C8.Cal P w K mg base 5 "exchanged_flat" (spD K R_exchanged_flat) [] := by
  obtain ⟨fd, F⟩ := T.f_exchanged_flat
  have ok_flat_of := ok_flat_of (P := P) T
  have ok_upright := ok_upright (P := P) T
  refine cal_pure F T.g_exchanged_flat (F.bindsN (fun _ _ _ _ _ _ us hl => match us, hl with | [_, _], _ => rfl)) sc_exchanged_flat (by rintro _ _ ⟨p, n, rows, wd, rfl, hp, hn, hl, hR, hL, hw, rfl⟩ <;> rfl) ?_
  rintro _ _ ⟨p, n, rows, wd, rfl, hp, hn, hl, hR, hL, hw, rfl⟩ cdv A outer sh H E hr
  have nd := sc_exchanged_flat.nd
  refine ⟨_, (pss_cons (ps_asg (C8.pe_c ok_upright hr (by decide) (by rfl) (pa_cons (pv 0) pa_nil)) (pg_tup rfl (pgs_cons (pg_name (i := 2) nd rfl (.inr rfl)) (pgs_cons (pg_name (i := 3) nd rfl (.inl rfl)) (pgs_cons (pg_name (i := 4) nd rfl (.inl rfl)) pgs_nil)))))
      (pss_cons (ps_setLc (i := 5) (own := [("row", 6)]) (g := (gName 6)) (tt := tYes) (te := (tOp (rCatA K) (tSl (rSlA K) (tVar 6) tNoPart (tPart (tVar 1))) (tCB (Mk.rTup K) (tCons (tLc (iTup K (tSl (rSlA K) (tVar 6) (tPart (tVar 1)) tNoPart)) (gName 7) tYes (tOp (rI (fun _ j => 0 < j) fun i j => V.int (i % j)) (tOp (rI0 fun i j => V.int (i - j)) (tC (.int 0)) (tVar 7)) (tVar 2)) [7]) tNil)))) rfl nd rfl rfl (sw_true rfl rfl rfl (by decide +kernel)) (pi_tup (pv 4)) (blkOk_by (by rfl)) (fun _ _ _ _ _ => (pg_name (i := 6) nd rfl (.inl rfl))) (fun _ _ _ _ _ => pts_nil) (fun _ _ _ _ _ => (pe_op (Mk.catA K rfl) (pe_slice (Mk.slT K rfl) (pv 6) po_none (po_some (pv 1))) (pe_callTy (Mk.tuple K rfl) (by rfl) T.b_tuple PyProof.Rows.boot_tuple (pa_cons (pe_lc (own := [("number", 7)]) (g := (gName 7)) (tt := tYes) rfl nd (pi_tup (pe_slice (Mk.slT K rfl) (pv 6) (po_some (pv 1)) po_none)) (blkOk_by (by rfl)) (fun _ _ _ _ _ => (pg_name (i := 7) nd rfl (.inl rfl))) (fun _ _ _ _ _ => pts_nil) (fun _ _ _ _ _ => (pe_op op_mod (pe_op op_sub pe_int (pv 7)) (pv 2)))) pa_nil)))))
      (pss_one (ps_ret (C8.pe_c ok_flat_of hr (by decide) (by rfl) (pa_cons (pv 2) (pa_cons (pv 3) (pa_cons (pe_callTy (Mk.tuple K rfl) (by rfl) T.b_tuple PyProof.Rows.boot_tuple (pa_cons (pv 5) pa_nil)) pa_nil)))))))), ?_⟩
  have hb := hp.b
  have hU := stairF_ok (p := p) (n := n) (rows := upF p n rows) (by omega) (upAt_ok (by omega))
  have hUl := stairF_len (p := p) (n := n) (rows := upF p n rows)
  refine gs_seq (gs_asgT (ed_call (ea_cons (ed_var rfl) ea_nil) ⟨p, n, rows, rfl, hp, hn, hl, hR, hL, rfl⟩) (gt_tup (gts_cons gt_name (gts_cons gt_name (gts_cons gt_name gts_nil))) rfl) ?_)
  refine gs_seq (gs_asg (ed_is (ed_lcm (as := stairF p n (upF p n rows)) (enc := eT) (fun r => eT (negF p wd r)) (ei_tup (ed_var rfl)) (by omega) fun r hr => ⟨_, _, gt_name, by simp, fun s => ed_is (ed_op (ed_slT (ed_var rfl) eo_none (eo_some (ed_var rfl))) (ed_cb (ea_cons (ed_lcm (as := r.drop wd) (enc := .int) (fun x => .int ((0 - x) % p)) (ei_tup (ed_is (ed_slT (ed_var rfl) (eo_some (ed_var rfl)) eo_none) ?_)) (by have := (hU r hr).1; rw [List.length_drop]; omega) fun x hx => ⟨_, _, gt_name, by simp, fun s => ed_op (ed_op ed_int (ed_var rfl) rd_I0) (ed_var rfl) (rd_I (by trivial))⟩) ea_nil) rc_tuple) (rd_catT ?_)) ?_⟩) (congrArg PyData.list (mm _ eT _).symm)) ?_)
  · rw [cut_hi, ← List.map_drop]
  · have := (hU r hr).1
    rw [cut_lo, List.length_take, List.length_map, List.length_map, List.length_drop]
    omega
  · rw [cut_lo, ← List.map_take]
    unfold eT negF
    rw [List.map_append, List.map_map]
    rfl
  exact gs_ret (ed_call (ea_cons (ed_var rfl) (ea_cons (ed_var rfl) (ea_cons (ed_cb (ea_cons (ed_var rfl) ea_nil) rc_tuple) ea_nil))) ⟨p, n, exRows p n wd rows, false, false, rfl, hp, hn, by unfold exRows; rw [List.length_map]; omega, fun q hq => by
    obtain ⟨r, hr, rfl⟩ := List.mem_map.mp hq
    exact neg_ok (by omega) (hU r hr), rfl⟩) rfl
end Pm


set_option Elab.async false
set_option linter.all false
set_option maxRecDepth 100000
set_option maxHeartbeats 4000000
set_option autoImplicit false
namespace Pm
open PySem PySem.Spec PyProof.Rows L2 Dl Bx
variable {P : Program} {w : World} {K : PySem.W.Frag} {mg : Str → Option Value} {base : Heap}
local macro_rules | `(tactic| trivial) => `(tactic| first | omega | exact Or.inr ⟨by omega, by omega⟩ | exact Or.inl ⟨by omega, by omega⟩ | exact ⟨by omega, by omega⟩)
/-! ### texts -/
def eS (ws : List Str) : PyData := .list (ws.map PyData.str)
def eST (ws : List Str) : PyData := .tuple (ws.map PyData.str)
theorem lay_strs {ws : List Str} (h : ∀ x ∈ ws, PyData.strOk x = true) : PyData.canLayAll0 (ws.map PyData.str) = true := by
  induction ws with
  | nil => rfl
  | cons a r ih => simp [PyData.canLayAll0, PyData.canLay0, h a (List.mem_cons_self), ih fun x hx => h x (List.mem_cons_of_mem _ hx)]
theorem dep_strs (r : List Str) : PyData.depthAll (r.map PyData.str) = 0 := by
  induction r with
  | nil => rfl
  | cons a r ih => simp [PyData.depthAll, PyData.depth, ih]
theorem sh_eS {ws : List Str} (h : ∀ x ∈ ws, PyData.strOk x = true) : SeqAt.shaped (eS ws) = true := sh_mk (by simp [eS, PyData.canLay0, lay_strs h]) (by simp [eS, PyData.depth, dep_strs])
theorem eqv_strs (a b : List Str) : PyData.eqv (eS a) (eS b) = decide (a = b) := by
  unfold eS
  rw [PyData.eqv]
  induction a generalizing b with
  | nil => cases b <;> simp [PyData.eqvAll]
  | cons x a ih =>
    cases b with
    | nil => simp [PyData.eqvAll]
    | cons y b =>
      simp only [List.map_cons, PyData.eqvAll, PyData.eqv, ih]
      by_cases h1 : x = y <;> by_cases h2 : a = b <;> simp [h1, h2]
/-! ### the sorts -/
def R_need_sort : Rel := fun ds d => ∃ s : Str, ds = [.str s] ∧ s ∈ sortsL ∧ d = .none
theorem sc_need_sort : FnScope ["value"] ["value"] (defScope (Bx.top 23)) := ⟨rfl, rfl, rfl, by decide +kernel, rfl, by decide +kernel, by decide +kernel⟩
theorem ok_need_sort (T : Tx w K mg base) : C8.Cal P w K mg base 1 "need_sort" (spD K R_need_sort) [] := by
  obtain ⟨fd, F⟩ := T.f_need_sort
  refine cal_pure F T.g_need_sort (F.bindsN (fun _ _ _ _ _ _ us hl => match us, hl with | [_], _ => rfl)) sc_need_sort (by rintro _ _ ⟨s, rfl, hs, rfl⟩ <;> rfl) ?_
  rintro _ _ ⟨s, rfl, hs, rfl⟩ cdv A outer sh H E hr
  have nd := sc_need_sort.nd
  refine ⟨_, (pss_one (ps_if (PW.pt (pw_or (pt_not (pt_val (pe_callB (Mk.isi K rfl) (by rfl) T.b_isinstance (by decide +kernel) (pa_cons (pv 0) (pa_cons (pe_bltn (v := V.ty "str") (u := Value.type "str") rfl T.b_str (by decide +kernel) rfl) pa_nil))))) (pw_or1 (pt_cmpR (Mk.notIn K rfl) (pv 0) (pe_glob (v := V.ref (He.ga K "SORTS")) rfl T.g_SORTS rfl) rfl)))) (pss_one ps_never) pss_nil)), ?_⟩
  refine gs_if (et_or0 (et_not (et_B (ed_isi (ed_var rfl)))) (fun _ => et_test (ed_op (ed_var rfl) (ed_glob T.v_SORTS) rd_inST))) (fun h => ?_) (fun h => gs_next rfl)
  simp [hs] at h
def R_all_sorts : Rel := fun ds d => ds = [] ∧ d = eST sortsL
theorem sc_all_sorts : FnScope [] [] (defScope (Bx.top 24)) := ⟨rfl, rfl, rfl, by decide +kernel, rfl, by decide +kernel, by decide +kernel⟩
theorem ok_all_sorts (T : Tx w K mg base) : C8.Cal P w K mg base 1 "all_sorts" (spD K R_all_sorts) [] := by
  obtain ⟨fd, F⟩ := T.f_all_sorts
  refine cal_pure F T.g_all_sorts (F.bindsN (fun _ _ _ _ _ _ us hl => match us, hl with | [], _ => rfl)) sc_all_sorts (by rintro _ _ ⟨rfl, rfl⟩ <;> rfl) ?_
  rintro _ _ ⟨rfl, rfl⟩ cdv A outer sh H E hr
  have nd := sc_all_sorts.nd
  refine ⟨_, (pss_one (ps_ret (pe_glob (v := V.ref (He.ga K "SORTS")) rfl T.g_SORTS rfl))), ?_⟩
  exact gs_ret (ed_glob T.v_SORTS) rfl
def wordsOf (s : Str) : List Str := if s = "all" then wordsL else if s = "cross" then ["wire", "cross"] else (["wire", "cross"] : List Str) ++ Txt.split s " "
theorem split_fact : ∀ s ∈ sortsL, (Txt.split s " ").length ≤ 20 ∧ s.length ≤ 100 := by decide +kernel
theorem words_fact : ∀ s ∈ sortsL, (wordsOf s).length ≤ 20 ∧ ∀ x ∈ wordsOf s, PyData.strOk x = true ∧ x ∈ wordsL := by decide +kernel
def R_sort_words : Rel := fun ds d => ∃ s : Str, ds = [.str s] ∧ s ∈ sortsL ∧ d = eST (wordsOf s)
theorem sc_sort_words : FnScope ["sort"] ["sort"] (defScope (Bx.top 25)) := ⟨rfl, rfl, rfl, by decide +kernel, rfl, by decide +kernel, by decide +kernel⟩
theorem ok_sort_words (T : Tx w K mg base) : C8.Cal P w K mg base 2 "sort_words" (spD K R_sort_words) [] := by
  obtain ⟨fd, F⟩ := T.f_sort_words
  have ok_need_sort := ok_need_sort (P := P) T
  refine cal_pure F T.g_sort_words (F.bindsN (fun _ _ _ _ _ _ us hl => match us, hl with | [_], _ => rfl)) sc_sort_words (by rintro _ _ ⟨s, rfl, hs, rfl⟩ <;> rfl) ?_
  rintro _ _ ⟨s, rfl, hs, rfl⟩ cdv A outer sh H E hr
  have nd := sc_sort_words.nd
  refine ⟨_, (pss_cons (ps_expr (C8.pe_c ok_need_sort hr (by decide) (by rfl) (pa_cons (pv 0) pa_nil)))
      (pss_cons (ps_if (pt_cmpR op_eq (pv 0) pe_str (nomark _)) (pss_one (ps_ret (pe_glob (v := V.ref (He.ga K "WORDS")) rfl T.g_WORDS rfl))) pss_nil)
      (pss_one (ps_ret (pe_ifExp (pt_cmpR op_eq (pv 0) pe_str (nomark _)) (pe_tup (pa_cons pe_str (pa_cons pe_str pa_nil))) (pe_op (Mk.catA K rfl) (pe_tup (pa_cons pe_str (pa_cons pe_str pa_nil))) (pe_callTy (Mk.tuple K rfl) (by rfl) T.b_tuple PyProof.Rows.boot_tuple (pa_cons (pe_split (pv 0) pe_str) pa_nil)))))))), ?_⟩
  obtain ⟨f1, f2⟩ := split_fact s hs
  refine gs_seq (gs_drop (ed_call (ea_cons (ed_var rfl) ea_nil) ⟨s, rfl, hs, rfl⟩) ?_)
  refine gs_seq (gs_if (et_test (ed_op (ed_var rfl) ed_str rd_eqS)) (fun h => gs_ret (ed_glob T.v_WORDS) ?_) (fun h => gs_next ?_))
  · have h' := of_decide_eq_true h
    show eST wordsL = eST (wordsOf s)
    unfold wordsOf
    rw [if_pos h']
  have h' := of_decide_eq_false h
  refine gs_ret (ed_if (et_test (ed_op (ed_var rfl) ed_str rd_eqS)) (fun h2 => ed_is (d' := eST (wordsOf s)) (ed_tup (ea_cons ed_str (ea_cons ed_str ea_nil)) (sz (by simp))) ?_) (fun h2 => ed_is (d' := eST (wordsOf s)) (ed_op (ed_tup (ea_cons ed_str (ea_cons ed_str ea_nil)) (sz (by simp))) (ed_cb (ea_cons (ed_split (ed_var rfl) ed_str (by decide +kernel) (by omega)) ea_nil) rc_tuple) (rd_catT ?_)) ?_)) rfl
  · unfold wordsOf
    rw [if_neg h', if_pos (of_decide_eq_true h2)]
    rfl
  · simp
    omega
  · unfold wordsOf
    rw [if_neg h', if_neg (of_decide_eq_false h2)]
    rfl
def withF (ws : List Str) : Option Str := sortsL.find? fun s => decide (sortF (wordsOf s) = sortF ws)
def encS : Option Str → PyData
  | none => .none
  | some s => .str s
theorem sort_mem {ws : List Str} {x : Str} (h : x ∈ sortF ws) : x ∈ ws := (sortF_perm ws).mem_iff.mp h
def R_sort_with : Rel := fun ds d => ∃ ws : List Str, ds = [eS ws] ∧ ws.length < 64 ∧ (∀ x ∈ ws, PyData.strOk x = true) ∧ d = encS (withF ws)
theorem sc_sort_with : FnScope ["words", "sort"] ["words"] (defScope (Bx.top 26)) := ⟨rfl, rfl, rfl, by decide +kernel, rfl, by decide +kernel, by decide +kernel⟩
theorem ok_sort_with (T : Tx w K mg base) : C8.Cal P w K mg base 3 "sort_with" (spD K R_sort_with) [] := by
  obtain ⟨fd, F⟩ := T.f_sort_with
  have ok_sort_words := ok_sort_words (P := P) T
  refine cal_pure F T.g_sort_with (F.bindsN (fun _ _ _ _ _ _ us hl => match us, hl with | [_], _ => rfl)) sc_sort_with (by rintro _ _ ⟨ws, rfl, hl, ho, rfl⟩ <;> rfl) ?_
  rintro _ _ ⟨ws, rfl, hl, ho, rfl⟩ cdv A outer sh H E hr
  have nd := sc_sort_with.nd
  refine ⟨_, (pss_cons (ps_for PassesOwn.never rfl (pi_tup (pe_glob (v := V.ref (He.ga K "SORTS")) rfl T.g_SORTS rfl)) (pg_name (i := 1) nd rfl (.inl rfl)) (pss_one (ps_if (pt_cmpR (Mk.eqD K rfl hr.units) (pe_callB (Mk.sortT K rfl) (by rfl) T.b_sorted (by decide +kernel) (pa_cons (C8.pe_c ok_sort_words hr (by decide) (by rfl) (pa_cons (pv 1) pa_nil)) pa_nil)) (pe_callB (Mk.sortS K rfl) (by rfl) T.b_sorted (by decide +kernel) (pa_cons (pv 0) pa_nil)) (nomark _)) (pss_one (ps_ret (pv 1))) pss_nil)))
      (pss_one (ps_ret pe_non))), ?_⟩
  refine gs_seq (gs_for (as := sortsL) (enc := .str) (ei_tup (ed_glob T.v_SORTS)) (fun i Γ S => ∃ s, Γ = [.dat (eS ws), s] ∧ S = S0 ∧ withF ws = (sortsL.drop i).find? fun s => decide (sortF (wordsOf s) = sortF ws)) ⟨_, rfl, rfl, rfl⟩ ?_ ?_)
  · rintro i a Γ' S' ha ⟨s, rfl, rfl, hf⟩
    have hm := List.mem_of_getElem? ha
    obtain ⟨f1, f2⟩ := words_fact a hm
    refine ⟨_, _, gt_name, gs_if (et_is (et_test (ed_op (ed_sortT (ea_cons (ed_call (ea_cons (ed_var rfl) ea_nil) ⟨a, rfl, hm, rfl⟩) ea_nil) (by omega)) (ed_sortL (ea_cons (ed_var rfl) ea_nil) hl) (rd_eqD (sh_eS fun x hx => (f2 x (sort_mem hx)).1) (sh_eS fun x hx => ho x (sort_mem hx))))) (eqv_strs _ _)) (fun h => gs_ret (ed_var rfl) ?_) (fun h => gs_next ?_)⟩
    · rw [drop_get ha, List.find?_cons] at hf
      rw [h] at hf
      show PyData.str a = encS (withF ws)
      rw [hf]
      rfl
    · rw [drop_get ha, List.find?_cons] at hf
      rw [h] at hf
      exact ⟨_, rfl, rfl, hf⟩
  · rintro Γ' S' ⟨s, rfl, rfl, hf⟩
    rw [List.drop_length] at hf
    refine gs_ret ed_non ?_
    show PyData.none = encS (withF ws)
    rw [hf]
    rfl
def turnW (x : Str) : Str := (kv_TURNED_WORDS.lookup x).getD ""
def exchW (x : Str) : Str := (kv_EXCHANGED_WORDS.lookup x).getD ""
theorem turn_fact : ∀ x ∈ wordsL, (x, turnW x) ∈ kv_TURNED_WORDS ∧ PyData.strOk (turnW x) = true := by decide +kernel
theorem exch_fact : ∀ x ∈ wordsL, (x, exchW x) ∈ kv_EXCHANGED_WORDS ∧ PyData.strOk (exchW x) = true := by decide +kernel
def R_turned_sort : Rel := fun ds d => ∃ s : Str, ds = [.str s] ∧ s ∈ sortsL ∧ d = encS (withF ((wordsOf s).map turnW))
theorem sc_turned_sort : FnScope ["sort", "word"] ["sort"] (defScope (Bx.top 27)) := ⟨rfl, rfl, rfl, by decide +kernel, rfl, by decide +kernel, by decide +kernel⟩
theorem ok_turned_sort (T : Tx w K mg base) : C8.Cal P w K mg base 4 "turned_sort" (spD K R_turned_sort) [] := by
  obtain ⟨fd, F⟩ := T.f_turned_sort
  have ok_sort_with := ok_sort_with (P := P) T
  have ok_sort_words := ok_sort_words (P := P) T
  obtain ⟨es_TURNED_WORDS, n_TURNED_WORDS, k_TURNED_WORDS⟩ := T.k_TURNED_WORDS
  refine cal_pure F T.g_turned_sort (F.bindsN (fun _ _ _ _ _ _ us hl => match us, hl with | [_], _ => rfl)) sc_turned_sort (by rintro _ _ ⟨s, rfl, hs, rfl⟩ <;> rfl) ?_
  rintro _ _ ⟨s, rfl, hs, rfl⟩ cdv A outer sh H E hr
  have nd := sc_turned_sort.nd
  refine ⟨_, (pss_one (ps_ret (C8.pe_c ok_sort_with hr (by decide) (by rfl) (pa_cons (pe_lc (own := [("word", 1)]) (g := (gName 1)) (tt := tYes) rfl nd (pi_tup (C8.pe_c ok_sort_words hr (by decide) (by rfl) (pa_cons (pv 0) pa_nil))) (blkOk_by (by rfl)) (fun _ _ _ _ _ => (pg_name (i := 1) nd rfl (.inl rfl))) (fun _ _ _ _ _ => pts_nil) (fun _ _ _ _ _ => (pe_ix (Mk.kd (K := K) k_TURNED_WORDS rfl) (pe_glob (v := V.ref (He.ga K "TURNED_WORDS")) rfl T.g_TURNED_WORDS rfl) (pv 1) (fun _ _ => rfl)))) pa_nil)))), ?_⟩
  obtain ⟨f1, f2⟩ := words_fact s hs
  refine gs_ret (ed_call (ea_cons (ed_is (ed_lcm (as := wordsOf s) (enc := .str) (fun x => .str (turnW x)) (ei_tup (ed_call (ea_cons (ed_var rfl) ea_nil) ⟨s, rfl, hs, rfl⟩)) (by omega) fun x hx => ⟨_, _, gt_name, by simp, fun s => ed_kix (strAt_ok T.ex.2.2.1 (turn_fact x (f2 x hx).2).1) (ed_var rfl)⟩) (congrArg PyData.list (mm turnW PyData.str _).symm)) ea_nil) ⟨(wordsOf s).map turnW, rfl, by rw [List.length_map]; omega, fun x hx => ?_, rfl⟩) rfl
  obtain ⟨y, hy, rfl⟩ := List.mem_map.mp hx
  exact (turn_fact y (f2 y hy).2).2
def R_exchanged_sort : Rel := fun ds d => ∃ s : Str, ds = [.str s] ∧ s ∈ sortsL ∧ d = encS (withF ((wordsOf s).map exchW))
theorem sc_exchanged_sort : FnScope ["sort", "word"] ["sort"] (defScope (Bx.top 28)) := ⟨rfl, rfl, rfl, by decide +kernel, rfl, by decide +kernel, by decide +kernel⟩
theorem ok_exchanged_sort (T : Tx w K mg base) : C8.Cal P w K mg base 4 "exchanged_sort" (spD K R_exchanged_sort) [] := by
  obtain ⟨fd, F⟩ := T.f_exchanged_sort
  have ok_sort_with := ok_sort_with (P := P) T
  have ok_sort_words := ok_sort_words (P := P) T
  obtain ⟨es_EXCHANGED_WORDS, n_EXCHANGED_WORDS, k_EXCHANGED_WORDS⟩ := T.k_EXCHANGED_WORDS
  refine cal_pure F T.g_exchanged_sort (F.bindsN (fun _ _ _ _ _ _ us hl => match us, hl with | [_], _ => rfl)) sc_exchanged_sort (by rintro _ _ ⟨s, rfl, hs, rfl⟩ <;> rfl) ?_
  rintro _ _ ⟨s, rfl, hs, rfl⟩ cdv A outer sh H E hr
  have nd := sc_exchanged_sort.nd
  refine ⟨_, (pss_one (ps_ret (C8.pe_c ok_sort_with hr (by decide) (by rfl) (pa_cons (pe_lc (own := [("word", 1)]) (g := (gName 1)) (tt := tYes) rfl nd (pi_tup (C8.pe_c ok_sort_words hr (by decide) (by rfl) (pa_cons (pv 0) pa_nil))) (blkOk_by (by rfl)) (fun _ _ _ _ _ => (pg_name (i := 1) nd rfl (.inl rfl))) (fun _ _ _ _ _ => pts_nil) (fun _ _ _ _ _ => (pe_ix (Mk.kd (K := K) k_EXCHANGED_WORDS rfl) (pe_glob (v := V.ref (He.ga K "EXCHANGED_WORDS")) rfl T.g_EXCHANGED_WORDS rfl) (pv 1) (fun _ _ => rfl)))) pa_nil)))), ?_⟩
  obtain ⟨f1, f2⟩ := words_fact s hs
  refine gs_ret (ed_call (ea_cons (ed_is (ed_lcm (as := wordsOf s) (enc := .str) (fun x => .str (exchW x)) (ei_tup (ed_call (ea_cons (ed_var rfl) ea_nil) ⟨s, rfl, hs, rfl⟩)) (by omega) fun x hx => ⟨_, _, gt_name, by simp, fun s => ed_kix (strAt_ok T.ex.2.2.2.1 (exch_fact x (f2 x hx).2).1) (ed_var rfl)⟩) (congrArg PyData.list (mm exchW PyData.str _).symm)) ea_nil) ⟨(wordsOf s).map exchW, rfl, by rw [List.length_map]; omega, fun x hx => ?_, rfl⟩) rfl
  obtain ⟨y, hy, rfl⟩ := List.mem_map.mp hx
  exact (exch_fact y (f2 y hy).2).2
end Pm


set_option Elab.async false
set_option linter.all false
set_option maxRecDepth 100000
set_option maxHeartbeats 4000000
set_option autoImplicit false
namespace Pm
open PySem PySem.Spec PyProof.Rows L2 Dl Bx
variable {P : Program} {w : World} {K : PySem.W.Frag} {mg : Str → Option Value} {base : Heap}
local macro_rules | `(tactic| trivial) => `(tactic| first | omega | exact Or.inr ⟨by omega, by omega⟩ | exact Or.inl ⟨by omega, by omega⟩ | exact ⟨by omega, by omega⟩)
/-! ### reduced rows have leads -/
theorem addF_get {p : Int} {n : Nat} {r o : List Int} {f : Int} (hr : r.length = n) (ho : o.length = n) (j : Nat) : (addF p r o f).getD j 0 = (r.getD j 0 + f * o.getD j 0) % p := by
  unfold addF
  by_cases h : j < n
  · simp [List.getD, List.getElem?_zipWith, List.getElem?_eq_getElem (show j < r.length by omega), List.getElem?_eq_getElem (show j < o.length by omega)]
  · simp [List.getD, List.getElem?_zipWith, List.getElem?_eq_none (show r.length ≤ j by omega), List.getElem?_eq_none (show o.length ≤ j by omega)]
theorem own_get {p f : Int} {h : List Int} (j : Nat) : (h.map fun x => f * x % p).getD j 0 = f * h.getD j 0 % p := by
  by_cases hj : j < h.length
  · simp [List.getD, List.getElem?_eq_getElem hj]
  · simp [List.getD, List.getElem?_eq_none (show h.length ≤ j by omega)]
structure StInv (p : Int) (n i : Nat) (S : List (List Int) × List (List Int)) : Prop where
  ok1 : RowsOk p n S.1
  ok2 : RowsOk p n S.2
  zero : ∀ r ∈ S.1, ∀ k, k < i → r.getD k 0 = 0
  one : ∀ r ∈ S.2, ∃ l, l < i ∧ r.getD l 0 = 1
theorem stepF_inv {p : Int} {n i : Nat} {S : List (List Int) × List (List Int)} (hp : Pr p) (hi : i < n) (I : StInv p n i S) : StInv p n (i + 1) (stepF p i S) := by
  have hb := hp.b
  have hok := stepF_ok (p := p) (n := n) (j := i) (S := S) (by omega) I.ok1 I.ok2
  cases e : S.1.filter fun r => r.getD i 0 != 0 with
  | nil =>
    rw [stepF_nil e]
    refine ⟨I.ok1, I.ok2, fun r hr k hk => ?_, fun r hr => ?_⟩
    · by_cases h : k = i
      · subst h
        have := List.filter_eq_nil_iff.mp e r hr
        simpa using this
      · exact I.zero r hr k (by omega)
    · obtain ⟨l, h1, h2⟩ := I.one r hr
      exact ⟨l, by omega, h2⟩
  | cons hd tl =>
    have hm := List.mem_filter.mp (show hd ∈ S.1.filter fun r => r.getD i 0 != 0 by rw [e]; exact List.mem_cons_self)
    have hdok := I.ok1 hd hm.1
    have hx := hdok.at_ hi
    have hnz : hd.getD i 0 ≠ 0 := by simpa using hm.2
    obtain ⟨o, ho, o1, o2, o3⟩ := hp.inv (x := hd.getD i 0) (by omega) hx.2.2
    rw [stepF_cons e] at hok ⊢
    rw [ho, Option.getD_some] at hok ⊢
    have hown := own_ok (p := p) (n := n) (h := hd) (f := o) (by omega) hdok.1
    have g1 : (hd.map fun x => o * x % p).getD i 0 = 1 := by rw [own_get, Int.mul_comm, o3]
    have g0 : ∀ k, k < i → (hd.map fun x => o * x % p).getD k 0 = 0 := fun k hk => by
      rw [own_get, I.zero hd hm.1 k hk]
      simp
    refine ⟨hok.1, hok.2, fun r hr k hk => ?_, fun r hr => ?_⟩
    · obtain ⟨q, hq, rfl⟩ := List.mem_map.mp hr
      rw [addF_get (I.ok1 q hq).1 hown.1]
      by_cases h : k = i
      · subst h
        rw [g1]
        simp
        rw [Int.add_right_neg]
        rfl
      · rw [g0 k (by omega), I.zero q hq k (by omega)]
        simp
    · rcases List.mem_append.mp hr with hr | hr
      · obtain ⟨q, hq, rfl⟩ := List.mem_map.mp hr
        obtain ⟨l, h1, h2⟩ := I.one q hq
        refine ⟨l, by omega, ?_⟩
        rw [addF_get (I.ok2 q hq).1 hown.1, g0 l h1, h2]
        simp
        exact Int.emod_eq_of_lt (by omega) (by omega)
      · rw [List.mem_singleton.mp hr]
        exact ⟨i, by omega, g1⟩
theorem stepsF_inv {p : Int} {n : Nat} {rows : List (List Int)} (hp : Pr p) (h : RowsOk p n rows) : ∀ i, i ≤ n → StInv p n i (stepsF p rows i)
  | 0, _ => ⟨h, (fun r hr => nomatch hr), (fun r hr k hk => absurd hk (by omega)), (fun r hr => nomatch hr)⟩
  | i + 1, hi => by
    rw [stepsF_succ]
    exact stepF_inv hp (by omega) (stepsF_inv hp h i (by omega))
theorem lead_some {r : List Int} {j : Nat} (h : r.getD j 0 ≠ 0) : (leadF r).isSome = true := by
  cases e : leadF r with
  | some i => rfl
  | none =>
    exfalso
    apply h
    have e2 := List.findIdx?_eq_none_iff.mp e
    by_cases hj : j < r.length
    · have := e2 r[j] (List.getElem_mem _)
      have e3 : r.getD j 0 = r[j] := by simp [List.getD, List.getElem?_eq_getElem hj]
      rw [e3]
      simpa using this
    · simp [List.getD, List.getElem?_eq_none (show r.length ≤ j by omega)]
/-- a flat that the rules can read -/
structure Fok (p : Int) (n : Nat) (rows : List (List Int)) : Prop where
  hp : Pr p
  hn : n ≤ 100
  hl : rows.length ≤ n
  hr : RowsOk p n rows
  hd : LeadsOk rows
theorem stair_fok {p : Int} {n : Nat} {rows : List (List Int)} (hp : Pr p) (hn : n ≤ 100) (h : RowsOk p n rows) : Fok p n (stairF p n rows) := by
  have hb := hp.b
  refine ⟨hp, hn, stairF_len, stairF_ok (by omega) h, fun r hr => ?_⟩
  obtain ⟨l, _, h2⟩ := (stepsF_inv hp h n (Nat.le_refl _)).one r hr
  exact lead_some (j := l) (by omega)
def exF (p : Int) (n wd : Nat) (rows : List (List Int)) : List (List Int) := stairF p n (exRows p n wd rows)
def tuF (p : Int) (n wd : Nat) (rows : List (List Int)) : List (List Int) := stairF p n (rows.map (rotF wd))
theorem exRows_ok {p : Int} {n wd : Nat} {rows : List (List Int)} (hp : Pr p) : RowsOk p n (exRows p n wd rows) := fun q hq => by
  have hb := hp.b
  obtain ⟨r, hr, rfl⟩ := List.mem_map.mp hq
  exact neg_ok (by omega) (stairF_ok (by omega) (upAt_ok (by omega)) r hr)
theorem exF_fok {p : Int} {n wd : Nat} {rows : List (List Int)} (h : Fok p n rows) : Fok p n (exF p n wd rows) := stair_fok h.hp h.hn (exRows_ok h.hp)
theorem tuRows_ok {p : Int} {n wd : Nat} {rows : List (List Int)} (h : RowsOk p n rows) : RowsOk p n (rows.map (rotF wd)) := fun q hq => by
  obtain ⟨r, hr, rfl⟩ := List.mem_map.mp hq
  exact rot_ok (h r hr)
theorem tuF_fok {p : Int} {n wd : Nat} {rows : List (List Int)} (h : Fok p n rows) : Fok p n (tuF p n wd rows) := stair_fok h.hp h.hn (tuRows_ok h.hr)
/-! ### asked_of -/
def othersF (s : Str) : Str × Str := match kv_OTHERS.lookup s with
  | some [a, b] => (a, b)
  | _ => (s, ("same" : Str))
theorem others_fact : ∀ s ∈ sortsL, (((s, [(othersF s).1, (othersF s).2]) ∈ kv_OTHERS) ∨ (s ∈ noOthers ∧ othersF s = (s, ("same" : Str)))) ∧ (othersF s).1 ∈ kv_RULES.map (·.1) := by decide +kernel
/-- way, rows, left -/
def askR (p : Int) (n : Nat) (way : Str) (rows : List (List Int)) (wd : Nat) : List (List Int) :=
  let r1 := if way = "exchanged" ∨ way = "both" then exF p n wd rows else rows
  if way = "turned" ∨ way = "both" then tuF p n wd r1 else r1
def askW (n : Nat) (way : Str) (wd : Nat) : Nat := if way = "turned" ∨ way = "both" then n - wd else wd
theorem ask_fok {p : Int} {n wd : Nat} {way : Str} {rows : List (List Int)} (h : Fok p n rows) : Fok p n (askR p n way rows wd) := by
  unfold askR
  dsimp only
  split <;> split <;> first | exact tuF_fok (exF_fok h) | exact tuF_fok h | exact exF_fok h | exact h
theorem ask_w {n wd : Nat} {way : Str} (h : wd ≤ n) : askW n way wd ≤ n := by
  unfold askW
  split <;> omega
theorem ed_f2 {C : Cq} {Γ : List Sl} {S : Sto} {i : Nat} {p : Int} {n : Nat} {rows : List (List Int)} (h : Γ[i]? = some (.dat (eF p n rows))) : EvD C (tOp (rIx C.K) (tVar i) (tC (.int 2))) Γ S (.tuple (rows.map eT)) S := ed_op (ed_var h) ed_int (rd_ixT (j := 2) rfl rfl)
theorem ed_f1 {C : Cq} {Γ : List Sl} {S : Sto} {i : Nat} {p : Int} {n : Nat} {rows : List (List Int)} (h : Γ[i]? = some (.dat (eF p n rows))) : EvD C (tOp (rIx C.K) (tVar i) (tC (.int 1))) Γ S (.int (n : Int)) S := ed_op (ed_var h) ed_int (rd_ixT (j := 1) rfl rfl)
theorem ed_f0 {C : Cq} {Γ : List Sl} {S : Sto} {i : Nat} {p : Int} {n : Nat} {rows : List (List Int)} (h : Γ[i]? = some (.dat (eF p n rows))) : EvD C (tOp (rIx C.K) (tVar i) (tC (.int 0))) Γ S (.int p) S := ed_op (ed_var h) ed_int (rd_ixT (j := 0) rfl rfl)
theorem in2 {x a b : Str} : decide (x ∈ ([a, b] : List Str)) = decide (x = a ∨ x = b) := by simp
def R_asked_of : Rel := fun ds d => ∃ (s : Str) (p : Int) (n : Nat) (rows : List (List Int)) (wd : Nat), ds = [.str s, eF p n rows, .int (wd : Int)] ∧ s ∈ sortsL ∧ Fok p n rows ∧ wd ≤ n ∧ d = .tuple [.str (othersF s).1, eF p n (askR p n (othersF s).2 rows wd), .int (askW n (othersF s).2 wd : Nat)]
theorem sc_asked_of : FnScope ["sort", "flat", "left", "other", "way"] ["sort", "flat", "left"] (defScope (Bx.top 32)) := ⟨rfl, rfl, rfl, by decide +kernel, rfl, by decide +kernel, by decide +kernel⟩
theorem ok_asked_of (T : Tx w K mg base) : C8.Cal P w K mg base 6 "asked_of" (spD K R_asked_of) [] := by
  obtain ⟨fd, F⟩ := T.f_asked_of
  have ok_exchanged_flat := ok_exchanged_flat (P := P) T
  have ok_turned_flat := ok_turned_flat (P := P) T
  obtain ⟨es_OTHERS, n_OTHERS, k_OTHERS⟩ := T.k_OTHERS
  refine cal_pure F T.g_asked_of (F.bindsN (fun _ _ _ _ _ _ us hl => match us, hl with | [_, _, _], _ => rfl)) sc_asked_of (by rintro _ _ ⟨s, p, n, rows, wd, rfl, hs, hF, hw, rfl⟩ <;> rfl) ?_
  rintro _ _ ⟨s, p, n, rows, wd, rfl, hs, hF, hw, rfl⟩ cdv A outer sh H E hr
  have nd := sc_asked_of.nd
  refine ⟨_, (pss_cons (ps_asg (Ml.pe_kget k_OTHERS (pe_glob (v := V.ref (He.ga K "OTHERS")) rfl T.g_OTHERS rfl) (pv 0) (pe_tup (pa_cons (pv 0) (pa_cons pe_str pa_nil))) ⟨by rfl, by rfl, by rfl, by rfl⟩) (pg_tup rfl (pgs_cons (pg_name (i := 3) nd rfl (.inl rfl)) (pgs_cons (pg_name (i := 4) nd rfl (.inl rfl)) pgs_nil))))
      (pss_cons (ps_if (pt_cmpR (Mk.in_ K rfl) (pv 4) (pe_tup (pa_cons pe_str (pa_cons pe_str pa_nil))) rfl) (pss_one (ps_set (i := 1) nd rfl (.inl rfl) (C8.pe_c ok_exchanged_flat hr (by decide) (by rfl) (pa_cons (pv 1) (pa_cons (pv 2) pa_nil))))) pss_nil)
      (pss_cons (ps_if (pt_cmpR (Mk.in_ K rfl) (pv 4) (pe_tup (pa_cons pe_str (pa_cons pe_str pa_nil))) rfl) (pss_one (ps_par (i := 1) (j := 2) rfl nd rfl rfl (by decide) rfl rfl (pa_cons (C8.pe_c ok_turned_flat hr (by decide) (by rfl) (pa_cons (pv 1) (pa_cons (pv 2) pa_nil))) (pa_cons (pe_op op_sub (pe_ix (Mk.ix K rfl) (pv 1) pe_int (fun _ _ => rfl)) (pv 2)) pa_nil)) (by rfl))) pss_nil)
      (pss_one (ps_ret (pe_tup (pa_cons (pv 3) (pa_cons (pv 1) (pa_cons (pv 2) pa_nil))))))))), ?_⟩
  have hn := hF.hn
  have hl := hF.hl
  obtain ⟨hk, _⟩ := others_fact s hs
  refine gs_seq (gs_asgT (d := .tuple [.str (othersF s).1, .str (othersF s).2]) (ed_kget (ed_var rfl) (ed_tup (ea_cons (ed_var rfl) (ea_cons ed_str ea_nil)) (sz (by simp))) (by
    rcases hk with hk | ⟨hk, ho⟩
    · exact .inl (tupsAt_ok T.ex.2.2.2.2.2.1 hk)
    · refine .inr ⟨noAt_ok T.no hk, ?_⟩
      rw [ho])) (gt_tup (gts_cons gt_name (gts_cons gt_name gts_nil)) rfl) ?_)
  generalize (othersF s).1 = other
  generalize (othersF s).2 = way
  have hF1 : Fok p n (if way = "exchanged" ∨ way = "both" then exF p n wd rows else rows) := by
    split
    · exact exF_fok hF
    · exact hF
  refine gs_seq ((gs_if (E := { nx := fun Γ S => Γ = [.dat (.str s), .dat (eF p n (if way = "exchanged" ∨ way = "both" then exF p n wd rows else rows)), .dat (.int (wd : Int)), .dat (.str other), .dat (.str way)] ∧ S = S0, rt := fun _ _ => False }) (et_test (ed_op (ed_var rfl) (ed_tup (ea_cons ed_str (ea_cons ed_str ea_nil)) (sz (by simp))) (rd_inST (ns := ["exchanged", "both"])))) (fun h => ?_) (fun h => gs_next ?_)).mono ?_ (fun _ _ h => h.elim) (fun _ _ h => h.elim) (fun _ _ h => h.elim))
  · rw [show (if false = true then !decide (way ∈ (["exchanged", "both"] : List Str)) else decide (way ∈ (["exchanged", "both"] : List Str))) = decide (way ∈ (["exchanged", "both"] : List Str)) from rfl, in2] at h
    rw [if_pos (of_decide_eq_true h)]
    exact gs_asg (ed_call (ea_cons (ed_var rfl) (ea_cons (ed_var rfl) ea_nil)) ⟨p, n, rows, wd, rfl, hF.hp, hn, by omega, hF.hr, hF.hd, hw, rfl⟩) ⟨rfl, rfl⟩
  · rw [show (if false = true then !decide (way ∈ (["exchanged", "both"] : List Str)) else decide (way ∈ (["exchanged", "both"] : List Str))) = decide (way ∈ (["exchanged", "both"] : List Str)) from rfl, in2] at h
    rw [if_neg (of_decide_eq_false h)]
    exact ⟨rfl, rfl⟩
  have ea : askR p n way rows wd = if way = "turned" ∨ way = "both" then tuF p n wd (if way = "exchanged" ∨ way = "both" then exF p n wd rows else rows) else (if way = "exchanged" ∨ way = "both" then exF p n wd rows else rows) := rfl
  rw [ea]
  revert hF1
  generalize (if way = "exchanged" ∨ way = "both" then exF p n wd rows else rows) = r1
  rintro hF1 Γ S ⟨rfl, rfl⟩
  refine gs_seq (gs_if (et_test (ed_op (ed_var rfl) (ed_tup (ea_cons ed_str (ea_cons ed_str ea_nil)) (sz (by simp))) (rd_inST (ns := ["turned", "both"])))) (fun h => gs_par (ea_cons (ed_call (ea_cons (ed_var rfl) (ea_cons (ed_var rfl) ea_nil)) ⟨p, n, r1, wd, rfl, hF.hp, hn, by have := hF1.hl; omega, hF1.hr, hw, rfl⟩) (ea_cons (ed_op (ed_f1 rfl) (ed_var rfl) rd_I0) ea_nil)) ?_) (fun h => gs_next ?_))
  · rw [show (if false = true then !decide (way ∈ (["turned", "both"] : List Str)) else decide (way ∈ (["turned", "both"] : List Str))) = decide (way ∈ (["turned", "both"] : List Str)) from rfl, in2] at h
    rw [if_pos (of_decide_eq_true h)]
    refine gs_ret (ed_tup (ea_cons (ed_var rfl) (ea_cons (ed_var rfl) (ea_cons (ed_var rfl) ea_nil))) (sz (by simp))) ?_
    show PyData.tuple _ = PyData.tuple _
    rw [askW, if_pos (of_decide_eq_true h), show ((n : Int) - (wd : Int)) = ((n - wd : Nat) : Int) by omega]
    rfl
  · rw [show (if false = true then !decide (way ∈ (["turned", "both"] : List Str)) else decide (way ∈ (["turned", "both"] : List Str))) = decide (way ∈ (["turned", "both"] : List Str)) from rfl, in2] at h
    rw [if_neg (of_decide_eq_false h)]
    refine gs_ret (ed_tup (ea_cons (ed_var rfl) (ea_cons (ed_var rfl) (ea_cons (ed_var rfl) ea_nil))) (sz (by simp))) ?_
    show PyData.tuple _ = PyData.tuple _
    rw [askW, if_neg (of_decide_eq_false h)]
end Pm


set_option Elab.async false
set_option linter.all false
set_option maxRecDepth 100000
set_option maxHeartbeats 4000000
set_option autoImplicit false
namespace Pm
open PySem PySem.Spec PyProof.Rows L2 Dl Bx
variable {P : Program} {w : World} {K : PySem.W.Frag} {mg : Str → Option Value} {base : Heap}
local macro_rules | `(tactic| trivial) => `(tactic| first | omega | exact Or.inr ⟨by omega, by omega⟩ | exact Or.inl ⟨by omega, by omega⟩ | exact ⟨by omega, by omega⟩)
def ldF (r : List Int) : Nat := (leadF r).getD 0
def eN (es : List Nat) : PyData := .list (es.map fun (j : Nat) => PyData.int (j : Int))
theorem enum_enc (r : List Int) : enumD (r.map .int) = r.zipIdx.map fun q => pairD (.int (q.2 : Int)) (.int q.1) := by
  unfold enumD
  rw [List.zipIdx_map, List.map_map]
  rfl
theorem lead_zip : ∀ (r : List Int) (k i : Nat), leadF r = some i → (((r.zipIdx k).filter fun q => q.1 != 0).map fun q => PyData.int (q.2 : Int))[0]? = some (.int ((i + k : Nat) : Int))
  | [], k, i, h => by cases h
  | a :: r, k, i, h => by
    unfold leadF at h
    rw [List.findIdx?_cons] at h
    rw [List.zipIdx_cons]
    by_cases ha : (a != 0) = true
    · rw [ha] at h
      cases h
      rw [List.filter_cons_of_pos (by exact ha)]
      simp
    · rw [if_neg ha] at h
      rw [List.filter_cons_of_neg (by exact ha)]
      cases e : leadF r with
      | none =>
        unfold leadF at e
        rw [e] at h
        cases h
      | some j =>
        have ih := lead_zip r (k + 1) j e
        unfold leadF at e
        rw [e] at h
        cases h
        rw [ih]
        show some (PyData.int ((j + (k + 1) : Nat) : Int)) = some (PyData.int ((j + 1 + k : Nat) : Int))
        rw [show j + (k + 1) = j + 1 + k by omega]
def R_lead_of_sortrules : Rel := fun ds d => ∃ (r : List Int), ds = [eT r] ∧ r.length ≤ 1000 ∧ (leadF r).isSome = true ∧ d = .int (ldF r : Nat)
theorem sc_lead_of_sortrules : FnScope ["row", "place", "number"] ["row"] (defScope (Bx.top 33)) := ⟨rfl, rfl, rfl, by decide +kernel, rfl, by decide +kernel, by decide +kernel⟩
theorem ok_lead_of_sortrules (T : Tx w K mg base) : C8.Cal P w K mg base 1 "lead_of_sortrules" (spD K R_lead_of_sortrules) [] := by
  obtain ⟨fd, F⟩ := T.f_lead_of_sortrules
  refine cal_pure F T.g_lead_of_sortrules (F.bindsN (fun _ _ _ _ _ _ us hl => match us, hl with | [_], _ => rfl)) sc_lead_of_sortrules (by rintro _ _ ⟨r, rfl, hl, hd, rfl⟩ <;> rfl) ?_
  rintro _ _ ⟨r, rfl, hl, hd, rfl⟩ cdv A outer sh H E hr
  have nd := sc_lead_of_sortrules.nd
  refine ⟨_, (pss_one (ps_ret (pe_ix (Mk.ix K rfl) (pe_lc (own := [("place", 1), ("number", 2)]) (g := (gTup K 2 (gCons (gName 1) (gCons (gName 2) gNil)))) rfl nd (Ml.pi_enumC false (by rfl) T.b_enumerate (pa_cons (pv 0) pa_nil)) (blkOk_by (by rfl)) (fun _ _ _ _ _ => (pg_tup rfl (pgs_cons (pg_name (i := 1) nd rfl (.inl rfl)) (pgs_cons (pg_name (i := 2) nd rfl (.inl rfl)) pgs_nil)))) (fun _ _ _ _ _ => (pts_one (pt_cmpR op_ne (pv 2) pe_int (nomark _)))) (fun _ _ _ _ _ => (pv 1))) pe_int (fun _ _ => rfl)))), ?_⟩
  obtain ⟨i, hi⟩ := Option.isSome_iff_exists.mp hd
  have hlz := lead_zip r 0 i hi
  refine gs_ret (ed_op (ed_lc (as := r.zipIdx) (enc := fun q => pairD (.int (q.2 : Int)) (.int q.1)) (fun q => q.1 != 0) (fun q => .int (q.2 : Int)) (ei_is (ei_enum (c := false) (ea_cons (ed_var rfl) ea_nil)) (enum_enc r)) (by rw [List.length_zipIdx]; omega) fun q hq => ⟨_, _, gt_tup (gts_cons gt_name (gts_cons gt_name gts_nil)) rfl, by simp, fun s => ⟨et_is (et_test (ed_op (ed_var rfl) ed_int rd_neI)) (ne_bne _), fun _ => (ed_var rfl)⟩⟩) ed_int (rd_ixL (j := 0) (d := .int (ldF r : Nat)) (ixN_nat (by omega) ?_) ?_)) rfl
  · have := (List.getElem?_eq_some_iff.mp hlz).1
    omega
  · rw [hlz]
    unfold ldF
    rw [hi]
    rfl
def R_leads_of : Rel := fun ds d => ∃ (p : Int) (n : Nat) (rows : List (List Int)), ds = [eF p n rows] ∧ Fok p n rows ∧ d = .list ((leadsF rows).map .int)
theorem sc_leads_of : FnScope ["flat", "row"] ["flat"] (defScope (Bx.top 35)) := ⟨rfl, rfl, rfl, by decide +kernel, rfl, by decide +kernel, by decide +kernel⟩
theorem ok_leads_of (T : Tx w K mg base) : C8.Cal P w K mg base 2 "leads_of" (spD K R_leads_of) [] := by
  obtain ⟨fd, F⟩ := T.f_leads_of
  have ok_lead_of_sortrules := ok_lead_of_sortrules (P := P) T
  refine cal_pure F T.g_leads_of (F.bindsN (fun _ _ _ _ _ _ us hl => match us, hl with | [_], _ => rfl)) sc_leads_of (by rintro _ _ ⟨p, n, rows, rfl, hF, rfl⟩ <;> rfl) ?_
  rintro _ _ ⟨p, n, rows, rfl, hF, rfl⟩ cdv A outer sh H E hr
  have nd := sc_leads_of.nd
  refine ⟨_, (pss_one (ps_ret (pe_lc (own := [("row", 1)]) (g := (gName 1)) (tt := tYes) rfl nd (pi_tup (pe_ix (Mk.ix K rfl) (pv 0) pe_int (fun _ _ => rfl))) (blkOk_by (by rfl)) (fun _ _ _ _ _ => (pg_name (i := 1) nd rfl (.inl rfl))) (fun _ _ _ _ _ => pts_nil) (fun _ _ _ _ _ => (C8.pe_c ok_lead_of_sortrules hr (by decide) (by rfl) (pa_cons (pv 1) pa_nil)))))), ?_⟩
  have hn := hF.hn
  have hl := hF.hl
  refine gs_ret (ed_lcm (as := rows) (enc := eT) (fun r => .int (ldF r : Nat)) (ei_tup (ed_f2 rfl)) (by omega) fun r hr => ⟨_, _, gt_name, by simp, fun s => ed_call (ea_cons (ed_var rfl) ea_nil) ⟨r, rfl, by have := (hF.hr r hr).1; omega, hF.hd r hr, rfl⟩⟩) ?_
  unfold leadsF
  rw [List.map_map]
  rfl
def alikeF (rows : List (List Int)) (a b : Nat) : Bool := (rows.map fun r => decide (r.getD a 0 = r.getD b 0)).all id
def R_are_alike : Rel := fun ds d => ∃ (p : Int) (n : Nat) (rows : List (List Int)) (a b : Nat), ds = [eF p n rows, .int (a : Int), .int (b : Int)] ∧ Fok p n rows ∧ a < n ∧ b < n ∧ d = .bool (alikeF rows a b)
theorem sc_are_alike : FnScope ["flat", "one", "other", "row"] ["flat", "one", "other"] (defScope (Bx.top 36)) := ⟨rfl, rfl, rfl, by decide +kernel, rfl, by decide +kernel, by decide +kernel⟩
theorem ok_are_alike (T : Tx w K mg base) : C8.Cal P w K mg base 1 "are_alike" (spD K R_are_alike) [] := by
  obtain ⟨fd, F⟩ := T.f_are_alike
  refine cal_pure F T.g_are_alike (F.bindsN (fun _ _ _ _ _ _ us hl => match us, hl with | [_, _, _], _ => rfl)) sc_are_alike (by rintro _ _ ⟨p, n, rows, a, b, rfl, hF, ha, hb, rfl⟩ <;> rfl) ?_
  rintro _ _ ⟨p, n, rows, a, b, rfl, hF, ha, hb, rfl⟩ cdv A outer sh H E hr
  have nd := sc_are_alike.nd
  refine ⟨_, (pss_one (ps_ret (pe_callB (Mk.all K rfl rfl) (by rfl) T.b_all (by decide +kernel) (pa_cons (pe_lc (own := [("row", 3)]) (g := (gName 3)) (tt := tYes) rfl nd (pi_tup (pe_ix (Mk.ix K rfl) (pv 0) pe_int (fun _ _ => rfl))) (blkOk_by (by rfl)) (fun _ _ _ _ _ => (pg_name (i := 3) nd rfl (.inl rfl))) (fun _ _ _ _ _ => pts_nil) (fun _ _ _ _ _ => (pe_cmpR op_eq (pe_ix (Mk.ix K rfl) (pv 3) (pv 1) (fun _ _ => rfl)) (pe_ix (Mk.ix K rfl) (pv 3) (pv 2) (fun _ _ => rfl)) (nomark _)))) pa_nil)))), ?_⟩
  have hn := hF.hn
  have hl := hF.hl
  exact gs_ret (ed_cb (ea_cons (ed_is (ed_lcm (as := rows) (enc := eT) (fun r => .bool (decide (r.getD a 0 = r.getD b 0))) (ei_tup (ed_f2 rfl)) (by omega) fun r hr => ⟨_, _, gt_name, by simp, fun s => ed_op (ed_op (ed_var rfl) (ed_var rfl) (rd_ixRow false (hF.hr r hr) ha)) (ed_op (ed_var rfl) (ed_var rfl) (rd_ixRow false (hF.hr r hr) hb)) rd_eqI⟩) (congrArg PyData.list (mm _ PyData.bool _).symm)) ea_nil) rc_all) rfl
def lotF (rows : List (List Int)) (n e : Nat) : List Int := (List.range n).map fun o => if alikeF rows e o = true then 1 else 0
def R_lot_row : Rel := fun ds d => ∃ (p : Int) (n : Nat) (rows : List (List Int)) (e : Nat), ds = [eF p n rows, .int (e : Int)] ∧ Fok p n rows ∧ e < n ∧ d = eT (lotF rows n e)
theorem sc_lot_row : FnScope ["flat", "end", "other"] ["flat", "end"] (defScope (Bx.top 37)) := ⟨rfl, rfl, rfl, by decide +kernel, rfl, by decide +kernel, by decide +kernel⟩
theorem ok_lot_row (T : Tx w K mg base) : C8.Cal P w K mg base 2 "lot_row" (spD K R_lot_row) [] := by
  obtain ⟨fd, F⟩ := T.f_lot_row
  have ok_are_alike := ok_are_alike (P := P) T
  refine cal_pure F T.g_lot_row (F.bindsN (fun _ _ _ _ _ _ us hl => match us, hl with | [_, _], _ => rfl)) sc_lot_row (by rintro _ _ ⟨p, n, rows, e, rfl, hF, he, rfl⟩ <;> rfl) ?_
  rintro _ _ ⟨p, n, rows, e, rfl, hF, he, rfl⟩ cdv A outer sh H E hr
  have nd := sc_lot_row.nd
  refine ⟨_, (pss_one (ps_ret (pe_callTy (Mk.tuple K rfl) (by rfl) T.b_tuple PyProof.Rows.boot_tuple (pa_cons (pe_lc (own := [("other", 2)]) (g := (gName 2)) (tt := tYes) rfl nd (pi_range1 (by rfl) T.b_range (pa_cons (pe_ix (Mk.ix K rfl) (pv 0) pe_int (fun _ _ => rfl)) pa_nil)) (blkOk_by (by rfl)) (fun _ _ _ _ _ => (pg_name (i := 2) nd rfl (.inl rfl))) (fun _ _ _ _ _ => pts_nil) (fun _ _ _ _ _ => (pe_callTy call_int1 (by rfl) T.b_int (by decide +kernel) (pa_cons (C8.pe_c ok_are_alike hr (by decide) (by rfl) (pa_cons (pv 0) (pa_cons (pv 1) (pa_cons (pv 2) pa_nil)))) pa_nil)))) pa_nil)))), ?_⟩
  have hn := hF.hn
  have hl := hF.hl
  refine gs_ret (ed_cb (ea_cons (ed_is (ed_lcm (as := List.range n) (enc := fun (j : Nat) => .int (j : Int)) (fun o => .int (if alikeF rows e o = true then 1 else 0)) (ei_is (ei_rng1 (ea_cons (ed_f1 rfl) ea_nil) ⟨by omega, by omega⟩) (rng0 n)) (by rw [List.length_range]; omega) fun o ho => ⟨_, _, gt_name, by simp, fun s => ed_cb (ea_cons (ed_call (ea_cons (ed_var rfl) (ea_cons (ed_var rfl) (ea_cons (ed_var rfl) ea_nil))) ⟨p, n, rows, e, o, rfl, hF, he, List.mem_range.mp ho, rfl⟩) ea_nil) rc_intB⟩) (congrArg PyData.list (mm _ PyData.int _).symm)) ea_nil) rc_tuple) rfl
def isAlF (rows : List (List Int)) (e : Nat) (es : List Nat) : Bool := (es.map fun o => alikeF rows e o).any id
def R_is_alike_to : Rel := fun ds d => ∃ (p : Int) (n : Nat) (rows : List (List Int)) (e : Nat) (es : List Nat), ds = [eF p n rows, .int (e : Int), eN es] ∧ Fok p n rows ∧ e < n ∧ (∀ j ∈ es, j < n) ∧ es.length ≤ 1000 ∧ d = .bool (isAlF rows e es)
theorem sc_is_alike_to : FnScope ["flat", "end", "ends", "other"] ["flat", "end", "ends"] (defScope (Bx.top 38)) := ⟨rfl, rfl, rfl, by decide +kernel, rfl, by decide +kernel, by decide +kernel⟩
theorem ok_is_alike_to (T : Tx w K mg base) : C8.Cal P w K mg base 2 "is_alike_to" (spD K R_is_alike_to) [] := by
  obtain ⟨fd, F⟩ := T.f_is_alike_to
  have ok_are_alike := ok_are_alike (P := P) T
  refine cal_pure F T.g_is_alike_to (F.bindsN (fun _ _ _ _ _ _ us hl => match us, hl with | [_, _, _], _ => rfl)) sc_is_alike_to (by rintro _ _ ⟨p, n, rows, e, es, rfl, hF, he, hes, hl, rfl⟩ <;> rfl) ?_
  rintro _ _ ⟨p, n, rows, e, es, rfl, hF, he, hes, hl, rfl⟩ cdv A outer sh H E hr
  have nd := sc_is_alike_to.nd
  refine ⟨_, (pss_one (ps_ret (pe_callB (Mk.any K rfl rfl) (by rfl) T.b_any (by decide +kernel) (pa_cons (pe_lc (own := [("other", 3)]) (g := (gName 3)) (tt := tYes) rfl nd (pi_list (pv 2)) (blkOk_by (by rfl)) (fun _ _ _ _ _ => (pg_name (i := 3) nd rfl (.inl rfl))) (fun _ _ _ _ _ => pts_nil) (fun _ _ _ _ _ => (C8.pe_c ok_are_alike hr (by decide) (by rfl) (pa_cons (pv 0) (pa_cons (pv 1) (pa_cons (pv 3) pa_nil)))))) pa_nil)))), ?_⟩
  exact gs_ret (ed_cb (ea_cons (ed_is (ed_lcm (as := es) (enc := fun (j : Nat) => .int (j : Int)) (fun o => .bool (alikeF rows e o)) (ei_list (ed_var rfl)) (by omega) fun o ho => ⟨_, _, gt_name, by simp, fun s => ed_call (ea_cons (ed_var rfl) (ea_cons (ed_var rfl) (ea_cons (ed_var rfl) ea_nil))) ⟨p, n, rows, e, o, rfl, hF, he, hes o ho, rfl⟩⟩) (congrArg PyData.list (mm _ PyData.bool _).symm)) ea_nil) rc_any) rfl
def oddLone (rows : List (List Int)) (wd e : Nat) : Bool :=
  if wd ≤ e then decide ((1 : Int) < ((rows.filter fun r => r.getD e 0 != 0).length : Nat))
  else ((rows.filter fun r => decide ((ldF r : Int) = (e : Int))).map fun r => decide ((1 : Int) < (((r.drop wd).filter fun x => x != 0).length : Nat))).any id
def R_odd_lone : Rel := fun ds d => ∃ (p : Int) (n : Nat) (rows : List (List Int)) (wd e : Nat), ds = [eF p n rows, .int (wd : Int), .int (e : Int)] ∧ Fok p n rows ∧ wd ≤ n ∧ e < n ∧ d = .bool (oddLone rows wd e)
theorem len_map {α β : Type} (f : α → β) (l : List α) : PyData.int ((l.map f).length : Nat) = PyData.int (l.length : Nat) := by rw [List.length_map]
theorem sc_odd_lone : FnScope ["flat", "left", "end", "rows", "row", "number"] ["flat", "left", "end"] (defScope (Bx.top 39)) := ⟨rfl, rfl, rfl, by decide +kernel, rfl, by decide +kernel, by decide +kernel⟩
theorem ok_odd_lone (T : Tx w K mg base) : C8.Cal P w K mg base 2 "odd_lone" (spD K R_odd_lone) [] := by
  obtain ⟨fd, F⟩ := T.f_odd_lone
  have ok_lead_of_sortrules := ok_lead_of_sortrules (P := P) T
  refine cal_pure F T.g_odd_lone (F.bindsN (fun _ _ _ _ _ _ us hl => match us, hl with | [_, _, _], _ => rfl)) sc_odd_lone (by rintro _ _ ⟨p, n, rows, wd, e, rfl, hF, hw, he, rfl⟩ <;> rfl) ?_
  rintro _ _ ⟨p, n, rows, wd, e, rfl, hF, hw, he, rfl⟩ cdv A outer sh H E hr
  have nd := sc_odd_lone.nd
  refine ⟨_, (pss_cons (ps_if (pt_cmpR op_ge (pv 2) (pv 1) (nomark _)) (pss_one (ps_ret (pe_cmpR op_gt (pe_callB (Mk.len K rfl) (by rfl) T.b_len PySem.boot_len (pa_cons (pe_lc (own := [("row", 4)]) (g := (gName 4)) rfl nd (pi_tup (pe_ix (Mk.ix K rfl) (pv 0) pe_int (fun _ _ => rfl))) (blkOk_by (by rfl)) (fun _ _ _ _ _ => (pg_name (i := 4) nd rfl (.inl rfl))) (fun _ _ _ _ _ => (pts_one (pt_cmpR op_ne (pe_ix (Mk.ix K rfl) (pv 4) (pv 2) (fun _ _ => rfl)) pe_int (nomark _)))) (fun _ _ _ _ _ => (pv 4))) pa_nil)) pe_int (nomark _)))) pss_nil)
      (pss_cons (ps_setLc (i := 3) (own := [("row", 4)]) (g := (gName 4)) rfl nd rfl rfl (sw_true rfl rfl rfl (by decide +kernel)) (pi_tup (pe_ix (Mk.ix K rfl) (pv 0) pe_int (fun _ _ => rfl))) (blkOk_by (by rfl)) (fun _ _ _ _ _ => (pg_name (i := 4) nd rfl (.inl rfl))) (fun _ _ _ _ _ => (pts_one (pt_cmpR op_eq (C8.pe_c ok_lead_of_sortrules hr (by decide) (by rfl) (pa_cons (pv 4) pa_nil)) (pv 2) (nomark _)))) (fun _ _ _ _ _ => (pv 4)))
      (pss_one (ps_ret (pe_callB (Mk.any K rfl rfl) (by rfl) T.b_any (by decide +kernel) (pa_cons (pe_lc (own := [("row", 4)]) (g := (gName 4)) (tt := tYes) (te := (tOp (rI0 fun i j => V.bl (decide (j < i))) (tCB (Mk.rLen K) (tCons (tLc (iTup K (tSl (rSlA K) (tVar 4) (tPart (tVar 1)) tNoPart)) (gName 5) (tTest (tOp rNe (tVar 5) (tC (.int 0)))) (tVar 5) [5]) tNil)) (tC (.int 1)))) rfl nd (pi_list (pv 3)) (blkOk_by (by rfl)) (fun _ _ _ _ _ => (pg_name (i := 4) nd rfl (.inl rfl))) (fun _ _ _ _ _ => pts_nil) (fun _ _ _ _ _ => (pe_cmpR op_gt (pe_callB (Mk.len K rfl) (by rfl) T.b_len PySem.boot_len (pa_cons (pe_lc (own := [("number", 5)]) (g := (gName 5)) rfl nd (pi_tup (pe_slice (Mk.slT K rfl) (pv 4) (po_some (pv 1)) po_none)) (blkOk_by (by rfl)) (fun _ _ _ _ _ => (pg_name (i := 5) nd rfl (.inl rfl))) (fun _ _ _ _ _ => (pts_one (pt_cmpR op_ne (pv 5) pe_int (nomark _)))) (fun _ _ _ _ _ => (pv 5))) pa_nil)) pe_int (nomark _)))) pa_nil)))))), ?_⟩
  have hn := hF.hn
  have hl := hF.hl
  refine gs_seq (gs_if (et_test (ed_op (ed_var rfl) (ed_var rfl) rd_B0)) (fun h => gs_ret (ed_op (ed_cb (ea_cons (ed_lc (as := rows) (enc := eT) (fun r => r.getD e 0 != 0) eT (ei_tup (ed_f2 rfl)) (by omega) fun r hr => ⟨_, _, gt_name, by simp, fun s => ⟨et_is (et_test (ed_op (ed_op (ed_var rfl) (ed_var rfl) (rd_ixRow false (hF.hr r hr) he)) ed_int rd_neI)) (ne_bne _), fun _ => ed_var rfl⟩⟩) ea_nil) rc_len) ed_int rd_B0) ?_) (fun h => gs_next ?_))
  · have h' : wd ≤ e := by
      have := of_decide_eq_true h
      omega
    unfold oddLone
    rw [if_pos h', ← List.length_map (f := eT)]
    rfl
  have h' : ¬ wd ≤ e := by
    have := of_decide_eq_false h
    omega
  refine gs_seq (gs_asg (ed_lc (as := rows) (enc := eT) (fun r => decide ((ldF r : Int) = (e : Int))) eT (ei_tup (ed_f2 rfl)) (by omega) fun r hr => ⟨_, _, gt_name, by simp, fun s => ⟨et_test (ed_op (ed_call (ea_cons (ed_var rfl) ea_nil) ⟨r, rfl, by have := (hF.hr r hr).1; omega, hF.hd r hr, rfl⟩) (ed_var rfl) rd_eqI), fun _ => ed_var rfl⟩⟩) ?_)
  refine gs_ret (ed_cb (ea_cons (ed_is (ed_lcm (as := rows.filter fun r => decide ((ldF r : Int) = (e : Int))) (enc := eT) (fun r => .bool (decide ((1 : Int) < (((r.drop wd).filter fun x => x != 0).length : Nat)))) (ei_list (ed_var rfl)) (by have := List.length_filter_le (fun r => decide ((ldF r : Int) = (e : Int))) rows; omega) fun r hr => ⟨_, _, gt_name, by simp, fun s => ed_op (ed_is (ed_cb (ea_cons (ed_lc (as := r.drop wd) (enc := .int) (fun x => x != 0) PyData.int (ei_tup (ed_is (ed_slT (ed_var rfl) (eo_some (ed_var rfl)) eo_none) ?_)) (by have := (hF.hr r (List.mem_filter.mp hr).1).1; rw [List.length_drop]; omega) fun x hx => ⟨_, _, gt_name, by simp, fun s => ⟨et_is (et_test (ed_op (ed_var rfl) ed_int rd_neI)) (ne_bne _), fun _ => (ed_var rfl)⟩⟩) ea_nil) rc_len) (len_map _ _)) ed_int rd_B0⟩) (congrArg PyData.list (mm _ PyData.bool _).symm)) ea_nil) rc_any) ?_
  · rw [cut_hi, ← List.map_drop]
  · unfold oddLone
    rw [if_neg h']
    rfl
end Pm


set_option Elab.async false
set_option linter.all false
set_option maxRecDepth 100000
set_option maxHeartbeats 4000000
set_option autoImplicit false
namespace Pm
open PySem PySem.Spec PyProof.Rows L2 Dl Bx
variable {P : Program} {w : World} {K : PySem.W.Frag} {mg : Str → Option Value} {base : Heap}
local macro_rules | `(tactic| trivial) => `(tactic| first | omega | exact Or.inr ⟨by omega, by omega⟩ | exact Or.inl ⟨by omega, by omega⟩ | exact ⟨by omega, by omega⟩)
/-- wd .. n - 1 -/
def rgN (wd n : Nat) : List Nat := (List.range (n - wd)).map (wd + ·)
theorem rgN_mem {wd n j : Nat} (h : j ∈ rgN wd n) : wd ≤ j ∧ j < n := by
  obtain ⟨i, hi, rfl⟩ := List.mem_map.mp h
  have := List.mem_range.mp hi
  omega
theorem rgN_len (wd n : Nat) : (rgN wd n).length = n - wd := by simp [rgN]
theorem rgN_eq (wd n : Nat) : (rgI (wd : Int) ((n : Int) - (wd : Int)).toNat).map PyData.int = (rgN wd n).map fun (j : Nat) => PyData.int (j : Int) := by
  rw [show ((n : Int) - (wd : Int)).toNat = n - wd by omega, rgI_nat] <;> rfl
def oddEnds (word : Str) (n : Nat) (rows : List (List Int)) (wd : Nat) : List Nat :=
  if word = "total" then (List.range wd).filter fun (e : Nat) => !decide ((e : Int) ∈ leadsF rows)
  else if word = "copied" then (rgN wd n).filter fun e => !isAlF rows e (List.range wd)
  else if word = "used" then (List.range wd).filter fun e => !isAlF rows e (rgN wd n)
  else if word = "once" then (rgN wd n).filter fun e => isAlF rows e (rgN wd e)
  else if word = "lone" then (List.range wd ++ rgN wd n).filter fun e => oddLone rows wd e
  else (List.range wd ++ rgN wd n).filter fun e => !isAlF rows e (List.range wd) || !isAlF rows e (rgN wd n)
theorem eN_app (a b : List Nat) : PyData.list ((a.map fun (j : Nat) => PyData.int (j : Int)) ++ (b.map fun (j : Nat) => PyData.int (j : Int))) = eN (a ++ b) := by
  unfold eN
  rw [List.map_append]
def R_odd_ends : Rel := fun ds d => ∃ (word : Str) (p : Int) (n : Nat) (rows : List (List Int)) (wd : Nat), ds = [.str word, eF p n rows, .int (wd : Int)] ∧ Fok p n rows ∧ wd ≤ n ∧ d = eN (oddEnds word n rows wd)
theorem sc_odd_ends : FnScope ["word", "flat", "left", "lefts", "rights", "end"] ["word", "flat", "left"] (defScope (Bx.top 40)) := ⟨rfl, rfl, rfl, by decide +kernel, rfl, by decide +kernel, by decide +kernel⟩
theorem ok_odd_ends (T : Tx w K mg base) : C8.Cal P w K mg base 3 "odd_ends" (spD K R_odd_ends) [] := by
  obtain ⟨fd, F⟩ := T.f_odd_ends
  have ok_is_alike_to := ok_is_alike_to (P := P) T
  have ok_leads_of := ok_leads_of (P := P) T
  have ok_odd_lone := ok_odd_lone (P := P) T
  refine cal_pure F T.g_odd_ends (F.bindsN (fun _ _ _ _ _ _ us hl => match us, hl with | [_, _, _], _ => rfl)) sc_odd_ends (by rintro _ _ ⟨word, p, n, rows, wd, rfl, hF, hw, rfl⟩ <;> rfl) ?_
  rintro _ _ ⟨word, p, n, rows, wd, rfl, hF, hw, rfl⟩ cdv A outer sh H E hr
  have nd := sc_odd_ends.nd
  refine ⟨_, (pss_cons (ps_asg (pe_tup (pa_cons (pe_listRg rfl (by rfl) T.b_list (prg_1 (by rfl) T.b_range (pv 2))) (pa_cons (pe_listRg rfl (by rfl) T.b_list (prg_2 (by rfl) T.b_range (pv 2) (pe_ix (Mk.ix K rfl) (pv 1) pe_int (fun _ _ => rfl)))) pa_nil))) (pg_tup rfl (pgs_cons (pg_name (i := 3) nd rfl (.inr rfl)) (pgs_cons (pg_name (i := 4) nd rfl (.inr rfl)) pgs_nil))))
      (pss_cons (ps_if (pt_cmpR op_eq (pv 0) pe_str (nomark _)) (pss_one (ps_ret (pe_lc (own := [("end", 5)]) (g := (gName 5)) rfl nd (pi_list (pv 3)) (blkOk_by (by rfl)) (fun _ _ _ _ _ => (pg_name (i := 5) nd rfl (.inl rfl))) (fun _ _ _ _ _ => (pts_one (pt_cmpR (Mk.notIn K rfl) (pv 5) (C8.pe_c ok_leads_of hr (by decide) (by rfl) (pa_cons (pv 1) pa_nil)) rfl))) (fun _ _ _ _ _ => (pv 5))))) pss_nil)
      (pss_cons (ps_if (pt_cmpR op_eq (pv 0) pe_str (nomark _)) (pss_one (ps_ret (pe_lc (own := [("end", 5)]) (g := (gName 5)) rfl nd (pi_list (pv 4)) (blkOk_by (by rfl)) (fun _ _ _ _ _ => (pg_name (i := 5) nd rfl (.inl rfl))) (fun _ _ _ _ _ => (pts_one (pt_not (pt_val (C8.pe_c ok_is_alike_to hr (by decide) (by rfl) (pa_cons (pv 1) (pa_cons (pv 5) (pa_cons (pv 3) pa_nil)))))))) (fun _ _ _ _ _ => (pv 5))))) pss_nil)
      (pss_cons (ps_if (pt_cmpR op_eq (pv 0) pe_str (nomark _)) (pss_one (ps_ret (pe_lc (own := [("end", 5)]) (g := (gName 5)) rfl nd (pi_list (pv 3)) (blkOk_by (by rfl)) (fun _ _ _ _ _ => (pg_name (i := 5) nd rfl (.inl rfl))) (fun _ _ _ _ _ => (pts_one (pt_not (pt_val (C8.pe_c ok_is_alike_to hr (by decide) (by rfl) (pa_cons (pv 1) (pa_cons (pv 5) (pa_cons (pv 4) pa_nil)))))))) (fun _ _ _ _ _ => (pv 5))))) pss_nil)
      (pss_cons (ps_if (pt_cmpR op_eq (pv 0) pe_str (nomark _)) (pss_one (ps_ret (pe_lc (own := [("end", 5)]) (g := (gName 5)) rfl nd (pi_list (pv 4)) (blkOk_by (by rfl)) (fun _ _ _ _ _ => (pg_name (i := 5) nd rfl (.inl rfl))) (fun _ _ _ _ _ => (pts_one (pt_val (C8.pe_c ok_is_alike_to hr (by decide) (by rfl) (pa_cons (pv 1) (pa_cons (pv 5) (pa_cons (pe_listRg rfl (by rfl) T.b_list (prg_2 (by rfl) T.b_range (pv 2) (pv 5))) pa_nil))))))) (fun _ _ _ _ _ => (pv 5))))) pss_nil)
      (pss_cons (ps_if (pt_cmpR op_eq (pv 0) pe_str (nomark _)) (pss_one (ps_ret (pe_lc (own := [("end", 5)]) (g := (gName 5)) rfl nd (pi_list (pe_op (Mk.catS K rfl) (pv 3) (pv 4))) (blkOk_by (by rfl)) (fun _ _ _ _ _ => (pg_name (i := 5) nd rfl (.inl rfl))) (fun _ _ _ _ _ => (pts_one (pt_val (C8.pe_c ok_odd_lone hr (by decide) (by rfl) (pa_cons (pv 1) (pa_cons (pv 2) (pa_cons (pv 5) pa_nil))))))) (fun _ _ _ _ _ => (pv 5))))) pss_nil)
      (pss_one (ps_ret (pe_lc (own := [("end", 5)]) (g := (gName 5)) rfl nd (pi_list (pe_op (Mk.catS K rfl) (pv 3) (pv 4))) (blkOk_by (by rfl)) (fun _ _ _ _ _ => (pg_name (i := 5) nd rfl (.inl rfl))) (fun _ _ _ _ _ => (pts_one (PW.pt (pw_or (pt_not (pt_val (C8.pe_c ok_is_alike_to hr (by decide) (by rfl) (pa_cons (pv 1) (pa_cons (pv 5) (pa_cons (pv 3) pa_nil)))))) (pw_or1 (pt_not (pt_val (C8.pe_c ok_is_alike_to hr (by decide) (by rfl) (pa_cons (pv 1) (pa_cons (pv 5) (pa_cons (pv 4) pa_nil))))))))))) (fun _ _ _ _ _ => (pv 5))))))))))), ?_⟩
  have hn := hF.hn
  have hl := hF.hl
  have mL : ∀ {j}, j ∈ List.range wd → j < n := fun h => by
    have := List.mem_range.mp h
    omega
  have mR : ∀ {j}, j ∈ rgN wd n → j < n := fun h => (rgN_mem h).2
  have mA : ∀ {j}, j ∈ List.range wd ++ rgN wd n → j < n := fun h => by
    rcases List.mem_append.mp h with h | h
    · exact mL h
    · exact mR h
  have lL : (List.range wd).length ≤ 100 := by rw [List.length_range]; omega
  have lR : (rgN wd n).length ≤ 100 := by rw [rgN_len]; omega
  have lA : (List.range wd ++ rgN wd n).length ≤ 200 := by rw [List.length_append]; omega
  refine gs_seq (gs_asgT (d := .tuple [eN (List.range wd), eN (rgN wd n)]) (ed_tup (ea_cons (ed_is (ed_lrg1 (ed_var rfl) (by omega)) (congrArg PyData.list (by rw [Int.toNat_natCast, rgI_nat0]))) (ea_cons (ed_is (ed_lrg2 (ed_var rfl) (ed_f1 rfl) (by omega)) (congrArg PyData.list (rgN_eq wd n))) ea_nil)) (sz (by simp))) (gt_tup (gts_cons gt_name (gts_cons gt_name gts_nil)) rfl) ?_)
  refine gs_seq (gs_if (et_test (ed_op (ed_var rfl) ed_str rd_eqS)) (fun h => gs_ret (ed_is (d' := eN (oddEnds word n rows wd)) (ed_lc (as := List.range wd) (enc := fun (j : Nat) => .int (j : Int)) (fun (e : Nat) => !decide ((e : Int) ∈ leadsF rows)) (fun (e : Nat) => .int (e : Int)) (ei_list (ed_var rfl)) (by omega) fun e he => ⟨_, _, gt_name, by simp, fun s => ⟨et_test (ed_op (ed_var rfl) (ed_call (ea_cons (ed_var rfl) ea_nil) ⟨p, n, rows, rfl, hF, rfl⟩) (rd_inI (ns := leadsF rows))), fun _ => ed_var rfl⟩⟩) ?_) rfl) (fun h => gs_next ?_))
  · unfold oddEnds
    rw [if_pos (of_decide_eq_true h)]
    rfl
  have h1 := of_decide_eq_false h
  refine gs_seq (gs_if (et_test (ed_op (ed_var rfl) ed_str rd_eqS)) (fun h => gs_ret (ed_is (d' := eN (oddEnds word n rows wd)) (ed_lc (as := rgN wd n) (enc := fun (j : Nat) => .int (j : Int)) (fun e => !isAlF rows e (List.range wd)) (fun (e : Nat) => .int (e : Int)) (ei_list (ed_var rfl)) (by omega) fun e he => ⟨_, _, gt_name, by simp, fun s => ⟨et_not (et_B (ed_call (ea_cons (ed_var rfl) (ea_cons (ed_var rfl) (ea_cons (ed_var rfl) ea_nil))) ⟨p, n, rows, e, List.range wd, rfl, hF, mR he, fun j hj => mL hj, by omega, rfl⟩)), fun _ => ed_var rfl⟩⟩) ?_) rfl) (fun h => gs_next ?_))
  · unfold oddEnds
    rw [if_neg h1, if_pos (of_decide_eq_true h)]
    rfl
  have h2 := of_decide_eq_false h
  refine gs_seq (gs_if (et_test (ed_op (ed_var rfl) ed_str rd_eqS)) (fun h => gs_ret (ed_is (d' := eN (oddEnds word n rows wd)) (ed_lc (as := List.range wd) (enc := fun (j : Nat) => .int (j : Int)) (fun e => !isAlF rows e (rgN wd n)) (fun (e : Nat) => .int (e : Int)) (ei_list (ed_var rfl)) (by omega) fun e he => ⟨_, _, gt_name, by simp, fun s => ⟨et_not (et_B (ed_call (ea_cons (ed_var rfl) (ea_cons (ed_var rfl) (ea_cons (ed_var rfl) ea_nil))) ⟨p, n, rows, e, rgN wd n, rfl, hF, mL he, fun j hj => mR hj, by omega, rfl⟩)), fun _ => ed_var rfl⟩⟩) ?_) rfl) (fun h => gs_next ?_))
  · unfold oddEnds
    rw [if_neg h1, if_neg h2, if_pos (of_decide_eq_true h)]
    rfl
  have h3 := of_decide_eq_false h
  refine gs_seq (gs_if (et_test (ed_op (ed_var rfl) ed_str rd_eqS)) (fun h => gs_ret (ed_is (d' := eN (oddEnds word n rows wd)) (ed_lc (as := rgN wd n) (enc := fun (j : Nat) => .int (j : Int)) (fun e => isAlF rows e (rgN wd e)) (fun (e : Nat) => .int (e : Int)) (ei_list (ed_var rfl)) (by omega) fun e he => ⟨_, _, gt_name, by simp, fun s => ⟨et_B (ed_call (ea_cons (ed_var rfl) (ea_cons (ed_var rfl) (ea_cons (ed_is (ed_lrg2 (ed_var rfl) (ed_var rfl) (by have := mR he; omega)) (congrArg PyData.list (rgN_eq wd e))) ea_nil))) ⟨p, n, rows, e, rgN wd e, rfl, hF, mR he, fun j hj => by have := (rgN_mem hj).2; have := mR he; omega, by rw [rgN_len]; have := mR he; omega, rfl⟩), fun _ => ed_var rfl⟩⟩) ?_) rfl) (fun h => gs_next ?_))
  · unfold oddEnds
    rw [if_neg h1, if_neg h2, if_neg h3, if_pos (of_decide_eq_true h)]
    rfl
  have h4 := of_decide_eq_false h
  refine gs_seq (gs_if (et_test (ed_op (ed_var rfl) ed_str rd_eqS)) (fun h => gs_ret (ed_is (d' := eN (oddEnds word n rows wd)) (ed_lc (as := List.range wd ++ rgN wd n) (enc := fun (j : Nat) => .int (j : Int)) (fun e => oddLone rows wd e) (fun (e : Nat) => .int (e : Int)) (ei_list (ed_is (ed_op (ed_var rfl) (ed_var rfl) (rd_catL (by rw [List.length_map, List.length_map]; omega))) (eN_app _ _))) (by omega) fun e he => ⟨_, _, gt_name, by simp, fun s => ⟨et_B (ed_call (ea_cons (ed_var rfl) (ea_cons (ed_var rfl) (ea_cons (ed_var rfl) ea_nil))) ⟨p, n, rows, wd, e, rfl, hF, hw, mA he, rfl⟩), fun _ => ed_var rfl⟩⟩) ?_) rfl) (fun h => gs_next ?_))
  · unfold oddEnds
    rw [if_neg h1, if_neg h2, if_neg h3, if_neg h4, if_pos (of_decide_eq_true h)]
    rfl
  have h5 := of_decide_eq_false h
  refine gs_ret (ed_is (d' := eN (oddEnds word n rows wd)) (ed_lc (as := List.range wd ++ rgN wd n) (enc := fun (j : Nat) => .int (j : Int)) (fun e => !isAlF rows e (List.range wd) || !isAlF rows e (rgN wd n)) (fun (e : Nat) => .int (e : Int)) (ei_list (ed_is (ed_op (ed_var rfl) (ed_var rfl) (rd_catL (by rw [List.length_map, List.length_map]; omega))) (eN_app _ _))) (by omega) fun e he => ⟨_, _, gt_name, by simp, fun s => ⟨et_or0 (et_not (et_B (ed_call (ea_cons (ed_var rfl) (ea_cons (ed_var rfl) (ea_cons (ed_var rfl) ea_nil))) ⟨p, n, rows, e, List.range wd, rfl, hF, mA he, fun j hj => mL hj, by omega, rfl⟩))) (fun _ => et_not (et_B (ed_call (ea_cons (ed_var rfl) (ea_cons (ed_var rfl) (ea_cons (ed_var rfl) ea_nil))) ⟨p, n, rows, e, rgN wd n, rfl, hF, mA he, fun j hj => mR hj, by omega, rfl⟩))), fun _ => ed_var rfl⟩⟩) ?_) rfl
  unfold oddEnds
  rw [if_neg h1, if_neg h2, if_neg h3, if_neg h4, if_neg h5]
  rfl
/-! ### papers_of -/
theorem lotF_ok {p : Int} {n e : Nat} {rows : List (List Int)} (hp : 1 < p) : RowOk p n (lotF rows n e) := by
  refine ⟨by simp [lotF], fun x hx => ?_⟩
  obtain ⟨o, _, rfl⟩ := List.mem_map.mp hx
  split <;> omega
def papersF (word : Str) (p : Int) (n : Nat) (rows : List (List Int)) (wd : Nat) : List PyData :=
  if word = "many" then (if (n : Int) = 2 * (wd : Int) then [] else [.tuple [.str "many"]])
  else if word = "single" then (rows.filter fun r => decide ((wd : Int) ≤ (ldF r : Int))).map fun r => .tuple [.str "single", eT r]
  else if word = "free" then (((List.range n).map fun e => lotF rows n e).filter fun v => !(leadF (redF p rows v)).isNone).map fun r => .tuple [.str "free", eT r]
  else (oddEnds word n rows wd).map fun (e : Nat) => .tuple [.str word, .int (e : Int)]
theorem papers_tup {word : Str} {p : Int} {n : Nat} {rows : List (List Int)} {wd : Nat} : ∀ x ∈ papersF word p n rows wd, isNon x = false := by
  intro x hx
  unfold papersF at hx
  split at hx
  · split at hx
    · cases hx
    · rw [List.mem_singleton.mp hx]
      rfl
  split at hx
  · obtain ⟨_, _, rfl⟩ := List.mem_map.mp hx
    rfl
  split at hx
  · obtain ⟨_, _, rfl⟩ := List.mem_map.mp hx
    rfl
  · obtain ⟨_, _, rfl⟩ := List.mem_map.mp hx
    rfl
theorem oddEnds_len {word : Str} {n : Nat} {rows : List (List Int)} {wd : Nat} (h : wd ≤ n) : (oddEnds word n rows wd).length ≤ n := by
  have h1 : ∀ f, ((List.range wd).filter f).length ≤ n := fun f => by
    have := List.length_filter_le f (List.range wd)
    rw [List.length_range] at this
    omega
  have h2 : ∀ f, ((rgN wd n).filter f).length ≤ n := fun f => by
    have := List.length_filter_le f (rgN wd n)
    rw [rgN_len] at this
    omega
  have h3 : ∀ f, ((List.range wd ++ rgN wd n).filter f).length ≤ n := fun f => by
    have := List.length_filter_le f (List.range wd ++ rgN wd n)
    rw [List.length_append, List.length_range, rgN_len] at this
    omega
  unfold oddEnds
  repeat (split <;> first | exact h1 _ | exact h2 _ | exact h3 _ | skip)
def R_papers_of : Rel := fun ds d => ∃ (word : Str) (p : Int) (n : Nat) (rows : List (List Int)) (wd : Nat), ds = [.str word, eF p n rows, .int (wd : Int)] ∧ Fok p n rows ∧ wd ≤ n ∧ d = .list (papersF word p n rows wd)
theorem sc_papers_of : FnScope ["word", "flat", "left", "rows", "end", "row"] ["word", "flat", "left"] (defScope (Bx.top 41)) := ⟨rfl, rfl, rfl, by decide +kernel, rfl, by decide +kernel, by decide +kernel⟩
theorem ok_papers_of (T : Tx w K mg base) : C8.Cal P w K mg base 4 "papers_of" (spD K R_papers_of) [] := by
  obtain ⟨fd, F⟩ := T.f_papers_of
  have ok_has := ok_has (P := P) T
  have ok_lead_of_sortrules := ok_lead_of_sortrules (P := P) T
  have ok_lot_row := ok_lot_row (P := P) T
  have ok_odd_ends := ok_odd_ends (P := P) T
  refine cal_pure F T.g_papers_of (F.bindsN (fun _ _ _ _ _ _ us hl => match us, hl with | [_, _, _], _ => rfl)) sc_papers_of (by rintro _ _ ⟨word, p, n, rows, wd, rfl, hF, hw, rfl⟩ <;> rfl) ?_
  rintro _ _ ⟨word, p, n, rows, wd, rfl, hF, hw, rfl⟩ cdv A outer sh H E hr
  have nd := sc_papers_of.nd
  refine ⟨_, (pss_cons (ps_if (pt_cmpR op_eq (pv 0) pe_str (nomark _)) (pss_one (ps_ret (pe_ifExp (pt_cmpR op_ne (pe_ix (Mk.ix K rfl) (pv 1) pe_int (fun _ _ => rfl)) (pe_op op_mul pe_int (pv 2)) (nomark _)) (pe_lst (pa_cons (pe_tup (pa_cons pe_str pa_nil)) pa_nil)) (pe_lst pa_nil)))) pss_nil)
      (pss_cons (ps_if (pt_cmpR op_eq (pv 0) pe_str (nomark _)) (pss_one (ps_ret (pe_lc (own := [("row", 5)]) (g := (gName 5)) rfl nd (pi_tup (pe_ix (Mk.ix K rfl) (pv 1) pe_int (fun _ _ => rfl))) (blkOk_by (by rfl)) (fun _ _ _ _ _ => (pg_name (i := 5) nd rfl (.inl rfl))) (fun _ _ _ _ _ => (pts_one (pt_cmpR op_ge (C8.pe_c ok_lead_of_sortrules hr (by decide) (by rfl) (pa_cons (pv 5) pa_nil)) (pv 2) (nomark _)))) (fun _ _ _ _ _ => (pe_tup (pa_cons pe_str (pa_cons (pv 5) pa_nil))))))) pss_nil)
      (pss_cons (ps_if (pt_cmpR op_eq (pv 0) pe_str (nomark _)) (pss_cons (ps_setLc (i := 3) (own := [("end", 4)]) (g := (gName 4)) (tt := tYes) rfl nd rfl rfl (sw_true rfl rfl rfl (by decide +kernel)) (pi_range1 (by rfl) T.b_range (pa_cons (pe_ix (Mk.ix K rfl) (pv 1) pe_int (fun _ _ => rfl)) pa_nil)) (blkOk_by (by rfl)) (fun _ _ _ _ _ => (pg_name (i := 4) nd rfl (.inl rfl))) (fun _ _ _ _ _ => pts_nil) (fun _ _ _ _ _ => (C8.pe_c ok_lot_row hr (by decide) (by rfl) (pa_cons (pv 1) (pa_cons (pv 4) pa_nil)))))
      (pss_one (ps_ret (pe_lc (own := [("row", 5)]) (g := (gName 5)) rfl nd (pi_list (pv 3)) (blkOk_by (by rfl)) (fun _ _ _ _ _ => (pg_name (i := 5) nd rfl (.inl rfl))) (fun _ _ _ _ _ => (pts_one (pt_not (pt_val (C8.pe_c ok_has hr (by decide) (by rfl) (pa_cons (pv 1) (pa_cons (pv 5) pa_nil))))))) (fun _ _ _ _ _ => (pe_tup (pa_cons pe_str (pa_cons (pv 5) pa_nil)))))))) pss_nil)
      (pss_one (ps_ret (pe_lc (own := [("end", 4)]) (g := (gName 4)) (tt := tYes) rfl nd (pi_list (C8.pe_c ok_odd_ends hr (by decide) (by rfl) (pa_cons (pv 0) (pa_cons (pv 1) (pa_cons (pv 2) pa_nil))))) (blkOk_by (by rfl)) (fun _ _ _ _ _ => (pg_name (i := 4) nd rfl (.inl rfl))) (fun _ _ _ _ _ => pts_nil) (fun _ _ _ _ _ => (pe_tup (pa_cons (pv 0) (pa_cons (pv 4) pa_nil)))))))))), ?_⟩
  have hn := hF.hn
  have hl := hF.hl
  have hb := hF.hp.b
  refine gs_seq (gs_if (et_test (ed_op (ed_var rfl) ed_str rd_eqS)) (fun h => gs_ret (ed_is (d' := .list (papersF word p n rows wd)) (ed_if (d := .list (if (n : Int) = 2 * (wd : Int) then [] else [.tuple [.str "many"]])) (et_test (ed_op (ed_f1 rfl) (ed_op ed_int (ed_var rfl) (rd_I (by trivial))) rd_neI)) (fun h2 => ed_is (ed_lst (ea_cons (ed_tup (ea_cons ed_str ea_nil) (sz (by simp))) ea_nil) (sz (by simp))) ?_) (fun h2 => ed_is (ed_lst ea_nil (sz (by simp))) ?_)) ?_) rfl) (fun h => gs_next ?_))
  · rw [if_neg (by simpa using h2)]
  · rw [if_pos (by simpa using h2)]
  · unfold papersF
    rw [if_pos (of_decide_eq_true h)]
  have h1 := of_decide_eq_false h
  refine gs_seq (gs_if (et_test (ed_op (ed_var rfl) ed_str rd_eqS)) (fun h => gs_ret (ed_lc (as := rows) (enc := eT) (fun r => decide ((wd : Int) ≤ (ldF r : Int))) (fun r => .tuple [.str "single", eT r]) (ei_tup (ed_f2 rfl)) (by omega) fun r hr => ⟨_, _, gt_name, by simp, fun s => ⟨et_test (ed_op (ed_call (ea_cons (ed_var rfl) ea_nil) ⟨r, rfl, by have := (hF.hr r hr).1; omega, hF.hd r hr, rfl⟩) (ed_var rfl) rd_B0), fun _ => (ed_tup (ea_cons ed_str (ea_cons (ed_var rfl) ea_nil)) (sz (by simp)))⟩⟩) ?_) (fun h => gs_next ?_))
  · show PyData.list _ = PyData.list _
    unfold papersF
    rw [if_neg h1, if_pos (of_decide_eq_true h)]
  have h2 := of_decide_eq_false h
  refine gs_seq (gs_if (et_test (ed_op (ed_var rfl) ed_str rd_eqS)) (fun h => ?_) (fun h => gs_next ?_))
  · refine gs_seq (gs_asg (ed_is (ed_lcm (as := List.range n) (enc := fun (j : Nat) => .int (j : Int)) (fun e => eT (lotF rows n e)) (ei_is (ei_rng1 (ea_cons (ed_f1 rfl) ea_nil) ⟨by omega, by omega⟩) (rng0 n)) (by rw [List.length_range]; omega) fun e he => ⟨_, _, gt_name, by simp, fun s => ed_call (ea_cons (ed_var rfl) (ea_cons (ed_var rfl) ea_nil)) ⟨p, n, rows, e, rfl, hF, List.mem_range.mp he, rfl⟩⟩) (congrArg PyData.list (mm _ eT _).symm)) ?_)
    refine gs_ret (ed_lc (as := (List.range n).map fun e => lotF rows n e) (enc := eT) (fun v => !(leadF (redF p rows v)).isNone) (fun r => .tuple [.str "free", eT r]) (ei_list (ed_var rfl)) (by rw [List.length_map, List.length_range]; omega) fun v hv => ⟨_, _, gt_name, by simp, fun s => ⟨et_not (et_B (ed_call (ea_cons (ed_var rfl) (ea_cons (ed_var rfl) ea_nil)) ⟨p, n, rows, v, false, rfl, hF.hp, hn, by omega, hF.hr, hF.hd, ?_, rfl⟩)), fun _ => (ed_tup (ea_cons ed_str (ea_cons (ed_var rfl) ea_nil)) (sz (by simp)))⟩⟩) ?_
    · obtain ⟨e, _, rfl⟩ := List.mem_map.mp hv
      exact lotF_ok (by omega)
    · show PyData.list _ = PyData.list _
      unfold papersF
      rw [if_neg h1, if_neg h2, if_pos (of_decide_eq_true h)]
  have h3 := of_decide_eq_false h
  refine gs_ret (ed_lcm (as := oddEnds word n rows wd) (enc := fun (j : Nat) => .int (j : Int)) (fun (e : Nat) => .tuple [.str word, .int (e : Int)]) (ei_list (ed_call (ea_cons (ed_var rfl) (ea_cons (ed_var rfl) (ea_cons (ed_var rfl) ea_nil))) ⟨word, p, n, rows, wd, rfl, hF, hw, rfl⟩)) (by have := oddEnds_len (word := word) (rows := rows) hw; omega) fun e he => ⟨_, _, gt_name, by simp, fun s => (ed_tup (ea_cons (ed_var rfl) (ea_cons (ed_var rfl) ea_nil)) (sz (by simp)))⟩) ?_
  show PyData.list _ = PyData.list _
  unfold papersF
  rw [if_neg h1, if_neg h2, if_neg h3]
end Pm


set_option Elab.async false
set_option linter.all false
set_option maxRecDepth 100000
set_option maxHeartbeats 4000000
set_option autoImplicit false
namespace Pm
open PySem PySem.Spec PyProof.Rows L2 Dl Bx
variable {P : Program} {w : World} {K : PySem.W.Frag} {mg : Str → Option Value} {base : Heap}
local macro_rules | `(tactic| trivial) => `(tactic| first | omega | exact Or.inr ⟨by omega, by omega⟩ | exact Or.inl ⟨by omega, by omega⟩ | exact ⟨by omega, by omega⟩)
def rulesOf (o : Str) : List Str := (kv_RULES.lookup o).getD []
theorem rules_fact : ∀ o ∈ kv_RULES.map (·.1), (o, rulesOf o) ∈ kv_RULES ∧ (rulesOf o).length ≤ 10 := by decide +kernel
def brokenF (ws : List Str) (p : Int) (n : Nat) (rows : List (List Int)) (wd : Nat) : PyData := match ws.find? fun x => !(papersF x p n rows wd).isEmpty with
  | none => .none
  | some x => (papersF x p n rows wd).headD .none
theorem broken_non (p : Int) (n : Nat) (rows : List (List Int)) (wd : Nat) : ∀ ws : List Str, isNon (brokenF ws p n rows wd) = ws.all fun x => (papersF x p n rows wd).isEmpty
  | [] => rfl
  | x :: ws => by
    have ih := broken_non p n rows wd ws
    unfold brokenF at ih ⊢
    rw [List.find?_cons, List.all_cons]
    cases e : papersF x p n rows wd with
    | nil =>
      rw [← ih]
      simp
    | cons y t =>
      have := papers_tup y (show y ∈ papersF x p n rows wd by rw [e]; exact List.mem_cons_self)
      simp [e, this]
def R_rule_broken : Rel := fun ds d => ∃ (s : Str) (p : Int) (n : Nat) (rows : List (List Int)) (wd : Nat), ds = [.str s, eF p n rows, .int (wd : Int)] ∧ s ∈ sortsL ∧ Fok p n rows ∧ wd ≤ n ∧ d = brokenF (rulesOf (othersF s).1) p n (askR p n (othersF s).2 rows wd) (askW n (othersF s).2 wd)
theorem sc_rule_broken : FnScope ["sort", "flat", "left", "other", "word", "found"] ["sort", "flat", "left"] (defScope (Bx.top 42)) := ⟨rfl, rfl, rfl, by decide +kernel, rfl, by decide +kernel, by decide +kernel⟩
theorem ok_rule_broken (T : Tx w K mg base) : C8.Cal P w K mg base 7 "rule_broken" (spD K R_rule_broken) [] := by
  obtain ⟨fd, F⟩ := T.f_rule_broken
  have ok_asked_of := ok_asked_of (P := P) T
  have ok_need_sort := ok_need_sort (P := P) T
  have ok_papers_of := ok_papers_of (P := P) T
  obtain ⟨es_RULES, n_RULES, k_RULES⟩ := T.k_RULES
  refine cal_pure F T.g_rule_broken (F.bindsN (fun _ _ _ _ _ _ us hl => match us, hl with | [_, _, _], _ => rfl)) sc_rule_broken (by rintro _ _ ⟨s, p, n, rows, wd, rfl, hs, hF, hw, rfl⟩ <;> rfl) ?_
  rintro _ _ ⟨s, p, n, rows, wd, rfl, hs, hF, hw, rfl⟩ cdv A outer sh H E hr
  have nd := sc_rule_broken.nd
  refine ⟨_, (pss_cons (ps_expr (C8.pe_c ok_need_sort hr (by decide) (by rfl) (pa_cons (pv 0) pa_nil)))
      (pss_cons (ps_asg (C8.pe_c ok_asked_of hr (by decide) (by rfl) (pa_cons (pv 0) (pa_cons (pv 1) (pa_cons (pv 2) pa_nil)))) (pg_tup rfl (pgs_cons (pg_name (i := 3) nd rfl (.inl rfl)) (pgs_cons (pg_name (i := 1) nd rfl (.inl rfl)) (pgs_cons (pg_name (i := 2) nd rfl (.inl rfl)) pgs_nil)))))
      (pss_cons (ps_for PassesOwn.never rfl (pi_tup (pe_ix (Mk.kd (K := K) k_RULES rfl) (pe_glob (v := V.ref (He.ga K "RULES")) rfl T.g_RULES rfl) (pv 3) (fun _ _ => rfl))) (pg_name (i := 4) nd rfl (.inl rfl)) (pss_cons (ps_set (i := 5) nd rfl (.inl rfl) (C8.pe_c ok_papers_of hr (by decide) (by rfl) (pa_cons (pv 4) (pa_cons (pv 1) (pa_cons (pv 2) pa_nil)))))
      (pss_one (ps_if (pt_truth (pv 5) (by intro _; rfl)) (pss_one (ps_ret (pe_ix (Mk.ix K rfl) (pv 5) pe_int (fun _ _ => rfl)))) pss_nil))))
      (pss_one (ps_ret pe_non))))), ?_⟩
  have hn := hF.hn
  obtain ⟨_, ho⟩ := others_fact s hs
  have hF1 : Fok p n (askR p n (othersF s).2 rows wd) := ask_fok hF
  have hw1 : askW n (othersF s).2 wd ≤ n := ask_w hw
  refine gs_seq (gs_drop (ed_call (ea_cons (ed_var rfl) ea_nil) ⟨s, rfl, hs, rfl⟩) ?_)
  refine gs_seq (gs_asgT (ed_call (ea_cons (ed_var rfl) (ea_cons (ed_var rfl) (ea_cons (ed_var rfl) ea_nil))) ⟨s, p, n, rows, wd, rfl, hs, hF, hw, rfl⟩) (gt_tup (gts_cons gt_name (gts_cons gt_name (gts_cons gt_name gts_nil))) rfl) ?_)
  revert ho hF1 hw1
  generalize (othersF s).1 = other
  generalize askR p n (othersF s).2 rows wd = r1
  generalize askW n (othersF s).2 wd = w1
  intro ho hF1 hw1
  obtain ⟨hk, hkl⟩ := rules_fact other ho
  refine gs_seq (gs_for (as := rulesOf other) (enc := .str) (ei_tup (ed_kix (tupsAt_ok T.ex.2.2.2.2.1 hk) (ed_var rfl))) (fun i Γ S => ∃ s4 s5, ((rulesOf other).drop i).find? (fun x => !(papersF x p n r1 w1).isEmpty) = (rulesOf other).find? (fun x => !(papersF x p n r1 w1).isEmpty) ∧ Γ = [.dat (.str s), .dat (eF p n r1), .dat (.int (w1 : Int)), .dat (.str other), s4, s5] ∧ S = S0) ⟨_, _, rfl, rfl, rfl⟩ ?_ ?_)
  · rintro i a Γ' S' ha ⟨s4, s5, hf, rfl, rfl⟩
    rw [drop_get ha, List.find?_cons] at hf
    refine ⟨_, _, gt_name, gs_seq (gs_asg (ed_call (ea_cons (ed_var rfl) (ea_cons (ed_var rfl) (ea_cons (ed_var rfl) ea_nil))) ⟨a, p, n, r1, w1, rfl, hF1, hw1, rfl⟩) (gs_if (et_tru (ed_var rfl)) (fun h => ?_) (fun h => gs_next ?_)))⟩
    · rw [h] at hf
      cases e : papersF a p n r1 w1 with
      | nil =>
        rw [e] at h
        cases h
      | cons y t =>
        refine gs_ret (ed_op (ed_var rfl) ed_int (rd_ix0 true (d := y) (xs := t))) ?_
        show y = brokenF (rulesOf other) p n r1 w1
        unfold brokenF
        rw [← hf]
        simp only [e]
        rfl
    · rw [h] at hf
      exact ⟨_, _, hf, rfl, rfl⟩
  · rintro Γ' S' ⟨s4, s5, hf, rfl, rfl⟩
    rw [List.drop_length] at hf
    refine gs_ret ed_non ?_
    show PyData.none = brokenF (rulesOf other) p n r1 w1
    unfold brokenF
    rw [← hf]
    rfl
def enoughF (s : Str) (p : Int) (n : Nat) (rows : List (List Int)) (wd : Nat) : Bool := (rulesOf (othersF s).1).all fun x => (papersF x p n (askR p n (othersF s).2 rows wd) (askW n (othersF s).2 wd)).isEmpty
def R_enough : Rel := fun ds d => ∃ (s : Str) (p : Int) (n : Nat) (rows : List (List Int)) (wd : Nat), ds = [.str s, eF p n rows, .int (wd : Int)] ∧ s ∈ sortsL ∧ Fok p n rows ∧ wd ≤ n ∧ d = .bool (enoughF s p n rows wd)
theorem sc_enough : FnScope ["sort", "flat", "left"] ["sort", "flat", "left"] (defScope (Bx.top 43)) := ⟨rfl, rfl, rfl, by decide +kernel, rfl, by decide +kernel, by decide +kernel⟩
theorem ok_enough (T : Tx w K mg base) : C8.Cal P w K mg base 8 "enough" (spD K R_enough) [] := by
  obtain ⟨fd, F⟩ := T.f_enough
  have ok_rule_broken := ok_rule_broken (P := P) T
  refine cal_pure F T.g_enough (F.bindsN (fun _ _ _ _ _ _ us hl => match us, hl with | [_, _, _], _ => rfl)) sc_enough (by rintro _ _ ⟨s, p, n, rows, wd, rfl, hs, hF, hw, rfl⟩ <;> rfl) ?_
  rintro _ _ ⟨s, p, n, rows, wd, rfl, hs, hF, hw, rfl⟩ cdv A outer sh H E hr
  have nd := sc_enough.nd
  refine ⟨_, (pss_one (ps_ret (pe_cmpR op_isN (C8.pe_c ok_rule_broken hr (by decide) (by rfl) (pa_cons (pv 0) (pa_cons (pv 1) (pa_cons (pv 2) pa_nil)))) pe_non (nomark _)))), ?_⟩
  exact gs_ret (ed_is (ed_op (ed_call (ea_cons (ed_var rfl) (ea_cons (ed_var rfl) (ea_cons (ed_var rfl) ea_nil))) ⟨s, p, n, rows, wd, rfl, hs, hF, hw, rfl⟩) ed_non rd_isN) (congrArg PyData.bool (broken_non _ _ _ _ _))) rfl
def sortsEnoughF (p : Int) (n : Nat) (rows : List (List Int)) (wd : Nat) : List Str := sortsL.filter fun s => enoughF s p n rows wd
def R_sorts_enough : Rel := fun ds d => ∃ (p : Int) (n : Nat) (rows : List (List Int)) (wd : Nat), ds = [eF p n rows, .int (wd : Int)] ∧ Fok p n rows ∧ wd ≤ n ∧ d = eST (sortsEnoughF p n rows wd)
theorem sc_sorts_enough : FnScope ["flat", "left", "sort"] ["flat", "left"] (defScope (Bx.top 44)) := ⟨rfl, rfl, rfl, by decide +kernel, rfl, by decide +kernel, by decide +kernel⟩
theorem ok_sorts_enough (T : Tx w K mg base) : C8.Cal P w K mg base 9 "sorts_enough" (spD K R_sorts_enough) [] := by
  obtain ⟨fd, F⟩ := T.f_sorts_enough
  have ok_enough := ok_enough (P := P) T
  refine cal_pure F T.g_sorts_enough (F.bindsN (fun _ _ _ _ _ _ us hl => match us, hl with | [_, _], _ => rfl)) sc_sorts_enough (by rintro _ _ ⟨p, n, rows, wd, rfl, hF, hw, rfl⟩ <;> rfl) ?_
  rintro _ _ ⟨p, n, rows, wd, rfl, hF, hw, rfl⟩ cdv A outer sh H E hr
  have nd := sc_sorts_enough.nd
  refine ⟨_, (pss_one (ps_ret (pe_callTy (Mk.tuple K rfl) (by rfl) T.b_tuple PyProof.Rows.boot_tuple (pa_cons (pe_lc (own := [("sort", 2)]) (g := (gName 2)) rfl nd (pi_tup (pe_glob (v := V.ref (He.ga K "SORTS")) rfl T.g_SORTS rfl)) (blkOk_by (by rfl)) (fun _ _ _ _ _ => (pg_name (i := 2) nd rfl (.inl rfl))) (fun _ _ _ _ _ => (pts_one (pt_val (C8.pe_c ok_enough hr (by decide) (by rfl) (pa_cons (pv 2) (pa_cons (pv 0) (pa_cons (pv 1) pa_nil))))))) (fun _ _ _ _ _ => (pv 2))) pa_nil)))), ?_⟩
  exact gs_ret (ed_cb (ea_cons (ed_lc (as := sortsL) (enc := .str) (fun s => enoughF s p n rows wd) PyData.str (ei_tup (ed_glob T.v_SORTS)) (by decide) fun s hs => ⟨_, _, gt_name, by simp, fun _ => ⟨et_B (ed_call (ea_cons (ed_var rfl) (ea_cons (ed_var rfl) (ea_cons (ed_var rfl) ea_nil))) ⟨s, p, n, rows, wd, rfl, hs, hF, hw, rfl⟩), fun _ => ed_var rfl⟩⟩) ea_nil) rc_tuple) rfl
end Pm


set_option Elab.async false
set_option linter.all false
set_option maxRecDepth 100000
set_option maxHeartbeats 4000000
set_option autoImplicit false
namespace Pm
open PySem PySem.Spec PyProof.Rows L2 Dl Bx
variable {P : Program} {w : World} {K : PySem.W.Frag} {mg : Str → Option Value} {base : Heap}
local macro_rules | `(tactic| trivial) => `(tactic| first | omega | exact Or.inr ⟨by omega, by omega⟩ | exact Or.inl ⟨by omega, by omega⟩ | exact ⟨by omega, by omega⟩)
theorem invF_comm (p x : Int) : invF p x = (rgI 1 (p - 1).toNat).find? fun o => decide (o * x % p = 1) := by
  unfold invF
  congr 1
  funext o
  rw [Int.mul_comm]
def R__law_inverse : Rel := fun ds d => ∃ p x, ds = [.int p, .int x] ∧ 1 ≤ p ∧ p ≤ 1000 ∧ d = .int ((invF p x).getD 0)
theorem sc__law_inverse : FnScope ["_law_prime", "_law_number", "_law_by"] ["_law_prime", "_law_number"] (defScope (Bx.top 57)) := ⟨rfl, rfl, rfl, by decide +kernel, rfl, by decide +kernel, by decide +kernel⟩
theorem ok__law_inverse (T : Tx w K mg base) : C8.Cal P w K mg base 1 "_law_inverse" (spD K R__law_inverse) [] := by
  obtain ⟨fd, F⟩ := T.f__law_inverse
  refine cal_pure F T.g__law_inverse (F.bindsN (fun _ _ _ _ _ _ us hl => match us, hl with | [_, _], _ => rfl)) sc__law_inverse (by rintro _ _ ⟨p, x, rfl, hp, hp2, rfl⟩ <;> rfl) ?_
  rintro _ _ ⟨p, x, rfl, hp, hp2, rfl⟩ cdv A outer sh H E hr
  have nd := sc__law_inverse.nd
  refine ⟨_, (pss_cons (ps_for PassesOwn.never rfl (pi_range2 (by rfl) T.b_range (pa_cons pe_int (pa_cons (pv 0) pa_nil))) (pg_name (i := 2) nd rfl (.inl rfl)) (pss_one (ps_if (pt_cmpR op_eq (pe_op op_mod (pe_callTy call_int1 (by rfl) T.b_int (by decide +kernel) (pa_cons (pe_op op_mul (pv 2) (pv 1)) pa_nil)) (pv 0)) pe_int (nomark _)) (pss_one (ps_ret (pv 2))) pss_nil)))
      (pss_one (ps_ret pe_int))), ?_⟩
  rw [invF_comm]
  refine gs_seq (gs_for (as := rgI 1 (p - 1).toNat) (enc := .int) (ei_is (ei_rng2 (ea_cons ed_int (ea_cons (ed_var rfl) ea_nil)) ?_) (rngD_eq _ _)) (fun i Γ S => ∃ s, Γ = [.dat (.int p), .dat (.int x), s] ∧ S = S0 ∧ ((rgI 1 (p - 1).toNat).drop i).find? (fun o => decide (o * x % p = 1)) = (rgI 1 (p - 1).toNat).find? (fun o => decide (o * x % p = 1))) ⟨_, rfl, rfl, rfl⟩ ?_ ?_)
  · omega
  · rintro i a Γ' S' ha ⟨s, rfl, rfl, hf⟩
    have hb := rgI_mem (List.mem_of_getElem? ha)
    rw [drop_get ha, List.find?_cons] at hf
    refine ⟨_, _, gt_name, gs_if (et_test (ed_op (ed_op (ed_cb (ea_cons (ed_op (ed_var rfl) (ed_var rfl) (rd_I (by trivial))) ea_nil) rc_int) (ed_var rfl) (rd_I (by trivial))) ed_int rd_eqI)) (fun h => gs_ret (ed_var rfl) ?_) (fun h => gs_next ?_)⟩
    · rw [h] at hf
      show PyData.int a = _
      rw [← hf]
      rfl
    · rw [h] at hf
      exact ⟨_, rfl, rfl, hf⟩
  · rintro Γ' S' ⟨s, rfl, rfl, hf⟩
    rw [List.drop_length] at hf
    refine gs_ret ed_int ?_
    rw [← hf]
    rfl
def R__law_less : Rel := fun ds d => ∃ (p : Int) (n : Nat) (r h : List Int) (k : Nat), ds = [.int p, eT r, eT h, .int (k : Int)] ∧ Pr p ∧ n ≤ 100 ∧ RowOk p n r ∧ RowOk p n h ∧ k < n ∧ d = eT (addF p r h (-(r.getD k 0)))
theorem sc__law_less : FnScope ["_law_prime", "_law_row", "_law_head", "_law_at", "_law_own", "_law_more"] ["_law_prime", "_law_row", "_law_head", "_law_at"] (defScope (Bx.top 58)) := ⟨rfl, rfl, rfl, by decide +kernel, rfl, by decide +kernel, by decide +kernel⟩
theorem ok__law_less (T : Tx w K mg base) : C8.Cal P w K mg base 1 "_law_less" (spD K R__law_less) [] := by
  obtain ⟨fd, F⟩ := T.f__law_less
  refine cal_pure F T.g__law_less (F.bindsN (fun _ _ _ _ _ _ us hl => match us, hl with | [_, _, _, _], _ => rfl)) sc__law_less (by rintro _ _ ⟨p, n, r, h, k, rfl, hp, hn, hR, hH, hk, rfl⟩ <;> rfl) ?_
  rintro _ _ ⟨p, n, r, h, k, rfl, hp, hn, hR, hH, hk, rfl⟩ cdv A outer sh H E hr
  have nd := sc__law_less.nd
  refine ⟨_, (pss_one (ps_ret (pe_callTy (Mk.tuple K rfl) (by rfl) T.b_tuple PyProof.Rows.boot_tuple (pa_cons (pe_lc (own := [("_law_own", 4), ("_law_more", 5)]) (g := (gTup K 2 (gCons (gName 4) (gCons (gName 5) gNil)))) (tt := tYes) rfl nd (Ml.pi_zipC false false (by rfl) T.b_zip (pa_cons (pv 1) (pa_cons (pv 2) pa_nil))) (blkOk_by (by rfl)) (fun _ _ _ _ _ => (pg_tup rfl (pgs_cons (pg_name (i := 4) nd rfl (.inl rfl)) (pgs_cons (pg_name (i := 5) nd rfl (.inl rfl)) pgs_nil)))) (fun _ _ _ _ _ => pts_nil) (fun _ _ _ _ _ => (pe_op op_mod (pe_callTy call_int1 (by rfl) T.b_int (by decide +kernel) (pa_cons (pe_op op_sub (pv 4) (pe_op op_mul (pe_ix (Mk.ix K rfl) (pv 1) (pv 3) (fun _ _ => rfl)) (pv 5))) pa_nil)) (pv 0)))) pa_nil)))), ?_⟩
  have hb := hp.b
  have hx := hR.at_ hk
  refine gs_ret (ed_cb (ea_cons (ed_is (ed_lcm (as := r.zip h) (enc := fun q => pairD (.int q.1) (.int q.2)) (fun q => .int ((q.1 - r.getD k 0 * q.2) % p)) (ei_is (ei_zip (c1 := false) (c2 := false) (ea_cons (ed_var rfl) (ea_cons (ed_var rfl) ea_nil))) (zip_enc r h)) ?_ fun q hq => ⟨_, _, gt_tup (gts_cons gt_name (gts_cons gt_name gts_nil)) rfl, by simp, fun s => ed_op (ed_cb (ea_cons (ed_op (ed_var rfl) (ed_op (ed_op (ed_var rfl) (ed_var rfl) (rd_ixRow false hR hk)) (ed_var rfl) (rd_I (by trivial))) rd_I0) ea_nil) rc_int) (ed_var rfl) (rd_I (by trivial))⟩) ?_) ea_nil) rc_tuple) (rfl : _ = eT (addF p r h (-(r.getD k 0))))
  · rw [List.length_zip]
    have := hR.1
    omega
  · unfold addF
    rw [List.zip, List.map_zipWith, List.map_zipWith]
    congr 2
    funext a b
    rw [Int.sub_eq_add_neg, Int.neg_mul]
def R__law_plane : Rel := fun ds d => ∃ (p : Int) (n : Nat) (rows : List (List Int)), ds = [.int p, .int (n : Int), .list (rows.map eT)] ∧ Pr p ∧ n ≤ 100 ∧ rows.length ≤ 1000 ∧ RowsOk p n rows ∧ d = eF p n (stairF p n rows)
theorem sc__law_plane : FnScope ["_law_prime", "_law_ends_here", "_law_rows", "_law_rest", "_law_kept_here", "_law_at", "_law_heads", "_law_by", "_law_head", "_law_row", "_law_own"] ["_law_prime", "_law_ends_here", "_law_rows"] (defScope (Bx.top 59)) := ⟨rfl, rfl, rfl, by decide +kernel, rfl, by decide +kernel, by decide +kernel⟩
theorem ok__law_plane (T : Tx w K mg base) : C8.Cal P w K mg base 2 "_law_plane" (spD K R__law_plane) [] := by
  obtain ⟨fd, F⟩ := T.f__law_plane
  have ok__law_inverse := ok__law_inverse (P := P) T
  have ok__law_less := ok__law_less (P := P) T
  refine cal_pure F T.g__law_plane (F.bindsN (fun _ _ _ _ _ _ us hl => match us, hl with | [_, _, _], _ => rfl)) sc__law_plane (by rintro _ _ ⟨p, n, rows, rfl, hp, hn, hl, hR, rfl⟩ <;> rfl) ?_
  rintro _ _ ⟨p, n, rows, rfl, hp, hn, hl, hR, rfl⟩ cdv A outer sh H E hr
  have nd := sc__law_plane.nd
  refine ⟨_, (pss_cons (ps_par (i := 3) (j := 4) rfl nd rfl rfl (by decide) rfl rfl (pa_cons (pe_lc (own := [("_law_row", 9)]) (g := (gName 9)) (tt := tYes) rfl nd (pi_list (pv 2)) (blkOk_by (by rfl)) (fun _ _ _ _ _ => (pg_name (i := 9) nd rfl (.inl rfl))) (fun _ _ _ _ _ => pts_nil) (fun _ _ _ _ _ => (pe_callTy (Mk.tuple K rfl) (by rfl) T.b_tuple PyProof.Rows.boot_tuple (pa_cons (pv 9) pa_nil)))) (pa_cons (pe_lst pa_nil) pa_nil)) (by rfl))
      (pss_cons (ps_for PassesOwn.never rfl (pi_range1 (by rfl) T.b_range (pa_cons (pv 1) pa_nil)) (pg_name (i := 5) nd rfl (.inr rfl)) (pss_cons (ps_setLc (i := 6) (own := [("_law_row", 9)]) (g := (gName 9)) rfl nd rfl rfl (sw_true rfl rfl rfl (by decide +kernel)) (pi_list (pv 3)) (blkOk_by (by rfl)) (fun _ _ _ _ _ => (pg_name (i := 9) nd rfl (.inl rfl))) (fun _ _ _ _ _ => (pts_one (pt_cmpR op_ne (pe_ix (Mk.ix K rfl) (pv 9) (pv 5) (fun _ _ => rfl)) pe_int (nomark _)))) (fun _ _ _ _ _ => (pv 9)))
      (pss_one (ps_if (pt_cmpR (Mk.neD K rfl hr.units) (pv 6) (pe_lst pa_nil) (nomark _)) (pss_cons (ps_set (i := 7) nd rfl (.inr rfl) (C8.pe_c ok__law_inverse hr (by decide) (by rfl) (pa_cons (pv 0) (pa_cons (pe_ix (Mk.ix K rfl) (pe_ix (Mk.ix K rfl) (pv 6) pe_int (fun _ _ => rfl)) (pv 5) (fun _ _ => rfl)) pa_nil))))
      (pss_cons (ps_set (i := 8) nd rfl (.inr rfl) (pe_callTy (Mk.tuple K rfl) (by rfl) T.b_tuple PyProof.Rows.boot_tuple (pa_cons (pe_lc (own := [("_law_own", 10)]) (g := (gName 10)) (tt := tYes) rfl nd (pi_tup (pe_ix (Mk.ix K rfl) (pv 6) pe_int (fun _ _ => rfl))) (blkOk_by (by rfl)) (fun _ _ _ _ _ => (pg_name (i := 10) nd rfl (.inl rfl))) (fun _ _ _ _ _ => pts_nil) (fun _ _ _ _ _ => (pe_op op_mod (pe_callTy call_int1 (by rfl) T.b_int (by decide +kernel) (pa_cons (pe_op op_mul (pv 7) (pv 10)) pa_nil)) (pv 0)))) pa_nil)))
      (pss_cons (ps_setLc (i := 3) (own := [("_law_row", 9)]) (g := (gName 9)) (tt := tYes) rfl nd rfl rfl (sw_true rfl rfl rfl (by decide +kernel)) (pi_list (pv 3)) (blkOk_by (by rfl)) (fun _ _ _ _ _ => (pg_name (i := 9) nd rfl (.inl rfl))) (fun _ _ _ _ _ => pts_nil) (fun _ _ _ _ _ => (C8.pe_c ok__law_less hr (by decide) (by rfl) (pa_cons (pv 0) (pa_cons (pv 9) (pa_cons (pv 8) (pa_cons (pv 5) pa_nil)))))))
      (pss_one (ps_set (i := 4) nd rfl (.inl rfl) (pe_op (Mk.catS K rfl) (pe_lc (own := [("_law_row", 9)]) (g := (gName 9)) (tt := tYes) rfl nd (pi_list (pv 4)) (blkOk_by (by rfl)) (fun _ _ _ _ _ => (pg_name (i := 9) nd rfl (.inl rfl))) (fun _ _ _ _ _ => pts_nil) (fun _ _ _ _ _ => (C8.pe_c ok__law_less hr (by decide) (by rfl) (pa_cons (pv 0) (pa_cons (pv 9) (pa_cons (pv 8) (pa_cons (pv 5) pa_nil))))))) (pe_lst (pa_cons (pv 8) pa_nil)))))))) pss_nil))))
      (pss_one (ps_ret (pe_tup (pa_cons (pv 0) (pa_cons (pv 1) (pa_cons (pe_callTy (Mk.tuple K rfl) (by rfl) T.b_tuple PyProof.Rows.boot_tuple (pa_cons (pv 4) pa_nil)) pa_nil)))))))), ?_⟩
  have hb := hp.b
  have inv0 := fun i => stepsF_ok (p := p) (n := n) (rows := rows) (by omega) hR i
  refine gs_seq (gs_par (ea_cons (ed_lcm (as := rows) (enc := eT) eT (ei_list (ed_var rfl)) (by omega) fun r hq => ⟨_, _, gt_name, by simp, fun s => ed_cb (ea_cons (ed_var rfl) ea_nil) rc_tupleT⟩) (ea_cons (ed_lst ea_nil (sz (by simp))) ea_nil)) ?_)
  refine gs_seq (gs_for (as := List.range n) (enc := fun (j : Nat) => .int (j : Int)) (ei_is (ei_rng1 (ea_cons (ed_var rfl) ea_nil) ⟨by omega, by omega⟩) (rng0 n)) (fun i Γ S => ∃ L F s5 s6 s7 s8, stepsF p rows i = (L, F) ∧ Γ = [.dat (.int p), .dat (.int (n : Int)), .dat (.list (rows.map eT)), .dat (.list (L.map eT)), .dat (.list (F.map eT)), s5, s6, s7, s8, .un, .un] ∧ S = S0) ⟨rows, [], _, _, _, _, rfl, rfl, rfl⟩ ?_ ?_)
  rotate_left
  · rintro Γ' S' ⟨L, F, s5, s6, s7, s8, e, rfl, rfl⟩
    rw [List.length_range] at e
    refine gs_ret (ed_tup (ea_cons (ed_var rfl) (ea_cons (ed_var rfl) (ea_cons (ed_cb (ea_cons (ed_var rfl) ea_nil) rc_tuple) ea_nil))) (sz (by simp))) ?_
    unfold stairF
    rw [e]
    rfl
  rintro i a Γ' S' ha ⟨L, F, s5, s6, s7, s8, e, rfl, rfl⟩
  obtain ⟨rfl, hi⟩ := range_get ha
  obtain ⟨q1, q2⟩ := inv0 i
  obtain ⟨l1, l2⟩ := stepsF_len (p := p) (rows := rows) i
  have e3 := stepsF_succ p rows i
  rw [e] at q1 q2 l1 l2 e3
  simp only at q1 q2 l1 l2
  refine ⟨_, _, gt_name, ?_⟩
  refine gs_seq (gs_asg (ed_lc (as := L) (enc := eT) (fun r => r.getD i 0 != 0) eT (ei_list (ed_var rfl)) (by omega) fun r hq => ⟨_, _, gt_name, by simp, fun s => ⟨et_is (et_test (ed_op (ed_op (ed_var rfl) (ed_var rfl) (rd_ixRow false (q1 r hq) hi)) ed_int rd_neI)) (ne_bne _), fun _ => ed_var rfl⟩⟩) ?_)
  refine gs_if (et_test (ed_op (ed_var rfl) (ed_lst ea_nil (sz (by simp))) (rd_neD (sh_LT _) sh_nil))) (fun h => ?_) (fun h => gs_next ?_)
  rotate_left
  · rw [eqv_nil] at h
    have h' : (L.filter fun r => r.getD i 0 != 0).isEmpty = true := by
      cases q : (L.filter fun r => r.getD i 0 != 0).isEmpty with
      | true => rfl
      | false =>
        rw [q] at h
        cases h
    rw [stepF_nil (List.isEmpty_iff.mp h')] at e3
    exact ⟨_, _, _, _, _, _, e3, rfl, rfl⟩
  rw [eqv_nil] at h
  cases eh : L.filter fun r => r.getD i 0 != 0 with
  | nil =>
    rw [eh] at h
    cases h
  | cons hd tl =>
    have hm := List.mem_filter.mp (show hd ∈ L.filter fun r => r.getD i 0 != 0 by rw [eh]; exact List.mem_cons_self)
    have hok := q1 hd hm.1
    have hx := hok.at_ hi
    have hnz : hd.getD i 0 ≠ 0 := by simpa using hm.2
    obtain ⟨o, ho, o1, o2, o3⟩ := hp.inv (x := hd.getD i 0) (by omega) hx.2.2
    rw [stepF_cons eh, ho, Option.getD_some] at e3
    have hown := own_ok (p := p) (n := n) (h := hd) (f := o) (by omega) hok.1
    refine gs_seq (gs_asg (ed_call (ea_cons (ed_var rfl) (ea_cons (ed_op (ed_op (ed_var rfl) ed_int (rd_ix0 true)) (ed_var rfl) (rd_ixRow false hok hi)) ea_nil)) (d := .int o) ⟨p, _, rfl, by omega, by omega, by rw [ho]; rfl⟩) ?_)
    refine gs_seq (gs_asg (ed_is (d' := eT (hd.map fun x => o * x % p)) (ed_cb (ea_cons (ed_lcm (as := hd) (enc := .int) (fun x => .int (o * x % p)) (ei_tup (ed_op (ed_var rfl) ed_int (rd_ix0 true))) (by have := hok.1; omega) fun x hx => ⟨_, _, gt_name, by simp, fun s => ed_op (ed_cb (ea_cons (ed_op (ed_var rfl) (ed_var rfl) (rd_I (by trivial))) ea_nil) rc_int) (ed_var rfl) (rd_I (by trivial))⟩) ea_nil) rc_tuple) (congrArg PyData.tuple (mm _ PyData.int hd).symm)) ?_)
    have hL : ∀ (M : List (List Int)), RowsOk p n M → ∀ r ∈ M, R__law_less [.int p, eT r, eT (hd.map fun x => o * x % p), .int (i : Int)] (eT (addF p r (hd.map fun x => o * x % p) (-(r.getD i 0)))) := fun M hM r hq => ⟨p, n, r, _, i, rfl, hp, hn, hM r hq, hown, hi, rfl⟩
    refine gs_seq (gs_asg (ed_is (ed_lcm (as := L) (enc := eT) (fun r => eT (addF p r (hd.map fun x => o * x % p) (-(r.getD i 0)))) (ei_list (ed_var rfl)) (by omega) fun r hq => ⟨_, _, gt_name, by simp, fun s => ed_call (ea_cons (ed_var rfl) (ea_cons (ed_var rfl) (ea_cons (ed_var rfl) (ea_cons (ed_var rfl) ea_nil)))) (hL L q1 r hq)⟩) (congrArg PyData.list (mm _ eT L).symm)) ?_)
    refine gs_asg (ed_is (ed_op (ed_lcm (as := F) (enc := eT) (fun r => eT (addF p r (hd.map fun x => o * x % p) (-(r.getD i 0)))) (ei_list (ed_var rfl)) (by omega) fun r hq => ⟨_, _, gt_name, by simp, fun s => ed_call (ea_cons (ed_var rfl) (ea_cons (ed_var rfl) (ea_cons (ed_var rfl) (ea_cons (ed_var rfl) ea_nil)))) (hL F q2 r hq)⟩) (ed_lst (ea_cons (ed_var rfl) ea_nil) (sz (by simp))) (rd_catL (by simp; omega))) (show _ = PyData.list (((F.map fun r => addF p r (hd.map fun x => o * x % p) (-(r.getD i 0))) ++ [hd.map fun x => o * x % p]).map eT) by simp [eT, Function.comp_def])) ?_
    exact ⟨_, _, _, _, _, _, e3, rfl, rfl⟩
def R__law_lead : Rel := R_lead_of_sortrules
theorem sc__law_lead : FnScope ["_law_row", "_law_at", "_law_own"] ["_law_row"] (defScope (Bx.top 60)) := ⟨rfl, rfl, rfl, by decide +kernel, rfl, by decide +kernel, by decide +kernel⟩
theorem ok__law_lead (T : Tx w K mg base) : C8.Cal P w K mg base 1 "_law_lead" (spD K R__law_lead) [] := by
  obtain ⟨fd, F⟩ := T.f__law_lead
  refine cal_pure F T.g__law_lead (F.bindsN (fun _ _ _ _ _ _ us hl => match us, hl with | [_], _ => rfl)) sc__law_lead (by rintro _ _ ⟨r, rfl, hl, hd, rfl⟩ <;> rfl) ?_
  rintro _ _ ⟨r, rfl, hl, hd, rfl⟩ cdv A outer sh H E hr
  have nd := sc__law_lead.nd
  refine ⟨_, (pss_one (ps_ret (pe_ix (Mk.ix K rfl) (pe_lc (own := [("_law_at", 1), ("_law_own", 2)]) (g := (gTup K 2 (gCons (gName 1) (gCons (gName 2) gNil)))) rfl nd (Ml.pi_enumC false (by rfl) T.b_enumerate (pa_cons (pv 0) pa_nil)) (blkOk_by (by rfl)) (fun _ _ _ _ _ => (pg_tup rfl (pgs_cons (pg_name (i := 1) nd rfl (.inl rfl)) (pgs_cons (pg_name (i := 2) nd rfl (.inl rfl)) pgs_nil)))) (fun _ _ _ _ _ => (pts_one (pt_cmpR op_ne (pv 2) pe_int (nomark _)))) (fun _ _ _ _ _ => (pv 1))) pe_int (fun _ _ => rfl)))), ?_⟩
  obtain ⟨i, hi⟩ := Option.isSome_iff_exists.mp hd
  have hlz := lead_zip r 0 i hi
  refine gs_ret (ed_op (ed_lc (as := r.zipIdx) (enc := fun q => pairD (.int (q.2 : Int)) (.int q.1)) (fun q => q.1 != 0) (fun q => .int (q.2 : Int)) (ei_is (ei_enum (c := false) (ea_cons (ed_var rfl) ea_nil)) (enum_enc r)) (by rw [List.length_zipIdx]; omega) fun q hq => ⟨_, _, gt_tup (gts_cons gt_name (gts_cons gt_name gts_nil)) rfl, by simp, fun s => ⟨et_is (et_test (ed_op (ed_var rfl) ed_int rd_neI)) (ne_bne _), fun _ => (ed_var rfl)⟩⟩) ed_int (rd_ixL (j := 0) (d := .int (ldF r : Nat)) (ixN_nat (by omega) ?_) ?_)) rfl
  · have := (List.getElem?_eq_some_iff.mp hlz).1
    omega
  · rw [hlz]
    unfold ldF
    rw [hi]
    rfl
def R__law_leads : Rel := R_leads_of
theorem sc__law_leads : FnScope ["_law_plane_here", "_law_row"] ["_law_plane_here"] (defScope (Bx.top 61)) := ⟨rfl, rfl, rfl, by decide +kernel, rfl, by decide +kernel, by decide +kernel⟩
theorem ok__law_leads (T : Tx w K mg base) : C8.Cal P w K mg base 2 "_law_leads" (spD K R__law_leads) [] := by
  obtain ⟨fd, F⟩ := T.f__law_leads
  have ok__law_lead := ok__law_lead (P := P) T
  refine cal_pure F T.g__law_leads (F.bindsN (fun _ _ _ _ _ _ us hl => match us, hl with | [_], _ => rfl)) sc__law_leads (by rintro _ _ ⟨p, n, rows, rfl, hF, rfl⟩ <;> rfl) ?_
  rintro _ _ ⟨p, n, rows, rfl, hF, rfl⟩ cdv A outer sh H E hr
  have nd := sc__law_leads.nd
  refine ⟨_, (pss_one (ps_ret (pe_lc (own := [("_law_row", 1)]) (g := (gName 1)) (tt := tYes) rfl nd (pi_tup (pe_ix (Mk.ix K rfl) (pv 0) pe_int (fun _ _ => rfl))) (blkOk_by (by rfl)) (fun _ _ _ _ _ => (pg_name (i := 1) nd rfl (.inl rfl))) (fun _ _ _ _ _ => pts_nil) (fun _ _ _ _ _ => (C8.pe_c ok__law_lead hr (by decide) (by rfl) (pa_cons (pv 1) pa_nil)))))), ?_⟩
  have hn := hF.hn
  have hl := hF.hl
  refine gs_ret (ed_lcm (as := rows) (enc := eT) (fun r => .int (ldF r : Nat)) (ei_tup (ed_f2 rfl)) (by omega) fun r hr => ⟨_, _, gt_name, by simp, fun s => ed_call (ea_cons (ed_var rfl) ea_nil) ⟨r, rfl, by have := (hF.hr r hr).1; omega, hF.hd r hr, rfl⟩⟩) ?_
  unfold leadsF
  rw [List.map_map]
  rfl
def colF (rows : List (List Int)) (e : Nat) : List Int := rows.map fun r => r.getD e 0
def R__law_column : Rel := fun ds d => ∃ (p : Int) (n : Nat) (rows : List (List Int)) (e : Nat), ds = [eF p n rows, .int (e : Int)] ∧ Fok p n rows ∧ e < n ∧ d = eT (colF rows e)
theorem sc__law_column : FnScope ["_law_plane_here", "_law_end", "_law_row"] ["_law_plane_here", "_law_end"] (defScope (Bx.top 62)) := ⟨rfl, rfl, rfl, by decide +kernel, rfl, by decide +kernel, by decide +kernel⟩
theorem ok__law_column (T : Tx w K mg base) : C8.Cal P w K mg base 1 "_law_column" (spD K R__law_column) [] := by
  obtain ⟨fd, F⟩ := T.f__law_column
  refine cal_pure F T.g__law_column (F.bindsN (fun _ _ _ _ _ _ us hl => match us, hl with | [_, _], _ => rfl)) sc__law_column (by rintro _ _ ⟨p, n, rows, e, rfl, hF, he, rfl⟩ <;> rfl) ?_
  rintro _ _ ⟨p, n, rows, e, rfl, hF, he, rfl⟩ cdv A outer sh H E hr
  have nd := sc__law_column.nd
  refine ⟨_, (pss_one (ps_ret (pe_callTy (Mk.tuple K rfl) (by rfl) T.b_tuple PyProof.Rows.boot_tuple (pa_cons (pe_lc (own := [("_law_row", 2)]) (g := (gName 2)) (tt := tYes) rfl nd (pi_tup (pe_ix (Mk.ix K rfl) (pv 0) pe_int (fun _ _ => rfl))) (blkOk_by (by rfl)) (fun _ _ _ _ _ => (pg_name (i := 2) nd rfl (.inl rfl))) (fun _ _ _ _ _ => pts_nil) (fun _ _ _ _ _ => (pe_ix (Mk.ix K rfl) (pv 2) (pv 1) (fun _ _ => rfl)))) pa_nil)))), ?_⟩
  have hn := hF.hn
  have hl := hF.hl
  exact gs_ret (ed_cb (ea_cons (ed_is (ed_lcm (as := rows) (enc := eT) (fun r => .int (r.getD e 0)) (ei_tup (ed_f2 rfl)) (by omega) fun r hr => ⟨_, _, gt_name, by simp, fun s => ed_op (ed_var rfl) (ed_var rfl) (rd_ixRow false (hF.hr r hr) he)⟩) (congrArg PyData.list (mm _ PyData.int _).symm)) ea_nil) rc_tuple) rfl
def R__law_turned_plane : Rel := fun ds d => ∃ (p : Int) (n : Nat) (rows : List (List Int)) (wd : Nat), ds = [eF p n rows, .int (wd : Int)] ∧ Fok p n rows ∧ wd ≤ n ∧ d = eF p n (tuF p n wd rows)
theorem sc__law_turned_plane : FnScope ["_law_plane_here", "_law_wide", "_law_row"] ["_law_plane_here", "_law_wide"] (defScope (Bx.top 63)) := ⟨rfl, rfl, rfl, by decide +kernel, rfl, by decide +kernel, by decide +kernel⟩
theorem ok__law_turned_plane (T : Tx w K mg base) : C8.Cal P w K mg base 3 "_law_turned_plane" (spD K R__law_turned_plane) [] := by
  obtain ⟨fd, F⟩ := T.f__law_turned_plane
  have ok__law_plane := ok__law_plane (P := P) T
  refine cal_pure F T.g__law_turned_plane (F.bindsN (fun _ _ _ _ _ _ us hl => match us, hl with | [_, _], _ => rfl)) sc__law_turned_plane (by rintro _ _ ⟨p, n, rows, wd, rfl, hF, hw, rfl⟩ <;> rfl) ?_
  rintro _ _ ⟨p, n, rows, wd, rfl, hF, hw, rfl⟩ cdv A outer sh H E hr
  have nd := sc__law_turned_plane.nd
  refine ⟨_, (pss_one (ps_ret (C8.pe_c ok__law_plane hr (by decide) (by rfl) (pa_cons (pe_ix (Mk.ix K rfl) (pv 0) pe_int (fun _ _ => rfl)) (pa_cons (pe_ix (Mk.ix K rfl) (pv 0) pe_int (fun _ _ => rfl)) (pa_cons (pe_lc (own := [("_law_row", 2)]) (g := (gName 2)) (tt := tYes) rfl nd (pi_tup (pe_ix (Mk.ix K rfl) (pv 0) pe_int (fun _ _ => rfl))) (blkOk_by (by rfl)) (fun _ _ _ _ _ => (pg_name (i := 2) nd rfl (.inl rfl))) (fun _ _ _ _ _ => pts_nil) (fun _ _ _ _ _ => (pe_op (Mk.catA K rfl) (pe_slice (Mk.slT K rfl) (pv 2) (po_some (pv 1)) po_none) (pe_slice (Mk.slT K rfl) (pv 2) po_none (po_some (pv 1)))))) pa_nil)))))), ?_⟩
  have hn := hF.hn
  have hl := hF.hl
  refine gs_ret (ed_call (ea_cons (ed_f0 rfl) (ea_cons (ed_f1 rfl) (ea_cons (ed_is (d' := .list ((rows.map (rotF wd)).map eT)) (ed_lcm (as := rows) (enc := eT) (fun r => eT (rotF wd r)) (ei_tup (ed_f2 rfl)) (by omega) fun r hr => ⟨_, _, gt_name, by simp, fun s => ed_is (ed_op (ed_slT (ed_var rfl) (eo_some (ed_var rfl)) eo_none) (ed_slT (ed_var rfl) eo_none (eo_some (ed_var rfl))) (rd_catT ?_)) ?_⟩) (congrArg PyData.list (mm _ eT _).symm)) ea_nil))) ⟨p, n, rows.map (rotF wd), rfl, hF.hp, hn, by rw [List.length_map]; omega, tuRows_ok hF.hr, rfl⟩) rfl
  · have := (hF.hr r hr).1
    rw [cut_hi, cut_lo, List.length_drop, List.length_take, List.length_map]
    omega
  · rw [cut_hi, cut_lo, ← List.map_drop, ← List.map_take, ← List.map_append]
    rfl
end Pm


set_option Elab.async false
set_option linter.all false
set_option maxRecDepth 100000
set_option maxHeartbeats 4000000
set_option autoImplicit false
namespace Pm
open PySem PySem.Spec PyProof.Rows L2 Dl Bx
variable {P : Program} {w : World} {K : PySem.W.Frag} {mg : Str → Option Value} {base : Heap}
local macro_rules | `(tactic| trivial) => `(tactic| first | omega | exact Or.inr ⟨by omega, by omega⟩ | exact Or.inl ⟨by omega, by omega⟩ | exact ⟨by omega, by omega⟩)
def exL (p : Int) (n wd : Nat) (rows : List (List Int)) : List (List Int) := stairF p n ((upF p n rows).map (negF p wd))
theorem exLRows_ok {p : Int} {n wd i : Nat} {rows : List (List Int)} (hp : Pr p) : RowsOk p n ((upAt p n rows i).map (negF p wd)) := fun q hq => by
  have hb := hp.b
  obtain ⟨r, hr, rfl⟩ := List.mem_map.mp hq
  exact neg_ok (by omega) (upAt_ok (by omega) r hr)
theorem exL_fok {p : Int} {n wd : Nat} {rows : List (List Int)} (h : Fok p n rows) : Fok p n (exL p n wd rows) := stair_fok h.hp h.hn (exLRows_ok h.hp)
def R__law_exchanged_plane : Rel := fun ds d => ∃ (p : Int) (n : Nat) (rows : List (List Int)) (wd : Nat), ds = [eF p n rows, .int (wd : Int)] ∧ Fok p n rows ∧ wd ≤ n ∧ d = eF p n (exL p n wd rows)
theorem sc__law_exchanged_plane : FnScope ["_law_plane_here", "_law_wide", "_law_prime", "_law_ends_here", "_law_rows", "_law_leads_here", "_law_found", "_law_end", "_law_line", "_law_lead_here", "_law_row", "_law_own"] ["_law_plane_here", "_law_wide"] (defScope (Bx.top 64)) := ⟨rfl, rfl, rfl, by decide +kernel, rfl, by decide +kernel, by decide +kernel⟩
theorem ok__law_exchanged_plane (T : Tx w K mg base) : C8.Cal P w K mg base 3 "_law_exchanged_plane" (spD K R__law_exchanged_plane) [] := by
  obtain ⟨fd, F⟩ := T.f__law_exchanged_plane
  have ok__law_leads := ok__law_leads (P := P) T
  have ok__law_plane := ok__law_plane (P := P) T
  refine cal_pure F T.g__law_exchanged_plane (F.bindsN (fun _ _ _ _ _ _ us hl => match us, hl with | [_, _], _ => rfl)) sc__law_exchanged_plane (by rintro _ _ ⟨p, n, rows, wd, rfl, hF, hw, rfl⟩ <;> rfl) ?_
  rintro _ _ ⟨p, n, rows, wd, rfl, hF, hw, rfl⟩ cdv A outer sh H E hr
  have nd := sc__law_exchanged_plane.nd
  refine ⟨_, (pss_cons (ps_asg (pv 0) (pg_tup rfl (pgs_cons (pg_name (i := 2) nd rfl (.inr rfl)) (pgs_cons (pg_name (i := 3) nd rfl (.inl rfl)) (pgs_cons (pg_name (i := 4) nd rfl (.inl rfl)) pgs_nil)))))
      (pss_cons (ps_par (i := 5) (j := 6) rfl nd rfl rfl (by decide) rfl rfl (pa_cons (C8.pe_c ok__law_leads hr (by decide) (by rfl) (pa_cons (pv 0) pa_nil)) (pa_cons (pe_lst pa_nil) pa_nil)) (by rfl))
      (pss_cons (ps_for PassesOwn.never rfl (pi_range1 (by rfl) T.b_range (pa_cons (pv 3) pa_nil)) (pg_name (i := 7) nd rfl (.inl rfl)) (pss_one (ps_if (pt_cmpR (Mk.notIn K rfl) (pv 7) (pv 5) rfl) (pss_cons (ps_set (i := 8) nd rfl (.inl rfl) (pe_op op_rep (pe_lst (pa_cons pe_int pa_nil)) (pv 3)))
      (pss_cons (ps_asg pe_int (pg_sub (pv 8) (pv 7) set_list))
      (pss_cons (ps_for PassesOwn.never rfl (Ml.pi_zipC true false (by rfl) T.b_zip (pa_cons (pv 5) (pa_cons (pv 4) pa_nil))) (pg_tup rfl (pgs_cons (pg_name (i := 9) nd rfl (.inl rfl)) (pgs_cons (pg_name (i := 10) nd rfl (.inl rfl)) pgs_nil))) (pss_one (ps_asg (pe_op op_mod (pe_callTy call_int1 (by rfl) T.b_int (by decide +kernel) (pa_cons (pe_un un_neg (pe_ix (Mk.ix K rfl) (pv 10) (pv 7) (fun _ _ => rfl))) pa_nil)) (pv 2)) (pg_sub (pv 8) (pv 9) set_list))))
      (pss_one (ps_expr (pe_bm PySem.F.plainAttrs_list PySem.F.slot_list_append PySem.F.type_list_append mt_append (pv 6) (pa_cons (pe_callTy (Mk.tuple K rfl) (by rfl) T.b_tuple PyProof.Rows.boot_tuple (pa_cons (pe_op (Mk.catS K rfl) (pe_slice (Mk.slL K rfl) (pv 8) po_none (po_some (pv 1))) (pe_lc (own := [("_law_own", 11)]) (g := (gName 11)) (tt := tYes) rfl nd (pi_list (pe_slice (Mk.slL K rfl) (pv 8) (po_some (pv 1)) po_none)) (blkOk_by (by rfl)) (fun _ _ _ _ _ => (pg_name (i := 11) nd rfl (.inl rfl))) (fun _ _ _ _ _ => pts_nil) (fun _ _ _ _ _ => (pe_op op_mod (pe_callTy call_int1 (by rfl) T.b_int (by decide +kernel) (pa_cons (pe_un un_neg (pv 11)) pa_nil)) (pv 2))))) pa_nil)) pa_nil))))))) pss_nil)))
      (pss_one (ps_ret (C8.pe_c ok__law_plane hr (by decide) (by rfl) (pa_cons (pv 2) (pa_cons (pv 3) (pa_cons (pv 6) pa_nil))))))))), ?_⟩
  have hb := hF.hp.b
  have hn := hF.hn
  have hl := hF.hl
  refine gs_seq (gs_asgT (ed_var rfl) (gt_tup (gts_cons gt_name (gts_cons gt_name (gts_cons gt_name gts_nil))) rfl) ?_)
  refine gs_seq (gs_parDO (ed_call (ea_cons (ed_var rfl) ea_nil) ⟨p, n, rows, rfl, hF, rfl⟩) (en_lst ea_nil (sz (by simp))) ?_)
  refine gs_seq (gs_for (as := List.range n) (enc := fun (j : Nat) => .int (j : Int)) (ei_is (ei_rng1 (ea_cons (ed_var rfl) ea_nil) ⟨by omega, by omega⟩) (rng0 n)) (fun i Γ S => ∃ s7 s8 s9 s10, Γ = [.dat (eF p n rows), .dat (.int (wd : Int)), .dat (.int p), .dat (.int (n : Int)), .dat (.tuple (rows.map eT)), .dat (.list ((leadsF rows).map .int)), .own (((upAt p n rows i).map (negF p wd)).map eT), s7, s8, s9, s10, .un] ∧ S = S0) ⟨_, _, _, _, rfl, rfl⟩ ?_ ?_)
  · rintro i a Γ' S' ha ⟨s7, s8, s9, s10, rfl, rfl⟩
    obtain ⟨rfl, hi⟩ := range_get ha
    refine ⟨_, _, gt_name, gs_if (et_test (ed_op (ed_var rfl) (ed_var rfl) (rd_inI (ns := leadsF rows)))) (fun h => ?_) (fun h => gs_next ?_)⟩
    · refine gs_seq (gs_asgO (en_is (en_rep (ea_cons ed_int ea_nil) (ed_var rfl) (by simp) (by omega)) (rep_ints n 0)) ?_)
      refine gs_seq (gs_set (xs := (List.replicate n 0).map PyData.int) (j := i) rfl ed_int (ed_var rfl) (ixN_lt (by simp; omega)) ?_)
      refine gs_seq (gs_for (as := rows) (enc := fun r => pairD (.int ((((leadF r).getD 0 : Nat) : Int))) (eT r)) (ei_is (ei_zip (c1 := true) (c2 := false) (ea_cons (ed_var rfl) (ea_cons (ed_var rfl) ea_nil))) ?_)
        (fun k Γ S => ∃ o s9 s10, RowOk p n o ∧ (rows.drop k).foldl (fun o r => o.set ((leadF r).getD 0) (-(r.getD i 0) % p)) o = dualF p n rows i ∧ Γ = [.dat (eF p n rows), .dat (.int (wd : Int)), .dat (.int p), .dat (.int (n : Int)), .dat (.tuple (rows.map eT)), .dat (.list ((leadsF rows).map .int)), .own (((upAt p n rows i).map (negF p wd)).map eT), .dat (.int (i : Int)), .own (o.map .int), s9, s10, .un] ∧ S = S0)
        ⟨(List.replicate n 0).set i 1, _, _, set_ok (rep_ok (by omega)) (by omega) (by omega), rfl, by rw [List.map_set]; rfl, rfl⟩ ?_ ?_)
      · unfold leadsF
        rw [List.map_map, List.zipWith_map, List.zipWith_self]
        rfl
      · rintro k r Γ' S' hr ⟨o, s9, s10, ho, e, rfl, rfl⟩
        have hmem := List.mem_of_getElem? hr
        have hlead := leadF_lt (hF.hd.at_ hmem)
        rw [(hF.hr r hmem).1] at hlead
        refine ⟨_, _, gt_tup (gts_cons gt_name (gts_cons gt_name gts_nil)) rfl, gs_set (xs := o.map PyData.int) (j := (leadF r).getD 0) rfl (ed_op (ed_cb (ea_cons (ed_un (ed_op (ed_var rfl) (ed_var rfl) (rd_ixRow false (hF.hr r hmem) hi)) ru_I) ea_nil) rc_int) (ed_var rfl) (rd_I (by trivial))) (ed_var rfl) (ixN_lt (by rw [List.length_map, ho.1]; omega)) ?_⟩
        refine ⟨o.set ((leadF r).getD 0) (-(r.getD i 0) % p), _, _, set_ok ho (Int.emod_nonneg _ (by omega)) (Int.emod_lt_of_pos _ (by omega)), ?_, by rw [List.map_set]; rfl, rfl⟩
        rw [← e, drop_get hr]
        rfl
      · rintro Γ' S' ⟨o, s9, s10, ho, e, rfl, rfl⟩
        rw [List.drop_length] at e
        have e' : o = dualF p n rows i := e
        subst e'
        have hol := ho.1
        refine gs_frz (i := 8) rfl (gs_app (i := 6) (d := eT (negF p wd (dualF p n rows i))) rfl (ed_is (ed_cb (ea_cons (ed_op (ed_slL (ed_var rfl) eo_none (eo_some (ed_var rfl))) (ed_lcm (as := (dualF p n rows i).drop wd) (enc := .int) (fun x => .int ((0 - x) % p)) (ei_list (ed_is (ed_slL (ed_var rfl) (eo_some (ed_var rfl)) eo_none) ?_)) (by rw [List.length_drop]; omega) fun x hx => ⟨_, _, gt_name, by simp, fun s => ed_is (ed_op (ed_cb (ea_cons (ed_un (ed_var rfl) ru_I) ea_nil) rc_int) (ed_var rfl) (rd_I (by trivial))) (by rw [Int.zero_sub])⟩) (rd_catL ?_)) ea_nil) rc_tuple) ?_) (by rw [List.length_map, List.length_map]; have := upAt_len (p := p) (n := n) (rows := rows) (i := i); omega) ?_)
        · rw [cut_hi, ← List.map_drop]
        · rw [cut_lo, List.length_take, List.length_map, List.length_map, List.length_drop]
          omega
        · rw [cut_lo, ← List.map_take]
          unfold eT negF
          rw [List.map_append, List.map_map]
          rfl
        · exact ⟨_, _, _, _, by rw [upAt_yes h, List.map_append, List.map_append]; rfl, rfl⟩
    · exact ⟨_, _, _, _, by rw [upAt_no h]; rfl, rfl⟩
  · rintro Γ' S' ⟨s7, s8, s9, s10, rfl, rfl⟩
    rw [List.length_range]
    have := upAt_len (p := p) (n := n) (rows := rows) (i := n)
    exact gs_frz (i := 6) rfl (gs_ret (ed_call (ea_cons (ed_var rfl) (ea_cons (ed_var rfl) (ea_cons (ed_var rfl) ea_nil))) ⟨p, n, _, rfl, hF.hp, hn, by rw [List.length_map]; omega, exLRows_ok hF.hp, rfl⟩) rfl)
def R__law_has : Rel := fun ds d => ∃ (p : Int) (n : Nat) (rows : List (List Int)) (v : List Int), ds = [eF p n rows, eT v] ∧ Fok p n rows ∧ RowOk p n v ∧ d = .bool (decide (redF p rows v = List.replicate n 0))
theorem sc__law_has : FnScope ["_law_plane_here", "_law_row", "_law_rest", "_law_own"] ["_law_plane_here", "_law_row"] (defScope (Bx.top 65)) := ⟨rfl, rfl, rfl, by decide +kernel, rfl, by decide +kernel, by decide +kernel⟩
theorem ok__law_has (T : Tx w K mg base) : C8.Cal P w K mg base 2 "_law_has" (spD K R__law_has) [] := by
  obtain ⟨fd, F⟩ := T.f__law_has
  have ok__law_lead := ok__law_lead (P := P) T
  have ok__law_less := ok__law_less (P := P) T
  refine cal_pure F T.g__law_has (F.bindsN (fun _ _ _ _ _ _ us hl => match us, hl with | [_, _], _ => rfl)) sc__law_has (by rintro _ _ ⟨p, n, rows, v, rfl, hF, hv, rfl⟩ <;> rfl) ?_
  rintro _ _ ⟨p, n, rows, v, rfl, hF, hv, rfl⟩ cdv A outer sh H E hr
  have nd := sc__law_has.nd
  refine ⟨_, (pss_cons (ps_set (i := 2) nd rfl (.inl rfl) (pv 1))
      (pss_cons (ps_for PassesOwn.never rfl (pi_tup (pe_ix (Mk.ix K rfl) (pv 0) pe_int (fun _ _ => rfl))) (pg_name (i := 3) nd rfl (.inl rfl)) (pss_one (ps_set (i := 2) nd rfl (.inl rfl) (C8.pe_c ok__law_less hr (by decide) (by rfl) (pa_cons (pe_ix (Mk.ix K rfl) (pv 0) pe_int (fun _ _ => rfl)) (pa_cons (pv 2) (pa_cons (pv 3) (pa_cons (C8.pe_c ok__law_lead hr (by decide) (by rfl) (pa_cons (pv 3) pa_nil)) pa_nil))))))))
      (pss_one (ps_ret (pe_cmpR (Mk.eqD K rfl hr.units) (pv 2) (pe_op (Mk.repA K rfl) (pe_tup (pa_cons pe_int pa_nil)) (pe_ix (Mk.ix K rfl) (pv 0) pe_int (fun _ _ => rfl))) (nomark _)))))), ?_⟩
  have hb := hF.hp.b
  have hn := hF.hn
  have hl := hF.hl
  refine gs_seq (gs_asg (ed_var rfl) ?_)
  refine gs_seq (gs_for (as := rows) (enc := eT) (ei_tup (ed_f2 rfl)) (fun i Γ S => ∃ l s3, redF p (rows.drop i) l = redF p rows v ∧ RowOk p n l ∧ Γ = [.dat (eF p n rows), .dat (eT v), .dat (eT l), s3] ∧ S = S0) ⟨v, _, by simp, hv, rfl, rfl⟩ ?_ ?_)
  · rintro i o Γ' S' ho ⟨l, s3, e, hlo, rfl, rfl⟩
    have hmem := List.mem_of_getElem? ho
    have hlead := hF.hd.at_ hmem
    have hoo := hF.hr o hmem
    have hi := leadF_lt hlead
    rw [hoo.1] at hi
    refine ⟨_, _, gt_name, gs_asg (ed_call (ea_cons (ed_f0 rfl) (ea_cons (ed_var rfl) (ea_cons (ed_var rfl) (ea_cons (ed_call (ea_cons (ed_var rfl) ea_nil) ⟨o, rfl, by have := hoo.1; omega, hF.hd o hmem, rfl⟩) ea_nil)))) ⟨p, n, l, o, ldF o, rfl, hF.hp, hn, hlo, hoo, hi, rfl⟩) ?_⟩
    refine ⟨_, _, ?_, addF_ok (by omega) hlo.1 hoo.1, rfl, rfl⟩
    rw [← e, drop_get ho]
    rfl
  · rintro Γ' S' ⟨l, s3, e, hlo, rfl, rfl⟩
    rw [List.drop_length] at e
    have e' : l = redF p rows v := e
    refine gs_ret (ed_is (ed_op (ed_var rfl) (ed_is (d' := eT (List.replicate n 0)) (ed_op (ed_tup (ea_cons ed_int ea_nil) (sz (by simp))) (ed_f1 rfl) (rd_repT (by simp) (by simp) (by omega))) (congrArg PyData.tuple (rep_ints n 0))) (rd_eqD (sh_eT _) (sh_eT _))) (congrArg PyData.bool (eqv_ints _ _))) ?_
    rw [e']
    rfl
/-! ### seen, unseen -/
def seenR (k : Nat) (p : Int) (n wd : Nat) (rows : List (List Int)) : List (List Int) :=
  let r1 := if k = 2 ∨ k = 3 then exL p n wd rows else rows
  if k = 1 ∨ k = 3 then tuF p n wd r1 else r1
def unseenR (k : Nat) (p : Int) (n wd : Nat) (rows : List (List Int)) : List (List Int) :=
  let r1 := if k = 1 ∨ k = 3 then tuF p n wd rows else rows
  let w1 := if k = 1 ∨ k = 3 then n - wd else wd
  if k = 2 ∨ k = 3 then exL p n w1 r1 else r1
def flipW (k : Nat) (n wd : Nat) : Nat := if k = 1 ∨ k = 3 then n - wd else wd
theorem seen_fok {k : Nat} {p : Int} {n wd : Nat} {rows : List (List Int)} (h : Fok p n rows) : Fok p n (seenR k p n wd rows) := by
  unfold seenR
  dsimp only
  split <;> split <;> first | exact tuF_fok (exL_fok h) | exact tuF_fok h | exact exL_fok h | exact h
theorem unseen_fok {k : Nat} {p : Int} {n wd : Nat} {rows : List (List Int)} (h : Fok p n rows) : Fok p n (unseenR k p n wd rows) := by
  unfold unseenR
  dsimp only
  split <;> split <;> first | exact exL_fok (tuF_fok h) | exact tuF_fok h | exact exL_fok h | exact h
theorem flipW_le {k n wd : Nat} (h : wd ≤ n) : flipW k n wd ≤ n := by
  unfold flipW
  split <;> omega
def R__law_seen : Rel := fun ds d => ∃ (k : Nat) (p : Int) (n : Nat) (rows : List (List Int)) (wd : Nat), ds = [.int (k : Int), eF p n rows, .int (wd : Int)] ∧ k < 4 ∧ Fok p n rows ∧ wd ≤ n ∧ d = .list [eF p n (seenR k p n wd rows), .int (flipW k n wd : Nat)]
def R__law_unseen : Rel := fun ds d => ∃ (k : Nat) (p : Int) (n : Nat) (rows : List (List Int)) (wd : Nat), ds = [.int (k : Int), eF p n rows, .int (wd : Int)] ∧ k < 4 ∧ Fok p n rows ∧ wd ≤ n ∧ d = .list [eF p n (unseenR k p n wd rows), .int (flipW k n wd : Nat)]
theorem inI2 {k a b : Nat} : (if false = true then !decide ((k : Int) ∈ ([(a : Int), (b : Int)] : List Int)) else decide ((k : Int) ∈ ([(a : Int), (b : Int)] : List Int))) = decide (k = a ∨ k = b) := by
  simp only [Bool.false_eq_true, if_false]
  congr 1
  simp
  omega
theorem sc__law_seen : FnScope ["_law_way", "_law_plane_here", "_law_wide"] ["_law_way", "_law_plane_here", "_law_wide"] (defScope (Bx.top 66)) := ⟨rfl, rfl, rfl, by decide +kernel, rfl, by decide +kernel, by decide +kernel⟩
theorem ok__law_seen (T : Tx w K mg base) : C8.Cal P w K mg base 4 "_law_seen" (spD K R__law_seen) [] := by
  obtain ⟨fd, F⟩ := T.f__law_seen
  have ok__law_exchanged_plane := ok__law_exchanged_plane (P := P) T
  have ok__law_turned_plane := ok__law_turned_plane (P := P) T
  refine cal_pure F T.g__law_seen (F.bindsN (fun _ _ _ _ _ _ us hl => match us, hl with | [_, _, _], _ => rfl)) sc__law_seen (by rintro _ _ ⟨k, p, n, rows, wd, rfl, hk, hF, hw, rfl⟩ <;> rfl) ?_
  rintro _ _ ⟨k, p, n, rows, wd, rfl, hk, hF, hw, rfl⟩ cdv A outer sh H E hr
  have nd := sc__law_seen.nd
  refine ⟨_, (pss_cons (ps_if (pt_cmpR (Mk.in_ K rfl) (pv 0) (pe_tup (pa_cons pe_int (pa_cons pe_int pa_nil))) rfl) (pss_one (ps_set (i := 1) nd rfl (.inl rfl) (C8.pe_c ok__law_exchanged_plane hr (by decide) (by rfl) (pa_cons (pv 1) (pa_cons (pv 2) pa_nil))))) pss_nil)
      (pss_cons (ps_if (pt_cmpR (Mk.in_ K rfl) (pv 0) (pe_tup (pa_cons pe_int (pa_cons pe_int pa_nil))) rfl) (pss_one (ps_ret (pe_lst (pa_cons (C8.pe_c ok__law_turned_plane hr (by decide) (by rfl) (pa_cons (pv 1) (pa_cons (pv 2) pa_nil))) (pa_cons (pe_op op_sub (pe_ix (Mk.ix K rfl) (pv 1) pe_int (fun _ _ => rfl)) (pv 2)) pa_nil))))) pss_nil)
      (pss_one (ps_ret (pe_lst (pa_cons (pv 1) (pa_cons (pv 2) pa_nil))))))), ?_⟩
  refine gs_seq ((gs_if (E := { nx := fun Γ S => ∃ r1, r1 = (if k = 2 ∨ k = 3 then exL p n wd rows else rows) ∧ Γ = [.dat (.int (k : Int)), .dat (eF p n r1), .dat (.int (wd : Int))] ∧ S = S0, rt := fun _ _ => False }) (et_is (et_test (ed_op (ed_var rfl) (ed_tup (ea_cons ed_int (ea_cons ed_int ea_nil)) (sz (by simp))) (rd_inIT (ns := [2, 3])))) (inI2 (a := 2) (b := 3))) (fun h => ?_) (fun h => gs_next ?_)).mono ?_ (fun _ _ h => h.elim) (fun _ _ h => h.elim) (fun _ _ h => h.elim))
  · exact gs_asg (ed_call (ea_cons (ed_var rfl) (ea_cons (ed_var rfl) ea_nil)) ⟨p, n, rows, wd, rfl, hF, hw, rfl⟩) ⟨_, (if_pos (of_decide_eq_true h)).symm, rfl, rfl⟩
  · exact ⟨_, (if_neg (of_decide_eq_false h)).symm, rfl, rfl⟩
  rintro Γ S ⟨r1, e1, rfl, rfl⟩
  have hF1 : Fok p n r1 := by
    rw [e1]
    split
    · exact exL_fok hF
    · exact hF
  refine gs_seq (gs_if (et_is (et_test (ed_op (ed_var rfl) (ed_tup (ea_cons ed_int (ea_cons ed_int ea_nil)) (sz (by simp))) (rd_inIT (ns := [1, 3])))) (inI2 (a := 1) (b := 3))) (fun h => gs_ret (ed_lst (ea_cons (ed_call (ea_cons (ed_var rfl) (ea_cons (ed_var rfl) ea_nil)) ⟨p, n, r1, wd, rfl, hF1, hw, rfl⟩) (ea_cons (ed_op (ed_f1 rfl) (ed_var rfl) rd_I0) ea_nil)) (sz (by simp))) ?_) (fun h => gs_next (gs_ret (ed_lst (ea_cons (ed_var rfl) (ea_cons (ed_var rfl) ea_nil)) (sz (by simp))) ?_)))
  · show PyData.list _ = PyData.list _
    unfold seenR flipW
    rw [if_pos (of_decide_eq_true h), if_pos (of_decide_eq_true h), ← e1, show ((n : Int) - (wd : Int)) = ((n - wd : Nat) : Int) by omega]
  · show PyData.list _ = PyData.list _
    unfold seenR flipW
    rw [if_neg (of_decide_eq_false h), if_neg (of_decide_eq_false h), ← e1]
theorem sc__law_unseen : FnScope ["_law_way", "_law_plane_here", "_law_wide"] ["_law_way", "_law_plane_here", "_law_wide"] (defScope (Bx.top 67)) := ⟨rfl, rfl, rfl, by decide +kernel, rfl, by decide +kernel, by decide +kernel⟩
theorem ok__law_unseen (T : Tx w K mg base) : C8.Cal P w K mg base 4 "_law_unseen" (spD K R__law_unseen) [] := by
  obtain ⟨fd, F⟩ := T.f__law_unseen
  have ok__law_exchanged_plane := ok__law_exchanged_plane (P := P) T
  have ok__law_turned_plane := ok__law_turned_plane (P := P) T
  refine cal_pure F T.g__law_unseen (F.bindsN (fun _ _ _ _ _ _ us hl => match us, hl with | [_, _, _], _ => rfl)) sc__law_unseen (by rintro _ _ ⟨k, p, n, rows, wd, rfl, hk, hF, hw, rfl⟩ <;> rfl) ?_
  rintro _ _ ⟨k, p, n, rows, wd, rfl, hk, hF, hw, rfl⟩ cdv A outer sh H E hr
  have nd := sc__law_unseen.nd
  refine ⟨_, (pss_cons (ps_if (pt_cmpR (Mk.in_ K rfl) (pv 0) (pe_tup (pa_cons pe_int (pa_cons pe_int pa_nil))) rfl) (pss_one (ps_par (i := 1) (j := 2) rfl nd rfl rfl (by decide) rfl rfl (pa_cons (C8.pe_c ok__law_turned_plane hr (by decide) (by rfl) (pa_cons (pv 1) (pa_cons (pv 2) pa_nil))) (pa_cons (pe_op op_sub (pe_ix (Mk.ix K rfl) (pv 1) pe_int (fun _ _ => rfl)) (pv 2)) pa_nil)) (by rfl))) pss_nil)
      (pss_cons (ps_if (pt_cmpR (Mk.in_ K rfl) (pv 0) (pe_tup (pa_cons pe_int (pa_cons pe_int pa_nil))) rfl) (pss_one (ps_ret (pe_lst (pa_cons (C8.pe_c ok__law_exchanged_plane hr (by decide) (by rfl) (pa_cons (pv 1) (pa_cons (pv 2) pa_nil))) (pa_cons (pv 2) pa_nil))))) pss_nil)
      (pss_one (ps_ret (pe_lst (pa_cons (pv 1) (pa_cons (pv 2) pa_nil))))))), ?_⟩
  refine gs_seq ((gs_if (E := { nx := fun Γ S => ∃ r1 w1, r1 = (if k = 1 ∨ k = 3 then tuF p n wd rows else rows) ∧ w1 = (if k = 1 ∨ k = 3 then n - wd else wd) ∧ Γ = [.dat (.int (k : Int)), .dat (eF p n r1), .dat (.int ((w1 : Nat) : Int))] ∧ S = S0, rt := fun _ _ => False }) (et_is (et_test (ed_op (ed_var rfl) (ed_tup (ea_cons ed_int (ea_cons ed_int ea_nil)) (sz (by simp))) (rd_inIT (ns := [1, 3])))) (inI2 (a := 1) (b := 3))) (fun h => ?_) (fun h => gs_next ?_)).mono ?_ (fun _ _ h => h.elim) (fun _ _ h => h.elim) (fun _ _ h => h.elim))
  · refine gs_par (ea_cons (ed_call (ea_cons (ed_var rfl) (ea_cons (ed_var rfl) ea_nil)) ⟨p, n, rows, wd, rfl, hF, hw, rfl⟩) (ea_cons (ed_is (d' := .int ((n - wd : Nat) : Int)) (ed_op (ed_f1 rfl) (ed_var rfl) rd_I0) (congrArg PyData.int (by omega))) ea_nil)) ⟨_, _, (if_pos (of_decide_eq_true h)).symm, (if_pos (of_decide_eq_true h)).symm, rfl, rfl⟩
  · exact ⟨_, _, (if_neg (of_decide_eq_false h)).symm, (if_neg (of_decide_eq_false h)).symm, rfl, rfl⟩
  rintro Γ S ⟨r1, w1, e1, e2, rfl, rfl⟩
  have hF1 : Fok p n r1 := by
    rw [e1]
    split
    · exact tuF_fok hF
    · exact hF
  have hw1 : w1 ≤ n := by
    rw [e2]
    split <;> omega
  have e3 : flipW k n wd = w1 := e2.symm
  rw [e3]
  refine gs_seq (gs_if (et_is (et_test (ed_op (ed_var rfl) (ed_tup (ea_cons ed_int (ea_cons ed_int ea_nil)) (sz (by simp))) (rd_inIT (ns := [2, 3])))) (inI2 (a := 2) (b := 3))) (fun h => gs_ret (ed_lst (ea_cons (ed_call (ea_cons (ed_var rfl) (ea_cons (ed_var rfl) ea_nil)) ⟨p, n, r1, w1, rfl, hF1, hw1, rfl⟩) (ea_cons (ed_var rfl) ea_nil)) (sz (by simp))) ?_) (fun h => gs_next (gs_ret (ed_lst (ea_cons (ed_var rfl) (ea_cons (ed_var rfl) ea_nil)) (sz (by simp))) ?_)))
  · show PyData.list _ = PyData.list _
    unfold unseenR
    rw [if_pos (of_decide_eq_true h), ← e1, ← e2]
  · show PyData.list _ = PyData.list _
    unfold unseenR
    rw [if_neg (of_decide_eq_false h), ← e1]
end Pm


set_option Elab.async false
set_option linter.all false
set_option maxRecDepth 100000
set_option maxHeartbeats 4000000
set_option autoImplicit false
namespace Pm
open PySem PySem.Spec PyProof.Rows L2 Dl Bx
variable {P : Program} {w : World} {K : PySem.W.Frag} {mg : Str → Option Value} {base : Heap}
local macro_rules | `(tactic| trivial) => `(tactic| first | omega | exact Or.inr ⟨by omega, by omega⟩ | exact Or.inl ⟨by omega, by omega⟩ | exact ⟨by omega, by omega⟩)
/-! ### the table -/
def sHere : Str := "copy drop add nought"
def sThere : Str := "uncopy undrop unadd unnought"
def sFree : Str := "copy drop uncopy undrop"
def sBoth : Str := "copy drop add nought undrop unnought"
abbrev Ln : Type := Str × Nat × Str
def ln (a : Str) (k : Nat) (b : Str) : Ln := (a, k, b)
def tableL : List Ln := (((((((([ln ("cross" : Str) 0 ("cross" : Str), ln ("copy" : Str) 0 ("copy" : Str), ln ("copy drop" : Str) 0 ("copy drop" : Str), ln ("uncopy" : Str) 1 ("copy" : Str)] ++ [ln ("uncopy undrop" : Str) 1 ("copy drop" : Str), ln ("copy uncopy" : Str) 0 ("copy uncopy" : Str), ln sFree 0 sFree]) ++ [ln ("add" : Str) 3 ("copy" : Str), ln ("add nought" : Str) 3 ("copy drop" : Str), ln ("unadd" : Str) 2 ("copy" : Str)]) ++ [ln ("unadd unnought" : Str) 2 ("copy drop" : Str), ln ("add unadd" : Str) 2 ("copy uncopy" : Str)]) ++ [ln ("add nought unadd unnought" : Str) 2 sFree, ln sHere 0 sHere, ln sThere 1 sHere]) ++ [ln (sHere ++ (" unnought" : Str)) 0 (sHere ++ (" unnought" : Str)), ln (("nought " : Str) ++ sThere) 1 (sHere ++ (" unnought" : Str))]) ++ [ln (sHere ++ (" undrop" : Str)) 0 (sHere ++ (" undrop" : Str)), ln (("drop " : Str) ++ sThere) 1 (sHere ++ (" undrop" : Str))]) ++ [ln sBoth 0 sBoth, ln (("drop nought " : Str) ++ sThere) 1 sBoth, ln ("times" : Str) 0 ("times" : Str)]) ++ [ln ("untimes" : Str) 1 ("times" : Str), ln ("all" : Str) 0 ("all" : Str)])
def eLn (l : Ln) : PyData := .tuple [.str l.1, .int (l.2.1 : Int), .str l.2.2]
theorem table_names : tableL.map (·.1) = sortsL := by decide +kernel
def R__law_table : Rel := fun ds d => ds = [] ∧ d = .list (tableL.map eLn)
theorem sl1 : sHere.length ≤ 100 ∧ sThere.length ≤ 100 ∧ (" unnought" : Str).length ≤ 100 ∧ (" undrop" : Str).length ≤ 100 ∧ ("nought " : Str).length ≤ 100 ∧ ("drop " : Str).length ≤ 100 ∧ ("drop nought " : Str).length ≤ 100 := by decide +kernel
theorem sc__law_table : FnScope ["_law_here", "_law_there", "_law_free", "_law_both", "_law_lines"] [] (defScope (Bx.top 68)) := ⟨rfl, rfl, rfl, by decide +kernel, rfl, by decide +kernel, by decide +kernel⟩
theorem ok__law_table (T : Tx w K mg base) : C8.Cal P w K mg base 1 "_law_table" (spD K R__law_table) [] := by
  obtain ⟨fd, F⟩ := T.f__law_table
  refine cal_pure F T.g__law_table (F.bindsN (fun _ _ _ _ _ _ us hl => match us, hl with | [], _ => rfl)) sc__law_table (by rintro _ _ ⟨rfl, rfl⟩ <;> rfl) ?_
  rintro _ _ ⟨rfl, rfl⟩ cdv A outer sh H E hr
  have nd := sc__law_table.nd
  refine ⟨_, (pss_cons (ps_asg (pe_tup (pa_cons pe_str (pa_cons pe_str pa_nil))) (pg_tup rfl (pgs_cons (pg_name (i := 0) nd rfl (.inl rfl)) (pgs_cons (pg_name (i := 1) nd rfl (.inl rfl)) pgs_nil))))
      (pss_cons (ps_asg (pe_tup (pa_cons pe_str (pa_cons pe_str pa_nil))) (pg_tup rfl (pgs_cons (pg_name (i := 2) nd rfl (.inl rfl)) (pgs_cons (pg_name (i := 3) nd rfl (.inl rfl)) pgs_nil))))
      (pss_cons (ps_set (i := 4) nd rfl (.inl rfl) (pe_lst (pa_cons (pe_tup (pa_cons pe_str (pa_cons pe_int (pa_cons pe_str pa_nil)))) (pa_cons (pe_tup (pa_cons pe_str (pa_cons pe_int (pa_cons pe_str pa_nil)))) (pa_cons (pe_tup (pa_cons pe_str (pa_cons pe_int (pa_cons pe_str pa_nil)))) (pa_cons (pe_tup (pa_cons pe_str (pa_cons pe_int (pa_cons pe_str pa_nil)))) pa_nil))))))
      (pss_cons (ps_set (i := 4) nd rfl (.inl rfl) (pe_op (Mk.catS K rfl) (pv 4) (pe_lst (pa_cons (pe_tup (pa_cons pe_str (pa_cons pe_int (pa_cons pe_str pa_nil)))) (pa_cons (pe_tup (pa_cons pe_str (pa_cons pe_int (pa_cons pe_str pa_nil)))) (pa_cons (pe_tup (pa_cons (pv 2) (pa_cons pe_int (pa_cons (pv 2) pa_nil)))) pa_nil))))))
      (pss_cons (ps_set (i := 4) nd rfl (.inl rfl) (pe_op (Mk.catS K rfl) (pv 4) (pe_lst (pa_cons (pe_tup (pa_cons pe_str (pa_cons pe_int (pa_cons pe_str pa_nil)))) (pa_cons (pe_tup (pa_cons pe_str (pa_cons pe_int (pa_cons pe_str pa_nil)))) (pa_cons (pe_tup (pa_cons pe_str (pa_cons pe_int (pa_cons pe_str pa_nil)))) pa_nil))))))
      (pss_cons (ps_set (i := 4) nd rfl (.inl rfl) (pe_op (Mk.catS K rfl) (pv 4) (pe_lst (pa_cons (pe_tup (pa_cons pe_str (pa_cons pe_int (pa_cons pe_str pa_nil)))) (pa_cons (pe_tup (pa_cons pe_str (pa_cons pe_int (pa_cons pe_str pa_nil)))) pa_nil)))))
      (pss_cons (ps_set (i := 4) nd rfl (.inl rfl) (pe_op (Mk.catS K rfl) (pv 4) (pe_lst (pa_cons (pe_tup (pa_cons pe_str (pa_cons pe_int (pa_cons (pv 2) pa_nil)))) (pa_cons (pe_tup (pa_cons (pv 0) (pa_cons pe_int (pa_cons (pv 0) pa_nil)))) (pa_cons (pe_tup (pa_cons (pv 1) (pa_cons pe_int (pa_cons (pv 0) pa_nil)))) pa_nil))))))
      (pss_cons (ps_set (i := 4) nd rfl (.inl rfl) (pe_op (Mk.catS K rfl) (pv 4) (pe_lst (pa_cons (pe_tup (pa_cons (pe_op op_add_str (pv 0) pe_str) (pa_cons pe_int (pa_cons (pe_op op_add_str (pv 0) pe_str) pa_nil)))) (pa_cons (pe_tup (pa_cons (pe_op op_add_str pe_str (pv 1)) (pa_cons pe_int (pa_cons (pe_op op_add_str (pv 0) pe_str) pa_nil)))) pa_nil)))))
      (pss_cons (ps_set (i := 4) nd rfl (.inl rfl) (pe_op (Mk.catS K rfl) (pv 4) (pe_lst (pa_cons (pe_tup (pa_cons (pe_op op_add_str (pv 0) pe_str) (pa_cons pe_int (pa_cons (pe_op op_add_str (pv 0) pe_str) pa_nil)))) (pa_cons (pe_tup (pa_cons (pe_op op_add_str pe_str (pv 1)) (pa_cons pe_int (pa_cons (pe_op op_add_str (pv 0) pe_str) pa_nil)))) pa_nil)))))
      (pss_cons (ps_set (i := 4) nd rfl (.inl rfl) (pe_op (Mk.catS K rfl) (pv 4) (pe_lst (pa_cons (pe_tup (pa_cons (pv 3) (pa_cons pe_int (pa_cons (pv 3) pa_nil)))) (pa_cons (pe_tup (pa_cons (pe_op op_add_str pe_str (pv 1)) (pa_cons pe_int (pa_cons (pv 3) pa_nil)))) (pa_cons (pe_tup (pa_cons pe_str (pa_cons pe_int (pa_cons pe_str pa_nil)))) pa_nil))))))
      (pss_one (ps_ret (pe_op (Mk.catS K rfl) (pv 4) (pe_lst (pa_cons (pe_tup (pa_cons pe_str (pa_cons pe_int (pa_cons pe_str pa_nil)))) (pa_cons (pe_tup (pa_cons pe_str (pa_cons pe_int (pa_cons pe_str pa_nil)))) pa_nil)))))))))))))))), ?_⟩
  obtain ⟨l1, l2, l3, l4, l5, l6, l7⟩ := sl1
  refine gs_seq (gs_asgT (d := .tuple [.str sHere, .str sThere]) (ed_tup (ea_cons ed_str (ea_cons ed_str ea_nil)) (sz (by simp))) (gt_tup (gts_cons gt_name (gts_cons gt_name gts_nil)) rfl) ?_)
  refine gs_seq (gs_asgT (d := .tuple [.str sFree, .str sBoth]) (ed_tup (ea_cons ed_str (ea_cons ed_str ea_nil)) (sz (by simp))) (gt_tup (gts_cons gt_name (gts_cons gt_name gts_nil)) rfl) ?_)
  refine gs_seq (gs_asg (ed_lst (ea_cons (ed_tup (ea_cons ed_str (ea_cons ed_int (ea_cons ed_str ea_nil))) (sz (by simp))) (ea_cons (ed_tup (ea_cons ed_str (ea_cons ed_int (ea_cons ed_str ea_nil))) (sz (by simp))) (ea_cons (ed_tup (ea_cons ed_str (ea_cons ed_int (ea_cons ed_str ea_nil))) (sz (by simp))) (ea_cons (ed_tup (ea_cons ed_str (ea_cons ed_int (ea_cons ed_str ea_nil))) (sz (by simp))) ea_nil)))) (sz (by simp))) ?_)
  refine gs_seq (gs_asg (ed_op (ed_var rfl) (ed_lst (ea_cons (ed_tup (ea_cons ed_str (ea_cons ed_int (ea_cons ed_str ea_nil))) (sz (by simp))) (ea_cons (ed_tup (ea_cons ed_str (ea_cons ed_int (ea_cons ed_str ea_nil))) (sz (by simp))) (ea_cons (ed_tup (ea_cons (ed_var rfl) (ea_cons ed_int (ea_cons (ed_var rfl) ea_nil))) (sz (by simp))) ea_nil))) (sz (by simp))) (rd_catL (by first | omega | (simp; done) | (simp; omega)))) ?_)
  refine gs_seq (gs_asg (ed_op (ed_var rfl) (ed_lst (ea_cons (ed_tup (ea_cons ed_str (ea_cons ed_int (ea_cons ed_str ea_nil))) (sz (by simp))) (ea_cons (ed_tup (ea_cons ed_str (ea_cons ed_int (ea_cons ed_str ea_nil))) (sz (by simp))) (ea_cons (ed_tup (ea_cons ed_str (ea_cons ed_int (ea_cons ed_str ea_nil))) (sz (by simp))) ea_nil))) (sz (by simp))) (rd_catL (by first | omega | (simp; done) | (simp; omega)))) ?_)
  refine gs_seq (gs_asg (ed_op (ed_var rfl) (ed_lst (ea_cons (ed_tup (ea_cons ed_str (ea_cons ed_int (ea_cons ed_str ea_nil))) (sz (by simp))) (ea_cons (ed_tup (ea_cons ed_str (ea_cons ed_int (ea_cons ed_str ea_nil))) (sz (by simp))) ea_nil)) (sz (by simp))) (rd_catL (by first | omega | (simp; done) | (simp; omega)))) ?_)
  refine gs_seq (gs_asg (ed_op (ed_var rfl) (ed_lst (ea_cons (ed_tup (ea_cons ed_str (ea_cons ed_int (ea_cons (ed_var rfl) ea_nil))) (sz (by simp))) (ea_cons (ed_tup (ea_cons (ed_var rfl) (ea_cons ed_int (ea_cons (ed_var rfl) ea_nil))) (sz (by simp))) (ea_cons (ed_tup (ea_cons (ed_var rfl) (ea_cons ed_int (ea_cons (ed_var rfl) ea_nil))) (sz (by simp))) ea_nil))) (sz (by simp))) (rd_catL (by first | omega | (simp; done) | (simp; omega)))) ?_)
  refine gs_seq (gs_asg (ed_op (ed_var rfl) (ed_lst (ea_cons (ed_tup (ea_cons (ed_op (ed_var rfl) ed_str (rd_catStr (by omega))) (ea_cons ed_int (ea_cons (ed_op (ed_var rfl) ed_str (rd_catStr (by omega))) ea_nil))) (sz (by simp))) (ea_cons (ed_tup (ea_cons (ed_op ed_str (ed_var rfl) (rd_catStr (by omega))) (ea_cons ed_int (ea_cons (ed_op (ed_var rfl) ed_str (rd_catStr (by omega))) ea_nil))) (sz (by simp))) ea_nil)) (sz (by simp))) (rd_catL (by first | omega | (simp; done) | (simp; omega)))) ?_)
  refine gs_seq (gs_asg (ed_op (ed_var rfl) (ed_lst (ea_cons (ed_tup (ea_cons (ed_op (ed_var rfl) ed_str (rd_catStr (by omega))) (ea_cons ed_int (ea_cons (ed_op (ed_var rfl) ed_str (rd_catStr (by omega))) ea_nil))) (sz (by simp))) (ea_cons (ed_tup (ea_cons (ed_op ed_str (ed_var rfl) (rd_catStr (by omega))) (ea_cons ed_int (ea_cons (ed_op (ed_var rfl) ed_str (rd_catStr (by omega))) ea_nil))) (sz (by simp))) ea_nil)) (sz (by simp))) (rd_catL (by first | omega | (simp; done) | (simp; omega)))) ?_)
  refine gs_seq (gs_asg (ed_op (ed_var rfl) (ed_lst (ea_cons (ed_tup (ea_cons (ed_var rfl) (ea_cons ed_int (ea_cons (ed_var rfl) ea_nil))) (sz (by simp))) (ea_cons (ed_tup (ea_cons (ed_op ed_str (ed_var rfl) (rd_catStr (by omega))) (ea_cons ed_int (ea_cons (ed_var rfl) ea_nil))) (sz (by simp))) (ea_cons (ed_tup (ea_cons ed_str (ea_cons ed_int (ea_cons ed_str ea_nil))) (sz (by simp))) ea_nil))) (sz (by simp))) (rd_catL (by first | omega | (simp; done) | (simp; omega)))) ?_)
  exact gs_ret (ed_op (ed_var rfl) (ed_lst (ea_cons (ed_tup (ea_cons ed_str (ea_cons ed_int (ea_cons ed_str ea_nil))) (sz (by simp))) (ea_cons (ed_tup (ea_cons ed_str (ea_cons ed_int (ea_cons ed_str ea_nil))) (sz (by simp))) ea_nil)) (sz (by simp))) (rd_catL (by first | omega | (simp; done) | (simp; omega)))) rfl
/-! ### the law's rules -/
def ruleT : List (Str × Str) := [("cross", "total single copied used once"), ("copy", "total single copied used"), (sFree, "free"), ("copy drop", "total single copied"), ("copy uncopy", "free sides"), (sHere, "total single"), (sHere ++ (" unnought" : Str), "single"), (sHere ++ (" undrop" : Str), "total"), ("times", "many total single lone")]
def ruleS (b : Str) : Str := (ruleT.lookup b).getD ""
def basesL : List Str := tableL.map (·.2.2)
def lawRules (b : Str) : List Str := Txt.words (ruleS b)
theorem rule_get : ∀ b ∈ basesL, (valV (mergeK [] (ruleT.map pairV)) (.inr b)).getD (.str "") = .str (ruleS b) ∧ (ruleS b).length ≤ 100 ∧ (lawRules b).length ≤ 10 := by decide +kernel
theorem rules_same : ∀ b ∈ basesL, lawRules b = rulesOf b := by decide +kernel
def R__law_rules : Rel := fun ds d => ∃ b : Str, ds = [.str b] ∧ b ∈ basesL ∧ d = eS (lawRules b)
theorem sc__law_rules : FnScope ["_law_base", "_law_here", "_law_free", "_law_rules_here"] ["_law_base"] (defScope (Bx.top 69)) := ⟨rfl, rfl, rfl, by decide +kernel, rfl, by decide +kernel, by decide +kernel⟩
theorem ok__law_rules (T : Tx w K mg base) : C8.Cal P w K mg base 1 "_law_rules" (spD K R__law_rules) [] := by
  obtain ⟨fd, F⟩ := T.f__law_rules
  refine cal_pure F T.g__law_rules (F.bindsN (fun _ _ _ _ _ _ us hl => match us, hl with | [_], _ => rfl)) sc__law_rules (by rintro _ _ ⟨b, rfl, hb, rfl⟩ <;> rfl) ?_
  rintro _ _ ⟨b, rfl, hb, rfl⟩ cdv A outer sh H E hr
  have nd := sc__law_rules.nd
  refine ⟨_, (pss_cons (ps_asg (pe_tup (pa_cons pe_str (pa_cons pe_str pa_nil))) (pg_tup rfl (pgs_cons (pg_name (i := 1) nd rfl (.inl rfl)) (pgs_cons (pg_name (i := 2) nd rfl (.inl rfl)) pgs_nil))))
      (pss_cons (ps_set (i := 3) nd rfl (.inl rfl) (pe_disp (pps_cons pe_str pe_str (pps_cons pe_str pe_str (pps_cons (pv 2) pe_str (pps_cons pe_str pe_str (pps_cons pe_str pe_str (pps_cons (pv 1) pe_str (pps_cons (pe_op op_add_str (pv 1) pe_str) pe_str (pps_cons (pe_op op_add_str (pv 1) pe_str) pe_str (pps_cons pe_str pe_str pps_nil))))))))) (by rfl) (by rfl) (fun z => by cases z) (by decide)))
      (pss_one (ps_ret (pe_words (pe_dget2 (hu_of hr) (pv 3) (pv 0) pe_str ⟨by rfl, by rfl, by rfl, by rfl⟩)))))), ?_⟩
  obtain ⟨l1, l2, l3, l4, l5, l6, l7⟩ := sl1
  obtain ⟨h1, h2, _⟩ := rule_get b hb
  refine gs_seq (gs_asgT (d := .tuple [.str sHere, .str sFree]) (ed_tup (ea_cons ed_str (ea_cons ed_str ea_nil)) (sz (by simp))) (gt_tup (gts_cons gt_name (gts_cons gt_name gts_nil)) rfl) ?_)
  refine gs_seq (gs_disp (kvs := ruleT) (ep_cons ed_str ed_str (ep_cons ed_str ed_str (ep_cons (ed_var rfl) ed_str (ep_cons ed_str ed_str (ep_cons ed_str ed_str (ep_cons (ed_var rfl) ed_str (ep_cons (ed_op (ed_var rfl) ed_str (rd_catStr (by omega))) ed_str (ep_cons (ed_op (ed_var rfl) ed_str (rd_catStr (by omega))) ed_str (ep_cons ed_str ed_str ep_nil))))))))) (by decide) ?_)
  exact gs_ret (ed_words (ed_dkGet2 rfl (ed_var rfl) ed_str h1) (by omega)) rfl
/-! ### crowd -/
def crowdF (rows : List (List Int)) (wd e : Nat) : Nat :=
  if wd ≤ e then (rows.filter fun r => r.getD e 0 != 0).length
  else match rows.find? fun r => decide ((ldF r : Int) = (e : Int)) with
  | some r => ((r.drop wd).filter fun x => x != 0).length
  | none => 0
def R__law_crowd : Rel := fun ds d => ∃ (p : Int) (n : Nat) (rows : List (List Int)) (wd e : Nat), ds = [eF p n rows, .int (wd : Int), .int (e : Int)] ∧ Fok p n rows ∧ wd ≤ n ∧ e < n ∧ d = .int (crowdF rows wd e : Nat)
theorem sc__law_crowd : FnScope ["_law_plane_here", "_law_wide", "_law_end", "_law_row", "_law_own"] ["_law_plane_here", "_law_wide", "_law_end"] (defScope (Bx.top 70)) := ⟨rfl, rfl, rfl, by decide +kernel, rfl, by decide +kernel, by decide +kernel⟩
theorem ok__law_crowd (T : Tx w K mg base) : C8.Cal P w K mg base 2 "_law_crowd" (spD K R__law_crowd) [] := by
  obtain ⟨fd, F⟩ := T.f__law_crowd
  have ok__law_lead := ok__law_lead (P := P) T
  refine cal_pure F T.g__law_crowd (F.bindsN (fun _ _ _ _ _ _ us hl => match us, hl with | [_, _, _], _ => rfl)) sc__law_crowd (by rintro _ _ ⟨p, n, rows, wd, e, rfl, hF, hw, he, rfl⟩ <;> rfl) ?_
  rintro _ _ ⟨p, n, rows, wd, e, rfl, hF, hw, he, rfl⟩ cdv A outer sh H E hr
  have nd := sc__law_crowd.nd
  refine ⟨_, (pss_cons (ps_if (pt_cmpR op_ge (pv 2) (pv 1) (nomark _)) (pss_one (ps_ret (pe_callB (Mk.len K rfl) (by rfl) T.b_len PySem.boot_len (pa_cons (pe_lc (own := [("_law_row", 3)]) (g := (gName 3)) rfl nd (pi_tup (pe_ix (Mk.ix K rfl) (pv 0) pe_int (fun _ _ => rfl))) (blkOk_by (by rfl)) (fun _ _ _ _ _ => (pg_name (i := 3) nd rfl (.inl rfl))) (fun _ _ _ _ _ => (pts_one (pt_cmpR op_ne (pe_ix (Mk.ix K rfl) (pv 3) (pv 2) (fun _ _ => rfl)) pe_int (nomark _)))) (fun _ _ _ _ _ => pe_int)) pa_nil)))) pss_nil)
      (pss_cons (ps_for PassesOwn.never rfl (pi_tup (pe_ix (Mk.ix K rfl) (pv 0) pe_int (fun _ _ => rfl))) (pg_name (i := 3) nd rfl (.inl rfl)) (pss_one (ps_if (pt_cmpR op_eq (C8.pe_c ok__law_lead hr (by decide) (by rfl) (pa_cons (pv 3) pa_nil)) (pv 2) (nomark _)) (pss_one (ps_ret (pe_callB (Mk.len K rfl) (by rfl) T.b_len PySem.boot_len (pa_cons (pe_lc (own := [("_law_own", 4)]) (g := (gName 4)) rfl nd (pi_tup (pe_slice (Mk.slT K rfl) (pv 3) (po_some (pv 1)) po_none)) (blkOk_by (by rfl)) (fun _ _ _ _ _ => (pg_name (i := 4) nd rfl (.inl rfl))) (fun _ _ _ _ _ => (pts_one (pt_cmpR op_ne (pv 4) pe_int (nomark _)))) (fun _ _ _ _ _ => pe_int)) pa_nil)))) pss_nil)))
      (pss_one (ps_ret pe_int)))), ?_⟩
  have hn := hF.hn
  have hl := hF.hl
  refine gs_seq (gs_if (et_test (ed_op (ed_var rfl) (ed_var rfl) rd_B0)) (fun h => gs_ret (ed_is (ed_cb (ea_cons (ed_lc (as := rows) (enc := eT) (fun r => r.getD e 0 != 0) (fun _ => .int 1) (ei_tup (ed_f2 rfl)) (by omega) fun r hr => ⟨_, _, gt_name, by simp, fun s => ⟨et_is (et_test (ed_op (ed_op (ed_var rfl) (ed_var rfl) (rd_ixRow false (hF.hr r hr) he)) ed_int rd_neI)) (ne_bne _), fun _ => ed_int⟩⟩) ea_nil) rc_len) (len_map _ _)) ?_) (fun h => gs_next ?_))
  · have h' : wd ≤ e := by
      have := of_decide_eq_true h
      omega
    unfold crowdF
    rw [if_pos h']
    rfl
  have h' : ¬ wd ≤ e := by
    have := of_decide_eq_false h
    omega
  have e0 : crowdF rows wd e = match rows.find? fun r => decide ((ldF r : Int) = (e : Int)) with
    | some r => ((r.drop wd).filter fun x => x != 0).length
    | none => 0 := by
    unfold crowdF
    rw [if_neg h']
  rw [e0]
  refine gs_seq (gs_for (as := rows) (enc := eT) (ei_tup (ed_f2 rfl)) (fun i Γ S => ∃ s, Γ = [.dat (eF p n rows), .dat (.int (wd : Int)), .dat (.int (e : Int)), s, .un] ∧ S = S0 ∧ (rows.drop i).find? (fun r => decide ((ldF r : Int) = (e : Int))) = rows.find? (fun r => decide ((ldF r : Int) = (e : Int)))) ⟨_, rfl, rfl, rfl⟩ ?_ ?_)
  · rintro i r Γ' S' ha ⟨s, rfl, rfl, hf⟩
    have hr := List.mem_of_getElem? ha
    rw [drop_get ha, List.find?_cons] at hf
    refine ⟨_, _, gt_name, gs_if (et_test (ed_op (ed_call (ea_cons (ed_var rfl) ea_nil) ⟨r, rfl, by have := (hF.hr r hr).1; omega, hF.hd r hr, rfl⟩) (ed_var rfl) rd_eqI)) (fun h => gs_ret (ed_is (ed_cb (ea_cons (ed_lc (as := r.drop wd) (enc := .int) (fun x => x != 0) (fun _ => .int 1) (ei_tup (ed_is (ed_slT (ed_var rfl) (eo_some (ed_var rfl)) eo_none) ?_)) (by have := (hF.hr r hr).1; rw [List.length_drop]; omega) fun x hx => ⟨_, _, gt_name, by simp, fun s => ⟨et_is (et_test (ed_op (ed_var rfl) ed_int rd_neI)) (ne_bne _), fun _ => ed_int⟩⟩) ea_nil) rc_len) (len_map _ _)) ?_) (fun h => gs_next ?_)⟩
    · rw [cut_hi, ← List.map_drop]
    · rw [h] at hf
      rw [← hf]
      rfl
    · rw [h] at hf
      exact ⟨_, rfl, rfl, hf⟩
  · rintro Γ' S' ⟨s, rfl, rfl, hf⟩
    rw [List.drop_length] at hf
    refine gs_ret ed_int ?_
    rw [← hf]
    rfl
/-! ### the rule that is broken -/
def colsF (n : Nat) (rows : List (List Int)) : List (List Int) := (List.range n).map fun e => colF rows e
def inC (c : List Int) (l : List (List Int)) : Bool := l.any fun z => decide (z = c)
theorem any_eqv (c : List Int) (l : List (List Int)) : ((l.map eT).any fun z => PyData.eqv z (eT c)) = inC c l := by
  unfold inC
  rw [List.any_map]
  congr 1
  funext z
  exact eqv_ints z c
def lotC (n : Nat) (rows : List (List Int)) (e : Nat) : List Int := (colsF n rows).map fun c => if decide (colF rows e = c) = true then 1 else 0
def badAt (rule : Str) (p : Int) (n : Nat) (rows : List (List Int)) (wd e : Nat) : Option PyData :=
  if (decide (rule = "total") && (decide ((e : Int) < (wd : Int)) && !decide ((e : Int) ∈ leadsF rows))) = true then some (.tuple [.str "total", .int (e : Int)])
  else if (decide (rule = "copied") && (!decide ((e : Int) < (wd : Int)) && !inC (colF rows e) ((colsF n rows).take wd))) = true then some (.tuple [.str "copied", .int (e : Int)])
  else if (decide (rule = "used") && (decide ((e : Int) < (wd : Int)) && !inC (colF rows e) ((colsF n rows).drop wd))) = true then some (.tuple [.str "used", .int (e : Int)])
  else if (decide (rule = "once") && (!decide ((e : Int) < (wd : Int)) && inC (colF rows e) (((colsF n rows).drop wd).take (e - wd)))) = true then some (.tuple [.str "once", .int (e : Int)])
  else if (decide (rule = "sides") && (!inC (colF rows e) ((colsF n rows).take wd) || !inC (colF rows e) ((colsF n rows).drop wd))) = true then some (.tuple [.str "sides", .int (e : Int)])
  else if (decide (rule = "lone") && decide ((1 : Int) < (crowdF rows wd e : Nat))) = true then some (.tuple [.str "lone", .int (e : Int)])
  else if decide (rule = "free") = true then (if decide (redF p rows (lotC n rows e) = List.replicate n 0) = true then none else some (.tuple [.str "free", eT (lotC n rows e)]))
  else none
def overF (rows : List (List Int)) (wd : Nat) : List (List Int) := rows.filter fun r => decide ((wd : Int) ≤ (ldF r : Int))
def brokenL (rule : Str) (p : Int) (n : Nat) (rows : List (List Int)) (wd : Nat) : PyData := match (List.range n).findSome? (badAt rule p n rows wd) with
  | some d => d
  | none => if (decide (rule = "many") && !decide ((n : Int) = 2 * (wd : Int))) = true then .tuple [.str "many"]
    else if (decide (rule = "single") && !(overF rows wd).isEmpty) = true then .tuple [.str "single", eT ((overF rows wd).headD [])] else .none
theorem lotC_ok {p : Int} {n e : Nat} {rows : List (List Int)} (hp : 1 < p) : RowOk p n (lotC n rows e) := by
  refine ⟨by simp [lotC, colsF], fun x hx => ?_⟩
  obtain ⟨o, _, rfl⟩ := List.mem_map.mp hx
  split <;> omega
theorem cut_both {xs : List PyData} {a b : Nat} (h : b ≤ xs.length) : Dl.cutD xs (some (a : Int)) (some (b : Int)) = (xs.drop a).take (b - a) := by
  unfold Dl.cutD
  rw [HT.sIx_nat, HT.sIx_nat, Nat.min_eq_left h]
  by_cases ha : a ≤ xs.length
  · rw [Nat.min_eq_left ha]
  · rw [Nat.min_eq_right (by omega), List.drop_of_length_le (Nat.le_refl _), List.drop_of_length_le (by omega)]
    simp
def R__law_broken_rule : Rel := fun ds d => ∃ (rule : Str) (p : Int) (n : Nat) (rows : List (List Int)) (wd : Nat), ds = [.str rule, eF p n rows, .int (wd : Int)] ∧ Fok p n rows ∧ wd ≤ n ∧ d = brokenL rule p n rows wd
theorem sc__law_broken_rule : FnScope ["_law_rule", "_law_plane_here", "_law_wide", "_law_end", "_law_leads_here", "_law_cols", "_law_near", "_law_away", "_law_is_left", "_law_own", "_law_row", "_law_over", "_law_lead_here", "_law_more"] ["_law_rule", "_law_plane_here", "_law_wide"] (defScope (Bx.top 71)) := ⟨rfl, rfl, rfl, by decide +kernel, rfl, by decide +kernel, by decide +kernel⟩
theorem ok__law_broken_rule (T : Tx w K mg base) : C8.Cal P w K mg base 3 "_law_broken_rule" (spD K R__law_broken_rule) [] := by
  obtain ⟨fd, F⟩ := T.f__law_broken_rule
  have ok__law_column := ok__law_column (P := P) T
  have ok__law_crowd := ok__law_crowd (P := P) T
  have ok__law_has := ok__law_has (P := P) T
  have ok__law_leads := ok__law_leads (P := P) T
  refine cal_pure F T.g__law_broken_rule (F.bindsN (fun _ _ _ _ _ _ us hl => match us, hl with | [_, _, _], _ => rfl)) sc__law_broken_rule (by rintro _ _ ⟨rule, p, n, rows, wd, rfl, hF, hw, rfl⟩ <;> rfl) ?_
  rintro _ _ ⟨rule, p, n, rows, wd, rfl, hF, hw, rfl⟩ cdv A outer sh H E hr
  have nd := sc__law_broken_rule.nd
  refine ⟨_, (pss_cons (ps_par (i := 4) (j := 5) rfl nd rfl rfl (by decide) rfl rfl (pa_cons (C8.pe_c ok__law_leads hr (by decide) (by rfl) (pa_cons (pv 1) pa_nil)) (pa_cons (pe_lc (own := [("_law_end", 3)]) (g := (gName 3)) (tt := tYes) rfl nd (pi_range1 (by rfl) T.b_range (pa_cons (pe_ix (Mk.ix K rfl) (pv 1) pe_int (fun _ _ => rfl)) pa_nil)) (blkOk_by (by rfl)) (fun _ _ _ _ _ => (pg_name (i := 3) nd rfl (.inl rfl))) (fun _ _ _ _ _ => pts_nil) (fun _ _ _ _ _ => (C8.pe_c ok__law_column hr (by decide) (by rfl) (pa_cons (pv 1) (pa_cons (pv 3) pa_nil))))) pa_nil)) (by rfl))
      (pss_cons (ps_par (i := 6) (j := 7) rfl nd rfl rfl (by decide) rfl rfl (pa_cons (pe_slice (Mk.slL K rfl) (pv 5) po_none (po_some (pv 2))) (pa_cons (pe_slice (Mk.slL K rfl) (pv 5) (po_some (pv 2)) po_none) pa_nil)) (by rfl))
      (pss_cons (ps_for PassesOwn.never rfl (pi_range1 (by rfl) T.b_range (pa_cons (pe_ix (Mk.ix K rfl) (pv 1) pe_int (fun _ _ => rfl)) pa_nil)) (pg_name (i := 3) nd rfl (.inl rfl)) (pss_cons (ps_asg (pe_tup (pa_cons (pe_cmpR op_lt (pv 3) (pv 2) (nomark _)) (pa_cons (pe_ix (Mk.ix K rfl) (pv 5) (pv 3) (fun _ _ => rfl)) pa_nil))) (pg_tup rfl (pgs_cons (pg_name (i := 8) nd rfl (.inl rfl)) (pgs_cons (pg_name (i := 9) nd rfl (.inr rfl)) pgs_nil))))
      (pss_cons (ps_if (PW.pt (pw_and (pt_cmpR op_eq (pv 0) pe_str (nomark _)) (pw_and (pt_val (pv 8)) (pw_and1 (pt_cmpR (Mk.notIn K rfl) (pv 3) (pv 4) rfl))))) (pss_one (ps_ret (pe_tup (pa_cons pe_str (pa_cons (pv 3) pa_nil))))) pss_nil)
      (pss_cons (ps_if (PW.pt (pw_and (pt_cmpR op_eq (pv 0) pe_str (nomark _)) (pw_and (pt_not (pt_val (pv 8))) (pw_and1 (pt_cmpR (Mk.notInD K rfl (Mk.hu65 hr)) (pv 9) (pv 6) rfl))))) (pss_one (ps_ret (pe_tup (pa_cons pe_str (pa_cons (pv 3) pa_nil))))) pss_nil)
      (pss_cons (ps_if (PW.pt (pw_and (pt_cmpR op_eq (pv 0) pe_str (nomark _)) (pw_and (pt_val (pv 8)) (pw_and1 (pt_cmpR (Mk.notInD K rfl (Mk.hu65 hr)) (pv 9) (pv 7) rfl))))) (pss_one (ps_ret (pe_tup (pa_cons pe_str (pa_cons (pv 3) pa_nil))))) pss_nil)
      (pss_cons (ps_if (PW.pt (pw_and (pt_cmpR op_eq (pv 0) pe_str (nomark _)) (pw_and (pt_not (pt_val (pv 8))) (pw_and1 (pt_cmpR (Mk.inD K rfl (Mk.hu65 hr)) (pv 9) (pe_slice (Mk.slL K rfl) (pv 5) (po_some (pv 2)) (po_some (pv 3))) rfl))))) (pss_one (ps_ret (pe_tup (pa_cons pe_str (pa_cons (pv 3) pa_nil))))) pss_nil)
      (pss_cons (ps_if (PW.pt (pw_and (pt_cmpR op_eq (pv 0) pe_str (nomark _)) (pw_and1 (PW.pt (pw_or (pt_cmpR (Mk.notInD K rfl (Mk.hu65 hr)) (pv 9) (pv 6) rfl) (pw_or1 (pt_cmpR (Mk.notInD K rfl (Mk.hu65 hr)) (pv 9) (pv 7) rfl))))))) (pss_one (ps_ret (pe_tup (pa_cons pe_str (pa_cons (pv 3) pa_nil))))) pss_nil)
      (pss_cons (ps_if (PW.pt (pw_and (pt_cmpR op_eq (pv 0) pe_str (nomark _)) (pw_and1 (pt_cmpR op_gt (C8.pe_c ok__law_crowd hr (by decide) (by rfl) (pa_cons (pv 1) (pa_cons (pv 2) (pa_cons (pv 3) pa_nil)))) pe_int (nomark _))))) (pss_one (ps_ret (pe_tup (pa_cons pe_str (pa_cons (pv 3) pa_nil))))) pss_nil)
      (pss_one (ps_if (pt_cmpR op_eq (pv 0) pe_str (nomark _)) (pss_cons (ps_set (i := 10) nd rfl (.inl rfl) (pe_callTy (Mk.tuple K rfl) (by rfl) T.b_tuple PyProof.Rows.boot_tuple (pa_cons (pe_lc (own := [("_law_more", 13)]) (g := (gName 13)) (tt := tYes) rfl nd (pi_list (pv 5)) (blkOk_by (by rfl)) (fun _ _ _ _ _ => (pg_name (i := 13) nd rfl (.inl rfl))) (fun _ _ _ _ _ => pts_nil) (fun _ _ _ _ _ => (pe_callTy call_int1 (by rfl) T.b_int (by decide +kernel) (pa_cons (pe_cmpR (Mk.eqD K rfl hr.units) (pv 9) (pv 13) (nomark _)) pa_nil)))) pa_nil)))
      (pss_one (ps_if (pt_not (pt_val (C8.pe_c ok__law_has hr (by decide) (by rfl) (pa_cons (pv 1) (pa_cons (pv 10) pa_nil))))) (pss_one (ps_ret (pe_tup (pa_cons pe_str (pa_cons (pv 10) pa_nil))))) pss_nil))) pss_nil))))))))))
      (pss_cons (ps_if (PW.pt (pw_and (pt_cmpR op_eq (pv 0) pe_str (nomark _)) (pw_and1 (pt_cmpR op_ne (pe_ix (Mk.ix K rfl) (pv 1) pe_int (fun _ _ => rfl)) (pe_op op_mul pe_int (pv 2)) (nomark _))))) (pss_one (ps_ret (pe_tup (pa_cons pe_str pa_nil)))) pss_nil)
      (pss_cons (ps_setLc (i := 11) (own := [("_law_row", 10), ("_law_lead_here", 12)]) (g := (gTup K 2 (gCons (gName 10) (gCons (gName 12) gNil)))) rfl nd rfl rfl (sw_true rfl rfl rfl (by decide +kernel)) (Ml.pi_zipC false true (by rfl) T.b_zip (pa_cons (pe_ix (Mk.ix K rfl) (pv 1) pe_int (fun _ _ => rfl)) (pa_cons (pv 4) pa_nil))) (blkOk_by (by rfl)) (fun _ _ _ _ _ => (pg_tup rfl (pgs_cons (pg_name (i := 10) nd rfl (.inl rfl)) (pgs_cons (pg_name (i := 12) nd rfl (.inl rfl)) pgs_nil)))) (fun _ _ _ _ _ => (pts_one (pt_cmpR op_ge (pv 12) (pv 2) (nomark _)))) (fun _ _ _ _ _ => (pv 10)))
      (pss_one (ps_ret (pe_ifExp (PW.pt (pw_and (pt_cmpR op_eq (pv 0) pe_str (nomark _)) (pw_and1 (pt_cmpR (Mk.neD K rfl hr.units) (pv 11) (pe_lst pa_nil) (nomark _))))) (pe_tup (pa_cons pe_str (pa_cons (pe_ix (Mk.ix K rfl) (pv 11) pe_int (fun _ _ => rfl)) pa_nil))) pe_non)))))))), ?_⟩
  have hb := hF.hp.b
  have hn := hF.hn
  have hl := hF.hl
  have hcl : (colsF n rows).length = n := by simp [colsF]
  refine gs_seq (gs_par (ea_cons (ed_call (ea_cons (ed_var rfl) ea_nil) ⟨p, n, rows, rfl, hF, rfl⟩) (ea_cons (ed_is (ed_lcm (as := List.range n) (enc := fun (j : Nat) => .int (j : Int)) (fun e => eT (colF rows e)) (ei_is (ei_rng1 (ea_cons (ed_f1 rfl) ea_nil) ⟨by omega, by omega⟩) (rng0 n)) (by rw [List.length_range]; omega) fun e he => ⟨_, _, gt_name, by simp, fun s => ed_call (ea_cons (ed_var rfl) (ea_cons (ed_var rfl) ea_nil)) ⟨p, n, rows, e, rfl, hF, List.mem_range.mp he, rfl⟩⟩) (show _ = PyData.list ((colsF n rows).map eT) from congrArg PyData.list (mm _ eT _).symm)) ea_nil)) ?_)
  refine gs_seq (gs_par (d1 := .list (((colsF n rows).take wd).map eT)) (d2 := .list (((colsF n rows).drop wd).map eT)) (ea_cons (ed_is (ed_slL (ed_var rfl) eo_none (eo_some (ed_var rfl))) (by rw [cut_lo, List.map_take])) (ea_cons (ed_is (ed_slL (ed_var rfl) (eo_some (ed_var rfl)) eo_none) (by rw [cut_hi, List.map_drop])) ea_nil)) ?_)
  refine gs_seq (gs_for (as := List.range n) (enc := fun (j : Nat) => .int (j : Int)) (ei_is (ei_rng1 (ea_cons (ed_f1 rfl) ea_nil) ⟨by omega, by omega⟩) (rng0 n)) (fun i Γ S => ∃ s3 s8 s9 s10, Γ = [.dat (.str rule), .dat (eF p n rows), .dat (.int (wd : Int)), s3, .dat (.list ((leadsF rows).map .int)), .dat (.list ((colsF n rows).map eT)), .dat (.list (((colsF n rows).take wd).map eT)), .dat (.list (((colsF n rows).drop wd).map eT)), s8, s9, s10, .un, .un, .un] ∧ S = S0 ∧ ((List.range n).drop i).findSome? (badAt rule p n rows wd) = (List.range n).findSome? (badAt rule p n rows wd)) ⟨_, _, _, _, rfl, rfl, rfl⟩ ?_ ?_)
  · rintro i e Γ' S' ha ⟨s3, s8, s9, s10, rfl, rfl, hf⟩
    rw [drop_get ha, List.findSome?_cons] at hf
    obtain ⟨rfl, hi⟩ := range_get ha
    have hnear : ∀ {C : Cq} {Γ : List Sl}, Γ[9]? = some (.dat (eT (colF rows i))) → Γ[6]? = some (.dat (.list (((colsF n rows).take wd).map eT))) → EvD C (tOp (rNotInD C.K) (tVar 9) (tVar 6)) Γ S0 (.bool (!inC (colF rows i) ((colsF n rows).take wd))) S0 := fun h1 h2 => ed_is (ed_op (ed_var h1) (ed_var h2) (rd_notInD (sh_eT _) (sh_LT _))) (by rw [any_eqv])
    have haway : ∀ {C : Cq} {Γ : List Sl}, Γ[9]? = some (.dat (eT (colF rows i))) → Γ[7]? = some (.dat (.list (((colsF n rows).drop wd).map eT))) → EvD C (tOp (rNotInD C.K) (tVar 9) (tVar 7)) Γ S0 (.bool (!inC (colF rows i) ((colsF n rows).drop wd))) S0 := fun h1 h2 => ed_is (ed_op (ed_var h1) (ed_var h2) (rd_notInD (sh_eT _) (sh_LT _))) (by rw [any_eqv])
    have fin : ∀ {d : PyData}, badAt rule p n rows wd i = some d → d = brokenL rule p n rows wd := fun h => by
      rw [h] at hf
      unfold brokenL
      rw [← hf]
    refine ⟨_, _, gt_name, ?_⟩
    refine gs_seq (gs_asgT (d := .tuple [.bool (decide ((i : Int) < (wd : Int))), eT (colF rows i)]) (ed_tup (ea_cons (ed_op (ed_var rfl) (ed_var rfl) rd_B0) (ea_cons (ed_op (ed_var rfl) (ed_var rfl) (rd_ixL (j := i) (ixN_lt (by rw [List.length_map, hcl]; exact hi)) (map_get (by unfold colsF; rw [List.getElem?_map, List.getElem?_range hi]; rfl)))) ea_nil)) (sz (by simp))) (gt_tup (gts_cons gt_name (gts_cons gt_name gts_nil)) rfl) ?_)
    refine gs_seq (gs_if (et_and0 (et_test (ed_op (ed_var rfl) ed_str rd_eqS)) (fun _ => et_and0 (et_B (ed_var rfl)) (fun _ => et_test (ed_op (ed_var rfl) (ed_var rfl) (rd_inI (ns := leadsF rows)))))) (fun h => gs_ret (ed_tup (ea_cons ed_str (ea_cons (ed_var rfl) ea_nil)) (sz (by simp))) (fin (by unfold badAt; exact if_pos h))) (fun h1 => gs_next ?_))
    refine gs_seq (gs_if (et_and0 (et_test (ed_op (ed_var rfl) ed_str rd_eqS)) (fun _ => et_and0 (et_not (et_B (ed_var rfl))) (fun _ => et_test (hnear rfl rfl)))) (fun h => gs_ret (ed_tup (ea_cons ed_str (ea_cons (ed_var rfl) ea_nil)) (sz (by simp))) (fin (by unfold badAt; rw [if_neg (by rw [← Bool.not_eq_true] at h1; exact h1)]; exact if_pos h))) (fun h2 => gs_next ?_))
    refine gs_seq (gs_if (et_and0 (et_test (ed_op (ed_var rfl) ed_str rd_eqS)) (fun _ => et_and0 (et_B (ed_var rfl)) (fun _ => et_test (haway rfl rfl)))) (fun h => gs_ret (ed_tup (ea_cons ed_str (ea_cons (ed_var rfl) ea_nil)) (sz (by simp))) (fin (by unfold badAt; rw [if_neg (by rw [← Bool.not_eq_true] at h1; exact h1), if_neg (by rw [← Bool.not_eq_true] at h2; exact h2)]; exact if_pos h))) (fun h3 => gs_next ?_))
    refine gs_seq (gs_if (b := (decide (rule = "once") && (!decide ((i : Int) < (wd : Int)) && inC (colF rows i) (((colsF n rows).drop wd).take (i - wd))))) (et_and0 (et_test (ed_op (ed_var rfl) ed_str rd_eqS)) (fun _ => et_and0 (et_not (et_B (ed_var rfl))) (fun _ => et_test (ed_is (ed_op (ed_var rfl) (ed_is (d' := .list ((((colsF n rows).drop wd).take (i - wd)).map eT)) (ed_slL (ed_var rfl) (eo_some (ed_var rfl)) (eo_some (ed_var rfl))) (by rw [cut_both (by rw [List.length_map, hcl]; omega), List.map_take, List.map_drop])) (rd_inD (sh_eT _) (sh_LT _))) (congrArg PyData.bool (any_eqv _ _)))))) (fun h => gs_ret (ed_tup (ea_cons ed_str (ea_cons (ed_var rfl) ea_nil)) (sz (by simp))) (fin (by unfold badAt; rw [if_neg (by rw [← Bool.not_eq_true] at h1; exact h1), if_neg (by rw [← Bool.not_eq_true] at h2; exact h2), if_neg (by rw [← Bool.not_eq_true] at h3; exact h3)]; exact if_pos h))) (fun h4 => gs_next ?_))
    refine gs_seq (gs_if (et_and0 (et_test (ed_op (ed_var rfl) ed_str rd_eqS)) (fun _ => et_or0 (et_test (hnear rfl rfl)) (fun _ => et_test (haway rfl rfl)))) (fun h => gs_ret (ed_tup (ea_cons ed_str (ea_cons (ed_var rfl) ea_nil)) (sz (by simp))) (fin (by unfold badAt; rw [if_neg (by rw [← Bool.not_eq_true] at h1; exact h1), if_neg (by rw [← Bool.not_eq_true] at h2; exact h2), if_neg (by rw [← Bool.not_eq_true] at h3; exact h3), if_neg (by rw [← Bool.not_eq_true] at h4; exact h4)]; exact if_pos h))) (fun h5 => gs_next ?_))
    refine gs_seq (gs_if (et_and0 (et_test (ed_op (ed_var rfl) ed_str rd_eqS)) (fun _ => et_test (ed_op (ed_call (ea_cons (ed_var rfl) (ea_cons (ed_var rfl) (ea_cons (ed_var rfl) ea_nil))) ⟨p, n, rows, wd, i, rfl, hF, hw, hi, rfl⟩) ed_int rd_B0))) (fun h => gs_ret (ed_tup (ea_cons ed_str (ea_cons (ed_var rfl) ea_nil)) (sz (by simp))) (fin (by unfold badAt; rw [if_neg (by rw [← Bool.not_eq_true] at h1; exact h1), if_neg (by rw [← Bool.not_eq_true] at h2; exact h2), if_neg (by rw [← Bool.not_eq_true] at h3; exact h3), if_neg (by rw [← Bool.not_eq_true] at h4; exact h4), if_neg (by rw [← Bool.not_eq_true] at h5; exact h5)]; exact if_pos h))) (fun h6 => gs_next ?_))
    have hbad : badAt rule p n rows wd i = if decide (rule = "free") = true then (if decide (redF p rows (lotC n rows i) = List.replicate n 0) = true then none else some (.tuple [.str "free", eT (lotC n rows i)])) else none := by
      unfold badAt
      rw [if_neg (by rw [← Bool.not_eq_true] at h1; exact h1), if_neg (by rw [← Bool.not_eq_true] at h2; exact h2), if_neg (by rw [← Bool.not_eq_true] at h3; exact h3), if_neg (by rw [← Bool.not_eq_true] at h4; exact h4), if_neg (by rw [← Bool.not_eq_true] at h5; exact h5), if_neg (by rw [← Bool.not_eq_true] at h6; exact h6)]
    refine gs_if (et_test (ed_op (ed_var rfl) ed_str rd_eqS)) (fun h => ?_) (fun h => gs_next ?_)
    · rw [if_pos h] at hbad
      refine gs_seq (gs_asg (ed_is (d' := eT (lotC n rows i)) (ed_cb (ea_cons (ed_lcm (as := colsF n rows) (enc := eT) (fun c => .int (if decide (colF rows i = c) = true then 1 else 0)) (ei_list (ed_var rfl)) (by omega) fun c hc => ⟨_, _, gt_name, by simp, fun s => ed_is (ed_cb (ea_cons (ed_op (ed_var rfl) (ed_var rfl) (rd_eqD (sh_eT _) (sh_eT _))) ea_nil) rc_intB) (by rw [eqv_ints])⟩) ea_nil) rc_tuple) (by unfold lotC eT; rw [List.map_map]; rfl)) ?_)
      refine gs_if (et_not (et_B (ed_call (ea_cons (ed_var rfl) (ea_cons (ed_var rfl) ea_nil)) ⟨p, n, rows, lotC n rows i, rfl, hF, lotC_ok (by omega), rfl⟩))) (fun h7 => gs_ret (ed_tup (ea_cons ed_str (ea_cons (ed_var rfl) ea_nil)) (sz (by simp))) (fin ?_)) (fun h7 => gs_next ?_)
      · rw [hbad, if_neg (by simpa using h7)]
      · rw [if_pos (by simpa using h7)] at hbad
        rw [hbad] at hf
        exact ⟨_, _, _, _, rfl, rfl, hf⟩
    · rw [if_neg (by rw [h]; exact Bool.false_ne_true)] at hbad
      rw [hbad] at hf
      exact ⟨_, _, _, _, rfl, rfl, hf⟩
  · rintro Γ' S' ⟨s3, s8, s9, s10, rfl, rfl, hf⟩
    rw [List.length_range, List.drop_of_length_le (by rw [List.length_range]; omega)] at hf
    have hbr : brokenL rule p n rows wd = if (decide (rule = "many") && !decide ((n : Int) = 2 * (wd : Int))) = true then .tuple [.str "many"]
      else if (decide (rule = "single") && !(overF rows wd).isEmpty) = true then .tuple [.str "single", eT ((overF rows wd).headD [])] else .none := by
      unfold brokenL
      rw [← hf]
      rfl
    refine gs_seq (gs_if (et_and0 (et_test (ed_op (ed_var rfl) ed_str rd_eqS)) (fun _ => et_test (ed_op (ed_f1 rfl) (ed_op ed_int (ed_var rfl) (rd_I (by trivial))) rd_neI))) (fun h => gs_ret (ed_tup (ea_cons ed_str ea_nil) (sz (by simp))) (by rw [hbr, if_pos h]; rfl)) (fun h1 => gs_next ?_))
    rw [if_neg (by rw [h1]; exact Bool.false_ne_true)] at hbr
    refine gs_seq (gs_asg (ed_lc (as := rows) (enc := fun r => pairD (eT r) (.int (ldF r : Nat))) (fun r => decide ((wd : Int) ≤ (ldF r : Int))) eT (ei_is (ei_zip (c1 := false) (c2 := true) (xs := rows.map eT) (ea_cons (ed_f2 rfl) (ea_cons (ed_var rfl) ea_nil))) ?_) (by omega) fun r hr => ⟨_, _, gt_tup (gts_cons gt_name (gts_cons gt_name gts_nil)) rfl, by simp, fun s => ⟨(et_test (ed_op (ed_var rfl) (ed_var rfl) rd_B0)), fun _ => ed_var rfl⟩⟩) ?_)
    · unfold leadsF
      rw [List.map_map, List.zipWith_map, List.zipWith_self]
      rfl
    have hov : (rows.filter fun r => decide ((wd : Int) ≤ (ldF r : Int))) = overF rows wd := rfl
    rw [hov]
    generalize overF rows wd = over at hbr
    refine gs_ret (ed_if (d := brokenL rule p n rows wd) (et_is (et_and0 (et_test (ed_op (ed_var rfl) ed_str rd_eqS)) (fun _ => et_test (ed_op (ed_var rfl) (ed_lst ea_nil (sz (by simp))) (rd_neD (sh_LT _) sh_nil)))) (by rw [eqv_nil])) (fun h => ?_) (fun h => ed_is ed_non (by rw [hbr, if_neg (by rw [h]; exact Bool.false_ne_true)]))) rfl
    cases over with
    | nil =>
      simp at h
    | cons y t =>
      refine ed_is (ed_tup (ea_cons ed_str (ea_cons (ed_op (ed_var rfl) ed_int (rd_ix0 true (d := eT y) (xs := t.map eT))) ea_nil)) (sz (by simp))) ?_
      rw [hbr, if_pos h]
      rfl
/-! ### keepers -/
def keepF (p : Int) (n : Nat) (rows : List (List Int)) (wd : Nat) (l : Ln) : Bool := (lawRules l.2.2).all fun r => isNon (brokenL r p n (seenR l.2.1 p n wd rows) (flipW l.2.1 n wd))
def keepersF (p : Int) (n : Nat) (rows : List (List Int)) (wd : Nat) : List Str := (tableL.filter (keepF p n rows wd)).map (·.1)
theorem table_fact : ∀ l ∈ tableL, l.2.1 < 4 ∧ l.2.2 ∈ basesL := by decide +kernel
def R__law_keepers : Rel := fun ds d => ∃ (p : Int) (n : Nat) (rows : List (List Int)) (wd : Nat), ds = [eF p n rows, .int (wd : Int)] ∧ Fok p n rows ∧ wd ≤ n ∧ d = eS (keepersF p n rows wd)
def eSeen (p : Int) (n : Nat) (rows : List (List Int)) (wd k : Nat) : PyData := .list [eF p n (seenR k p n wd rows), .int (flipW k n wd : Nat)]
theorem allnon {α : Type} (f : α → Bool) (l : List α) : (l.filter fun x => !f x).isEmpty = l.all f := by
  induction l with
  | nil => rfl
  | cons a l ih =>
    rw [List.filter_cons, List.all_cons]
    cases h : f a with
    | true => simpa [h] using ih
    | false => simp [h]
theorem sc__law_keepers : FnScope ["_law_plane_here", "_law_wide", "_law_way", "_law_seen_here", "_law_found", "_law_name", "_law_base", "_law_asked", "_law_rule"] ["_law_plane_here", "_law_wide"] (defScope (Bx.top 72)) := ⟨rfl, rfl, rfl, by decide +kernel, rfl, by decide +kernel, by decide +kernel⟩
theorem ok__law_keepers (T : Tx w K mg base) : C8.Cal P w K mg base 5 "_law_keepers" (spD K R__law_keepers) [] := by
  obtain ⟨fd, F⟩ := T.f__law_keepers
  have ok__law_broken_rule := ok__law_broken_rule (P := P) T
  have ok__law_rules := ok__law_rules (P := P) T
  have ok__law_seen := ok__law_seen (P := P) T
  have ok__law_table := ok__law_table (P := P) T
  refine cal_pure F T.g__law_keepers (F.bindsN (fun _ _ _ _ _ _ us hl => match us, hl with | [_, _], _ => rfl)) sc__law_keepers (by rintro _ _ ⟨p, n, rows, wd, rfl, hF, hw, rfl⟩ <;> rfl) ?_
  rintro _ _ ⟨p, n, rows, wd, rfl, hF, hw, rfl⟩ cdv A outer sh H E hr
  have nd := sc__law_keepers.nd
  refine ⟨_, (pss_cons (ps_par (i := 3) (j := 4) rfl nd rfl rfl (by decide) rfl rfl (pa_cons (pe_lc (own := [("_law_way", 2)]) (g := (gName 2)) (tt := tYes) rfl nd (pi_range1 (by rfl) T.b_range (pa_cons pe_int pa_nil)) (blkOk_by (by rfl)) (fun _ _ _ _ _ => (pg_name (i := 2) nd rfl (.inl rfl))) (fun _ _ _ _ _ => pts_nil) (fun _ _ _ _ _ => (C8.pe_c ok__law_seen hr (by decide) (by rfl) (pa_cons (pv 2) (pa_cons (pv 0) (pa_cons (pv 1) pa_nil)))))) (pa_cons (pe_lst pa_nil) pa_nil)) (by rfl))
      (pss_cons (ps_for PassesOwn.never rfl (pi_list (Mk.pc0 ok__law_table hr (by decide) (by rfl))) (pg_tup rfl (pgs_cons (pg_name (i := 5) nd rfl (.inl rfl)) (pgs_cons (pg_name (i := 2) nd rfl (.inl rfl)) (pgs_cons (pg_name (i := 6) nd rfl (.inl rfl)) pgs_nil)))) (pss_cons (ps_set (i := 7) nd rfl (.inr rfl) (pe_ix (Mk.ix K rfl) (pv 3) (pv 2) (fun _ _ => rfl)))
      (pss_one (ps_if (pt_cmpR (Mk.eqD K rfl hr.units) (pe_lc (own := [("_law_rule", 8)]) (g := (gName 8)) rfl nd (pi_list (C8.pe_c ok__law_rules hr (by decide) (by rfl) (pa_cons (pv 6) pa_nil))) (blkOk_by (by rfl)) (fun _ _ _ _ _ => (pg_name (i := 8) nd rfl (.inl rfl))) (fun _ _ _ _ _ => (pts_one (pt_cmpR op_notN (C8.pe_c ok__law_broken_rule hr (by decide) (by rfl) (pa_cons (pv 8) (pa_cons (pe_ix (Mk.ix K rfl) (pv 7) pe_int (fun _ _ => rfl)) (pa_cons (pe_ix (Mk.ix K rfl) (pv 7) pe_int (fun _ _ => rfl)) pa_nil)))) pe_non (nomark _)))) (fun _ _ _ _ _ => pe_int)) (pe_lst pa_nil) (nomark _)) (pss_one (ps_expr (pe_bm PySem.F.plainAttrs_list PySem.F.slot_list_append PySem.F.type_list_append mt_append (pv 4) (pa_cons (pv 5) pa_nil)))) pss_nil))))
      (pss_one (ps_ret (pv 4))))), ?_⟩
  have hn := hF.hn
  have hl := hF.hl
  refine gs_seq (gs_parDO (ed_lcm (as := List.range 4) (enc := fun (j : Nat) => .int (j : Int)) (fun k => eSeen p n rows wd k) (ei_is (ei_rng1 (n := 4) (ea_cons ed_int ea_nil) ⟨by omega, by omega⟩) (rng0 4)) (by decide) fun k hk => ⟨_, _, gt_name, by simp, fun s => ed_call (ea_cons (ed_var rfl) (ea_cons (ed_var rfl) (ea_cons (ed_var rfl) ea_nil))) ⟨k, p, n, rows, wd, rfl, List.mem_range.mp hk, hF, hw, rfl⟩⟩) (en_lst ea_nil (sz (by simp))) ?_)
  refine gs_seq (gs_for (as := tableL) (enc := eLn) (ei_list (ed_call ea_nil ⟨rfl, rfl⟩)) (fun i Γ S => ∃ s2 s5 s6 s7, Γ = [.dat (eF p n rows), .dat (.int (wd : Int)), s2, .dat (.list ((List.range 4).map fun k => eSeen p n rows wd k)), .own ((((tableL.take i).filter (keepF p n rows wd)).map (·.1)).map PyData.str), s5, s6, s7, .un] ∧ S = S0) ⟨_, _, _, _, rfl, rfl⟩ ?_ ?_)
  · rintro i l Γ' S' ha ⟨s2, s5, s6, s7, rfl, rfl⟩
    have hm := List.mem_of_getElem? ha
    obtain ⟨hk, hb⟩ := table_fact l hm
    obtain ⟨_, _, hlr⟩ := rule_get l.2.2 hb
    have hF1 : Fok p n (seenR l.2.1 p n wd rows) := seen_fok hF
    have htake : tableL.take (i + 1) = tableL.take i ++ [l] := by
      rw [List.take_add_one, ha]
      rfl
    refine ⟨_, _, gt_tup (gts_cons gt_name (gts_cons gt_name (gts_cons gt_name gts_nil))) rfl, ?_⟩
    refine gs_seq (gs_asg (ed_op (ed_var rfl) (ed_var rfl) (rd_ixL (j := l.2.1) (d := eSeen p n rows wd l.2.1) (ixN_lt (by simp; omega)) (by rw [List.getElem?_map, List.getElem?_range hk]; rfl))) ?_)
    refine gs_if (et_is (et_test (ed_op (ed_lc (as := lawRules l.2.2) (enc := .str) (fun r => !isNon (brokenL r p n (seenR l.2.1 p n wd rows) (flipW l.2.1 n wd))) (fun _ => .int 1) (ei_list (ed_call (ea_cons (ed_var rfl) ea_nil) ⟨l.2.2, rfl, hb, rfl⟩)) (by omega) fun r hr => ⟨_, _, gt_name, by simp, fun s => ⟨et_test (ed_op (ed_call (ea_cons (ed_var rfl) (ea_cons (ed_op (ed_var rfl) ed_int (rd_ixL (j := 0) rfl rfl)) (ea_cons (ed_op (ed_var rfl) ed_int (rd_ixL (j := 1) rfl rfl)) ea_nil))) ⟨r, p, n, seenR l.2.1 p n wd rows, flipW l.2.1 n wd, rfl, hF1, flipW_le hw, rfl⟩) ed_non rd_notN), fun _ => ed_int⟩⟩) (ed_lst ea_nil (sz (by simp))) (rd_eqD (by
        have e1 : ∀ (l : List Str), l.map (fun _ => PyData.int 1) = (l.map fun _ => (1 : Int)).map PyData.int := fun l => by rw [List.map_map]; rfl
        rw [e1]
        exact sh_eL _) sh_nil))) (b' := keepF p n rows wd l) (by rw [eqv_nil, allnon]; rfl)) (fun h => ?_) (fun h => gs_next ?_)
    · refine gs_app (i := 4) rfl (ed_var rfl) (by
        have h1 := List.length_filter_le (keepF p n rows wd) (tableL.take i)
        have h2 : (tableL.take i).length ≤ tableL.length := by
          rw [List.length_take]
          omega
        have h3 : tableL.length = 24 := by decide
        rw [List.length_map, List.length_map]
        omega) ?_
      exact ⟨_, _, _, _, by rw [htake, List.filter_append, List.filter_cons_of_pos (by exact h), List.map_append, List.map_append]; rfl, rfl⟩
    · exact ⟨_, _, _, _, by rw [htake, List.filter_append, List.filter_cons_of_neg (by rw [h]; exact Bool.false_ne_true), List.filter_nil, List.append_nil]; rfl, rfl⟩
  · rintro Γ' S' ⟨s2, s5, s6, s7, rfl, rfl⟩
    rw [List.take_of_length_le (Nat.le_refl _)]
    exact gs_frz (i := 4) rfl (gs_ret (ed_var rfl) rfl)
end Pm


set_option Elab.async false
set_option linter.all false
set_option maxRecDepth 100000
set_option maxHeartbeats 4000000
set_option autoImplicit false
namespace Dl
open PySem PySem.Spec PyProof.Rows L2
section
variable {C : Cq} {B : Bs} {E : DE} {Γ Γ' : List Sl} {S S' S1 S2 : Sto} {t u : TS} {te ta tb : TE} {tt : TT} {d : PyData} {Hs H Hs' H' : Hp} {σ : L2.St} {lo : Lo} {i j : Nat} {n : Int}
theorem ed_ifT (h : EvT C tt Γ S true S1) (h1 : EvD C ta Γ S1 d S2) : EvD C (tIf tt ta tb) Γ S d S2 := ed_if h (fun _ => h1) (fun z => nomatch z)
theorem ed_ifF (h : EvT C tt Γ S false S1) (h1 : EvD C tb Γ S1 d S2) : EvD C (tIf tt ta tb) Γ S d S2 := ed_if h (fun z => nomatch z) (fun _ => h1)
/-- x.append(y.pop(e)) -/
theorem gs_appPop {xs ys : List PyData} {k : Nat} (ij : i ≠ j) (ei : Γ[i]? = some (.own xs)) (ej : Γ[j]? = some (.own ys)) (hj : EvD C te Γ S (.int n) S') (hn : seqIndex? n xs.length = some k) (hb : -1000000 ≤ n ∧ n ≤ 1000000) (hx : xs[k]? = some d) (hl : ys.length < 1000000)
    (e : E.nx ((Γ.set i (.own (xs.eraseIdx k))).set j (.own (ys ++ [d]))) S') : GS C (tDrop (tBM C.K "list" rAppend (tVar j) (tCons (tBM C.K "list" rPopAt (tVar i) (tCons te tNil)) tNil))) E Γ S := fun B D l σ Hs H x k0 => by
  obtain ⟨s2, p1, pj, vj, rfl, p2, p3, p4, p5⟩ := x.at_ j _ ej
  refine ⟨.ref pj, p1, .inl ⟨rfl, _, .inl (.inl p2)⟩, ?_⟩
  obtain ⟨s, q1, p, vs, rfl, q2, q3, q4, q5⟩ := x.at_ i _ ei
  refine ⟨.ref p, q1, .inl ⟨rfl, _, .inl (.inl q2)⟩, hj B σ Hs H x k0 _ fun v Hs1 H1 k1 f1 d1 => ?_⟩
  have x1 := x.fr k0 f1
  obtain ⟨s, r1, p', vs', rfl, r2, r3, r4, r5⟩ := x1.at_ i _ ei
  rw [q1] at r1
  cases r1
  obtain ⟨y, t1, t2⟩ := DpAll.get r3 hx
  refine ⟨p, vs', n, k, y, rfl, by rw [Dp.toI d1], r2, by omega, by omega, by rw [DpAll.length r3]; exact hn, t1, ?_⟩
  have er : ∀ (vs : List V) (ds : List PyData) (j : Nat), DpAll C.K Hs1 vs ds → DpAll C.K Hs1 (vs.eraseIdx j) (ds.eraseIdx j) := by
    intro vs ds
    induction ds generalizing vs with
    | nil =>
      intro j h
      cases h
      exact .nil
    | cons d ds ih =>
      intro j h
      cases h with
      | cons h1 h2 =>
        cases j with
        | zero => exact h2
        | succ j => exact .cons h1 (ih _ j h2)
  have x2 : SlsOk C B Hs1 (upd H1 p (.lst (vs'.eraseIdx k))) σ (Γ.set i (.own (xs.eraseIdx k))) := x1.wrote ei q1 (er _ _ k r3)
  have k2 : HOk C B S' Hs1 (upd H1 p (.lst (vs'.eraseIdx k))) := k1.wrote r5 r4
  have ej2 : (Γ.set i (.own (xs.eraseIdx k)))[j]? = some (.own ys) := by
    rw [List.getElem?_set_ne ij]
    exact ej
  obtain ⟨s3, a1, pj', vj', rfl, a2, a3, a4, a5⟩ := x2.at_ j _ ej2
  rw [p1] at a1
  cases a1
  have zs : sizeLine = 16777216 := sizeLine_eq
  refine ⟨pj, vj', y, rfl, rfl, a2, by rw [DpAll.length a3]; omega, ?_⟩
  exact l.1 _ _ _ S' Hs1 e (x2.wrote ej2 p1 (DpAll.append a3 (DpAll.one t2))) (k2.wrote a5 a4)
end
end Dl
namespace Pm
open PySem PySem.Spec PyProof.Rows L2 Dl Bx
variable {P : Program} {w : World} {K : PySem.W.Frag} {mg : Str → Option Value} {base : Heap}
local macro_rules | `(tactic| trivial) => `(tactic| first | omega | exact Or.inr ⟨by omega, by omega⟩ | exact Or.inl ⟨by omega, by omega⟩ | exact ⟨by omega, by omega⟩)
/-! ### draws -/
def mixF (near : List Int) (total t : Int) : Int :=
  let cell := near.getD (t % (near.length : Int)).toNat 0
  let m1 := (cell * 31337 + total + t * 1000003) % 2147483629
  let m2 := (m1 * m1 + t * 7368787 + cell) % 2147483587
  let m3 := (m2 * m2 + m2 * 5 + t) % 2147483579
  m3 / 64
def drawF (near : List Int) (total : Int) (S : Sto) (m : Int) : Int × Sto := match S.far.getLast? with
  | some c => (c % m, ⟨if m ≤ c then S.far.dropLast ++ [c / m] else S.far.dropLast, S.turn⟩)
  | none => (mixF near total (S.turn + 1) % m, ⟨[], S.turn + 1⟩)
structure SOk (near : List Int) (S : Sto) : Prop where
  ne : near ≠ []
  len : near.length ≤ 100
  far : S.far.length ≤ 1000
theorem draw_b {near : List Int} {total : Int} {S : Sto} {m : Int} (hm : 0 < m) : 0 ≤ (drawF near total S m).1 ∧ (drawF near total S m).1 < m := by
  unfold drawF
  split <;> exact ⟨Int.emod_nonneg _ (by omega), Int.emod_lt_of_pos _ hm⟩
theorem draw_ok {near : List Int} {total : Int} {S : Sto} {m : Int} (h : SOk near S) : SOk near (drawF near total S m).2 := by
  refine ⟨h.ne, h.len, ?_⟩
  have := h.far
  unfold drawF
  split
  · rename_i c e
    have hne : S.far ≠ [] := fun z => by
      rw [z] at e
      cases e
    have hl : 0 < S.far.length := List.length_pos_iff.mpr hne
    dsimp only
    split
    · rw [List.length_append, List.length_dropLast, List.length_singleton]
      omega
    · rw [List.length_dropLast]
      omega
  · simp
def R__law_draw : RelS := fun near total S ds d S' => ∃ m : Int, ds = [.int m] ∧ 0 < m ∧ m ≤ 1000000 ∧ SOk near S ∧ d = .int (drawF near total S m).1 ∧ S' = (drawF near total S m).2
theorem rd_ixI {K : PySem.W.Frag} {ns : List Int} {i : Int} (h0 : 0 ≤ i) (h1 : i < ns.length) : RD K (rIx K) (.list (ns.map .int)) (.int i) (.int (ns.getD i.toNat 0)) := by
  refine rd_ixL (j := i.toNat) (ixN_nat h0 (by rw [List.length_map]; exact h1)) ?_
  have hi : i.toNat < ns.length := by omega
  rw [List.getElem?_map, List.getElem?_eq_getElem hi]
  simp [List.getD, List.getElem?_eq_getElem hi]
theorem sc__law_draw : FnScope ["_law_store_here", "_law_many", "_law_far", "_law_cell", "_law_turn", "_law_mixed"] ["_law_store_here", "_law_many"] (defScope (Bx.top 47)) := ⟨rfl, rfl, rfl, by decide +kernel, rfl, by decide +kernel, by decide +kernel⟩
theorem ok__law_draw (T : Tx w K mg base) : C8.Cal P w K mg base 1 "_law_draw" (spS K R__law_draw) [] := by
  obtain ⟨fd, F⟩ := T.f__law_draw
  refine cal_eff F T.g__law_draw (F.bindsN (fun _ _ _ _ _ _ us hl => match us, hl with | [_, _], _ => rfl)) sc__law_draw (by rintro _ _ _ _ _ _ ⟨m, rfl, hm, hm2, hS, rfl, rfl⟩ <;> rfl) ?_
  rintro lo c _ _ c2 ⟨m, rfl, hm, hm2, hS, rfl, rfl⟩ cdv A outer sh H E hr
  have nd := sc__law_draw.nd
  refine ⟨_, (pss_cons (ps_set (i := 2) nd rfl (.inl rfl) (pe_dget (hu_of hr) (pv 0) pe_str (fun _ _ => rfl)))
      (pss_cons (ps_if (pt_cmpR (Mk.neD K rfl hr.units) (pv 2) (pe_lst pa_nil) (nomark _)) (pss_cons (ps_set (i := 3) nd rfl (.inl rfl) (pe_bm0 PySem.F.plainAttrs_list PySem.F.slot_list_pop PySem.F.type_list_pop mt_pop (pv 2)))
      (pss_cons (ps_if (pt_cmpR op_ge (pv 3) (pv 1) (nomark _)) (pss_one (ps_expr (pe_bm PySem.F.plainAttrs_list PySem.F.slot_list_append PySem.F.type_list_append mt_append (pv 2) (pa_cons (pe_op op_fdiv (pv 3) (pv 1)) pa_nil)))) pss_nil)
      (pss_one (ps_ret (pe_op op_mod (pe_callTy call_int1 (by rfl) T.b_int (by decide +kernel) (pa_cons (pv 3) pa_nil)) (pv 1)))))) pss_nil)
      (pss_cons (ps_set (i := 4) nd rfl (.inl rfl) (pe_op op_add (pe_dget (hu_of hr) (pv 0) pe_str (fun _ _ => rfl)) pe_int))
      (pss_cons (ps_asg (pv 4) (pg_sub (pv 0) pe_str (set_dict (hu_of hr))))
      (pss_cons (ps_set (i := 3) nd rfl (.inl rfl) (pe_callTy call_int1 (by rfl) T.b_int (by decide +kernel) (pa_cons (pe_ix (Mk.ix K rfl) (pe_dget (hu_of hr) (pv 0) pe_str (fun _ _ => rfl)) (pe_op op_mod (pe_callTy call_int1 (by rfl) T.b_int (by decide +kernel) (pa_cons (pv 4) pa_nil)) (pe_callB (Mk.len K rfl) (by rfl) T.b_len PySem.boot_len (pa_cons (pe_dget (hu_of hr) (pv 0) pe_str (fun _ _ => rfl)) pa_nil))) (fun _ _ => rfl)) pa_nil)))
      (pss_cons (ps_set (i := 5) nd rfl (.inl rfl) (pe_op op_mod (pe_callTy call_int1 (by rfl) T.b_int (by decide +kernel) (pa_cons (pe_op op_add (pe_op op_add (pe_op op_mul (pv 3) pe_int) (pe_dget (hu_of hr) (pv 0) pe_str (fun _ _ => rfl))) (pe_op op_mul (pv 4) pe_int)) pa_nil)) pe_int))
      (pss_cons (ps_set (i := 5) nd rfl (.inl rfl) (pe_op op_mod (pe_callTy call_int1 (by rfl) T.b_int (by decide +kernel) (pa_cons (pe_op op_add (pe_op op_add (pe_op op_mul (pv 5) (pv 5)) (pe_op op_mul (pv 4) pe_int)) (pv 3)) pa_nil)) pe_int))
      (pss_cons (ps_set (i := 5) nd rfl (.inl rfl) (pe_op op_mod (pe_callTy call_int1 (by rfl) T.b_int (by decide +kernel) (pa_cons (pe_op op_add (pe_op op_add (pe_op op_mul (pv 5) (pv 5)) (pe_op op_mul (pv 5) pe_int)) (pv 4)) pa_nil)) pe_int))
      (pss_one (ps_ret (pe_op op_mod (pe_callTy call_int1 (by rfl) T.b_int (by decide +kernel) (pa_cons (pe_op op_fdiv (pv 5) pe_int) pa_nil)) (pv 1)))))))))))), ?_⟩
  refine gs_seq (gs_far rfl rfl ?_)
  cases hfar : c.far.getLast? with
  | some x =>
    have hne : c.far ≠ [] := fun z => by
      rw [z] at hfar
      cases hfar
    have hdec : c.far = c.far.dropLast ++ [x] := by
      have := List.dropLast_concat_getLast hne
      rw [List.getLast?_eq_some_getLast hne] at hfar
      rw [Option.some.inj hfar] at this
      exact this.symm
    have hd : drawF lo.near lo.total c m = (x % m, ⟨if m ≤ x then c.far.dropLast ++ [x / m] else c.far.dropLast, c.turn⟩) := by
      unfold drawF
      rw [hfar]
    rw [hd]
    have hlen := hS.far
    refine gs_seq (gs_if (et_farNe rfl rfl) (fun h => ?_) (fun h => ?_))
    · refine gs_seq (gs_farPop rfl rfl hdec ?_)
      refine gs_seq ((gs_if (E := { nx := fun Γ S => Γ[3]? = some (.dat (.int x)) ∧ Γ[1]? = some (.dat (.int m)) ∧ S = ⟨if m ≤ x then c.far.dropLast ++ [x / m] else c.far.dropLast, c.turn⟩, rt := fun _ _ => False }) (et_test (ed_op (ed_var rfl) (ed_var rfl) rd_B0)) (fun h2 => ?_) (fun h2 => gs_next ?_)).mono ?_ (fun _ _ h => h.elim) (fun _ _ h => h.elim) (fun _ _ h => h.elim))
      · refine gs_farApp rfl rfl (ed_op (ed_var rfl) (ed_var rfl) (rd_I (by trivial))) (by rw [List.length_dropLast]; omega) ⟨rfl, rfl, ?_⟩
        rw [if_pos (of_decide_eq_true h2)]
      · exact ⟨rfl, rfl, by rw [if_neg (of_decide_eq_false h2)]⟩
      · rintro Γ S ⟨h3, h4, rfl⟩
        exact gs_ret (ed_op (ed_cb (ea_cons (ed_var h3) ea_nil) rc_int) (ed_var h4) (rd_I (by trivial))) ⟨rfl, rfl⟩
    · cases hq : c.far with
      | nil => exact absurd hq hne
      | cons a b =>
        rw [hq] at h
        cases h
  | none =>
    have hne : c.far = [] := List.getLast?_eq_none_iff.mp hfar
    have hd : drawF lo.near lo.total c m = (mixF lo.near lo.total (c.turn + 1) % m, ⟨[], c.turn + 1⟩) := by
      unfold drawF
      rw [hfar]
    rw [hd]
    have hnl : 0 < lo.near.length := List.length_pos_iff.mpr hS.ne
    have hnl2 := hS.len
    refine gs_seq (gs_if (et_farNe rfl rfl) (fun h => ?_) (fun h => gs_next ?_))
    · rw [hne] at h
      cases h
    refine gs_seq (gs_asg (ed_op (ed_stoTurn rfl rfl) ed_int rd_I0) ?_)
    refine gs_seq (gs_turn rfl rfl (ed_var rfl) ?_)
    have hi0 : 0 ≤ (c.turn + 1) % (lo.near.length : Int) := Int.emod_nonneg _ (by omega)
    have hi1 : (c.turn + 1) % (lo.near.length : Int) < lo.near.length := Int.emod_lt_of_pos _ (by omega)
    refine gs_seq (gs_asg (ed_cb (ea_cons (ed_op (ed_stoNear rfl rfl) (ed_op (ed_cb (ea_cons (ed_var rfl) ea_nil) rc_int) (ed_is (ed_cb (ea_cons (ed_stoNear rfl rfl) ea_nil) rc_len) (congrArg (fun k : Nat => PyData.int (k : Int)) (List.length_map ..))) (rd_I (by trivial))) (rd_ixI hi0 hi1)) ea_nil) rc_int) ?_)
    refine gs_seq (gs_asg (ed_op (ed_cb (ea_cons (ed_op (ed_op (ed_op (ed_var rfl) ed_int (rd_I (by trivial))) (ed_stoTotal rfl rfl) rd_I0) (ed_op (ed_var rfl) ed_int (rd_I (by trivial))) rd_I0) ea_nil) rc_int) ed_int (rd_I (by trivial))) ?_)
    have m1 : ∀ x : Int, 0 ≤ x % 2147483629 ∧ x % 2147483629 < 2147483629 := fun x => ⟨Int.emod_nonneg _ (by omega), Int.emod_lt_of_pos _ (by omega)⟩
    have m2 : ∀ x : Int, 0 ≤ x % 2147483587 ∧ x % 2147483587 < 2147483587 := fun x => ⟨Int.emod_nonneg _ (by omega), Int.emod_lt_of_pos _ (by omega)⟩
    refine gs_seq (gs_asg (ed_op (ed_cb (ea_cons (ed_op (ed_op (ed_op (ed_var rfl) (ed_var rfl) (rd_I (.inl ⟨by have := m1 (lo.near.getD ((c.turn + 1) % (lo.near.length : Int)).toNat 0 * 31337 + lo.total + (c.turn + 1) * 1000003); omega, by have := m1 (lo.near.getD ((c.turn + 1) % (lo.near.length : Int)).toNat 0 * 31337 + lo.total + (c.turn + 1) * 1000003); omega⟩))) (ed_op (ed_var rfl) ed_int (rd_I (by trivial))) rd_I0) (ed_var rfl) rd_I0) ea_nil) rc_int) ed_int (rd_I (by trivial))) ?_)
    generalize hx : (lo.near.getD ((c.turn + 1) % (lo.near.length : Int)).toNat 0 * 31337 + lo.total + (c.turn + 1) * 1000003) % 2147483629 = x1
    generalize hx2 : (x1 * x1 + (c.turn + 1) * 7368787 + lo.near.getD ((c.turn + 1) % (lo.near.length : Int)).toNat 0) % 2147483587 = x2
    have hb2 : 0 ≤ x2 ∧ x2 < 2147483587 := by
      rw [← hx2]
      exact m2 _
    refine gs_seq (gs_asg (ed_op (ed_cb (ea_cons (ed_op (ed_op (ed_op (ed_var rfl) (ed_var rfl) (rd_I (by trivial))) (ed_op (ed_var rfl) ed_int (rd_I (by trivial))) rd_I0) (ed_var rfl) rd_I0) ea_nil) rc_int) ed_int (rd_I (by trivial))) ?_)
    refine gs_ret (ed_op (ed_cb (ea_cons (ed_op (ed_var rfl) ed_int (rd_I (by trivial))) ea_nil) rc_int) (ed_var rfl) (rd_I (by trivial))) ⟨?_, ?_⟩
    · unfold mixF
      dsimp only
      rw [hx, hx2]
    · rw [hne]
def R__law_pick : RelS := fun near total S ds d S' => ∃ xs : List PyData, ds = [.list xs] ∧ xs ≠ [] ∧ xs.length ≤ 1000 ∧ SOk near S ∧ d = xs.getD (drawF near total S xs.length).1.toNat .none ∧ S' = (drawF near total S xs.length).2
theorem sc__law_pick : FnScope ["_law_store_here", "_law_items"] ["_law_store_here", "_law_items"] (defScope (Bx.top 48)) := ⟨rfl, rfl, rfl, by decide +kernel, rfl, by decide +kernel, by decide +kernel⟩
theorem ok__law_pick (T : Tx w K mg base) : C8.Cal P w K mg base 2 "_law_pick" (spS K R__law_pick) [] := by
  obtain ⟨fd, F⟩ := T.f__law_pick
  have ok__law_draw := ok__law_draw (P := P) T
  refine cal_eff F T.g__law_pick (F.bindsN (fun _ _ _ _ _ _ us hl => match us, hl with | [_, _], _ => rfl)) sc__law_pick (by rintro _ _ _ _ _ _ ⟨xs, rfl, hne, hl, hS, rfl, rfl⟩ <;> rfl) ?_
  rintro lo c _ _ c2 ⟨xs, rfl, hne, hl, hS, rfl, rfl⟩ cdv A outer sh H E hr
  have nd := sc__law_pick.nd
  refine ⟨_, (pss_one (ps_ret (pe_ix (Mk.ix K rfl) (pv 1) (C8.pe_c ok__law_draw hr (by decide) (by rfl) (pa_cons (pv 0) (pa_cons (pe_callB (Mk.len K rfl) (by rfl) T.b_len PySem.boot_len (pa_cons (pv 1) pa_nil)) pa_nil))) (fun _ _ => rfl)))), ?_⟩
  have hp : 0 < xs.length := List.length_pos_iff.mpr hne
  have hb := draw_b (near := lo.near) (total := lo.total) (S := c) (m := (xs.length : Int)) (by omega)
  have hi : (drawF lo.near lo.total c xs.length).1.toNat < xs.length := by omega
  exact gs_ret (ed_op (ed_var rfl) (ed_callS rfl rfl (ea_cons (ed_cb (ea_cons (ed_var rfl) ea_nil) rc_len) ea_nil) ⟨_, rfl, by omega, by omega, hS, rfl, rfl⟩) (rd_ixL (ixN_nat hb.1 hb.2) (d := xs.getD (drawF lo.near lo.total c xs.length).1.toNat .none) (by simp [List.getD, List.getElem?_eq_getElem hi]))) ⟨rfl, rfl⟩
def shufG (near : List Int) (total : Int) : Nat → List Int → List Int → Sto → List Int × Sto
  | 0, _, found, S => (found, S)
  | k + 1, rest, found, S => shufG near total k (rest.eraseIdx (drawF near total S rest.length).1.toNat) (found ++ [rest.getD (drawF near total S rest.length).1.toNat 0]) (drawF near total S rest.length).2
def shufF (near : List Int) (total : Int) (S : Sto) (xs : List Int) : List Int × Sto := shufG near total xs.length xs [] S
theorem shufG_spec {near : List Int} {total : Int} : ∀ (k : Nat) (rest found : List Int) (S : Sto), rest.length = k → SOk near S → (shufG near total k rest found S).1.length = found.length + k ∧ (∀ y ∈ (shufG near total k rest found S).1, y ∈ found ∨ y ∈ rest) ∧ SOk near (shufG near total k rest found S).2
  | 0, rest, found, S, hk, hS => ⟨rfl, fun y hy => .inl hy, hS⟩
  | k + 1, rest, found, S, hk, hS => by
    have hb := draw_b (near := near) (total := total) (S := S) (m := (rest.length : Int)) (by omega)
    have hi : (drawF near total S rest.length).1.toNat < rest.length := by omega
    obtain ⟨h1, h2, h3⟩ := shufG_spec k (rest.eraseIdx (drawF near total S rest.length).1.toNat) (found ++ [rest.getD (drawF near total S rest.length).1.toNat 0]) (drawF near total S rest.length).2 (by rw [List.length_eraseIdx_of_lt hi]; omega) (draw_ok hS)
    unfold shufG
    refine ⟨?_, fun y hy => ?_, h3⟩
    · rw [h1, List.length_append, List.length_singleton]
      omega
    · rcases h2 y hy with h | h
      · rcases List.mem_append.mp h with h | h
        · exact .inl h
        · refine .inr ?_
          rw [List.mem_singleton.mp h]
          have e : rest.getD (drawF near total S rest.length).1.toNat 0 = rest[(drawF near total S rest.length).1.toNat] := by simp [List.getD, List.getElem?_eq_getElem hi]
          rw [e]
          exact List.getElem_mem _
      · exact .inr (List.mem_of_mem_eraseIdx h)
theorem shufF_spec {near : List Int} {total : Int} {S : Sto} {xs : List Int} (hS : SOk near S) : (shufF near total S xs).1.length = xs.length ∧ (∀ y ∈ (shufF near total S xs).1, y ∈ xs) ∧ SOk near (shufF near total S xs).2 := by
  obtain ⟨h1, h2, h3⟩ := shufG_spec (near := near) (total := total) xs.length xs [] S rfl hS
  refine ⟨by unfold shufF; rw [h1]; simp, fun y hy => ?_, h3⟩
  rcases h2 y hy with h | h
  · cases h
  · exact h
def R__law_shuffled : RelS := fun near total S ds d S' => ∃ xs : List Int, ds = [eL xs] ∧ xs.length ≤ 1000 ∧ SOk near S ∧ d = eL (shufF near total S xs).1 ∧ S' = (shufF near total S xs).2
theorem eraseIdx_mp {α β : Type} (f : α → β) : ∀ (l : List α) (i : Nat), (l.map f).eraseIdx i = (l.eraseIdx i).map f
  | [], _ => rfl
  | a :: l, 0 => rfl
  | a :: l, i + 1 => by
    show f a :: (l.map f).eraseIdx i = f a :: (l.eraseIdx i).map f
    rw [eraseIdx_mp f l i]
theorem seqIx {i : Int} {n : Nat} (h0 : 0 ≤ i) (h1 : i < n) : seqIndex? i n = some i.toNat := by
  unfold seqIndex?
  simp
  omega
theorem sc__law_shuffled : FnScope ["_law_store_here", "_law_items", "_law_rest", "_law_found", "_law_turn"] ["_law_store_here", "_law_items"] (defScope (Bx.top 49)) := ⟨rfl, rfl, rfl, by decide +kernel, rfl, by decide +kernel, by decide +kernel⟩
theorem ok__law_shuffled (T : Tx w K mg base) : C8.Cal P w K mg base 2 "_law_shuffled" (spS K R__law_shuffled) [] := by
  obtain ⟨fd, F⟩ := T.f__law_shuffled
  have ok__law_draw := ok__law_draw (P := P) T
  refine cal_eff F T.g__law_shuffled (F.bindsN (fun _ _ _ _ _ _ us hl => match us, hl with | [_, _], _ => rfl)) sc__law_shuffled (by rintro _ _ _ _ _ _ ⟨xs, rfl, hl, hS, rfl, rfl⟩ <;> rfl) ?_
  rintro lo c _ _ c2 ⟨xs, rfl, hl, hS, rfl, rfl⟩ cdv A outer sh H E hr
  have nd := sc__law_shuffled.nd
  refine ⟨_, (pss_cons (ps_par (i := 2) (j := 3) rfl nd rfl rfl (by decide) rfl rfl (pa_cons (pe_callTy (Mk.list K rfl) (by rfl) T.b_list PyProof.Rows.boot_list (pa_cons (pv 1) pa_nil)) (pa_cons (pe_lst pa_nil) pa_nil)) (by rfl))
      (pss_cons (ps_for PassesOwn.never rfl (pi_range1 (by rfl) T.b_range (pa_cons (pe_callB (Mk.len K rfl) (by rfl) T.b_len PySem.boot_len (pa_cons (pv 1) pa_nil)) pa_nil)) (pg_name (i := 4) nd rfl (.inl rfl)) (pss_one (ps_expr (pe_bm PySem.F.plainAttrs_list PySem.F.slot_list_append PySem.F.type_list_append mt_append (pv 3) (pa_cons (pe_bm PySem.F.plainAttrs_list PySem.F.slot_list_pop PySem.F.type_list_pop mt_popAt (pv 2) (pa_cons (C8.pe_c ok__law_draw hr (by decide) (by rfl) (pa_cons (pv 0) (pa_cons (pe_callB (Mk.len K rfl) (by rfl) T.b_len PySem.boot_len (pa_cons (pv 2) pa_nil)) pa_nil))) pa_nil)) pa_nil)))))
      (pss_one (ps_ret (pv 3))))), ?_⟩
  refine gs_seq (gs_parOO (en_listC (C := ⟨K, some lo⟩) rfl (c := true) (ea_cons (ed_var rfl) ea_nil)) (en_lst ea_nil (sz (by simp))) ?_)
  refine gs_seq (gs_for (as := List.range xs.length) (enc := fun (j : Nat) => .int (j : Int)) (ei_is (ei_rng1 (ea_cons (ed_is (ed_cb (ea_cons (ed_var rfl) ea_nil) rc_len) (congrArg (fun k : Nat => PyData.int (k : Int)) (List.length_map ..))) ea_nil) ⟨by omega, by omega⟩) (rng0 _)) (fun i Γ S => ∃ rest found s4, Γ = [.sto, .dat (eL xs), .own (rest.map .int), .own (found.map .int), s4] ∧ rest.length = xs.length - i ∧ found.length ≤ i ∧ SOk lo.near S ∧ shufG lo.near lo.total (xs.length - i) rest found S = shufF lo.near lo.total c xs) ⟨xs, [], _, rfl, by omega, by simp, hS, rfl⟩ ?_ ?_)
  · rintro i a Γ' S' ha ⟨rest, found, s4, rfl, hr, hf, hS', e⟩
    obtain ⟨rfl, hi⟩ := range_get ha
    have hb := draw_b (near := lo.near) (total := lo.total) (S := S') (m := (rest.length : Int)) (by omega)
    have hk : (drawF lo.near lo.total S' rest.length).1.toNat < rest.length := by omega
    refine ⟨_, _, gt_name, gs_appPop (i := 2) (j := 3) (by decide) rfl rfl (ed_callS rfl rfl (ea_cons (ed_frz (i := 2) rfl rfl (ed_cb (ea_cons (ed_var rfl) ea_nil) rc_len)) ea_nil) ⟨_, rfl, by rw [List.length_map]; omega, by rw [List.length_map]; omega, hS', rfl, rfl⟩) (seqIx ?_ ?_) ⟨?_, ?_⟩ (d := .int (rest.getD (drawF lo.near lo.total S' rest.length).1.toNat 0)) ?_ (by rw [List.length_map]; omega) ?_⟩
    · rw [List.length_map]
      exact hb.1
    · rw [List.length_map]
      exact hb.2
    · rw [List.length_map]
      omega
    · rw [List.length_map]
      omega
    · rw [List.length_map, List.getElem?_map, List.getElem?_eq_getElem hk]
      simp [List.getD, List.getElem?_eq_getElem hk]
    · rw [List.length_map]
      refine ⟨rest.eraseIdx (drawF lo.near lo.total S' rest.length).1.toNat, found ++ [rest.getD (drawF lo.near lo.total S' rest.length).1.toNat 0], .dat (.int (i : Int)), ?_, ?_, ?_, draw_ok hS', ?_⟩
      · rw [eraseIdx_mp, List.map_append]
        rfl
      · rw [List.length_eraseIdx_of_lt hk]
        omega
      · rw [List.length_append, List.length_singleton]
        omega
      · rw [← e, show xs.length - i = (xs.length - (i + 1)) + 1 by omega]
        rfl
  · rintro Γ' S' ⟨rest, found, s4, rfl, hr, hf, hS', e⟩
    rw [List.length_range, Nat.sub_self] at e
    have e' : (found, S') = shufF lo.near lo.total c xs := e
    refine gs_frz (i := 3) rfl (gs_ret (ed_var rfl) ⟨?_, ?_⟩)
    · rw [← e']
      rfl
    · rw [← e']
end Pm


set_option Elab.async false
set_option linter.all false
set_option maxRecDepth 100000
set_option maxHeartbeats 4000000
set_option autoImplicit false
namespace Pm
open PySem PySem.Spec PyProof.Rows L2 Dl Bx
variable {P : Program} {w : World} {K : PySem.W.Frag} {mg : Str → Option Value} {base : Heap}
local macro_rules | `(tactic| trivial) => `(tactic| first | omega | exact Or.inr ⟨by omega, by omega⟩ | exact Or.inl ⟨by omega, by omega⟩ | exact ⟨by omega, by omega⟩)
section
variable (near : List Int) (total : Int)
/-- the ends there are -/
def ends0 (S : Sto) (most : Int) : Int × Sto := if (drawF near total S 2).1 = 0 then (most, (drawF near total S 2).2) else drawF near total (drawF near total S 2).2 (most + 1)
def endsF (S : Sto) (b : Str) (most : Int) : (Int × Int) × Sto :=
  let D := ends0 near total S most
  if b = "cross" ∨ b = "times" then ((D.1 / 2, D.1 / 2), D.2)
  else if b = "copy drop" ∧ 0 < D.1 then ((1 + (drawF near total D.2 D.1).1, D.1 - (1 + (drawF near total D.2 D.1).1)), (drawF near total D.2 D.1).2)
  else if b = "copy" ∨ b = "copy uncopy" then
    (if D.1 < 2 then ((0, 0), D.2) else ((1 + (drawF near total D.2 (if b = "copy" then D.1 / 2 else D.1 - 1)).1, D.1 - (1 + (drawF near total D.2 (if b = "copy" then D.1 / 2 else D.1 - 1)).1)), (drawF near total D.2 (if b = "copy" then D.1 / 2 else D.1 - 1)).2))
  else (((drawF near total D.2 (D.1 + 1)).1, D.1 - (drawF near total D.2 (D.1 + 1)).1), (drawF near total D.2 (D.1 + 1)).2)
end
theorem ends0_spec {near : List Int} {total : Int} {S : Sto} {most : Int} (hS : SOk near S) (hm : 0 ≤ most) : 0 ≤ (ends0 near total S most).1 ∧ (ends0 near total S most).1 ≤ most ∧ SOk near (ends0 near total S most).2 := by
  unfold ends0
  split
  · exact ⟨hm, Int.le_refl _, draw_ok hS⟩
  · have := draw_b (near := near) (total := total) (S := (drawF near total S 2).2) (m := most + 1) (by omega)
    exact ⟨this.1, by omega, draw_ok (draw_ok hS)⟩
/-- what marks asks of the ends -/
def MarkOk (b : Str) (x y : Int) : Prop := (b ≠ "copy drop uncopy undrop" → b = "cross" ∨ b = "copy" ∨ b = "copy drop" ∨ b = "copy uncopy" → x = 0 → y = 0) ∧ (b = "copy uncopy" → 0 < x → 0 < y)
theorem endsF_spec {near : List Int} {total : Int} {S : Sto} {b : Str} {most : Int} (hS : SOk near S) (hm : 0 ≤ most) : 0 ≤ (endsF near total S b most).1.1 ∧ 0 ≤ (endsF near total S b most).1.2 ∧ (endsF near total S b most).1.1 + (endsF near total S b most).1.2 ≤ most ∧ MarkOk b (endsF near total S b most).1.1 (endsF near total S b most).1.2 ∧ SOk near (endsF near total S b most).2 := by
  obtain ⟨h1, h2, h3⟩ := ends0_spec (total := total) hS hm
  unfold endsF
  dsimp only
  generalize ends0 near total S most = D at h1 h2 h3
  by_cases c1 : b = "cross" ∨ b = "times"
  · rw [if_pos c1]
    refine ⟨by dsimp only; omega, by dsimp only; omega, by dsimp only; omega, ⟨fun _ _ h => h, fun h => ?_⟩, h3⟩
    rcases c1 with rfl | rfl
    · exact absurd h (by decide)
    · exact absurd h (by decide)
  rw [if_neg c1]
  by_cases c2 : b = "copy drop" ∧ 0 < D.1
  · rw [if_pos c2]
    have hd := draw_b (near := near) (total := total) (S := D.2) c2.2
    refine ⟨by dsimp only; omega, by dsimp only; omega, by dsimp only; omega, ⟨fun _ _ h => by dsimp only at h; omega, fun h => ?_⟩, draw_ok h3⟩
    rw [c2.1] at h
    exact absurd h (by decide)
  rw [if_neg c2]
  by_cases c3 : b = "copy" ∨ b = "copy uncopy"
  · rw [if_pos c3]
    by_cases c4 : D.1 < 2
    · rw [if_pos c4]
      exact ⟨Int.le_refl _, Int.le_refl _, hm, ⟨fun _ _ h => h, fun _ h => by dsimp only at h; omega⟩, h3⟩
    · rw [if_neg c4]
      have hq : 0 < (if b = "copy" then D.1 / 2 else D.1 - 1) ∧ (if b = "copy" then D.1 / 2 else D.1 - 1) ≤ D.1 - 1 := by split <;> omega
      have hd := draw_b (near := near) (total := total) (S := D.2) hq.1
      refine ⟨by dsimp only; omega, by dsimp only; omega, by dsimp only; omega, ⟨fun _ _ h => by dsimp only at h; omega, fun _ h => by dsimp only; omega⟩, draw_ok h3⟩
  rw [if_neg c3]
  have hd := draw_b (near := near) (total := total) (S := D.2) (m := D.1 + 1) (by omega)
  refine ⟨by dsimp only; omega, by dsimp only; omega, by dsimp only; omega, ⟨fun _ hb h => ?_, fun h => absurd (.inr h) c3⟩, draw_ok h3⟩
  rcases hb with hb | hb | hb | hb
  · exact absurd (.inl hb) c1
  · exact absurd (.inl hb) c3
  · have h0 : D.1 = 0 := by
      by_cases h5 : 0 < D.1
      · exact absurd ⟨hb, h5⟩ c2
      · omega
    dsimp only at h ⊢
    omega
  · exact absurd (.inr hb) c3
def eP2 (x y : Int) : PyData := .list [.int x, .int y]
def R__law_ends : RelS := fun near total S ds d S' => ∃ (b : Str) (most : Int), ds = [.str b, .int most] ∧ 0 ≤ most ∧ most ≤ 1000 ∧ SOk near S ∧ d = eP2 (endsF near total S b most).1.1 (endsF near total S b most).1.2 ∧ S' = (endsF near total S b most).2
theorem inS2 {x a b : Str} : (if false = true then !decide (x ∈ ([a, b] : List Str)) else decide (x ∈ ([a, b] : List Str))) = decide (x = a ∨ x = b) := by simp
theorem sc__law_ends : FnScope ["_law_store_here", "_law_base", "_law_most", "_law_ends_here", "_law_wide"] ["_law_store_here", "_law_base", "_law_most"] (defScope (Bx.top 50)) := ⟨rfl, rfl, rfl, by decide +kernel, rfl, by decide +kernel, by decide +kernel⟩
theorem ok__law_ends (T : Tx w K mg base) : C8.Cal P w K mg base 2 "_law_ends" (spS K R__law_ends) [] := by
  obtain ⟨fd, F⟩ := T.f__law_ends
  have ok__law_draw := ok__law_draw (P := P) T
  refine cal_eff F T.g__law_ends (F.bindsN (fun _ _ _ _ _ _ us hl => match us, hl with | [_, _, _], _ => rfl)) sc__law_ends (by rintro _ _ _ _ _ _ ⟨b, most, rfl, hm, hm2, hS, rfl, rfl⟩ <;> rfl) ?_
  rintro lo c _ _ c2 ⟨b, most, rfl, hm, hm2, hS, rfl, rfl⟩ cdv A outer sh H E hr
  have nd := sc__law_ends.nd
  refine ⟨_, (pss_cons (ps_set (i := 3) nd rfl (.inl rfl) (pe_ifExp (pt_cmpR op_eq (C8.pe_c ok__law_draw hr (by decide) (by rfl) (pa_cons (pv 0) (pa_cons pe_int pa_nil))) pe_int (nomark _)) (pv 2) (C8.pe_c ok__law_draw hr (by decide) (by rfl) (pa_cons (pv 0) (pa_cons (pe_op op_add (pv 2) pe_int) pa_nil)))))
      (pss_cons (ps_if (pt_cmpR (Mk.in_ K rfl) (pv 1) (pe_tup (pa_cons pe_str (pa_cons pe_str pa_nil))) rfl) (pss_one (ps_ret (pe_lst (pa_cons (pe_op op_fdiv (pv 3) pe_int) (pa_cons (pe_op op_fdiv (pv 3) pe_int) pa_nil))))) pss_nil)
      (pss_cons (ps_if (PW.pt (pw_and (pt_cmpR op_eq (pv 1) pe_str (nomark _)) (pw_and1 (pt_cmpR op_gt (pv 3) pe_int (nomark _))))) (pss_cons (ps_set (i := 4) nd rfl (.inl rfl) (pe_op op_add pe_int (C8.pe_c ok__law_draw hr (by decide) (by rfl) (pa_cons (pv 0) (pa_cons (pv 3) pa_nil)))))
      (pss_one (ps_ret (pe_lst (pa_cons (pv 4) (pa_cons (pe_op op_sub (pv 3) (pv 4)) pa_nil)))))) pss_nil)
      (pss_cons (ps_if (pt_cmpR (Mk.in_ K rfl) (pv 1) (pe_tup (pa_cons pe_str (pa_cons pe_str pa_nil))) rfl) (pss_cons (ps_if (pt_cmpR op_lt (pv 3) pe_int (nomark _)) (pss_one (ps_ret (pe_lst (pa_cons pe_int (pa_cons pe_int pa_nil))))) pss_nil)
      (pss_cons (ps_set (i := 4) nd rfl (.inl rfl) (pe_op op_add pe_int (C8.pe_c ok__law_draw hr (by decide) (by rfl) (pa_cons (pv 0) (pa_cons (pe_ifExp (pt_cmpR op_eq (pv 1) pe_str (nomark _)) (pe_op op_fdiv (pv 3) pe_int) (pe_op op_sub (pv 3) pe_int)) pa_nil)))))
      (pss_one (ps_ret (pe_lst (pa_cons (pv 4) (pa_cons (pe_op op_sub (pv 3) (pv 4)) pa_nil))))))) pss_nil)
      (pss_cons (ps_set (i := 4) nd rfl (.inl rfl) (C8.pe_c ok__law_draw hr (by decide) (by rfl) (pa_cons (pv 0) (pa_cons (pe_op op_add (pv 3) pe_int) pa_nil))))
      (pss_one (ps_ret (pe_lst (pa_cons (pv 4) (pa_cons (pe_op op_sub (pv 3) (pv 4)) pa_nil)))))))))), ?_⟩
  obtain ⟨e1, e2, e3⟩ := ends0_spec (total := lo.total) hS hm
  have eD : ∀ {Γ : List Sl}, Γ[0]? = some .sto → Γ[2]? = some (.dat (.int most)) → EvD ⟨K, some lo⟩ (tIf (tTest (tOp rEq (tCall (spS K R__law_draw) [] C8.E0 (tCons (tVar 0) (tCons (tC (.int 2)) tNil))) (tC (.int 0)))) (tVar 2) (tCall (spS K R__law_draw) [] C8.E0 (tCons (tVar 0) (tCons (tOp (rI0 fun i j => V.int (i + j)) (tVar 2) (tC (.int 1))) tNil)))) Γ c (.int (ends0 lo.near lo.total c most).1) (ends0 lo.near lo.total c most).2 := fun h0 h2 => by
    have hc := ed_callS (C := ⟨K, some lo⟩) (E := C8.E0) (RS := R__law_draw) (i := 0) (S1 := c) rfl h0 (ea_cons (ed_int (i := 2)) ea_nil) ⟨2, rfl, by omega, by omega, hS, rfl, rfl⟩
    have ht := et_test (ed_op hc ed_int (rd_eqI (j := 0)))
    unfold ends0
    by_cases q : (drawF lo.near lo.total c 2).1 = 0
    · rw [if_pos q]
      exact ed_ifT (et_is ht (decide_eq_true q)) (ed_var h2)
    · rw [if_neg q]
      exact ed_ifF (et_is ht (decide_eq_false q)) (ed_callS rfl h0 (ea_cons (ed_op (ed_var h2) ed_int rd_I0) ea_nil) ⟨_, rfl, by omega, by omega, draw_ok hS, rfl, rfl⟩)
  refine gs_seq (gs_asg (eD rfl rfl) ?_)
  unfold endsF
  dsimp only
  generalize ends0 lo.near lo.total c most = D at e1 e2 e3
  refine gs_seq (gs_if (et_is (et_test (ed_op (ed_var rfl) (ed_tup (ea_cons ed_str (ea_cons ed_str ea_nil)) (sz (by simp))) (rd_inST (ns := ["cross", "times"])))) inS2) (fun h => ?_) (fun h => gs_next ?_))
  · rw [if_pos (of_decide_eq_true h)]
    exact gs_ret (ed_lst (ea_cons (ed_op (ed_var rfl) ed_int (rd_I (by trivial))) (ea_cons (ed_op (ed_var rfl) ed_int (rd_I (by trivial))) ea_nil)) (sz (by simp))) ⟨rfl, rfl⟩
  rw [if_neg (of_decide_eq_false h)]
  refine gs_seq (gs_if (et_is (et_and0 (et_test (ed_op (ed_var rfl) ed_str rd_eqS)) (fun _ => (et_test (ed_op (ed_var rfl) ed_int rd_B0)))) (show _ = decide (b = "copy drop" ∧ 0 < D.1) by simp)) (fun h => ?_) (fun h => gs_next ?_))
  · have h' := of_decide_eq_true h
    rw [if_pos h']
    refine gs_seq (gs_asg (ed_op ed_int (ed_callS rfl rfl (ea_cons (ed_var rfl) ea_nil) ⟨_, rfl, h'.2, by omega, e3, rfl, rfl⟩) rd_I0) ?_)
    exact gs_ret (ed_lst (ea_cons (ed_var rfl) (ea_cons (ed_op (ed_var rfl) (ed_var rfl) rd_I0) ea_nil)) (sz (by simp))) ⟨rfl, rfl⟩
  rw [if_neg (of_decide_eq_false h)]
  refine gs_seq (gs_if (et_is (et_test (ed_op (ed_var rfl) (ed_tup (ea_cons ed_str (ea_cons ed_str ea_nil)) (sz (by simp))) (rd_inST (ns := ["copy", "copy uncopy"])))) inS2) (fun h => ?_) (fun h => gs_next ?_))
  · rw [if_pos (of_decide_eq_true h)]
    refine gs_seq (gs_if (et_test (ed_op (ed_var rfl) ed_int rd_B0)) (fun h2 => ?_) (fun h2 => gs_next ?_))
    · rw [if_pos (of_decide_eq_true h2)]
      exact gs_ret (ed_lst (ea_cons ed_int (ea_cons ed_int ea_nil)) (sz (by simp))) ⟨rfl, rfl⟩
    · have h3 := of_decide_eq_false h2
      rw [if_neg h3]
      have hq : 0 < (if b = "copy" then D.1 / 2 else D.1 - 1) ∧ (if b = "copy" then D.1 / 2 else D.1 - 1) ≤ D.1 - 1 := by split <;> omega
      refine gs_seq (gs_asg (ed_op ed_int (ed_callS rfl rfl (ea_cons (ed_if (d := .int (if b = "copy" then D.1 / 2 else D.1 - 1)) (et_test (ed_op (ed_var rfl) ed_str rd_eqS)) (fun h => ed_is (ed_op (ed_var rfl) ed_int (rd_I (by trivial))) (by rw [if_pos (of_decide_eq_true h)])) (fun h => ed_is (ed_op (ed_var rfl) ed_int rd_I0) (by rw [if_neg (of_decide_eq_false h)]))) ea_nil) ⟨_, rfl, hq.1, by omega, e3, rfl, rfl⟩) rd_I0) ?_)
      exact gs_ret (ed_lst (ea_cons (ed_var rfl) (ea_cons (ed_op (ed_var rfl) (ed_var rfl) rd_I0) ea_nil)) (sz (by simp))) ⟨rfl, rfl⟩
  rw [if_neg (of_decide_eq_false h)]
  refine gs_seq (gs_asg (ed_callS rfl rfl (ea_cons (ed_op (ed_var rfl) ed_int rd_I0) ea_nil) ⟨_, rfl, by omega, by omega, e3, rfl, rfl⟩) ?_)
  exact gs_ret (ed_lst (ea_cons (ed_var rfl) (ea_cons (ed_op (ed_var rfl) (ed_var rfl) rd_I0) ea_nil)) (sz (by simp))) ⟨rfl, rfl⟩
/-! ### marks -/
def drawsF (near : List Int) (total m : Int) : Nat → Sto → List Int × Sto
  | 0, S => ([], S)
  | k + 1, S => ((drawF near total S m).1 :: (drawsF near total m k (drawF near total S m).2).1, (drawsF near total m k (drawF near total S m).2).2)
theorem draws_ok {near : List Int} {total m : Int} : ∀ (k : Nat) (S : Sto), SOk near S → SOk near (drawsF near total m k S).2 ∧ (drawsF near total m k S).1.length = k
  | 0, S, h => ⟨h, rfl⟩
  | k + 1, S, h => by
    obtain ⟨h1, h2⟩ := draws_ok k (drawF near total S m).2 (draw_ok h)
    unfold drawsF
    exact ⟨h1, by rw [List.length_cons, h2]⟩
theorem runL_draws {α : Type} {near : List Int} {total m : Int} : ∀ (as : List α) (S : Sto), runL (fun (_ : α) s => (some (PyData.int (drawF near total s m).1), (drawF near total s m).2)) as S = ((drawsF near total m as.length S).1.map PyData.int, (drawsF near total m as.length S).2)
  | [], S => rfl
  | a :: as, S => by
    rw [runL_cons, runL_draws as]
    rfl
/-- [draw(store, m) for _ in range(k)] -/
theorem ed_draws {K : PySem.W.Frag} {lo : Lo} {Γ : List Sl} {S S1 : Sto} {wi : TI} {k : Nat} {m : Int} {sl jm js : Nat} (hi : EvI ⟨K, some lo⟩ wi Γ S ((List.range k).map fun (j : Nat) => PyData.int (j : Int)) S1) (hk : k ≤ 1000) (hS : SOk lo.near S1) (hm : 0 < k → 0 < m ∧ m ≤ 1000000) (h0 : Γ[js]? = some .sto) (h1 : Γ[jm]? = some (.dat (.int m))) (n0 : sl ≠ js) (n1 : sl ≠ jm) :
    EvD ⟨K, some lo⟩ (tLc wi (gName sl) tYes (tCall (spS K R__law_draw) [] C8.E0 (tCons (tVar js) (tCons (tVar jm) tNil))) [sl]) Γ S (eL (drawsF lo.near lo.total m k S1).1) (drawsF lo.near lo.total m k S1).2 := by
  have h := ed_lcI (C := ⟨K, some lo⟩) (wi := wi) (g := gName sl) (tt := tYes) (te := tCall (spS K R__law_draw) [] C8.E0 (tCons (tVar js) (tCons (tVar jm) tNil))) (vs := [sl]) (SOk lo.near) (fun (_ : Nat) s => (some (PyData.int (drawF lo.near lo.total s m).1), (drawF lo.near lo.total s m).2)) hi hS (by rw [List.length_range]; omega) fun a s ha hs => by
    have hk0 : 0 < k := by
      have := List.mem_range.mp ha
      omega
    refine ⟨draw_ok hs, _, _, gt_name, by simp, true, s, et_yes, fun _ => ⟨_, _, ed_callS rfl ?_ (ea_cons (ed_var ?_) ea_nil) ⟨m, rfl, (hm hk0).1, (hm hk0).2, hs, rfl, rfl⟩, rfl⟩, fun z => nomatch z⟩
    · show ((Γ.set sl .un).set sl (.dat (.int (a : Int))))[js]? = some .sto
      rw [List.getElem?_set_ne n0, List.getElem?_set_ne n0]
      exact h0
    · show ((Γ.set sl .un).set sl (.dat (.int (a : Int))))[jm]? = some (.dat (.int m))
      rw [List.getElem?_set_ne n1, List.getElem?_set_ne n1]
      exact h1
  rw [runL_draws, List.length_range] at h
  exact h
section
variable (near : List Int) (total : Int)
def marks1 (S : Sto) (x y : Int) : List Int × Sto := drawsF near total (1 + (drawF near total S (x + y + 1)).1) (x + y).toNat (drawF near total S (x + y + 1)).2
def marks2 (S : Sto) (x y : Int) : List Int × Sto :=
  let D := drawF near total S (if y < x then y else x)
  let A := drawsF near total (1 + D.1) (x - (1 + D.1)).toNat D.2
  let B := drawsF near total (1 + D.1) (y - (1 + D.1)).toNat A.2
  let X := shufF near total B.2 (rgI 0 (1 + D.1).toNat ++ A.1)
  let Y := shufF near total X.2 (rgI 0 (1 + D.1).toNat ++ B.1)
  (X.1 ++ Y.1, Y.2)
def marks3 (S : Sto) (b : Str) (x y : Int) : List Int × Sto :=
  let a0 := if b = "copy drop" then [] else rgI 0 x.toNat
  let A := drawsF near total x (y - (a0.length : Nat)).toNat S
  let X := shufF near total A.2 (a0 ++ A.1)
  (rgI 0 x.toNat ++ X.1, X.2)
def marksF (S : Sto) (b : Str) (x y : Int) : List Int × Sto :=
  if b = "copy drop uncopy undrop" then marks1 near total S x y
  else if b = "copy uncopy" ∧ 0 < x then marks2 near total S x y
  else marks3 near total S b x y
end
/-- the bases that marks is asked of -/
def markB (b : Str) : Prop := b = "cross" ∨ b = "copy" ∨ b = "copy drop" ∨ b = "copy uncopy" ∨ b = "copy drop uncopy undrop"
theorem min_b {x y : Int} (h1 : 0 < x) (h2 : 0 < y) : 0 < (if y < x then y else x) ∧ (if y < x then y else x) ≤ x ∧ (if y < x then y else x) ≤ y := by split <;> omega
theorem marksF_spec {near : List Int} {total : Int} {S : Sto} {b : Str} {x y : Int} (hS : SOk near S) (hx : 0 ≤ x) (hy : 0 ≤ y) (hx2 : x ≤ 50) (hy2 : y ≤ 50) (hM : MarkOk b x y) : x ≤ ((marksF near total S b x y).1.length : Nat) ∧ (marksF near total S b x y).1.length ≤ 100 ∧ SOk near (marksF near total S b x y).2 := by
  unfold marksF
  split
  · unfold marks1
    obtain ⟨h1, h2⟩ := draws_ok (near := near) (total := total) (m := 1 + (drawF near total S (x + y + 1)).1) (x + y).toNat (drawF near total S (x + y + 1)).2 (draw_ok hS)
    rw [h2]
    exact ⟨by omega, by omega, h1⟩
  split
  · rename_i hc
    have hy0 : 0 < y := hM.2 hc.1 hc.2
    have hmin := min_b hc.2 hy0
    have hd := draw_b (near := near) (total := total) (S := S) hmin.1
    have hS1 := draw_ok (total := total) (m := if y < x then y else x) hS
    unfold marks2
    dsimp only
    generalize drawF near total S (if y < x then y else x) = D at hd hS1
    obtain ⟨a1, a2⟩ := draws_ok (near := near) (total := total) (m := 1 + D.1) (x - (1 + D.1)).toNat D.2 hS1
    generalize drawsF near total (1 + D.1) (x - (1 + D.1)).toNat D.2 = A at a1 a2
    obtain ⟨b1, b2⟩ := draws_ok (near := near) (total := total) (m := 1 + D.1) (y - (1 + D.1)).toNat A.2 a1
    generalize drawsF near total (1 + D.1) (y - (1 + D.1)).toNat A.2 = B at b1 b2
    obtain ⟨x1, _, x3⟩ := shufF_spec (total := total) (xs := rgI 0 (1 + D.1).toNat ++ A.1) b1
    generalize shufF near total B.2 (rgI 0 (1 + D.1).toNat ++ A.1) = X at x1 x3
    obtain ⟨y1, _, y3⟩ := shufF_spec (total := total) (xs := rgI 0 (1 + D.1).toNat ++ B.1) x3
    rw [List.length_append, x1, y1, List.length_append, List.length_append, rgI_len, a2, b2]
    exact ⟨by omega, by omega, y3⟩
  · unfold marks3
    dsimp only
    have h0 : (if b = "copy drop" then ([] : List Int) else rgI 0 x.toNat).length ≤ 50 := by
      split
      · simp
      · rw [rgI_len]
        omega
    generalize (if b = "copy drop" then ([] : List Int) else rgI 0 x.toNat) = a0 at h0
    obtain ⟨a1, a2⟩ := draws_ok (near := near) (total := total) (m := x) (y - (a0.length : Nat)).toNat S hS
    generalize drawsF near total x (y - (a0.length : Nat)).toNat S = A at a1 a2
    obtain ⟨x1, _, x3⟩ := shufF_spec (total := total) (xs := a0 ++ A.1) a1
    rw [List.length_append, x1, rgI_len, List.length_append, a2]
    exact ⟨by omega, by omega, x3⟩
theorem eL_app (a b : List Int) : PyData.list (a.map PyData.int ++ b.map PyData.int) = eL (a ++ b) := by
  unfold eL
  rw [List.map_append]
def R__law_marks : RelS := fun near total S ds d S' => ∃ (b : Str) (x y : Int), ds = [.str b, .int x, .int y] ∧ markB b ∧ 0 ≤ x ∧ 0 ≤ y ∧ x ≤ 50 ∧ y ≤ 50 ∧ MarkOk b x y ∧ SOk near S ∧ d = eL (marksF near total S b x y).1 ∧ S' = (marksF near total S b x y).2
theorem sc__law_marks : FnScope ["_law_store_here", "_law_base", "_law_wide", "_law_tall", "_law_many", "_law_near", "_law_away", "_law_end"] ["_law_store_here", "_law_base", "_law_wide", "_law_tall"] (defScope (Bx.top 51)) := ⟨rfl, rfl, rfl, by decide +kernel, rfl, by decide +kernel, by decide +kernel⟩
theorem ok__law_marks (T : Tx w K mg base) : C8.Cal P w K mg base 3 "_law_marks" (spS K R__law_marks) [] := by
  obtain ⟨fd, F⟩ := T.f__law_marks
  have ok__law_draw := ok__law_draw (P := P) T
  have ok__law_shuffled := ok__law_shuffled (P := P) T
  refine cal_eff F T.g__law_marks (F.bindsN (fun _ _ _ _ _ _ us hl => match us, hl with | [_, _, _, _], _ => rfl)) sc__law_marks (by rintro _ _ _ _ _ _ ⟨b, x, y, rfl, hB, hx, hy, hx2, hy2, hM, hS, rfl, rfl⟩ <;> rfl) ?_
  rintro lo c _ _ c2 ⟨b, x, y, rfl, hB, hx, hy, hx2, hy2, hM, hS, rfl, rfl⟩ cdv A outer sh H E hr
  have nd := sc__law_marks.nd
  refine ⟨_, (pss_cons (ps_if (pt_cmpR op_eq (pv 1) pe_str (nomark _)) (pss_cons (ps_set (i := 4) nd rfl (.inr rfl) (pe_op op_add pe_int (C8.pe_c ok__law_draw hr (by decide) (by rfl) (pa_cons (pv 0) (pa_cons (pe_op op_add (pe_op op_add (pv 2) (pv 3)) pe_int) pa_nil)))))
      (pss_one (ps_ret (pe_lc (own := [("_law_end", 7)]) (g := (gName 7)) (tt := tYes) rfl nd (pi_range1 (by rfl) T.b_range (pa_cons (pe_op op_add (pv 2) (pv 3)) pa_nil)) (blkOk_by (by rfl)) (fun _ _ _ _ _ => (pg_name (i := 7) nd rfl (.inl rfl))) (fun _ _ _ _ _ => pts_nil) (fun _ _ _ _ _ => (C8.pe_c ok__law_draw hr (by decide) (by rfl) (pa_cons (pv 0) (pa_cons (pv 4) pa_nil)))))))) pss_nil)
      (pss_cons (ps_if (PW.pt (pw_and (pt_cmpR op_eq (pv 1) pe_str (nomark _)) (pw_and1 (pt_cmpR op_gt (pv 2) pe_int (nomark _))))) (pss_cons (ps_set (i := 4) nd rfl (.inr rfl) (pe_op op_add pe_int (C8.pe_c ok__law_draw hr (by decide) (by rfl) (pa_cons (pv 0) (pa_cons (pe_callB (call_min2 rfl) (by rfl) T.b_min (by decide +kernel) (pa_cons (pv 2) (pa_cons (pv 3) pa_nil))) pa_nil)))))
      (pss_cons (ps_set (i := 5) nd rfl (.inl rfl) (pe_op (Mk.catS K rfl) (pe_listRg rfl (by rfl) T.b_list (prg_1 (by rfl) T.b_range (pv 4))) (pe_lc (own := [("_law_end", 7)]) (g := (gName 7)) (tt := tYes) rfl nd (pi_range1 (by rfl) T.b_range (pa_cons (pe_op op_sub (pv 2) (pv 4)) pa_nil)) (blkOk_by (by rfl)) (fun _ _ _ _ _ => (pg_name (i := 7) nd rfl (.inl rfl))) (fun _ _ _ _ _ => pts_nil) (fun _ _ _ _ _ => (C8.pe_c ok__law_draw hr (by decide) (by rfl) (pa_cons (pv 0) (pa_cons (pv 4) pa_nil)))))))
      (pss_cons (ps_set (i := 6) nd rfl (.inl rfl) (pe_op (Mk.catS K rfl) (pe_listRg rfl (by rfl) T.b_list (prg_1 (by rfl) T.b_range (pv 4))) (pe_lc (own := [("_law_end", 7)]) (g := (gName 7)) (tt := tYes) rfl nd (pi_range1 (by rfl) T.b_range (pa_cons (pe_op op_sub (pv 3) (pv 4)) pa_nil)) (blkOk_by (by rfl)) (fun _ _ _ _ _ => (pg_name (i := 7) nd rfl (.inl rfl))) (fun _ _ _ _ _ => pts_nil) (fun _ _ _ _ _ => (C8.pe_c ok__law_draw hr (by decide) (by rfl) (pa_cons (pv 0) (pa_cons (pv 4) pa_nil)))))))
      (pss_one (ps_ret (pe_op (Mk.catS K rfl) (C8.pe_c ok__law_shuffled hr (by decide) (by rfl) (pa_cons (pv 0) (pa_cons (pv 5) pa_nil))) (C8.pe_c ok__law_shuffled hr (by decide) (by rfl) (pa_cons (pv 0) (pa_cons (pv 6) pa_nil))))))))) pss_nil)
      (pss_cons (ps_set (i := 6) nd rfl (.inl rfl) (pe_ifExp (pt_cmpR op_eq (pv 1) pe_str (nomark _)) (pe_lst pa_nil) (pe_listRg rfl (by rfl) T.b_list (prg_1 (by rfl) T.b_range (pv 2)))))
      (pss_cons (ps_set (i := 6) nd rfl (.inl rfl) (pe_op (Mk.catS K rfl) (pv 6) (pe_lc (own := [("_law_end", 7)]) (g := (gName 7)) (tt := tYes) rfl nd (pi_range1 (by rfl) T.b_range (pa_cons (pe_op op_sub (pv 3) (pe_callB (Mk.len K rfl) (by rfl) T.b_len PySem.boot_len (pa_cons (pv 6) pa_nil))) pa_nil)) (blkOk_by (by rfl)) (fun _ _ _ _ _ => (pg_name (i := 7) nd rfl (.inl rfl))) (fun _ _ _ _ _ => pts_nil) (fun _ _ _ _ _ => (C8.pe_c ok__law_draw hr (by decide) (by rfl) (pa_cons (pv 0) (pa_cons (pv 2) pa_nil)))))))
      (pss_one (ps_ret (pe_op (Mk.catS K rfl) (pe_listRg rfl (by rfl) T.b_list (prg_1 (by rfl) T.b_range (pv 2))) (C8.pe_c ok__law_shuffled hr (by decide) (by rfl) (pa_cons (pv 0) (pa_cons (pv 6) pa_nil)))))))))), ?_⟩
  unfold marksF
  refine gs_seq (gs_if (et_test (ed_op (ed_var rfl) ed_str rd_eqS)) (fun h => ?_) (fun h => gs_next ?_))
  · rw [if_pos (of_decide_eq_true h)]
    have hd := draw_b (near := lo.near) (total := lo.total) (S := c) (m := x + y + 1) (by omega)
    refine gs_seq (gs_asg (ed_op ed_int (ed_callS rfl rfl (ea_cons (ed_op (ed_op (ed_var rfl) (ed_var rfl) rd_I0) ed_int rd_I0) ea_nil) ⟨_, rfl, by omega, by omega, hS, rfl, rfl⟩) rd_I0) ?_)
    exact gs_ret (ed_draws (k := (x + y).toNat) (ei_is (ei_rng1 (ea_cons (ed_op (ed_var rfl) (ed_var rfl) rd_I0) ea_nil) ⟨by omega, by omega⟩) (rng0 _)) (by omega) (draw_ok hS) (fun _ => ⟨by omega, by omega⟩) rfl rfl (by decide) (by decide)) ⟨rfl, rfl⟩
  have hb0 := of_decide_eq_false h
  rw [if_neg hb0]
  refine gs_seq (gs_if (et_is (et_and0 (et_test (ed_op (ed_var rfl) ed_str rd_eqS)) (fun _ => (et_test (ed_op (ed_var rfl) ed_int rd_B0)))) (show _ = decide (b = "copy uncopy" ∧ 0 < x) by simp)) (fun h => ?_) (fun h => gs_next ?_))
  · have hc := of_decide_eq_true h
    rw [if_pos hc]
    have hy0 : 0 < y := hM.2 hc.1 hc.2
    have hmin := min_b hc.2 hy0
    have hd := draw_b (near := lo.near) (total := lo.total) (S := c) hmin.1
    have hS1 := draw_ok (total := lo.total) (m := if y < x then y else x) hS
    refine gs_seq (gs_asg (ed_op ed_int (ed_callS rfl rfl (ea_cons (ed_cb (ea_cons (ed_var rfl) (ea_cons (ed_var rfl) ea_nil)) rc_min2) ea_nil) ⟨_, rfl, hmin.1, by omega, hS, rfl, rfl⟩) rd_I0) ?_)
    unfold marks2
    dsimp only
    generalize drawF lo.near lo.total c (if y < x then y else x) = D at hd hS1
    obtain ⟨a1, a2⟩ := draws_ok (near := lo.near) (total := lo.total) (m := 1 + D.1) (x - (1 + D.1)).toNat D.2 hS1
    refine gs_seq (gs_asg (ed_is (ed_op (ed_lrg1 (ed_var rfl) ⟨by omega, by omega⟩) (ed_draws (k := (x - (1 + D.1)).toNat) (ei_is (ei_rng1 (ea_cons (ed_op (ed_var rfl) (ed_var rfl) rd_I0) ea_nil) ⟨by omega, by omega⟩) (rng0 _)) (by omega) hS1 (fun _ => ⟨by omega, by omega⟩) rfl rfl (by decide) (by decide)) (rd_catL (by rw [List.length_map, List.length_map, rgI_len, a2]; omega))) (eL_app _ _)) ?_)
    generalize drawsF lo.near lo.total (1 + D.1) (x - (1 + D.1)).toNat D.2 = A at a1 a2
    obtain ⟨b1, b2⟩ := draws_ok (near := lo.near) (total := lo.total) (m := 1 + D.1) (y - (1 + D.1)).toNat A.2 a1
    refine gs_seq (gs_asg (ed_is (ed_op (ed_lrg1 (ed_var rfl) ⟨by omega, by omega⟩) (ed_draws (k := (y - (1 + D.1)).toNat) (ei_is (ei_rng1 (ea_cons (ed_op (ed_var rfl) (ed_var rfl) rd_I0) ea_nil) ⟨by omega, by omega⟩) (rng0 _)) (by omega) a1 (fun _ => ⟨by omega, by omega⟩) rfl rfl (by decide) (by decide)) (rd_catL (by rw [List.length_map, List.length_map, rgI_len, b2]; omega))) (eL_app _ _)) ?_)
    generalize drawsF lo.near lo.total (1 + D.1) (y - (1 + D.1)).toNat A.2 = B at b1 b2
    have l1 : (rgI 0 (1 + D.1).toNat ++ A.1).length ≤ 200 := by rw [List.length_append, rgI_len, a2]; omega
    have l2 : (rgI 0 (1 + D.1).toNat ++ B.1).length ≤ 200 := by rw [List.length_append, rgI_len, b2]; omega
    obtain ⟨x1, _, x3⟩ := shufF_spec (total := lo.total) (xs := rgI 0 (1 + D.1).toNat ++ A.1) b1
    obtain ⟨y1, _, y3⟩ := shufF_spec (total := lo.total) (xs := rgI 0 (1 + D.1).toNat ++ B.1) x3
    refine gs_ret (ed_is (ed_op (ed_callS rfl rfl (ea_cons (ed_var rfl) ea_nil) ⟨_, rfl, by omega, b1, rfl, rfl⟩) (ed_callS rfl rfl (ea_cons (ed_var rfl) ea_nil) ⟨_, rfl, by omega, x3, rfl, rfl⟩) (rd_catL ?_)) (eL_app _ _)) ⟨rfl, rfl⟩
    rw [List.length_map, List.length_map, x1, y1]
    omega
  rw [if_neg (of_decide_eq_false h)]
  have hn2 := of_decide_eq_false h
  unfold marks3
  dsimp only
  refine gs_seq (gs_asg (ed_if (d := eL (if b = "copy drop" then [] else rgI 0 x.toNat)) (et_test (ed_op (ed_var rfl) ed_str rd_eqS)) (fun h => ed_is (ed_lst ea_nil (sz (by simp))) (by rw [if_pos (of_decide_eq_true h)]; rfl)) (fun h => ed_is (ed_lrg1 (ed_var rfl) ⟨by omega, by omega⟩) (by rw [if_neg (of_decide_eq_false h)]; rfl))) ?_)
  have h0 : (if b = "copy drop" then ([] : List Int) else rgI 0 x.toNat).length ≤ 50 := by
    split
    · simp
    · rw [rgI_len]
      omega
  have hx0 : x = 0 → y = 0 := hM.1 hb0 (by
    rcases hB with h | h | h | h | h
    · exact .inl h
    · exact .inr (.inl h)
    · exact .inr (.inr (.inl h))
    · exact .inr (.inr (.inr h))
    · exact absurd h hb0)
  generalize (if b = "copy drop" then ([] : List Int) else rgI 0 x.toNat) = a0 at h0
  obtain ⟨a1, a2⟩ := draws_ok (near := lo.near) (total := lo.total) (m := x) (y - (a0.length : Nat)).toNat c hS
  refine gs_seq (gs_asg (ed_is (ed_op (ed_var rfl) (ed_draws (k := (y - (a0.length : Nat)).toNat) (ei_is (ei_rng1 (ea_cons (ed_op (ed_var rfl) (ed_is (ed_cb (ea_cons (ed_var rfl) ea_nil) rc_len) (len_map _ _)) rd_I0) ea_nil) ⟨by omega, by omega⟩) (rng0 _)) (by omega) hS (fun _ => ⟨by omega, by omega⟩) rfl rfl (by decide) (by decide)) (rd_catL (by rw [List.length_map, List.length_map, a2]; omega))) (eL_app _ _)) ?_)
  generalize drawsF lo.near lo.total x (y - (a0.length : Nat)).toNat c = A at a1 a2
  have l1 : (a0 ++ A.1).length ≤ 200 := by rw [List.length_append, a2]; omega
  obtain ⟨x1, _, x3⟩ := shufF_spec (total := lo.total) (xs := a0 ++ A.1) a1
  refine gs_ret (ed_is (ed_op (ed_lrg1 (ed_var rfl) ⟨by omega, by omega⟩) (ed_callS rfl rfl (ea_cons (ed_var rfl) ea_nil) ⟨_, rfl, by omega, a1, rfl, rfl⟩) (rd_catL ?_)) (eL_app _ _)) ⟨rfl, rfl⟩
  rw [List.length_map, List.length_map, x1, rgI_len]
  omega
end Pm


set_option Elab.async false
set_option linter.all false
set_option maxRecDepth 100000
set_option maxHeartbeats 4000000
set_option autoImplicit false
namespace Pm
open PySem PySem.Spec PyProof.Rows L2 Dl Bx
variable {P : Program} {w : World} {K : PySem.W.Frag} {mg : Str → Option Value} {base : Heap}
local macro_rules | `(tactic| trivial) => `(tactic| first | omega | exact Or.inr ⟨by omega, by omega⟩ | exact Or.inl ⟨by omega, by omega⟩ | exact ⟨by omega, by omega⟩)
/-! ### lots -/
def indF (marks : List Int) (m : Int) : List Int := marks.map fun o => if decide (o = m) = true then 1 else 0
def knowStep (known : List Int) (m : Int) : List Int := if m ∈ known then known else known ++ [m]
def knownF (marks : List Int) : List Int := marks.foldl knowStep []
def lotsF (marks : List Int) : List (List Int) := (knownF marks).map (indF marks)
theorem know_len (m : List Int) : ∀ known : List Int, (m.foldl knowStep known).length ≤ known.length + m.length := by
  induction m with
  | nil => intro k; simp
  | cons a m ih =>
    intro k
    rw [List.foldl_cons, List.length_cons]
    have h1 : (knowStep k a).length ≤ k.length + 1 := by
      unfold knowStep
      split <;> simp
    have := ih (knowStep k a)
    omega
def R__law_lots_plane : Rel := fun ds d => ∃ (p : Int) (marks : List Int), ds = [.int p, eL marks] ∧ marks.length ≤ 100 ∧ d = eF p marks.length (lotsF marks)
theorem sc__law_lots_plane : FnScope ["_law_prime", "_law_marks_here", "_law_rows", "_law_known", "_law_mark", "_law_own"] ["_law_prime", "_law_marks_here"] (defScope (Bx.top 52)) := ⟨rfl, rfl, rfl, by decide +kernel, rfl, by decide +kernel, by decide +kernel⟩
theorem ok__law_lots_plane (T : Tx w K mg base) : C8.Cal P w K mg base 1 "_law_lots_plane" (spD K R__law_lots_plane) [] := by
  obtain ⟨fd, F⟩ := T.f__law_lots_plane
  refine cal_pure F T.g__law_lots_plane (F.bindsN (fun _ _ _ _ _ _ us hl => match us, hl with | [_, _], _ => rfl)) sc__law_lots_plane (by rintro _ _ ⟨p, marks, rfl, hl, rfl⟩ <;> rfl) ?_
  rintro _ _ ⟨p, marks, rfl, hl, rfl⟩ cdv A outer sh H E hr
  have nd := sc__law_lots_plane.nd
  refine ⟨_, (pss_cons (ps_par (i := 2) (j := 3) rfl nd rfl rfl (by decide) rfl rfl (pa_cons (pe_lst pa_nil) (pa_cons (pe_lst pa_nil) pa_nil)) (by rfl))
      (pss_cons (ps_for PassesOwn.never rfl (pi_list (pv 1)) (pg_name (i := 4) nd rfl (.inr rfl)) (pss_one (ps_if (pt_cmpR (Mk.notIn K rfl) (pv 4) (pv 3) rfl) (pss_cons (ps_expr (pe_bm PySem.F.plainAttrs_list PySem.F.slot_list_append PySem.F.type_list_append mt_append (pv 3) (pa_cons (pv 4) pa_nil)))
      (pss_one (ps_expr (pe_bm PySem.F.plainAttrs_list PySem.F.slot_list_append PySem.F.type_list_append mt_append (pv 2) (pa_cons (pe_callTy (Mk.tuple K rfl) (by rfl) T.b_tuple PyProof.Rows.boot_tuple (pa_cons (pe_lc (own := [("_law_own", 5)]) (g := (gName 5)) (tt := tYes) rfl nd (pi_list (pv 1)) (blkOk_by (by rfl)) (fun _ _ _ _ _ => (pg_name (i := 5) nd rfl (.inl rfl))) (fun _ _ _ _ _ => pts_nil) (fun _ _ _ _ _ => (pe_callTy call_int1 (by rfl) T.b_int (by decide +kernel) (pa_cons (pe_cmpR op_eq (pv 5) (pv 4) (nomark _)) pa_nil)))) pa_nil)) pa_nil))))) pss_nil)))
      (pss_one (ps_ret (pe_tup (pa_cons (pv 0) (pa_cons (pe_callB (Mk.len K rfl) (by rfl) T.b_len PySem.boot_len (pa_cons (pv 1) pa_nil)) (pa_cons (pe_callTy (Mk.tuple K rfl) (by rfl) T.b_tuple PyProof.Rows.boot_tuple (pa_cons (pv 2) pa_nil)) pa_nil)))))))), ?_⟩
  refine gs_seq (gs_parOO (en_lst ea_nil (sz (by simp))) (en_lst ea_nil (sz (by simp))) ?_)
  refine gs_seq (gs_for (as := marks) (enc := .int) (ei_list (ed_var rfl)) (fun i Γ S => ∃ s4, Γ = [.dat (.int p), .dat (eL marks), .own ((((marks.take i).foldl knowStep []).map (indF marks)).map eT), .own (((marks.take i).foldl knowStep []).map .int), s4, .un] ∧ S = S0) ⟨_, rfl, rfl⟩ ?_ ?_)
  · rintro i m Γ' S' ha ⟨s4, rfl, rfl⟩
    have htake : marks.take (i + 1) = marks.take i ++ [m] := by
      rw [List.take_add_one, ha]
      rfl
    have hkl : ((marks.take i).foldl knowStep []).length ≤ 100 := by
      have h1 := know_len (marks.take i) []
      rw [List.length_take] at h1
      simp at h1
      omega
    have hst : (marks.take (i + 1)).foldl knowStep [] = knowStep ((marks.take i).foldl knowStep []) m := by
      rw [htake, List.foldl_append]
      rfl
    revert hst hkl
    generalize (marks.take i).foldl knowStep [] = kn
    intro hkl hst
    refine ⟨_, _, gt_name, gs_if (et_frz (i := 3) rfl (et_test (ed_op (ed_var rfl) (ed_var rfl) (rd_inI (ns := kn))))) (fun h => ?_) (fun h => gs_next ?_)⟩
    · have h' : ¬ m ∈ kn := by simpa using h
      rw [knowStep, if_neg h'] at hst
      refine gs_seq (gs_app (i := 3) rfl (ed_var rfl) (by rw [List.length_map]; omega) ?_)
      refine gs_app (i := 2) (d := eT (indF marks m)) rfl (ed_is (ed_cb (ea_cons (ed_lcm (as := marks) (enc := .int) (fun o => .int (if decide (o = m) = true then 1 else 0)) (ei_list (ed_var rfl)) (by omega) fun o ho => ⟨_, _, gt_name, by simp, fun s => ed_cb (ea_cons (ed_op (ed_var rfl) (ed_var rfl) rd_eqI) ea_nil) rc_intB⟩) ea_nil) rc_tuple) (by unfold eT indF; rw [List.map_map]; rfl)) (by rw [List.length_map, List.length_map]; omega) ?_
      exact ⟨_, by rw [hst, List.map_append, List.map_append, List.map_append]; rfl, rfl⟩
    · have h' : m ∈ kn := by simpa using h
      rw [knowStep, if_pos h'] at hst
      exact ⟨_, by rw [hst]; rfl, rfl⟩
  · rintro Γ' S' ⟨s4, rfl, rfl⟩
    rw [List.take_of_length_le (Nat.le_refl _)]
    exact gs_frz (i := 2) rfl (gs_ret (ed_tup (ea_cons (ed_var rfl) (ea_cons (ed_is (ed_cb (ea_cons (ed_var rfl) ea_nil) rc_len) (len_map _ _)) (ea_cons (ed_cb (ea_cons (ed_var rfl) ea_nil) rc_tuple) ea_nil))) (sz (by simp))) rfl)
/-! ### stairs drawn -/
section
variable (near : List Int) (total : Int)
def rowStep (p : Int) (leads : List Nat) (thin : Int) (R : List Int × Sto) (e : Nat) : List Int × Sto :=
  if e ∈ leads then R
  else if thin ≤ (drawF near total R.2 4).1 then (R.1.set e (1 + (drawF near total (drawF near total R.2 4).2 (p - 1)).1), (drawF near total (drawF near total R.2 4).2 (p - 1)).2)
  else (R.1, (drawF near total R.2 4).2)
def rowF (p : Int) (n : Nat) (leads : List Nat) (thin : Int) (S : Sto) (l : Nat) : List Int × Sto := (rgN (l + 1) n).foldl (rowStep near total p leads thin) ((List.replicate n 0).set l 1, S)
def rowsStep (p : Int) (n : Nat) (leads : List Nat) (thin : Int) (A : List (List Int) × Sto) (l : Nat) : List (List Int) × Sto := (A.1 ++ [(rowF near total p n leads thin A.2 l).1], (rowF near total p n leads thin A.2 l).2)
def drawnF (p : Int) (n : Nat) (leads : List Nat) (thin : Int) (S : Sto) : List (List Int) × Sto := leads.foldl (rowsStep near total p n leads thin) ([], S)
end
theorem rowStep_ok {near : List Int} {total p : Int} {n : Nat} {leads : List Nat} {thin : Int} {R : List Int × Sto} {e : Nat} (hp : Pr p) (h : RowOk p n R.1) (hS : SOk near R.2) : RowOk p n (rowStep near total p leads thin R e).1 ∧ SOk near (rowStep near total p leads thin R e).2 := by
  have hb := hp.b
  unfold rowStep
  split
  · exact ⟨h, hS⟩
  split
  · have hd := draw_b (near := near) (total := total) (S := (drawF near total R.2 4).2) (m := p - 1) (by omega)
    exact ⟨set_ok h (by omega) (by omega), draw_ok (draw_ok hS)⟩
  · exact ⟨h, draw_ok hS⟩
theorem rowFold_ok {near : List Int} {total p : Int} {n : Nat} {leads : List Nat} {thin : Int} (hp : Pr p) : ∀ (es : List Nat) (R : List Int × Sto), RowOk p n R.1 → SOk near R.2 → RowOk p n (es.foldl (rowStep near total p leads thin) R).1 ∧ SOk near (es.foldl (rowStep near total p leads thin) R).2
  | [], R, h, hS => ⟨h, hS⟩
  | e :: es, R, h, hS => by
    obtain ⟨h1, h2⟩ := rowStep_ok (total := total) (leads := leads) (thin := thin) (e := e) hp h hS
    exact rowFold_ok hp es _ h1 h2
theorem rowF_ok {near : List Int} {total p : Int} {n : Nat} {leads : List Nat} {thin : Int} {S : Sto} {l : Nat} (hp : Pr p) (hS : SOk near S) : RowOk p n (rowF near total p n leads thin S l).1 ∧ SOk near (rowF near total p n leads thin S l).2 := by
  have hb := hp.b
  exact rowFold_ok hp _ _ (set_ok (rep_ok (by omega)) (by omega) (by omega)) hS
theorem drawnFold_ok {near : List Int} {total p : Int} {n : Nat} {leads : List Nat} {thin : Int} (hp : Pr p) : ∀ (ls : List Nat) (A : List (List Int) × Sto), RowsOk p n A.1 → SOk near A.2 → RowsOk p n (ls.foldl (rowsStep near total p n leads thin) A).1 ∧ SOk near (ls.foldl (rowsStep near total p n leads thin) A).2 ∧ (ls.foldl (rowsStep near total p n leads thin) A).1.length = A.1.length + ls.length
  | [], A, h, hS => ⟨h, hS, rfl⟩
  | l :: ls, A, h, hS => by
    obtain ⟨h1, h2⟩ := rowF_ok (total := total) (n := n) (leads := leads) (thin := thin) (l := l) hp hS
    obtain ⟨a, b, c⟩ := drawnFold_ok (total := total) (n := n) (leads := leads) (thin := thin) hp ls (rowsStep near total p n leads thin A l) (fun r hr => by
      rcases List.mem_append.mp hr with hr | hr
      · exact h r hr
      · rw [List.mem_singleton.mp hr]
        exact h1) h2
    refine ⟨a, b, ?_⟩
    rw [List.foldl_cons, c]
    simp [rowsStep]
    omega
theorem natIn (e : Nat) (ls : List Nat) : decide ((e : Int) ∈ ls.map fun (j : Nat) => (j : Int)) = decide (e ∈ ls) := by
  congr 1
  simp only [List.mem_map, eq_iff_iff]
  constructor
  · rintro ⟨a, h, e1⟩
    have e2 : a = e := by omega
    exact e2 ▸ h
  · exact fun h => ⟨e, h, rfl⟩
def eNs (ls : List Nat) : PyData := .list ((ls.map fun (j : Nat) => (j : Int)).map PyData.int)
theorem eNs_eq (ls : List Nat) : eNs ls = eN ls := by
  unfold eNs eN
  rw [List.map_map]
  rfl
def R__law_stairs : RelS := fun near total S ds d S' => ∃ (p : Int) (n : Nat) (leads : List Nat) (thin : Int), ds = [.int p, .int (n : Int), eN leads, .int thin] ∧ Pr p ∧ n ≤ 100 ∧ leads.length ≤ 100 ∧ (∀ l ∈ leads, l < n) ∧ SOk near S ∧ d = eF p n (drawnF near total p n leads thin S).1 ∧ S' = (drawnF near total p n leads thin S).2
theorem sc__law_stairs : FnScope ["_law_store_here", "_law_prime", "_law_ends_here", "_law_leads_here", "_law_thin", "_law_rows", "_law_lead_here", "_law_row", "_law_end"] ["_law_store_here", "_law_prime", "_law_ends_here", "_law_leads_here", "_law_thin"] (defScope (Bx.top 53)) := ⟨rfl, rfl, rfl, by decide +kernel, rfl, by decide +kernel, by decide +kernel⟩
theorem ok__law_stairs (T : Tx w K mg base) : C8.Cal P w K mg base 2 "_law_stairs" (spS K R__law_stairs) [] := by
  obtain ⟨fd, F⟩ := T.f__law_stairs
  have ok__law_draw := ok__law_draw (P := P) T
  refine cal_eff F T.g__law_stairs (F.bindsN (fun _ _ _ _ _ _ us hl => match us, hl with | [_, _, _, _, _], _ => rfl)) sc__law_stairs (by rintro _ _ _ _ _ _ ⟨p, n, leads, thin, rfl, hp, hn, hll, hln, hS, rfl, rfl⟩ <;> rfl) ?_
  rintro lo c _ _ c2 ⟨p, n, leads, thin, rfl, hp, hn, hll, hln, hS, rfl, rfl⟩ cdv A outer sh H E hr
  have nd := sc__law_stairs.nd
  refine ⟨_, (pss_cons (ps_set (i := 5) nd rfl (.inl rfl) (pe_lst pa_nil))
      (pss_cons (ps_for PassesOwn.never rfl (pi_list (pv 3)) (pg_name (i := 6) nd rfl (.inl rfl)) (pss_cons (ps_set (i := 7) nd rfl (.inl rfl) (pe_op op_rep (pe_lst (pa_cons pe_int pa_nil)) (pv 2)))
      (pss_cons (ps_asg pe_int (pg_sub (pv 7) (pv 6) set_list))
      (pss_cons (ps_for PassesOwn.never rfl (pi_range2 (by rfl) T.b_range (pa_cons (pe_op op_add (pv 6) pe_int) (pa_cons (pv 2) pa_nil))) (pg_name (i := 8) nd rfl (.inl rfl)) (pss_one (ps_if (PW.pt (pw_and (pt_cmpR (Mk.notIn K rfl) (pv 8) (pv 3) rfl) (pw_and1 (pt_cmpR op_ge (C8.pe_c ok__law_draw hr (by decide) (by rfl) (pa_cons (pv 0) (pa_cons pe_int pa_nil))) (pv 4) (nomark _))))) (pss_one (ps_asg (pe_op op_add pe_int (C8.pe_c ok__law_draw hr (by decide) (by rfl) (pa_cons (pv 0) (pa_cons (pe_op op_sub (pv 1) pe_int) pa_nil)))) (pg_sub (pv 7) (pv 8) set_list))) pss_nil)))
      (pss_one (ps_expr (pe_bm PySem.F.plainAttrs_list PySem.F.slot_list_append PySem.F.type_list_append mt_append (pv 5) (pa_cons (pe_callTy (Mk.tuple K rfl) (by rfl) T.b_tuple PyProof.Rows.boot_tuple (pa_cons (pv 7) pa_nil)) pa_nil))))))))
      (pss_one (ps_ret (pe_tup (pa_cons (pv 1) (pa_cons (pv 2) (pa_cons (pe_callTy (Mk.tuple K rfl) (by rfl) T.b_tuple PyProof.Rows.boot_tuple (pa_cons (pv 5) pa_nil)) pa_nil)))))))), ?_⟩
  have hb := hp.b
  rw [← eNs_eq]
  refine gs_seq (gs_asgO (en_lst ea_nil (sz (by simp))) ?_)
  refine gs_seq (gs_for (as := leads) (enc := fun (j : Nat) => .int (j : Int)) (ei_list (ed_is (ed_var rfl) (eNs_eq leads))) (fun i Γ S => ∃ s6 s7 s8, Γ = [.sto, .dat (.int p), .dat (.int (n : Int)), .dat (eNs leads), .dat (.int thin), .own (((leads.take i).foldl (rowsStep lo.near lo.total p n leads thin) ([], c)).1.map eT), s6, s7, s8] ∧ S = ((leads.take i).foldl (rowsStep lo.near lo.total p n leads thin) ([], c)).2) ⟨_, _, _, rfl, rfl⟩ ?_ ?_)
  · rintro i l Γ' S' ha ⟨s6, s7, s8, rfl, rfl⟩
    have hm := List.mem_of_getElem? ha
    have hlt := hln l hm
    have htake : leads.take (i + 1) = leads.take i ++ [l] := by
      rw [List.take_add_one, ha]
      rfl
    have hst : (leads.take (i + 1)).foldl (rowsStep lo.near lo.total p n leads thin) ([], c) = rowsStep lo.near lo.total p n leads thin ((leads.take i).foldl (rowsStep lo.near lo.total p n leads thin) ([], c)) l := by
      rw [htake, List.foldl_append]
      rfl
    obtain ⟨hA1, hA2, hA3⟩ := drawnFold_ok (total := lo.total) (n := n) (leads := leads) (thin := thin) hp (leads.take i) ([], c) (fun r hr => nomatch hr) hS
    have hA4 : ((leads.take i).foldl (rowsStep lo.near lo.total p n leads thin) ([], c)).1.length ≤ 100 := by
      rw [hA3, List.length_take]
      simp
      omega
    revert hst hA2 hA4
    generalize (leads.take i).foldl (rowsStep lo.near lo.total p n leads thin) ([], c) = A
    intro hst hA2 hA4
    refine ⟨_, _, gt_name, ?_⟩
    refine gs_seq (gs_asgO (en_is (en_rep (ea_cons ed_int ea_nil) (ed_var rfl) (by simp) (by omega)) (rep_ints n 0)) ?_)
    refine gs_seq (gs_set (xs := (List.replicate n 0).map PyData.int) (j := l) rfl ed_int (ed_var rfl) (ixN_lt (by simp; omega)) ?_)
    refine gs_seq (gs_for (as := rgN (l + 1) n) (enc := fun (j : Nat) => .int (j : Int)) (ei_is (ei_rng2 (ea_cons (ed_op (ed_var rfl) ed_int rd_I0) (ea_cons (ed_var rfl) ea_nil)) (by omega)) (by rw [rngD_eq, show ((l : Int) + 1) = ((l + 1 : Nat) : Int) by omega, rgN_eq])) (fun k Γ S => ∃ s8, Γ = [.sto, .dat (.int p), .dat (.int (n : Int)), .dat (eNs leads), .dat (.int thin), .own (A.1.map eT), .dat (.int (l : Int)), .own ((((rgN (l + 1) n).take k).foldl (rowStep lo.near lo.total p leads thin) ((List.replicate n 0).set l 1, A.2)).1.map .int), s8] ∧ S = (((rgN (l + 1) n).take k).foldl (rowStep lo.near lo.total p leads thin) ((List.replicate n 0).set l 1, A.2)).2) ⟨_, by rw [List.take_zero, List.foldl_nil, List.map_set]; rfl, rfl⟩ ?_ ?_)
    · rintro k e Γ' S' he ⟨s8, rfl, rfl⟩
      have hme := rgN_mem (List.mem_of_getElem? he)
      have htk : (rgN (l + 1) n).take (k + 1) = (rgN (l + 1) n).take k ++ [e] := by
        rw [List.take_add_one, he]
        rfl
      have hst2 : ((rgN (l + 1) n).take (k + 1)).foldl (rowStep lo.near lo.total p leads thin) ((List.replicate n 0).set l 1, A.2) = rowStep lo.near lo.total p leads thin (((rgN (l + 1) n).take k).foldl (rowStep lo.near lo.total p leads thin) ((List.replicate n 0).set l 1, A.2)) e := by
        rw [htk, List.foldl_append]
        rfl
      obtain ⟨hR1, hR2⟩ := rowFold_ok (total := lo.total) (leads := leads) (thin := thin) hp ((rgN (l + 1) n).take k) ((List.replicate n 0).set l 1, A.2) (set_ok (rep_ok (n := n) (by omega)) (by omega) (by omega)) hA2
      revert hst2 hR1 hR2
      generalize ((rgN (l + 1) n).take k).foldl (rowStep lo.near lo.total p leads thin) ((List.replicate n 0).set l 1, A.2) = R
      intro hst2 hR1 hR2
      refine ⟨_, _, gt_name, ?_⟩
      by_cases hin : e ∈ leads
      · rw [rowStep, if_pos hin] at hst2
        refine gs_if (b := false) (S' := R.2) (et_is (et_and (a := false) (b := true) (et_is (et_test (ed_op (ed_var rfl) (ed_var rfl) (rd_inI (ns := leads.map fun (j : Nat) => (j : Int))))) (by rw [natIn, decide_eq_true hin]; rfl)) (fun z => nomatch z) (fun _ => rfl)) rfl) (fun z => nomatch z) (fun _ => gs_next ⟨_, by rw [hst2]; rfl, by rw [hst2]⟩)
      · rw [rowStep, if_neg hin] at hst2
        have hd := draw_b (near := lo.near) (total := lo.total) (S := R.2) (m := 4) (by omega)
        refine gs_if (b := decide (thin ≤ (drawF lo.near lo.total R.2 4).1)) (S' := (drawF lo.near lo.total R.2 4).2) (et_is (et_and (a := true) (b := decide (thin ≤ (drawF lo.near lo.total R.2 4).1)) (et_is (et_test (ed_op (ed_var rfl) (ed_var rfl) (rd_inI (ns := leads.map fun (j : Nat) => (j : Int))))) (by rw [natIn, decide_eq_false hin]; rfl)) (fun _ => et_test (ed_op (ed_callS rfl rfl (ea_cons ed_int ea_nil) ⟨4, rfl, by omega, by omega, hR2, rfl, rfl⟩) (ed_var rfl) rd_B0)) (fun z => nomatch z)) (Bool.true_and _)) (fun h => ?_) (fun h => gs_next ?_)
        · rw [if_pos (of_decide_eq_true h)] at hst2
          refine gs_set (xs := R.1.map PyData.int) (j := e) rfl (ed_op ed_int (ed_callS rfl rfl (ea_cons (ed_op (ed_var rfl) ed_int rd_I0) ea_nil) ⟨_, rfl, by omega, by omega, draw_ok hR2, rfl, rfl⟩) rd_I0) (ed_var rfl) (ixN_lt (by rw [List.length_map, hR1.1]; omega)) ?_
          exact ⟨_, by rw [hst2, List.map_set]; rfl, by rw [hst2]⟩
        · rw [if_neg (of_decide_eq_false h)] at hst2
          exact ⟨_, by rw [hst2]; rfl, by rw [hst2]⟩
    · rintro Γ' S' ⟨s8, rfl, rfl⟩
      rw [List.take_of_length_le (Nat.le_refl _)]
      refine gs_frz (i := 7) rfl (gs_app (i := 5) rfl (ed_cb (ea_cons (ed_var rfl) ea_nil) rc_tuple) (by rw [List.length_map]; omega) ?_)
      exact ⟨_, _, _, by rw [hst, rowsStep, List.map_append]; rfl, by rw [hst]; rfl⟩
  · rintro Γ' S' ⟨s6, s7, s8, rfl, rfl⟩
    rw [List.take_of_length_le (Nat.le_refl _)]
    exact gs_frz (i := 5) rfl (gs_ret (ed_tup (ea_cons (ed_var rfl) (ea_cons (ed_var rfl) (ea_cons (ed_cb (ea_cons (ed_var rfl) ea_nil) rc_tuple) ea_nil))) (sz (by simp))) ⟨rfl, rfl⟩)
end Pm


set_option Elab.async false
set_option linter.all false
set_option maxRecDepth 100000
set_option maxHeartbeats 4000000
set_option autoImplicit false
namespace Pm
open PySem PySem.Spec PyProof.Rows L2 Dl Bx
variable {P : Program} {w : World} {K : PySem.W.Frag} {mg : Str → Option Value} {base : Heap}
local macro_rules | `(tactic| trivial) => `(tactic| first | omega | exact Or.inr ⟨by omega, by omega⟩ | exact Or.inl ⟨by omega, by omega⟩ | exact ⟨by omega, by omega⟩)
section
variable (near : List Int) (total : Int)
/-! ### factors -/
def facStep (p : Int) (x : Nat) (goals : List Int) (A : List (List Int) × Sto) (s : Nat) : List (List Int) × Sto :=
  (A.1 ++ [((List.replicate (2 * x) 0).set s 1).set (x + (goals.getD s 0).toNat) (drawF near total A.2 p).1], (drawF near total A.2 p).2)
def facF (p : Int) (x : Nat) (S : Sto) : List (List Int) × Sto :=
  (List.range x).foldl (facStep near total p x (shufF near total S (rgI 0 x)).1) ([], (shufF near total S (rgI 0 x)).2)
end
theorem facFold_ok {near : List Int} {total p : Int} {x : Nat} {goals : List Int} (hp : Pr p) : ∀ (ls : List Nat) (A : List (List Int) × Sto), RowsOk p (2 * x) A.1 → SOk near A.2 → RowsOk p (2 * x) (ls.foldl (facStep near total p x goals) A).1 ∧ SOk near (ls.foldl (facStep near total p x goals) A).2 ∧ (ls.foldl (facStep near total p x goals) A).1.length = A.1.length + ls.length
  | [], A, h, hS => ⟨h, hS, rfl⟩
  | l :: ls, A, h, hS => by
    have hb := hp.b
    have hd := draw_b (near := near) (total := total) (S := A.2) (m := p) (by omega)
    obtain ⟨a, b, c⟩ := facFold_ok (total := total) (goals := goals) hp ls (facStep near total p x goals A l) (fun r hr => by
      rcases List.mem_append.mp hr with hr | hr
      · exact h r hr
      · rw [List.mem_singleton.mp hr]
        exact set_ok (set_ok (rep_ok (by omega)) (by omega) (by omega)) hd.1 hd.2) (draw_ok hS)
    refine ⟨a, b, ?_⟩
    rw [List.foldl_cons, c]
    simp [facStep]
    omega
def R__law_factors : RelS := fun near total S ds d S' => ∃ (p : Int) (x : Nat), ds = [.int p, .int (x : Int)] ∧ Pr p ∧ x ≤ 50 ∧ SOk near S ∧ d = eF p (2 * x) (facF near total p x S).1 ∧ S' = (facF near total p x S).2
theorem eL_rg (n : Nat) : PyData.list ((rgI 0 ((n : Nat) : Int).toNat).map PyData.int) = eL (rgI 0 n) := by
  rw [Int.toNat_natCast]
  rfl
theorem sc__law_factors : FnScope ["_law_store_here", "_law_prime", "_law_wide", "_law_goals", "_law_rows", "_law_start", "_law_row"] ["_law_store_here", "_law_prime", "_law_wide"] (defScope (Bx.top 54)) := ⟨rfl, rfl, rfl, by decide +kernel, rfl, by decide +kernel, by decide +kernel⟩
theorem ok__law_factors (T : Tx w K mg base) : C8.Cal P w K mg base 3 "_law_factors" (spS K R__law_factors) [] := by
  obtain ⟨fd, F⟩ := T.f__law_factors
  have ok__law_draw := ok__law_draw (P := P) T
  have ok__law_shuffled := ok__law_shuffled (P := P) T
  refine cal_eff F T.g__law_factors (F.bindsN (fun _ _ _ _ _ _ us hl => match us, hl with | [_, _, _], _ => rfl)) sc__law_factors (by rintro _ _ _ _ _ _ ⟨p, x, rfl, hp, hx, hS, rfl, rfl⟩ <;> rfl) ?_
  rintro lo c _ _ c2 ⟨p, x, rfl, hp, hx, hS, rfl, rfl⟩ cdv A outer sh H E hr
  have nd := sc__law_factors.nd
  refine ⟨_, (pss_cons (ps_par (i := 3) (j := 4) rfl nd rfl rfl (by decide) rfl rfl (pa_cons (C8.pe_c ok__law_shuffled hr (by decide) (by rfl) (pa_cons (pv 0) (pa_cons (pe_listRg rfl (by rfl) T.b_list (prg_1 (by rfl) T.b_range (pv 2))) pa_nil))) (pa_cons (pe_lst pa_nil) pa_nil)) (by rfl))
      (pss_cons (ps_for PassesOwn.never rfl (pi_range1 (by rfl) T.b_range (pa_cons (pv 2) pa_nil)) (pg_name (i := 5) nd rfl (.inl rfl)) (pss_cons (ps_set (i := 6) nd rfl (.inl rfl) (pe_op op_rep (pe_lst (pa_cons pe_int pa_nil)) (pe_op op_mul pe_int (pv 2))))
      (pss_cons (ps_asg pe_int (pg_sub (pv 6) (pv 5) set_list))
      (pss_cons (ps_asg (C8.pe_c ok__law_draw hr (by decide) (by rfl) (pa_cons (pv 0) (pa_cons (pv 1) pa_nil))) (pg_sub (pv 6) (pe_op op_add (pv 2) (pe_ix (Mk.ix K rfl) (pv 3) (pv 5) (fun _ _ => rfl))) set_list))
      (pss_one (ps_expr (pe_bm PySem.F.plainAttrs_list PySem.F.slot_list_append PySem.F.type_list_append mt_append (pv 4) (pa_cons (pe_callTy (Mk.tuple K rfl) (by rfl) T.b_tuple PyProof.Rows.boot_tuple (pa_cons (pv 6) pa_nil)) pa_nil))))))))
      (pss_one (ps_ret (pe_tup (pa_cons (pv 1) (pa_cons (pe_op op_mul pe_int (pv 2)) (pa_cons (pe_callTy (Mk.tuple K rfl) (by rfl) T.b_tuple PyProof.Rows.boot_tuple (pa_cons (pv 4) pa_nil)) pa_nil)))))))), ?_⟩
  have hb := hp.b
  obtain ⟨g1, g2, g3⟩ := shufF_spec (total := lo.total) (xs := rgI 0 x) hS
  rw [rgI_len] at g1
  have hgb : ∀ y ∈ (shufF lo.near lo.total c (rgI 0 x)).1, 0 ≤ y ∧ y < x := fun y hy => by
    have := rgI_mem (g2 y hy)
    omega
  refine gs_seq (gs_parDO (ed_callS rfl rfl (ea_cons (ed_is (ed_lrg1 (ed_var rfl) ⟨by omega, by omega⟩) (eL_rg x)) ea_nil) ⟨_, rfl, by rw [rgI_len]; omega, hS, rfl, rfl⟩) (en_lst ea_nil (sz (by simp))) ?_)
  unfold facF
  generalize shufF lo.near lo.total c (rgI 0 x) = G at g1 g3 hgb
  obtain ⟨goals, S0'⟩ := G
  simp only at g1 g3 hgb ⊢
  refine gs_seq (gs_for (as := List.range x) (enc := fun (j : Nat) => .int (j : Int)) (ei_is (ei_rng1 (ea_cons (ed_var rfl) ea_nil) ⟨by omega, by omega⟩) (rng0 x)) (fun i Γ S => ∃ s5 s6, Γ = [.sto, .dat (.int p), .dat (.int (x : Int)), .dat (eL goals), .own ((((List.range x).take i).foldl (facStep lo.near lo.total p x goals) ([], S0')).1.map eT), s5, s6] ∧ S = (((List.range x).take i).foldl (facStep lo.near lo.total p x goals) ([], S0')).2) ⟨_, _, rfl, rfl⟩ ?_ ?_)
  · rintro i l Γ' S' ha ⟨s5, s6, rfl, rfl⟩
    have htake : (List.range x).take (i + 1) = (List.range x).take i ++ [l] := by
      rw [List.take_add_one, ha]
      rfl
    obtain ⟨rfl, hi⟩ := range_get ha
    have hst : ((List.range x).take (i + 1)).foldl (facStep lo.near lo.total p x goals) ([], S0') = facStep lo.near lo.total p x goals (((List.range x).take i).foldl (facStep lo.near lo.total p x goals) ([], S0')) i := by
      rw [htake, List.foldl_append]
      rfl
    obtain ⟨hA1, hA2, hA3⟩ := facFold_ok (total := lo.total) (x := x) (goals := goals) hp ((List.range x).take i) ([], S0') (fun r hr => nomatch hr) g3
    have hA4 : (((List.range x).take i).foldl (facStep lo.near lo.total p x goals) ([], S0')).1.length ≤ 100 := by
      rw [hA3, List.length_take]
      simp
      omega
    revert hst hA2 hA4
    generalize ((List.range x).take i).foldl (facStep lo.near lo.total p x goals) ([], S0') = A
    intro hst hA2 hA4
    have hgi : i < goals.length := by omega
    have hg := hgb (goals.getD i 0) (by
      have e : goals.getD i 0 = goals[i] := by simp [List.getD, List.getElem?_eq_getElem hgi]
      rw [e]
      exact List.getElem_mem _)
    have hd := draw_b (near := lo.near) (total := lo.total) (S := A.2) (m := p) (by omega)
    refine ⟨_, _, gt_name, ?_⟩
    refine gs_seq (gs_asgO (en_is (en_rep (n := ((2 * x : Nat) : Int)) (ea_cons ed_int ea_nil) (ed_is (ed_op ed_int (ed_var rfl) (rd_I (by trivial))) (congrArg PyData.int (by omega))) (by simp) (by omega)) (rep_ints (2 * x) 0)) ?_)
    refine gs_seq (gs_set (xs := (List.replicate (2 * x) 0).map PyData.int) (j := i) rfl ed_int (ed_var rfl) (ixN_lt (by simp; omega)) ?_)
    refine gs_seq (gs_set (n := ((x + (goals.getD i 0).toNat : Nat) : Int)) (j := x + (goals.getD i 0).toNat) rfl (ed_callS rfl rfl (ea_cons (ed_var rfl) ea_nil) ⟨_, rfl, by omega, by omega, hA2, rfl, rfl⟩) (ed_is (ed_op (ed_var rfl) (ed_op (ed_var rfl) (ed_var rfl) (rd_ixI (ns := goals) (by omega) (by omega))) rd_I0) (congrArg PyData.int (by rw [Int.toNat_natCast]; omega))) (ixN_lt (by rw [List.length_set, List.length_map, List.length_replicate]; omega)) ?_)
    refine gs_frz (i := 6) rfl (gs_app (i := 4) (d := eT (((List.replicate (2 * x) 0).set i 1).set (x + (goals.getD i 0).toNat) (drawF lo.near lo.total A.2 p).1)) rfl (ed_is (ed_cb (ea_cons (ed_var rfl) ea_nil) rc_tuple) (by unfold eT; rw [List.map_set, List.map_set])) (by rw [List.length_map]; omega) ?_)
    exact ⟨_, _, by rw [hst, facStep, List.map_append]; rfl, by rw [hst]; rfl⟩
  · rintro Γ' S' ⟨s5, s6, rfl, rfl⟩
    rw [List.take_of_length_le (Nat.le_refl _)]
    exact gs_frz (i := 4) rfl (gs_ret (ed_tup (ea_cons (ed_var rfl) (ea_cons (ed_is (d' := .int ((2 * x : Nat) : Int)) (ed_op ed_int (ed_var rfl) (rd_I (by trivial))) (congrArg PyData.int (by omega))) (ea_cons (ed_cb (ea_cons (ed_var rfl) ea_nil) rc_tuple) ea_nil))) (sz (by simp))) ⟨rfl, rfl⟩)
/-! ### led -/
def pickF2 (near : List Int) (total : Int) : List Nat → Sto → List Nat × Sto
  | [], S => ([], S)
  | e :: es, S => ((if (drawF near total S 2).1 = 0 then [e] else []) ++ (pickF2 near total es (drawF near total S 2).2).1, (pickF2 near total es (drawF near total S 2).2).2)
theorem pick_cons (near : List Int) (total : Int) (e : Nat) (es : List Nat) (S : Sto) : pickF2 near total (e :: es) S = ((if (drawF near total S 2).1 = 0 then [e] else []) ++ (pickF2 near total es (drawF near total S 2).2).1, (pickF2 near total es (drawF near total S 2).2).2) := rfl
theorem pick2_ok {near : List Int} {total : Int} : ∀ (es : List Nat) (S : Sto), SOk near S → SOk near (pickF2 near total es S).2 ∧ (pickF2 near total es S).1.Sublist es
  | [], S, h => ⟨h, List.Sublist.slnil⟩
  | e :: es, S, h => by
    obtain ⟨h1, h2⟩ := pick2_ok es (drawF near total S 2).2 (draw_ok h)
    unfold pickF2
    refine ⟨h1, ?_⟩
    dsimp only
    split
    · exact h2.cons₂ e
    · exact h2.cons e
theorem runL_pick {near : List Int} {total : Int} : ∀ (as : List Nat) (S : Sto), runL (fun (e : Nat) s => (if (drawF near total s 2).1 = 0 then some (PyData.int (e : Int)) else none, (drawF near total s 2).2)) as S = ((pickF2 near total as S).1.map fun (j : Nat) => PyData.int (j : Int), (pickF2 near total as S).2)
  | [], S => rfl
  | a :: as, S => by
    rw [runL_cons, runL_pick as, pick_cons]
    dsimp only
    split <;> simp
def ledL (b : Str) (x : Nat) (ls : List Nat) : List Nat :=
  let l1 := if b = sHere ∨ b = sHere ++ (" undrop" : Str) then List.range x ++ ls.filter (fun e => decide (x ≤ e)) else ls
  if b = sHere ∨ b = sHere ++ (" unnought" : Str) then l1.filter fun e => decide (e < x) else l1
section
variable (near : List Int) (total : Int)
def ledF (b : Str) (p : Int) (x y : Nat) (S : Sto) : List (List Int) × Sto :=
  let L := pickF2 near total (List.range (x + y)) S
  let D := drawF near total L.2 4
  drawnF near total p (x + y) (ledL b x L.1) D.1 D.2
end
theorem range_sub {n : Nat} {ls : List Nat} (h : ls.Sublist (List.range n)) : (∀ e ∈ ls, e < n) ∧ ls.Pairwise (· < ·) ∧ ls.length ≤ n := by
  refine ⟨fun e he => List.mem_range.mp (h.subset he), List.Pairwise.sublist h List.pairwise_lt_range, ?_⟩
  have := h.length_le
  rwa [List.length_range] at this
theorem led1 {n x : Nat} {ls : List Nat} (hx : x ≤ n) (h : (∀ e ∈ ls, e < n) ∧ ls.Pairwise (· < ·)) : (∀ e ∈ List.range x ++ ls.filter (fun e => decide (x ≤ e)), e < n) ∧ (List.range x ++ ls.filter (fun e => decide (x ≤ e))).Pairwise (· < ·) := by
  refine ⟨fun e he => ?_, ?_⟩
  · rcases List.mem_append.mp he with he | he
    · have := List.mem_range.mp he
      omega
    · exact h.1 e (List.mem_filter.mp he).1
  · refine List.pairwise_append.mpr ⟨List.pairwise_lt_range, h.2.filter _, fun a ha b hb => ?_⟩
    have h1 := List.mem_range.mp ha
    have h2 := of_decide_eq_true (List.mem_filter.mp hb).2
    omega
theorem ledL_ok {b : Str} {n x : Nat} {ls : List Nat} (hx : x ≤ n) (h : (∀ e ∈ ls, e < n) ∧ ls.Pairwise (· < ·)) : (∀ e ∈ ledL b x ls, e < n) ∧ (ledL b x ls).Pairwise (· < ·) := by
  unfold ledL
  dsimp only
  have h1 : (∀ e ∈ (if b = sHere ∨ b = sHere ++ (" undrop" : Str) then List.range x ++ ls.filter (fun e => decide (x ≤ e)) else ls), e < n) ∧ (if b = sHere ∨ b = sHere ++ (" undrop" : Str) then List.range x ++ ls.filter (fun e => decide (x ≤ e)) else ls).Pairwise (· < ·) := by
    split
    · exact led1 hx h
    · exact h
  split
  · exact ⟨fun e he => h1.1 e (List.mem_filter.mp he).1, h1.2.filter _⟩
  · exact h1
theorem inc_len0 : ∀ (ls : List Nat) (lo n : Nat), (∀ e ∈ ls, lo ≤ e ∧ e < n) → ls.Pairwise (· < ·) → ls.length ≤ n - lo
  | [], lo, n, _, _ => Nat.zero_le _
  | a :: l, lo, n, h1, h2 => by
    obtain ⟨h3, h4⟩ := List.pairwise_cons.mp h2
    have ha := h1 a List.mem_cons_self
    have ih := inc_len0 l (a + 1) n (fun e he => ⟨h3 e he, (h1 e (List.mem_cons_of_mem _ he)).2⟩) h4
    rw [List.length_cons]
    omega
theorem inc_len {ls : List Nat} {n : Nat} (h1 : ∀ e ∈ ls, e < n) (h2 : ls.Pairwise (· < ·)) : ls.length ≤ n := inc_len0 ls 0 n (fun e he => ⟨Nat.zero_le _, h1 e he⟩) h2
theorem ledF_ok {near : List Int} {total : Int} {b : Str} {p : Int} {x y : Nat} {S : Sto} (hp : Pr p) (hS : SOk near S) : RowsOk p (x + y) (ledF near total b p x y S).1 ∧ SOk near (ledF near total b p x y S).2 := by
  unfold ledF
  dsimp only
  obtain ⟨h1, h2⟩ := pick2_ok (total := total) (List.range (x + y)) S hS
  obtain ⟨a, b, _⟩ := drawnFold_ok (total := total) (n := x + y) (leads := ledL b x (pickF2 near total (List.range (x + y)) S).1) (thin := (drawF near total (pickF2 near total (List.range (x + y)) S).2 4).1) hp (ledL b x (pickF2 near total (List.range (x + y)) S).1) ([], (drawF near total (pickF2 near total (List.range (x + y)) S).2 4).2) (fun r hr => nomatch hr) (draw_ok h1)
  exact ⟨a, b⟩
def R__law_led : RelS := fun near total S ds d S' => ∃ (b : Str) (p : Int) (x y : Nat), ds = [.str b, .int p, .int (x : Int), .int (y : Int)] ∧ Pr p ∧ x + y ≤ 50 ∧ SOk near S ∧ d = eF p (x + y) (ledF near total b p x y S).1 ∧ S' = (ledF near total b p x y S).2
theorem eN_list (l : List Nat) : PyData.list (l.map fun (j : Nat) => PyData.int (j : Int)) = eN l := rfl
theorem sc__law_led : FnScope ["_law_store_here", "_law_base", "_law_prime", "_law_wide", "_law_tall", "_law_leads_here", "_law_end"] ["_law_store_here", "_law_base", "_law_prime", "_law_wide", "_law_tall"] (defScope (Bx.top 55)) := ⟨rfl, rfl, rfl, by decide +kernel, rfl, by decide +kernel, by decide +kernel⟩
theorem ok__law_led (T : Tx w K mg base) : C8.Cal P w K mg base 3 "_law_led" (spS K R__law_led) [] := by
  obtain ⟨fd, F⟩ := T.f__law_led
  have ok__law_draw := ok__law_draw (P := P) T
  have ok__law_stairs := ok__law_stairs (P := P) T
  refine cal_eff F T.g__law_led (F.bindsN (fun _ _ _ _ _ _ us hl => match us, hl with | [_, _, _, _, _], _ => rfl)) sc__law_led (by rintro _ _ _ _ _ _ ⟨b, p, x, y, rfl, hp, hxy, hS, rfl, rfl⟩ <;> rfl) ?_
  rintro lo c _ _ c2 ⟨b, p, x, y, rfl, hp, hxy, hS, rfl, rfl⟩ cdv A outer sh H E hr
  have nd := sc__law_led.nd
  refine ⟨_, (pss_cons (ps_setLc (i := 5) (own := [("_law_end", 6)]) (g := (gName 6)) rfl nd rfl rfl (sw_true rfl rfl rfl (by decide +kernel)) (pi_range1 (by rfl) T.b_range (pa_cons (pe_op op_add (pv 3) (pv 4)) pa_nil)) (blkOk_by (by rfl)) (fun _ _ _ _ _ => (pg_name (i := 6) nd rfl (.inl rfl))) (fun _ _ _ _ _ => (pts_one (pt_cmpR op_eq (C8.pe_c ok__law_draw hr (by decide) (by rfl) (pa_cons (pv 0) (pa_cons pe_int pa_nil))) pe_int (nomark _)))) (fun _ _ _ _ _ => (pv 6)))
      (pss_cons (ps_if (pt_cmpR (Mk.in_ K rfl) (pv 1) (pe_tup (pa_cons pe_str (pa_cons pe_str pa_nil))) rfl) (pss_one (ps_set (i := 5) nd rfl (.inl rfl) (pe_op (Mk.catS K rfl) (pe_listRg rfl (by rfl) T.b_list (prg_1 (by rfl) T.b_range (pv 3))) (pe_lc (own := [("_law_end", 6)]) (g := (gName 6)) rfl nd (pi_list (pv 5)) (blkOk_by (by rfl)) (fun _ _ _ _ _ => (pg_name (i := 6) nd rfl (.inl rfl))) (fun _ _ _ _ _ => (pts_one (pt_cmpR op_ge (pv 6) (pv 3) (nomark _)))) (fun _ _ _ _ _ => (pv 6)))))) pss_nil)
      (pss_cons (ps_if (pt_cmpR (Mk.in_ K rfl) (pv 1) (pe_tup (pa_cons pe_str (pa_cons pe_str pa_nil))) rfl) (pss_one (ps_setLc (i := 5) (own := [("_law_end", 6)]) (g := (gName 6)) rfl nd rfl rfl (sw_true rfl rfl rfl (by decide +kernel)) (pi_list (pv 5)) (blkOk_by (by rfl)) (fun _ _ _ _ _ => (pg_name (i := 6) nd rfl (.inl rfl))) (fun _ _ _ _ _ => (pts_one (pt_cmpR op_lt (pv 6) (pv 3) (nomark _)))) (fun _ _ _ _ _ => (pv 6)))) pss_nil)
      (pss_one (ps_ret (C8.pe_c ok__law_stairs hr (by decide) (by rfl) (pa_cons (pv 0) (pa_cons (pv 2) (pa_cons (pe_op op_add (pv 3) (pv 4)) (pa_cons (pv 5) (pa_cons (C8.pe_c ok__law_draw hr (by decide) (by rfl) (pa_cons (pv 0) (pa_cons pe_int pa_nil))) pa_nil))))))))))), ?_⟩
  have hb := hp.b
  obtain ⟨h1, h2⟩ := pick2_ok (total := lo.total) (List.range (x + y)) c hS
  obtain ⟨r1, r2, r3⟩ := range_sub h2
  have hx : x ≤ x + y := by omega
  have hL := ledL_ok (b := b) hx ⟨r1, r2⟩
  unfold ledF
  dsimp only
  have hlc := ed_lcI (C := ⟨K, some lo⟩) (Γ := [.sto, .dat (.str b), .dat (.int p), .dat (.int (x : Int)), .dat (.int (y : Int)), .un, .un]) (wi := iRng1 (tCons (tOp (rI0 fun i j => V.int (i + j)) (tVar 3) (tVar 4)) tNil)) (g := gName 6) (tt := tTest (tOp rEq (tCall (spS K R__law_draw) [] C8.E0 (tCons (tVar 0) (tCons (tC (.int 2)) tNil))) (tC (.int 0)))) (te := tVar 6) (vs := [6]) (as := List.range (x + y)) (enc := fun (j : Nat) => .int (j : Int)) (SOk lo.near) (fun (e : Nat) s => (if (drawF lo.near lo.total s 2).1 = 0 then some (PyData.int (e : Int)) else none, (drawF lo.near lo.total s 2).2)) (S := c) (S1 := c) (ei_is (ei_rng1 (n := ((x + y : Nat) : Int)) (ea_cons (ed_is (ed_op (ed_var rfl) (ed_var rfl) rd_I0) (congrArg PyData.int (by omega))) ea_nil) ⟨by omega, by omega⟩) (rng0 (x + y))) hS (by rw [List.length_range]; omega) fun e s he hs => ⟨draw_ok hs, _, _, gt_name, by simp, decide ((drawF lo.near lo.total s 2).1 = 0), (drawF lo.near lo.total s 2).2, et_test (ed_op (ed_callS rfl rfl (ea_cons ed_int ea_nil) ⟨2, rfl, by omega, by omega, hs, rfl, rfl⟩) ed_int rd_eqI), fun h => ⟨_, _, ed_var rfl, by rw [if_pos (of_decide_eq_true h)]⟩, fun h => by rw [if_neg (of_decide_eq_false h)]⟩
  rw [runL_pick] at hlc
  refine gs_seq (gs_asg hlc ?_)
  generalize pickF2 lo.near lo.total (List.range (x + y)) c = L at h1 r1 r2 r3 hL
  have hu : ledL b x L.1 = if b = sHere ∨ b = sHere ++ (" unnought" : Str) then (if b = sHere ∨ b = sHere ++ (" undrop" : Str) then List.range x ++ L.1.filter (fun e => decide (x ≤ e)) else L.1).filter (fun e => decide (e < x)) else (if b = sHere ∨ b = sHere ++ (" undrop" : Str) then List.range x ++ L.1.filter (fun e => decide (x ≤ e)) else L.1) := rfl
  have hl1 : (if b = sHere ∨ b = sHere ++ (" undrop" : Str) then List.range x ++ L.1.filter (fun e => decide (x ≤ e)) else L.1).length ≤ 100 := by
    have hf := List.length_filter_le (fun e => decide (x ≤ e)) L.1
    split
    · rw [List.length_append, List.length_range]
      omega
    · omega
  have hs1 : (sHere ++ (" undrop" : Str)) = ("copy drop add nought undrop" : Str) := by decide +kernel
  have hs2 : (sHere ++ (" unnought" : Str)) = ("copy drop add nought unnought" : Str) := by decide +kernel
  rw [hs1, hs2] at hu
  rw [hs1] at hl1
  refine gs_seq ((gs_if (E := { nx := fun Γ S => ∃ l1, l1 = (if b = sHere ∨ b = ("copy drop add nought undrop" : Str) then List.range x ++ L.1.filter (fun e => decide (x ≤ e)) else L.1) ∧ Γ = [.sto, .dat (.str b), .dat (.int p), .dat (.int (x : Int)), .dat (.int (y : Int)), .dat (eN l1), .un] ∧ S = L.2, rt := fun _ _ => False }) (et_is (et_test (ed_op (ed_var rfl) (ed_tup (ea_cons ed_str (ea_cons ed_str ea_nil)) (sz (by simp))) (rd_inST (ns := ["copy drop add nought", "copy drop add nought undrop"])))) inS2) (fun h => ?_) (fun h => gs_next ?_)).mono ?_ (fun _ _ h => h.elim) (fun _ _ h => h.elim) (fun _ _ h => h.elim))
  · refine gs_asg (ed_op (ed_lrg1 (ed_var rfl) ⟨by omega, by omega⟩) (ed_lc (as := L.1) (enc := fun (j : Nat) => .int (j : Int)) (fun e => decide (x ≤ e)) (fun (e : Nat) => .int (e : Int)) (ei_list (ed_var rfl)) (by omega) fun e he => ⟨_, _, gt_name, by simp, fun s => ⟨et_is (et_test (ed_op (ed_var rfl) (ed_var rfl) rd_B0)) (by congr 1; simp), fun _ => ed_var rfl⟩⟩) (rd_catL ?_)) ⟨_, (if_pos (of_decide_eq_true h)).symm, ?_, rfl⟩
    · have hf := List.length_filter_le (fun e => decide (x ≤ e)) L.1
      rw [List.length_map, List.length_map, rgI_len]
      omega
    · rw [Int.toNat_natCast, rgI_nat0, ← List.map_append]
      rfl
  · exact ⟨_, (if_neg (of_decide_eq_false h)).symm, rfl, rfl⟩
  rintro Γ S ⟨l1, el, rfl, rfl⟩
  rw [← el] at hu hl1
  refine gs_seq ((gs_if (E := { nx := fun Γ S => ∃ l2, l2 = ledL b x L.1 ∧ Γ = [.sto, .dat (.str b), .dat (.int p), .dat (.int (x : Int)), .dat (.int (y : Int)), .dat (eN l2), .un] ∧ S = L.2, rt := fun _ _ => False }) (et_is (et_test (ed_op (ed_var rfl) (ed_tup (ea_cons ed_str (ea_cons ed_str ea_nil)) (sz (by simp))) (rd_inST (ns := ["copy drop add nought", "copy drop add nought unnought"])))) inS2) (fun h => ?_) (fun h => gs_next ?_)).mono ?_ (fun _ _ h => h.elim) (fun _ _ h => h.elim) (fun _ _ h => h.elim))
  · refine gs_asg (ed_lc (as := l1) (enc := fun (j : Nat) => .int (j : Int)) (fun e => decide (e < x)) (fun (e : Nat) => .int (e : Int)) (ei_list (ed_var rfl)) (by omega) fun e he => ⟨_, _, gt_name, by simp, fun s => ⟨et_is (et_test (ed_op (ed_var rfl) (ed_var rfl) rd_B0)) (by congr 1; simp), fun _ => ed_var rfl⟩⟩) ⟨_, ?_, rfl, rfl⟩
    rw [hu]
    exact (if_pos (of_decide_eq_true h)).symm
  · refine ⟨_, ?_, rfl, rfl⟩
    rw [hu]
    exact (if_neg (of_decide_eq_false h)).symm
  rintro Γ S ⟨l2, el2, rfl, rfl⟩
  rw [← el2] at hL ⊢
  have hll := inc_len hL.1 hL.2
  refine gs_ret (ed_callS rfl rfl (ea_cons (ed_var rfl) (ea_cons (ed_is (d' := .int ((x + y : Nat) : Int)) (ed_op (ed_var rfl) (ed_var rfl) rd_I0) (congrArg PyData.int (by omega))) (ea_cons (ed_var rfl) (ea_cons (ed_callS rfl rfl (ea_cons ed_int ea_nil) ⟨4, rfl, by omega, by omega, h1, rfl, rfl⟩) ea_nil)))) ⟨p, x + y, l2, _, rfl, hp, by omega, by omega, hL.1, draw_ok h1, rfl, rfl⟩) ⟨rfl, rfl⟩
end Pm


set_option Elab.async false
set_option linter.all false
set_option maxRecDepth 100000
set_option maxHeartbeats 4000000
set_option autoImplicit false
/-! reduced flats; the flats that the law lays by hand are reduced -/
namespace Pm
open PySem PySem.Spec PyProof.Rows L2 Dl Bx
structure Red (p : Int) (n : Nat) (rows : List (List Int)) : Prop where
  fok : Fok p n rows
  inc : (rows.map ldF).Pairwise (· < ·)
  one : ∀ r ∈ rows, r.getD (ldF r) 0 = 1
  zero : ∀ r ∈ rows, ∀ s ∈ rows, ldF r ≠ ldF s → r.getD (ldF s) 0 = 0
theorem getD_lt {r : List Int} {j : Nat} (h : r.getD j 0 ≠ 0) : j < r.length := by
  by_cases hj : j < r.length
  · exact hj
  · exfalso
    apply h
    simp [List.getD, List.getElem?_eq_none (show r.length ≤ j by omega)]
theorem getD_at {r : List Int} {j : Nat} (h : j < r.length) : r.getD j 0 = r[j] := by simp [List.getD, List.getElem?_eq_getElem h]
theorem lead_is {r : List Int} {l : Nat} (h1 : r.getD l 0 ≠ 0) (h0 : ∀ j, j < l → r.getD j 0 = 0) : leadF r = some l := by
  have hl := getD_lt h1
  refine List.findIdx?_eq_some_iff_getElem.mpr ⟨hl, ?_, fun j hj => ?_⟩
  · rw [getD_at hl] at h1
    simpa using h1
  · have := h0 j hj
    rw [getD_at (by omega)] at this
    simpa using this
theorem lead_fact {r : List Int} {l : Nat} (h : leadF r = some l) : r.getD l 0 ≠ 0 ∧ ∀ j, j < l → r.getD j 0 = 0 := by
  obtain ⟨hl, h1, h2⟩ := List.findIdx?_eq_some_iff_getElem.mp h
  refine ⟨by rw [getD_at hl]; simpa using h1, fun j hj => ?_⟩
  rw [getD_at (by omega)]
  simpa using h2 j hj
theorem ldF_is {r : List Int} {l : Nat} (h1 : r.getD l 0 ≠ 0) (h0 : ∀ j, j < l → r.getD j 0 = 0) : ldF r = l := by
  unfold ldF
  rw [lead_is h1 h0]
  rfl
/-- rows that stand by their leads -/
theorem red_of {p : Int} {n : Nat} {rows : List (List Int)} {leads : List Nat} (hp : Pr p) (hn : n ≤ 100) (hr : RowsOk p n rows) (hl : ∀ l ∈ leads, l < n) (hi : leads.Pairwise (· < ·)) (hlen : rows.length = leads.length)
    (h : ∀ (i : Nat) (r : List Int) (l : Nat), rows[i]? = some r → leads[i]? = some l → r.getD l 0 = 1 ∧ (∀ j, j < l → r.getD j 0 = 0) ∧ ∀ j ∈ leads, j ≠ l → r.getD j 0 = 0) : Red p n rows := by
  have e : rows.map ldF = leads := by
    apply List.ext_getElem
    · rw [List.length_map, hlen]
    · intro i h1 h2
      rw [List.getElem_map]
      rw [List.length_map] at h1
      obtain ⟨a, b, c⟩ := h i _ _ (List.getElem?_eq_getElem h1) (List.getElem?_eq_getElem h2)
      exact ldF_is (by rw [a]; decide) b
  have hm : ∀ r ∈ rows, ldF r ∈ leads ∧ r.getD (ldF r) 0 = 1 ∧ (∀ j, j < ldF r → r.getD j 0 = 0) ∧ ∀ j ∈ leads, j ≠ ldF r → r.getD j 0 = 0 := fun r hr => by
    obtain ⟨i, hi⟩ := List.getElem?_of_mem hr
    have h2 : i < leads.length := by
      rw [← hlen]
      exact (List.getElem?_eq_some_iff.mp hi).1
    obtain ⟨a, b, c⟩ := h i _ _ hi (List.getElem?_eq_getElem h2)
    have e1 : ldF r = leads[i] := ldF_is (by rw [a]; decide) b
    rw [e1]
    exact ⟨List.getElem_mem _, a, b, c⟩
  refine ⟨⟨hp, hn, ?_, hr, fun r hr => ?_⟩, by rw [e]; exact hi, fun r hr => (hm r hr).2.1, fun r hr s hs hne => (hm r hr).2.2.2 _ (hm s hs).1 (fun z => hne z.symm)⟩
  · rw [hlen]
    exact inc_len hl hi
  · exact lead_some (j := ldF r) (by rw [(hm r hr).2.1]; decide)
theorem getD_set {r : List Int} {i j : Nat} {x : Int} : (r.set i x).getD j 0 = if i = j then (if i < r.length then x else 0) else r.getD j 0 := by
  unfold List.getD
  rw [List.getElem?_set]
  split
  · split <;> rfl
  · rfl
theorem getD_rep {n j : Nat} : (List.replicate n (0 : Int)).getD j 0 = 0 := by
  unfold List.getD
  rw [List.getElem?_replicate]
  split <;> rfl
/-! ### drawn stairs -/
def RowQ (leads : List Nat) (l : Nat) (r : List Int) : Prop := r.getD l 0 = 1 ∧ (∀ j, j < l → r.getD j 0 = 0) ∧ ∀ j ∈ leads, j ≠ l → r.getD j 0 = 0
theorem rowStep_q {near : List Int} {total p : Int} {leads : List Nat} {thin : Int} {R : List Int × Sto} {e l : Nat} (he : l < e) (h : RowQ leads l R.1) : RowQ leads l (rowStep near total p leads thin R e).1 := by
  unfold rowStep
  split
  · exact h
  split
  · rename_i hin _
    refine ⟨?_, fun j hj => ?_, fun j hj hne => ?_⟩
    · rw [getD_set, if_neg (by omega)]
      exact h.1
    · rw [getD_set, if_neg (by omega)]
      exact h.2.1 j hj
    · rw [getD_set, if_neg (fun z : e = j => hin (by rw [z]; exact hj))]
      exact h.2.2 j hj hne
  · exact h
theorem rowFold_q {near : List Int} {total p : Int} {leads : List Nat} {thin : Int} {l : Nat} : ∀ (es : List Nat) (R : List Int × Sto), (∀ e ∈ es, l < e) → RowQ leads l R.1 → RowQ leads l (es.foldl (rowStep near total p leads thin) R).1
  | [], R, _, h => h
  | e :: es, R, he, h => rowFold_q es _ (fun x hx => he x (List.mem_cons_of_mem _ hx)) (rowStep_q (he e List.mem_cons_self) h)
theorem rowF_q {near : List Int} {total p : Int} {n : Nat} {leads : List Nat} {thin : Int} {S : Sto} {l : Nat} (hl : l < n) : RowQ leads l (rowF near total p n leads thin S l).1 := by
  refine rowFold_q _ _ (fun e he => (rgN_mem he).1) ⟨?_, fun j hj => ?_, fun j _ hne => ?_⟩
  · rw [getD_set, if_pos rfl, if_pos (by rw [List.length_replicate]; exact hl)]
  · rw [getD_set, if_neg (by omega), getD_rep]
  · rw [getD_set, if_neg (fun z => hne z.symm), getD_rep]
theorem drawnFold_q {near : List Int} {total p : Int} {n : Nat} {leads : List Nat} {thin : Int} : ∀ (ls done : List Nat) (A : List (List Int) × Sto), (∀ l ∈ ls, l < n) → A.1.length = done.length → (∀ (i : Nat) (r : List Int) (l : Nat), A.1[i]? = some r → done[i]? = some l → RowQ leads l r) →
    ∀ (i : Nat) (r : List Int) (l : Nat), (ls.foldl (rowsStep near total p n leads thin) A).1[i]? = some r → (done ++ ls)[i]? = some l → RowQ leads l r
  | [], done, A, _, _, h => fun i r l h1 h2 => h i r l h1 (by rw [List.append_nil] at h2; exact h2)
  | k :: ls, done, A, hl, hlen, h => by
    have e : done ++ k :: ls = (done ++ [k]) ++ ls := by simp
    rw [e]
    refine drawnFold_q ls (done ++ [k]) (rowsStep near total p n leads thin A k) (fun l hm => hl l (List.mem_cons_of_mem _ hm)) (by simp [rowsStep, hlen]) fun i r l h1 h2 => ?_
    unfold rowsStep at h1
    dsimp only at h1
    by_cases hi : i < A.1.length
    · rw [List.getElem?_append_left hi] at h1
      rw [List.getElem?_append_left (by omega)] at h2
      exact h i r l h1 h2
    · rw [List.getElem?_append_right (by omega)] at h1
      rw [List.getElem?_append_right (by omega)] at h2
      have h0 : i - A.1.length = 0 := by
        have := (List.getElem?_eq_some_iff.mp h1).1
        simpa using this
      have h00 : i - done.length = 0 := by omega
      rw [h0] at h1
      rw [h00] at h2
      cases h1
      cases h2
      exact rowF_q (hl k List.mem_cons_self)
theorem drawn_red {near : List Int} {total p : Int} {n : Nat} {leads : List Nat} {thin : Int} {S : Sto} (hp : Pr p) (hn : n ≤ 100) (hl : ∀ l ∈ leads, l < n) (hi : leads.Pairwise (· < ·)) (hS : SOk near S) : Red p n (drawnF near total p n leads thin S).1 := by
  obtain ⟨a, b, c⟩ := drawnFold_ok (total := total) (n := n) (leads := leads) (thin := thin) hp leads ([], S) (fun r hr => nomatch hr) hS
  refine red_of (leads := leads) hp hn a hl hi (by unfold drawnF; rw [c]; simp) fun i r l h1 h2 => ?_
  exact drawnFold_q (leads := leads) leads [] ([], S) hl rfl (fun i r l h => by simp at h) i r l h1 (by simpa using h2)
/-! ### factors -/
theorem facFold_q {near : List Int} {total p : Int} {x : Nat} {goals : List Int} : ∀ (k : Nat) (A0 : Sto), k ≤ x → ∀ (i : Nat) (r : List Int), ((List.range k).foldl (facStep near total p x goals) ([], A0)).1[i]? = some r → RowQ (List.range x) i r ∧ i < k
  | 0, A0, _ => fun i r h => by simp at h
  | k + 1, A0, hk => fun i r h => by
    rw [List.range_succ, List.foldl_append] at h
    have ih := facFold_q (near := near) (total := total) (p := p) (x := x) (goals := goals) k A0 (by omega)
    have hlen : ((List.range k).foldl (facStep near total p x goals) ([], A0)).1.length = k := by
      have : ∀ (ls : List Nat) (A : List (List Int) × Sto), (ls.foldl (facStep near total p x goals) A).1.length = A.1.length + ls.length := by
        intro ls
        induction ls with
        | nil => intro A; rfl
        | cons l ls ih =>
          intro A
          rw [List.foldl_cons, ih]
          simp [facStep]
          omega
      rw [this]
      simp
    revert h ih hlen
    generalize (List.range k).foldl (facStep near total p x goals) ([], A0) = A
    intro h ih hlen
    have h' : (A.1 ++ [((List.replicate (2 * x) 0).set k 1).set (x + (goals.getD k 0).toNat) (drawF near total A.2 p).1])[i]? = some r := h
    by_cases hi : i < A.1.length
    · rw [List.getElem?_append_left hi] at h'
      obtain ⟨a, b⟩ := ih i r h'
      exact ⟨a, by omega⟩
    · rw [List.getElem?_append_right (by omega)] at h'
      have h0 : i - A.1.length = 0 := by
        have := (List.getElem?_eq_some_iff.mp h').1
        simpa using this
      rw [h0] at h'
      cases h'
      have ei : i = k := by omega
      subst ei
      refine ⟨⟨?_, fun j hj => ?_, fun j hj hne => ?_⟩, by omega⟩
      · rw [getD_set, if_neg (by omega), getD_set, if_pos rfl, if_pos (by rw [List.length_replicate]; omega)]
      · rw [getD_set, if_neg (by omega), getD_set, if_neg (by omega), getD_rep]
      · have := List.mem_range.mp hj
        rw [getD_set, if_neg (by omega), getD_set, if_neg (fun z => hne z.symm), getD_rep]
theorem fac_red {near : List Int} {total p : Int} {x : Nat} {S : Sto} (hp : Pr p) (hx : x ≤ 50) (hS : SOk near S) : Red p (2 * x) (facF near total p x S).1 ∧ SOk near (facF near total p x S).2 := by
  obtain ⟨g1, g2, g3⟩ := shufF_spec (total := total) (xs := rgI 0 x) hS
  unfold facF
  obtain ⟨a, b, c⟩ := facFold_ok (total := total) (x := x) (goals := (shufF near total S (rgI 0 x)).1) hp (List.range x) ([], (shufF near total S (rgI 0 x)).2) (fun r hr => nomatch hr) g3
  refine ⟨red_of (leads := List.range x) hp (by omega) a (fun l hl => by have := List.mem_range.mp hl; omega) List.pairwise_lt_range (by rw [c]; simp) fun i r l h1 h2 => ?_, b⟩
  have el : i = l := (range_get h2).1
  subst el
  exact (facFold_q x _ (Nat.le_refl _) i r h1).1
/-! ### lots -/
theorem indF_get {marks : List Int} {m : Int} {j : Nat} : (indF marks m).getD j 0 = if marks[j]? = some m then 1 else 0 := by
  unfold indF List.getD
  rw [List.getElem?_map]
  cases h : marks[j]? with
  | none => simp
  | some o => simp
theorem known_inv (marks : List Int) : ∀ i, i ≤ marks.length → (∀ m, m ∈ (marks.take i).foldl knowStep [] ↔ m ∈ marks.take i) ∧ (((marks.take i).foldl knowStep []).map fun m => marks.idxOf m).Pairwise (· < ·)
  | 0, _ => ⟨by simp, by simp⟩
  | i + 1, hi => by
    obtain ⟨h1, h2⟩ := known_inv marks i (by omega)
    have hlt : i < marks.length := by omega
    have ht : marks.take (i + 1) = marks.take i ++ [marks[i]] := by
      rw [List.take_add_one, List.getElem?_eq_getElem hlt]
      rfl
    have hat : marks[i]? = some marks[i] := List.getElem?_eq_getElem hlt
    rw [ht, List.foldl_append]
    revert ht hat
    generalize marks[i] = a
    intro ht hat
    show (∀ m, m ∈ knowStep ((marks.take i).foldl knowStep []) a ↔ _) ∧ ((knowStep ((marks.take i).foldl knowStep []) a).map fun m => marks.idxOf m).Pairwise (· < ·)
    revert h1 h2
    generalize (marks.take i).foldl knowStep [] = kn
    intro h1 h2
    unfold knowStep
    split
    · rename_i hin
      refine ⟨fun m => ?_, h2⟩
      rw [List.mem_append, List.mem_singleton]
      refine ⟨fun h => .inl ((h1 m).mp h), fun h => ?_⟩
      rcases h with h | rfl
      · exact (h1 m).mpr h
      · exact hin
    · rename_i hin
      refine ⟨fun m => ?_, ?_⟩
      · rw [List.mem_append, List.mem_append, List.mem_singleton, h1 m]
      · rw [List.map_append]
        refine List.pairwise_append.mpr ⟨h2, List.pairwise_singleton _ _, fun b hb c hc => ?_⟩
        obtain ⟨m, hm, rfl⟩ := List.mem_map.mp hb
        have hc' : c = marks.idxOf a := by simpa using hc
        subst hc'
        have hmt := (h1 m).mp hm
        have hn : ¬ a ∈ marks.take i := fun z => hin ((h1 _).mpr z)
        have e0 : marks = marks.take i ++ marks.drop i := (List.take_append_drop i marks).symm
        have e1 : marks.idxOf m < i := by
          have e2 : (marks.take i ++ marks.drop i).idxOf m = (marks.take i).idxOf m := by rw [List.idxOf_append, if_pos hmt]
          rw [← e0] at e2
          rw [e2]
          have := List.idxOf_lt_length_of_mem hmt
          rw [List.length_take] at this
          omega
        have e3 : i ≤ marks.idxOf a := by
          have e2 : (marks.take i ++ marks.drop i).idxOf a = (marks.drop i).idxOf a + i := by rw [List.idxOf_append, if_neg hn, List.length_take, Nat.min_eq_left (by omega)]
          rw [← e0] at e2
          omega
        omega
theorem idxOf_le {m : Int} : ∀ {l : List Int} {j : Nat}, l[j]? = some m → l.idxOf m ≤ j
  | [], j, h => by simp at h
  | a :: l, 0, h => by
    have e : a = m := by simpa using h
    subst e
    simp
  | a :: l, j + 1, h => by
    have ih := idxOf_le (l := l) (j := j) (by simpa using h)
    rw [List.idxOf_cons]
    cases hq : a == m
    · simp only [cond_false]
      omega
    · simp
theorem lots_red {p : Int} {marks : List Int} (hp : Pr p) (hl : marks.length ≤ 100) : Red p marks.length (lotsF marks) := by
  have hb := hp.b
  obtain ⟨h1, h2⟩ := known_inv marks marks.length (Nat.le_refl _)
  rw [List.take_length] at h1 h2
  have hk : (marks.foldl knowStep []) = knownF marks := rfl
  rw [hk] at h1 h2
  refine red_of (leads := (knownF marks).map fun m => marks.idxOf m) hp hl (fun r hr => ?_) (fun l hl => ?_) h2 (by simp [lotsF]) fun i r l hr hl => ?_
  · obtain ⟨m, _, rfl⟩ := List.mem_map.mp hr
    refine ⟨by simp [indF], fun x hx => ?_⟩
    obtain ⟨o, _, rfl⟩ := List.mem_map.mp hx
    split <;> omega
  · obtain ⟨m, hm, rfl⟩ := List.mem_map.mp hl
    exact List.idxOf_lt_length_of_mem ((h1 m).mp hm)
  · unfold lotsF at hr
    rw [List.getElem?_map] at hr hl
    cases hm : (knownF marks)[i]? with
    | none =>
      rw [hm] at hr
      cases hr
    | some m =>
      rw [hm] at hr hl
      cases hr
      cases hl
      have hmem := (h1 m).mp (List.mem_of_getElem? hm)
      have hat : ∀ m, m ∈ marks → marks[marks.idxOf m]? = some m := fun m h => by
        rw [List.getElem?_eq_getElem (List.idxOf_lt_length_of_mem h), List.getElem_idxOf]
      refine ⟨?_, fun j hj => ?_, fun j hj hne => ?_⟩
      · rw [indF_get, if_pos (hat m hmem)]
      · rw [indF_get, if_neg]
        intro z
        have hj2 := idxOf_le z
        have hj3 : j < marks.idxOf m := hj
        omega
      · obtain ⟨m', hm', rfl⟩ := List.mem_map.mp hj
        rw [indF_get, if_neg]
        intro z
        rw [hat m' ((h1 m').mp hm')] at z
        cases z
        exact hne rfl
end Pm


set_option Elab.async false
set_option linter.all false
set_option maxRecDepth 100000
set_option maxHeartbeats 4000000
set_option autoImplicit false
namespace Pm
open PySem PySem.Spec PyProof.Rows L2 Dl Bx
variable {P : Program} {w : World} {K : PySem.W.Frag} {mg : Str → Option Value} {base : Heap}
local macro_rules | `(tactic| trivial) => `(tactic| first | omega | exact Or.inr ⟨by omega, by omega⟩ | exact Or.inl ⟨by omega, by omega⟩ | exact ⟨by omega, by omega⟩)
/-! ### kept -/
def addIn (b : Str) : Bool := !(Builtin.Str.occurrences b "add" 0 b.length 1).isEmpty
section
variable (near : List Int) (total : Int)
def keptF (b : Str) (p : Int) (x y : Nat) (S : Sto) : (Nat × List (List Int)) × Sto :=
  if b = "times" then ((2 * x, (facF near total p x S).1), (facF near total p x S).2)
  else if (decide (b = "all") || addIn b) = true then ((x + y, (ledF near total b p x y S).1), (ledF near total b p x y S).2)
  else (((marksF near total S b x y).1.length, lotsF (marksF near total S b x y).1), (marksF near total S b x y).2)
end
theorem base_fact : ∀ b ∈ basesL, b = "times" ∨ (decide (b = "all") || addIn b) = true ∨ (b = "cross" ∨ b = "copy" ∨ b = "copy drop" ∨ b = "copy uncopy" ∨ b = "copy drop uncopy undrop") := by decide +kernel
theorem keptF_spec {near : List Int} {total : Int} {b : Str} {p : Int} {x y : Nat} {S : Sto} (hp : Pr p) (hb : b ∈ basesL) (hS : SOk near S) (hxy : x + y ≤ 20) (hM : MarkOk b x y) : Red p (keptF near total b p x y S).1.1 (keptF near total b p x y S).1.2 ∧ x ≤ (keptF near total b p x y S).1.1 ∧ SOk near (keptF near total b p x y S).2 := by
  unfold keptF
  split
  · obtain ⟨h1, h2⟩ := fac_red (near := near) (total := total) (x := x) hp (by omega) hS
    exact ⟨h1, by dsimp only; omega, h2⟩
  split
  · obtain ⟨h1, h2⟩ := pick2_ok (total := total) (List.range (x + y)) S hS
    obtain ⟨r1, r2, r3⟩ := range_sub h2
    have hL := ledL_ok (b := b) (show x ≤ x + y by omega) ⟨r1, r2⟩
    have hR : Red p (x + y) (ledF near total b p x y S).1 := drawn_red hp (by omega) hL.1 hL.2 (draw_ok h1)
    exact ⟨hR, by dsimp only; omega, (ledF_ok hp hS).2⟩
  · obtain ⟨h1, h2, h3⟩ := marksF_spec (total := total) hS (show (0 : Int) ≤ x by omega) (show (0 : Int) ≤ y by omega) (by omega) (by omega) hM
    exact ⟨lots_red hp h2, by dsimp only; omega, h3⟩
def R__law_kept : RelS := fun near total S ds d S' => ∃ (b : Str) (p : Int) (x y : Nat), ds = [.str b, .int p, .int (x : Int), .int (y : Int)] ∧ b ∈ basesL ∧ Pr p ∧ x + y ≤ 20 ∧ MarkOk b x y ∧ SOk near S ∧ d = eF p (keptF near total b p x y S).1.1 (keptF near total b p x y S).1.2 ∧ S' = (keptF near total b p x y S).2
theorem sc__law_kept : FnScope ["_law_store_here", "_law_base", "_law_prime", "_law_wide", "_law_tall"] ["_law_store_here", "_law_base", "_law_prime", "_law_wide", "_law_tall"] (defScope (Bx.top 56)) := ⟨rfl, rfl, rfl, by decide +kernel, rfl, by decide +kernel, by decide +kernel⟩
theorem ok__law_kept (T : Tx w K mg base) : C8.Cal P w K mg base 4 "_law_kept" (spS K R__law_kept) [] := by
  obtain ⟨fd, F⟩ := T.f__law_kept
  have ok__law_factors := ok__law_factors (P := P) T
  have ok__law_led := ok__law_led (P := P) T
  have ok__law_lots_plane := ok__law_lots_plane (P := P) T
  have ok__law_marks := ok__law_marks (P := P) T
  refine cal_eff F T.g__law_kept (F.bindsN (fun _ _ _ _ _ _ us hl => match us, hl with | [_, _, _, _, _], _ => rfl)) sc__law_kept (by rintro _ _ _ _ _ _ ⟨b, p, x, y, rfl, hB, hp, hxy, hM, hS, rfl, rfl⟩ <;> rfl) ?_
  rintro lo c _ _ c2 ⟨b, p, x, y, rfl, hB, hp, hxy, hM, hS, rfl, rfl⟩ cdv A outer sh H E hr
  have nd := sc__law_kept.nd
  refine ⟨_, (pss_cons (ps_if (pt_cmpR op_eq (pv 1) pe_str (nomark _)) (pss_one (ps_ret (C8.pe_c ok__law_factors hr (by decide) (by rfl) (pa_cons (pv 0) (pa_cons (pv 2) (pa_cons (pv 3) pa_nil)))))) pss_nil)
      (pss_cons (ps_if (PW.pt (pw_or (pt_cmpR op_eq (pv 1) pe_str (nomark _)) (pw_or1 (pt_cmpR op_in_str pe_str (pv 1) rfl)))) (pss_one (ps_ret (C8.pe_c ok__law_led hr (by decide) (by rfl) (pa_cons (pv 0) (pa_cons (pv 1) (pa_cons (pv 2) (pa_cons (pv 3) (pa_cons (pv 4) pa_nil)))))))) pss_nil)
      (pss_one (ps_ret (C8.pe_c ok__law_lots_plane hr (by decide) (by rfl) (pa_cons (pv 2) (pa_cons (C8.pe_c ok__law_marks hr (by decide) (by rfl) (pa_cons (pv 0) (pa_cons (pv 1) (pa_cons (pv 3) (pa_cons (pv 4) pa_nil))))) pa_nil))))))), ?_⟩
  unfold keptF
  refine gs_seq (gs_if (et_test (ed_op (ed_var rfl) ed_str rd_eqS)) (fun h => ?_) (fun h => gs_next ?_))
  · rw [if_pos (of_decide_eq_true h)]
    exact gs_ret (ed_callS rfl rfl (ea_cons (ed_var rfl) (ea_cons (ed_var rfl) ea_nil)) ⟨p, x, rfl, hp, by omega, hS, rfl, rfl⟩) ⟨rfl, rfl⟩
  have h1 := of_decide_eq_false h
  rw [if_neg h1]
  refine gs_seq (gs_if (et_or0 (et_test (ed_op (ed_var rfl) ed_str rd_eqS)) (fun _ => et_test (ed_op ed_str (ed_var rfl) rd_inStr))) (fun h => ?_) (fun h => gs_next ?_))
  · have h' : (decide (b = "all") || addIn b) = true := h
    rw [if_pos h']
    exact gs_ret (ed_callS rfl rfl (ea_cons (ed_var rfl) (ea_cons (ed_var rfl) (ea_cons (ed_var rfl) (ea_cons (ed_var rfl) ea_nil)))) ⟨b, p, x, y, rfl, hp, by omega, hS, rfl, rfl⟩) ⟨rfl, rfl⟩
  · have h2 : ¬ (decide (b = "all") || addIn b) = true := fun z => by
      have h' : (decide (b = "all") || addIn b) = false := h
      rw [h'] at z
      cases z
    rw [if_neg h2]
    have hmb : markB b := by
      rcases base_fact b hB with q | q | q
      · exact absurd q h1
      · exact absurd q h2
      · exact q
    obtain ⟨q1, q2, q3⟩ := marksF_spec (total := lo.total) hS (show (0 : Int) ≤ x by omega) (show (0 : Int) ≤ y by omega) (by omega) (by omega) hM
    exact gs_ret (ed_call (ea_cons (ed_var rfl) (ea_cons (ed_callS rfl rfl (ea_cons (ed_var rfl) (ea_cons (ed_var rfl) (ea_cons (ed_var rfl) ea_nil))) ⟨b, x, y, rfl, hmb, by omega, by omega, by omega, by omega, hM, hS, rfl, rfl⟩) ea_nil)) ⟨p, _, rfl, q2, rfl⟩) ⟨rfl, rfl⟩
/-! ### spoilt -/
section
variable (near : List Int) (total : Int)
def sp1 (p : Int) (n : Nat) (way : Int) (rows : List (List Int)) (S : Sto) : List (List Int) × Sto := if way = 0 then (rows ++ [(drawsF near total p n S).1], (drawsF near total p n S).2) else (rows, S)
def sp2 (p : Int) (way : Int) (at_ : Nat) (R : List (List Int) × Sto) : List (List Int) × Sto :=
  if (way = 1 ∨ way = 2 ∨ way = 3) ∧ R.1 ≠ [] then
    (let Q := drawF near total R.2 R.1.length
     let row := R.1.getD Q.1.toNat []
     let rest := R.1.eraseIdx Q.1.toNat
     if way = 2 then (rest ++ [(row.take at_ ++ [(row.getD at_ 0 + 1 + (drawF near total Q.2 (p - 1)).1) % p]) ++ row.drop (at_ + 1)], (drawF near total Q.2 (p - 1)).2)
     else if way = 3 then (rest ++ [rotF at_ row], Q.2)
     else (rest, Q.2))
  else R
def spoiltF (p : Int) (n : Nat) (rows : List (List Int)) (S : Sto) : List (List Int) × Sto :=
  let D := drawF near total S 5
  if n = 0 then (rows, D.2)
  else
    let A := drawF near total D.2 n
    let R2 := sp2 near total p D.1 A.1.toNat (sp1 near total p n D.1 rows A.2)
    (stairF p n (if D.1 = 4 then R2.1.map (rotF A.1.toNat) else R2.1), R2.2)
end
theorem draws_b {near : List Int} {total m : Int} (hm : 0 < m) : ∀ (k : Nat) (S : Sto), ∀ x ∈ (drawsF near total m k S).1, 0 ≤ x ∧ x < m
  | 0, S, x, h => nomatch h
  | k + 1, S, x, h => by
    unfold drawsF at h
    rcases List.mem_cons.mp h with rfl | h
    · exact draw_b hm
    · exact draws_b hm k _ x h
theorem sp1_ok {near : List Int} {total p : Int} {n : Nat} {way : Int} {rows : List (List Int)} {S : Sto} (hp : Pr p) (hr : RowsOk p n rows) (hS : SOk near S) : RowsOk p n (sp1 near total p n way rows S).1 ∧ SOk near (sp1 near total p n way rows S).2 ∧ (sp1 near total p n way rows S).1.length ≤ rows.length + 1 := by
  have hb := hp.b
  unfold sp1
  split
  · obtain ⟨h1, h2⟩ := draws_ok (near := near) (total := total) (m := p) n S hS
    refine ⟨fun r hr' => ?_, h1, by simp⟩
    rcases List.mem_append.mp hr' with h | h
    · exact hr r h
    · rw [List.mem_singleton.mp h]
      exact ⟨h2, draws_b (by omega) n S⟩
  · exact ⟨hr, hS, by dsimp only; omega⟩
theorem mid_ok {p : Int} {n k : Nat} {r : List Int} {x : Int} (h : RowOk p n r) (hk : k < n) (h1 : 0 ≤ x) (h2 : x < p) : RowOk p n ((r.take k ++ [x]) ++ r.drop (k + 1)) := by
  refine ⟨by simp [h.1]; omega, fun y hy => ?_⟩
  rcases List.mem_append.mp hy with hy | hy
  · rcases List.mem_append.mp hy with hy | hy
    · exact h.2 y (List.mem_of_mem_take hy)
    · rw [List.mem_singleton.mp hy]
      exact ⟨h1, h2⟩
  · exact h.2 y (List.mem_of_mem_drop hy)
theorem erase_ok {p : Int} {n k : Nat} {rows : List (List Int)} (h : RowsOk p n rows) : RowsOk p n (rows.eraseIdx k) := fun r hr => h r (List.mem_of_mem_eraseIdx hr)
theorem app_ok {p : Int} {n : Nat} {rows : List (List Int)} {r : List Int} (h : RowsOk p n rows) (h1 : RowOk p n r) : RowsOk p n (rows ++ [r]) := fun q hq => by
  rcases List.mem_append.mp hq with hq | hq
  · exact h q hq
  · rw [List.mem_singleton.mp hq]
    exact h1
theorem sp2_ok {near : List Int} {total p : Int} {n : Nat} {way : Int} {k : Nat} {R : List (List Int) × Sto} (hp : Pr p) (hk : k < n) (hr : RowsOk p n R.1) (hS : SOk near R.2) : RowsOk p n (sp2 near total p way k R).1 ∧ SOk near (sp2 near total p way k R).2 ∧ (sp2 near total p way k R).1.length ≤ R.1.length := by
  have hb := hp.b
  unfold sp2
  split
  · rename_i hc
    have hpos : 0 < R.1.length := List.length_pos_iff.mpr hc.2
    have hd := draw_b (near := near) (total := total) (S := R.2) (m := (R.1.length : Int)) (by omega)
    have hi : (drawF near total R.2 R.1.length).1.toNat < R.1.length := by omega
    have hrow : RowOk p n (R.1.getD (drawF near total R.2 R.1.length).1.toNat []) := by
      have e : R.1.getD (drawF near total R.2 R.1.length).1.toNat [] = R.1[(drawF near total R.2 R.1.length).1.toNat] := by simp [List.getD, List.getElem?_eq_getElem hi]
      rw [e]
      exact hr _ (List.getElem_mem _)
    have hle : (R.1.eraseIdx (drawF near total R.2 R.1.length).1.toNat).length = R.1.length - 1 := List.length_eraseIdx_of_lt hi
    dsimp only
    split
    · exact ⟨app_ok (erase_ok hr) (mid_ok hrow hk (Int.emod_nonneg _ (by omega)) (Int.emod_lt_of_pos _ (by omega))), draw_ok (draw_ok hS), by dsimp only; rw [List.length_append, hle, List.length_singleton]; omega⟩
    split
    · exact ⟨app_ok (erase_ok hr) (rot_ok hrow), draw_ok hS, by dsimp only; rw [List.length_append, hle, List.length_singleton]; omega⟩
    · exact ⟨erase_ok hr, draw_ok hS, by dsimp only; omega⟩
  · exact ⟨hr, hS, Nat.le_refl _⟩
theorem spoilt_S {near : List Int} {total p : Int} {n : Nat} {rows : List (List Int)} {S : Sto} (hF : Fok p n rows) (hS : SOk near S) : SOk near (spoiltF near total p n rows S).2 := by
  unfold spoiltF
  dsimp only
  split
  · exact draw_ok hS
  · rename_i hn0
    have hd := draw_b (near := near) (total := total) (S := (drawF near total S 5).2) (m := (n : Int)) (by omega)
    obtain ⟨h1, h2, h3⟩ := sp1_ok (total := total) (way := (drawF near total S 5).1) hF.hp hF.hr (draw_ok (m := (n : Int)) (total := total) (draw_ok (m := 5) (total := total) hS))
    exact (sp2_ok (total := total) (way := (drawF near total S 5).1) hF.hp (by omega) h1 h2).2.1
def R__law_spoilt : RelS := fun near total S ds d S' => ∃ (p : Int) (n : Nat) (rows : List (List Int)), ds = [eF p n rows] ∧ Fok p n rows ∧ n ≤ 50 ∧ SOk near S ∧ d = eF p n (spoiltF near total p n rows S).1 ∧ S' = (spoiltF near total p n rows S).2
theorem inI3 {k : Int} : (if false = true then !decide (k ∈ ([1, 2, 3] : List Int)) else decide (k ∈ ([1, 2, 3] : List Int))) = decide (k = 1 ∨ k = 2 ∨ k = 3) := by simp
theorem ed_rot {C : Cq} {Γ : List Sl} {S : Sto} {i j n : Nat} {p : Int} {r : List Int} {k : Nat} (h : RowOk p n r) (hn : n ≤ 100) (h1 : Γ[i]? = some (.dat (eT r))) (h2 : Γ[j]? = some (.dat (.int (k : Int)))) : EvD C (tOp (rCatA C.K) (tSl (rSlA C.K) (tVar i) (tPart (tVar j)) tNoPart) (tSl (rSlA C.K) (tVar i) tNoPart (tPart (tVar j)))) Γ S (eT (rotF k r)) S := by
  refine ed_is (ed_op (ed_slT (ed_var h1) (eo_some (ed_var h2)) eo_none) (ed_slT (ed_var h1) eo_none (eo_some (ed_var h2))) (rd_catT ?_)) ?_
  · have := h.1
    rw [cut_hi, cut_lo, List.length_drop, List.length_take, List.length_map]
    omega
  · rw [cut_hi, cut_lo, ← List.map_drop, ← List.map_take, ← List.map_append]
    rfl
theorem sc__law_spoilt : FnScope ["_law_store_here", "_law_plane_here", "_law_prime", "_law_ends_here", "_law_way", "_law_rows", "_law_at", "_law_row", "_law_end"] ["_law_store_here", "_law_plane_here"] (defScope (Bx.top 73)) := ⟨rfl, rfl, rfl, by decide +kernel, rfl, by decide +kernel, by decide +kernel⟩
theorem ok__law_spoilt (T : Tx w K mg base) : C8.Cal P w K mg base 3 "_law_spoilt" (spS K R__law_spoilt) [] := by
  obtain ⟨fd, F⟩ := T.f__law_spoilt
  have ok__law_draw := ok__law_draw (P := P) T
  have ok__law_plane := ok__law_plane (P := P) T
  refine cal_eff F T.g__law_spoilt (F.bindsN (fun _ _ _ _ _ _ us hl => match us, hl with | [_, _], _ => rfl)) sc__law_spoilt (by rintro _ _ _ _ _ _ ⟨p, n, rows, rfl, hF, hn, hS, rfl, rfl⟩ <;> rfl) ?_
  rintro lo c _ _ c2 ⟨p, n, rows, rfl, hF, hn, hS, rfl, rfl⟩ cdv A outer sh H E hr
  have nd := sc__law_spoilt.nd
  refine ⟨_, (pss_cons (ps_asg (pe_tup (pa_cons (pe_ix (Mk.ix K rfl) (pv 1) pe_int (fun _ _ => rfl)) (pa_cons (pe_ix (Mk.ix K rfl) (pv 1) pe_int (fun _ _ => rfl)) (pa_cons (C8.pe_c ok__law_draw hr (by decide) (by rfl) (pa_cons (pv 0) (pa_cons pe_int pa_nil))) pa_nil)))) (pg_tup rfl (pgs_cons (pg_name (i := 2) nd rfl (.inr rfl)) (pgs_cons (pg_name (i := 3) nd rfl (.inl rfl)) (pgs_cons (pg_name (i := 4) nd rfl (.inl rfl)) pgs_nil)))))
      (pss_cons (ps_set (i := 5) nd rfl (.inl rfl) (pe_callTy (Mk.list K rfl) (by rfl) T.b_list PyProof.Rows.boot_list (pa_cons (pe_ix (Mk.ix K rfl) (pv 1) pe_int (fun _ _ => rfl)) pa_nil)))
      (pss_cons (ps_if (pt_cmpR op_eq (pv 3) pe_int (nomark _)) (pss_one (ps_ret (pv 1))) pss_nil)
      (pss_cons (ps_set (i := 6) nd rfl (.inr rfl) (C8.pe_c ok__law_draw hr (by decide) (by rfl) (pa_cons (pv 0) (pa_cons (pv 3) pa_nil))))
      (pss_cons (ps_if (pt_cmpR op_eq (pv 4) pe_int (nomark _)) (pss_one (ps_expr (pe_bm PySem.F.plainAttrs_list PySem.F.slot_list_append PySem.F.type_list_append mt_append (pv 5) (pa_cons (pe_callTy (Mk.tuple K rfl) (by rfl) T.b_tuple PyProof.Rows.boot_tuple (pa_cons (pe_lc (own := [("_law_end", 8)]) (g := (gName 8)) (tt := tYes) rfl nd (pi_range1 (by rfl) T.b_range (pa_cons (pv 3) pa_nil)) (blkOk_by (by rfl)) (fun _ _ _ _ _ => (pg_name (i := 8) nd rfl (.inl rfl))) (fun _ _ _ _ _ => pts_nil) (fun _ _ _ _ _ => (C8.pe_c ok__law_draw hr (by decide) (by rfl) (pa_cons (pv 0) (pa_cons (pv 2) pa_nil))))) pa_nil)) pa_nil)))) pss_nil)
      (pss_cons (ps_if (PW.pt (pw_and (pt_cmpR (Mk.in_ K rfl) (pv 4) (pe_tup (pa_cons pe_int (pa_cons pe_int (pa_cons pe_int pa_nil)))) rfl) (pw_and1 (pt_cmpR (Mk.neD K rfl hr.units) (pv 5) (pe_lst pa_nil) (nomark _))))) (pss_cons (ps_set (i := 7) nd rfl (.inl rfl) (pe_bm PySem.F.plainAttrs_list PySem.F.slot_list_pop PySem.F.type_list_pop mt_popAt (pv 5) (pa_cons (C8.pe_c ok__law_draw hr (by decide) (by rfl) (pa_cons (pv 0) (pa_cons (pe_callB (Mk.len K rfl) (by rfl) T.b_len PySem.boot_len (pa_cons (pv 5) pa_nil)) pa_nil))) pa_nil)))
      (pss_cons (ps_if (pt_cmpR op_eq (pv 4) pe_int (nomark _)) (pss_one (ps_expr (pe_bm PySem.F.plainAttrs_list PySem.F.slot_list_append PySem.F.type_list_append mt_append (pv 5) (pa_cons (pe_op (Mk.catA K rfl) (pe_op (Mk.catA K rfl) (pe_slice (Mk.slT K rfl) (pv 7) po_none (po_some (pv 6))) (pe_tup (pa_cons (pe_op op_mod (pe_callTy call_int1 (by rfl) T.b_int (by decide +kernel) (pa_cons (pe_op op_add (pe_op op_add (pe_ix (Mk.ix K rfl) (pv 7) (pv 6) (fun _ _ => rfl)) pe_int) (C8.pe_c ok__law_draw hr (by decide) (by rfl) (pa_cons (pv 0) (pa_cons (pe_op op_sub (pv 2) pe_int) pa_nil)))) pa_nil)) (pv 2)) pa_nil))) (pe_slice (Mk.slT K rfl) (pv 7) (po_some (pe_op op_add (pv 6) pe_int)) po_none)) pa_nil)))) pss_nil)
      (pss_one (ps_if (pt_cmpR op_eq (pv 4) pe_int (nomark _)) (pss_one (ps_expr (pe_bm PySem.F.plainAttrs_list PySem.F.slot_list_append PySem.F.type_list_append mt_append (pv 5) (pa_cons (pe_op (Mk.catA K rfl) (pe_slice (Mk.slT K rfl) (pv 7) (po_some (pv 6)) po_none) (pe_slice (Mk.slT K rfl) (pv 7) po_none (po_some (pv 6)))) pa_nil)))) pss_nil)))) pss_nil)
      (pss_cons (ps_if (pt_cmpR op_eq (pv 4) pe_int (nomark _)) (pss_one (ps_setLc (i := 5) (own := [("_law_row", 7)]) (g := (gName 7)) (tt := tYes) rfl nd rfl rfl (sw_true rfl rfl rfl (by decide +kernel)) (pi_list (pv 5)) (blkOk_by (by rfl)) (fun _ _ _ _ _ => (pg_name (i := 7) nd rfl (.inl rfl))) (fun _ _ _ _ _ => pts_nil) (fun _ _ _ _ _ => (pe_op (Mk.catA K rfl) (pe_slice (Mk.slT K rfl) (pv 7) (po_some (pv 6)) po_none) (pe_slice (Mk.slT K rfl) (pv 7) po_none (po_some (pv 6))))))) pss_nil)
      (pss_one (ps_ret (C8.pe_c ok__law_plane hr (by decide) (by rfl) (pa_cons (pv 2) (pa_cons (pv 3) (pa_cons (pv 5) pa_nil))))))))))))), ?_⟩
  have hb := hF.hp.b
  have hl := hF.hl
  unfold spoiltF
  dsimp only
  have hd5 := draw_b (near := lo.near) (total := lo.total) (S := c) (m := 5) (by omega)
  have hS5 := draw_ok (total := lo.total) (m := 5) hS
  refine gs_seq (gs_asgT (d := .tuple [.int p, .int (n : Int), .int (drawF lo.near lo.total c 5).1]) (ed_tup (ea_cons (ed_f0 rfl) (ea_cons (ed_f1 rfl) (ea_cons (ed_callS rfl rfl (ea_cons ed_int ea_nil) ⟨5, rfl, by omega, by omega, hS, rfl, rfl⟩) ea_nil))) (sz (by simp))) (gt_tup (gts_cons gt_name (gts_cons gt_name (gts_cons gt_name gts_nil))) rfl) ?_)
  generalize drawF lo.near lo.total c 5 = D at hd5 hS5
  refine gs_seq (gs_asgO (en_listC (C := ⟨K, some lo⟩) rfl (c := false) (xs := rows.map eT) (ea_cons (ed_f2 rfl) ea_nil)) ?_)
  refine gs_seq (gs_if (et_test (ed_op (ed_var rfl) ed_int rd_eqI)) (fun h => ?_) (fun h => gs_next ?_))
  · have h' : n = 0 := by
      have := of_decide_eq_true h
      omega
    rw [if_pos h']
    exact gs_ret (ed_var rfl) ⟨rfl, rfl⟩
  have hn0 : ¬ n = 0 := by
    have := of_decide_eq_false h
    omega
  rw [if_neg hn0]
  have hda := draw_b (near := lo.near) (total := lo.total) (S := D.2) (m := (n : Int)) (by omega)
  have hSa := draw_ok (total := lo.total) (m := (n : Int)) hS5
  refine gs_seq (gs_asg (ed_callS rfl rfl (ea_cons (ed_var rfl) ea_nil) ⟨_, rfl, by omega, by omega, hS5, rfl, rfl⟩) ?_)
  generalize drawF lo.near lo.total D.2 n = A at hda hSa
  have hk : A.1.toNat < n := by omega
  have hA : A.1 = ((A.1.toNat : Nat) : Int) := by omega
  rw [hA]
  rw [show ((A.1.toNat : Nat) : Int).toNat = A.1.toNat by omega]
  generalize A.1.toNat = k at hk
  obtain ⟨p1, p2, p3⟩ := sp1_ok (total := lo.total) (way := D.1) hF.hp hF.hr hSa
  refine gs_seq ((gs_if (E := { nx := fun Γ S => ∃ s8, Γ = [.sto, .dat (eF p n rows), .dat (.int p), .dat (.int (n : Int)), .dat (.int D.1), .own ((sp1 lo.near lo.total p n D.1 rows A.2).1.map eT), .dat (.int (k : Int)), .un, s8] ∧ S = (sp1 lo.near lo.total p n D.1 rows A.2).2, rt := fun _ _ => False }) (et_test (ed_op (ed_var rfl) ed_int rd_eqI)) (fun h => ?_) (fun h => gs_next ?_)).mono ?_ (fun _ _ h => h.elim) (fun _ _ h => h.elim) (fun _ _ h => h.elim))
  · have h' := of_decide_eq_true h
    unfold sp1
    rw [if_pos h']
    have hdr := ed_draws (K := K) (lo := lo) (S := A.2) (S1 := A.2) (Γ := [.sto, .dat (eF p n rows), .dat (.int p), .dat (.int (n : Int)), .dat (.int D.1), .own (rows.map eT), .dat (.int (k : Int)), .un, .un]) (k := n) (m := p) (sl := 8) (jm := 2) (js := 0) (wi := iRng1 (tCons (tVar 3) tNil)) (ei_is (ei_rng1 (ea_cons (ed_var rfl) ea_nil) ⟨by omega, by omega⟩) (rng0 n)) (by omega) hSa (fun _ => ⟨by omega, by omega⟩) rfl rfl (by decide) (by decide)
    refine gs_app (i := 5) (d := eT (drawsF lo.near lo.total p n A.2).1) rfl (ed_cb (ea_cons hdr ea_nil) rc_tuple) (by rw [List.length_map]; omega) ?_
    exact ⟨_, by rw [List.map_append]; rfl, rfl⟩
  · have h' := of_decide_eq_false h
    unfold sp1
    rw [if_neg h']
    exact ⟨_, rfl, rfl⟩
  generalize sp1 lo.near lo.total p n D.1 rows A.2 = R at p1 p2 p3
  rintro Γ S ⟨s8, rfl, rfl⟩
  obtain ⟨q1, q2, q3⟩ := sp2_ok (total := lo.total) (way := D.1) hF.hp hk p1 p2
  refine gs_seq ((gs_if (b := decide ((D.1 = 1 ∨ D.1 = 2 ∨ D.1 = 3) ∧ R.1 ≠ [])) (E := { nx := fun Γ S => ∃ s7 s8, Γ = [.sto, .dat (eF p n rows), .dat (.int p), .dat (.int (n : Int)), .dat (.int D.1), .own ((sp2 lo.near lo.total p D.1 k R).1.map eT), .dat (.int (k : Int)), s7, s8] ∧ S = (sp2 lo.near lo.total p D.1 k R).2, rt := fun _ _ => False }) (et_is (et_and0 (et_is (et_test (ed_op (ed_var rfl) (ed_tup (ea_cons ed_int (ea_cons ed_int (ea_cons ed_int ea_nil))) (sz (by simp))) (rd_inIT (ns := [1, 2, 3])))) inI3) (fun _ => et_frz (i := 5) rfl (et_is (et_test (ed_op (ed_var rfl) (ed_lst ea_nil (sz (by simp))) (rd_neD (sh_LT _) sh_nil))) (by rw [eqv_nil])))) (by
      rw [Bool.decide_and]
      congr 1
      cases R.1 <;> simp)) (fun h => ?_) (fun h => gs_next ?_)).mono ?_ (fun _ _ h => h.elim) (fun _ _ h => h.elim) (fun _ _ h => h.elim))
  · have hc := of_decide_eq_true h
    have hpos : 0 < R.1.length := List.length_pos_iff.mpr hc.2
    have hd := draw_b (near := lo.near) (total := lo.total) (S := R.2) (m := (R.1.length : Int)) (by omega)
    have hi : (drawF lo.near lo.total R.2 R.1.length).1.toNat < R.1.length := by omega
    have hrow : RowOk p n (R.1.getD (drawF lo.near lo.total R.2 R.1.length).1.toNat []) := by
      have e : R.1.getD (drawF lo.near lo.total R.2 R.1.length).1.toNat [] = R.1[(drawF lo.near lo.total R.2 R.1.length).1.toNat] := by simp [List.getD, List.getElem?_eq_getElem hi]
      rw [e]
      exact p1 _ (List.getElem_mem _)
    have hle : (R.1.eraseIdx (drawF lo.near lo.total R.2 R.1.length).1.toNat).length = R.1.length - 1 := List.length_eraseIdx_of_lt hi
    have hSq := draw_ok (total := lo.total) (m := (R.1.length : Int)) p2
    have hu : sp2 lo.near lo.total p D.1 k R = (if D.1 = 2 then (R.1.eraseIdx (drawF lo.near lo.total R.2 R.1.length).1.toNat ++ [((R.1.getD (drawF lo.near lo.total R.2 R.1.length).1.toNat []).take k ++ [((R.1.getD (drawF lo.near lo.total R.2 R.1.length).1.toNat []).getD k 0 + 1 + (drawF lo.near lo.total (drawF lo.near lo.total R.2 R.1.length).2 (p - 1)).1) % p]) ++ (R.1.getD (drawF lo.near lo.total R.2 R.1.length).1.toNat []).drop (k + 1)], (drawF lo.near lo.total (drawF lo.near lo.total R.2 R.1.length).2 (p - 1)).2)
      else if D.1 = 3 then (R.1.eraseIdx (drawF lo.near lo.total R.2 R.1.length).1.toNat ++ [rotF k (R.1.getD (drawF lo.near lo.total R.2 R.1.length).1.toNat [])], (drawF lo.near lo.total R.2 R.1.length).2) else (R.1.eraseIdx (drawF lo.near lo.total R.2 R.1.length).1.toNat, (drawF lo.near lo.total R.2 R.1.length).2)) := by
      unfold sp2
      rw [if_pos hc]
    refine gs_seq (gs_asgPop (i := 5) (m := 7) (n := (drawF lo.near lo.total R.2 R.1.length).1) (j := (drawF lo.near lo.total R.2 R.1.length).1.toNat) (xs := R.1.map eT) (d := eT (R.1.getD (drawF lo.near lo.total R.2 R.1.length).1.toNat [])) (by decide) rfl (ed_callS rfl rfl (ea_cons (ed_frz (i := 5) rfl rfl (ed_is (ed_cb (ea_cons (ed_var rfl) ea_nil) rc_len) (len_map _ _))) ea_nil) ⟨_, rfl, by omega, by omega, p2, rfl, rfl⟩) (seqIx hd.1 (by rw [List.length_map]; exact hd.2)) ⟨by omega, by omega⟩ (map_get (by simp [List.getD, List.getElem?_eq_getElem hi])) ?_)
    rw [eraseIdx_mp]
    revert hu hrow hle hSq
    generalize R.1.getD (drawF lo.near lo.total R.2 R.1.length).1.toNat [] = row
    generalize R.1.eraseIdx (drawF lo.near lo.total R.2 R.1.length).1.toNat = rest
    generalize (drawF lo.near lo.total R.2 R.1.length).2 = Sq
    intro hrow hle hSq hu
    by_cases h2 : D.1 = 2
    · rw [if_pos h2] at hu
      refine gs_seq (gs_if (b := true) (et_is (et_test (ed_op (ed_var rfl) ed_int rd_eqI)) (decide_eq_true h2)) (fun _ => ?_) (fun z => nomatch z))
      refine gs_app (i := 5) (d := eT ((row.take k ++ [(row.getD k 0 + 1 + (drawF lo.near lo.total Sq (p - 1)).1) % p]) ++ row.drop (k + 1))) rfl (ed_is (ed_op (ed_op (ed_slT (ed_var rfl) eo_none (eo_some (ed_var rfl))) (ed_tup (ea_cons (ed_op (ed_cb (ea_cons (ed_op (ed_op (ed_op (ed_var rfl) (ed_var rfl) (rd_ixRow false hrow hk)) ed_int rd_I0) (ed_callS rfl rfl (ea_cons (ed_op (ed_var rfl) ed_int rd_I0) ea_nil) ⟨_, rfl, by omega, by omega, hSq, rfl, rfl⟩) rd_I0) ea_nil) rc_int) (ed_var rfl) (rd_I (by trivial))) ea_nil) (sz (by simp))) (rd_catT ?_)) (ed_slT (ed_var rfl) (eo_some (ed_is (d' := .int ((k + 1 : Nat) : Int)) (ed_op (ed_var rfl) ed_int rd_I0) (congrArg PyData.int (by omega)))) eo_none) (rd_catT ?_)) ?_) (by rw [List.length_map]; omega) ?_
      · have := hrow.1
        rw [cut_lo, List.length_take, List.length_map]
        simp
        omega
      · have := hrow.1
        rw [cut_lo, cut_hi, List.length_append, List.length_take, List.length_drop, List.length_map]
        simp
        omega
      · rw [cut_lo, cut_hi, ← List.map_take, ← List.map_drop]
        unfold eT
        rw [List.map_append, List.map_append]
        first | done | rfl
      · refine gs_if (b := false) (et_is (et_test (ed_op (ed_var rfl) ed_int rd_eqI)) (decide_eq_false (by omega))) (fun z => nomatch z) (fun _ => gs_next ?_)
        exact ⟨_, _, by rw [hu, List.map_append]; rfl, by rw [hu]⟩
    · rw [if_neg h2] at hu
      refine gs_seq (gs_if (b := false) (et_is (et_test (ed_op (ed_var rfl) ed_int rd_eqI)) (decide_eq_false h2)) (fun z => nomatch z) (fun _ => gs_next ?_))
      by_cases h3 : D.1 = 3
      · rw [if_pos h3] at hu
        refine gs_if (b := true) (et_is (et_test (ed_op (ed_var rfl) ed_int rd_eqI)) (decide_eq_true h3)) (fun _ => ?_) (fun z => nomatch z)
        refine gs_app (i := 5) (d := eT (rotF k row)) rfl (ed_rot hrow (by omega) rfl rfl) (by rw [List.length_map]; omega) ?_
        exact ⟨_, _, by rw [hu, List.map_append]; rfl, by rw [hu]⟩
      · rw [if_neg h3] at hu
        refine gs_if (b := false) (et_is (et_test (ed_op (ed_var rfl) ed_int rd_eqI)) (decide_eq_false h3)) (fun z => nomatch z) (fun _ => gs_next ?_)
        exact ⟨_, _, by rw [hu]; rfl, by rw [hu]⟩
  · have hc := of_decide_eq_false h
    have hu : sp2 lo.near lo.total p D.1 k R = R := by
      unfold sp2
      rw [if_neg hc]
    exact ⟨_, _, by rw [hu], by rw [hu]⟩
  generalize sp2 lo.near lo.total p D.1 k R = R2 at q1 q2 q3
  rintro Γ S ⟨s7, s8, rfl, rfl⟩
  refine gs_frz (i := 5) rfl (gs_seq ((gs_if (E := { nx := fun Γ S => ∃ s7 s8 r3, r3 = (if D.1 = 4 then R2.1.map (rotF k) else R2.1) ∧ Γ = [.sto, .dat (eF p n rows), .dat (.int p), .dat (.int (n : Int)), .dat (.int D.1), .dat (.list (r3.map eT)), .dat (.int (k : Int)), s7, s8] ∧ S = R2.2, rt := fun _ _ => False }) (et_test (ed_op (ed_var rfl) ed_int rd_eqI)) (fun h => ?_) (fun h => gs_next ?_)).mono ?_ (fun _ _ h => h.elim) (fun _ _ h => h.elim) (fun _ _ h => h.elim)))
  · refine gs_asg (ed_is (ed_lcm (as := R2.1) (enc := eT) (fun r => eT (rotF k r)) (ei_list (ed_var rfl)) (by omega) fun r hr => ⟨_, _, gt_name, by simp, fun s => ed_rot (q1 r hr) (by omega) rfl rfl⟩) (congrArg PyData.list (mm (rotF k) eT _).symm)) ⟨_, _, _, (if_pos (of_decide_eq_true h)).symm, rfl, rfl⟩
  · exact ⟨_, _, _, (if_neg (of_decide_eq_false h)).symm, rfl, rfl⟩
  rintro Γ S ⟨s7, s8, r3, e3, rfl, rfl⟩
  rw [← e3]
  have hr3 : RowsOk p n r3 ∧ r3.length ≤ 1000 := by
    rw [e3]
    split
    · exact ⟨tuRows_ok q1, by rw [List.length_map]; omega⟩
    · exact ⟨q1, by omega⟩
  exact gs_ret (ed_call (ea_cons (ed_var rfl) (ea_cons (ed_var rfl) (ea_cons (ed_var rfl) ea_nil))) ⟨p, n, r3, rfl, hF.hp, by omega, hr3.2, hr3.1, rfl⟩) ⟨rfl, rfl⟩
end Pm


set_option Elab.async false
set_option linter.all false
set_option maxRecDepth 100000
set_option maxHeartbeats 4000000
set_option autoImplicit false
namespace Pm
open PySem PySem.Spec PyProof.Rows L2 Dl Bx
variable {P : Program} {w : World} {K : PySem.W.Frag} {mg : Str → Option Value} {base : Heap}
local macro_rules | `(tactic| trivial) => `(tactic| first | omega | exact Or.inr ⟨by omega, by omega⟩ | exact Or.inl ⟨by omega, by omega⟩ | exact ⟨by omega, by omega⟩)
/-! ### a flat is drawn -/
structure Fl where
  p : Int
  n : Nat
  rows : List (List Int)
  wd : Nat
section
variable (near : List Int) (total : Int)
def lineOf (v : Int) : Ln := tableL.getD v.toNat (ln "" 0 "")
def primeOf (v : Int) : Int := ([2, 3, 5, 7] : List Int).getD v.toNat 0
/-- the kept flat, seen from the other side -/
def flat1 (S : Sto) (most : Int) : Fl × Sto :=
  let A := drawF near total S 24
  let B := drawF near total A.2 4
  let E := endsF near total B.2 (lineOf A.1).2.2 most
  let M := keptF near total (lineOf A.1).2.2 (primeOf B.1) E.1.1.toNat E.1.2.toNat E.2
  (⟨primeOf B.1, M.1.1, unseenR (lineOf A.1).2.1 (primeOf B.1) M.1.1 E.1.1.toNat M.1.2, flipW (lineOf A.1).2.1 M.1.1 E.1.1.toNat⟩, M.2)
def flat2 (F : Fl) (S : Sto) : Fl × Sto :=
  let D := drawF near total S 3
  if D.1 = 0 then (⟨F.p, F.n, (spoiltF near total F.p F.n F.rows D.2).1, F.wd⟩, (spoiltF near total F.p F.n F.rows D.2).2) else (F, D.2)
def flat3 (F : Fl) (S : Sto) : Fl × Sto :=
  let D := drawF near total S 5
  if D.1 = 0 then (⟨F.p, F.n, F.rows, (drawF near total D.2 ((F.n : Int) + 1)).1.toNat⟩, (drawF near total D.2 ((F.n : Int) + 1)).2) else (F, D.2)
def flatF (S : Sto) (most : Int) : Fl × Sto := flat3 near total (flat2 near total (flat1 near total S most).1 (flat1 near total S most).2).1 (flat2 near total (flat1 near total S most).1 (flat1 near total S most).2).2
end
theorem table_len : tableL.length = 24 := by decide +kernel
theorem line_mem {v : Int} (h1 : 0 ≤ v) (h2 : v < 24) : tableL[v.toNat]? = some (lineOf v) ∧ lineOf v ∈ tableL := by
  have hi : v.toNat < tableL.length := by rw [table_len]; omega
  have e : lineOf v = tableL[v.toNat] := by simp [lineOf, List.getD, List.getElem?_eq_getElem hi]
  rw [e]
  exact ⟨List.getElem?_eq_getElem hi, List.getElem_mem _⟩
theorem prime_ok {v : Int} (h1 : 0 ≤ v) (h2 : v < 4) : Pr (primeOf v) ∧ ([2, 3, 5, 7] : List Int)[v.toNat]? = some (primeOf v) := by
  have : v = 0 ∨ v = 1 ∨ v = 2 ∨ v = 3 := by omega
  rcases this with rfl | rfl | rfl | rfl
  · exact ⟨.inl rfl, rfl⟩
  · exact ⟨.inr (.inl rfl), rfl⟩
  · exact ⟨.inr (.inr (.inl rfl)), rfl⟩
  · exact ⟨.inr (.inr (.inr rfl)), rfl⟩
theorem kept_n {near : List Int} {total : Int} {b : Str} {p : Int} {x y : Nat} {S : Sto} (hS : SOk near S) (hxy : x + y ≤ 20) (hM : MarkOk b x y) : (keptF near total b p x y S).1.1 ≤ 40 := by
  unfold keptF
  split
  · dsimp only
    omega
  split
  · dsimp only
    omega
  · unfold marksF
    dsimp only
    split
    · unfold marks1
      obtain ⟨h1, h2⟩ := draws_ok (near := near) (total := total) (m := 1 + (drawF near total S ((x : Int) + y + 1)).1) ((x : Int) + y).toNat (drawF near total S ((x : Int) + y + 1)).2 (draw_ok hS)
      rw [h2]
      omega
    split
    · rename_i hc
      have hy0 : 0 < (y : Int) := hM.2 hc.1 hc.2
      have hmin := min_b hc.2 hy0
      have hd := draw_b (near := near) (total := total) (S := S) hmin.1
      have hS1 := draw_ok (total := total) (m := if (y : Int) < x then (y : Int) else x) hS
      unfold marks2
      dsimp only
      generalize drawF near total S (if (y : Int) < x then (y : Int) else x) = D at hd hS1
      obtain ⟨a1, a2⟩ := draws_ok (near := near) (total := total) (m := 1 + D.1) ((x : Int) - (1 + D.1)).toNat D.2 hS1
      generalize drawsF near total (1 + D.1) ((x : Int) - (1 + D.1)).toNat D.2 = A at a1 a2
      obtain ⟨b1, b2⟩ := draws_ok (near := near) (total := total) (m := 1 + D.1) ((y : Int) - (1 + D.1)).toNat A.2 a1
      generalize drawsF near total (1 + D.1) ((y : Int) - (1 + D.1)).toNat A.2 = B at b1 b2
      obtain ⟨x1, _, x3⟩ := shufF_spec (total := total) (xs := rgI 0 (1 + D.1).toNat ++ A.1) b1
      generalize shufF near total B.2 (rgI 0 (1 + D.1).toNat ++ A.1) = X at x1 x3
      obtain ⟨y1, _, y3⟩ := shufF_spec (total := total) (xs := rgI 0 (1 + D.1).toNat ++ B.1) x3
      rw [List.length_append, x1, y1, List.length_append, List.length_append, rgI_len, a2, b2]
      omega
    · unfold marks3
      dsimp only
      have h0 : (if b = "copy drop" then ([] : List Int) else rgI 0 (x : Int).toNat).length ≤ x := by
        split
        · simp
        · rw [rgI_len]
          omega
      generalize (if b = "copy drop" then ([] : List Int) else rgI 0 (x : Int).toNat) = a0 at h0
      obtain ⟨a1, a2⟩ := draws_ok (near := near) (total := total) (m := (x : Int)) ((y : Int) - (a0.length : Nat)).toNat S hS
      generalize drawsF near total (x : Int) ((y : Int) - (a0.length : Nat)).toNat S = A at a1 a2
      obtain ⟨x1, _, x3⟩ := shufF_spec (total := total) (xs := a0 ++ A.1) a1
      rw [List.length_append, x1, rgI_len, List.length_append, a2]
      omega
/-- what is known of the flat before the last draws -/
theorem flat1_spec {near : List Int} {total : Int} {S : Sto} {most : Int} (hS : SOk near S) (h0 : 0 ≤ most) (h1 : most ≤ 20) : ∃ (l : Ln) (p : Int) (n x : Nat) (rows : List (List Int)), l ∈ tableL ∧ Pr p ∧ Red p n rows ∧ x ≤ n ∧ n ≤ 40 ∧ (flat1 near total S most).1 = ⟨p, n, unseenR l.2.1 p n x rows, flipW l.2.1 n x⟩ ∧ SOk near (flat1 near total S most).2 := by
  unfold flat1
  dsimp only
  have hA := draw_b (near := near) (total := total) (S := S) (m := 24) (by omega)
  have hSA := draw_ok (total := total) (m := 24) hS
  generalize drawF near total S 24 = A at hA hSA
  have hB := draw_b (near := near) (total := total) (S := A.2) (m := 4) (by omega)
  have hSB := draw_ok (total := total) (m := 4) hSA
  generalize drawF near total A.2 4 = B at hB hSB
  obtain ⟨_, hl⟩ := line_mem hA.1 hA.2
  obtain ⟨hp, _⟩ := prime_ok hB.1 hB.2
  obtain ⟨_, hb⟩ := table_fact _ hl
  obtain ⟨e1, e2, e3, e4, e5⟩ := endsF_spec (total := total) (b := (lineOf A.1).2.2) hSB h0
  generalize endsF near total B.2 (lineOf A.1).2.2 most = E at e1 e2 e3 e4 e5
  have c1 : E.1.1 = ((E.1.1.toNat : Nat) : Int) := by omega
  have c2 : E.1.2 = ((E.1.2.toNat : Nat) : Int) := by omega
  rw [c1, c2] at e4
  have hxy : E.1.1.toNat + E.1.2.toNat ≤ 20 := by omega
  obtain ⟨k1, k2, k3⟩ := keptF_spec (total := total) hp hb e5 hxy e4
  exact ⟨lineOf A.1, _, _, _, _, hl, hp, k1, k2, kept_n e5 hxy e4, rfl, k3⟩
def R__law_flat_drawn : RelS := fun near total S ds d S' => ∃ most : Int, ds = [.list (tableL.map eLn), .int most] ∧ 0 ≤ most ∧ most ≤ 20 ∧ SOk near S ∧ d = .list [eF (flatF near total S most).1.p (flatF near total S most).1.n (flatF near total S most).1.rows, .int ((flatF near total S most).1.wd : Int)] ∧ S' = (flatF near total S most).2
theorem sc__law_flat_drawn : FnScope ["_law_store_here", "_law_lines", "_law_most", "_law_way", "_law_base", "_law_prime", "_law_wide", "_law_tall", "_law_plane_here"] ["_law_store_here", "_law_lines", "_law_most"] (defScope (Bx.top 77)) := ⟨rfl, rfl, rfl, by decide +kernel, rfl, by decide +kernel, by decide +kernel⟩
theorem ok__law_flat_drawn (T : Tx w K mg base) : C8.Cal P w K mg base 5 "_law_flat_drawn" (spS K R__law_flat_drawn) [] := by
  obtain ⟨fd, F⟩ := T.f__law_flat_drawn
  have ok__law_draw := ok__law_draw (P := P) T
  have ok__law_ends := ok__law_ends (P := P) T
  have ok__law_kept := ok__law_kept (P := P) T
  have ok__law_pick := ok__law_pick (P := P) T
  have ok__law_spoilt := ok__law_spoilt (P := P) T
  have ok__law_unseen := ok__law_unseen (P := P) T
  refine cal_eff F T.g__law_flat_drawn (F.bindsN (fun _ _ _ _ _ _ us hl => match us, hl with | [_, _, _], _ => rfl)) sc__law_flat_drawn (by rintro _ _ _ _ _ _ ⟨most, rfl, hm, hm2, hS, rfl, rfl⟩ <;> rfl) ?_
  rintro lo c _ _ c2 ⟨most, rfl, hm, hm2, hS, rfl, rfl⟩ cdv A outer sh H E hr
  have nd := sc__law_flat_drawn.nd
  refine ⟨_, (pss_cons (ps_asg (pe_slice (Mk.slT K rfl) (C8.pe_c ok__law_pick hr (by decide) (by rfl) (pa_cons (pv 0) (pa_cons (pv 1) pa_nil))) (po_some pe_int) po_none) (pg_tup rfl (pgs_cons (pg_name (i := 3) nd rfl (.inl rfl)) (pgs_cons (pg_name (i := 4) nd rfl (.inl rfl)) pgs_nil))))
      (pss_cons (ps_set (i := 5) nd rfl (.inl rfl) (C8.pe_c ok__law_pick hr (by decide) (by rfl) (pa_cons (pv 0) (pa_cons (pe_lst (pa_cons pe_int (pa_cons pe_int (pa_cons pe_int (pa_cons pe_int pa_nil))))) pa_nil))))
      (pss_cons (ps_asg (C8.pe_c ok__law_ends hr (by decide) (by rfl) (pa_cons (pv 0) (pa_cons (pv 4) (pa_cons (pv 2) pa_nil)))) (pg_unl rfl (pgs_cons (pg_name (i := 6) nd rfl (.inl rfl)) (pgs_cons (pg_name (i := 7) nd rfl (.inl rfl)) pgs_nil))))
      (pss_cons (ps_asg (C8.pe_c ok__law_unseen hr (by decide) (by rfl) (pa_cons (pv 3) (pa_cons (C8.pe_c ok__law_kept hr (by decide) (by rfl) (pa_cons (pv 0) (pa_cons (pv 4) (pa_cons (pv 5) (pa_cons (pv 6) (pa_cons (pv 7) pa_nil)))))) (pa_cons (pv 6) pa_nil)))) (pg_unl rfl (pgs_cons (pg_name (i := 8) nd rfl (.inl rfl)) (pgs_cons (pg_name (i := 6) nd rfl (.inl rfl)) pgs_nil))))
      (pss_cons (ps_if (pt_cmpR op_eq (C8.pe_c ok__law_draw hr (by decide) (by rfl) (pa_cons (pv 0) (pa_cons pe_int pa_nil))) pe_int (nomark _)) (pss_one (ps_set (i := 8) nd rfl (.inl rfl) (C8.pe_c ok__law_spoilt hr (by decide) (by rfl) (pa_cons (pv 0) (pa_cons (pv 8) pa_nil))))) pss_nil)
      (pss_one (ps_ret (pe_lst (pa_cons (pv 8) (pa_cons (pe_ifExp (pt_cmpR op_eq (C8.pe_c ok__law_draw hr (by decide) (by rfl) (pa_cons (pv 0) (pa_cons pe_int pa_nil))) pe_int (nomark _)) (C8.pe_c ok__law_draw hr (by decide) (by rfl) (pa_cons (pv 0) (pa_cons (pe_op op_add (pe_ix (Mk.ix K rfl) (pv 8) pe_int (fun _ _ => rfl)) pe_int) pa_nil))) (pv 6)) pa_nil)))))))))), ?_⟩
  obtain ⟨l', p', n', x', rows', hl', hp', hred', hx', hn', eq', hS1'⟩ := flat1_spec (total := lo.total) hS hm hm2
  have step1 : flat1 lo.near lo.total c most = flat1 lo.near lo.total c most := rfl
  have hA := draw_b (near := lo.near) (total := lo.total) (S := c) (m := 24) (by omega)
  have hSA := draw_ok (total := lo.total) (m := 24) hS
  unfold flatF
  revert eq' hS1'
  generalize hf1 : flat1 lo.near lo.total c most = F1
  intro eq' hS1'
  unfold flat1 at hf1
  dsimp only at hf1
  obtain ⟨t1, t2⟩ := line_mem hA.1 hA.2
  refine gs_seq (gs_asgT (d := .tuple [.int ((lineOf (drawF lo.near lo.total c 24).1).2.1 : Int), .str (lineOf (drawF lo.near lo.total c 24).1).2.2]) (S' := (drawF lo.near lo.total c 24).2) (ed_is (ed_slT (xs := [.str (lineOf (drawF lo.near lo.total c 24).1).1, .int ((lineOf (drawF lo.near lo.total c 24).1).2.1 : Int), .str (lineOf (drawF lo.near lo.total c 24).1).2.2]) (ed_callS rfl rfl (ea_cons (ed_var rfl) ea_nil) ⟨tableL.map eLn, rfl, by decide, by rw [List.length_map, table_len]; omega, hS, ?_, ?_⟩) (eo_some ed_int) eo_none) ?_) (gt_tup (gts_cons gt_name (gts_cons gt_name gts_nil)) rfl) ?_)
  · rw [List.length_map, table_len]
    show eLn (lineOf _) = _
    unfold List.getD
    rw [List.getElem?_map]
    show _ = (Option.map eLn tableL[(drawF lo.near lo.total c ((24 : Nat) : Int)).1.toNat]?).getD .none
    rw [show ((24 : Nat) : Int) = 24 from rfl, t1]
    rfl
  · rw [List.length_map, table_len]
    rfl
  · rw [show (1 : Int) = ((1 : Nat) : Int) from rfl, cut_hi]
    rfl
  generalize drawF lo.near lo.total c 24 = A at hf1 hA hSA t1 t2
  have hB := draw_b (near := lo.near) (total := lo.total) (S := A.2) (m := 4) (by omega)
  have hSB := draw_ok (total := lo.total) (m := 4) hSA
  obtain ⟨hp, t3⟩ := prime_ok hB.1 hB.2
  refine gs_seq (gs_asg (d := .int (primeOf (drawF lo.near lo.total A.2 4).1)) (ed_callS rfl rfl (ea_cons (ed_lst (ea_cons ed_int (ea_cons ed_int (ea_cons ed_int (ea_cons ed_int ea_nil)))) (sz (by simp))) ea_nil) ⟨[.int 2, .int 3, .int 5, .int 7], rfl, by simp, by simp, hSA, ?_, rfl⟩) ?_)
  · show _ = ([.int 2, .int 3, .int 5, .int 7] : List PyData).getD (drawF lo.near lo.total A.2 4).1.toNat .none
    have e : ([.int 2, .int 3, .int 5, .int 7] : List PyData) = ([2, 3, 5, 7] : List Int).map PyData.int := rfl
    unfold List.getD
    rw [e, List.getElem?_map, t3]
    rfl
  generalize drawF lo.near lo.total A.2 4 = Bd at hf1 hB hSB hp t3
  obtain ⟨_, hb⟩ := table_fact _ t2
  obtain ⟨hk4, _⟩ := table_fact _ t2
  obtain ⟨e1, e2, e3, e4, e5⟩ := endsF_spec (total := lo.total) (b := (lineOf A.1).2.2) hSB hm
  refine gs_seq (gs_asgT (ed_callS rfl rfl (ea_cons (ed_var rfl) (ea_cons (ed_var rfl) ea_nil)) ⟨_, most, rfl, hm, by omega, hSB, rfl, rfl⟩) (gt_unl (gts_cons gt_name (gts_cons gt_name gts_nil)) rfl) ?_)
  generalize endsF lo.near lo.total Bd.2 (lineOf A.1).2.2 most = E at hf1 e1 e2 e3 e4 e5
  have c1 : E.1.1 = ((E.1.1.toNat : Nat) : Int) := by omega
  have c2 : E.1.2 = ((E.1.2.toNat : Nat) : Int) := by omega
  rw [c1, c2] at e4
  rw [c1, c2]
  have hxy : E.1.1.toNat + E.1.2.toNat ≤ 20 := by omega
  revert hf1 e4 hxy
  generalize E.1.1.toNat = x
  generalize E.1.2.toNat = y
  intro hf1 e4 hxy
  obtain ⟨k1, k2, k3⟩ := keptF_spec (total := lo.total) hp hb e5 hxy e4
  have hn40 := kept_n (total := lo.total) (p := primeOf Bd.1) e5 hxy e4
  refine gs_seq (gs_asgT (ed_call (ea_cons (ed_var rfl) (ea_cons (ed_callS rfl rfl (ea_cons (ed_var rfl) (ea_cons (ed_var rfl) (ea_cons (ed_var rfl) (ea_cons (ed_var rfl) ea_nil)))) ⟨_, _, x, y, rfl, hb, hp, hxy, e4, e5, rfl, rfl⟩) (ea_cons (ed_var rfl) ea_nil))) ⟨(lineOf A.1).2.1, _, _, _, x, rfl, hk4, k1.fok, k2, rfl⟩) (gt_unl (gts_cons gt_name (gts_cons gt_name gts_nil)) rfl) ?_)
  generalize keptF lo.near lo.total (lineOf A.1).2.2 (primeOf Bd.1) x y E.2 = M at hf1 k1 k2 k3 hn40
  have hFok : Fok (primeOf Bd.1) M.1.1 (unseenR (lineOf A.1).2.1 (primeOf Bd.1) M.1.1 x M.1.2) := unseen_fok k1.fok
  have hw1 : flipW (lineOf A.1).2.1 M.1.1 x ≤ M.1.1 := flipW_le k2
  subst hf1
  dsimp only
  revert hFok hw1
  generalize unseenR (lineOf A.1).2.1 (primeOf Bd.1) M.1.1 x M.1.2 = r1
  generalize flipW (lineOf A.1).2.1 M.1.1 x = w1
  generalize primeOf Bd.1 = p at hp
  generalize M.2 = S3 at k3
  generalize M.1.1 = n at hn40
  intro hFok hw1
  have hd3 := draw_ok (total := lo.total) (m := 3) k3
  have hc3 := fun (Γ : List Sl) (h0 : Γ[0]? = some .sto) => et_test (ed_op (ed_callS (C := ⟨K, some lo⟩) (E := C8.E0) (RS := R__law_draw) (i := 0) (S1 := S3) (Γ := Γ) rfl h0 (ea_cons (ed_int (i := 3)) ea_nil) ⟨3, rfl, by omega, by omega, k3, rfl, rfl⟩) ed_int (rd_eqI (j := 0)))
  refine gs_seq ((gs_if (E := { nx := fun Γ S => ∃ s3 s4 r2, flat2 lo.near lo.total ⟨p, n, r1, w1⟩ S3 = (⟨p, n, r2, w1⟩, S) ∧ SOk lo.near S ∧ Γ = [.sto, .dat (.list (tableL.map eLn)), .dat (.int most), s3, s4, .dat (.int p), .dat (.int (w1 : Int)), .dat (.int (y : Int)), .dat (eF p n r2)], rt := fun _ _ => False }) (hc3 _ rfl) (fun h => ?_) (fun h => gs_next ?_)).mono ?_ (fun _ _ h => h.elim) (fun _ _ h => h.elim) (fun _ _ h => h.elim))
  · have h' := of_decide_eq_true h
    refine gs_asg (ed_callS rfl rfl (ea_cons (ed_var rfl) ea_nil) ⟨p, n, r1, rfl, hFok, by omega, hd3, rfl, rfl⟩) ⟨_, _, _, ?_, spoilt_S hFok hd3, rfl⟩
    unfold flat2
    dsimp only
    rw [if_pos h']
  · have h' := of_decide_eq_false h
    refine ⟨_, _, _, ?_, hd3, rfl⟩
    unfold flat2
    dsimp only
    rw [if_neg h']
  rintro Γ S ⟨s3, s4, r2, e2, hS4, rfl⟩
  rw [e2]
  dsimp only
  have hd5 := draw_ok (total := lo.total) (m := 5) hS4
  have hc5 := et_test (ed_op (ed_callS (C := ⟨K, some lo⟩) (E := C8.E0) (RS := R__law_draw) (i := 0) (S1 := S) (Γ := [.sto, .dat (.list (tableL.map eLn)), .dat (.int most), s3, s4, .dat (.int p), .dat (.int (w1 : Int)), .dat (.int (y : Int)), .dat (eF p n r2)]) rfl rfl (ea_cons (ed_int (i := 5)) ea_nil) ⟨5, rfl, by omega, by omega, hS4, rfl, rfl⟩) ed_int (rd_eqI (j := 0)))
  have hb5 := draw_b (near := lo.near) (total := lo.total) (S := (drawF lo.near lo.total S 5).2) (m := (n : Int) + 1) (by omega)
  unfold flat3
  dsimp only
  by_cases h5 : (drawF lo.near lo.total S 5).1 = 0
  · rw [if_pos h5]
    refine gs_ret (ed_lst (ea_cons (ed_var rfl) (ea_cons (ed_is (d' := .int ((drawF lo.near lo.total (drawF lo.near lo.total S 5).2 ((n : Int) + 1)).1.toNat : Int)) (ed_ifT (et_is hc5 (decide_eq_true h5)) (ed_callS rfl rfl (ea_cons (ed_op (ed_f1 rfl) ed_int rd_I0) ea_nil) ⟨_, rfl, by omega, by omega, hd5, rfl, rfl⟩)) (congrArg PyData.int (by omega))) ea_nil)) (sz (by simp))) ⟨rfl, rfl⟩
  · rw [if_neg h5]
    exact gs_ret (ed_lst (ea_cons (ed_var rfl) (ea_cons (ed_ifF (et_is hc5 (decide_eq_false h5)) (ed_var rfl)) ea_nil)) (sz (by simp))) ⟨rfl, rfl⟩
end Pm


set_option Elab.async false
set_option linter.all false
set_option maxRecDepth 100000
set_option maxHeartbeats 4000000
set_option autoImplicit false
namespace Pm
open PySem PySem.Spec PyProof.Rows L2 Dl Bx
variable {P : Program} {w : World} {K : PySem.W.Frag} {mg : Str → Option Value} {base : Heap}
local macro_rules | `(tactic| trivial) => `(tactic| first | omega | exact Or.inr ⟨by omega, by omega⟩ | exact Or.inl ⟨by omega, by omega⟩ | exact ⟨by omega, by omega⟩)
/-! ### words -/
def lwordsF (s : Str) : List Str := if s = "all" then Txt.words "copy drop add nought times uncopy undrop unadd unnought untimes" else if s = "cross" then [] else Txt.words s
def R__law_words : Rel := fun ds d => ∃ s : Str, ds = [.str s] ∧ s ∈ sortsL ∧ d = eS (lwordsF s)
theorem sc__law_words : FnScope ["_law_kind"] ["_law_kind"] (defScope (Bx.top 75)) := ⟨rfl, rfl, rfl, by decide +kernel, rfl, by decide +kernel, by decide +kernel⟩
theorem ok__law_words (T : Tx w K mg base) : C8.Cal P w K mg base 1 "_law_words" (spD K R__law_words) [] := by
  obtain ⟨fd, F⟩ := T.f__law_words
  refine cal_pure F T.g__law_words (F.bindsN (fun _ _ _ _ _ _ us hl => match us, hl with | [_], _ => rfl)) sc__law_words (by rintro _ _ ⟨s, rfl, hs, rfl⟩ <;> rfl) ?_
  rintro _ _ ⟨s, rfl, hs, rfl⟩ cdv A outer sh H E hr
  have nd := sc__law_words.nd
  refine ⟨_, (pss_cons (ps_if (pt_cmpR op_eq (pv 0) pe_str (nomark _)) (pss_one (ps_ret (pe_words pe_str))) pss_nil)
      (pss_one (ps_ret (pe_ifExp (pt_cmpR op_eq (pv 0) pe_str (nomark _)) (pe_lst pa_nil) (pe_words (pv 0)))))), ?_⟩
  obtain ⟨f1, f2⟩ := split_fact s hs
  refine gs_seq (gs_if (et_test (ed_op (ed_var rfl) ed_str rd_eqS)) (fun h => gs_ret (ed_words ed_str (by decide +kernel)) ?_) (fun h => gs_next ?_))
  · show eS _ = eS (lwordsF s)
    unfold lwordsF
    rw [if_pos (of_decide_eq_true h)]
  have h1 := of_decide_eq_false h
  refine gs_ret (ed_if (d := eS (lwordsF s)) (et_test (ed_op (ed_var rfl) ed_str rd_eqS)) (fun h2 => ed_is (ed_lst ea_nil (sz (by simp))) ?_) (fun h2 => ed_is (ed_words (ed_var rfl) (by omega)) ?_)) rfl
  · unfold lwordsF
    rw [if_neg h1, if_pos (of_decide_eq_true h2)]
    rfl
  · unfold lwordsF
    rw [if_neg h1, if_neg (of_decide_eq_false h2)]
    rfl
/-! ### swaps -/
def pairsF (b : Bool) : List (Str × Str) := if b then [("copy", "uncopy"), ("drop", "undrop"), ("add", "unadd"), ("nought", "unnought")] else [("copy", "unadd"), ("uncopy", "add"), ("drop", "unnought"), ("undrop", "nought")]
def swStep (m : List (Key × V)) (q : Str × Str) : List (Key × V) := putK (putK m (.inr q.1) (.str q.2)) (.inr q.2) (.str q.1)
def timesP : List (Str × Str) := [("times", "untimes")]
def swapsK (b : Bool) : List (Key × V) := (pairsF b ++ timesP).foldl swStep []
def ePr (q : Str × Str) : PyData := pairD (.str q.1) (.str q.2)
theorem swLen : ∀ (ls : List (Str × Str)) (m : List (Key × V)), (ls.foldl swStep m).length ≤ m.length + 2 * ls.length
  | [], m => by simp
  | q :: ls, m => by
    have h1 := swLen ls (swStep m q)
    have h2 : (swStep m q).length ≤ m.length + 2 := by
      unfold swStep
      have a1 := length_putK (putK m (.inr q.1) (.str q.2)) (.inr q.2) (.str q.1)
      have a2 := length_putK m (.inr q.1) (.str q.2)
      omega
    rw [List.foldl_cons, List.length_cons]
    omega
theorem sc__law_swaps : FnScope ["_law_is_turned", "_law_pairs", "_law_found", "_law_one", "_law_two"] ["_law_is_turned"] (defScope (Bx.top 74)) := ⟨rfl, rfl, rfl, by decide +kernel, rfl, by decide +kernel, by decide +kernel⟩
theorem ok__law_swaps (T : Tx w K mg base) : C8.Cal P w K mg base 1 "_law_swaps" (spDk K swapsK) [] := by
  obtain ⟨fd, F⟩ := T.f__law_swaps
  refine ⟨_, fd, ["_law_is_turned"], [], F.ok sc__law_swaps (fun vs H Q E h => ?_) (fun cdv A outer sh H vs Q E hr h => ?_), T.g__law_swaps, F.kp, F.bindsN (fun _ _ _ _ _ _ us hl => match us, hl with | [_], _ => rfl), .nil⟩
  · obtain ⟨Hs, b, rfl, _⟩ := h
    rfl
  obtain ⟨Hs, b, rfl, ex, q⟩ := h
  have nd := sc__law_swaps.nd
  refine ⟨_, PSs.nox (pss_cons (ps_set (i := 1) nd rfl (.inl rfl) (pe_lst (pa_cons (pe_tup (pa_cons pe_str (pa_cons pe_str pa_nil))) (pa_cons (pe_tup (pa_cons pe_str (pa_cons pe_str pa_nil))) (pa_cons (pe_tup (pa_cons pe_str (pa_cons pe_str pa_nil))) (pa_cons (pe_tup (pa_cons pe_str (pa_cons pe_str pa_nil))) pa_nil))))))
      (pss_cons (ps_if (pt_val (pv 0)) (pss_one (ps_set (i := 1) nd rfl (.inl rfl) (pe_lst (pa_cons (pe_tup (pa_cons pe_str (pa_cons pe_str pa_nil))) (pa_cons (pe_tup (pa_cons pe_str (pa_cons pe_str pa_nil))) (pa_cons (pe_tup (pa_cons pe_str (pa_cons pe_str pa_nil))) (pa_cons (pe_tup (pa_cons pe_str (pa_cons pe_str pa_nil))) pa_nil))))))) pss_nil)
      (pss_cons (ps_set (i := 2) nd rfl (.inl rfl) pe_dnewK)
      (pss_cons (ps_for PassesOwn.never rfl (pi_list (pe_op (Mk.catS K rfl) (pv 1) (pe_lst (pa_cons (pe_tup (pa_cons pe_str (pa_cons pe_str pa_nil))) pa_nil)))) (pg_tup rfl (pgs_cons (pg_name (i := 3) nd rfl (.inl rfl)) (pgs_cons (pg_name (i := 4) nd rfl (.inl rfl)) pgs_nil))) (pss_cons (ps_asg (pv 4) (pg_sub (pv 2) (pv 3) (set_dict (hu_of hr))))
      (pss_one (ps_asg (pv 3) (pg_sub (pv 2) (pv 4) (set_dict (hu_of hr)))))))
      (pss_one (ps_ret (pv 2))))))), ?_⟩
  have kb : ∀ a, ¬ (Cq.mk K none).bad a := fun a ⟨lo, e, _⟩ => by cases e
  have k0 : HOk ⟨K, none⟩ ⟨Hs, H⟩ S0 Hs H := ⟨fun a o _ e => e, Ex.refl _, ex, fun a o e => .inl ⟨o, e⟩, fun lo e => by cases e⟩
  have x0 : SlsOk ⟨K, none⟩ ⟨Hs, H⟩ Hs H (L2.start ["_law_is_turned", "_law_pairs", "_law_found", "_law_one", "_law_two"] [.bl b]) (slots 5 [.bool b]) := start_dat rfl (.cons (.bl b) .nil)
  refine gs_run2 (nx := fun Γ S => Γ = [.dat (.bool b), .dat (.list ((pairsF false).map ePr)), .un, .un, .un] ∧ S = S0) (gs_asg (ed_lst (ea_cons (ed_tup (ea_cons ed_str (ea_cons ed_str ea_nil)) (sz (by simp))) (ea_cons (ed_tup (ea_cons ed_str (ea_cons ed_str ea_nil)) (sz (by simp))) (ea_cons (ed_tup (ea_cons ed_str (ea_cons ed_str ea_nil)) (sz (by simp))) (ea_cons (ed_tup (ea_cons ed_str (ea_cons ed_str ea_nil)) (sz (by simp))) ea_nil)))) (sz (by simp))) ⟨rfl, rfl⟩) x0 k0 ?_
  rintro σ1 H1 Γ1 S1 Hs1 ⟨rfl, rfl⟩ x1 k1
  refine gs_run2 (nx := fun Γ S => Γ = [.dat (.bool b), .dat (.list ((pairsF b).map ePr)), .un, .un, .un] ∧ S = S0) ?_ x1 k1 ?_
  · exact gs_if (et_B (ed_var rfl)) (fun h => gs_asg (ed_lst (ea_cons (ed_tup (ea_cons ed_str (ea_cons ed_str ea_nil)) (sz (by simp))) (ea_cons (ed_tup (ea_cons ed_str (ea_cons ed_str ea_nil)) (sz (by simp))) (ea_cons (ed_tup (ea_cons ed_str (ea_cons ed_str ea_nil)) (sz (by simp))) (ea_cons (ed_tup (ea_cons ed_str (ea_cons ed_str ea_nil)) (sz (by simp))) ea_nil)))) (sz (by simp))) ⟨by rw [h]; rfl, rfl⟩) (fun h => gs_next ⟨by rw [h], rfl⟩)
  rintro σ2 H2 Γ2 S2 Hs2 ⟨rfl, rfl⟩ x2 k2
  refine gs_run2 (nx := fun Γ S => Γ = [.dat (.bool b), .dat (.list ((pairsF b).map ePr)), .odk [], .un, .un] ∧ S = S0) (gs_dnew ⟨rfl, rfl⟩) x2 k2 ?_
  rintro σ3 H3 Γ3 S3 Hs3 ⟨rfl, rfl⟩ x3 k3
  have hpl : (pairsF b).length = 4 := by cases b <;> rfl
  have htl : timesP.length = 1 := rfl
  refine gs_run2 (nx := fun Γ S => ∃ s3 s4, Γ = [.dat (.bool b), .dat (.list ((pairsF b).map ePr)), .odk (swapsK b), s3, s4] ∧ S = S0) (gs_for (as := pairsF b ++ timesP) (enc := ePr) (ei_list (ed_is (ed_op (ed_var rfl) (ed_lst (ea_cons (ed_tup (ea_cons ed_str (ea_cons ed_str ea_nil)) (sz (by simp))) ea_nil) (sz (by simp))) (rd_catL (by rw [List.length_map, hpl]; simp))) (congrArg PyData.list (by rw [List.map_append]; rfl)))) (fun i Γ S => ∃ s3 s4, Γ = [.dat (.bool b), .dat (.list ((pairsF b).map ePr)), .odk (((pairsF b ++ timesP).take i).foldl swStep []), s3, s4] ∧ S = S0) ⟨_, _, rfl, rfl⟩ ?_ ?_) x3 k3 ?_
  · rintro i q' Γ' S' ha ⟨s3, s4, rfl, rfl⟩
    have htake : (pairsF b ++ timesP).take (i + 1) = (pairsF b ++ timesP).take i ++ [q'] := by
      rw [List.take_add_one, ha]
      rfl
    have hst : ((pairsF b ++ timesP).take (i + 1)).foldl swStep [] = swStep (((pairsF b ++ timesP).take i).foldl swStep []) q' := by
      rw [htake, List.foldl_append]
      rfl
    have hl1 := swLen ((pairsF b ++ timesP).take i) []
    rw [List.length_take, List.length_append, hpl] at hl1
    simp at hl1
    have un : ∀ (z : List (Key × V)) (m : Nat) (kvs' : List (Key × V)), ([.dat (.bool b), .dat (.list ((pairsF b).map ePr)), .odk z, .dat (.str q'.1), .dat (.str q'.2)] : List Sl)[m]? = some (Sl.odk kvs') → m = 2 := fun z m kvs' e => by
      rcases m with _ | _ | _ | _ | _ | m <;> first | rfl | (simp at e)
    revert hst hl1
    generalize ((pairsF b ++ timesP).take i).foldl swStep [] = m
    intro hst hl1
    refine ⟨_, _, gt_tup (gts_cons gt_name (gts_cons gt_name gts_nil)) rfl, ?_⟩
    refine gs_seq (gs_dset (i := 2) rfl (un m) (ed_var rfl) (ed_var rfl) (by omega) ?_)
    have a2 := length_putK m (.inr q'.1) (.str q'.2)
    refine gs_dset (i := 2) rfl (un _) (ed_var rfl) (ed_var rfl) (by omega) ?_
    exact ⟨_, _, by rw [hst, swStep]; rfl, rfl⟩
  · rintro Γ' S' ⟨s3, s4, rfl, rfl⟩
    rw [List.take_of_length_le (Nat.le_refl _)]
    exact ⟨_, _, rfl, rfl⟩
  rintro σ4 H4 Γ4 S4 Hs4 ⟨s3, s4, rfl, rfl⟩ x4 k4
  obtain ⟨s, q1, p, rfl, q2, q3, q4⟩ := x4.at_ 2 _ rfl
  refine ⟨.ref p, q1, q p (upd Hs4 p (.dK (swapsK b))) H4 (fun a o e => k4.ex0 a o (kb a) e) (k4.exs0.trans (Ex.new q3)) (fun a u e => ?_) (fun a u e => ?_) upd_same⟩
  · by_cases hq : a = p
    · subst hq
      rw [upd_same] at e
      cases e
      exact q2
    · rw [upd_ne hq] at e
      exact k4.exs a u e
  · by_cases hq : a = p
    · subst hq
      exact .inr q4
    · rw [upd_ne hq] at e
      exact k4.new a u e
end Pm


set_option Elab.async false
set_option linter.all false
set_option maxRecDepth 100000
set_option maxHeartbeats 4000000
set_option autoImplicit false
namespace Mk
open PySem PySem.Spec PyProof.Rows L2
theorem pe_lidx {X : Cx} (K : PySem.W.Frag) (h : X.K = K) {o e : Expr} {to : TE} {t : TA} {apos cpos : Pos} (ho : PE X o to) (ha : PA X [e] t)
    (hbase : attributeBase o "index" X.env (eval o X.env) = eval o X.env := by rfl)
    (hfew : ((backTo cpos (starEach [e] X.env)).all (fun x => !x.1) && (backToKw cpos (keywordEach [] X.env)).all (fun x => x.1.isSome)
      && decide ([e].length + ([] : List Keyword).length + (if ([] : List Keyword).isEmpty then 0 else 1) < 30)) = true := by rfl)
    (hline : (apos.endLine == cpos.line) = true := by rfl) (hs : starEach [e] X.env = (false, eval e X.env) :: starEach [] X.env := by rfl) (hplain : (backTo cpos (starEach [] X.env)).any (·.1) = false := by rfl) :
    PE X (.Call (.Attribute o "index" apos) [e] [] cpos) (tBM K "list" (rIndex K) to t) := by
  subst h
  exact pe_bm PySem.F.plainAttrs_list PySem.F.slot_list_index PySem.F.type_list_index mt_index ho ha hbase hfew hline hs hplain
end Mk


set_option Elab.async false
set_option linter.all false
set_option maxRecDepth 100000
set_option maxHeartbeats 4000000
set_option autoImplicit false
namespace Pm
open PySem PySem.Spec PyProof.Rows L2 Dl Bx
variable {P : Program} {w : World} {K : PySem.W.Frag} {mg : Str → Option Value} {base : Heap}
local macro_rules | `(tactic| trivial) => `(tactic| first | omega | exact Or.inr ⟨by omega, by omega⟩ | exact Or.inl ⟨by omega, by omega⟩ | exact ⟨by omega, by omega⟩)
/-! ### mirrored names -/
def keyS (ws : List Str) : Str := Txt.join " " (sortF ws)
def keysL : List Str := sortsL.map fun s => keyS (lwordsF s)
def swapW (b : Bool) (w : Str) : Str := match valV (swapsK b) (.inr w) with
  | some (.str z) => z
  | _ => ""
def mirKey (b : Bool) (s : Str) : Str := keyS ((lwordsF s).map (swapW b))
def mirOf (b : Bool) (s : Str) : Str := sortsL.getD (keysL.idxOf (mirKey b s)) ""
def mirF (b : Bool) : List Str := sortsL.map (mirOf b)
def lenS (ws : List Str) : Nat := (ws.map (·.length)).sum + ws.length * (" " : Str).length
theorem mir_fact : ∀ b ∈ [true, false], ∀ s ∈ sortsL, (∀ w ∈ lwordsF s, valV (swapsK b) (.inr w) = some (.str (swapW b w))) ∧ mirKey b s ∈ keysL ∧ (lwordsF s).length ≤ 20 ∧ lenS (sortF (lwordsF s)) ≤ 1000 ∧ lenS (sortF ((lwordsF s).map (swapW b))) ≤ 1000 := by decide +kernel
theorem idxOf_leS {m : Str} : ∀ {l : List Str} {j : Nat}, l[j]? = some m → l.idxOf m ≤ j
  | [], j, h => by simp at h
  | a :: l, 0, h => by
    have e : a = m := by simpa using h
    subst e
    simp
  | a :: l, j + 1, h => by
    have ih := idxOf_leS (l := l) (j := j) (by simpa using h)
    rw [List.idxOf_cons]
    cases hq : a == m
    · simp only [cond_false]
      omega
    · simp
theorem idx_at {m : Str} {l : List Str} (h : m ∈ l) : l[l.idxOf m]? = some m := by
  rw [List.getElem?_eq_getElem (List.idxOf_lt_length_of_mem h), List.getElem_idxOf]
theorem keys_len : keysL.length = 24 ∧ sortsL.length = 24 := by decide +kernel
def R__law_mirrors : Rel := fun ds d => ∃ b : Bool, ds = [eS sortsL, .bool b] ∧ d = eS (mirF b)
theorem sc__law_mirrors : FnScope ["_law_names", "_law_is_turned", "_law_swaps_here", "_law_found", "_law_name", "_law_keys", "_law_key", "_law_word"] ["_law_names", "_law_is_turned"] (defScope (Bx.top 76)) := ⟨rfl, rfl, rfl, by decide +kernel, rfl, by decide +kernel, by decide +kernel⟩
theorem ok__law_mirrors (T : Tx w K mg base) : C8.Cal P w K mg base 2 "_law_mirrors" (spD K R__law_mirrors) [] := by
  obtain ⟨fd, F⟩ := T.f__law_mirrors
  have ok__law_swaps := ok__law_swaps (P := P) T
  have ok__law_words := ok__law_words (P := P) T
  refine cal_pure F T.g__law_mirrors (F.bindsN (fun _ _ _ _ _ _ us hl => match us, hl with | [_, _], _ => rfl)) sc__law_mirrors (by rintro _ _ ⟨b, rfl, rfl⟩ <;> rfl) ?_
  rintro _ _ ⟨b, rfl, rfl⟩ cdv A outer sh H E hr
  have nd := sc__law_mirrors.nd
  refine ⟨_, (pss_cons (ps_asg (pe_tup (pa_cons (C8.pe_c ok__law_swaps hr (by decide) (by rfl) (pa_cons (pv 1) pa_nil)) (pa_cons (pe_lst pa_nil) pa_nil))) (pg_tup rfl (pgs_cons (pg_name (i := 2) nd rfl (.inr rfl)) (pgs_cons (pg_name (i := 3) nd rfl (.inl rfl)) pgs_nil))))
      (pss_cons (ps_setLc (i := 5) (own := [("_law_name", 4)]) (g := (gName 4)) (tt := tYes) rfl nd rfl rfl (sw_true rfl rfl rfl (by decide +kernel)) (pi_list (pv 0)) (blkOk_by (by rfl)) (fun _ _ _ _ _ => (pg_name (i := 4) nd rfl (.inl rfl))) (fun _ _ _ _ _ => pts_nil) (fun _ _ _ _ _ => (Mk.pe_join K rfl pe_str (pe_callB (Mk.sortS K rfl) (by rfl) T.b_sorted (by decide +kernel) (pa_cons (C8.pe_c ok__law_words hr (by decide) (by rfl) (pa_cons (pv 4) pa_nil)) pa_nil)))))
      (pss_cons (ps_for PassesOwn.never rfl (pi_list (pv 0)) (pg_name (i := 4) nd rfl (.inl rfl)) (pss_cons (ps_set (i := 6) nd rfl (.inl rfl) (Mk.pe_join K rfl pe_str (pe_callB (Mk.sortS K rfl) (by rfl) T.b_sorted (by decide +kernel) (pa_cons (pe_lc (own := [("_law_word", 7)]) (g := (gName 7)) (tt := tYes) rfl nd (pi_list (C8.pe_c ok__law_words hr (by decide) (by rfl) (pa_cons (pv 4) pa_nil))) (blkOk_by (by rfl)) (fun _ _ _ _ _ => (pg_name (i := 7) nd rfl (.inl rfl))) (fun _ _ _ _ _ => pts_nil) (fun _ _ _ _ _ => (pe_dget1 (hu_of hr) (pv 2) (pv 7) ⟨by rfl, by rfl, by rfl, by rfl⟩))) pa_nil))))
      (pss_one (ps_expr (pe_bm PySem.F.plainAttrs_list PySem.F.slot_list_append PySem.F.type_list_append mt_append (pv 3) (pa_cons (pe_ix (Mk.ix K rfl) (pv 0) (Mk.pe_lidx K rfl (pv 5) (pa_cons (pv 6) pa_nil)) (fun _ _ => rfl)) pa_nil))))))
      (pss_one (ps_ret (pv 3)))))), ?_⟩
  obtain ⟨kl, sl⟩ := keys_len
  have hb : b ∈ [true, false] := by cases b <;> simp
  refine gs_seq (gs_dkOwn (i := 2) (j := 3) (by decide) (ed_var rfl) ?_)
  refine gs_seq (gs_asg (ed_is (d' := eS keysL) (ed_lcm (as := sortsL) (enc := .str) (fun s => .str (keyS (lwordsF s))) (ei_list (ed_var rfl)) (by omega) fun s hs => ⟨_, _, gt_name, by simp, fun _ => by
    obtain ⟨f1, f2, f3, f4, f5⟩ := mir_fact b hb s hs
    exact ed_join ed_str (ed_sortL (ea_cons (ed_call (ea_cons (ed_var rfl) ea_nil) ⟨s, rfl, hs, rfl⟩) ea_nil) (by omega)) (by unfold lenS at f4; omega)⟩) (congrArg PyData.list (mm (fun s => keyS (lwordsF s)) PyData.str sortsL).symm)) ?_)
  refine gs_seq (gs_for (as := sortsL) (enc := .str) (ei_list (ed_var rfl)) (fun i Γ S => ∃ s4 s6, Γ = [.dat (eS sortsL), .dat (.bool b), .dk (swapsK b), .own (((sortsL.take i).map (mirOf b)).map .str), s4, .dat (eS keysL), s6, .un] ∧ S = S0) ⟨_, _, rfl, rfl⟩ ?_ ?_)
  · rintro i s Γ' S' ha ⟨s4, s6, rfl, rfl⟩
    have hs := List.mem_of_getElem? ha
    obtain ⟨f1, f2, f3, f4, f5⟩ := mir_fact b hb s hs
    have htake : sortsL.take (i + 1) = sortsL.take i ++ [s] := by
      rw [List.take_add_one, ha]
      rfl
    have hil : (sortsL.take i).length ≤ 24 := by
      rw [List.length_take]
      omega
    have hidx : keysL.idxOf (mirKey b s) < 24 := by
      have := List.idxOf_lt_length_of_mem f2
      omega
    refine ⟨_, _, gt_name, ?_⟩
    refine gs_seq (gs_asg (d := .str (mirKey b s)) (ed_join ed_str (ed_sortL (ea_cons (ed_is (ed_lcm (as := lwordsF s) (enc := .str) (fun x => .str (swapW b x)) (ei_list (ed_call (ea_cons (ed_var rfl) ea_nil) ⟨s, rfl, hs, rfl⟩)) (by omega) fun x hx => ⟨_, _, gt_name, by simp, fun _ => ed_dkGet1 rfl (ed_var rfl) (f1 x hx)⟩) (congrArg PyData.list (mm (swapW b) PyData.str (lwordsF s)).symm)) ea_nil) (by rw [List.length_map]; omega)) (by unfold lenS at f5; omega)) ?_)
    refine gs_app (i := 3) (d := .str (mirOf b s)) rfl (ed_op (ed_var rfl) (ed_index (j := keysL.idxOf (mirKey b s)) (ed_var rfl) (ea_cons (ed_var rfl) ea_nil) (idx_at f2) fun m z hm hz hzz => ?_) (rd_ixL (j := keysL.idxOf (mirKey b s)) (ixN_lt (by rw [List.length_map, sl]; exact hidx)) ?_)) (by rw [List.length_map, List.length_map]; omega) ?_
    · subst hzz
      have := idxOf_leS hz
      omega
    · rw [List.getElem?_map]
      unfold mirOf
      rw [List.getElem?_eq_getElem (show keysL.idxOf (mirKey b s) < sortsL.length by omega)]
      simp [List.getD, List.getElem?_eq_getElem (show keysL.idxOf (mirKey b s) < sortsL.length by omega)]
    · exact ⟨_, _, by rw [htake, List.map_append, List.map_append]; rfl, rfl⟩
  · rintro Γ' S' ⟨s4, s6, rfl, rfl⟩
    rw [List.take_of_length_le (Nat.le_refl _)]
    exact gs_frz (i := 3) rfl (gs_ret (ed_var rfl) rfl)
theorem turn_mir : ∀ s ∈ sortsL, withF ((wordsOf s).map turnW) = some (mirOf true s) := by decide +kernel
theorem exch_mir : ∀ s ∈ sortsL, withF ((wordsOf s).map exchW) = some (mirOf false s) := by decide +kernel
end Pm


set_option Elab.async false
set_option linter.all false
set_option maxRecDepth 100000
set_option maxHeartbeats 4000000
set_option autoImplicit false
/-! vectors over a commutative ring: spans, reduced lists, orthogonality -/
namespace La
open Lean.Grind
variable {α : Type} [CommRing α]
abbrev Vc (α : Type) := Nat → α
inductive Sp (L : List (Vc α)) : Vc α → Prop
  | zero : Sp L (fun _ => 0)
  | add (r : Vc α) (c : α) (v : Vc α) : r ∈ L → Sp L v → Sp L (fun j => v j + c * r j)
theorem Sp.plus {L : List (Vc α)} {u v : Vc α} (hu : Sp L u) (hv : Sp L v) : Sp L (fun j => u j + v j) := by
  induction hv with
  | zero =>
    have e : (fun j => u j + (fun _ => (0 : α)) j) = u := by
      funext j
      grind
    rw [e]
    exact hu
  | add r c v hr _ ih =>
    have e : (fun j => u j + (fun j => v j + c * r j) j) = fun j => (fun j => u j + v j) j + c * r j := by
      funext j
      grind
    rw [e]
    exact .add r c _ hr ih
theorem Sp.smul {L : List (Vc α)} {v : Vc α} (a : α) (hv : Sp L v) : Sp L (fun j => a * v j) := by
  induction hv with
  | zero =>
    have e : (fun j => a * (fun _ => (0 : α)) j) = fun _ : Nat => (0 : α) := by
      funext j
      grind
    rw [e]
    exact .zero
  | add r c v hr _ ih =>
    have e : (fun j => a * (fun j => v j + c * r j) j) = fun j => (fun j => a * v j) j + (a * c) * r j := by
      funext j
      grind
    rw [e]
    exact .add r (a * c) _ hr ih
theorem Sp.mem {L : List (Vc α)} {r : Vc α} (h : r ∈ L) : Sp L r := by
  have e : r = fun j => (fun _ => (0 : α)) j + 1 * r j := by
    funext j
    grind
  rw [e]
  exact .add r 1 _ h .zero
theorem Sp.sub {L M : List (Vc α)} (h : ∀ r ∈ L, Sp M r) {v : Vc α} (hv : Sp L v) : Sp M v := by
  induction hv with
  | zero => exact .zero
  | add r c v hr _ ih => exact ih.plus ((h r hr).smul c)
theorem Sp.axpy {L : List (Vc α)} {u v : Vc α} (c : α) (hu : Sp L u) (hv : Sp L v) : Sp L (fun j => u j + c * v j) := hu.plus (hv.smul c)
/-- linear -/
structure Lin (φ : Vc α → Vc α) : Prop where
  zero : φ (fun _ => 0) = fun _ => 0
  add : ∀ (u r : Vc α) (c : α), φ (fun j => u j + c * r j) = fun j => φ u j + c * φ r j
theorem Sp.map {L : List (Vc α)} {φ : Vc α → Vc α} (hφ : Lin φ) {v : Vc α} (hv : Sp L v) : Sp (L.map φ) (φ v) := by
  induction hv with
  | zero =>
    rw [hφ.zero]
    exact .zero
  | add r c v hr _ ih =>
    rw [hφ.add]
    exact .add _ c _ (List.mem_map_of_mem hr) ih
/-! ### reduced lists -/
abbrev Rw (α : Type) := Nat × Vc α
def comb : List (Rw α) → Vc α → Vc α
  | [], _, _ => 0
  | x :: L, v, j => v x.1 * x.2 j + comb L v j
structure RedV (L : List (Rw α)) : Prop where
  one : ∀ x ∈ L, x.2 x.1 = 1
  zero : ∀ x ∈ L, ∀ y ∈ L, x.1 ≠ y.1 → x.2 y.1 = 0
  nd : L.Pairwise (fun a b => a.1 ≠ b.1)
  low : ∀ x ∈ L, ∀ j, j < x.1 → x.2 j = 0
def Mem (L : List (Rw α)) (v : Vc α) : Prop := ∀ j, v j = comb L v j
theorem comb_zero : ∀ (L : List (Rw α)) (v : Vc α) (j : Nat), (∀ x ∈ L, v x.1 = 0) → comb L v j = 0
  | [], v, j, _ => rfl
  | x :: L, v, j, h => by
    show v x.1 * x.2 j + comb L v j = 0
    rw [comb_zero L v j fun y hy => h y (List.mem_cons_of_mem _ hy), h x List.mem_cons_self]
    grind
theorem comb_add : ∀ (L : List (Rw α)) (u r : Vc α) (c : α) (j : Nat), comb L (fun j => u j + c * r j) j = comb L u j + c * comb L r j
  | [], u, r, c, j => by
    show (0 : α) = 0 + c * 0
    grind
  | x :: L, u, r, c, j => by
    show (u x.1 + c * r x.1) * x.2 j + comb L (fun j => u j + c * r j) j = (u x.1 * x.2 j + comb L u j) + c * (r x.1 * x.2 j + comb L r j)
    rw [comb_add L u r c j]
    grind
theorem comb_congr : ∀ (L : List (Rw α)) (u v : Vc α) (j : Nat), (∀ x ∈ L, u x.1 = v x.1) → comb L u j = comb L v j
  | [], u, v, j, _ => rfl
  | x :: L, u, v, j, h => by
    show u x.1 * x.2 j + comb L u j = v x.1 * x.2 j + comb L v j
    rw [comb_congr L u v j fun y hy => h y (List.mem_cons_of_mem _ hy), h x List.mem_cons_self]
/-- a vector that is 1 at one lead and 0 at the others -/
theorem comb_pick : ∀ (L : List (Rw α)) (v : Vc α) (x : Rw α) (j : Nat), x ∈ L → L.Pairwise (fun a b => a.1 ≠ b.1) → v x.1 = 1 → (∀ y ∈ L, y.1 ≠ x.1 → v y.1 = 0) → comb L v j = x.2 j
  | [], v, x, j, h, _, _, _ => nomatch h
  | y :: L, v, x, j, h, hn, h1, h0 => by
    obtain ⟨n1, n2⟩ := List.pairwise_cons.mp hn
    show v y.1 * y.2 j + comb L v j = x.2 j
    rcases List.mem_cons.mp h with rfl | h
    · rw [comb_zero L v j fun z hz => h0 z (List.mem_cons_of_mem _ hz) (fun q => n1 z hz q.symm), h1]
      grind
    · rw [comb_pick L v x j h n2 h1 fun z hz => h0 z (List.mem_cons_of_mem _ hz), h0 y List.mem_cons_self (n1 x h)]
      grind
theorem RedV.mem_row {L : List (Rw α)} (R : RedV L) {x : Rw α} (hx : x ∈ L) : Mem L x.2 := fun j => (comb_pick L x.2 x j hx R.nd (R.one x hx) fun y hy hne => R.zero x hx y hy fun q => hne q.symm).symm
theorem Mem.zero {L : List (Rw α)} : Mem L (fun _ => 0) := fun j => (comb_zero L _ j fun _ _ => rfl).symm
theorem Mem.axpy {L : List (Rw α)} {u v : Vc α} (c : α) (hu : Mem L u) (hv : Mem L v) : Mem L (fun j => u j + c * v j) := fun j => by
  rw [comb_add, ← hu j, ← hv j]
theorem RedV.mem_of_sp {L : List (Rw α)} (R : RedV L) {v : Vc α} (h : Sp (L.map (·.2)) v) : Mem L v := by
  induction h with
  | zero => exact Mem.zero
  | add r c v hr _ ih =>
    obtain ⟨x, hx, rfl⟩ := List.mem_map.mp hr
    exact ih.axpy c (R.mem_row hx)
theorem sp_comb : ∀ (L M : List (Rw α)) (v : Vc α), (∀ x ∈ L, x ∈ M) → Sp (M.map (·.2)) (comb L v)
  | [], M, v, _ => .zero
  | x :: L, M, v, h => by
    have e : comb (x :: L) v = fun j => comb L v j + v x.1 * x.2 j := by
      funext j
      show v x.1 * x.2 j + comb L v j = _
      grind
    rw [e]
    exact .add _ _ _ (List.mem_map_of_mem (h x List.mem_cons_self)) (sp_comb L M v fun y hy => h y (List.mem_cons_of_mem _ hy))
theorem sp_of_mem {L : List (Rw α)} {v : Vc α} (h : Mem L v) : Sp (L.map (·.2)) v := by
  have e : v = comb L v := funext h
  rw [e]
  exact sp_comb L L v fun _ h => h
theorem RedV.mem_iff {L : List (Rw α)} (R : RedV L) {v : Vc α} : Mem L v ↔ Sp (L.map (·.2)) v := ⟨sp_of_mem, R.mem_of_sp⟩
theorem comb_low : ∀ (L : List (Rw α)) (v : Vc α) (j : Nat), (∀ x ∈ L, v x.1 = 0 ∨ x.2 j = 0) → comb L v j = 0
  | [], v, j, _ => rfl
  | x :: L, v, j, h => by
    show v x.1 * x.2 j + comb L v j = 0
    rw [comb_low L v j fun y hy => h y (List.mem_cons_of_mem _ hy)]
    rcases h x List.mem_cons_self with q | q <;> rw [q] <;> grind
/-- the leads, told by the members -/
theorem RedV.lead_iff {L : List (Rw α)} (R : RedV L) (h10 : (1 : α) ≠ 0) (l : Nat) : (∃ x ∈ L, x.1 = l) ↔ ∃ v, Mem L v ∧ v l ≠ 0 ∧ ∀ j, j < l → v j = 0 := by
  constructor
  · rintro ⟨x, hx, rfl⟩
    exact ⟨x.2, R.mem_row hx, by rw [R.one x hx]; exact h10, R.low x hx⟩
  · rintro ⟨v, hm, h1, h0⟩
    by_cases q : ∃ x ∈ L, x.1 = l
    · exact q
    · exfalso
      apply h1
      rw [hm l]
      refine comb_low L v l fun x hx => ?_
      have hne : x.1 ≠ l := fun z => q ⟨x, hx, z⟩
      by_cases hlt : x.1 < l
      · exact .inl (h0 _ hlt)
      · exact .inr (R.low x hx l (by omega))
theorem RedV.uniq {L M : List (Rw α)} (R : RedV L) (R' : RedV M) (h10 : (1 : α) ≠ 0) (h : ∀ v, Mem L v ↔ Mem M v) {x y : Rw α} (hx : x ∈ L) (hy : y ∈ M) (e : x.1 = y.1) : x.2 = y.2 := by
  have hl : ∀ l, (∃ x ∈ L, x.1 = l) ↔ ∃ y ∈ M, y.1 = l := fun l => by
    rw [R.lead_iff h10, R'.lead_iff h10]
    exact ⟨fun ⟨v, a, b⟩ => ⟨v, (h v).mp a, b⟩, fun ⟨v, a, b⟩ => ⟨v, (h v).mpr a, b⟩⟩
  have hm : Mem L y.2 := (h _).mpr (R'.mem_row hy)
  funext j
  rw [hm j]
  refine (comb_pick L y.2 x j hx R.nd (by rw [e]; exact R'.one y hy) fun z hz hne => ?_).symm
  obtain ⟨y', hy', ey⟩ := (hl z.1).mp ⟨z, hz, rfl⟩
  rw [← ey]
  exact R'.zero y hy y' hy' fun q => hne (by rw [← ey, ← q, e])
/-- members that agree at the leads are equal -/
theorem Mem.ext {L : List (Rw α)} {u v : Vc α} (hu : Mem L u) (hv : Mem L v) (h : ∀ x ∈ L, u x.1 = v x.1) : u = v := funext fun j => by rw [hu j, hv j, comb_congr L u v j h]
/-! ### sums -/
def S : Nat → Vc α → α
  | 0, _ => 0
  | n + 1, f => S n f + f n
theorem S_congr : ∀ (n : Nat) (f g : Vc α), (∀ j, j < n → f j = g j) → S n f = S n g
  | 0, _, _, _ => rfl
  | n + 1, f, g, h => by
    show S n f + f n = S n g + g n
    rw [S_congr n f g fun j hj => h j (by omega), h n (by omega)]
theorem S_zero (n : Nat) : S n (fun _ => (0 : α)) = 0 := by
  induction n with
  | zero => rfl
  | succ n ih =>
    show S n (fun _ => (0 : α)) + 0 = 0
    rw [ih]
    grind
theorem S_axpy (n : Nat) (f g : Vc α) (c : α) : S n (fun j => f j + c * g j) = S n f + c * S n g := by
  induction n with
  | zero =>
    show (0 : α) = 0 + c * 0
    grind
  | succ n ih =>
    show S n (fun j => f j + c * g j) + (f n + c * g n) = (S n f + f n) + c * (S n g + g n)
    rw [ih]
    grind
theorem S_one {n k : Nat} (hk : k < n) (f : Vc α) (h : ∀ j, j < n → j ≠ k → f j = 0) : S n f = f k := by
  induction n with
  | zero => omega
  | succ n ih =>
    show S n f + f n = f k
    by_cases e : k = n
    · subst e
      rw [S_congr k f (fun _ => 0) (fun j hj => h j (by omega) (by omega)), S_zero]
      grind
    · rw [ih (by omega) fun j hj hne => h j (by omega) hne, h n (by omega) (fun z => e z.symm)]
      grind
theorem S_split (a b : Nat) (f : Vc α) : S (a + b) f = S a f + S b (fun j => f (a + j)) := by
  induction b with
  | zero =>
    show S a f = S a f + 0
    grind
  | succ b ih =>
    show S (a + b) f + f (a + b) = S a f + (S b (fun j => f (a + j)) + f (a + b))
    rw [ih]
    grind
def dot (n : Nat) (u v : Vc α) : α := S n fun j => u j * v j
theorem dot_zero (n : Nat) (u : Vc α) : dot n u (fun _ => 0) = 0 := by
  unfold dot
  rw [S_congr n _ (fun _ => 0) fun j _ => by grind]
  exact S_zero n
theorem dot_axpy (n : Nat) (u v r : Vc α) (c : α) : dot n u (fun j => v j + c * r j) = dot n u v + c * dot n u r := by
  unfold dot
  rw [← S_axpy]
  exact S_congr n _ _ fun j _ => by grind
theorem dot_comm (n : Nat) (u v : Vc α) : dot n u v = dot n v u := S_congr n _ _ fun j _ => by grind
theorem dot_axpyL (n : Nat) (u v r : Vc α) (c : α) : dot n (fun j => v j + c * r j) u = dot n v u + c * dot n r u := by
  rw [dot_comm, dot_axpy, dot_comm n u v, dot_comm n u r]
/-- orthogonal to all of a span -/
theorem dot_sp {n : Nat} {L : List (Vc α)} {u v : Vc α} (h : ∀ r ∈ L, dot n u r = 0) (hv : Sp L v) : dot n u v = 0 := by
  induction hv with
  | zero => exact dot_zero n u
  | add r c v hr _ ih =>
    rw [dot_axpy, ih, h r hr]
    grind
end La


set_option Elab.async false
set_option linter.all false
set_option maxRecDepth 100000
set_option maxHeartbeats 4000000
set_option autoImplicit false
/-! rows as vectors; the elimination: reduced, same span -/
namespace Pm
open PySem PySem.Spec PyProof.Rows L2 Dl Bx La
open Lean.Grind (CommRing)
structure Fd (p : Int) (α : Type) [CommRing α] where
  c : Int → α
  add : ∀ a b, c (a + b) = c a + c b
  mul : ∀ a b, c (a * b) = c a * c b
  one : c 1 = 1
  zero : c 0 = 0
  mod : ∀ a, c (a % p) = c a
  inj : ∀ a, 0 ≤ a → a < p → c a = 0 → a = 0
  ne : (1 : α) ≠ 0
def fin2 : Fd 2 (Fin 2) := by
  refine ⟨fun x => ⟨(x % 2).toNat, by omega⟩, fun a b => ?_, fun a b => ?_, rfl, rfl, fun a => ?_, fun a h0 h1 h => ?_, by decide⟩
  · apply Fin.ext
    show ((a + b) % 2).toNat = ((a % 2).toNat + (b % 2).toNat) % 2
    omega
  · apply Fin.ext
    show (a * b % 2).toNat = ((a % 2).toNat * (b % 2).toNat) % 2
    rw [Int.mul_emod]
    have h1 : a % 2 = 0 ∨ a % 2 = 1 := by omega
    have h2 : b % 2 = 0 ∨ b % 2 = 1 := by omega
    rcases h1 with h1 | h1 <;> rcases h2 with h2 | h2 <;> rw [h1, h2] <;> rfl
  · apply Fin.ext
    show (a % 2 % 2).toNat = (a % 2).toNat
    omega
  · have := congrArg Fin.val h
    have h' : (a % 2).toNat = 0 := this
    omega
def fin3 : Fd 3 (Fin 3) := by
  refine ⟨fun x => ⟨(x % 3).toNat, by omega⟩, fun a b => ?_, fun a b => ?_, rfl, rfl, fun a => ?_, fun a h0 h1 h => ?_, by decide⟩
  · apply Fin.ext
    show ((a + b) % 3).toNat = ((a % 3).toNat + (b % 3).toNat) % 3
    omega
  · apply Fin.ext
    show (a * b % 3).toNat = ((a % 3).toNat * (b % 3).toNat) % 3
    rw [Int.mul_emod]
    have h1 : a % 3 = 0 ∨ a % 3 = 1 ∨ a % 3 = 2 := by omega
    have h2 : b % 3 = 0 ∨ b % 3 = 1 ∨ b % 3 = 2 := by omega
    rcases h1 with h1 | h1 | h1 <;> rcases h2 with h2 | h2 | h2 <;> rw [h1, h2] <;> rfl
  · apply Fin.ext
    show (a % 3 % 3).toNat = (a % 3).toNat
    omega
  · have := congrArg Fin.val h
    have h' : (a % 3).toNat = 0 := this
    omega
def fin5 : Fd 5 (Fin 5) := by
  refine ⟨fun x => ⟨(x % 5).toNat, by omega⟩, fun a b => ?_, fun a b => ?_, rfl, rfl, fun a => ?_, fun a h0 h1 h => ?_, by decide⟩
  · apply Fin.ext
    show ((a + b) % 5).toNat = ((a % 5).toNat + (b % 5).toNat) % 5
    omega
  · apply Fin.ext
    show (a * b % 5).toNat = ((a % 5).toNat * (b % 5).toNat) % 5
    rw [Int.mul_emod]
    have h1 : a % 5 = 0 ∨ a % 5 = 1 ∨ a % 5 = 2 ∨ a % 5 = 3 ∨ a % 5 = 4 := by omega
    have h2 : b % 5 = 0 ∨ b % 5 = 1 ∨ b % 5 = 2 ∨ b % 5 = 3 ∨ b % 5 = 4 := by omega
    rcases h1 with h1 | h1 | h1 | h1 | h1 <;> rcases h2 with h2 | h2 | h2 | h2 | h2 <;> rw [h1, h2] <;> rfl
  · apply Fin.ext
    show (a % 5 % 5).toNat = (a % 5).toNat
    omega
  · have := congrArg Fin.val h
    have h' : (a % 5).toNat = 0 := this
    omega
def fin7 : Fd 7 (Fin 7) := by
  refine ⟨fun x => ⟨(x % 7).toNat, by omega⟩, fun a b => ?_, fun a b => ?_, rfl, rfl, fun a => ?_, fun a h0 h1 h => ?_, by decide⟩
  · apply Fin.ext
    show ((a + b) % 7).toNat = ((a % 7).toNat + (b % 7).toNat) % 7
    omega
  · apply Fin.ext
    show (a * b % 7).toNat = ((a % 7).toNat * (b % 7).toNat) % 7
    rw [Int.mul_emod]
    have h1 : a % 7 = 0 ∨ a % 7 = 1 ∨ a % 7 = 2 ∨ a % 7 = 3 ∨ a % 7 = 4 ∨ a % 7 = 5 ∨ a % 7 = 6 := by omega
    have h2 : b % 7 = 0 ∨ b % 7 = 1 ∨ b % 7 = 2 ∨ b % 7 = 3 ∨ b % 7 = 4 ∨ b % 7 = 5 ∨ b % 7 = 6 := by omega
    rcases h1 with h1 | h1 | h1 | h1 | h1 | h1 | h1 <;> rcases h2 with h2 | h2 | h2 | h2 | h2 | h2 | h2 <;> rw [h1, h2] <;> rfl
  · apply Fin.ext
    show (a % 7 % 7).toNat = (a % 7).toNat
    omega
  · have := congrArg Fin.val h
    have h' : (a % 7).toNat = 0 := this
    omega
theorem fd_of {p : Int} (hp : Pr p) : ∃ (α : Type) (_ : CommRing α), Nonempty (Fd p α) := by
  rcases hp with rfl | rfl | rfl | rfl
  · exact ⟨Fin 2, inferInstance, ⟨fin2⟩⟩
  · exact ⟨Fin 3, inferInstance, ⟨fin3⟩⟩
  · exact ⟨Fin 5, inferInstance, ⟨fin5⟩⟩
  · exact ⟨Fin 7, inferInstance, ⟨fin7⟩⟩
section
variable {p : Int} {α : Type} [CommRing α] (F : Fd p α)
theorem Fd.neg (a : Int) : F.c (-a) = -F.c a := by
  have h := F.add a (-a)
  rw [Int.add_right_neg, F.zero] at h
  grind
theorem Fd.sub (a b : Int) : F.c (a - b) = F.c a - F.c b := by
  rw [Int.sub_eq_add_neg, F.add, F.neg]
  grind
theorem Fd.eq {a b : Int} (h1 : 0 ≤ a) (h2 : a < p) (h3 : 0 ≤ b) (h4 : b < p) (h : F.c a = F.c b) : a = b := by
  have h5 : F.c ((a - b) % p) = 0 := by
    rw [F.mod, F.sub, h]
    grind
  have h6 := F.inj _ (Int.emod_nonneg _ (by omega)) (Int.emod_lt_of_pos _ (by omega)) h5
  have h7 : p ∣ a - b := Int.dvd_of_emod_eq_zero h6
  obtain ⟨k, hk⟩ := h7
  by_cases k0 : k = 0
  · subst k0
    omega
  · exfalso
    have : p * k ≤ -p ∨ p ≤ p * k := by
      rcases Int.lt_or_gt_of_ne k0 with h | h
      · left
        have : p * k ≤ p * (-1) := Int.mul_le_mul_of_nonneg_left (by omega) (by omega)
        omega
      · right
        have : p * 1 ≤ p * k := Int.mul_le_mul_of_nonneg_left (by omega) (by omega)
        omega
    omega
def vec (r : List Int) : Vc α := fun j => F.c (r.getD j 0)
theorem vec_out {n : Nat} {r : List Int} (h : r.length = n) {j : Nat} (hj : n ≤ j) : vec F r j = 0 := by
  unfold vec
  rw [show r.getD j 0 = 0 by simp [List.getD, List.getElem?_eq_none (show r.length ≤ j by omega)]]
  exact F.zero
theorem vec_addF {n : Nat} {r o : List Int} {f : Int} (hr : r.length = n) (ho : o.length = n) : vec F (addF p r o f) = fun j => vec F r j + F.c f * vec F o j := by
  funext j
  unfold vec
  rw [addF_get hr ho, F.mod, F.add, F.mul]
theorem vec_own {f : Int} {h : List Int} : vec F (h.map fun x => f * x % p) = fun j => F.c f * vec F h j := by
  funext j
  unfold vec
  rw [own_get, F.mod, F.mul]
theorem vec_inj {n : Nat} {r s : List Int} (hr : RowOk p n r) (hs : RowOk p n s) (h : vec F r = vec F s) : r = s := by
  apply List.ext_getElem
  · rw [hr.1, hs.1]
  · intro j h1 h2
    have e := congrFun h j
    unfold vec at e
    rw [getD_at h1, getD_at h2] at e
    exact F.eq (hr.2 _ (List.getElem_mem _)).1 (hr.2 _ (List.getElem_mem _)).2 (hs.2 _ (List.getElem_mem _)).1 (hs.2 _ (List.getElem_mem _)).2 e
/-- one step keeps the span -/
theorem step_sp {n i : Nat} {S : List (List Int) × List (List Int)} (hp : Pr p) (hi : i < n) (h1 : RowsOk p n S.1) (h2 : RowsOk p n S.2) (v : Vc α) : Sp (((stepF p i S).1 ++ (stepF p i S).2).map (vec F)) v ↔ Sp ((S.1 ++ S.2).map (vec F)) v := by
  have hb := hp.b
  cases e : S.1.filter fun r => r.getD i 0 != 0 with
  | nil => rw [stepF_nil e]
  | cons hd tl =>
    have hm := List.mem_filter.mp (show hd ∈ S.1.filter fun r => r.getD i 0 != 0 by rw [e]; exact List.mem_cons_self)
    have hok := h1 hd hm.1
    have hx := hok.at_ hi
    have hnz : hd.getD i 0 ≠ 0 := by simpa using hm.2
    obtain ⟨o, ho, o1, o2, o3⟩ := hp.inv (x := hd.getD i 0) (by omega) hx.2.2
    rw [stepF_cons e, ho, Option.getD_some]
    have hown := own_ok (p := p) (n := n) (h := hd) (f := o) (by omega) hok.1
    have vown : vec F (hd.map fun x => o * x % p) = fun j => F.c o * vec F hd j := vec_own F
    have hAll : ∀ r ∈ S.1 ++ S.2, RowOk p n r := fun r hr => by
      rcases List.mem_append.mp hr with hr | hr
      · exact h1 r hr
      · exact h2 r hr
    have hnew : ∀ r ∈ S.1 ++ S.2, vec F (addF p r (hd.map fun x => o * x % p) (-(r.getD i 0))) = fun j => vec F r j + F.c (-(r.getD i 0)) * vec F (hd.map fun x => o * x % p) j := fun r hr => vec_addF F (hAll r hr).1 hown.1
    have hmem : ∀ r ∈ S.1 ++ S.2, addF p r (hd.map fun x => o * x % p) (-(r.getD i 0)) ∈ (S.1.map fun r => addF p r (hd.map fun x => o * x % p) (-(r.getD i 0))) ++ ((S.2.map fun r => addF p r (hd.map fun x => o * x % p) (-(r.getD i 0))) ++ [hd.map fun x => o * x % p]) := fun r hr => by
      rcases List.mem_append.mp hr with hr | hr
      · exact List.mem_append_left _ (List.mem_map_of_mem hr)
      · exact List.mem_append_right _ (List.mem_append_left _ (List.mem_map_of_mem hr))
    constructor
    · refine Sp.sub fun w hw => ?_
      obtain ⟨q, hq, rfl⟩ := List.mem_map.mp hw
      have ownS : Sp ((S.1 ++ S.2).map (vec F)) (vec F (hd.map fun x => o * x % p)) := by
        rw [vown]
        exact (Sp.mem (List.mem_map_of_mem (List.mem_append_left _ hm.1))).smul _
      have base : ∀ r ∈ S.1 ++ S.2, Sp ((S.1 ++ S.2).map (vec F)) (vec F (addF p r (hd.map fun x => o * x % p) (-(r.getD i 0)))) := fun r hr => by
        rw [hnew r hr]
        exact Sp.axpy _ (Sp.mem (List.mem_map_of_mem hr)) ownS
      rcases List.mem_append.mp hq with hq | hq
      · obtain ⟨r, hr, rfl⟩ := List.mem_map.mp hq
        exact base r (List.mem_append_left _ hr)
      · rcases List.mem_append.mp hq with hq | hq
        · obtain ⟨r, hr, rfl⟩ := List.mem_map.mp hq
          exact base r (List.mem_append_right _ hr)
        · rw [List.mem_singleton.mp hq]
          exact ownS
    · refine Sp.sub fun w hw => ?_
      obtain ⟨r, hr, rfl⟩ := List.mem_map.mp hw
      have e1 : vec F r = fun j => vec F (addF p r (hd.map fun x => o * x % p) (-(r.getD i 0))) j + F.c (r.getD i 0) * vec F (hd.map fun x => o * x % p) j := by
        rw [hnew r hr]
        funext j
        rw [F.neg]
        grind
      rw [e1]
      refine Sp.axpy _ (Sp.mem (List.mem_map_of_mem (hmem r hr))) (Sp.mem (List.mem_map_of_mem ?_))
      exact List.mem_append_right _ (List.mem_append_right _ List.mem_cons_self)
theorem steps_sp {n : Nat} {rows : List (List Int)} (hp : Pr p) (h : RowsOk p n rows) (v : Vc α) : ∀ i, i ≤ n → (Sp (((stepsF p rows i).1 ++ (stepsF p rows i).2).map (vec F)) v ↔ Sp (rows.map (vec F)) v)
  | 0, _ => by
    show Sp ((rows ++ []).map (vec F)) v ↔ _
    rw [List.append_nil]
  | i + 1, hi => by
    have hb := hp.b
    obtain ⟨a, b⟩ := stepsF_ok (p := p) (n := n) (rows := rows) (by omega) h i
    rw [stepsF_succ, step_sp F hp (by omega) a b]
    exact steps_sp hp h v i (by omega)
/-- THE SPAN of the reduced rows -/
theorem stair_sp {n : Nat} {rows : List (List Int)} (hp : Pr p) (h : RowsOk p n rows) (v : Vc α) : Sp ((stairF p n rows).map (vec F)) v ↔ Sp (rows.map (vec F)) v := by
  rw [← steps_sp F hp h v n (Nat.le_refl _)]
  have I := stepsF_inv hp h n (Nat.le_refl _)
  unfold stairF
  rw [List.map_append]
  constructor
  · exact Sp.sub fun r hr => Sp.mem (List.mem_append_right _ hr)
  · refine Sp.sub fun w hw => ?_
    rcases List.mem_append.mp hw with hw | hw
    · obtain ⟨r, hr, rfl⟩ := List.mem_map.mp hw
      have e : vec F r = fun _ => 0 := by
        funext j
        by_cases hj : j < n
        · unfold vec
          rw [I.zero r hr j hj]
          exact F.zero
        · exact vec_out F (I.ok1 r hr).1 (by omega)
      rw [e]
      exact .zero
    · exact Sp.mem hw
end
/-! ### reduced -/
theorem stepF_lead {p : Int} {n i : Nat} {S : List (List Int) × List (List Int)} (hp : Pr p) (hi : i < n) (I : StInv p n i S) {leads : List Nat} (hl : S.2.length = leads.length) (hlt : ∀ l ∈ leads, l < i) (hinc : leads.Pairwise (· < ·))
    (hq : ∀ (k : Nat) (r : List Int) (l : Nat), S.2[k]? = some r → leads[k]? = some l → RowQ leads l r) :
    ∃ leads' : List Nat, (stepF p i S).2.length = leads'.length ∧ (∀ l ∈ leads', l < i + 1) ∧ leads'.Pairwise (· < ·) ∧ ∀ (k : Nat) (r : List Int) (l : Nat), (stepF p i S).2[k]? = some r → leads'[k]? = some l → RowQ leads' l r := by
  have hb := hp.b
  cases e : S.1.filter fun r => r.getD i 0 != 0 with
  | nil =>
    rw [stepF_nil e]
    exact ⟨leads, hl, fun l h => by have := hlt l h; omega, hinc, hq⟩
  | cons hd tl =>
    have hm := List.mem_filter.mp (show hd ∈ S.1.filter fun r => r.getD i 0 != 0 by rw [e]; exact List.mem_cons_self)
    have hdok := I.ok1 hd hm.1
    have hx := hdok.at_ hi
    have hnz : hd.getD i 0 ≠ 0 := by simpa using hm.2
    obtain ⟨o, ho, o1, o2, o3⟩ := hp.inv (x := hd.getD i 0) (by omega) hx.2.2
    rw [stepF_cons e, ho, Option.getD_some]
    have hown := own_ok (p := p) (n := n) (h := hd) (f := o) (by omega) hdok.1
    have g1 : (hd.map fun x => o * x % p).getD i 0 = 1 := by rw [own_get, Int.mul_comm, o3]
    have g0 : ∀ k, k < i → (hd.map fun x => o * x % p).getD k 0 = 0 := fun k hk => by
      rw [own_get, I.zero hd hm.1 k hk]
      simp
    refine ⟨leads ++ [i], by simp [hl], fun l h => ?_, ?_, fun k r l hr hl' => ?_⟩
    · rcases List.mem_append.mp h with h | h
      · have := hlt l h
        omega
      · rw [List.mem_singleton.mp h]
        omega
    · exact List.pairwise_append.mpr ⟨hinc, List.pairwise_singleton _ _, fun a ha b hb => by
        rw [List.mem_singleton.mp hb]
        exact hlt a ha⟩
    · by_cases hk : k < S.2.length
      · have hr' := hr
        dsimp only at hr'
        rw [List.getElem?_append_left (by rw [List.length_map]; exact hk), List.getElem?_map] at hr'
        rw [List.getElem?_append_left (by omega)] at hl'
        have hs : S.2[k]? = some S.2[k] := List.getElem?_eq_getElem hk
        rw [hs] at hr'
        cases hr'
        obtain ⟨a, b, c⟩ := hq k _ l hs hl'
        have hsok := I.ok2 S.2[k] (List.getElem_mem _)
        have hli := hlt l (List.mem_of_getElem? hl')
        have get : ∀ j, j < i → (addF p S.2[k] (hd.map fun x => o * x % p) (-(S.2[k].getD i 0))).getD j 0 = S.2[k].getD j 0 := fun j hj => by
          rw [addF_get hsok.1 hown.1, g0 j hj, Int.mul_zero, Int.add_zero]
          have := hsok.at_ (show j < n by omega)
          exact Int.emod_eq_of_lt this.2.1 this.2.2
        refine ⟨?_, fun j hj => ?_, fun j hj hne => ?_⟩
        · rw [get l hli]
          exact a
        · rw [get j (by omega)]
          exact b j hj
        · rcases List.mem_append.mp hj with hj | hj
          · rw [get j (hlt j hj)]
            exact c j hj hne
          · rw [List.mem_singleton.mp hj, addF_get hsok.1 hown.1, g1, Int.mul_one, Int.add_right_neg]
            rfl
      · have hr' := hr
        dsimp only at hr'
        rw [List.getElem?_append_right (by rw [List.length_map]; omega), List.length_map] at hr'
        rw [List.getElem?_append_right (by omega)] at hl'
        have h0 : k - S.2.length = 0 := by
          have := (List.getElem?_eq_some_iff.mp hr').1
          simpa using this
        have h00 : k - leads.length = 0 := by omega
        rw [h0] at hr'
        rw [h00] at hl'
        cases hr'
        cases hl'
        refine ⟨g1, g0, fun j hj hne => ?_⟩
        rcases List.mem_append.mp hj with hj | hj
        · exact g0 j (hlt j hj)
        · exact absurd (List.mem_singleton.mp hj) hne
theorem steps_lead {p : Int} {n : Nat} {rows : List (List Int)} (hp : Pr p) (h : RowsOk p n rows) : ∀ i, i ≤ n → ∃ leads : List Nat, (stepsF p rows i).2.length = leads.length ∧ (∀ l ∈ leads, l < i) ∧ leads.Pairwise (· < ·) ∧ ∀ (k : Nat) (r : List Int) (l : Nat), (stepsF p rows i).2[k]? = some r → leads[k]? = some l → RowQ leads l r
  | 0, _ => ⟨[], rfl, (fun l h => nomatch h), .nil, fun k r l h => by
    have h' : ([] : List (List Int))[k]? = some r := h
    simp at h'⟩
  | i + 1, hi => by
    obtain ⟨leads, a, b, c, d⟩ := steps_lead hp h i (by omega)
    rw [stepsF_succ]
    exact stepF_lead hp (by omega) (stepsF_inv hp h i (by omega)) a b c d
/-- THE REDUCED ROWS ARE REDUCED -/
theorem stair_red {p : Int} {n : Nat} {rows : List (List Int)} (hp : Pr p) (hn : n ≤ 100) (h : RowsOk p n rows) : Red p n (stairF p n rows) := by
  have hb := hp.b
  obtain ⟨leads, a, b, c, d⟩ := steps_lead hp h n (Nat.le_refl _)
  exact red_of (leads := leads) hp hn (stairF_ok (by omega) h) b c a d
end Pm


set_option Elab.async false
set_option linter.all false
set_option maxRecDepth 100000
set_option maxHeartbeats 4000000
set_option autoImplicit false
/-! a flat as the set of its members; uniqueness; turned and exchanged flats by members -/
namespace Pm
open PySem PySem.Spec PyProof.Rows L2 Dl Bx La
open Lean.Grind (CommRing)
theorem inc_ext : ∀ (l m : List Nat), l.Pairwise (· < ·) → m.Pairwise (· < ·) → (∀ x, x ∈ l ↔ x ∈ m) → l = m
  | [], [], _, _, _ => rfl
  | [], b :: m, _, _, h => nomatch (h b).mpr List.mem_cons_self
  | a :: l, [], _, _, h => nomatch (h a).mp List.mem_cons_self
  | a :: l, b :: m, h1, h2, h => by
    obtain ⟨p1, p2⟩ := List.pairwise_cons.mp h1
    obtain ⟨q1, q2⟩ := List.pairwise_cons.mp h2
    have hab : a = b := by
      rcases List.mem_cons.mp ((h a).mp List.mem_cons_self) with e | e
      · exact e
      · rcases List.mem_cons.mp ((h b).mpr List.mem_cons_self) with e2 | e2
        · exact e2.symm
        · have := p1 b e2
          have := q1 a e
          omega
    subst hab
    rw [inc_ext l m p2 q2 fun x => ?_]
    constructor
    · intro hx
      rcases List.mem_cons.mp ((h x).mp (List.mem_cons_of_mem _ hx)) with e | e
      · have := p1 x hx
        omega
      · exact e
    · intro hx
      rcases List.mem_cons.mp ((h x).mpr (List.mem_cons_of_mem _ hx)) with e | e
      · have := q1 x hx
        omega
      · exact e
section
variable {p : Int} {α : Type} [CommRing α] (F : Fd p α)
def rws (rows : List (List Int)) : List (Rw α) := rows.map fun r => (ldF r, vec F r)
def MemF (rows : List (List Int)) (v : Vc α) : Prop := Mem (rws F rows) v
def Supp (n : Nat) (v : Vc α) : Prop := ∀ j, n ≤ j → v j = 0
theorem rws_snd (rows : List (List Int)) : (rws F rows).map (·.2) = rows.map (vec F) := by
  unfold rws
  rw [List.map_map]
  rfl
theorem ld_low {r : List Int} (h : (leadF r).isSome = true) : ∀ j, j < ldF r → r.getD j 0 = 0 := by
  obtain ⟨l, hl⟩ := Option.isSome_iff_exists.mp h
  unfold ldF
  rw [hl]
  exact (lead_fact hl).2
theorem ld_lt {n : Nat} {p : Int} {r : List Int} (hr : RowOk p n r) (h : (leadF r).isSome = true) : ldF r < n := by
  obtain ⟨l, hl⟩ := Option.isSome_iff_exists.mp h
  have := leadF_lt hl
  unfold ldF
  rw [hl, ← hr.1]
  exact this
theorem red_redV {n : Nat} {rows : List (List Int)} (R : Red p n rows) : RedV (rws F rows) := by
  refine ⟨fun x hx => ?_, fun x hx y hy hne => ?_, ?_, fun x hx j hj => ?_⟩
  · obtain ⟨r, hr, rfl⟩ := List.mem_map.mp hx
    show F.c (r.getD (ldF r) 0) = 1
    rw [R.one r hr, F.one]
  · obtain ⟨r, hr, rfl⟩ := List.mem_map.mp hx
    obtain ⟨s, hs, rfl⟩ := List.mem_map.mp hy
    show F.c (r.getD (ldF s) 0) = 0
    rw [R.zero r hr s hs hne, F.zero]
  · unfold rws
    rw [List.pairwise_map]
    have := R.inc
    rw [List.pairwise_map] at this
    exact this.imp fun h => Nat.ne_of_lt h
  · obtain ⟨r, hr, rfl⟩ := List.mem_map.mp hx
    show F.c (r.getD j 0) = 0
    rw [ld_low (R.fok.hd r hr) j hj, F.zero]
theorem memF_sp {n : Nat} {rows : List (List Int)} (R : Red p n rows) (v : Vc α) : MemF F rows v ↔ Sp (rows.map (vec F)) v := by
  rw [← rws_snd]
  exact (red_redV F R).mem_iff
theorem sp_supp {n : Nat} {rows : List (List Int)} (h : RowsOk p n rows) {v : Vc α} (hv : Sp (rows.map (vec F)) v) : Supp n v := fun j hj => by
  induction hv with
  | zero => rfl
  | add r c v hr _ ih =>
    obtain ⟨s, hs, rfl⟩ := List.mem_map.mp hr
    show v j + c * vec F s j = 0
    rw [ih, vec_out F (h s hs).1 hj]
    grind
theorem MemF.supp {n : Nat} {rows : List (List Int)} (R : Red p n rows) {v : Vc α} (h : MemF F rows v) : Supp n v := sp_supp F R.fok.hr ((memF_sp F R v).mp h)
theorem memF_row {n : Nat} {rows : List (List Int)} (R : Red p n rows) {r : List Int} (hr : r ∈ rows) : MemF F rows (vec F r) := (red_redV F R).mem_row (x := (ldF r, vec F r)) (List.mem_map_of_mem (f := fun r => (ldF r, vec F r)) hr)
/-- UNIQUENESS of reduced rows -/
theorem red_uniq {n : Nat} {A B : List (List Int)} (RA : Red p n A) (RB : Red p n B) (h : ∀ v, MemF F A v ↔ MemF F B v) : A = B := by
  have VA := red_redV F RA
  have VB := red_redV F RB
  have hl : A.map ldF = B.map ldF := by
    refine inc_ext _ _ RA.inc RB.inc fun l => ?_
    have e : ∀ rows : List (List Int), l ∈ rows.map ldF ↔ ∃ x ∈ rws F rows, x.1 = l := fun rows => by
      constructor
      · intro hm
        obtain ⟨r, hr, rfl⟩ := List.mem_map.mp hm
        exact ⟨(ldF r, vec F r), List.mem_map_of_mem (f := fun r => (ldF r, vec F r)) hr, rfl⟩
      · rintro ⟨x, hx, rfl⟩
        obtain ⟨r, hr, rfl⟩ := List.mem_map.mp hx
        exact List.mem_map_of_mem hr
    rw [e A, e B, VA.lead_iff F.ne, VB.lead_iff F.ne]
    exact ⟨fun ⟨v, a, b⟩ => ⟨v, (h v).mp a, b⟩, fun ⟨v, a, b⟩ => ⟨v, (h v).mpr a, b⟩⟩
  have hlen : A.length = B.length := by
    have := congrArg List.length hl
    simpa using this
  apply List.ext_getElem hlen
  intro i h1 h2
  have e1 : ldF A[i] = ldF B[i] := by
    have := congrArg (fun l : List Nat => l[i]?) hl
    simp only [List.getElem?_map, List.getElem?_eq_getElem h1, List.getElem?_eq_getElem h2, Option.map_some, Option.some.injEq] at this
    exact this
  have m1 : A[i] ∈ A := List.getElem_mem _
  have m2 : B[i] ∈ B := List.getElem_mem _
  exact vec_inj F (RA.fok.hr _ m1) (RB.fok.hr _ m2) (VA.uniq VB F.ne h (x := (ldF A[i], vec F A[i])) (y := (ldF B[i], vec F B[i])) (List.mem_map_of_mem (f := fun r => (ldF r, vec F r)) m1) (List.mem_map_of_mem (f := fun r => (ldF r, vec F r)) m2) e1)
theorem stair_mem {n : Nat} {rows : List (List Int)} (hp : Pr p) (hn : n ≤ 100) (h : RowsOk p n rows) (v : Vc α) : MemF F (stairF p n rows) v ↔ Sp (rows.map (vec F)) v := by
  rw [memF_sp F (stair_red hp hn h), stair_sp F hp h]
/-! ### turning -/
def rho (n w : Nat) (v : Vc α) : Vc α := fun j => if j < n - w then v (j + w) else if j < n then v (j - (n - w)) else 0
theorem rho_lin (n w : Nat) : Lin (α := α) (rho n w) := by
  refine ⟨?_, fun u r c => ?_⟩
  · funext j
    unfold rho
    split
    · rfl
    split <;> rfl
  · funext j
    unfold rho
    split
    · rfl
    split
    · rfl
    · grind
theorem rho_supp (n w : Nat) (v : Vc α) : Supp n (rho n w v) := fun j hj => by
  unfold rho
  rw [if_neg (by omega), if_neg (by omega)]
theorem rho_rho {n w : Nat} (hw : w ≤ n) {v : Vc α} (hv : Supp n v) : rho n (n - w) (rho n w v) = v := by
  funext j
  unfold rho
  by_cases h1 : j < w
  · rw [if_pos (by omega), if_neg (by omega), if_pos (by omega)]
    congr 1
    omega
  · rw [if_neg (by omega)]
    by_cases h2 : j < n
    · rw [if_pos h2, if_pos (by omega)]
      congr 1
      omega
    · rw [if_neg h2, hv j (by omega)]
theorem vec_rot {n w : Nat} (hw : w ≤ n) {r : List Int} (hr : r.length = n) : vec F (rotF w r) = rho n w (vec F r) := by
  funext j
  unfold rho vec rotF
  by_cases h1 : j < n - w
  · rw [if_pos h1]
    congr 1
    unfold List.getD
    rw [List.getElem?_append_left (by rw [List.length_drop]; omega), List.getElem?_drop]
    congr 2
    omega
  · rw [if_neg h1]
    by_cases h2 : j < n
    · rw [if_pos h2]
      congr 1
      unfold List.getD
      rw [List.getElem?_append_right (by rw [List.length_drop]; omega), List.length_drop, List.getElem?_take, hr, if_pos (by omega)]
    · rw [if_neg h2]
      unfold List.getD
      rw [List.getElem?_eq_none (by rw [List.length_append, List.length_drop, List.length_take]; omega)]
      exact F.zero
theorem tu_mem {n w : Nat} {rows : List (List Int)} (R : Red p n rows) (hw : w ≤ n) (v : Vc α) : MemF F (tuF p n w rows) v ↔ Supp n v ∧ MemF F rows (rho n (n - w) v) := by
  unfold tuF
  rw [stair_mem F R.fok.hp R.fok.hn (tuRows_ok R.fok.hr), memF_sp F R]
  have e1 : (rows.map (rotF w)).map (vec F) = (rows.map (vec F)).map (rho n w) := by
    rw [List.map_map, List.map_map]
    exact List.map_congr_left fun r hr => vec_rot F hw (R.fok.hr r hr).1
  constructor
  · intro h
    refine ⟨sp_supp F (tuRows_ok R.fok.hr) h, ?_⟩
    rw [e1] at h
    have h2 := Sp.map (rho_lin n (n - w)) h
    have e2 : ((rows.map (vec F)).map (rho n w)).map (rho n (n - w)) = rows.map (vec F) := by
      rw [List.map_map, List.map_map]
      exact List.map_congr_left fun r hr => rho_rho hw fun j hj => vec_out F (R.fok.hr r hr).1 hj
    rw [e2] at h2
    exact h2
  · rintro ⟨hs, h⟩
    have h2 := Sp.map (rho_lin n w) h
    rw [← e1] at h2
    have e3 := rho_rho (n := n) (w := n - w) (by omega) hs
    rw [show n - (n - w) = w by omega] at e3
    rw [e3] at h2
    exact h2
/-! ### negation of the right ends -/
def nu (w : Nat) (v : Vc α) : Vc α := fun j => if j < w then v j else -v j
theorem nu_lin (w : Nat) : Lin (α := α) (nu w) := by
  refine ⟨?_, fun u r c => ?_⟩
  · funext j
    unfold nu
    split
    · rfl
    · grind
  · funext j
    unfold nu
    split
    · rfl
    · grind
theorem nu_nu (w : Nat) (v : Vc α) : nu w (nu w v) = v := by
  funext j
  unfold nu
  split
  · rfl
  · grind
theorem nu_supp {n w : Nat} {v : Vc α} (h : Supp n v) : Supp n (nu w v) := fun j hj => by
  unfold nu
  rw [h j hj]
  split
  · rfl
  · grind
theorem vec_neg {n w : Nat} {r : List Int} (hr : r.length = n) : vec F (negF p w r) = nu w (vec F r) := by
  funext j
  unfold nu vec negF List.getD
  by_cases h1 : j < w
  · rw [if_pos h1]
    by_cases h2 : j < r.length
    · rw [List.getElem?_append_left (by rw [List.length_take]; omega), List.getElem?_take, if_pos h1]
    · rw [List.getElem?_eq_none (by rw [List.length_append, List.length_map, List.length_drop, List.length_take]; omega), List.getElem?_eq_none (show r.length ≤ j by omega)]
  · rw [if_neg h1]
    by_cases h2 : j < r.length
    · rw [List.getElem?_append_right (by rw [List.length_take]; omega), List.getElem?_map, List.getElem?_drop, List.length_take, show w + (j - min w r.length) = j by omega, List.getElem?_eq_getElem h2]
      show F.c ((0 - r[j]) % p) = -F.c r[j]
      rw [F.mod, Int.zero_sub, F.neg]
    · rw [List.getElem?_eq_none (by rw [List.length_append, List.length_map, List.length_drop, List.length_take]; omega), List.getElem?_eq_none (show r.length ≤ j by omega)]
      show F.c 0 = -F.c 0
      rw [F.zero]
      grind
theorem neg_sp {n w : Nat} {rows : List (List Int)} (h : RowsOk p n rows) (v : Vc α) : Sp ((rows.map (negF p w)).map (vec F)) v ↔ Sp (rows.map (vec F)) (nu w v) := by
  have e1 : (rows.map (negF p w)).map (vec F) = (rows.map (vec F)).map (nu w) := by
    rw [List.map_map, List.map_map]
    exact List.map_congr_left fun r hr => vec_neg F (h r hr).1
  rw [e1]
  constructor
  · intro h
    have h2 := Sp.map (nu_lin w) h
    rw [List.map_map] at h2
    have e2 : (rows.map (vec F)).map (nu w ∘ nu w) = rows.map (vec F) := by
      rw [List.map_map]
      exact List.map_congr_left fun r _ => nu_nu w _
    rwa [e2] at h2
  · intro h
    have h2 := Sp.map (nu_lin w) h
    rwa [nu_nu] at h2
end
end Pm


set_option Elab.async false
set_option linter.all false
set_option maxRecDepth 100000
set_option maxHeartbeats 4000000
set_option autoImplicit false
/-! the upright flat: all that is orthogonal; the exchanged flat by members -/
namespace Pm
open PySem PySem.Spec PyProof.Rows L2 Dl Bx La
open Lean.Grind (CommRing)
section
variable {p : Int} {α : Type} [CommRing α] (F : Fd p α)
def unit (l : Nat) : Vc α := fun j => if j = l then 1 else 0
theorem dot_unit {n l : Nat} (hl : l < n) (v : Vc α) : dot n (unit l) v = v l := by
  unfold dot
  rw [S_one hl _ fun j _ hne => by
    unfold unit
    rw [if_neg hne]
    grind]
  unfold unit
  rw [if_pos rfl]
  grind
theorem vec_set {n l : Nat} {o : List Int} {x : Int} (ho : o.length = n) (hl : l < n) : vec F (o.set l x) = fun j => vec F o j + (F.c x - vec F o l) * unit l j := by
  funext j
  unfold vec unit
  rw [getD_set, ho]
  by_cases e : l = j
  · subst e
    rw [if_pos rfl, if_pos hl, if_pos rfl]
    grind
  · rw [if_neg e, if_neg (fun z => e z.symm)]
    grind
theorem vec_rep (n : Nat) : vec F (List.replicate n 0) = fun _ => 0 := by
  funext j
  unfold vec
  rw [getD_rep, F.zero]
def foldD (p : Int) (q : Nat) (rows : List (List Int)) (o : List Int) : List Int := rows.foldl (fun o r => o.set ((leadF r).getD 0) (-(r.getD q 0) % p)) o
theorem foldD_dot {n q : Nat} (v : Vc α) : ∀ (rows : List (List Int)) (o : List Int), o.length = n → (∀ r ∈ rows, ldF r < n) → rows.Pairwise (fun a b => ldF a ≠ ldF b) → (∀ r ∈ rows, o.getD (ldF r) 0 = 0) →
    dot n (vec F (foldD p q rows o)) v = dot n (vec F o) v - comb (rws F rows) v q
  | [], o, _, _, _, _ => by
    show dot n (vec F o) v = dot n (vec F o) v - 0
    grind
  | r :: rows, o, ho, hl, hn, h0 => by
    obtain ⟨n1, n2⟩ := List.pairwise_cons.mp hn
    have hlr := hl r List.mem_cons_self
    have e : foldD p q (r :: rows) o = foldD p q rows (o.set (ldF r) (-(r.getD q 0) % p)) := rfl
    rw [e, foldD_dot v rows _ (by rw [List.length_set, ho]) (fun s hs => hl s (List.mem_cons_of_mem _ hs)) n2 fun s hs => ?_, vec_set F ho hlr, dot_axpyL, dot_unit hlr]
    · have e2 : vec F o (ldF r) = 0 := by
        unfold vec
        rw [h0 r List.mem_cons_self, F.zero]
      have e3 : comb (rws F (r :: rows)) v q = v (ldF r) * vec F r q + comb (rws F rows) v q := rfl
      rw [e2, e3, F.mod, F.neg]
      have e4 : F.c (r.getD q 0) = vec F r q := rfl
      rw [e4]
      grind
    · rw [getD_set, if_neg (n1 s hs)]
      exact h0 s (List.mem_cons_of_mem _ hs)
theorem red_pw {n : Nat} {rows : List (List Int)} (R : Red p n rows) : rows.Pairwise (fun a b => ldF a ≠ ldF b) := by
  have := R.inc
  rw [List.pairwise_map] at this
  exact this.imp fun h => Nat.ne_of_lt h
def isLead (rows : List (List Int)) (q : Nat) : Prop := ∃ r ∈ rows, ldF r = q
theorem isLead_iff {rows : List (List Int)} {q : Nat} : (q : Int) ∈ leadsF rows ↔ isLead rows q := by
  unfold leadsF isLead
  rw [List.mem_map]
  constructor
  · rintro ⟨r, hr, e⟩
    exact ⟨r, hr, by unfold ldF; omega⟩
  · rintro ⟨r, hr, e⟩
    exact ⟨r, hr, by unfold ldF at e; omega⟩
/-- the dual row of q, dotted -/
theorem dual_dot {n q : Nat} {rows : List (List Int)} (R : Red p n rows) (hq : q < n) (hnl : ¬ isLead rows q) (v : Vc α) : dot n (vec F (dualF p n rows q)) v = v q - comb (rws F rows) v q := by
  have e : dualF p n rows q = foldD p q rows ((List.replicate n 0).set q 1) := rfl
  rw [e, foldD_dot F v rows _ (by simp) (fun r hr => ld_lt (R.fok.hr r hr) (R.fok.hd r hr)) (red_pw R) fun r hr => ?_, vec_set F (by simp) hq, dot_axpyL, dot_unit hq, vec_rep]
  · rw [F.one, show dot n (fun _ => (0 : α)) v = 0 by rw [dot_comm, dot_zero]]
    grind
  · rw [getD_set, if_neg (fun z => hnl ⟨r, hr, z.symm⟩), getD_rep]
theorem dual_supp {n q : Nat} {rows : List (List Int)} (hp : Pr p) : Supp n (vec F (dualF p n rows q)) := fun j hj => by
  have hb := hp.b
  exact vec_out F (dualF_ok (p := p) (n := n) (rows := rows) (q := q) (by omega)).1 hj
theorem comb_unit_no {rows : List (List Int)} {q j : Nat} (h : ¬ isLead rows q) : comb (rws F rows) (unit q) j = 0 := comb_zero _ _ _ fun x hx => by
  obtain ⟨r, hr, rfl⟩ := List.mem_map.mp hx
  unfold unit
  rw [if_neg fun z => h ⟨r, hr, z⟩]
/-- the dual row at a place that is no lead -/
theorem dual_at {n q k : Nat} {rows : List (List Int)} (R : Red p n rows) (hq : q < n) (hnl : ¬ isLead rows q) (hk : k < n) (hkl : ¬ isLead rows k) : vec F (dualF p n rows q) k = if q = k then 1 else 0 := by
  have h := dual_dot F R hq hnl (unit k)
  rw [dot_comm, dot_unit hk, comb_unit_no F hkl] at h
  rw [h]
  unfold unit
  split <;> grind
/-- the dual row at a lead -/
theorem dual_lead {n q : Nat} {rows : List (List Int)} (R : Red p n rows) (hq : q < n) (hnl : ¬ isLead rows q) {r : List Int} (hr : r ∈ rows) : vec F (dualF p n rows q) (ldF r) = -vec F r q := by
  have hl := ld_lt (R.fok.hr r hr) (R.fok.hd r hr)
  have h := dual_dot F R hq hnl (unit (ldF r))
  rw [dot_comm, dot_unit hl] at h
  rw [h]
  have V := red_redV F R
  rw [comb_pick (rws F rows) (unit (ldF r)) (ldF r, vec F r) q (List.mem_map_of_mem (f := fun r => (ldF r, vec F r)) hr) V.nd (by unfold unit; rw [if_pos rfl]) fun y _ hne => by
    unfold unit
    rw [if_neg hne]]
  have hne : q ≠ ldF r := fun z => hnl ⟨r, hr, z.symm⟩
  unfold unit
  rw [if_neg hne]
  grind
def nonL (n : Nat) (rows : List (List Int)) : List Nat := (List.range n).filter fun (q : Nat) => !decide ((q : Int) ∈ leadsF rows)
theorem nonL_mem {n q : Nat} {rows : List (List Int)} : q ∈ nonL n rows ↔ q < n ∧ ¬ isLead rows q := by
  unfold nonL
  rw [List.mem_filter, List.mem_range, ← isLead_iff]
  simp
theorem upF_eq (p : Int) (n : Nat) (rows : List (List Int)) : upF p n rows = (nonL n rows).map (dualF p n rows) := rfl
theorem upRows_ok {n : Nat} {rows : List (List Int)} (hp : Pr p) : RowsOk p n (upF p n rows) := by
  have hb := hp.b
  exact upAt_ok (by omega)
theorem dual_perp {n q : Nat} {rows : List (List Int)} (R : Red p n rows) (hq : q < n) (hnl : ¬ isLead rows q) {v : Vc α} (hv : MemF F rows v) : dot n (vec F (dualF p n rows q)) v = 0 := by
  rw [dual_dot F R hq hnl, ← hv q]
  grind
theorem comb_delta : ∀ (L : List (Rw α)) (u : Vc α) (q : Nat), L.Pairwise (fun a b => a.1 ≠ b.1) → (∃ x ∈ L, x.1 = q) → (∀ x ∈ L, x.2 q = if x.1 = q then 1 else 0) → comb L u q = u q
  | [], u, q, _, h, _ => by
    obtain ⟨x, hx, _⟩ := h
    exact nomatch hx
  | y :: L, u, q, hn, h, hd => by
    obtain ⟨n1, n2⟩ := List.pairwise_cons.mp hn
    show u y.1 * y.2 q + comb L u q = u q
    rw [hd y List.mem_cons_self]
    by_cases e : y.1 = q
    · rw [if_pos e, comb_low L u q fun x hx => .inr (by rw [hd x (List.mem_cons_of_mem _ hx), if_neg fun z => n1 x hx (e.trans z.symm)]), e]
      grind
    · rw [if_neg e, comb_delta L u q n2 ?_ fun x hx => hd x (List.mem_cons_of_mem _ hx)]
      · grind
      · obtain ⟨x, hx, ex⟩ := h
        rcases List.mem_cons.mp hx with rfl | hx
        · exact absurd ex e
        · exact ⟨x, hx, ex⟩
/-- THE UPRIGHT FLAT: what is orthogonal to all members -/
theorem up_perp {n : Nat} {rows : List (List Int)} (R : Red p n rows) (u : Vc α) : Sp ((upF p n rows).map (vec F)) u ↔ Supp n u ∧ ∀ v, MemF F rows v → dot n u v = 0 := by
  constructor
  · intro h
    refine ⟨sp_supp F (upRows_ok R.fok.hp) h, fun v hv => ?_⟩
    rw [dot_comm]
    refine dot_sp (fun r hr => ?_) h
    rw [upF_eq] at hr
    obtain ⟨d, hd, rfl⟩ := List.mem_map.mp hr
    obtain ⟨q, hq, rfl⟩ := List.mem_map.mp hd
    obtain ⟨h1, h2⟩ := nonL_mem.mp hq
    rw [dot_comm]
    exact dual_perp F R h1 h2 hv
  · rintro ⟨hs, ho⟩
    have hD : ∀ x ∈ (nonL n rows).map (fun q => (q, vec F (dualF p n rows q))), x.1 < n ∧ ¬ isLead rows x.1 ∧ x.2 = vec F (dualF p n rows x.1) := fun x hx => by
      obtain ⟨q, hq, rfl⟩ := List.mem_map.mp hx
      obtain ⟨h1, h2⟩ := nonL_mem.mp hq
      exact ⟨h1, h2, rfl⟩
    have hnd : ((nonL n rows).map (fun q => (q, vec F (dualF p n rows q)))).Pairwise (fun a b => a.1 ≠ b.1) := by
      rw [List.pairwise_map]
      exact (List.pairwise_lt_range.filter _).imp fun h => Nat.ne_of_lt h
    have hmap : ((nonL n rows).map (fun q => (q, vec F (dualF p n rows q)))).map (·.2) = (upF p n rows).map (vec F) := by
      rw [upF_eq, List.map_map, List.map_map]
      rfl
    have hin : ∀ q, q < n → ¬ isLead rows q → (q, vec F (dualF p n rows q)) ∈ (nonL n rows).map (fun q => (q, vec F (dualF p n rows q))) := fun q h1 h2 => List.mem_map_of_mem (f := fun q => (q, vec F (dualF p n rows q))) (nonL_mem.mpr ⟨h1, h2⟩)
    revert hD hnd hmap hin
    generalize (nonL n rows).map (fun q => (q, vec F (dualF p n rows q))) = D
    intro hD hnd hmap hin
    rw [← hmap]
    have hcs : Sp (D.map (·.2)) (comb D u) := sp_comb D D u fun _ h => h
    have hcsupp : Supp n (comb D u) := by
      rw [hmap] at hcs
      exact sp_supp F (upRows_ok R.fok.hp) hcs
    have hq0 : ∀ q, q < n → ¬ isLead rows q → comb D u q = u q := fun q h1 h2 => comb_delta D u q hnd ⟨_, hin q h1 h2, rfl⟩ fun x hx => by
      obtain ⟨a, b, e⟩ := hD x hx
      rw [e]
      exact dual_at F R a b h1 h2
    have hperp : ∀ r ∈ rows, dot n (comb D u) (vec F r) = 0 := fun r hr => by
      rw [dot_comm]
      refine dot_sp (fun w hw => ?_) hcs
      obtain ⟨x, hx, rfl⟩ := List.mem_map.mp hw
      obtain ⟨a, b, e⟩ := hD x hx
      show dot n (vec F r) x.2 = 0
      rw [dot_comm, e]
      exact dual_perp F R a b (memF_row F R hr)
    have e : u = comb D u := by
      funext j
      by_cases hj : j < n
      · by_cases hl : isLead rows j
        · obtain ⟨r, hr, rfl⟩ := hl
          have h1 := ho _ (memF_row F R hr)
          have h2 := hperp r hr
          have h3 : dot n (fun j => u j + (-1 : α) * comb D u j) (vec F r) = 0 := by
            rw [dot_axpyL, h1, h2]
            grind
          unfold dot at h3
          rw [S_one hj _ fun k hk hne => ?_] at h3
          · have h4 : vec F r (ldF r) = 1 := by
              unfold vec
              rw [R.one r hr, F.one]
            rw [h4] at h3
            grind
          · by_cases hkl : isLead rows k
            · obtain ⟨s, hs', rfl⟩ := hkl
              have h5 : vec F r (ldF s) = 0 := by
                unfold vec
                rw [R.zero r hr s hs' fun z => hne z.symm, F.zero]
              rw [h5]
              grind
            · show (u k + (-1 : α) * comb D u k) * vec F r k = 0
              rw [hq0 k hk hkl]
              grind
        · exact (hq0 j hj hl).symm
      · rw [hs j (by omega), hcsupp j (by omega)]
    rw [e]
    exact hcs
/-- what is orthogonal to all that is orthogonal -/
theorem perp_perp {n : Nat} {rows : List (List Int)} (R : Red p n rows) {u : Vc α} (hs : Supp n u) (h : ∀ d, Supp n d → (∀ v, MemF F rows v → dot n d v = 0) → dot n d u = 0) : MemF F rows u := fun j => by
  by_cases hj : j < n
  · by_cases hl : isLead rows j
    · obtain ⟨r, hr, rfl⟩ := hl
      have V := red_redV F R
      refine (comb_delta (rws F rows) u (ldF r) V.nd ⟨_, List.mem_map_of_mem (f := fun r => (ldF r, vec F r)) hr, rfl⟩ fun x hx => ?_).symm
      obtain ⟨s, hs', rfl⟩ := List.mem_map.mp hx
      show F.c (s.getD (ldF r) 0) = if ldF s = ldF r then 1 else 0
      split
      · rename_i e
        rw [← e, R.one s hs', F.one]
      · rename_i e
        rw [R.zero s hs' r hr e, F.zero]
    · have := h _ (dual_supp F (n := n) (q := j) (rows := rows) R.fok.hp) fun v hv => dual_perp F R hj hl hv
      rw [dual_dot F R hj hl] at this
      grind
  · rw [hs j (by omega)]
    refine (comb_low _ _ _ fun x hx => .inr ?_).symm
    obtain ⟨r, hr, rfl⟩ := List.mem_map.mp hx
    exact vec_out F (R.fok.hr r hr).1 (by omega)
/-! ### the exchanged flat -/
theorem exL_red {n w : Nat} {rows : List (List Int)} (hp : Pr p) (hn : n ≤ 100) : Red p n (exL p n w rows) := stair_red hp hn (exLRows_ok hp)
theorem exF_red {n w : Nat} {rows : List (List Int)} (hp : Pr p) (hn : n ≤ 100) : Red p n (exF p n w rows) := stair_red hp hn (exRows_ok hp)
theorem tuF_red {n w : Nat} {rows : List (List Int)} (R : Red p n rows) : Red p n (tuF p n w rows) := stair_red R.fok.hp R.fok.hn (tuRows_ok R.fok.hr)
theorem exL_mem {n w : Nat} {rows : List (List Int)} (R : Red p n rows) (u : Vc α) : MemF F (exL p n w rows) u ↔ Supp n u ∧ ∀ v, MemF F rows v → dot n (nu w u) v = 0 := by
  unfold exL
  have hX : RowsOk p n ((upF p n rows).map (negF p w)) := exLRows_ok (i := n) R.fok.hp
  rw [stair_mem F R.fok.hp R.fok.hn hX, neg_sp F (upRows_ok R.fok.hp), up_perp F R]
  constructor
  · rintro ⟨a, b⟩
    have := nu_supp (w := w) a
    rw [nu_nu] at this
    exact ⟨this, b⟩
  · rintro ⟨a, b⟩
    exact ⟨nu_supp a, b⟩
theorem exF_mem {n w : Nat} {rows : List (List Int)} (R : Red p n rows) (u : Vc α) : MemF F (exF p n w rows) u ↔ Supp n u ∧ ∀ v, MemF F rows v → dot n (nu w u) v = 0 := by
  have hU := upRows_ok (n := n) (rows := rows) R.fok.hp
  have hb := R.fok.hp.b
  unfold exF
  rw [stair_mem F R.fok.hp R.fok.hn (exRows_ok R.fok.hp)]
  unfold exRows
  rw [neg_sp F (stairF_ok (by omega) hU), stair_sp F R.fok.hp hU, up_perp F R]
  constructor
  · rintro ⟨a, b⟩
    have := nu_supp (w := w) a
    rw [nu_nu] at this
    exact ⟨this, b⟩
  · rintro ⟨a, b⟩
    exact ⟨nu_supp a, b⟩
end
/-- THE TWO WAYS of exchanging agree -/
theorem ex_same {p : Int} {n w : Nat} {rows : List (List Int)} (R : Red p n rows) : exF p n w rows = exL p n w rows := by
  obtain ⟨α, inst, ⟨F⟩⟩ := fd_of R.fok.hp
  exact red_uniq F (exF_red R.fok.hp R.fok.hn) (exL_red R.fok.hp R.fok.hn) fun v => by rw [exF_mem F R, exL_mem F R]
/-- TURNING TWICE -/
theorem tu_tu {p : Int} {n w : Nat} {rows : List (List Int)} (R : Red p n rows) (hw : w ≤ n) : tuF p n (n - w) (tuF p n w rows) = rows := by
  obtain ⟨α, inst, ⟨F⟩⟩ := fd_of R.fok.hp
  refine red_uniq F (tuF_red (tuF_red R)) R fun v => ?_
  rw [tu_mem F (tuF_red R) (by omega), tu_mem F R hw, show n - (n - w) = w by omega]
  constructor
  · rintro ⟨a, _, b⟩
    rwa [rho_rho hw a] at b
  · intro h
    have hs := MemF.supp F R h
    exact ⟨hs, rho_supp n w v, by rw [rho_rho hw hs]; exact h⟩
/-- EXCHANGING TWICE -/
theorem ex_ex {p : Int} {n w : Nat} {rows : List (List Int)} (R : Red p n rows) : exL p n w (exL p n w rows) = rows := by
  obtain ⟨α, inst, ⟨F⟩⟩ := fd_of R.fok.hp
  have nud : ∀ u v : Vc α, dot n (nu w u) v = dot n u (nu w v) := fun u v => S_congr n _ _ fun j _ => by
    unfold nu
    split <;> grind
  refine red_uniq F (exL_red R.fok.hp R.fok.hn) R fun u => ?_
  rw [exL_mem F (exL_red R.fok.hp R.fok.hn)]
  constructor
  · rintro ⟨a, b⟩
    refine perp_perp F R a fun d hd hperp => ?_
    have h1 := b (nu w d) ((exL_mem F R _).mpr ⟨nu_supp hd, fun v hv => by rw [nu_nu]; exact hperp v hv⟩)
    rw [nud, nu_nu, dot_comm] at h1
    exact h1
  · intro h
    refine ⟨MemF.supp F R h, fun v hv => ?_⟩
    have := ((exL_mem F R v).mp hv).2 u h
    rw [nud, dot_comm]
    exact this
theorem S_rho {α : Type} [CommRing α] {n w : Nat} (hw : w ≤ n) (f : Vc α) : La.S n (rho n w f) = La.S n f := by
  have e : n = (n - w) + w := by omega
  have e2 : n = w + (n - w) := by omega
  have h1 : La.S n (rho n w f) = La.S (n - w) (fun j => f (j + w)) + La.S w f := by
    conv => lhs; arg 1; rw [e]
    rw [S_split, S_congr (n - w) (rho n w f) (fun j => f (j + w)) fun j hj => by unfold rho; rw [if_pos hj], S_congr w (fun j => rho n w f (n - w + j)) f fun j hj => by
      unfold rho
      rw [if_neg (by omega), if_pos (by omega)]
      congr 1
      omega]
  have h2 : La.S n f = La.S w f + La.S (n - w) (fun j => f (w + j)) := by
    conv => lhs; arg 1; rw [e2]
    rw [S_split]
  rw [h1, h2, S_congr (n - w) (fun j => f (j + w)) (fun j => f (w + j)) fun j _ => by rw [Nat.add_comm]]
  grind
/-- TURNING AND EXCHANGING commute -/
theorem ex_tu {p : Int} {n w : Nat} {rows : List (List Int)} (R : Red p n rows) (hw : w ≤ n) : exL p n (n - w) (tuF p n w rows) = tuF p n w (exL p n w rows) := by
  obtain ⟨α, inst, ⟨F⟩⟩ := fd_of R.fok.hp
  refine red_uniq F (exL_red R.fok.hp R.fok.hn) (tuF_red (exL_red R.fok.hp R.fok.hn)) fun u => ?_
  rw [exL_mem F (tuF_red R), tu_mem F (exL_red R.fok.hp R.fok.hn) hw, exL_mem F R]
  have key : ∀ (u v : Vc α), Supp n u → dot n (nu (n - w) u) (rho n w v) = -dot n (nu w (rho n (n - w) u)) v := fun u v hs => by
    have e1 : dot n (nu w (rho n (n - w) u)) v = La.S n (rho n w (fun j => nu w (rho n (n - w) u) j * v j)) := (S_rho hw _).symm
    rw [e1]
    have e2 : dot n (nu (n - w) u) (rho n w v) = La.S n (fun j => (fun _ => (0 : α)) j + (-1 : α) * rho n w (fun j => nu w (rho n (n - w) u) j * v j) j) := S_congr n _ _ fun j hj => by
      unfold nu rho
      dsimp only
      by_cases h1 : j < n - w
      · rw [if_pos h1, if_pos h1, if_pos h1, if_neg (by omega), if_neg (by omega), if_pos (by omega), show j + w - (n - (n - w)) = j by omega]
        grind
      · rw [if_neg h1, if_neg h1, if_pos hj, if_neg h1, if_pos hj, if_pos (by omega), if_pos (by omega), show j - (n - w) + (n - w) = j by omega]
        grind
    rw [e2, S_axpy, S_zero]
    grind
  constructor
  · rintro ⟨a, b⟩
    refine ⟨a, rho_supp n (n - w) u, fun v hv => ?_⟩
    have hv' : MemF F (tuF p n w rows) (rho n w v) := (tu_mem F R hw _).mpr ⟨rho_supp n w v, by rw [rho_rho hw (MemF.supp F R hv)]; exact hv⟩
    have := b _ hv'
    rw [key u v a] at this
    grind
  · rintro ⟨a, _, b⟩
    refine ⟨a, fun v hv => ?_⟩
    obtain ⟨hvs, hv2⟩ := (tu_mem F R hw v).mp hv
    have h1 := b _ hv2
    have h2 := key u (rho n (n - w) v) a
    have e3 := rho_rho (n := n) (w := n - w) (by omega) hvs
    rw [show n - (n - w) = w by omega] at e3
    rw [e3, h1] at h2
    rw [h2]
    grind
end Pm


set_option Elab.async false
set_option linter.all false
set_option maxRecDepth 100000
set_option maxHeartbeats 4000000
set_option autoImplicit false
/-! the rules of a flat, by members; turned and exchanged -/
namespace Pm
open PySem PySem.Spec PyProof.Rows L2 Dl Bx La
open Lean.Grind (CommRing)
def Tot (rows : List (List Int)) (w : Nat) : Prop := ∀ e, e < w → isLead rows e
def Sin (rows : List (List Int)) (w : Nat) : Prop := ∀ r ∈ rows, ldF r < w
def Al (rows : List (List Int)) (a b : Nat) : Prop := ∀ r ∈ rows, r.getD a 0 = r.getD b 0
def Cop (n : Nat) (rows : List (List Int)) (w : Nat) : Prop := ∀ e, w ≤ e → e < n → ∃ o, o < w ∧ Al rows e o
def Use (n : Nat) (rows : List (List Int)) (w : Nat) : Prop := ∀ e, e < w → ∃ o, w ≤ o ∧ o < n ∧ Al rows e o
def Onc (n : Nat) (rows : List (List Int)) (w : Nat) : Prop := ∀ e, w ≤ e → e < n → ∀ o, w ≤ o → o < e → ¬ Al rows e o
def Sid (n : Nat) (rows : List (List Int)) (w : Nat) : Prop := ∀ e, e < n → (∃ o, o < w ∧ Al rows e o) ∧ ∃ o, w ≤ o ∧ o < n ∧ Al rows e o
theorem Al.symm {rows : List (List Int)} {a b : Nat} (h : Al rows a b) : Al rows b a := fun r hr => (h r hr).symm
theorem Al.trans {rows : List (List Int)} {a b c : Nat} (h : Al rows a b) (h2 : Al rows b c) : Al rows a c := fun r hr => (h r hr).trans (h2 r hr)
section
variable {p : Int} {α : Type} [CommRing α] (F : Fd p α)
theorem row_range {n : Nat} {r : List Int} (hb : 0 < p) (h : RowOk p n r) (j : Nat) : 0 ≤ r.getD j 0 ∧ r.getD j 0 < p := by
  by_cases hj : j < n
  · exact (h.at_ hj).2
  · rw [show r.getD j 0 = 0 by simp [List.getD, List.getElem?_eq_none (show r.length ≤ j by rw [h.1]; omega)]]
    omega
theorem al_mem {n : Nat} {rows : List (List Int)} (R : Red p n rows) (a b : Nat) : Al rows a b ↔ ∀ v : Vc α, MemF F rows v → v a = v b := by
  have hb := R.fok.hp.b
  constructor
  · intro h v hv
    rw [hv a, hv b]
    have : ∀ L : List (List Int), (∀ r ∈ L, r.getD a 0 = r.getD b 0) → comb (rws F L) v a = comb (rws F L) v b := fun L => by
      induction L with
      | nil => intro _; rfl
      | cons r L ih =>
        intro hL
        show v (ldF r) * vec F r a + comb (rws F L) v a = v (ldF r) * vec F r b + comb (rws F L) v b
        rw [ih fun s hs => hL s (List.mem_cons_of_mem _ hs)]
        unfold vec
        rw [hL r List.mem_cons_self]
    exact this rows h
  · intro h r hr
    have e := h _ (memF_row F R hr)
    have h1 := row_range (p := p) (by omega) (R.fok.hr r hr) a
    have h2 := row_range (p := p) (by omega) (R.fok.hr r hr) b
    exact F.eq h1.1 h1.2 h2.1 h2.2 e
theorem lead_mem {n : Nat} {rows : List (List Int)} (R : Red p n rows) (l : Nat) : isLead rows l ↔ ∃ v : Vc α, MemF F rows v ∧ v l ≠ 0 ∧ ∀ j, j < l → v j = 0 := by
  rw [show (∃ v : Vc α, MemF F rows v ∧ v l ≠ 0 ∧ ∀ j, j < l → v j = 0) ↔ _ from ((red_redV F R).lead_iff F.ne l).symm]
  unfold isLead
  constructor
  · rintro ⟨r, hr, e⟩
    exact ⟨_, List.mem_map_of_mem (f := fun r => (ldF r, vec F r)) hr, e⟩
  · rintro ⟨x, hx, e⟩
    obtain ⟨r, hr, rfl⟩ := List.mem_map.mp hx
    exact ⟨r, hr, e⟩
theorem lead_lt {n : Nat} {rows : List (List Int)} (R : Red p n rows) {l : Nat} (h : isLead rows l) : l < n := by
  obtain ⟨r, hr, rfl⟩ := h
  exact ld_lt (R.fok.hr r hr) (R.fok.hd r hr)
/-- single: a member that is 0 at the left is 0 -/
theorem sin_mem {n w : Nat} {rows : List (List Int)} (R : Red p n rows) : Sin rows w ↔ ∀ v : Vc α, MemF F rows v → (∀ j, j < w → v j = 0) → v = fun _ => 0 := by
  constructor
  · intro h v hv h0
    refine Mem.ext hv Mem.zero fun x hx => ?_
    obtain ⟨r, hr, rfl⟩ := List.mem_map.mp hx
    exact h0 _ (h r hr)
  · intro h r hr
    by_cases hl : ldF r < w
    · exact hl
    · exfalso
      have e := h _ (memF_row F R hr) fun j hj => by
        unfold vec
        rw [ld_low (R.fok.hd r hr) j (by omega), F.zero]
      have e2 := congrFun e (ldF r)
      unfold vec at e2
      rw [R.one r hr, F.one] at e2
      exact F.ne e2
def sg (n w j : Nat) : Nat := if j < n - w then j + w else j - (n - w)
theorem sg_lt {n w j : Nat} (hw : w ≤ n) (hj : j < n) : sg n w j < n := by
  unfold sg
  split <;> omega
theorem rho_sg {n w j : Nat} (hj : j < n) (v : Vc α) : rho n w v j = v (sg n w j) := by
  unfold rho sg
  split
  · rfl
  · first | rw [if_pos hj] | rfl
theorem tu_of {n w : Nat} {rows : List (List Int)} (R : Red p n rows) (hw : w ≤ n) {z : Vc α} (hz : MemF F rows z) : MemF F (tuF p n w rows) (rho n w z) := (tu_mem F R hw _).mpr ⟨rho_supp n w z, by rw [rho_rho hw (MemF.supp F R hz)]; exact hz⟩
theorem tu_to {n w : Nat} {rows : List (List Int)} (R : Red p n rows) (hw : w ≤ n) {v : Vc α} (hv : MemF F (tuF p n w rows) v) : ∃ z, MemF F rows z ∧ v = rho n w z := by
  obtain ⟨a, b⟩ := (tu_mem F R hw v).mp hv
  refine ⟨_, b, ?_⟩
  have e3 := rho_rho (n := n) (w := n - w) (by omega) a
  rw [show n - (n - w) = w by omega] at e3
  exact e3.symm
theorem al_tu {n w : Nat} {rows : List (List Int)} (R : Red p n rows) (hw : w ≤ n) {a b : Nat} (ha : a < n) (hb : b < n) : Al (tuF p n w rows) a b ↔ Al rows (sg n w a) (sg n w b) := by
  obtain ⟨α, inst, ⟨F⟩⟩ := fd_of R.fok.hp
  rw [al_mem F (tuF_red R), al_mem F R]
  constructor
  · intro h z hz
    have := h _ (tu_of F R hw hz)
    rwa [rho_sg ha, rho_sg hb] at this
  · intro h v hv
    obtain ⟨z, hz, rfl⟩ := tu_to F R hw hv
    rw [rho_sg ha, rho_sg hb]
    exact h z hz
end
theorem sg_sg {n w j : Nat} (hw : w ≤ n) (hj : j < n) : sg n (n - w) (sg n w j) = j := by
  unfold sg
  split
  · rw [if_neg (by omega)]
    omega
  · rw [if_pos (by omega)]
    omega
theorem sg_right {n w j : Nat} (hw : w ≤ n) (hj : j < n) : w ≤ sg n w j ↔ j < n - w := by
  unfold sg
  split <;> omega
theorem sg_left {n w j : Nat} (hw : w ≤ n) (hj : j < n) : sg n w j < w ↔ n - w ≤ j := by
  unfold sg
  split <;> omega
/-- sides, turned: one way -/
theorem sid_tu {p : Int} {n w : Nat} {rows : List (List Int)} (R : Red p n rows) (hw : w ≤ n) (h : Sid n rows w) : Sid n (tuF p n w rows) (n - w) := by
  obtain ⟨α, inst, ⟨F⟩⟩ := fd_of R.fok.hp
  intro e he
  obtain ⟨⟨o1, h1, a1⟩, o2, h2, h3, a2⟩ := h (sg n w e) (sg_lt hw he)
  have k1 : sg n (n - w) o1 < n := sg_lt (by omega) (by omega)
  have k2 : sg n (n - w) o2 < n := sg_lt (by omega) (by omega)
  have e1 : sg n w (sg n (n - w) o1) = o1 := by
    have := sg_sg (n := n) (w := n - w) (j := o1) (by omega) (by omega)
    rwa [show n - (n - w) = w by omega] at this
  have e2 : sg n w (sg n (n - w) o2) = o2 := by
    have := sg_sg (n := n) (w := n - w) (j := o2) (by omega) (by omega)
    rwa [show n - (n - w) = w by omega] at this
  refine ⟨⟨sg n (n - w) o2, ?_, (al_tu R hw he k2).mpr (by rw [e2]; exact a2)⟩, sg n (n - w) o1, ?_, k1, (al_tu R hw he k1).mpr (by rw [e1]; exact a1)⟩
  · have := (sg_right hw k2).mp (by rw [e2]; exact h2)
    exact this
  · have := (sg_left hw k1).mp (by rw [e1]; exact h1)
    exact this
theorem sid_tu_iff {p : Int} {n w : Nat} {rows : List (List Int)} (R : Red p n rows) (hw : w ≤ n) : Sid n (tuF p n w rows) (n - w) ↔ Sid n rows w := by
  refine ⟨fun h => ?_, sid_tu R hw⟩
  have := sid_tu (w := n - w) (tuF_red (w := w) R) (by omega) h
  rwa [tu_tu R hw, show n - (n - w) = w by omega] at this
/-- free: the lot rows are members -/
def Fre (p : Int) (n : Nat) (rows : List (List Int)) : Prop := ∀ e, e < n → (leadF (redF p rows (lotF rows n e))).isNone = true
section
variable {p : Int} {α : Type} [CommRing α] (F : Fd p α)
theorem red_vec {n : Nat} : ∀ (rows : List (List Int)) (v : List Int), RowsOk p n rows → RowOk p n v → rows.Pairwise (fun a b => ldF a ≠ ldF b) → (∀ r ∈ rows, ∀ s ∈ rows, ldF r ≠ ldF s → r.getD (ldF s) 0 = 0) → 0 < p → ∀ j, vec F (redF p rows v) j = vec F v j - comb (rws F rows) (vec F v) j
  | [], v, _, _, _, _, _, j => by
    show vec F v j = vec F v j - 0
    grind
  | o :: rows, v, h1, h2, hn, hz, hp, j => by
    obtain ⟨n1, n2⟩ := List.pairwise_cons.mp hn
    have ho := h1 o List.mem_cons_self
    have e : redF p (o :: rows) v = redF p rows (addF p v o (-(v.getD (ldF o) 0))) := rfl
    have ev : vec F (addF p v o (-(v.getD (ldF o) 0))) = fun j => vec F v j + F.c (-(v.getD (ldF o) 0)) * vec F o j := vec_addF F h2.1 ho.1
    rw [e, red_vec rows _ (fun r hr => h1 r (List.mem_cons_of_mem _ hr)) (addF_ok hp h2.1 ho.1) n2 (fun r hr s hs => hz r (List.mem_cons_of_mem _ hr) s (List.mem_cons_of_mem _ hs)) hp j]
    have ec : comb (rws F rows) (vec F (addF p v o (-(v.getD (ldF o) 0)))) j = comb (rws F rows) (vec F v) j := comb_congr _ _ _ _ fun x hx => by
      obtain ⟨s, hs, rfl⟩ := List.mem_map.mp hx
      rw [ev]
      show vec F v (ldF s) + F.c (-(v.getD (ldF o) 0)) * vec F o (ldF s) = vec F v (ldF s)
      have : vec F o (ldF s) = 0 := by
        unfold vec
        rw [hz o List.mem_cons_self s (List.mem_cons_of_mem _ hs) (n1 s hs), F.zero]
      rw [this]
      grind
    have ec2 : comb (rws F (o :: rows)) (vec F v) j = vec F v (ldF o) * vec F o j + comb (rws F rows) (vec F v) j := rfl
    rw [ec, ec2, ev, F.neg]
    have e4 : F.c (v.getD (ldF o) 0) = vec F v (ldF o) := rfl
    rw [e4]
    grind
theorem none_zero {r : List Int} : (leadF r).isNone = true ↔ ∀ j, r.getD j 0 = 0 := by
  constructor
  · intro h j
    by_cases hz : r.getD j 0 = 0
    · exact hz
    · have := lead_some hz
      cases e : leadF r with
      | none =>
        rw [e] at this
        cases this
      | some l =>
        rw [e] at h
        cases h
  · intro h
    cases e : leadF r with
    | none => rfl
    | some l => exact absurd (h l) (lead_fact e).1
theorem has_mem {n : Nat} {rows : List (List Int)} (R : Red p n rows) {v : List Int} (hv : RowOk p n v) : (leadF (redF p rows v)).isNone = true ↔ MemF F rows (vec F v) := by
  have hb := R.fok.hp.b
  have hr := redF_ok (p := p) (n := n) (by omega) rows v R.fok.hr hv
  have hvec := red_vec F rows v R.fok.hr hv (red_pw R) R.zero (by omega)
  rw [none_zero]
  constructor
  · intro h j
    have := hvec j
    unfold vec at this
    rw [h j, F.zero] at this
    have e4 : vec F v j = F.c (v.getD j 0) := rfl
    show vec F v j = comb (rws F rows) (vec F v) j
    rw [e4]
    have e5 : comb (rws F rows) (vec F v) j = comb (rws F rows) (fun j => F.c (v.getD j 0)) j := rfl
    rw [e5]
    grind
  · intro h j
    have e := hvec j
    have h' : vec F v j = comb (rws F rows) (vec F v) j := h j
    rw [← h'] at e
    have e0 : F.c ((redF p rows v).getD j 0) = 0 := by
      have : vec F (redF p rows v) j = F.c ((redF p rows v).getD j 0) := rfl
      rw [← this, e]
      grind
    have hrg := row_range (p := p) (by omega) hr j
    exact F.inj _ hrg.1 hrg.2 e0
theorem alikeF_iff {rows : List (List Int)} {a b : Nat} : alikeF rows a b = true ↔ Al rows a b := by
  unfold alikeF Al
  rw [List.all_map, List.all_eq_true]
  exact ⟨fun h r hr => of_decide_eq_true (h r hr), fun h r hr => decide_eq_true (h r hr)⟩
theorem vec_lot {n e j : Nat} {rows : List (List Int)} (hj : j < n) : (Al rows e j → vec F (lotF rows n e) j = 1) ∧ (¬ Al rows e j → vec F (lotF rows n e) j = 0) := by
  have e0 : (lotF rows n e).getD j 0 = if alikeF rows e j = true then 1 else 0 := by
    unfold lotF List.getD
    rw [List.getElem?_map, List.getElem?_range hj]
    rfl
  unfold vec
  rw [e0]
  constructor
  · intro h
    rw [if_pos (alikeF_iff.mpr h), F.one]
  · intro h
    rw [if_neg (fun z => h (alikeF_iff.mp z)), F.zero]
end
theorem fre_tu {p : Int} {n w : Nat} {rows : List (List Int)} (R : Red p n rows) (hw : w ≤ n) (h : Fre p n rows) : Fre p n (tuF p n w rows) := by
  obtain ⟨α, inst, ⟨F⟩⟩ := fd_of R.fok.hp
  have hb := R.fok.hp.b
  intro e he
  have hl : ∀ rows : List (List Int), ∀ e, RowOk p n (lotF rows n e) := fun rows e => lotF_ok (by omega)
  rw [has_mem F (tuF_red R) (hl _ e)]
  have hm := (has_mem F R (hl rows (sg n w e))).mp (h _ (sg_lt hw he))
  have e1 : vec F (lotF (tuF p n w rows) n e) = rho n w (vec F (lotF rows n (sg n w e))) := by
    funext j
    by_cases hj : j < n
    · rw [rho_sg hj]
      have hiff := al_tu R hw he hj
      by_cases ha : Al (tuF p n w rows) e j
      · rw [(vec_lot F hj).1 ha, (vec_lot F (sg_lt hw hj)).1 (hiff.mp ha)]
      · rw [(vec_lot F hj).2 ha, (vec_lot F (sg_lt hw hj)).2 fun z => ha (hiff.mpr z)]
    · rw [vec_out F (hl _ e).1 (by omega), rho_supp n w _ j (by omega)]
  rw [e1]
  exact tu_of F R hw hm
theorem fre_tu_iff {p : Int} {n w : Nat} {rows : List (List Int)} (R : Red p n rows) (hw : w ≤ n) : Fre p n (tuF p n w rows) ↔ Fre p n rows := by
  refine ⟨fun h => ?_, fre_tu R hw⟩
  have := fre_tu (w := n - w) (tuF_red (w := w) R) (by omega) h
  rwa [tu_tu R hw] at this
end Pm


set_option Elab.async false
set_option linter.all false
set_option maxRecDepth 100000
set_option maxHeartbeats 4000000
set_option autoImplicit false
/-! cross; single and total, exchanged -/
namespace Pm
open PySem PySem.Spec PyProof.Rows L2 Dl Bx La
open Lean.Grind (CommRing)
structure Crs (n : Nat) (rows : List (List Int)) (w : Nat) : Prop where
  tot : Tot rows w
  sin : Sin rows w
  cop : Cop n rows w
  use : Use n rows w
  onc : Onc n rows w
/-- the row of a lead -/
theorem row_lead {p : Int} {n : Nat} {rows : List (List Int)} (R : Red p n rows) {l : Nat} (h : isLead rows l) : ∃ r ∈ rows, ldF r = l ∧ r.getD l 0 = 1 ∧ ∀ k, isLead rows k → k ≠ l → r.getD k 0 = 0 := by
  obtain ⟨r, hr, rfl⟩ := h
  refine ⟨r, hr, rfl, R.one r hr, fun k hk hne => ?_⟩
  obtain ⟨s, hs, rfl⟩ := hk
  exact R.zero r hr s hs fun z => hne z.symm
theorem crs_tu {p : Int} {n w : Nat} {rows : List (List Int)} (R : Red p n rows) (hw : w ≤ n) (h : Crs n rows w) : Crs n (tuF p n w rows) (n - w) := by
  obtain ⟨α, inst, ⟨F⟩⟩ := fd_of R.fok.hp
  have back : ∀ {o}, o < n → sg n w (sg n (n - w) o) = o := fun {o} ho => by
    have := sg_sg (n := n) (w := n - w) (j := o) (by omega) ho
    rwa [show n - (n - w) = w by omega] at this
  have blt : ∀ {o}, o < n → sg n (n - w) o < n := fun ho => sg_lt (by omega) ho
  refine ⟨fun i hi => ?_, ?_, fun e he hen => ?_, fun e he => ?_, fun e he hen o ho hoe ha => ?_⟩
  · rw [lead_mem F (tuF_red R)]
    have hin : i < n := by omega
    have hsi : sg n w i = i + w := by unfold sg; rw [if_pos hi]
    obtain ⟨o, ho, ha⟩ := h.cop (i + w) (by omega) (by omega)
    obtain ⟨r, hr, _, r1, r0⟩ := row_lead R (h.tot o ho)
    refine ⟨_, tu_of F R hw (memF_row F R hr), ?_, fun j hj => ?_⟩
    · rw [rho_sg hin, hsi]
      unfold vec
      rw [ha r hr, r1, F.one]
      exact F.ne
    · rw [rho_sg (by omega), show sg n w j = j + w by unfold sg; rw [if_pos (by omega)]]
      obtain ⟨o', ho', ha'⟩ := h.cop (j + w) (by omega) (by omega)
      unfold vec
      have hne : o' ≠ o := fun z => by
        subst z
        exact h.onc (i + w) (by omega) (by omega) (j + w) (by omega) (by omega) (ha.trans ha'.symm)
      rw [ha' r hr, r0 o' (h.tot o' ho') hne, F.zero]
  · rw [sin_mem F (tuF_red R)]
    intro v hv h0
    obtain ⟨z, hz, rfl⟩ := tu_to F R hw hv
    have hz0 : ∀ j, w ≤ j → j < n → z j = 0 := fun j h1 h2 => by
      have := h0 (j - w) (by omega)
      rw [rho_sg (by omega)] at this
      unfold sg at this
      rw [if_pos (by omega), show j - w + w = j by omega] at this
      exact this
    have hz1 : z = fun _ => 0 := by
      funext j
      by_cases hj : j < n
      · by_cases hjw : j < w
        · obtain ⟨o, h1, h2, ha⟩ := h.use j hjw
          rw [(al_mem F R j o).mp ha z hz, hz0 o h1 h2]
        · exact hz0 j (by omega) hj
      · exact MemF.supp F R hz j (by omega)
    rw [hz1]
    exact (rho_lin n w).zero
  · have hs : sg n w e < w := (sg_left hw hen).mpr he
    obtain ⟨o, h1, h2, ha⟩ := h.use _ hs
    refine ⟨sg n (n - w) o, (sg_right hw (blt h2)).mp (by rw [back h2]; exact h1), (al_tu R hw hen (blt h2)).mpr (by rw [back h2]; exact ha)⟩
  · have hen : e < n := by omega
    obtain ⟨o, h1, ha⟩ := h.cop _ ((sg_right hw hen).mpr he) (sg_lt hw hen)
    have h2 : o < n := by omega
    exact ⟨sg n (n - w) o, (sg_left hw (blt h2)).mp (by rw [back h2]; exact h1), blt h2, (al_tu R hw hen (blt h2)).mpr (by rw [back h2]; exact ha)⟩
  · have hon : o < n := by omega
    have hal := (al_tu R hw hen hon).mp ha
    have he1 := (sg_left hw hen).mpr he
    have ho1 := (sg_left hw hon).mpr ho
    obtain ⟨r, hr, _, r1, r0⟩ := row_lead R (h.tot _ he1)
    have hne : sg n w o ≠ sg n w e := by
      unfold sg
      rw [if_neg (by omega), if_neg (by omega)]
      omega
    have := hal r hr
    rw [r1, r0 _ (h.tot _ ho1) hne] at this
    omega
theorem crs_tu_iff {p : Int} {n w : Nat} {rows : List (List Int)} (R : Red p n rows) (hw : w ≤ n) : Crs n (tuF p n w rows) (n - w) ↔ Crs n rows w := by
  refine ⟨fun h => ?_, crs_tu R hw⟩
  have := crs_tu (w := n - w) (tuF_red (w := w) R) (by omega) h
  rwa [tu_tu R hw, show n - (n - w) = w by omega] at this
theorem S_two {α : Type} [CommRing α] {n a b : Nat} (hab : a < b) (hb : b < n) (f : Vc α) (h : ∀ j, j < n → j ≠ a → j ≠ b → f j = 0) : La.S n f = f a + f b := by
  have e : n = b + (n - b) := by omega
  rw [e, S_split, S_one hab f fun j hj hne => h j (by omega) hne (by omega), S_one (k := 0) (by omega) (fun j => f (b + j)) fun j hj hne => h (b + j) (by omega) (by omega) (by omega)]
  rfl
/-- the row of a left end of a cross, dotted -/
theorem crs_dot {p : Int} {n w : Nat} {rows : List (List Int)} {α : Type} [CommRing α] (F : Fd p α) (R : Red p n rows) (hw : w ≤ n) (h : Crs n rows w) {l e : Nat} (hl : l < w) (he : w ≤ e) (hen : e < n) (ha : Al rows l e) {r : List Int} (hr : r ∈ rows) (hrl : ldF r = l) (u : Vc α) : dot n (nu w u) (vec F r) = u l - u e := by
  obtain ⟨r', hr', e1, r1, r0⟩ := row_lead R (h.tot l hl)
  have e2 : r = r' := by
    have hu := red_pw R
    by_cases hne : r = r'
    · exact hne
    · exfalso
      have hz : ldF r ≠ ldF r' := by
        obtain ⟨i, hi⟩ := List.getElem?_of_mem hr
        obtain ⟨j, hj⟩ := List.getElem?_of_mem hr'
        obtain ⟨i1, i2⟩ := List.getElem?_eq_some_iff.mp hi
        obtain ⟨j1, j2⟩ := List.getElem?_eq_some_iff.mp hj
        have hij : i ≠ j := fun z => by
          subst z
          rw [hi] at hj
          exact hne (Option.some.inj hj)
        rw [List.pairwise_iff_getElem] at hu
        rcases Nat.lt_or_gt_of_ne hij with q | q
        · have := hu i j i1 j1 q
          rwa [i2, j2] at this
        · have := hu j i j1 i1 q
          rw [i2, j2] at this
          exact fun z => this z.symm
      exact hz (hrl.trans e1.symm)
  subst e2
  unfold dot
  rw [S_two (show l < e by omega) hen _ fun j hj h1 h2 => ?_]
  · have a1 : vec F r l = 1 := by
      unfold vec
      rw [r1, F.one]
    have a2 : vec F r e = 1 := by
      unfold vec
      rw [← ha r hr, r1, F.one]
    rw [a1, a2]
    unfold nu
    rw [if_pos hl, if_neg (by omega)]
    grind
  · have a0 : vec F r j = 0 := by
      unfold vec
      by_cases hjw : j < w
      · rw [r0 j (h.tot j hjw) h1, F.zero]
      · obtain ⟨o, ho, hao⟩ := h.cop j (by omega) hj
        have hne : o ≠ l := fun z => by
          subst z
          have hje : Al rows j e := hao.trans ha
          rcases Nat.lt_or_gt_of_ne h2 with q | q
          · exact h.onc e he hen j (by omega) q hje.symm
          · exact h.onc j (by omega) hj e he q hje
        rw [hao r hr, r0 o (h.tot o ho) hne, F.zero]
    rw [a0]
    grind
/-- A CROSS is its own exchange -/
theorem crs_ex {p : Int} {n w : Nat} {rows : List (List Int)} (R : Red p n rows) (hw : w ≤ n) (h : Crs n rows w) : exL p n w rows = rows := by
  obtain ⟨α, inst, ⟨F⟩⟩ := fd_of R.fok.hp
  have V := red_redV F R
  refine red_uniq F (exL_red R.fok.hp R.fok.hn) R fun u => ?_
  rw [exL_mem F R]
  constructor
  · rintro ⟨hs, ho⟩ j
    have hlead : ∀ l, l < w → comb (rws F rows) u l = u l := fun l hl => by
      obtain ⟨r, hr, rfl⟩ := h.tot l hl
      refine comb_delta (rws F rows) u (ldF r) V.nd ⟨_, List.mem_map_of_mem (f := fun r => (ldF r, vec F r)) hr, rfl⟩ fun x hx => ?_
      obtain ⟨s, hs', rfl⟩ := List.mem_map.mp hx
      show F.c (s.getD (ldF r) 0) = if ldF s = ldF r then 1 else 0
      split
      · rename_i e
        rw [← e, R.one s hs', F.one]
      · rename_i e
        rw [R.zero s hs' r hr e, F.zero]
    by_cases hj : j < n
    · by_cases hjw : j < w
      · exact (hlead j hjw).symm
      · obtain ⟨l, hl, ha⟩ := h.cop j (by omega) hj
        obtain ⟨r, hr, hrl⟩ := h.tot l hl
        have h1 := ho _ (memF_row F R hr)
        rw [crs_dot F R hw h hl (by omega) hj ha.symm hr hrl] at h1
        have h2 : comb (rws F rows) u j = comb (rws F rows) u l := by
          have : ∀ L : List (List Int), (∀ r ∈ L, r.getD j 0 = r.getD l 0) → comb (rws F L) u j = comb (rws F L) u l := fun L => by
            induction L with
            | nil => intro _; rfl
            | cons r L ih =>
              intro hL
              show u (ldF r) * vec F r j + comb (rws F L) u j = u (ldF r) * vec F r l + comb (rws F L) u l
              rw [ih fun s hs => hL s (List.mem_cons_of_mem _ hs)]
              unfold vec
              rw [hL r List.mem_cons_self]
          exact this rows ha
        show u j = comb (rws F rows) u j
        rw [h2, hlead l hl]
        grind
    · rw [hs j (by omega)]
      refine (comb_low _ _ _ fun x hx => .inr ?_).symm
      obtain ⟨r, hr, rfl⟩ := List.mem_map.mp hx
      exact vec_out F (R.fok.hr r hr).1 (by omega)
  · intro hm
    refine ⟨MemF.supp F R hm, fun v hv => ?_⟩
    refine dot_sp (fun x hx => ?_) ((memF_sp F R v).mp hv)
    obtain ⟨r, hr, rfl⟩ := List.mem_map.mp hx
    have hl := h.sin r hr
    obtain ⟨e, h1, h2, ha⟩ := h.use _ hl
    rw [crs_dot F R hw h hl h1 h2 ha hr rfl, (al_mem F R _ _).mp ha u hm]
    grind
theorem crs_ex_iff {p : Int} {n w : Nat} {rows : List (List Int)} (R : Red p n rows) (hw : w ≤ n) : Crs n (exL p n w rows) w ↔ Crs n rows w := by
  constructor
  · intro h
    have := crs_ex (exL_red (w := w) (rows := rows) R.fok.hp R.fok.hn) hw h
    rw [ex_ex R] at this
    rwa [← this] at h
  · intro h
    rw [crs_ex R hw h]
    exact h
/-! ### single and total -/
theorem dot_rho {n w : Nat} (hw : w ≤ n) {α : Type} [CommRing α] (a b : Vc α) : dot n (rho n (n - w) a) b = dot n a (rho n w b) := by
  have e1 : dot n (rho n (n - w) a) b = La.S n (rho n w (fun j => rho n (n - w) a j * b j)) := (S_rho hw _).symm
  rw [e1]
  refine S_congr n _ _ fun j hj => ?_
  unfold rho
  dsimp only
  by_cases h1 : j < n - w
  · rw [if_pos h1, if_pos h1, if_neg (by omega), if_pos (by omega), show j + w - (n - (n - w)) = j by omega]
  · rw [if_neg h1, if_pos hj, if_neg h1, if_pos hj, if_pos (by omega), show j - (n - w) + (n - w) = j by omega]
theorem sin_ex_of {p : Int} {n w : Nat} {rows : List (List Int)} (R : Red p n rows) (hw : w ≤ n) (h : Tot (tuF p n w rows) (n - w)) : Sin (exL p n w rows) w := by
  obtain ⟨α, inst, ⟨F⟩⟩ := fd_of R.fok.hp
  have RT := tuF_red (w := w) R
  rw [sin_mem F (exL_red R.fok.hp R.fok.hn)]
  intro u hu h0
  obtain ⟨hs, ho⟩ := (exL_mem F R u).mp hu
  have key : ∀ k i, i < n - w → n - w - i ≤ k → u (i + w) = 0 := by
    intro k
    induction k with
    | zero => intro i h1 h2; omega
    | succ k ih =>
      intro i h1 h2
      obtain ⟨t, ht, tl, t1, _⟩ := row_lead RT (h i h1)
      obtain ⟨_, hz⟩ := (tu_mem F R hw _).mp (memF_row F RT ht)
      have hd := ho _ hz
      unfold dot at hd
      rw [S_one (k := i + w) (by omega) _ fun j hj hne => ?_] at hd
      · unfold nu rho at hd
        rw [if_neg (by omega), if_neg (by omega), if_pos (by omega), show i + w - (n - (n - w)) = i by omega] at hd
        have e1 : vec F t i = 1 := by
          unfold vec
          rw [t1, F.one]
        rw [e1] at hd
        grind
      · by_cases hjw : j < w
        · unfold nu
          rw [if_pos hjw, h0 j hjw]
          grind
        · by_cases hlt : j < i + w
          · have e2 : rho n (n - w) (vec F t) j = 0 := by
              unfold rho
              rw [if_neg (by omega), if_pos hj]
              unfold vec
              rw [ld_low (RT.fok.hd t ht) _ (by rw [tl]; omega), F.zero]
            rw [e2]
            grind
          · have e3 := ih (j - w) (by omega) (by omega)
            rw [show j - w + w = j by omega] at e3
            unfold nu
            rw [if_neg hjw, e3]
            grind
  funext j
  by_cases hj : j < n
  · by_cases hjw : j < w
    · exact h0 j hjw
    · have := key (n - w) (j - w) (by omega) (by omega)
      rwa [show j - w + w = j by omega] at this
  · exact hs j (by omega)
theorem tot_tu_of {p : Int} {n w : Nat} {rows : List (List Int)} (R : Red p n rows) (hw : w ≤ n) (h : Sin (exL p n w rows) w) : Tot (tuF p n w rows) (n - w) := by
  obtain ⟨α, inst, ⟨F⟩⟩ := fd_of R.fok.hp
  have RT := tuF_red (w := w) R
  intro i hi
  by_cases hl : isLead (tuF p n w rows) i
  · exact hl
  exfalso
  have hin : i < n := by omega
  have hds := dual_supp F (n := n) (q := i) (rows := tuF p n w rows) R.fok.hp
  have hdi := dual_at F RT hin hl hin hl
  rw [if_pos rfl] at hdi
  have hd0 : ∀ j, i < j → j < n → vec F (dualF p n (tuF p n w rows) i) j = 0 := fun j h1 h2 => by
    by_cases hjl : isLead (tuF p n w rows) j
    · obtain ⟨r, hr, rfl⟩ := hjl
      rw [dual_lead F RT hin hl hr]
      have : vec F r i = 0 := by
        unfold vec
        rw [ld_low (RT.fok.hd r hr) i h1, F.zero]
      rw [this]
      grind
    · rw [dual_at F RT hin hl h2 hjl, if_neg (by omega)]
  have hperp := fun v hv => dual_perp F RT hin hl (v := v) hv
  revert hds hdi hd0 hperp
  generalize vec F (dualF p n (tuF p n w rows) i) = d
  intro hds hdi hd0 hperp
  have hu : MemF F (exL p n w rows) (nu w (rho n (n - w) d)) := by
    rw [exL_mem F R]
    refine ⟨nu_supp (rho_supp n (n - w) d), fun v hv => ?_⟩
    rw [nu_nu, dot_rho hw]
    exact hperp _ (tu_of F R hw hv)
  have hz := (sin_mem F (exL_red R.fok.hp R.fok.hn)).mp h _ hu fun j hj => by
    unfold nu rho
    rw [if_pos hj, if_pos (by omega)]
    by_cases hjn : j + (n - w) < n
    · exact hd0 _ (by omega) hjn
    · exact hds _ (by omega)
  have e := congrFun hz (i + w)
  unfold nu rho at e
  rw [if_neg (by omega), if_neg (by omega), if_pos (by omega), show i + w - (n - (n - w)) = i by omega, hdi] at e
  apply F.ne
  grind
theorem sin_ex {p : Int} {n w : Nat} {rows : List (List Int)} (R : Red p n rows) (hw : w ≤ n) : Sin (exL p n w rows) w ↔ Tot (tuF p n w rows) (n - w) := ⟨tot_tu_of R hw, sin_ex_of R hw⟩
theorem tot_ex {p : Int} {n w : Nat} {rows : List (List Int)} (R : Red p n rows) (hw : w ≤ n) : Tot (exL p n w rows) w ↔ Sin (tuF p n w rows) (n - w) := by
  have RE := exL_red (w := w) (rows := rows) R.fok.hp R.fok.hn
  have h := sin_ex (w := n - w) (tuF_red (w := w) RE) (by omega)
  rw [tu_tu RE hw, show n - (n - w) = w by omega, ex_tu RE hw, ex_ex R] at h
  exact h.symm
end Pm


set_option Elab.async false
set_option linter.all false
set_option maxRecDepth 100000
set_option maxHeartbeats 4000000
set_option autoImplicit false
/-! times: the transposed table -/
namespace Pm
open PySem PySem.Spec PyProof.Rows L2 Dl Bx La
open Lean.Grind (CommRing)
def cnt (k : Nat) (g : Nat → Bool) : Nat := ((List.range k).filter g).length
theorem cnt_congr {k : Nat} {g h : Nat → Bool} (e : ∀ i, i < k → g i = h i) : cnt k g = cnt k h := by
  unfold cnt
  rw [List.filter_congr fun i hi => e i (List.mem_range.mp hi)]
theorem filt_cnt {β : Type} (l : List β) (d : β) (f : β → Bool) : (l.filter f).length = cnt l.length (fun i => f (l.getD i d)) := by
  have e : l = (List.range l.length).map (fun i => l.getD i d) := by
    apply List.ext_getElem
    · simp
    · intro i h1 h2
      simp [List.getD, List.getElem?_eq_getElem h1]
  conv => lhs; rw [e]
  rw [List.filter_map, List.length_map]
  rfl
def ent (rows : List (List Int)) (i k : Nat) : Bool := (rows.getD i []).getD k 0 != 0
def Lon (rows : List (List Int)) (n w : Nat) : Prop := ∀ e, e < n → oddLone rows w e = false
theorem lead_range {p : Int} {n w : Nat} {rows : List (List Int)} (R : Red p n rows) (ht : Tot rows w) (hs : Sin rows w) : rows.map ldF = List.range w := by
  refine inc_ext _ _ R.inc List.pairwise_lt_range fun x => ?_
  rw [List.mem_range]
  constructor
  · intro h
    obtain ⟨r, hr, rfl⟩ := List.mem_map.mp h
    exact hs r hr
  · intro h
    obtain ⟨r, hr, rfl⟩ := ht x h
    exact List.mem_map_of_mem hr
theorem lon_iff {p : Int} {n w : Nat} {rows : List (List Int)} (R : Red p n rows) (hn : n = 2 * w) (ht : Tot rows w) (hs : Sin rows w) : Lon rows n w ↔ (∀ k, k < w → cnt w (fun i => ent rows i (w + k)) ≤ 1) ∧ ∀ i, i < w → cnt w (fun k => ent rows i (w + k)) ≤ 1 := by
  have hl := lead_range R ht hs
  have hlen : rows.length = w := by
    have := congrArg List.length hl
    simpa using this
  have hld : ∀ i (h : i < rows.length), ldF rows[i] = i := fun i h => by
    have := congrArg (fun l : List Nat => l[i]?) hl
    simp only [List.getElem?_map, List.getElem?_eq_getElem h, Option.map_some, List.getElem?_range (show i < w by omega), Option.some.injEq] at this
    exact this
  have hcol : ∀ e, (rows.filter fun r => r.getD e 0 != 0).length = cnt w (fun i => ent rows i e) := fun e => by
    rw [filt_cnt rows [] _, hlen]
    rfl
  have hrow : ∀ r, r ∈ rows → ((r.drop w).filter fun x => x != 0).length = cnt w (fun k => r.getD (w + k) 0 != 0) := fun r hr => by
    have hrl := (R.fok.hr r hr).1
    rw [filt_cnt (r.drop w) 0 _, List.length_drop, hrl, show n - w = w by omega]
    refine cnt_congr fun i hi => ?_
    congr 1
    unfold List.getD
    rw [List.getElem?_drop]
  have hget : ∀ i, i < w → rows.getD i [] ∈ rows ∧ ldF (rows.getD i []) = i := fun i h => by
    have hi : i < rows.length := by omega
    have e : rows.getD i [] = rows[i] := by simp [List.getD, List.getElem?_eq_getElem hi]
    rw [e]
    exact ⟨List.getElem_mem _, hld i hi⟩
  constructor
  · intro h
    refine ⟨fun k hk => ?_, fun i hi => ?_⟩
    · have := h (w + k) (by omega)
      unfold oddLone at this
      rw [if_pos (by omega), hcol] at this
      have := of_decide_eq_false this
      omega
    · have := h i (by omega)
      unfold oddLone at this
      rw [if_neg (by omega)] at this
      rw [List.any_map, List.any_eq_false] at this
      obtain ⟨m1, m2⟩ := hget i hi
      have h2 := this (rows.getD i []) (List.mem_filter.mpr ⟨m1, decide_eq_true (by rw [m2])⟩)
      have h3 : ¬ (1 : Int) < ((((rows.getD i []).drop w).filter fun x => x != 0).length : Nat) := fun z => h2 (decide_eq_true z)
      rw [hrow _ m1] at h3
      have e : cnt w (fun k => ent rows i (w + k)) = cnt w (fun k => (rows.getD i []).getD (w + k) 0 != 0) := rfl
      rw [e]
      omega
  · rintro ⟨h1, h2⟩ e he
    unfold oddLone
    by_cases hw : w ≤ e
    · rw [if_pos hw, hcol]
      have := h1 (e - w) (by omega)
      rw [show w + (e - w) = e by omega] at this
      exact decide_eq_false (by omega)
    · rw [if_neg hw, List.any_map, List.any_eq_false]
      intro r hr
      obtain ⟨hrm, hre⟩ := List.mem_filter.mp hr
      have hre' : ldF r = e := by
        have := of_decide_eq_true hre
        omega
      obtain ⟨i, hi⟩ := List.getElem?_of_mem hrm
      obtain ⟨i1, i2⟩ := List.getElem?_eq_some_iff.mp hi
      have hie : i = e := by
        have := hld i i1
        rw [i2, hre'] at this
        exact this.symm
      subst hie
      have e2 : rows.getD i [] = r := by simp [List.getD, hi]
      have h3 := h2 i (by omega)
      have e3 : cnt w (fun k => ent rows i (w + k)) = cnt w (fun k => r.getD (w + k) 0 != 0) := by
        unfold ent
        rw [e2]
      rw [e3, ← hrow r hrm] at h3
      intro hd
      have := of_decide_eq_true (show decide ((1 : Int) < (((r.drop w).filter fun x => x != 0).length : Nat)) = true from hd)
      omega
/-- THE TABLE of the exchanged flat is the transposed table of the turned one -/
theorem table_tr {p : Int} {n w : Nat} {rows : List (List Int)} (R : Red p n rows) (hn : n = 2 * w) (tE : Tot (exL p n w rows) w) (sE : Sin (exL p n w rows) w) (tT : Tot (tuF p n w rows) w) (sT : Sin (tuF p n w rows) w) {i j : Nat} (hi : i < w) (hj : j < w) :
    ent (exL p n w rows) j (w + i) = ent (tuF p n w rows) i (w + j) := by
  obtain ⟨α, inst, ⟨F⟩⟩ := fd_of R.fok.hp
  have hb := R.fok.hp.b
  have RE := exL_red (w := w) (rows := rows) R.fok.hp R.fok.hn
  have RT := tuF_red (w := w) R
  have pick : ∀ G : List (List Int), Red p n G → Tot G w → Sin G w → ∀ l, l < w → G.getD l [] ∈ G ∧ vec F (G.getD l []) l = 1 ∧ ∀ k, k < w → k ≠ l → vec F (G.getD l []) k = 0 := fun G RG ht hs l hl => by
    have hlr := lead_range RG ht hs
    have hlen : G.length = w := by
      have := congrArg List.length hlr
      simpa using this
    have hi : l < G.length := by omega
    have e : G.getD l [] = G[l] := by simp [List.getD, List.getElem?_eq_getElem hi]
    have hld : ldF G[l] = l := by
      have := congrArg (fun m : List Nat => m[l]?) hlr
      simp only [List.getElem?_map, List.getElem?_eq_getElem hi, Option.map_some, List.getElem?_range hl, Option.some.injEq] at this
      exact this
    rw [e]
    refine ⟨List.getElem_mem _, ?_, fun k hk hne => ?_⟩
    · have := RG.one G[l] (List.getElem_mem _)
      rw [hld] at this
      unfold vec
      rw [this, F.one]
    · obtain ⟨s, hs', hsk⟩ := ht k hk
      have := RG.zero G[l] (List.getElem_mem _) s hs' (by rw [hld, hsk]; exact fun z => hne z.symm)
      rw [hsk] at this
      unfold vec
      rw [this, F.zero]
  obtain ⟨me, e1, e0⟩ := pick _ RE tE sE j hj
  obtain ⟨mt, t1, t0⟩ := pick _ RT tT sT i hi
  obtain ⟨_, hz⟩ := (tu_mem F R (by omega) _).mp (memF_row F RT mt)
  have hd := ((exL_mem F R _).mp (memF_row F RE me)).2 _ hz
  unfold dot at hd
  rw [S_two (a := j) (b := w + i) (by omega) (by omega) _ fun l hl h1 h2 => ?_] at hd
  · unfold nu rho at hd
    rw [if_pos hj, if_pos (by omega), if_neg (by omega), if_neg (by omega), if_pos (by omega), e1, show w + i - (n - (n - w)) = i by omega, t1, show j + (n - w) = w + j by omega] at hd
    have hcc : F.c (((exL p n w rows).getD j []).getD (w + i) 0) = F.c (((tuF p n w rows).getD i []).getD (w + j) 0) := by
      have a1 : vec F ((exL p n w rows).getD j []) (w + i) = F.c (((exL p n w rows).getD j []).getD (w + i) 0) := rfl
      have a2 : vec F ((tuF p n w rows).getD i []) (w + j) = F.c (((tuF p n w rows).getD i []).getD (w + j) 0) := rfl
      rw [← a1, ← a2]
      grind
    have r1 := row_range (p := p) (by omega) (RE.fok.hr _ me) (w + i)
    have r2 := row_range (p := p) (by omega) (RT.fok.hr _ mt) (w + j)
    have he := F.eq r1.1 r1.2 r2.1 r2.2 hcc
    unfold ent
    rw [he]
  · unfold nu rho
    by_cases hlw : l < w
    · rw [if_pos hlw, e0 l hlw h1]
      grind
    · rw [if_neg hlw, if_neg (by omega), if_pos hl, t0 (l - (n - (n - w))) (by omega) (by omega)]
      grind
structure Tms (n : Nat) (rows : List (List Int)) (w : Nat) : Prop where
  many : n = 2 * w
  tot : Tot rows w
  sin : Sin rows w
  lon : Lon rows n w
theorem tms_ex {p : Int} {n w : Nat} {rows : List (List Int)} (R : Red p n rows) (hw : w ≤ n) : Tms n (exL p n w rows) w ↔ Tms n (tuF p n w rows) (n - w) := by
  have RE := exL_red (w := w) (rows := rows) R.fok.hp R.fok.hn
  have RT := tuF_red (w := w) R
  constructor
  · rintro ⟨hm, ht, hs, hl⟩
    have hw2 : n - w = w := by omega
    have tT := (sin_ex R hw).mp hs
    have sT := (tot_ex R hw).mp ht
    rw [hw2] at tT sT ⊢
    refine ⟨hm, tT, sT, (lon_iff RT hm tT sT).mpr ?_⟩
    obtain ⟨c1, c2⟩ := (lon_iff RE hm ht hs).mp hl
    refine ⟨fun k hk => ?_, fun i hi => ?_⟩
    · have := c2 k hk
      rwa [cnt_congr fun i hi => table_tr R hm ht hs tT sT hi hk] at this
    · have := c1 i hi
      rwa [cnt_congr fun k hk => table_tr R hm ht hs tT sT hi hk] at this
  · rintro ⟨hm, tT, sT, hl⟩
    have hw2 : n - w = w := by omega
    have hs := (sin_ex R hw).mpr tT
    have ht := (tot_ex R hw).mpr sT
    rw [hw2] at tT sT hl hm
    refine ⟨hm, ht, hs, (lon_iff RE hm ht hs).mpr ?_⟩
    obtain ⟨c1, c2⟩ := (lon_iff RT hm tT sT).mp hl
    refine ⟨fun k hk => ?_, fun i hi => ?_⟩
    · have := c2 k hk
      rwa [← cnt_congr fun i hi => table_tr R hm ht hs tT sT hk hi] at this
    · have := c1 i hi
      rwa [← cnt_congr fun k hk => table_tr R hm ht hs tT sT hk hi] at this
end Pm


set_option Elab.async false
set_option linter.all false
set_option maxRecDepth 100000
set_option maxHeartbeats 4000000
set_option autoImplicit false
/-! the papers of a rule, told -/
namespace Pm
open PySem PySem.Spec PyProof.Rows L2 Dl Bx La
section
variable {p : Int} {n w : Nat} {rows : List (List Int)}
theorem mapnil {α β : Type} (f : α → β) (l : List α) : l.map f = [] ↔ l = [] := List.map_eq_nil_iff
theorem filtnil {α : Type} (f : α → Bool) (l : List α) : l.filter f = [] ↔ ∀ x ∈ l, f x = false := by
  rw [List.filter_eq_nil_iff]
  exact ⟨fun h x hx => by simpa using h x hx, fun h x hx => by simpa using h x hx⟩
theorem isAl_iff {e : Nat} {es : List Nat} : isAlF rows e es = true ↔ ∃ o ∈ es, Al rows e o := by
  unfold isAlF
  rw [List.any_map, List.any_eq_true]
  exact ⟨fun ⟨o, h1, h2⟩ => ⟨o, h1, alikeF_iff.mp h2⟩, fun ⟨o, h1, h2⟩ => ⟨o, h1, alikeF_iff.mpr h2⟩⟩
theorem rgN_iff {e : Nat} : e ∈ rgN w n ↔ w ≤ e ∧ e < n := by
  refine ⟨rgN_mem, fun ⟨h1, h2⟩ => ?_⟩
  unfold rgN
  exact List.mem_map.mpr ⟨e - w, List.mem_range.mpr (by omega), by omega⟩
theorem pf_ends {word : Str} (h1 : word ≠ "many") (h2 : word ≠ "single") (h3 : word ≠ "free") : papersF word p n rows w = [] ↔ oddEnds word n rows w = [] := by
  unfold papersF
  rw [if_neg h1, if_neg h2, if_neg h3, mapnil]
theorem pf_total : papersF "total" p n rows w = [] ↔ Tot rows w := by
  rw [pf_ends (by decide +kernel) (by decide +kernel) (by decide +kernel)]
  unfold oddEnds
  rw [if_pos rfl, filtnil]
  constructor
  · intro h e he
    have := h e (List.mem_range.mpr he)
    rw [Bool.not_eq_false'] at this
    exact isLead_iff.mp (of_decide_eq_true this)
  · intro h e he
    rw [Bool.not_eq_false']
    exact decide_eq_true (isLead_iff.mpr (h e (List.mem_range.mp he)))
theorem pf_single : papersF "single" p n rows w = [] ↔ Sin rows w := by
  unfold papersF
  rw [if_neg (by decide +kernel), if_pos rfl, mapnil, filtnil]
  constructor
  · intro h r hr
    have := of_decide_eq_false (h r hr)
    omega
  · intro h r hr
    have := h r hr
    exact decide_eq_false (by omega)
theorem pf_copied : papersF "copied" p n rows w = [] ↔ Cop n rows w := by
  rw [pf_ends (by decide +kernel) (by decide +kernel) (by decide +kernel)]
  unfold oddEnds
  rw [if_neg (by decide +kernel), if_pos rfl, filtnil]
  constructor
  · intro h e h1 h2
    have := h e (rgN_iff.mpr ⟨h1, h2⟩)
    rw [Bool.not_eq_false', isAl_iff] at this
    obtain ⟨o, ho, ha⟩ := this
    exact ⟨o, List.mem_range.mp ho, ha⟩
  · intro h e he
    obtain ⟨h1, h2⟩ := rgN_iff.mp he
    obtain ⟨o, ho, ha⟩ := h e h1 h2
    rw [Bool.not_eq_false', isAl_iff]
    exact ⟨o, List.mem_range.mpr ho, ha⟩
theorem pf_used : papersF "used" p n rows w = [] ↔ Use n rows w := by
  rw [pf_ends (by decide +kernel) (by decide +kernel) (by decide +kernel)]
  unfold oddEnds
  rw [if_neg (by decide +kernel), if_neg (by decide +kernel), if_pos rfl, filtnil]
  constructor
  · intro h e he
    have := h e (List.mem_range.mpr he)
    rw [Bool.not_eq_false', isAl_iff] at this
    obtain ⟨o, ho, ha⟩ := this
    obtain ⟨h1, h2⟩ := rgN_iff.mp ho
    exact ⟨o, h1, h2, ha⟩
  · intro h e he
    obtain ⟨o, h1, h2, ha⟩ := h e (List.mem_range.mp he)
    rw [Bool.not_eq_false', isAl_iff]
    exact ⟨o, rgN_iff.mpr ⟨h1, h2⟩, ha⟩
theorem pf_once : papersF "once" p n rows w = [] ↔ Onc n rows w := by
  rw [pf_ends (by decide +kernel) (by decide +kernel) (by decide +kernel)]
  unfold oddEnds
  rw [if_neg (by decide +kernel), if_neg (by decide +kernel), if_neg (by decide +kernel), if_pos rfl, filtnil]
  constructor
  · intro h e h1 h2 o h3 h4 ha
    have := h e (rgN_iff.mpr ⟨h1, h2⟩)
    have h5 : isAlF rows e (rgN w e) = true := isAl_iff.mpr ⟨o, rgN_iff.mpr ⟨h3, h4⟩, ha⟩
    rw [h5] at this
    cases this
  · intro h e he
    obtain ⟨h1, h2⟩ := rgN_iff.mp he
    cases hq : isAlF rows e (rgN w e) with
    | false => rfl
    | true =>
      obtain ⟨o, ho, ha⟩ := isAl_iff.mp hq
      obtain ⟨h3, h4⟩ := rgN_iff.mp ho
      exact absurd ha (h e h1 h2 o h3 h4)
theorem all_iff (hw : w ≤ n) {e : Nat} : e ∈ List.range w ++ rgN w n ↔ e < n := by
  rw [List.mem_append, List.mem_range, rgN_iff]
  omega
theorem pf_lone (hw : w ≤ n) : papersF "lone" p n rows w = [] ↔ Lon rows n w := by
  rw [pf_ends (by decide +kernel) (by decide +kernel) (by decide +kernel)]
  unfold oddEnds
  rw [if_neg (by decide +kernel), if_neg (by decide +kernel), if_neg (by decide +kernel), if_neg (by decide +kernel), if_pos rfl, filtnil]
  exact ⟨fun h e he => h e ((all_iff hw).mpr he), fun h e he => h e ((all_iff hw).mp he)⟩
theorem pf_sides (hw : w ≤ n) : papersF "sides" p n rows w = [] ↔ Sid n rows w := by
  rw [pf_ends (by decide +kernel) (by decide +kernel) (by decide +kernel)]
  unfold oddEnds
  rw [if_neg (by decide +kernel), if_neg (by decide +kernel), if_neg (by decide +kernel), if_neg (by decide +kernel), if_neg (by decide +kernel), filtnil]
  constructor
  · intro h e he
    have := h e ((all_iff hw).mpr he)
    rw [Bool.or_eq_false_iff, Bool.not_eq_false', Bool.not_eq_false', isAl_iff, isAl_iff] at this
    obtain ⟨⟨o, h1, a1⟩, o2, h2, a2⟩ := this
    obtain ⟨h3, h4⟩ := rgN_iff.mp h2
    exact ⟨⟨o, List.mem_range.mp h1, a1⟩, o2, h3, h4, a2⟩
  · intro h e he
    obtain ⟨⟨o, h1, a1⟩, o2, h3, h4, a2⟩ := h e ((all_iff hw).mp he)
    rw [Bool.or_eq_false_iff, Bool.not_eq_false', Bool.not_eq_false', isAl_iff, isAl_iff]
    exact ⟨⟨o, List.mem_range.mpr h1, a1⟩, o2, rgN_iff.mpr ⟨h3, h4⟩, a2⟩
theorem pf_free : papersF "free" p n rows w = [] ↔ Fre p n rows := by
  unfold papersF
  rw [if_neg (by decide +kernel), if_neg (by decide +kernel), if_pos rfl, mapnil, filtnil]
  constructor
  · intro h e he
    have := h _ (List.mem_map_of_mem (f := fun e => lotF rows n e) (List.mem_range.mpr he))
    rwa [Bool.not_eq_false'] at this
  · intro h v hv
    obtain ⟨e, he, rfl⟩ := List.mem_map.mp hv
    rw [Bool.not_eq_false']
    exact h e (List.mem_range.mp he)
theorem pf_many : papersF "many" p n rows w = [] ↔ n = 2 * w := by
  unfold papersF
  rw [if_pos rfl]
  split
  · rename_i h
    exact ⟨fun _ => by omega, fun _ => rfl⟩
  · rename_i h
    exact ⟨fun z => by simp at z, fun z => absurd (by omega) h⟩
end
/-! ### the rules of a base -/
def rs (b : Str) (p : Int) (n : Nat) (rows : List (List Int)) (w : Nat) : Bool := (rulesOf b).all fun x => (papersF x p n rows w).isEmpty
section
variable {p : Int} {n w : Nat} {rows : List (List Int)}
theorem rs_iff {b : Str} : rs b p n rows w = true ↔ ∀ x ∈ rulesOf b, papersF x p n rows w = [] := by
  unfold rs
  rw [List.all_eq_true]
  exact ⟨fun h x hx => List.isEmpty_iff.mp (h x hx), fun h x hx => List.isEmpty_iff.mpr (h x hx)⟩
theorem rl_cross : rulesOf "cross" = (["total", "single", "copied", "used", "once"] : List Str) := by decide +kernel
theorem rl_cu : rulesOf "copy uncopy" = (["free", "sides"] : List Str) := by decide +kernel
theorem rl_fr : rulesOf "copy drop uncopy undrop" = (["free"] : List Str) := by decide +kernel
theorem rl_cd : rulesOf "copy drop add nought" = (["total", "single"] : List Str) := by decide +kernel
theorem rl_si : rulesOf "copy drop add nought unnought" = (["single"] : List Str) := by decide +kernel
theorem rl_to : rulesOf "copy drop add nought undrop" = (["total"] : List Str) := by decide +kernel
theorem rl_bo : rulesOf "copy drop add nought undrop unnought" = [] := by decide +kernel
theorem rl_ti : rulesOf "times" = (["many", "total", "single", "lone"] : List Str) := by decide +kernel
theorem rl_al : rulesOf "all" = [] := by decide +kernel
theorem rs_cross : rs "cross" p n rows w = true ↔ Crs n rows w := by
  rw [rs_iff, rl_cross]
  constructor
  · intro h
    exact ⟨pf_total.mp (h _ (by simp)), pf_single.mp (h _ (by simp)), pf_copied.mp (h _ (by simp)), pf_used.mp (h _ (by simp)), pf_once.mp (h _ (by simp))⟩
  · rintro ⟨a, b, c, d, e⟩ x hx
    simp only [List.mem_cons, List.not_mem_nil, or_false] at hx
    rcases hx with rfl | rfl | rfl | rfl | rfl
    · exact pf_total.mpr a
    · exact pf_single.mpr b
    · exact pf_copied.mpr c
    · exact pf_used.mpr d
    · exact pf_once.mpr e
theorem rs_cu (hw : w ≤ n) : rs "copy uncopy" p n rows w = true ↔ Fre p n rows ∧ Sid n rows w := by
  rw [rs_iff, rl_cu]
  constructor
  · intro h
    exact ⟨pf_free.mp (h _ (by simp)), (pf_sides hw).mp (h _ (by simp))⟩
  · rintro ⟨a, b⟩ x hx
    simp only [List.mem_cons, List.not_mem_nil, or_false] at hx
    rcases hx with rfl | rfl
    · exact pf_free.mpr a
    · exact (pf_sides hw).mpr b
theorem rs_fr : rs "copy drop uncopy undrop" p n rows w = true ↔ Fre p n rows := by
  rw [rs_iff, rl_fr]
  constructor
  · intro h
    exact pf_free.mp (h _ (by simp))
  · intro a x hx
    rw [List.mem_singleton.mp hx]
    exact pf_free.mpr a
theorem rs_cd : rs "copy drop add nought" p n rows w = true ↔ Tot rows w ∧ Sin rows w := by
  rw [rs_iff, rl_cd]
  constructor
  · intro h
    exact ⟨pf_total.mp (h _ (by simp)), pf_single.mp (h _ (by simp))⟩
  · rintro ⟨a, b⟩ x hx
    simp only [List.mem_cons, List.not_mem_nil, or_false] at hx
    rcases hx with rfl | rfl
    · exact pf_total.mpr a
    · exact pf_single.mpr b
theorem rs_si : rs "copy drop add nought unnought" p n rows w = true ↔ Sin rows w := by
  rw [rs_iff, rl_si]
  constructor
  · intro h
    exact pf_single.mp (h _ (by simp))
  · intro a x hx
    rw [List.mem_singleton.mp hx]
    exact pf_single.mpr a
theorem rs_to : rs "copy drop add nought undrop" p n rows w = true ↔ Tot rows w := by
  rw [rs_iff, rl_to]
  constructor
  · intro h
    exact pf_total.mp (h _ (by simp))
  · intro a x hx
    rw [List.mem_singleton.mp hx]
    exact pf_total.mpr a
theorem rs_bo : rs "copy drop add nought undrop unnought" p n rows w = true := by
  rw [rs_iff, rl_bo]
  exact fun x hx => nomatch hx
theorem rs_al : rs "all" p n rows w = true := by
  rw [rs_iff, rl_al]
  exact fun x hx => nomatch hx
theorem rs_ti (hw : w ≤ n) : rs "times" p n rows w = true ↔ Tms n rows w := by
  rw [rs_iff, rl_ti]
  constructor
  · intro h
    exact ⟨pf_many.mp (h _ (by simp)), pf_total.mp (h _ (by simp)), pf_single.mp (h _ (by simp)), (pf_lone hw).mp (h _ (by simp))⟩
  · rintro ⟨a, b, c, d⟩ x hx
    simp only [List.mem_cons, List.not_mem_nil, or_false] at hx
    rcases hx with rfl | rfl | rfl | rfl
    · exact pf_many.mpr a
    · exact pf_total.mpr b
    · exact pf_single.mpr c
    · exact (pf_lone hw).mpr d
end
/-! ### the four sights of a flat -/
def actR (k : Nat) (p : Int) (n w : Nat) (rows : List (List Int)) : List (List Int) := match k with
  | 0 => rows
  | 1 => tuF p n w rows
  | 2 => exL p n w rows
  | _ => tuF p n w (exL p n w rows)
def actW (k n w : Nat) : Nat := match k with
  | 0 => w
  | 1 => n - w
  | 2 => w
  | _ => n - w
def xr (k m : Nat) : Nat := (k ^^^ m) % 4
theorem boolext {a b : Bool} (h : a = true ↔ b = true) : a = b := by
  cases a <;> cases b <;> simp at h <;> rfl
section
variable {p : Int} {n w : Nat} {rows : List (List Int)}
theorem act_tu (R : Red p n rows) (hw : w ≤ n) {k : Nat} (hk : k < 4) : actR k p n (n - w) (tuF p n w rows) = actR (xr k 1) p n w rows ∧ actW k n (n - w) = actW (xr k 1) n w := by
  have e : n - (n - w) = w := by omega
  have RE := exL_red (w := w) (rows := rows) R.fok.hp R.fok.hn
  rcases (show k = 0 ∨ k = 1 ∨ k = 2 ∨ k = 3 by omega) with rfl | rfl | rfl | rfl
  · exact ⟨rfl, rfl⟩
  · exact ⟨tu_tu R hw, e⟩
  · exact ⟨ex_tu R hw, rfl⟩
  · refine ⟨?_, e⟩
    show tuF p n (n - w) (exL p n (n - w) (tuF p n w rows)) = exL p n w rows
    rw [ex_tu R hw, tu_tu RE hw]
theorem act_ex (R : Red p n rows) (hw : w ≤ n) {k : Nat} (hk : k < 4) : actR k p n w (exL p n w rows) = actR (xr k 2) p n w rows ∧ actW k n w = actW (xr k 2) n w := by
  rcases (show k = 0 ∨ k = 1 ∨ k = 2 ∨ k = 3 by omega) with rfl | rfl | rfl | rfl
  · exact ⟨rfl, rfl⟩
  · exact ⟨rfl, rfl⟩
  · exact ⟨ex_ex R, rfl⟩
  · refine ⟨?_, rfl⟩
    show tuF p n w (exL p n w (exL p n w rows)) = tuF p n w rows
    rw [ex_ex R]
/-- the rules of base b at the k-th sight -/
def Rk (b : Str) (k : Nat) (p : Int) (n w : Nat) (rows : List (List Int)) : Bool := rs b p n (actR k p n w rows) (actW k n w)
theorem Rk_tu (R : Red p n rows) (hw : w ≤ n) {b : Str} {k : Nat} (hk : k < 4) : Rk b k p n (n - w) (tuF p n w rows) = Rk b (xr k 1) p n w rows := by
  unfold Rk
  rw [(act_tu R hw hk).1, (act_tu R hw hk).2]
theorem Rk_ex (R : Red p n rows) (hw : w ≤ n) {b : Str} {k : Nat} (hk : k < 4) : Rk b k p n w (exL p n w rows) = Rk b (xr k 2) p n w rows := by
  unfold Rk
  rw [(act_ex R hw hk).1, (act_ex R hw hk).2]
end
end Pm


set_option Elab.async false
set_option linter.all false
set_option maxRecDepth 100000
set_option maxHeartbeats 4000000
set_option autoImplicit false
/-! the sorts that a turned, an exchanged flat has -/
namespace Pm
open PySem PySem.Spec PyProof.Rows L2 Dl Bx La
section
variable {p : Int} {n w : Nat} {rows : List (List Int)}
theorem g_cross_t (R : Red p n rows) (hw : w ≤ n) : rs "cross" p n (tuF p n w rows) (n - w) = rs "cross" p n rows w := boolext (by rw [rs_cross, rs_cross, crs_tu_iff R hw])
theorem g_cross_e (R : Red p n rows) (hw : w ≤ n) : rs "cross" p n (exL p n w rows) w = rs "cross" p n rows w := boolext (by rw [rs_cross, rs_cross, crs_ex_iff R hw])
theorem g_cu (R : Red p n rows) (hw : w ≤ n) : rs "copy uncopy" p n (tuF p n w rows) (n - w) = rs "copy uncopy" p n rows w := boolext (by rw [rs_cu (by omega), rs_cu hw, fre_tu_iff R hw, sid_tu_iff R hw])
theorem g_fr (R : Red p n rows) (hw : w ≤ n) : rs "copy drop uncopy undrop" p n (tuF p n w rows) (n - w) = rs "copy drop uncopy undrop" p n rows w := boolext (by rw [rs_fr, rs_fr, fre_tu_iff R hw])
theorem g_cd (R : Red p n rows) (hw : w ≤ n) : rs "copy drop add nought" p n (exL p n w rows) w = rs "copy drop add nought" p n (tuF p n w rows) (n - w) := boolext (by
  rw [rs_cd, rs_cd, tot_ex R hw, sin_ex R hw]
  exact ⟨fun ⟨a, b⟩ => ⟨b, a⟩, fun ⟨a, b⟩ => ⟨b, a⟩⟩)
theorem g_si (R : Red p n rows) (hw : w ≤ n) : rs "copy drop add nought unnought" p n (exL p n w rows) w = rs "copy drop add nought undrop" p n (tuF p n w rows) (n - w) := boolext (by rw [rs_si, rs_to, sin_ex R hw])
theorem g_to (R : Red p n rows) (hw : w ≤ n) : rs "copy drop add nought undrop" p n (exL p n w rows) w = rs "copy drop add nought unnought" p n (tuF p n w rows) (n - w) := boolext (by rw [rs_si, rs_to, tot_ex R hw])
theorem g_ti (R : Red p n rows) (hw : w ≤ n) : rs "times" p n (exL p n w rows) w = rs "times" p n (tuF p n w rows) (n - w) := boolext (by rw [rs_ti hw, rs_ti (by omega), tms_ex R hw])
end
def canon (b : Str) (k : Nat) : Str × Nat :=
  if b = "cross" then ("cross", 0)
  else if b = "copy uncopy" ∨ b = "copy drop uncopy undrop" then (b, if k = 0 ∨ k = 1 then 0 else 2)
  else if b = "copy drop add nought" ∨ b = "times" then (b, if k = 0 ∨ k = 3 then 0 else 1)
  else if b = "copy drop add nought unnought" then (if k = 0 then (b, 0) else if k = 1 then (b, 1) else if k = 2 then ("copy drop add nought undrop", 1) else ("copy drop add nought undrop", 0))
  else if b = "copy drop add nought undrop" then (if k = 0 then (b, 0) else if k = 1 then (b, 1) else if k = 2 then ("copy drop add nought unnought", 1) else ("copy drop add nought unnought", 0))
  else if b = "copy drop add nought undrop unnought" ∨ b = "all" then ("all", 0)
  else (b, k)
def basesS : List Str := ["cross", "copy", "copy drop", "copy uncopy", "copy drop uncopy undrop", "copy drop add nought", "copy drop add nought unnought", "copy drop add nought undrop", "copy drop add nought undrop unnought", "times", "all"]
theorem cn {b : Str} {k : Nat} {q : Str × Nat} (h : canon b k = q) {p : Int} {n w : Nat} {rows : List (List Int)} (e : Rk b k p n w rows = Rk q.1 q.2 p n w rows) : Rk b k p n w rows = Rk (canon b k).1 (canon b k).2 p n w rows := by rw [h]; exact e
theorem canon_ok {p : Int} {n w : Nat} {rows : List (List Int)} (R : Red p n rows) (hw : w ≤ n) {b : Str} (hb : b ∈ basesS) {k : Nat} (hk : k < 4) : Rk b k p n w rows = Rk (canon b k).1 (canon b k).2 p n w rows := by
  have RE := exL_red (w := w) (rows := rows) R.fok.hp R.fok.hn
  have ee := ex_ex (w := w) R
  unfold basesS at hb
  simp only [List.mem_cons, List.not_mem_nil, or_false] at hb
  have h4 : k = 0 ∨ k = 1 ∨ k = 2 ∨ k = 3 := by omega
  rcases hb with rfl | rfl | rfl | rfl | rfl | rfl | rfl | rfl | rfl | rfl | rfl
  · rcases h4 with rfl | rfl | rfl | rfl
    · exact cn (q := ("cross", 0)) (by decide +kernel) rfl
    · exact cn (q := ("cross", 0)) (by decide +kernel) (g_cross_t R hw)
    · exact cn (q := ("cross", 0)) (by decide +kernel) (g_cross_e R hw)
    · exact cn (q := ("cross", 0)) (by decide +kernel) ((g_cross_t RE hw).trans (g_cross_e R hw))
  · rcases h4 with rfl | rfl | rfl | rfl
    · exact cn (q := ("copy", 0)) (by decide +kernel) rfl
    · exact cn (q := ("copy", 1)) (by decide +kernel) rfl
    · exact cn (q := ("copy", 2)) (by decide +kernel) rfl
    · exact cn (q := ("copy", 3)) (by decide +kernel) rfl
  · rcases h4 with rfl | rfl | rfl | rfl
    · exact cn (q := ("copy drop", 0)) (by decide +kernel) rfl
    · exact cn (q := ("copy drop", 1)) (by decide +kernel) rfl
    · exact cn (q := ("copy drop", 2)) (by decide +kernel) rfl
    · exact cn (q := ("copy drop", 3)) (by decide +kernel) rfl
  · rcases h4 with rfl | rfl | rfl | rfl
    · exact cn (q := ("copy uncopy", 0)) (by decide +kernel) rfl
    · exact cn (q := ("copy uncopy", 0)) (by decide +kernel) (g_cu R hw)
    · exact cn (q := ("copy uncopy", 2)) (by decide +kernel) rfl
    · exact cn (q := ("copy uncopy", 2)) (by decide +kernel) (g_cu RE hw)
  · rcases h4 with rfl | rfl | rfl | rfl
    · exact cn (q := ("copy drop uncopy undrop", 0)) (by decide +kernel) rfl
    · exact cn (q := ("copy drop uncopy undrop", 0)) (by decide +kernel) (g_fr R hw)
    · exact cn (q := ("copy drop uncopy undrop", 2)) (by decide +kernel) rfl
    · exact cn (q := ("copy drop uncopy undrop", 2)) (by decide +kernel) (g_fr RE hw)
  · rcases h4 with rfl | rfl | rfl | rfl
    · exact cn (q := ("copy drop add nought", 0)) (by decide +kernel) rfl
    · exact cn (q := ("copy drop add nought", 1)) (by decide +kernel) rfl
    · exact cn (q := ("copy drop add nought", 1)) (by decide +kernel) (g_cd R hw)
    · exact cn (q := ("copy drop add nought", 0)) (by decide +kernel) (by
        have := g_cd RE hw
        rw [ee] at this
        exact this.symm)
  · rcases h4 with rfl | rfl | rfl | rfl
    · exact cn (q := ("copy drop add nought unnought", 0)) (by decide +kernel) rfl
    · exact cn (q := ("copy drop add nought unnought", 1)) (by decide +kernel) rfl
    · exact cn (q := ("copy drop add nought undrop", 1)) (by decide +kernel) (g_si R hw)
    · exact cn (q := ("copy drop add nought undrop", 0)) (by decide +kernel) (by
        have := g_to RE hw
        rw [ee] at this
        exact this.symm)
  · rcases h4 with rfl | rfl | rfl | rfl
    · exact cn (q := ("copy drop add nought undrop", 0)) (by decide +kernel) rfl
    · exact cn (q := ("copy drop add nought undrop", 1)) (by decide +kernel) rfl
    · exact cn (q := ("copy drop add nought unnought", 1)) (by decide +kernel) (g_to R hw)
    · exact cn (q := ("copy drop add nought unnought", 0)) (by decide +kernel) (by
        have := g_si RE hw
        rw [ee] at this
        exact this.symm)
  · have h1 : canon "copy drop add nought undrop unnought" k = (("all" : Str), 0) := by
      rcases h4 with rfl | rfl | rfl | rfl <;> decide +kernel
    refine cn h1 ?_
    unfold Rk
    rw [rs_bo, rs_al]
  · rcases h4 with rfl | rfl | rfl | rfl
    · exact cn (q := ("times", 0)) (by decide +kernel) rfl
    · exact cn (q := ("times", 1)) (by decide +kernel) rfl
    · exact cn (q := ("times", 1)) (by decide +kernel) (g_ti R hw)
    · exact cn (q := ("times", 0)) (by decide +kernel) (by
        have := g_ti RE hw
        rw [ee] at this
        exact this.symm)
  · have h1 : canon "all" k = (("all" : Str), 0) := by
      rcases h4 with rfl | rfl | rfl | rfl <;> decide +kernel
    refine cn h1 ?_
    unfold Rk
    rw [rs_al, rs_al]
def wayN (way : Str) : Nat := if way = "same" then 0 else if way = "turned" then 1 else if way = "exchanged" then 2 else 3
def codeOf (s : Str) : Str × Nat := ((othersF s).1, wayN (othersF s).2)
theorem code_fact : ∀ s ∈ sortsL, ((othersF s).2 = "same" ∨ (othersF s).2 = "turned" ∨ (othersF s).2 = "exchanged" ∨ (othersF s).2 = "both") ∧ (codeOf s).1 ∈ basesS ∧ (codeOf s).2 < 4 ∧
    mirOf true s ∈ sortsL ∧ mirOf false s ∈ sortsL ∧ canon (codeOf s).1 (xr (codeOf s).2 1) = canon (codeOf (mirOf true s)).1 (codeOf (mirOf true s)).2 ∧ canon (codeOf s).1 (xr (codeOf s).2 2) = canon (codeOf (mirOf false s)).1 (codeOf (mirOf false s)).2 := by decide +kernel
theorem xr_lt (k m : Nat) : xr k m < 4 := Nat.mod_lt _ (by omega)
section
variable {p : Int} {n w : Nat} {rows : List (List Int)}
theorem en_code (R : Red p n rows) {s : Str} (hs : s ∈ sortsL) : enoughF s p n rows w = Rk (codeOf s).1 (codeOf s).2 p n w rows := by
  obtain ⟨h, _⟩ := code_fact s hs
  show rs (othersF s).1 p n (askR p n (othersF s).2 rows w) (askW n (othersF s).2 w) = rs (othersF s).1 p n (actR (wayN (othersF s).2) p n w rows) (actW (wayN (othersF s).2) n w)
  rcases h with h | h | h | h <;> rw [h]
  · rw [show wayN "same" = 0 by decide +kernel]
    unfold askR askW
    dsimp only
    rw [if_neg (by decide +kernel), if_neg (by decide +kernel), if_neg (by decide +kernel)]
    rfl
  · rw [show wayN "turned" = 1 by decide +kernel]
    unfold askR askW
    dsimp only
    rw [if_pos (by decide +kernel), if_neg (by decide +kernel), if_pos (by decide +kernel)]
    rfl
  · rw [show wayN "exchanged" = 2 by decide +kernel]
    unfold askR askW
    dsimp only
    rw [if_neg (by decide +kernel), if_pos (by decide +kernel), if_neg (by decide +kernel), ex_same R]
    rfl
  · rw [show wayN "both" = 3 by decide +kernel]
    unfold askR askW
    dsimp only
    rw [if_pos (by decide +kernel), if_pos (by decide +kernel), if_pos (by decide +kernel), ex_same R]
    rfl
/-- A TURNED FLAT has the turned sorts -/
theorem en_tu (R : Red p n rows) (hw : w ≤ n) {s : Str} (hs : s ∈ sortsL) : enoughF s p n (tuF p n w rows) (n - w) = enoughF (mirOf true s) p n rows w := by
  obtain ⟨_, hb, hk, hm, _, hc, _⟩ := code_fact s hs
  obtain ⟨_, hb2, hk2, _⟩ := code_fact _ hm
  rw [en_code (tuF_red R) hs, en_code R hm, Rk_tu R hw hk, canon_ok R hw hb (xr_lt _ _), canon_ok R hw hb2 hk2, hc]
/-- AN EXCHANGED FLAT has the exchanged sorts -/
theorem en_ex (R : Red p n rows) (hw : w ≤ n) {s : Str} (hs : s ∈ sortsL) : enoughF s p n (exL p n w rows) w = enoughF (mirOf false s) p n rows w := by
  obtain ⟨_, hb, hk, _, hm, _, hc⟩ := code_fact s hs
  obtain ⟨_, hb2, hk2, _⟩ := code_fact _ hm
  rw [en_code (exL_red R.fok.hp R.fok.hn) hs, en_code R hm, Rk_ex R hw hk, canon_ok R hw hb (xr_lt _ _), canon_ok R hw hb2 hk2, hc]
end
end Pm


set_option Elab.async false
set_option linter.all false
set_option maxRecDepth 100000
set_option maxHeartbeats 4000000
set_option autoImplicit false
/-! the law's own rules are the program's -/
namespace Pm
open PySem PySem.Spec PyProof.Rows L2 Dl Bx La
section
variable {p : Int} {n w : Nat} {rows : List (List Int)}
theorem bad_tup {rule : Str} {e : Nat} {d : PyData} (h : badAt rule p n rows w e = some d) : isNon d = false := by
  unfold badAt at h
  split at h
  · cases h
    rfl
  split at h
  · cases h
    rfl
  split at h
  · cases h
    rfl
  split at h
  · cases h
    rfl
  split at h
  · cases h
    rfl
  split at h
  · cases h
    rfl
  split at h
  · split at h
    · cases h
    · cases h
      rfl
  · cases h
/-- nothing broken -/
theorem brokenL_non {rule : Str} : isNon (brokenL rule p n rows w) = true ↔ (∀ e, e < n → badAt rule p n rows w e = none) ∧ ¬ (decide (rule = "many") && !decide ((n : Int) = 2 * (w : Int))) = true ∧ ¬ (decide (rule = "single") && !(overF rows w).isEmpty) = true := by
  unfold brokenL
  cases hf : (List.range n).findSome? (badAt rule p n rows w) with
  | some d =>
    obtain ⟨l1, a, l2, hl, ha, _⟩ := List.findSome?_eq_some_iff.mp hf
    dsimp only
    rw [bad_tup ha]
    constructor
    · intro z
      cases z
    · rintro ⟨h, _⟩
      have hm : a ∈ List.range n := by
        rw [hl]
        simp
      rw [h a (List.mem_range.mp hm)] at ha
      cases ha
  | none =>
    have hall := List.findSome?_eq_none_iff.mp hf
    dsimp only
    constructor
    · intro h
      refine ⟨fun e he => hall e (List.mem_range.mpr he), fun z => ?_, fun z => ?_⟩
      · rw [if_pos z] at h
        cases h
      · by_cases q : (decide (rule = "many") && !decide ((n : Int) = 2 * (w : Int))) = true
        · rw [if_pos q] at h
          cases h
        · rw [if_neg q, if_pos z] at h
          cases h
    · rintro ⟨_, h2, h3⟩
      rw [if_neg h2, if_neg h3]
      rfl
theorem col_eq {a b : Nat} : colF rows a = colF rows b ↔ Al rows a b := by
  unfold colF Al
  constructor
  · intro h r hr
    exact (List.map_inj_left.mp h) r hr
  · intro h
    exact List.map_congr_left h
theorem cols_get {e : Nat} (he : e < n) : (colsF n rows)[e]? = some (colF rows e) := by
  unfold colsF
  rw [List.getElem?_map, List.getElem?_range he]
  rfl
theorem cols_len : (colsF n rows).length = n := by simp [colsF]
theorem inC_take {e : Nat} (hw : w ≤ n) : inC (colF rows e) ((colsF n rows).take w) = isAlF rows e (List.range w) := by
  refine boolext ?_
  rw [isAl_iff]
  unfold inC
  rw [List.any_eq_true]
  constructor
  · rintro ⟨z, hz, hd⟩
    obtain ⟨i, hi⟩ := List.getElem?_of_mem hz
    rw [List.getElem?_take] at hi
    split at hi
    · rename_i hiw
      rw [cols_get (by omega)] at hi
      cases hi
      exact ⟨i, List.mem_range.mpr hiw, (col_eq.mp (of_decide_eq_true hd)).symm⟩
    · cases hi
  · rintro ⟨o, ho, ha⟩
    have how := List.mem_range.mp ho
    refine ⟨colF rows o, List.mem_of_getElem? (i := o) ?_, decide_eq_true (col_eq.mpr ha.symm)⟩
    rw [List.getElem?_take, if_pos how, cols_get (by omega)]
theorem inC_drop {e : Nat} : inC (colF rows e) ((colsF n rows).drop w) = isAlF rows e (rgN w n) := by
  refine boolext ?_
  rw [isAl_iff]
  unfold inC
  rw [List.any_eq_true]
  constructor
  · rintro ⟨z, hz, hd⟩
    obtain ⟨i, hi⟩ := List.getElem?_of_mem hz
    rw [List.getElem?_drop] at hi
    have hlt : w + i < n := by
      have := (List.getElem?_eq_some_iff.mp hi).1
      rwa [cols_len] at this
    rw [cols_get hlt] at hi
    cases hi
    exact ⟨w + i, rgN_iff.mpr ⟨by omega, hlt⟩, (col_eq.mp (of_decide_eq_true hd)).symm⟩
  · rintro ⟨o, ho, ha⟩
    obtain ⟨h1, h2⟩ := rgN_iff.mp ho
    refine ⟨colF rows o, List.mem_of_getElem? (i := o - w) ?_, decide_eq_true (col_eq.mpr ha.symm)⟩
    rw [List.getElem?_drop, show w + (o - w) = o by omega, cols_get h2]
theorem inC_cut {e : Nat} (he : e < n) : inC (colF rows e) (((colsF n rows).drop w).take (e - w)) = isAlF rows e (rgN w e) := by
  refine boolext ?_
  rw [isAl_iff]
  unfold inC
  rw [List.any_eq_true]
  constructor
  · rintro ⟨z, hz, hd⟩
    obtain ⟨i, hi⟩ := List.getElem?_of_mem hz
    rw [List.getElem?_take] at hi
    split at hi
    · rename_i hie
      rw [List.getElem?_drop, cols_get (by omega)] at hi
      cases hi
      exact ⟨w + i, rgN_iff.mpr ⟨by omega, by omega⟩, (col_eq.mp (of_decide_eq_true hd)).symm⟩
    · cases hi
  · rintro ⟨o, ho, ha⟩
    obtain ⟨h1, h2⟩ := rgN_iff.mp ho
    refine ⟨colF rows o, List.mem_of_getElem? (i := o - w) ?_, decide_eq_true (col_eq.mpr ha.symm)⟩
    rw [List.getElem?_take, if_pos (by omega), List.getElem?_drop, show w + (o - w) = o by omega, cols_get (by omega)]
theorem lotC_eq (n : Nat) (rows : List (List Int)) (e : Nat) : lotC n rows e = lotF rows n e := by
  unfold lotC lotF colsF
  rw [List.map_map]
  refine List.map_congr_left fun o _ => ?_
  show (if decide (colF rows e = colF rows o) = true then (1 : Int) else 0) = if alikeF rows e o = true then 1 else 0
  by_cases h : Al rows e o
  · rw [if_pos (decide_eq_true (col_eq.mpr h)), if_pos (alikeF_iff.mpr h)]
  · rw [if_neg (fun z => h (col_eq.mp (of_decide_eq_true z))), if_neg (fun z => h (alikeF_iff.mp z))]
theorem zero_none {r : List Int} (h : r.length = n) : r = List.replicate n 0 ↔ (leadF r).isNone = true := by
  rw [none_zero]
  constructor
  · rintro rfl j
    exact getD_rep
  · intro hz
    apply List.ext_getElem
    · rw [h, List.length_replicate]
    · intro i h1 h2
      rw [List.getElem_replicate, ← getD_at h1]
      exact hz i
theorem bad_total {e : Nat} : badAt "total" p n rows w e = none ↔ ¬ (decide ((e : Int) < (w : Int)) && !decide ((e : Int) ∈ leadsF rows)) = true := by
  unfold badAt
  simp only [show decide (("total" : Str) = "total") = true from by decide +kernel, show decide (("total" : Str) = "copied") = false from by decide +kernel, show decide (("total" : Str) = "used") = false from by decide +kernel, show decide (("total" : Str) = "once") = false from by decide +kernel, show decide (("total" : Str) = "sides") = false from by decide +kernel, show decide (("total" : Str) = "lone") = false from by decide +kernel, show decide (("total" : Str) = "free") = false from by decide +kernel, Bool.true_and, Bool.false_and, Bool.false_eq_true, if_false, if_true]
  split <;> simp_all
theorem bad_copied {e : Nat} : badAt "copied" p n rows w e = none ↔ ¬ (!decide ((e : Int) < (w : Int)) && !inC (colF rows e) ((colsF n rows).take w)) = true := by
  unfold badAt
  simp only [show decide (("copied" : Str) = "total") = false from by decide +kernel, show decide (("copied" : Str) = "copied") = true from by decide +kernel, show decide (("copied" : Str) = "used") = false from by decide +kernel, show decide (("copied" : Str) = "once") = false from by decide +kernel, show decide (("copied" : Str) = "sides") = false from by decide +kernel, show decide (("copied" : Str) = "lone") = false from by decide +kernel, show decide (("copied" : Str) = "free") = false from by decide +kernel, Bool.true_and, Bool.false_and, Bool.false_eq_true, if_false, if_true]
  split <;> simp_all
theorem bad_used {e : Nat} : badAt "used" p n rows w e = none ↔ ¬ (decide ((e : Int) < (w : Int)) && !inC (colF rows e) ((colsF n rows).drop w)) = true := by
  unfold badAt
  simp only [show decide (("used" : Str) = "total") = false from by decide +kernel, show decide (("used" : Str) = "copied") = false from by decide +kernel, show decide (("used" : Str) = "used") = true from by decide +kernel, show decide (("used" : Str) = "once") = false from by decide +kernel, show decide (("used" : Str) = "sides") = false from by decide +kernel, show decide (("used" : Str) = "lone") = false from by decide +kernel, show decide (("used" : Str) = "free") = false from by decide +kernel, Bool.true_and, Bool.false_and, Bool.false_eq_true, if_false, if_true]
  split <;> simp_all
theorem bad_once {e : Nat} : badAt "once" p n rows w e = none ↔ ¬ (!decide ((e : Int) < (w : Int)) && inC (colF rows e) (((colsF n rows).drop w).take (e - w))) = true := by
  unfold badAt
  simp only [show decide (("once" : Str) = "total") = false from by decide +kernel, show decide (("once" : Str) = "copied") = false from by decide +kernel, show decide (("once" : Str) = "used") = false from by decide +kernel, show decide (("once" : Str) = "once") = true from by decide +kernel, show decide (("once" : Str) = "sides") = false from by decide +kernel, show decide (("once" : Str) = "lone") = false from by decide +kernel, show decide (("once" : Str) = "free") = false from by decide +kernel, Bool.true_and, Bool.false_and, Bool.false_eq_true, if_false, if_true]
  split <;> simp_all
theorem bad_sides {e : Nat} : badAt "sides" p n rows w e = none ↔ ¬ (!inC (colF rows e) ((colsF n rows).take w) || !inC (colF rows e) ((colsF n rows).drop w)) = true := by
  unfold badAt
  simp only [show decide (("sides" : Str) = "total") = false from by decide +kernel, show decide (("sides" : Str) = "copied") = false from by decide +kernel, show decide (("sides" : Str) = "used") = false from by decide +kernel, show decide (("sides" : Str) = "once") = false from by decide +kernel, show decide (("sides" : Str) = "sides") = true from by decide +kernel, show decide (("sides" : Str) = "lone") = false from by decide +kernel, show decide (("sides" : Str) = "free") = false from by decide +kernel, Bool.true_and, Bool.false_and, Bool.false_eq_true, if_false, if_true]
  split <;> simp_all
theorem bad_lone {e : Nat} : badAt "lone" p n rows w e = none ↔ ¬ decide ((1 : Int) < (crowdF rows w e : Nat)) = true := by
  unfold badAt
  simp only [show decide (("lone" : Str) = "total") = false from by decide +kernel, show decide (("lone" : Str) = "copied") = false from by decide +kernel, show decide (("lone" : Str) = "used") = false from by decide +kernel, show decide (("lone" : Str) = "once") = false from by decide +kernel, show decide (("lone" : Str) = "sides") = false from by decide +kernel, show decide (("lone" : Str) = "lone") = true from by decide +kernel, show decide (("lone" : Str) = "free") = false from by decide +kernel, Bool.true_and, Bool.false_and, Bool.false_eq_true, if_false, if_true]
  split <;> simp_all
theorem bad_free {e : Nat} : badAt "free" p n rows w e = none ↔ ¬ (!decide (redF p rows (lotC n rows e) = List.replicate n 0)) = true := by
  unfold badAt
  simp only [show decide (("free" : Str) = "total") = false from by decide +kernel, show decide (("free" : Str) = "copied") = false from by decide +kernel, show decide (("free" : Str) = "used") = false from by decide +kernel, show decide (("free" : Str) = "once") = false from by decide +kernel, show decide (("free" : Str) = "sides") = false from by decide +kernel, show decide (("free" : Str) = "lone") = false from by decide +kernel, show decide (("free" : Str) = "free") = true from by decide +kernel, Bool.true_and, Bool.false_and, Bool.false_eq_true, if_false, if_true]
  cases decide (redF p rows (lotC n rows e) = List.replicate n 0) <;> simp
theorem bad_many {e : Nat} : badAt "many" p n rows w e = none ↔ True := by
  unfold badAt
  simp only [show decide (("many" : Str) = "total") = false from by decide +kernel, show decide (("many" : Str) = "copied") = false from by decide +kernel, show decide (("many" : Str) = "used") = false from by decide +kernel, show decide (("many" : Str) = "once") = false from by decide +kernel, show decide (("many" : Str) = "sides") = false from by decide +kernel, show decide (("many" : Str) = "lone") = false from by decide +kernel, show decide (("many" : Str) = "free") = false from by decide +kernel, Bool.true_and, Bool.false_and, Bool.false_eq_true, if_false, if_true]
theorem bad_single {e : Nat} : badAt "single" p n rows w e = none ↔ True := by
  unfold badAt
  simp only [show decide (("single" : Str) = "total") = false from by decide +kernel, show decide (("single" : Str) = "copied") = false from by decide +kernel, show decide (("single" : Str) = "used") = false from by decide +kernel, show decide (("single" : Str) = "once") = false from by decide +kernel, show decide (("single" : Str) = "sides") = false from by decide +kernel, show decide (("single" : Str) = "lone") = false from by decide +kernel, show decide (("single" : Str) = "free") = false from by decide +kernel, Bool.true_and, Bool.false_and, Bool.false_eq_true, if_false, if_true]
theorem br_plain {rule : Str} (h1 : decide (rule = "many") = false) (h2 : decide (rule = "single") = false) : isNon (brokenL rule p n rows w) = true ↔ ∀ e, e < n → badAt rule p n rows w e = none := by
  rw [brokenL_non, h1, h2]
  simp
theorem br_total (hw : w ≤ n) : isNon (brokenL "total" p n rows w) = true ↔ papersF "total" p n rows w = [] := by
  rw [br_plain (by decide +kernel) (by decide +kernel), pf_total]
  constructor
  · intro h e he
    have := bad_total.mp (h e (by omega))
    rw [Bool.and_eq_true, not_and] at this
    have h2 := this (decide_eq_true (by omega))
    have h3 : decide ((e : Int) ∈ leadsF rows) = true := by simpa using h2
    exact isLead_iff.mp (of_decide_eq_true h3)
  · intro h e he
    rw [bad_total, Bool.and_eq_true, not_and]
    intro h1
    have h2 := h e (by have := of_decide_eq_true h1; omega)
    rw [decide_eq_true (isLead_iff.mpr h2)]
    decide
theorem br_copied (hw : w ≤ n) : isNon (brokenL "copied" p n rows w) = true ↔ papersF "copied" p n rows w = [] := by
  rw [br_plain (by decide +kernel) (by decide +kernel), pf_ends (by decide +kernel) (by decide +kernel) (by decide +kernel)]
  unfold oddEnds
  rw [if_neg (by decide +kernel), if_pos rfl, filtnil]
  constructor
  · intro h e he
    obtain ⟨h1, h2⟩ := rgN_iff.mp he
    have := bad_copied.mp (h e h2)
    rw [inC_take hw, decide_eq_false (show ¬ (e : Int) < (w : Int) by omega)] at this
    simpa using this
  · intro h e he
    rw [bad_copied, inC_take hw]
    by_cases hew : e < w
    · rw [decide_eq_true (show (e : Int) < (w : Int) by omega)]
      simp
    · have := h e (rgN_iff.mpr ⟨by omega, he⟩)
      rw [this]
      simp
theorem br_used (hw : w ≤ n) : isNon (brokenL "used" p n rows w) = true ↔ papersF "used" p n rows w = [] := by
  rw [br_plain (by decide +kernel) (by decide +kernel), pf_ends (by decide +kernel) (by decide +kernel) (by decide +kernel)]
  unfold oddEnds
  rw [if_neg (by decide +kernel), if_neg (by decide +kernel), if_pos rfl, filtnil]
  constructor
  · intro h e he
    have h1 := List.mem_range.mp he
    have := bad_used.mp (h e (by omega))
    rw [inC_drop, decide_eq_true (show (e : Int) < (w : Int) by omega)] at this
    simpa using this
  · intro h e he
    rw [bad_used, inC_drop]
    by_cases hew : e < w
    · rw [h e (List.mem_range.mpr hew)]
      simp
    · rw [decide_eq_false (show ¬ (e : Int) < (w : Int) by omega)]
      simp
theorem br_once (hw : w ≤ n) : isNon (brokenL "once" p n rows w) = true ↔ papersF "once" p n rows w = [] := by
  rw [br_plain (by decide +kernel) (by decide +kernel), pf_ends (by decide +kernel) (by decide +kernel) (by decide +kernel)]
  unfold oddEnds
  rw [if_neg (by decide +kernel), if_neg (by decide +kernel), if_neg (by decide +kernel), if_pos rfl, filtnil]
  constructor
  · intro h e he
    obtain ⟨h1, h2⟩ := rgN_iff.mp he
    have := bad_once.mp (h e h2)
    rw [inC_cut h2, decide_eq_false (show ¬ (e : Int) < (w : Int) by omega)] at this
    simpa using this
  · intro h e he
    rw [bad_once, inC_cut he]
    by_cases hew : e < w
    · rw [decide_eq_true (show (e : Int) < (w : Int) by omega)]
      simp
    · rw [h e (rgN_iff.mpr ⟨by omega, he⟩)]
      simp
theorem br_sides (hw : w ≤ n) : isNon (brokenL "sides" p n rows w) = true ↔ papersF "sides" p n rows w = [] := by
  rw [br_plain (by decide +kernel) (by decide +kernel), pf_ends (by decide +kernel) (by decide +kernel) (by decide +kernel)]
  unfold oddEnds
  rw [if_neg (by decide +kernel), if_neg (by decide +kernel), if_neg (by decide +kernel), if_neg (by decide +kernel), if_neg (by decide +kernel), filtnil]
  constructor
  · intro h e he
    have := bad_sides.mp (h e ((all_iff hw).mp he))
    rw [inC_take hw, inC_drop] at this
    simpa using this
  · intro h e he
    rw [bad_sides, inC_take hw, inC_drop]
    have := h e ((all_iff hw).mpr he)
    rw [this]
    simp
theorem br_free {α : Type} (R : Red p n rows) : isNon (brokenL "free" p n rows w) = true ↔ papersF "free" p n rows w = [] := by
  have hb := R.fok.hp.b
  rw [br_plain (by decide +kernel) (by decide +kernel), pf_free]
  have key : ∀ e, badAt "free" p n rows w e = none ↔ (leadF (redF p rows (lotF rows n e))).isNone = true := fun e => by
    rw [bad_free, lotC_eq]
    have hl := (redF_ok (p := p) (n := n) (by omega) rows (lotF rows n e) R.fok.hr (lotF_ok (by omega))).1
    rw [← zero_none hl]
    simp
  exact ⟨fun h e he => (key e).mp (h e he), fun h e he => (key e).mpr (h e he)⟩
theorem br_many : isNon (brokenL "many" p n rows w) = true ↔ papersF "many" p n rows w = [] := by
  rw [brokenL_non, pf_many]
  constructor
  · rintro ⟨_, h, _⟩
    have h2 : ¬ (!decide ((n : Int) = 2 * (w : Int))) = true := fun z => h (by rw [z]; decide +kernel)
    have h3 : decide ((n : Int) = 2 * (w : Int)) = true := by simpa using h2
    have := of_decide_eq_true h3
    omega
  · intro h
    refine ⟨fun e _ => bad_many.mpr trivial, ?_, ?_⟩
    · rw [decide_eq_true (show (n : Int) = 2 * (w : Int) by omega)]
      simp
    · rw [show decide (("many" : Str) = "single") = false by decide +kernel]
      simp
theorem br_single : isNon (brokenL "single" p n rows w) = true ↔ papersF "single" p n rows w = [] := by
  rw [brokenL_non, pf_single]
  have ho : (overF rows w).isEmpty = true ↔ Sin rows w := by
    unfold overF
    rw [List.isEmpty_iff, filtnil]
    constructor
    · intro h r hr
      have := of_decide_eq_false (h r hr)
      omega
    · intro h r hr
      have := h r hr
      exact decide_eq_false (by omega)
  rw [← ho]
  constructor
  · rintro ⟨_, _, h⟩
    cases q : (overF rows w).isEmpty with
    | true => rfl
    | false => exact absurd (by rw [q]; decide +kernel) h
  · intro h
    refine ⟨fun e _ => bad_single.mpr trivial, ?_, ?_⟩
    · rw [show decide (("single" : Str) = "many") = false by decide +kernel]
      simp
    · rw [h]
      simp
theorem br_lone (R : Red p n rows) (hw : w ≤ n) : isNon (brokenL "lone" p n rows w) = true ↔ papersF "lone" p n rows w = [] := by
  rw [br_plain (by decide +kernel) (by decide +kernel), pf_lone hw]
  have key : ∀ e, decide ((1 : Int) < (crowdF rows w e : Nat)) = oddLone rows w e := fun e => by
    unfold crowdF oddLone
    split
    · rfl
    · rename_i hwe
      refine boolext ?_
      rw [List.any_map, List.any_eq_true]
      constructor
      · intro h
        cases hf : rows.find? fun r => decide ((ldF r : Int) = (e : Int)) with
        | none =>
          rw [hf] at h
          simp at h
        | some r =>
          rw [hf] at h
          have hfs := List.find?_some (p := fun r => decide ((ldF r : Int) = (e : Int))) hf
          exact ⟨r, List.mem_filter.mpr ⟨List.mem_of_find?_eq_some hf, hfs⟩, h⟩
      · rintro ⟨r, hr, hd⟩
        obtain ⟨hrm, hre⟩ := List.mem_filter.mp hr
        cases hf : rows.find? fun r => decide ((ldF r : Int) = (e : Int)) with
        | none => exact absurd hre (List.find?_eq_none.mp hf r hrm)
        | some s =>
          have hs1 := List.mem_of_find?_eq_some hf
          have hs2 := of_decide_eq_true (List.find?_some (p := fun r => decide ((ldF r : Int) = (e : Int))) hf)
          have hr2 := of_decide_eq_true hre
          have e1 : s = r := by
            obtain ⟨i, hi⟩ := List.getElem?_of_mem hs1
            obtain ⟨j, hj⟩ := List.getElem?_of_mem hrm
            obtain ⟨i1, i2⟩ := List.getElem?_eq_some_iff.mp hi
            obtain ⟨j1, j2⟩ := List.getElem?_eq_some_iff.mp hj
            have hu := red_pw R
            rw [List.pairwise_iff_getElem] at hu
            by_cases hij : i = j
            · subst hij
              rw [hi] at hj
              exact Option.some.inj hj
            · exfalso
              rcases Nat.lt_or_gt_of_ne hij with q | q
              · have := hu i j i1 j1 q
                rw [i2, j2] at this
                omega
              · have := hu j i j1 i1 q
                rw [i2, j2] at this
                omega
          subst e1
          exact hd
  constructor
  · intro h e he
    have := bad_lone.mp (h e he)
    rw [key] at this
    simpa using this
  · intro h e he
    rw [bad_lone, key, h e he]
    simp
end
end Pm


set_option Elab.async false
set_option linter.all false
set_option maxRecDepth 100000
set_option maxHeartbeats 4000000
set_option autoImplicit false
/-! keepers, and the drawn flat is reduced -/
namespace Pm
open PySem PySem.Spec PyProof.Rows L2 Dl Bx La
def nineW : List Str := ["total", "single", "copied", "used", "once", "free", "sides", "many", "lone"]
section
variable {p : Int} {n w : Nat} {rows : List (List Int)}
theorem br_ok (R : Red p n rows) (hw : w ≤ n) {r : Str} (hr : r ∈ nineW) : isNon (brokenL r p n rows w) = (papersF r p n rows w).isEmpty := by
  refine boolext ?_
  rw [List.isEmpty_iff]
  unfold nineW at hr
  simp only [List.mem_cons, List.not_mem_nil, or_false] at hr
  rcases hr with rfl | rfl | rfl | rfl | rfl | rfl | rfl | rfl | rfl
  · exact br_total hw
  · exact br_single
  · exact br_copied hw
  · exact br_used hw
  · exact br_once hw
  · exact br_free (α := Unit) R
  · exact br_sides hw
  · exact br_many
  · exact br_lone R hw
theorem act_red (R : Red p n rows) {k : Nat} : Red p n (actR k p n w rows) := by
  have RE := exL_red (w := w) (rows := rows) R.fok.hp R.fok.hn
  unfold actR
  split
  · exact R
  · exact tuF_red R
  · exact RE
  · exact tuF_red RE
theorem act_w (hw : w ≤ n) {k : Nat} : actW k n w ≤ n := by
  unfold actW
  split <;> omega
theorem seen_act {k : Nat} (hk : k < 4) : seenR k p n w rows = actR k p n w rows ∧ flipW k n w = actW k n w := by
  rcases (show k = 0 ∨ k = 1 ∨ k = 2 ∨ k = 3 by omega) with rfl | rfl | rfl | rfl <;> exact ⟨rfl, rfl⟩
theorem line_fact : ∀ l ∈ tableL, codeOf l.1 = (l.2.2, l.2.1) ∧ l.1 ∈ sortsL ∧ ∀ r ∈ rulesOf l.2.2, r ∈ nineW := by decide +kernel
theorem keep_en (R : Red p n rows) (hw : w ≤ n) {l : Ln} (hl : l ∈ tableL) : keepF p n rows w l = enoughF l.1 p n rows w := by
  obtain ⟨hk, hb⟩ := table_fact l hl
  obtain ⟨hc, hs, hr⟩ := line_fact l hl
  rw [en_code R hs, hc]
  unfold keepF Rk rs
  rw [rules_same _ hb, (seen_act (p := p) (n := n) (w := w) (rows := rows) hk).1, (seen_act (p := p) (n := n) (w := w) (rows := rows) hk).2]
  have : ∀ L : List Str, (∀ r ∈ L, r ∈ nineW) → (L.all fun r => isNon (brokenL r p n (actR l.2.1 p n w rows) (actW l.2.1 n w))) = L.all fun x => (papersF x p n (actR l.2.1 p n w rows) (actW l.2.1 n w)).isEmpty := fun L => by
    induction L with
    | nil => intro _; rfl
    | cons r L ih =>
      intro h
      rw [List.all_cons, List.all_cons, ih fun x hx => h x (List.mem_cons_of_mem _ hx), br_ok (act_red R) (act_w hw) (h r List.mem_cons_self)]
  exact this _ hr
/-- THE KEEPERS are the sorts that are enough -/
theorem keepers_eq (R : Red p n rows) (hw : w ≤ n) : keepersF p n rows w = sortsEnoughF p n rows w := by
  unfold keepersF sortsEnoughF
  rw [← table_names, List.filter_map, List.filter_congr fun l hl => keep_en R hw hl]
  rfl
theorem unseen_red {k : Nat} (R : Red p n rows) : Red p n (unseenR k p n w rows) := by
  unfold unseenR
  dsimp only
  have hp := R.fok.hp
  have hn := R.fok.hn
  split <;> split <;> first | exact exL_red hp hn | exact tuF_red R | exact R
theorem spoilt_red {near : List Int} {total : Int} {S : Sto} (R : Red p n rows) (hS : SOk near S) : Red p n (spoiltF near total p n rows S).1 := by
  unfold spoiltF
  dsimp only
  split
  · exact R
  · rename_i hn0
    have hd := draw_b (near := near) (total := total) (S := (drawF near total S 5).2) (m := (n : Int)) (by omega)
    obtain ⟨h1, h2, h3⟩ := sp1_ok (total := total) (way := (drawF near total S 5).1) R.fok.hp R.fok.hr (draw_ok (m := (n : Int)) (total := total) (draw_ok (m := 5) (total := total) hS))
    obtain ⟨q1, q2, q3⟩ := sp2_ok (total := total) (way := (drawF near total S 5).1) (k := (drawF near total (drawF near total S 5).2 n).1.toNat) R.fok.hp (by omega) h1 h2
    refine stair_red R.fok.hp R.fok.hn ?_
    split
    · exact tuRows_ok q1
    · exact q1
end
/-- a drawn flat -/
theorem flatF_spec {near : List Int} {total : Int} {S : Sto} {most : Int} (hS : SOk near S) (h0 : 0 ≤ most) (h1 : most ≤ 20) : Red (flatF near total S most).1.p (flatF near total S most).1.n (flatF near total S most).1.rows ∧ (flatF near total S most).1.wd ≤ (flatF near total S most).1.n ∧ (flatF near total S most).1.n ≤ 40 ∧ SOk near (flatF near total S most).2 := by
  obtain ⟨l, p, n, x, rows, hl, hp, R, hx, hn, e1, hS1⟩ := flat1_spec (total := total) hS h0 h1
  unfold flatF
  generalize flat1 near total S most = F1 at e1 hS1
  obtain ⟨F, S1⟩ := F1
  simp only at e1 hS1
  subst e1
  have R1 : Red p n (unseenR l.2.1 p n x rows) := unseen_red R
  have hw1 : flipW l.2.1 n x ≤ n := flipW_le hx
  revert R1 hw1
  generalize unseenR l.2.1 p n x rows = r1
  generalize flipW l.2.1 n x = w1
  intro R1 hw1
  have h2 : ∃ r2, (flat2 near total ⟨p, n, r1, w1⟩ S1).1 = ⟨p, n, r2, w1⟩ ∧ Red p n r2 ∧ SOk near (flat2 near total ⟨p, n, r1, w1⟩ S1).2 := by
    unfold flat2
    dsimp only
    have hd3 := draw_ok (total := total) (m := 3) hS1
    split
    · exact ⟨_, rfl, spoilt_red R1 hd3, spoilt_S R1.fok hd3⟩
    · exact ⟨_, rfl, R1, hd3⟩
  dsimp only
  generalize flat2 near total ⟨p, n, r1, w1⟩ S1 = F2 at h2
  obtain ⟨F2, S2⟩ := F2
  obtain ⟨r2, e2, R2, hS2⟩ := h2
  simp only at e2 hS2
  subst e2
  dsimp only
  unfold flat3
  dsimp only
  have hd5 := draw_ok (total := total) (m := 5) hS2
  have hb5 := draw_b (near := near) (total := total) (S := (drawF near total S2 5).2) (m := (n : Int) + 1) (by omega)
  split
  · exact ⟨R2, by dsimp only; omega, hn, draw_ok hd5⟩
  · exact ⟨R2, hw1, hn, hd5⟩
end Pm


set_option Elab.async false
set_option linter.all false
set_option maxRecDepth 100000
set_option maxHeartbeats 4000000
set_option autoImplicit false
/-! how long the shown data are -/
namespace Pm
open PySem PySem.Spec PyProof.Rows L2 Dl Bx
structure Shw (m k : Nat) (d : PyData) : Prop where
  sh : d.showable = true
  nd : d.hasDict = false
  dp : d.depth ≤ k
  ln : d.shown.length ≤ m
theorem piled_le {m : Nat} : ∀ ts : List Str, (∀ t ∈ ts, t.length ≤ m) → piled ts ≤ ts.length * (m + 2)
  | [], _ => by simp [piled]
  | t :: ts, h => by
    have ih := piled_le ts fun x hx => h x (List.mem_cons_of_mem _ hx)
    have h1 := h t List.mem_cons_self
    rw [piled_cons, List.length_cons, Nat.succ_mul]
    omega
theorem listText_le (ts : List Str) : (listText ts).length ≤ 2 + piled ts := by
  unfold listText
  rw [strLen_append]
  have e1 : (("]" : String) : Str).length = 1 := rfl
  rw [e1]
  cases ts with
  | nil =>
    show (("[" : String) : Str).length + 1 ≤ _
    have e2 : (("[" : String) : Str).length = 1 := rfl
    omega
  | cons t r =>
    show (textFrom (0 + 1) ((("[" : String) : Str) ++ (if 0 > 0 then ", " else "" : String) ++ t) r).length + 1 ≤ _
    rw [textFrom_length_pos r (0 + 1) _ (by omega), strLen_append, strLen_append, piled_cons]
    have e2 : (("[" : String) : Str).length = 1 := rfl
    have e3 : ((if 0 > 0 then ", " else "" : String) : Str).length = 0 := rfl
    omega
theorem tupleText_le (ts : List Str) : (tupleText ts).length ≤ 3 + piled ts := by
  unfold tupleText
  rw [strLen_append, strLen_append]
  have e1 : (("(" : String) : Str).length = 1 := rfl
  have e3 : (((if ts.length == 1 then ",)" else ")" : String) : Str)).length ≤ 2 := by split <;> decide
  cases ts with
  | nil =>
    have e4 : (Str.join ", " ([] : List Str)).length = 0 := rfl
    omega
  | cons t r =>
    have := join_length_add (t :: r) (by simp)
    omega
theorem all_shw {m k : Nat} : ∀ ds : List PyData, (∀ d ∈ ds, Shw m k d) → PyData.showableAll ds = true ∧ PyData.hasDictAll ds = false ∧ PyData.depthAll ds ≤ k ∧ (PyData.shownAll ds).length = ds.length ∧ ∀ t ∈ PyData.shownAll ds, t.length ≤ m
  | [], _ => ⟨rfl, rfl, Nat.zero_le _, rfl, fun t h => nomatch h⟩
  | d :: ds, h => by
    obtain ⟨a, b, c, e, f⟩ := all_shw ds fun x hx => h x (List.mem_cons_of_mem _ hx)
    obtain ⟨a1, b1, c1, f1⟩ := h d List.mem_cons_self
    refine ⟨by simp [PyData.showableAll, a, a1], by simp [PyData.hasDictAll, b, b1], by simp only [PyData.depthAll]; omega, by simp [PyData.shownAll, e], fun t ht => ?_⟩
    simp only [PyData.shownAll] at ht
    rcases List.mem_cons.mp ht with rfl | ht
    · exact f1
    · exact f t ht
theorem shw_list {m k n : Nat} {ds : List PyData} (h : ∀ d ∈ ds, Shw m k d) (hn : ds.length ≤ n) : Shw (2 + n * (m + 2)) (k + 1) (.list ds) := by
  obtain ⟨a, b, c, e, f⟩ := all_shw ds h
  refine ⟨by simpa [PyData.showable] using a, by simpa [PyData.hasDict] using b, by simp only [PyData.depth]; omega, ?_⟩
  simp only [PyData.shown]
  have h1 := listText_le (PyData.shownAll ds)
  have h2 := piled_le _ f
  rw [e] at h2
  have h3 : ds.length * (m + 2) ≤ n * (m + 2) := Nat.mul_le_mul_right _ hn
  omega
theorem shw_tup {m k n : Nat} {ds : List PyData} (h : ∀ d ∈ ds, Shw m k d) (hn : ds.length ≤ n) : Shw (3 + n * (m + 2)) (k + 1) (.tuple ds) := by
  obtain ⟨a, b, c, e, f⟩ := all_shw ds h
  refine ⟨by simpa [PyData.showable] using a, by simpa [PyData.hasDict] using b, by simp only [PyData.depth]; omega, ?_⟩
  simp only [PyData.shown]
  have h1 := tupleText_le (PyData.shownAll ds)
  have h2 := piled_le _ f
  rw [e] at h2
  have h3 : ds.length * (m + 2) ≤ n * (m + 2) := Nat.mul_le_mul_right _ hn
  omega
theorem Shw.mono {m m' k k' : Nat} {d : PyData} (h : Shw m k d) (h1 : m ≤ m') (h2 : k ≤ k') : Shw m' k' d := ⟨h.sh, h.nd, by have := h.dp; omega, by have := h.ln; omega⟩
theorem int_fact : ∀ x : Fin 128, (PyData.int ((x : Nat) : Int)).showable = true ∧ (PyData.int ((x : Nat) : Int)).shown.length ≤ 4 := by decide +kernel
theorem shw_int {x : Int} (h0 : 0 ≤ x) (h1 : x < 128) : Shw 4 0 (.int x) := by
  obtain ⟨a, b⟩ := int_fact ⟨x.toNat, by omega⟩
  simp only at a b
  rw [Int.toNat_of_nonneg h0] at a b
  exact ⟨a, rfl, Nat.le_refl _, b⟩
theorem shw_bool (b : Bool) : Shw 5 0 (.bool b) := by
  cases b
  · exact ⟨rfl, rfl, Nat.le_refl _, by decide +kernel⟩
  · exact ⟨rfl, rfl, Nat.le_refl _, by decide +kernel⟩
theorem str_fact : ∀ s ∈ sortsL, (PyData.str s).shown.length ≤ 60 := by decide +kernel
theorem shw_str {s : Str} (h : s ∈ sortsL) : Shw 60 0 (.str s) := ⟨rfl, rfl, Nat.le_refl _, str_fact s h⟩
theorem shw_strs {ws : List Str} (h : ∀ s ∈ ws, s ∈ sortsL) (hl : ws.length ≤ 24) : Shw 2000 1 (eS ws) ∧ Shw 2000 1 (eST ws) := by
  have h1 : ∀ d ∈ ws.map PyData.str, Shw 60 0 d := fun d hd => by
    obtain ⟨s, hs, rfl⟩ := List.mem_map.mp hd
    exact shw_str (h s hs)
  have h2 : (ws.map PyData.str).length ≤ 24 := by rw [List.length_map]; exact hl
  exact ⟨(shw_list h1 h2).mono (by omega) (by omega), (shw_tup h1 h2).mono (by omega) (by omega)⟩
theorem shw_flat {p : Int} {n : Nat} {rows : List (List Int)} (hF : Fok p n rows) : Shw 200000 3 (eF p n rows) := by
  have hb := hF.hp.b
  have hn := hF.hn
  have hl := hF.hl
  have hrow : ∀ r ∈ rows, Shw 603 1 (eT r) := fun r hr => by
    have hk := hF.hr r hr
    refine (shw_tup (m := 4) (k := 0) (n := 100) (fun d hd => ?_) (by rw [List.length_map, hk.1]; exact hn)).mono (by omega) (by omega)
    obtain ⟨x, hx, rfl⟩ := List.mem_map.mp hd
    have := hk.2 x hx
    exact shw_int this.1 (by omega)
  have hrows : Shw 60503 2 (.tuple (rows.map eT)) := by
    refine (shw_tup (m := 603) (k := 1) (n := 100) (fun d hd => ?_) (by rw [List.length_map]; omega)).mono (by omega) (by omega)
    obtain ⟨r, hr, rfl⟩ := List.mem_map.mp hd
    exact hrow r hr
  have ha : Shw 60503 2 (.int p) := (shw_int (by omega) (by omega)).mono (by omega) (by omega)
  have hc : Shw 60503 2 (.int (n : Int)) := (shw_int (by omega) (by omega)).mono (by omega) (by omega)
  refine (shw_tup (m := 60503) (k := 2) (n := 3) (fun d hd => ?_) (by simp)).mono (by omega) (by omega)
  simp only [List.mem_cons, List.not_mem_nil, or_false] at hd
  rcases hd with rfl | rfl | rfl
  · exact ha
  · exact hc
  · exact hrows
/-- repr of what is shown -/
theorem rc_shw {K : PySem.W.Frag} {m k : Nat} {d : PyData} (h : Shw m k d) (hm : m ≤ 1000000) (hk : k ≤ 60) (hd : PyProof.Rows.isDisplay d = true) : RC K (Ml.rRepr K) [d] (.str d.shown) :=
  rc_repr hd h.sh h.nd (by have := h.dp; omega) (sz (by have := h.ln; omega))
theorem rd_neS {K : PySem.W.Frag} {i j : Str} : RD K rNe (.str i) (.str j) (.bool (!decide (i = j))) := fun Hs H x y Q e hx hy q => by
  rw [Dp.toS hx, Dp.toS hy]
  refine ⟨rfl, ?_⟩
  have e : decide (V.str i = V.str j) = decide (i = j) := by
    by_cases h : i = j
    · subst h
      simp
    · simp [h]
  rw [e]
  exact q _ _ _ .same (.bl _)
end Pm


set_option Elab.async false
set_option linter.all false
set_option maxRecDepth 100000
set_option maxHeartbeats 4000000
set_option autoImplicit false
/-! defs that must know that no repr is under way; a call by keywords only -/
namespace Mk
open PySem PySem.Spec PyProof.Rows L2
theorem guards_deeper (A : Around) (env : Env) : (A.deeper env).guards = A.guards := rfl
/-- the promise of such a def -/
structure FnG (P : Program) (w : World) (K : PySem.W.Frag) (mg : Str → Option Value) (base : Heap)
    (k : Nat) (f : Addr) (fd : FuncData) (ps : List Str) (sp : Sp) : Prop where
  len : ∀ vs H Q E, sp vs H Q E → vs.length = ps.length
  go : ∀ (A : Around) (outer : List Env) (s : Shared) (H : Hp) (args : Args) (us : List Value) (vs : List V) (Q : VK) (E : XK),
    A.guards = some [] → Room k A → Env0 P w K mg base A outer s H →
    BindsTo s fd args (ps.zip us) → Vals vs us → sp vs H Q E →
    codeAny (model P w) A (.call (.ref f) args) (CR CX0 outer P w H s Q E) s
section
variable {P : Program} {w : World} {K : PySem.W.Frag} {mg : Str → Option Value} {base : Heap}
theorem fnG_of {nm qual : Str} {params : Arguments} {body : List Stmt} {scope : Scope} {kws : List (Str × V)}
    {f : Addr} {fd : FuncData} {N ps : List Str} {k : Nat} {sp : Sp}
    (F : FunD K nm qual params body scope [] kws f fd) (S : FnScope N ps scope)
    (len : ∀ vs H Q E, sp vs H Q E → vs.length = ps.length)
    (hb : ∀ (cdv : Value) (A : Around) (outer : List Env) (s : Shared) (H : Hp) (vs : List V) (Q : VK) (E : XK),
      A.guards = some [] → Room k (A.deeper (envOfC qual scope s.heap.objs.size f cdv)) → sp vs H Q E →
      ∃ t, PSs (cxOf CX0 P w K mg base N qual scope f cdv A outer s H E) body t ∧
        t { nx := fun _ H' => Q .non H', rt := Q } (L2.start N vs) H) :
    FnG P w K mg base (k + 1) f fd ps sp := by
  obtain ⟨oc, od, dV, kV, doc, pm, an, cdv, ct, osl, rfl, look, code, _, _⟩ := F.ex
  refine ⟨len, ?_⟩
  intro A outer s H args us vs Q E gd room en bnd rel want
  have lenv := len _ _ _ _ want
  have old := fun b o e => (en.bs b o e).1
  have inK : K.In s.heap := en.mod.kin.keeps old
  have nol : s.heap.NoLimit := en.mod.nolimit.keeps old
  refine codeAny_call_function room.depth (inK _ _ look) rfl S.co S.gen rfl ?_ (bnd _ _ _ _ ?_)
  · exact PySem.W.codeRec_of inK code
  refine wpAny_newFunctionEnv_cells S.kind ?_ ?_
  · intro y hy
    obtain ⟨n, v⟩ := y
    have hn := (List.of_mem_zip hy).1
    rcases S.par n hn with q | q
    · left
      exact q
    · right
      exact ⟨q, PySem.W.cellsFrom_some _ _ _ (.inl q)⟩
  · intro env he s1 x
    subst he
    refine ⟨nol.keeps x.toInCall.keep, ?_⟩
    refine codeAny_func ?_
    obtain ⟨t, ht, hq⟩ := hb cdv A outer s H vs Q E gd (room.deeper _) want
    have I0 := inv_start (P := P) (cd := cdv) (E := E) (CX := CX0) (qual := qual) S room.hd en lenv rel x
    refine wpAny_mono (ht.run [] s1 _ H _ I0 hq) ?_ (fun e s' h => h)
    intro fl s' got
    match fl, got with
    | .ret u, ⟨v, σ', H', J, rv, q⟩ => exact ⟨v, H', J.os, J.bare, J.base, J.hok, rv, q⟩
    | .next, ⟨σ', H', J, q⟩ => exact ⟨V.non, H', J.os, J.bare, J.base, J.hok, rfl, q⟩
    | .brk, ⟨_, _, _, q⟩ => exact q.elim
    | .cont, ⟨_, _, _, q⟩ => exact q.elim
end
section
variable {X : Cx} {k : Nat} {f : Addr} {fd : FuncData} {ps ks : List Str} {sp : Sp} {x : Str} {p pos : Pos} {e : Expr} {es : List Expr} {t tk : TA} {kws : List Keyword}
theorem run_fnG {pins : List (Addr × Obj)} {σ : L2.St} {H : Hp} {s : Shared} {Q : VK} {us : List Value} {vs : List V}
    (F : FnG X.prog X.w X.K X.mg X.base k f fd ps sp) (gd : X.A.guards = some []) (room : Room k X.A) (b : Binds X.K fd ps [])
    (hx : Passes CX0 X C8.E0) (I : Inv X pins σ H s) (r : Vals vs us) (h : sp (vs ++ []) H Q C8.E0) :
    wpAny (model X.prog X.w) X.A (call (.ref f) us) (EP X pins σ Q) X.xe s := by
  rw [List.append_nil] at h
  have n1 := F.len _ _ _ _ h
  have n2 : (us ++ ([] : List Value)).length = ps.length := by
    rw [List.append_nil, ← r.length]
    exact n1
  have bb := b s us I.kIn n2
  rw [List.append_nil] at bb
  refine wpAny_call (codeAny_mono (F.go X.A X.stack s H _ us vs Q C8.E0 gd room I.env0 bb r h) ?_)
  intro res s' got
  match res, got with
  | .error e, got => exact hx pins σ H s e s' I got
  | .ok (.ret u), got => exact I.after got
  | .ok .next, got => exact got.elim
  | .ok .brk, got => exact got.elim
  | .ok .cont, got => exact got.elim
/-- f(e, ..) of such a def -/
theorem pe_callG (F : FnG X.prog X.w X.K X.mg X.base k f fd ps sp) (gd : X.A.guards = some []) (room : Room k X.A) (hg : Gl X x)
    (hm : X.mg x = some (.ref f)) (hk : PySem.W.keepIn X.K (.ref f) = true) (b : Binds X.K fd ps []) (hx : Passes CX0 X C8.E0)
    (ha : PA X (e :: es) t) (hdb : (x == ("__debug__" : Str)) = false := by decide)
    (he : starEach (e :: es) X.env = (false, eval e X.env) :: starEach es X.env := by rfl)
    (hpl : (backTo pos (starEach es X.env)).any (·.1) = false := by rfl) :
    PE X (.Call (.Name x p) (e :: es) [] pos) (tCall sp [] C8.E0 t) := by
  constructor
  intro pins s σ H Q I h
  refine wpAny_Call_Name_kw (ld_glob I hg hm ?_ hdb)
  refine PySem.W.callWith_K (h₀ := X.base) I.ok.mod.kin hk ?_ he hpl
  refine thn (ha.run pos pins s σ H _ I h) ?_
  rintro us s1 ⟨vs, H1, I1, r, q⟩
  exact ⟨I1.kIn, run_fnG F gd room b hx I1 r q⟩
end
end Mk


set_option Elab.async false
set_option linter.all false
set_option maxRecDepth 100000
set_option maxHeartbeats 4000000
set_option autoImplicit false
namespace Mk
open PySem PySem.Spec PyProof.Rows L2
section
variable {X : Cx} {k : Nat} {f : Addr} {fd : FuncData} {ps ks : List Str} {sp : Sp} {x : Str} {p pos : Pos} {tk : TA} {kws : List Keyword}
variable {g : List Value → List Value → List Value} {gV : List V → List V → List V}
/-- f(k = v, ..) -/
theorem pe_callN0 (F : FnOk X.prog X.w X.K X.mg X.base CX0 k f fd ps sp) (room : Room k X.A) (hg : Gl X x)
    (hm : X.mg x = some (.ref f)) (hk : PySem.W.keepIn X.K (.ref f) = true) (b : KBn X.K fd ps 0 ks g gV) (hx : Passes CX0 X C8.E0)
    (hkw : PK X kws tk) (hall : (backToKw pos (keywordEach kws X.env)).all (·.1.isSome) = true := by rfl)
    (hks : (backToKw pos (keywordEach kws X.env)).filterMap (·.1) = ks := by rfl)
    (hdb : (x == ("__debug__" : Str)) = false := by decide)
    (hpl : ((backTo pos (starEach [] X.env)).any (·.1) || (backToKw pos (keywordEach kws X.env)).any (·.1.isNone)) = false := by rfl) :
    PE X (.Call (.Name x p) [] kws pos) (tCallN 0 ks.length sp gV C8.E0 tNil tk) := by
  constructor
  intro pins s σ H Q I h
  refine wpAny_Call_Name_kw (ld_glob I hg hm ?_ hdb)
  refine PySem.W.callWith_KW0 (h₀ := X.base) I.ok.mod.kin hk hall ?_ hpl
  refine thn (hkw.run pos pins s σ H _ I h) ?_
  rintro ws s2 ⟨zs, H2, I2, rz, l1, l2, q2⟩
  refine ⟨I2.kIn, ?_⟩
  rw [hks]
  exact run_fnN (us := []) (vs := []) F room b hx I2 .nil rz rfl l2 q2
end
theorem kbn2 {K : PySem.W.Frag} {nm qual : Str} {params : Arguments} {body : List Stmt} {scope : Scope} {kws : List (Str × V)} {f : Addr} {fd : FuncData} {ps ks : List Str}
    (F : FunD K nm qual params body scope [] kws f fd)
    (h : ∀ (kV doc pm : Value) (an : Option Addr) (cdv ct a b : Value), bindArgs (PySem.W.fnOf nm qual params body scope .none kV doc pm an cdv ct) ⟨[], ks.zip [a, b]⟩ = pure (ps.zip [b, a])) (hk : ks.length = 2) :
    KBn K fd ps 0 ks (fun _ ws => ws.reverse) (fun _ zs => zs.reverse) := by
  obtain ⟨oc, od, dV, kV, doc, pm, an, cdv, ct, osl, rfl, look, code, hD, _⟩ := F.ex
  rcases hD with ⟨_, rfl⟩ | ⟨e, _⟩
  · refine ⟨fun s us ws X l1 l2 => ?_, fun r1 r2 => ?_⟩
    · match us, ws, l1, l2 with
      | [], ws, _, l2 =>
        rw [hk] at l2
        match ws, l2 with
        | [a, b], _ => exact .of_eq (h kV doc pm an cdv ct a b)
    · exact r2.reverse
  · exact absurd rfl e
end Mk


set_option Elab.async false
set_option linter.all false
set_option maxRecDepth 100000
set_option maxHeartbeats 4000000
set_option autoImplicit false
/-! the law's end, for a law that shows data -/
namespace Mk
open PySem PySem.Spec PyProof.Rows L2
/-- what the run of the law leaves -/
def LawEnd (h : Heap) (o : OsState) (r : Result) (z : Shared) : Prop :=
  r = .ok (.ret (.bool true)) ∧
    OldK h z.heap ∧ z.os = o ∧ AllBare z.gens
abbrev scrO (us : List Value) : Obj := { cls := .type "list", data := .seq us.toArray }
/-- the script alone is told -/
def oneH (a : Addr) (us : List Value) (xs : List V) : Hp := fun b => if b = a then some (.frz (scrO us) (.lst xs)) else none
section
variable {P : Program} {w : World} {K : PySem.W.Frag} {mg mb : Str → Option Value} {k : Nat} {f a : Addr} {fd : FuncData} {x : Str} {sp : Sp} {z : Shared} {us : List Value} {ns : List Int}
theorem goG (H : Hp) (KX : K.In z.heap) (G : z.heap.Ns mainGlobals mg) (nb : z.heap.Ns builtinsNs mb) (nb2 : ∀ y : Str, y ≠ "__name__" → mb y = bootBuiltins y) (nl : z.heap.NoLimit) (gn : z.gens = #[])
    (ea : z.heap.get? a = some (scrO us)) (room : Room k callerA) (F : ∀ base : Heap, K.In base → base.Ns mainGlobals mg → FnG P w K mg base k f fd [x] sp)
    (bind : ∀ (y : Shared) (u : Value), BindsTo y fd ⟨[u], []⟩ [(x, u)]) (O : Only H) (ok : HOk P w H z.heap)
    (one : ∀ b u, H b = some u → b = a ∧ K.lookup a = none) (want : sp [.ref a] H (fun v _ => v = .bl true) fun _ _ _ => False) :
    codeAny (model P w) callerA (.call (.ref f) ⟨[.ref a], []⟩) (LawEnd z.heap z.os) z := by
  have untold : ∀ (b : Addr) (o : Obj), (b = a → K.lookup a = none → False) → H b = none := fun b o no => by
    cases e : H b with
    | none => rfl
    | some u =>
      obtain ⟨e1, e2⟩ := one b u e
      exact (no e1 e2).elim
  have kin : K.In (hidT z.heap H) := fun b o e =>
    hidT_get (KX b o e) (untold b o fun e1 e2 => by
      rw [e1, e2] at e
      cases e)
  have names : ∀ {p : Addr} {m : Str → Option Value}, z.heap.Ns p m → (hidT z.heap H).Ns p m := by
    rintro p m ⟨o, es, ep, e, d, r⟩
    refine ⟨o, es, ep, hidT_get e (untold p o fun e1 _ => ?_), d, r⟩
    rw [e1, ea] at e
    cases e
    exact absurd (show Data.seq us.toArray _ = Data.dict es ep from d) (fun y => by cases y)
  have mod : Mod K mg (hidT z.heap H) := by
    obtain ⟨mc, c1, c2⟩ := nl
    exact ⟨kin, names G, ⟨mb, names nb, nb2⟩, mc, names c1, c2⟩
  have nof : ∀ b : Addr, b ∈ frs [] → False := fun b y => by cases (show b ∈ ([] : List Addr) from y)
  have env : Env0 P w K mg (hidT z.heap H) callerA [] z H := by
    refine { frames := rfl, mod := mod, bs := fun b o e => of_hidT e, bsz := ?_, funs := trivial, frf := ?_, hok := ok, bare := .of_eq gn }
    · rw [hidT_size]
      exact Nat.le_refl _
    · exact fun b y => (nof b y).elim
  have run := (F _ kin (names G)).go callerA [] z H ⟨[.ref a], []⟩ [.ref a] [.ref a] _ _ rfl room env (bind z (.ref a)) (.cons rfl .nil) want
  refine codeAny_mono run ?_
  intro r z' got
  match r, got with
  | .error e, got => exact got.elim
  | .ok .next, got => exact got.elim
  | .ok .brk, got => exact got.elim
  | .ok .cont, got => exact got.elim
  | .ok (.ret u), ⟨v, H', os, bare, un, ok', rv, q⟩ =>
    have ev : v = .bl true := q
    rw [ev] at rv
    have eu : u = Value.bool true := rv
    rw [eu]
    refine ⟨rfl, .of_keep fun b o e => ?_, os, bare⟩
    rcases O b with n | ⟨ob, xs, y⟩
    · exact un.keep b o e n (fun y => nof b y) (by simp)
    · have y2 := (ok' b _ (un.frzs b ob _ y)).1
      have y1 := (ok b _ y).1
      rw [e] at y1
      cases y1
      exact y2
theorem lawG (KX : K.In z.heap) (G : z.heap.Ns mainGlobals mg) (nb : z.heap.Ns builtinsNs mb) (nb2 : ∀ y : Str, y ≠ "__name__" → mb y = bootBuiltins y) (nl : z.heap.NoLimit) (gn : z.gens = #[])
    (ea : z.heap.get? a = some (scrO us)) (room : Room k callerA) (F : ∀ base : Heap, K.In base → base.Ns mainGlobals mg → FnG P w K mg base k f fd [x] sp)
    (bind : ∀ (y : Shared) (u : Value), BindsTo y fd ⟨[u], []⟩ [(x, u)]) (ri : IntsAre us ns) (hn : ns.length ≤ sizeLine)
    (want : ∀ H : Hp, SqL K H a (ns.map V.int) → sp [.ref a] H (fun v _ => v = .bl true) fun _ _ _ => False) :
    codeAny (model P w) callerA (.call (.ref f) ⟨[.ref a], []⟩) (LawEnd z.heap z.os) z := by
  have rv := vals_ints ri
  cases own : K.lookup a with
  | none =>
    have here : oneH a us (ns.map V.int) a = some (.frz (scrO us) (.lst (ns.map V.int))) := if_pos rfl
    refine goG (oneH a us (ns.map V.int)) KX G nb nb2 nl gn ea room F bind (fun b => ?_) (fun b u e => ?_) (fun b u e => ?_) (want _ (.inl (.inr ⟨_, here⟩)))
    · by_cases eb : b = a
      · exact .inr ⟨_, _, by rw [eb]; exact here⟩
      · exact .inl (if_neg eb)
    · by_cases eb : b = a
      · subst eb
        rw [here] at e
        cases e
        exact ⟨ea, by rw [List.length_map]; exact hn, us, _, rv, ea⟩
      · rw [show oneH a us (ns.map V.int) b = none from if_neg eb] at e
        cases e
    · by_cases eb : b = a
      · exact ⟨eb, own⟩
      · rw [show oneH a us (ns.map V.int) b = none from if_neg eb] at e
        cases e
  | some o =>
    have eo := KX a o own
    rw [ea] at eo
    cases eo
    have lu := ri.length
    refine goG (fun _ => none) KX G nb nb2 nl gn ea room F bind (fun b => .inl rfl) (fun b u e => by cases e) (fun b u e => by cases e) (want _ ?_)
    refine .inr ⟨_, us.toArray, _, own, rfl, rfl, rfl, ?_, ?_⟩
    · rw [List.size_toArray]
      omega
    · simpa using rv
end
/-- the walk's end -/
theorem walkG {l : PySem.W.OpenLaw} {n k : Nat} {q : Program} {loose : List Str} {XP : (Str → Option Value) → Heap → Prop} {YP : World → Heap → Prop} {d : DefRec} {x : Str}
    (hn : l.most = some n) (hz : n ≤ sizeLine) (nd : d.params.defaults = []) (room : Room k callerA)
    (F : ∀ (w : World) (mg : Str → Option Value) (f : Addr) (h : Heap), YP w h → h.Ns mainGlobals mg → mg d.name = some (.ref f) →
      ∃ (K : PySem.W.Frag) (fd : FuncData) (sp : Sp), K.In h ∧ (∀ (y : Shared) (u : Value), BindsTo y fd ⟨[u], []⟩ [(x, u)]) ∧
        (∀ (H : Hp) (a : Addr) (ns : List Int), ns.length ≤ n → SqL K H a (ns.map V.int) → sp [.ref a] H (fun v _ => v = .bl true) fun _ _ _ => False) ∧
        ∀ base : Heap, K.In base → base.Ns mainGlobals mg → FnG l.prog w K mg base k f fd [x] sp) :
    PySem.W.WalkO q loose XP YP l.row.toRowW d [] (fun f vs => PySem.call f vs) := by
  refine Att.attach_call hn nd ?_
  intro w z0 z mg mb f o pm cd doc a us ns G Y eo ed ec em ea ri hl gn
  obtain ⟨K, fd, sp, KX, bind, want, go⟩ := F w mg f _ Y G.T.g em
  exact lawG KX G.T.g G.T.b G.T.builtins G.T.nolimit gn ea room go bind ri (Nat.le_trans hl hz) fun H hS => want H a ns hl hS
end Mk


set_option Elab.async false
set_option linter.all false
set_option maxRecDepth 100000
set_option maxHeartbeats 4000000
set_option autoImplicit false
namespace Dl
open PySem PySem.Spec PyProof.Rows L2
theorem ed_callN {C : Cq} {Γ : List Sl} {S S1 S2 : Sto} {ta tb : TE} {E : XK} {R : Rel} {da db d : PyData} (ha : EvD C ta Γ S da S1) (hb : EvD C tb Γ S1 db S2) (hR : R [db, da] d) : EvD C (tCallN 0 2 (spD C.K R) (fun _ zs => zs.reverse) E tNil (tCons ta (tCons tb tNil))) Γ S d S2 := fun B σ Hs H x k Q q =>
  ha B σ Hs H x k _ fun v Hs1 H1 k1 f1 d1 => hb B σ Hs1 H1 (x.fr k f1) k1 _ fun u Hs2 H2 k2 f2 d2 => ⟨rfl, rfl, Hs2, [db, da], d, hR, k2.exs, .cons d2 (.cons (dp_mono f2.exs _ _ d1) .nil), fun v' Hs3 H3 e1 e2 e3 n dv => by
    obtain ⟨k3, f3⟩ := call_ok k2 e1 e2 e3 n
    exact q v' Hs3 H3 k3 (Fr.trans k2 k3 (Fr.trans k1 k2 f1 f2) f3) dv⟩
/-- cal_pure, the FnOk itself -/
theorem fn_pure {P : Program} {w : World} {K : PySem.W.Frag} {mg : Str → Option Value} {base : Heap} {nm qual : Str} {params : Arguments} {body : List Stmt} {scope : Scope} {kws : List (Str × V)} {f : Addr} {fd : FuncData} {N ps : List Str} {k : Nat} {R : Rel}
    (F : FunD K nm qual params body scope [] kws f fd) (S : FnScope N ps scope) (hlen : ∀ ds d, R ds d → ds.length = ps.length)
    (hbody : ∀ ds d, R ds d → ∀ (cdv : Value) (A : Around) (outer : List Env) (s : Shared) (H : Hp) (E : XK), Room k (A.deeper (envOfC qual scope s.heap.objs.size f cdv)) →
      ∃ t, PSs (cxOf CX0 P w K mg base N qual scope f cdv A outer s H E).nox body t ∧ GS ⟨K, none⟩ t (retE d) (slots N.length ds) S0) : FnOk P w K mg base CX0 (k + 1) f fd ps (spD K R) := by
  refine F.ok S (fun vs H Q E h => ?_) (fun cdv A outer s H vs Q E hr h => ?_)
  · obtain ⟨Hs, ds, d, hR, _, hd, _⟩ := h
    rw [DpAll.length hd, hlen ds d hR]
  · obtain ⟨Hs, ds, d, hR, ex, hd, q⟩ := h
    obtain ⟨t, h1, h2⟩ := hbody ds d hR cdv A outer s H E hr
    exact ⟨t, PSs.nox h1, fin_pure ex hd q h2⟩
/-- cal_pure for a def that calls repr -/
theorem fnG_pure {P : Program} {w : World} {K : PySem.W.Frag} {mg : Str → Option Value} {base : Heap} {nm qual : Str} {params : Arguments} {body : List Stmt} {scope : Scope} {kws : List (Str × V)} {f : Addr} {fd : FuncData} {N ps : List Str} {k : Nat} {R : Rel}
    (F : FunD K nm qual params body scope [] kws f fd) (S : FnScope N ps scope) (hlen : ∀ ds d, R ds d → ds.length = ps.length)
    (hbody : ∀ ds d, R ds d → ∀ (cdv : Value) (A : Around) (outer : List Env) (s : Shared) (H : Hp) (E : XK), A.guards = some [] → Room k (A.deeper (envOfC qual scope s.heap.objs.size f cdv)) →
      ∃ t, PSs (cxOf CX0 P w K mg base N qual scope f cdv A outer s H E).nox body t ∧ GS ⟨K, none⟩ t (retE d) (slots N.length ds) S0) : Mk.FnG P w K mg base (k + 1) f fd ps (spD K R) := by
  refine Mk.fnG_of F S (fun vs H Q E h => ?_) (fun cdv A outer s H vs Q E gd hr h => ?_)
  · obtain ⟨Hs, ds, d, hR, _, hd, _⟩ := h
    rw [DpAll.length hd, hlen ds d hR]
  · obtain ⟨Hs, ds, d, hR, ex, hd, q⟩ := h
    obtain ⟨t, h1, h2⟩ := hbody ds d hR cdv A outer s H E gd hr
    exact ⟨t, PSs.nox h1, fin_pure ex hd q h2⟩
end Dl
namespace Pm
open PySem PySem.Spec PyProof.Rows L2 Dl Bx
variable {P : Program} {w : World} {K : PySem.W.Frag} {mg : Str → Option Value} {base : Heap}
local macro_rules | `(tactic| trivial) => `(tactic| first | omega | exact Or.inr ⟨by omega, by omega⟩ | exact Or.inl ⟨by omega, by omega⟩ | exact ⟨by omega, by omega⟩)
theorem fn_sorts_enough (T : Tx w K mg base) {fd : FuncData} (F : FunD K "sorts_enough" "sorts_enough" (defArgs (Bx.top 44)) (defBody (Bx.top 44)) (defScope (Bx.top 44)) [] [] (He.ga K "sorts_enough") fd) : FnOk P w K mg base CX0 9 (He.ga K "sorts_enough") fd ["flat", "left"] (spD K R_sorts_enough) := by
  have ok_enough := ok_enough (P := P) T
  refine fn_pure F sc_sorts_enough (by rintro _ _ ⟨p, n, rows, wd, rfl, _⟩; rfl) ?_
  rintro _ _ ⟨p, n, rows, wd, rfl, hF, hw, rfl⟩ cdv A outer sh H E hr
  have nd := sc_sorts_enough.nd
  refine ⟨_, (pss_one (ps_ret (pe_callTy (Mk.tuple K rfl) (by rfl) T.b_tuple PyProof.Rows.boot_tuple (pa_cons (pe_lc (own := [("sort", 2)]) (g := (gName 2)) rfl nd (pi_tup (pe_glob (v := V.ref (He.ga K "SORTS")) rfl T.g_SORTS rfl)) (blkOk_by (by rfl)) (fun _ _ _ _ _ => (pg_name (i := 2) nd rfl (.inl rfl))) (fun _ _ _ _ _ => (pts_one (pt_val (C8.pe_c ok_enough hr (by decide) (by rfl) (pa_cons (pv 2) (pa_cons (pv 0) (pa_cons (pv 1) pa_nil))))))) (fun _ _ _ _ _ => (pv 2))) pa_nil)))), ?_⟩
  exact gs_ret (ed_cb (ea_cons (ed_lc (as := sortsL) (enc := .str) (fun s => enoughF s p n rows wd) PyData.str (ei_tup (ed_glob T.v_SORTS)) (by decide) fun s hs => ⟨_, _, gt_name, by simp, fun _ => ⟨et_B (ed_call (ea_cons (ed_var rfl) (ea_cons (ed_var rfl) (ea_cons (ed_var rfl) ea_nil))) ⟨s, p, n, rows, wd, rfl, hs, hF, hw, rfl⟩), fun _ => ed_var rfl⟩⟩) ea_nil) rc_tuple) rfl
/-! ### by mirrors -/
def R__law_by_mirrors : Rel := fun ds d => ∃ (p : Int) (n : Nat) (rows : List (List Int)) (wd : Nat), ds = [eF p n rows, .int (wd : Int), eS sortsL, eS (mirF true), eS (mirF false)] ∧ Red p n rows ∧ wd ≤ n ∧ n ≤ 40 ∧ d = .bool true
theorem mir_mem (b : Bool) {s : Str} (hs : s ∈ sortsL) : mirOf b s ∈ sortsL := by
  obtain ⟨_, _, _, h1, h2, _⟩ := code_fact s hs
  cases b
  · exact h2
  · exact h1
theorem mir_at (b : Bool) {i : Nat} {s : Str} (h : sortsL[i]? = some s) : (mirF b)[i]? = some (mirOf b s) := by
  unfold mirF
  rw [List.getElem?_map, h]
  rfl
theorem sorts_nodup : sortsL.Nodup := by decide +kernel
theorem se_sub {p : Int} {n wd : Nat} {rows : List (List Int)} : (∀ s ∈ sortsEnoughF p n rows wd, s ∈ sortsL) ∧ (sortsEnoughF p n rows wd).length ≤ 24 := by
  refine ⟨fun s hs => (List.mem_filter.mp hs).1, ?_⟩
  have := List.length_filter_le (fun s => enoughF s p n rows wd) sortsL
  have h2 := keys_len.2
  unfold sortsEnoughF
  omega
theorem se_mem {p : Int} {n wd : Nat} {rows : List (List Int)} {s : Str} (hs : s ∈ sortsL) : decide (s ∈ sortsEnoughF p n rows wd) = enoughF s p n rows wd := by
  refine boolext ?_
  rw [decide_eq_true_iff]
  unfold sortsEnoughF
  rw [List.mem_filter]
  exact ⟨fun h => h.2, fun h => ⟨hs, h⟩⟩
theorem zip_pick (g : Str → Bool) (l : List Str) : (l.zipIdx.filter fun q => g q.1).map (fun q => PyData.str q.1) = (l.filter g).map .str := by
  have h : l.filter g = ((l.zipIdx.filter fun q => g q.1)).map Prod.fst := by
    conv => lhs; rw [← List.zipIdx_map_fst 0 l]
    rw [List.filter_map]
    rfl
  rw [h, List.map_map]
  rfl
theorem enum_strs (l : List Str) : enumD (l.map .str) = l.zipIdx.map fun q => pairD (.int (q.2 : Int)) (.str q.1) := by
  unfold enumD
  rw [List.zipIdx_map, List.map_map]
  rfl
theorem zip_at {q : Str × Nat} (h : q ∈ sortsL.zipIdx) : sortsL[q.2]? = some q.1 ∧ q.1 ∈ sortsL := by
  have h1 := List.mem_zipIdx_iff_getElem?.mp h
  exact ⟨h1, List.mem_of_getElem? h1⟩
theorem mir_ix (b : Bool) {j : Nat} {s : Str} (h : sortsL[j]? = some s) {K : PySem.W.Frag} : RD K (rIx K) (.list ((mirF b).map .str)) (.int (j : Int)) (.str (mirOf b s)) := by
  have h1 := mir_at b h
  have h2 : j < (mirF b).length := by
    rcases Nat.lt_or_ge j (mirF b).length with h3 | h3
    · exact h3
    · rw [List.getElem?_eq_none h3] at h1
      cases h1
  refine rd_ixL (j := j) (ixN_lt (by rw [List.length_map]; exact h2)) ?_
  rw [List.getElem?_map, h1]
  rfl
theorem sc__law_by_mirrors : FnScope ["_law_plane_here", "_law_wide", "_law_names", "_law_turns", "_law_changes", "_law_due", "_law_back", "_law_across", "_law_over", "_law_both", "_law_told", "_law_first", "_law_second", "_law_third", "_law_at", "_law_name"] ["_law_plane_here", "_law_wide", "_law_names", "_law_turns", "_law_changes"] (defScope (Bx.top 78)) := ⟨rfl, rfl, rfl, by decide +kernel, rfl, by decide +kernel, by decide +kernel⟩
theorem fn__law_by_mirrors (T : Tx w K mg base) {fd : FuncData} (F : FunD K "_law_by_mirrors" "_law_by_mirrors" (defArgs (Bx.top 78)) (defBody (Bx.top 78)) (defScope (Bx.top 78)) [] [] (He.ga K "_law_by_mirrors") fd) : Mk.FnG P w K mg base 10 (He.ga K "_law_by_mirrors") fd ["_law_plane_here", "_law_wide", "_law_names", "_law_turns", "_law_changes"] (spD K R__law_by_mirrors) := by
  have ok__law_keepers := ok__law_keepers (P := P) T
  have ok_sorts_enough := ok_sorts_enough (P := P) T
  have ok_enough := ok_enough (P := P) T
  have ok__law_turned_plane := ok__law_turned_plane (P := P) T
  have ok__law_exchanged_plane := ok__law_exchanged_plane (P := P) T
  have ok_turned_flat := ok_turned_flat (P := P) T
  have ok_exchanged_flat := ok_exchanged_flat (P := P) T
  obtain ⟨fdSE, FSE⟩ := T.f_sorts_enough
  have fnSE := fn_sorts_enough (P := P) T FSE
  have kbSE : KBn K fdSE ["flat", "left"] 0 ["left", "flat"] (fun _ ws => ws.reverse) (fun _ zs => zs.reverse) := Mk.kbn2 FSE (fun _ _ _ _ _ _ _ _ => rfl) rfl
  refine fnG_pure F sc__law_by_mirrors (by rintro _ _ ⟨p, n, rows, wd, rfl, _⟩; rfl) ?_
  rintro _ _ ⟨p, n, rows, wd, rfl, R, hw, hn, rfl⟩ cdv A outer sh H E hg0 hr
  have hg : (A.deeper (envOfC "_law_by_mirrors" (defScope (Bx.top 78)) sh.heap.objs.size (He.ga K "_law_by_mirrors") cdv)).guards = some [] := hg0
  have nd := sc__law_by_mirrors.nd
  refine ⟨_, (pss_cons (ps_asg (pe_tup (pa_cons (C8.pe_c ok__law_keepers hr (by decide) (by rfl) (pa_cons (pv 0) (pa_cons (pv 1) pa_nil))) (pa_cons (pe_op op_sub (pe_ix (Mk.ix K rfl) (pv 0) pe_int (fun _ _ => rfl)) (pv 1)) pa_nil))) (pg_tup rfl (pgs_cons (pg_name (i := 5) nd rfl (.inr rfl)) (pgs_cons (pg_name (i := 6) nd rfl (.inl rfl)) pgs_nil))))
      (pss_cons (ps_if (pt_cmpR op_ne (pe_callB (Mk.repr K rfl hg hr.units) (by rfl) T.b_repr (by decide +kernel) (pa_cons (pe_lst (pa_cons (C8.pe_c ok_sorts_enough hr (by decide) (by rfl) (pa_cons (pv 0) (pa_cons (pv 1) pa_nil))) (pa_cons (Mk.pe_callN0 fnSE (hr.mono (by decide)) (by rfl) T.g_sorts_enough FSE.kp kbSE C8.pass0 (pk_cons (pv 1) (pk_cons (pv 0) pk_nil))) pa_nil))) pa_nil)) (pe_callB (Mk.repr K rfl hg hr.units) (by rfl) T.b_repr (by decide +kernel) (pa_cons (pe_op op_rep (pe_lst (pa_cons (pe_callTy (Mk.tuple K rfl) (by rfl) T.b_tuple PyProof.Rows.boot_tuple (pa_cons (pv 5) pa_nil)) pa_nil)) pe_int) pa_nil)) (nomark _)) (pss_one (ps_ret pe_bl)) pss_nil)
      (pss_cons (ps_if (pt_cmpR op_ne (pe_callB (Mk.repr K rfl hg hr.units) (by rfl) T.b_repr (by decide +kernel) (pa_cons (pe_lc (own := [("_law_name", 15)]) (g := (gName 15)) (tt := tYes) rfl nd (pi_list (pv 2)) (blkOk_by (by rfl)) (fun _ _ _ _ _ => (pg_name (i := 15) nd rfl (.inl rfl))) (fun _ _ _ _ _ => pts_nil) (fun _ _ _ _ _ => (C8.pe_c ok_enough hr (by decide) (by rfl) (pa_cons (pv 15) (pa_cons (pv 0) (pa_cons (pv 1) pa_nil)))))) pa_nil)) (pe_callB (Mk.repr K rfl hg hr.units) (by rfl) T.b_repr (by decide +kernel) (pa_cons (pe_lc (own := [("_law_name", 15)]) (g := (gName 15)) (tt := tYes) rfl nd (pi_list (pv 2)) (blkOk_by (by rfl)) (fun _ _ _ _ _ => (pg_name (i := 15) nd rfl (.inl rfl))) (fun _ _ _ _ _ => pts_nil) (fun _ _ _ _ _ => (pe_cmpR (Mk.in_ K rfl) (pv 15) (pv 5) rfl))) pa_nil)) (nomark _)) (pss_one (ps_ret pe_bl)) pss_nil)
      (pss_cons (ps_par (i := 7) (j := 8) rfl nd rfl rfl (by decide) rfl rfl (pa_cons (C8.pe_c ok__law_turned_plane hr (by decide) (by rfl) (pa_cons (pv 0) (pa_cons (pv 1) pa_nil))) (pa_cons (C8.pe_c ok__law_exchanged_plane hr (by decide) (by rfl) (pa_cons (pv 0) (pa_cons (pv 1) pa_nil))) pa_nil)) (by rfl))
      (pss_cons (ps_set (i := 9) nd rfl (.inl rfl) (C8.pe_c ok__law_exchanged_plane hr (by decide) (by rfl) (pa_cons (pv 7) (pa_cons (pv 6) pa_nil))))
      (pss_cons (ps_set (i := 10) nd rfl (.inl rfl) (pe_lst (pa_cons (C8.pe_c ok_turned_flat hr (by decide) (by rfl) (pa_cons (pv 0) (pa_cons (pv 1) pa_nil))) (pa_cons (C8.pe_c ok_exchanged_flat hr (by decide) (by rfl) (pa_cons (pv 0) (pa_cons (pv 1) pa_nil))) pa_nil))))
      (pss_cons (ps_set (i := 10) nd rfl (.inl rfl) (pe_op (Mk.catS K rfl) (pv 10) (pe_lst (pa_cons (C8.pe_c ok_exchanged_flat hr (by decide) (by rfl) (pa_cons (pv 7) (pa_cons (pv 6) pa_nil))) (pa_cons (C8.pe_c ok_turned_flat hr (by decide) (by rfl) (pa_cons (pv 8) (pa_cons (pv 1) pa_nil))) pa_nil)))))
      (pss_cons (ps_if (pt_cmpR op_ne (pe_callB (Mk.repr K rfl hg hr.units) (by rfl) T.b_repr (by decide +kernel) (pa_cons (pv 10) pa_nil)) (pe_callB (Mk.repr K rfl hg hr.units) (by rfl) T.b_repr (by decide +kernel) (pa_cons (pe_lst (pa_cons (pv 7) (pa_cons (pv 8) (pa_cons (pv 9) (pa_cons (pv 9) pa_nil))))) pa_nil)) (nomark _)) (pss_one (ps_ret pe_bl)) pss_nil)
      (pss_cons (ps_set (i := 10) nd rfl (.inl rfl) (pe_lst (pa_cons (C8.pe_c ok_sorts_enough hr (by decide) (by rfl) (pa_cons (pv 7) (pa_cons (pv 6) pa_nil))) (pa_cons (C8.pe_c ok_sorts_enough hr (by decide) (by rfl) (pa_cons (pv 8) (pa_cons (pv 1) pa_nil))) (pa_cons (C8.pe_c ok_sorts_enough hr (by decide) (by rfl) (pa_cons (pv 9) (pa_cons (pv 6) pa_nil))) pa_nil)))))
      (pss_cons (ps_set (i := 11) nd rfl (.inl rfl) (pe_callTy (Mk.tuple K rfl) (by rfl) T.b_tuple PyProof.Rows.boot_tuple (pa_cons (pe_lc (own := [("_law_at", 14), ("_law_name", 15)]) (g := (gTup K 2 (gCons (gName 14) (gCons (gName 15) gNil)))) rfl nd (Ml.pi_enumC true (by rfl) T.b_enumerate (pa_cons (pv 2) pa_nil)) (blkOk_by (by rfl)) (fun _ _ _ _ _ => (pg_tup rfl (pgs_cons (pg_name (i := 14) nd rfl (.inl rfl)) (pgs_cons (pg_name (i := 15) nd rfl (.inl rfl)) pgs_nil)))) (fun _ _ _ _ _ => (pts_one (pt_cmpR (Mk.in_ K rfl) (pe_ix (Mk.ix K rfl) (pv 3) (pv 14) (fun _ _ => rfl)) (pv 5) rfl))) (fun _ _ _ _ _ => (pv 15))) pa_nil)))
      (pss_cons (ps_set (i := 12) nd rfl (.inl rfl) (pe_callTy (Mk.tuple K rfl) (by rfl) T.b_tuple PyProof.Rows.boot_tuple (pa_cons (pe_lc (own := [("_law_at", 14), ("_law_name", 15)]) (g := (gTup K 2 (gCons (gName 14) (gCons (gName 15) gNil)))) rfl nd (Ml.pi_enumC true (by rfl) T.b_enumerate (pa_cons (pv 2) pa_nil)) (blkOk_by (by rfl)) (fun _ _ _ _ _ => (pg_tup rfl (pgs_cons (pg_name (i := 14) nd rfl (.inl rfl)) (pgs_cons (pg_name (i := 15) nd rfl (.inl rfl)) pgs_nil)))) (fun _ _ _ _ _ => (pts_one (pt_cmpR (Mk.in_ K rfl) (pe_ix (Mk.ix K rfl) (pv 4) (pv 14) (fun _ _ => rfl)) (pv 5) rfl))) (fun _ _ _ _ _ => (pv 15))) pa_nil)))
      (pss_cons (ps_set (i := 13) nd rfl (.inl rfl) (pe_callTy (Mk.tuple K rfl) (by rfl) T.b_tuple PyProof.Rows.boot_tuple (pa_cons (pe_lc (own := [("_law_at", 14), ("_law_name", 15)]) (g := (gTup K 2 (gCons (gName 14) (gCons (gName 15) gNil)))) rfl nd (Ml.pi_enumC true (by rfl) T.b_enumerate (pa_cons (pv 2) pa_nil)) (blkOk_by (by rfl)) (fun _ _ _ _ _ => (pg_tup rfl (pgs_cons (pg_name (i := 14) nd rfl (.inl rfl)) (pgs_cons (pg_name (i := 15) nd rfl (.inl rfl)) pgs_nil)))) (fun _ _ _ _ _ => (pts_one (pt_cmpR (Mk.in_ K rfl) (pe_ix (Mk.ix K rfl) (pv 3) (Mk.pe_lidx K rfl (pv 2) (pa_cons (pe_ix (Mk.ix K rfl) (pv 4) (pv 14) (fun _ _ => rfl)) pa_nil)) (fun _ _ => rfl)) (pv 5) rfl))) (fun _ _ _ _ _ => (pv 15))) pa_nil)))
      (pss_one (ps_ret (pe_cmpR op_eq (pe_callB (Mk.repr K rfl hg hr.units) (by rfl) T.b_repr (by decide +kernel) (pa_cons (pv 10) pa_nil)) (pe_callB (Mk.repr K rfl hg hr.units) (by rfl) T.b_repr (by decide +kernel) (pa_cons (pe_lst (pa_cons (pv 11) (pa_cons (pv 12) (pa_cons (pv 13) pa_nil)))) pa_nil)) (nomark _)))))))))))))))), ?_⟩
  have F := R.fok
  have RT : Red p n (tuF p n wd rows) := tuF_red R
  have RE : Red p n (exL p n wd rows) := exL_red F.hp F.hn
  have RB : Red p n (exL p n (n - wd) (tuF p n wd rows)) := exL_red F.hp F.hn
  have hb : n - wd ≤ n := by omega
  have hl : rows.length ≤ 1000 := by have := F.hl; omega
  have hlT : (tuF p n wd rows).length ≤ 1000 := by have := RT.fok.hl; omega
  have hlE : (exL p n wd rows).length ≤ 1000 := by have := RE.fok.hl; omega
  obtain ⟨kl, sl⟩ := keys_len
  generalize hT : tuF p n wd rows = rT at *
  generalize hE : exL p n wd rows = rE at *
  generalize hB : exL p n (n - wd) rT = rB at *
  have e1 : exF p n wd rows = rE := (ex_same R).trans hE
  have e2 : exF p n (n - wd) rT = rB := (ex_same RT).trans hB
  have e3 : tuF p n wd rE = rB := by rw [← hE, ← hB, ← hT, ex_tu R hw]
  have enT : ∀ s ∈ sortsL, enoughF s p n rT (n - wd) = enoughF (mirOf true s) p n rows wd := fun s hs => hT ▸ en_tu R hw hs
  have enE : ∀ s ∈ sortsL, enoughF s p n rE wd = enoughF (mirOf false s) p n rows wd := fun s hs => hE ▸ en_ex R hw hs
  have enB : ∀ s ∈ sortsL, enoughF s p n rB (n - wd) = enoughF (mirOf true (mirOf false s)) p n rows wd := fun s hs => by
    rw [← enT _ (mir_mem false hs), ← hB]
    exact en_ex RT hb hs
  have sE := se_sub (p := p) (n := n) (wd := wd) (rows := rows)
  have memE : ∀ s ∈ sortsL, decide (s ∈ sortsEnoughF p n rows wd) = enoughF s p n rows wd := fun s hs => se_mem hs
  generalize hEq : sortsEnoughF p n rows wd = E0 at *
  have shE : Shw 2000 1 (eST E0) := (shw_strs sE.1 sE.2).2
  have sh2 : Shw 1000000 60 (.list [eST E0, eST E0]) := (shw_list (n := 2) (fun d hd => by
    simp only [List.mem_cons, List.not_mem_nil, or_false, or_self] at hd
    subst hd
    exact shE) (by simp)).mono (by omega) (by omega)
  have shB : Shw 1000000 60 (.list (sortsL.map fun s => .bool (enoughF s p n rows wd))) := (shw_list (m := 5) (k := 0) (n := 24) (fun d hd => by
    obtain ⟨s, _, rfl⟩ := List.mem_map.mp hd
    exact shw_bool _) (by rw [List.length_map, sl] <;> omega)).mono (by omega) (by omega)
  have shF : Shw 1000000 60 (.list [eF p n rT, eF p n rE, eF p n rB, eF p n rB]) := (shw_list (m := 200000) (k := 3) (n := 4) (fun d hd => by
    simp only [List.mem_cons, List.not_mem_nil, or_false] at hd
    rcases hd with rfl | rfl | rfl | rfl
    · exact shw_flat RT.fok
    · exact shw_flat RE.fok
    · exact shw_flat RB.fok
    · exact shw_flat RB.fok) (by simp)).mono (by omega) (by omega)
  have shS : Shw 1000000 60 (.list [eST (sortsEnoughF p n rT (n - wd)), eST (sortsEnoughF p n rE wd), eST (sortsEnoughF p n rB (n - wd))]) := (shw_list (m := 2000) (k := 1) (n := 3) (fun d hd => by
    simp only [List.mem_cons, List.not_mem_nil, or_false] at hd
    rcases hd with rfl | rfl | rfl
    · exact (shw_strs se_sub.1 se_sub.2).2
    · exact (shw_strs se_sub.1 se_sub.2).2
    · exact (shw_strs se_sub.1 se_sub.2).2) (by simp)).mono (by omega) (by omega)
  have pick : ∀ (g : Str → Str) (r : List (List Int)) (v : Nat), (∀ s ∈ sortsL, g s ∈ sortsL) → (∀ s ∈ sortsL, enoughF s p n r v = enoughF (g s) p n rows wd) → PyData.tuple ((sortsL.zipIdx.filter fun q => decide (g q.1 ∈ E0)).map fun q => .str q.1) = eST (sortsEnoughF p n r v) := fun g r v hg1 hg2 => by
    have := zip_pick (fun s => decide (g s ∈ E0)) sortsL
    refine (congrArg PyData.tuple this).trans ?_
    unfold sortsEnoughF
    rw [List.filter_congr fun s hs => (memE (g s) (hg1 s hs)).trans (hg2 s hs).symm]
    rfl
  have hm1 : ∀ s ∈ sortsL, mirOf true s ∈ sortsL := fun s hs => mir_mem true hs
  have hm2 : ∀ s ∈ sortsL, mirOf false s ∈ sortsL := fun s hs => mir_mem false hs
  have hbk : (n : Int) - (wd : Int) = ((n - wd : Nat) : Int) := by omega
  refine gs_seq (gs_asgT (d := .tuple [eS E0, .int ((n - wd : Nat) : Int)]) (ed_tup (ea_cons (ed_call (ea_cons (ed_var rfl) (ea_cons (ed_var rfl) ea_nil)) ⟨p, n, rows, wd, rfl, F, hw, by rw [keepers_eq R hw, hEq]⟩) (ea_cons (ed_is (ed_op (ed_op (ed_var rfl) ed_int (rd_ixT (j := 1) (d := .int (n : Int)) (by rfl) rfl)) (ed_var rfl) rd_I0) (congrArg PyData.int hbk)) ea_nil)) (sz (by simp))) (gt_tup (gts_cons gt_name (gts_cons gt_name gts_nil)) rfl) ?_)
  refine gs_seq (gs_if (b := false) (et_is (et_test (ed_op (ed_cb (ea_cons (ed_lst (ea_cons (ed_call (ea_cons (ed_var rfl) (ea_cons (ed_var rfl) ea_nil)) ⟨p, n, rows, wd, rfl, F, hw, by rw [hEq]⟩) (ea_cons (ed_callN (ed_var rfl) (ed_var rfl) ⟨p, n, rows, wd, rfl, F, hw, by rw [hEq]⟩) ea_nil)) (sz (by simp))) ea_nil) (rc_shw sh2 (by omega) (by omega) (by rfl))) (ed_cb (ea_cons (ed_is (d' := .list [eST E0, eST E0]) (ed_ofN (en_rep (ea_cons (ed_cb (ea_cons (ed_var rfl) ea_nil) rc_tuple) ea_nil) ed_int (by simp) (by omega))) (by rfl)) ea_nil) (rc_shw sh2 (by omega) (by omega) (by rfl))) rd_neS)) (by simp)) (fun h => nomatch h) (fun _ => gs_next ?_))
  refine gs_seq (gs_if (b := false) (et_is (et_test (ed_op (ed_cb (ea_cons (ed_lcm (as := sortsL) (enc := .str) (fun s => .bool (enoughF s p n rows wd)) (ei_list (ed_var rfl)) (by omega) fun s hs => ⟨_, _, gt_name, by simp, fun _ => ed_call (ea_cons (ed_var rfl) (ea_cons (ed_var rfl) (ea_cons (ed_var rfl) ea_nil))) ⟨s, p, n, rows, wd, rfl, hs, F, hw, rfl⟩⟩) ea_nil) (rc_shw shB (by omega) (by omega) (by rfl))) (ed_cb (ea_cons (ed_lcm (as := sortsL) (enc := .str) (fun s => .bool (enoughF s p n rows wd)) (ei_list (ed_var rfl)) (by omega) fun s hs => ⟨_, _, gt_name, by simp, fun _ => ed_is (ed_op (ed_var rfl) (ed_var rfl) rd_inS) (congrArg PyData.bool (memE s hs))⟩) ea_nil) (rc_shw shB (by omega) (by omega) (by rfl))) rd_neS)) (by simp)) (fun h => nomatch h) (fun _ => gs_next ?_))
  refine gs_seq (gs_par (d1 := eF p n rT) (d2 := eF p n rE) (ea_cons (ed_call (ea_cons (ed_var rfl) (ea_cons (ed_var rfl) ea_nil)) ⟨p, n, rows, wd, rfl, F, hw, by rw [hT]⟩) (ea_cons (ed_call (ea_cons (ed_var rfl) (ea_cons (ed_var rfl) ea_nil)) ⟨p, n, rows, wd, rfl, F, hw, by rw [hE]⟩) ea_nil)) ?_)
  refine gs_seq (gs_asg (d := eF p n rB) (ed_call (ea_cons (ed_var rfl) (ea_cons (ed_var rfl) ea_nil)) ⟨p, n, rT, n - wd, rfl, RT.fok, hb, by rw [hB]⟩) ?_)
  refine gs_seq (gs_asg (d := .list [eF p n rT, eF p n rE]) (ed_lst (ea_cons (ed_call (ea_cons (ed_var rfl) (ea_cons (ed_var rfl) ea_nil)) ⟨p, n, rows, wd, rfl, F.hp, F.hn, hl, F.hr, hw, by rw [← hT]; rfl⟩) (ea_cons (ed_call (ea_cons (ed_var rfl) (ea_cons (ed_var rfl) ea_nil)) ⟨p, n, rows, wd, rfl, F.hp, F.hn, hl, F.hr, F.hd, hw, by rw [← e1]; rfl⟩) ea_nil)) (sz (by simp))) ?_)
  refine gs_seq (gs_asg (d := .list [eF p n rT, eF p n rE, eF p n rB, eF p n rB]) (ed_op (ed_var rfl) (ed_lst (ea_cons (ed_call (ea_cons (ed_var rfl) (ea_cons (ed_var rfl) ea_nil)) ⟨p, n, rT, n - wd, rfl, F.hp, F.hn, hlT, RT.fok.hr, RT.fok.hd, hb, by rw [← e2]; rfl⟩) (ea_cons (ed_call (d := eF p n rB) (ea_cons (ed_var rfl) (ea_cons (ed_var rfl) ea_nil)) ⟨p, n, rE, wd, rfl, F.hp, F.hn, hlE, RE.fok.hr, hw, by rw [← e3]; rfl⟩) ea_nil)) (sz (by simp))) (rd_catL (xs := [eF p n rT, eF p n rE]) (ys := [eF p n rB, eF p n rB]) (by simp))) ?_)
  refine gs_seq (gs_if (b := false) (et_is (et_test (ed_op (ed_cb (ea_cons (ed_var rfl) ea_nil) (rc_shw shF (by omega) (by omega) (by rfl))) (ed_cb (ea_cons (ed_lst (ea_cons (ed_var rfl) (ea_cons (ed_var rfl) (ea_cons (ed_var rfl) (ea_cons (ed_var rfl) ea_nil)))) (sz (by simp))) ea_nil) (rc_shw shF (by omega) (by omega) (by rfl))) rd_neS)) (by simp)) (fun h => nomatch h) (fun _ => gs_next ?_))
  refine gs_seq (gs_asg (d := .list [eST (sortsEnoughF p n rT (n - wd)), eST (sortsEnoughF p n rE wd), eST (sortsEnoughF p n rB (n - wd))]) (ed_lst (ea_cons (ed_call (ea_cons (ed_var rfl) (ea_cons (ed_var rfl) ea_nil)) ⟨p, n, rT, n - wd, rfl, RT.fok, hb, rfl⟩) (ea_cons (ed_call (ea_cons (ed_var rfl) (ea_cons (ed_var rfl) ea_nil)) ⟨p, n, rE, wd, rfl, RE.fok, hw, rfl⟩) (ea_cons (ed_call (ea_cons (ed_var rfl) (ea_cons (ed_var rfl) ea_nil)) ⟨p, n, rB, n - wd, rfl, RB.fok, hb, rfl⟩) ea_nil))) (sz (by simp))) ?_)
  change GS ⟨K, none⟩ _ _ [.dat (eF p n rows), .dat (.int (wd : Int)), .dat (eS sortsL), .dat (eS (mirF true)), .dat (eS (mirF false)), .dat (eS E0), .dat (.int ((n - wd : Nat) : Int)), .dat (eF p n rT), .dat (eF p n rE), .dat (eF p n rB), .dat (.list [eST (sortsEnoughF p n rT (n - wd)), eST (sortsEnoughF p n rE wd), eST (sortsEnoughF p n rB (n - wd))]), .un, .un, .un, .un, .un] S0
  refine gs_seq (gs_asg (d := eST (sortsEnoughF p n rT (n - wd))) (ed_is (ed_cb (ea_cons (ed_lc (as := sortsL.zipIdx) (enc := fun q => pairD (.int (q.2 : Int)) (.str q.1)) (fun q => decide (mirOf true q.1 ∈ E0)) (fun q => .str q.1) (ei_is (ei_enum (c := true) (xs := sortsL.map .str) (ea_cons (ed_var rfl) ea_nil)) (enum_strs sortsL)) (by rw [List.length_zipIdx]; omega) fun q hq => ⟨_, _, gt_tup (gts_cons gt_name (gts_cons gt_name gts_nil)) rfl, by simp, fun _ => ⟨et_test (ed_op (ed_op (ed_var rfl) (ed_var rfl) (mir_ix true (zip_at hq).1)) (ed_var rfl) rd_inS), fun _ => ed_var rfl⟩⟩) ea_nil) rc_tuple) (pick (mirOf true) rT (n - wd) hm1 enT)) ?_)
  change GS ⟨K, none⟩ _ _ [.dat (eF p n rows), .dat (.int (wd : Int)), .dat (eS sortsL), .dat (eS (mirF true)), .dat (eS (mirF false)), .dat (eS E0), .dat (.int ((n - wd : Nat) : Int)), .dat (eF p n rT), .dat (eF p n rE), .dat (eF p n rB), .dat (.list [eST (sortsEnoughF p n rT (n - wd)), eST (sortsEnoughF p n rE wd), eST (sortsEnoughF p n rB (n - wd))]), .dat (eST (sortsEnoughF p n rT (n - wd))), .un, .un, .un, .un] S0
  refine gs_seq (gs_asg (d := eST (sortsEnoughF p n rE wd)) (ed_is (ed_cb (ea_cons (ed_lc (as := sortsL.zipIdx) (enc := fun q => pairD (.int (q.2 : Int)) (.str q.1)) (fun q => decide (mirOf false q.1 ∈ E0)) (fun q => .str q.1) (ei_is (ei_enum (c := true) (xs := sortsL.map .str) (ea_cons (ed_var rfl) ea_nil)) (enum_strs sortsL)) (by rw [List.length_zipIdx]; omega) fun q hq => ⟨_, _, gt_tup (gts_cons gt_name (gts_cons gt_name gts_nil)) rfl, by simp, fun _ => ⟨et_test (ed_op (ed_op (ed_var rfl) (ed_var rfl) (mir_ix false (zip_at hq).1)) (ed_var rfl) rd_inS), fun _ => ed_var rfl⟩⟩) ea_nil) rc_tuple) (pick (mirOf false) rE wd hm2 enE)) ?_)
  change GS ⟨K, none⟩ _ _ [.dat (eF p n rows), .dat (.int (wd : Int)), .dat (eS sortsL), .dat (eS (mirF true)), .dat (eS (mirF false)), .dat (eS E0), .dat (.int ((n - wd : Nat) : Int)), .dat (eF p n rT), .dat (eF p n rE), .dat (eF p n rB), .dat (.list [eST (sortsEnoughF p n rT (n - wd)), eST (sortsEnoughF p n rE wd), eST (sortsEnoughF p n rB (n - wd))]), .dat (eST (sortsEnoughF p n rT (n - wd))), .dat (eST (sortsEnoughF p n rE wd)), .un, .un, .un] S0
  refine gs_seq (gs_asg (d := eST (sortsEnoughF p n rB (n - wd))) (ed_is (ed_cb (ea_cons (ed_lc (as := sortsL.zipIdx) (enc := fun q => pairD (.int (q.2 : Int)) (.str q.1)) (fun q => decide (mirOf true (mirOf false q.1) ∈ E0)) (fun q => .str q.1) (ei_is (ei_enum (c := true) (xs := sortsL.map .str) (ea_cons (ed_var rfl) ea_nil)) (enum_strs sortsL)) (by rw [List.length_zipIdx]; omega) fun q hq => ⟨_, _, gt_tup (gts_cons gt_name (gts_cons gt_name gts_nil)) rfl, by simp, fun _ => ⟨et_test (ed_op (ed_op (ed_var rfl) (ed_index (j := sortsL.idxOf (mirOf false q.1)) (ed_var rfl) (ea_cons (ed_op (ed_var rfl) (ed_var rfl) (mir_ix false (zip_at hq).1)) ea_nil) (idx_at (hm2 _ (zip_at hq).2)) fun m z hm hz hzz => by
      subst hzz
      have := idxOf_leS hz
      omega) (mir_ix true (idx_at (hm2 _ (zip_at hq).2)))) (ed_var rfl) rd_inS), fun _ => ed_var rfl⟩⟩) ea_nil) rc_tuple) (pick (fun s => mirOf true (mirOf false s)) rB (n - wd) (fun s hs => hm1 _ (hm2 _ hs)) enB)) ?_)
  change GS ⟨K, none⟩ _ _ [.dat (eF p n rows), .dat (.int (wd : Int)), .dat (eS sortsL), .dat (eS (mirF true)), .dat (eS (mirF false)), .dat (eS E0), .dat (.int ((n - wd : Nat) : Int)), .dat (eF p n rT), .dat (eF p n rE), .dat (eF p n rB), .dat (.list [eST (sortsEnoughF p n rT (n - wd)), eST (sortsEnoughF p n rE wd), eST (sortsEnoughF p n rB (n - wd))]), .dat (eST (sortsEnoughF p n rT (n - wd))), .dat (eST (sortsEnoughF p n rE wd)), .dat (eST (sortsEnoughF p n rB (n - wd))), .un, .un] S0
  exact gs_ret (ed_is (ed_op (ed_cb (ea_cons (ed_var rfl) ea_nil) (rc_shw shS (by omega) (by omega) (by rfl))) (ed_cb (ea_cons (ed_lst (ea_cons (ed_var rfl) (ea_cons (ed_var rfl) (ea_cons (ed_var rfl) ea_nil))) (sz (by simp))) ea_nil) (rc_shw shS (by omega) (by omega) (by rfl))) rd_eqS) (by simp)) rfl
end Pm


set_option Elab.async false
set_option linter.all false
set_option maxRecDepth 100000
set_option maxHeartbeats 4000000
set_option autoImplicit false
namespace Pm
open PySem PySem.Spec PyProof.Rows L2 Dl Bx
variable {P : Program} {w : World} {K : PySem.W.Frag} {mg : Str → Option Value} {base : Heap}
local macro_rules | `(tactic| trivial) => `(tactic| first | omega | exact Or.inr ⟨by omega, by omega⟩ | exact Or.inl ⟨by omega, by omega⟩ | exact ⟨by omega, by omega⟩)
/-! ### the store -/
def foldC (c : Int) : Int := (if c < 0 then -c else c) * 2 + (if decide (c < 0) = true then 1 else 0)
def foldedF (ns : List Int) : List Int := (ns.take 63).map foldC
def weighF (ns : List Int) : Int := ((foldedF ns).zipIdx.map fun q => q.1 * ((q.2 : Int) + 3)).sum
def farF (ns : List Int) : List Int := (foldedF ns).filter fun c => decide ((10 : Int) ^ (18 : Int).toNat ≤ c)
def nearF (ns : List Int) : List Int := [104729 + ((foldedF ns).length : Int)] ++ foldedF ns
/-- a new store: a dict and two lists of its own -/
def spSto (K : PySem.W.Frag) : Sp := fun vs H Q _ => ∃ Hs ns v, vs = [v] ∧ Dp K Hs v (eL ns) ∧ ns.length ≤ 63 ∧ Ex Hs H ∧
  ∀ (lo : Lo) S Hs' H', Ex H H' → Ex Hs Hs' → Ex Hs' H' → (∀ a o, Hs' a = some o → (∃ u, Hs a = some u) ∨ H a = none) → StoAt lo S Hs' H' → Dp K Hs' (.ref lo.n) (.list (lo.near.map PyData.int)) → SOk lo.near S → Q (.ref lo.d) H'
theorem folded_len (ns : List Int) : (foldedF ns).length ≤ 63 := by
  unfold foldedF
  rw [List.length_map, List.length_take]
  omega
theorem enum_ints (l : List Int) : enumD (l.map .int) = l.zipIdx.map fun q => pairD (.int (q.2 : Int)) (.int q.1) := by
  unfold enumD
  rw [List.zipIdx_map, List.map_map]
  rfl
theorem zip_small {l : List Int} {q : Int × Nat} (h : q ∈ l.zipIdx) : q.2 < l.length := by
  have h1 := List.mem_zipIdx_iff_getElem?.mp h
  exact (List.getElem?_eq_some_iff.mp h1).1
theorem sc__law_store : FnScope ["_law_script", "_law_folded", "_law_total", "_law_far", "_law_cell", "_law_place"] ["_law_script"] (defScope (Bx.top 46)) := ⟨rfl, rfl, rfl, by decide +kernel, rfl, by decide +kernel, by decide +kernel⟩
theorem ok__law_store (T : Tx w K mg base) : C8.Cal P w K mg base 1 "_law_store" (spSto K) [] := by
  obtain ⟨fd, F⟩ := T.f__law_store
  refine ⟨_, fd, ["_law_script"], [], F.ok sc__law_store (fun vs H Q E h => ?_) (fun cdv A outer sh H vs Q E hr h => ?_), T.g__law_store, F.kp, F.bindsN (fun _ _ _ _ _ _ us hl => match us, hl with | [_], _ => rfl), .nil⟩
  · obtain ⟨Hs, ns, v, rfl, _⟩ := h
    rfl
  obtain ⟨Hs, ns, v, rfl, hv, hn, ex, q⟩ := h
  have nd := sc__law_store.nd
  refine ⟨_, PSs.nox (pss_cons (ps_setLc (i := 1) (own := [("_law_cell", 4)]) (g := (gName 4)) (tt := tYes) rfl nd rfl rfl (sw_true rfl rfl rfl (by decide +kernel)) (pi_list (pe_slice (Mk.slL K rfl) (pv 0) po_none (po_some pe_int))) (blkOk_by (by rfl)) (fun _ _ _ _ _ => (pg_name (i := 4) nd rfl (.inl rfl))) (fun _ _ _ _ _ => pts_nil) (fun _ _ _ _ _ => (pe_op op_add (pe_op op_mul (pe_callB call_abs (by rfl) T.b_abs (by decide +kernel) (pa_cons (pv 4) pa_nil)) pe_int) (pe_callTy call_int1 (by rfl) T.b_int (by decide +kernel) (pa_cons (pe_cmpR op_lt (pv 4) pe_int (nomark _)) pa_nil)))))
      (pss_cons (ps_set (i := 2) nd rfl (.inl rfl) (pe_callB (Mk.sum K rfl rfl) (by rfl) T.b_sum (by decide +kernel) (pa_cons (pe_lc (own := [("_law_place", 5), ("_law_cell", 4)]) (g := (gTup K 2 (gCons (gName 5) (gCons (gName 4) gNil)))) (tt := tYes) rfl nd (Ml.pi_enumC true (by rfl) T.b_enumerate (pa_cons (pv 1) pa_nil)) (blkOk_by (by rfl)) (fun _ _ _ _ _ => (pg_tup rfl (pgs_cons (pg_name (i := 5) nd rfl (.inl rfl)) (pgs_cons (pg_name (i := 4) nd rfl (.inl rfl)) pgs_nil)))) (fun _ _ _ _ _ => pts_nil) (fun _ _ _ _ _ => (pe_op op_mul (pv 4) (pe_op op_add (pv 5) pe_int)))) pa_nil)))
      (pss_cons (ps_setLc (i := 3) (own := [("_law_cell", 4)]) (g := (gName 4)) rfl nd rfl rfl (sw_true rfl rfl rfl (by decide +kernel)) (pi_list (pv 1)) (blkOk_by (by rfl)) (fun _ _ _ _ _ => (pg_name (i := 4) nd rfl (.inl rfl))) (fun _ _ _ _ _ => (pts_one (pt_cmpR op_ge (pv 4) (pe_op op_pow pe_int pe_int) (nomark _)))) (fun _ _ _ _ _ => (pv 4)))
      (pss_one (ps_ret (pe_disp (pps_cons pe_str (pv 3) (pps_cons pe_str (pe_op (Mk.catS K rfl) (pe_lst (pa_cons (pe_op op_add pe_int (pe_callB (Mk.len K rfl) (by rfl) T.b_len PySem.boot_len (pa_cons (pv 1) pa_nil))) pa_nil)) (pv 1)) (pps_cons pe_str (pv 2) (pps_cons pe_str pe_int pps_nil)))) (by rfl) (by rfl) (fun z => by cases z) (by decide))))))), ?_⟩
  have kb : ∀ a, ¬ (Cq.mk K none).bad a := fun a ⟨lo, e, _⟩ => by cases e
  have k0 : HOk ⟨K, none⟩ ⟨Hs, H⟩ S0 Hs H := ⟨fun a o _ e => e, Ex.refl _, ex, fun a o e => .inl ⟨o, e⟩, fun lo e => by cases e⟩
  have x0 : SlsOk ⟨K, none⟩ ⟨Hs, H⟩ Hs H (L2.start ["_law_script", "_law_folded", "_law_total", "_law_far", "_law_cell", "_law_place"] [v]) (slots 6 [eL ns]) := start_dat rfl (.cons hv .nil)
  have fl := folded_len ns
  refine gs_run2 (nx := fun Γ S => Γ = [.dat (eL ns), .dat (eL (foldedF ns)), .un, .un, .un, .un] ∧ S = S0) (gs_asg (d := eL (foldedF ns)) (ed_is (ed_lcm (as := ns.take 63) (enc := .int) (fun c => .int (foldC c)) (ei_list (ed_is (ed_slL (ed_var rfl) eo_none (eo_some ed_int)) (by rw [show (63 : Int) = ((63 : Nat) : Int) from rfl, cut_lo, ← List.map_take]))) (by rw [List.length_take]; omega) fun c hc => ⟨_, _, gt_name, by simp, fun _ => (ed_op (ed_op (ed_cb (ea_cons (ed_var rfl) ea_nil) rc_abs) ed_int (rd_I (by trivial))) (ed_cb (ea_cons (ed_op (ed_var rfl) ed_int rd_B0) ea_nil) rc_intB) rd_I0)⟩) (congrArg PyData.list (mm foldC PyData.int _).symm)) ⟨rfl, rfl⟩) x0 k0 ?_
  rintro σ1 H1 Γ1 S1 Hs1 ⟨rfl, rfl⟩ x1 k1
  refine gs_run2 (nx := fun Γ S => Γ = [.dat (eL ns), .dat (eL (foldedF ns)), .dat (.int (weighF ns)), .un, .un, .un] ∧ S = S0) (gs_asg (d := .int (weighF ns)) (ed_cb (ea_cons (ed_is (ed_lcm (as := (foldedF ns).zipIdx) (enc := fun q => pairD (.int (q.2 : Int)) (.int q.1)) (fun q => .int (q.1 * ((q.2 : Int) + 3))) (ei_is (ei_enum (c := true) (xs := (foldedF ns).map .int) (ea_cons (ed_var rfl) ea_nil)) (enum_ints _)) (by rw [List.length_zipIdx]; omega) fun q hq => ⟨_, _, gt_tup (gts_cons gt_name (gts_cons gt_name gts_nil)) rfl, by simp, fun _ => by
    have := zip_small hq
    exact (ed_op (ed_var rfl) (ed_op (ed_var rfl) ed_int rd_I0) (rd_I (by trivial)))⟩) (congrArg PyData.list (mm (fun q : Int × Nat => q.1 * ((q.2 : Int) + 3)) PyData.int _).symm)) ea_nil) rc_sum) ⟨rfl, rfl⟩) x1 k1 ?_
  rintro σ2 H2 Γ2 S2 Hs2 ⟨rfl, rfl⟩ x2 k2
  refine gs_run2 (nx := fun Γ S => Γ = [.dat (eL ns), .dat (eL (foldedF ns)), .dat (.int (weighF ns)), .own ((farF ns).map .int), .un, .un] ∧ S = S0) (gs_asgO (xs := (farF ns).map .int) (en_lc (as := foldedF ns) (enc := .int) (fun c => decide ((10 : Int) ^ (18 : Int).toNat ≤ c)) .int (ei_list (ed_var rfl)) (by omega) fun c hc => ⟨_, _, gt_name, by simp, fun _ => ⟨(et_test (ed_op (ed_var rfl) (ed_op ed_int ed_int (rd_I (by trivial))) rd_B0)), fun _ => ed_var rfl⟩⟩) ⟨rfl, rfl⟩) x2 k2 ?_
  rintro σ3 H3 Γ3 S3 Hs3 ⟨rfl, rfl⟩ x3 k3
  intro p hp
  have k4 := k3.laidO (o := .dK []) hp
  have f4 := k3.laidOFr (o := .dK []) hp
  have x4 := x3.fr k3 f4
  obtain ⟨s, q1, l, vl, rfl, q2, q3, q4, q5⟩ := x4.at_ 3 _ rfl
  refine ⟨_, q1, ?_⟩
  have near : EvD ⟨K, none⟩ _ _ S0 (eL (nearF ns)) S0 := ed_is (Γ := [.dat (eL ns), .dat (eL (foldedF ns)), .dat (.int (weighF ns)), .own ((farF ns).map .int), .un, .un]) (ed_op (ed_lst (ea_cons (ed_op ed_int (ed_cb (ea_cons (ed_var (i := 1) rfl) ea_nil) (rc_len (xs := (foldedF ns).map .int))) rd_I0) ea_nil) (sz (by simp))) (ed_var (i := 1) rfl) (rd_catL (ys := (foldedF ns).map .int) (by rw [List.length_map]; simp; omega))) (congrArg PyData.list (by unfold nearF; rw [List.map_append, List.length_map]; rfl))
  refine near ⟨Hs, H⟩ σ3 Hs3 _ x4 k4 _ fun vn Hs5 H5 k5 f5 d5 => ?_
  obtain ⟨n, xs, rfl, _, _⟩ := Dp.toL d5
  have x5 := x4.fr k4 f5
  obtain ⟨v2, r1, r2⟩ := x5.dat (i := 2) rfl
  refine ⟨_, r1, ?_⟩
  have hp0 : H p = none := k3.fresh0 hp
  have l5 : H5 l = some (.lst vl) := f5.ex l _ (kb l) q2
  have p5 : H5 p = some (.dK []) := f5.ex p _ (kb p) upd_same
  have nn : ∀ a u, Hs3 a = none → (upd H3 p (.dK [])) a = some u → Hs5 a = none := fun a u z1 z2 => by
    cases z : Hs5 a with
    | none => rfl
    | some o =>
      rcases f5.new a o z with ⟨u', y⟩ | y
      · rw [z1] at y
        cases y
      · rw [z2] at y
        cases y
  have lp : l ≠ p := fun z => by
    rw [z, upd_same] at q2
    cases q2
  have evl : vl = (farF ns).map V.int := DpAll.ints q3
  refine ⟨p5, [(.inr "far", .ref l), (.inr "near", .ref n), (.inr "total", v2), (.inr "turn", .int 0)], rfl, by simp, ?_⟩
  rw [Dp.toI r2]
  refine q ⟨p, l, n, nearF ns, weighF ns⟩ ⟨farF ns, 0⟩ Hs5 (upd H5 p (.dK (stoKvs ⟨p, l, n, nearF ns, weighF ns⟩ ⟨farF ns, 0⟩))) (fun a o e => ?_) k5.exs0 (fun a o e => ?_) (fun a o e => k5.new a o e) ⟨nn _ _ (k3.freshS hp) upd_same, nn _ _ q4 q2, upd_same, ?_⟩ d5 ⟨by simp [nearF], by simp [nearF]; omega, ?_⟩
  · rw [upd_ne (ne_of_none e hp0)]
    exact k5.ex0 a o (kb a) e
  · rw [upd_ne (ne_of_none e (nn _ _ (k3.freshS hp) upd_same))]
    exact k5.exs a o e
  · rw [upd_ne lp, l5, evl]
  · show (farF ns).length ≤ 1000
    have := List.length_filter_le (fun c => decide ((10 : Int) ^ (18 : Int).toNat ≤ c)) (foldedF ns)
    unfold farF
    omega
end Pm


set_option Elab.async false
set_option linter.all false
set_option maxRecDepth 100000
set_option maxHeartbeats 4000000
set_option autoImplicit false
namespace Pm
open PySem PySem.Spec PyProof.Rows L2 Dl Bx
variable {P : Program} {w : World} {K : PySem.W.Frag} {mg : Str → Option Value} {base : Heap}
local macro_rules | `(tactic| trivial) => `(tactic| first | omega | exact Or.inr ⟨by omega, by omega⟩ | exact Or.inl ⟨by omega, by omega⟩ | exact ⟨by omega, by omega⟩)
/-! ### the law -/
def spLaw (K : PySem.W.Frag) : Sp := fun vs H Q _ => ∃ (a : Addr) (ns : List Int), vs = [.ref a] ∧ SqL K H a (ns.map V.int) ∧ ns.length ≤ 63 ∧ ∀ H', Q (.bl true) H'
/-- behind a statement walked by hand -/
theorem go_nx {C : Cq} {B : Bs} {E : DE} {Γ : List Sl} {S : Sto} {Hs H : Hp} {σ : L2.St} {D D0 : Ends} {t u : TS} (g : GS C (tSeq t u) E Γ S) (l : E.le C B D) (x : SlsOk C B Hs H σ Γ) (k : Dl.HOk C B S Hs H) : ({ D0 with nx := tSeq t u D } : Ends).nx σ H := g B D l σ Hs H x k
theorem mir_all (b : Bool) : sortsL.map (fun s => PyData.str (mirOf b s)) = (mirF b).map .str := by
  unfold mirF
  rw [List.map_map]
  rfl
theorem names_tab : tableL.map (fun l : Ln => PyData.str l.1) = sortsL.map .str := by
  rw [← table_names, List.map_map]
  rfl
theorem mir_sub (b : Bool) : (∀ s ∈ mirF b, s ∈ sortsL) ∧ (mirF b).length ≤ 24 := by
  refine ⟨fun s hs => ?_, ?_⟩
  · obtain ⟨t, ht, rfl⟩ := List.mem_map.mp hs
    exact mir_mem b ht
  · unfold mirF
    rw [List.length_map]
    have := keys_len.2
    omega
theorem sc_law : FnScope ["_law_script", "_law_store_here", "_law_lines", "_law_names", "_law_turns", "_law_changes", "_law_told", "_law_most", "_law_plane_here", "_law_wide", "_law_line", "_law_name"] ["_law_script"] (defScope (Bx.top 79)) := ⟨rfl, rfl, rfl, by decide +kernel, rfl, by decide +kernel, by decide +kernel⟩
theorem fn_law (T : Tx w K mg base) {f : Addr} {fd : FuncData} (F : FunD K "law" "law" (defArgs (Bx.top 79)) (defBody (Bx.top 79)) (defScope (Bx.top 79)) [] [] f fd) : Mk.FnG P w K mg base 11 f fd ["_law_script"] (spLaw K) := by
  have ok__law_store := ok__law_store (P := P) T
  have ok__law_table := ok__law_table (P := P) T
  have ok__law_mirrors := ok__law_mirrors (P := P) T
  have ok_all_sorts := ok_all_sorts (P := P) T
  have ok_turned_sort := ok_turned_sort (P := P) T
  have ok_exchanged_sort := ok_exchanged_sort (P := P) T
  have ok__law_flat_drawn := ok__law_flat_drawn (P := P) T
  obtain ⟨fdBM, FBM⟩ := T.f__law_by_mirrors
  have fnBM := fn__law_by_mirrors (P := P) T FBM
  have bBM := FBM.bindsN (ps := ["_law_plane_here", "_law_wide", "_law_names", "_law_turns", "_law_changes"]) (fun _ _ _ _ _ _ us hl => match us, hl with | [_, _, _, _, _], _ => rfl)
  refine Mk.fnG_of F sc_law (fun vs H Q E h => ?_) (fun cdv A outer sh H vs Q E hg0 hr h => ?_)
  · obtain ⟨a, ns, rfl, _⟩ := h
    rfl
  obtain ⟨a, ns, rfl, hS, hn, q⟩ := h
  have hg : (A.deeper (envOfC "law" (defScope (Bx.top 79)) sh.heap.objs.size f cdv)).guards = some [] := hg0
  have nd := sc_law.nd
  refine ⟨_, PSs.nox (pss_cons (ps_par (i := 1) (j := 2) rfl nd rfl rfl (by decide) rfl rfl (pa_cons (C8.pe_c ok__law_store hr (by decide) (by rfl) (pa_cons (pv 0) pa_nil)) (pa_cons (Mk.pc0 ok__law_table hr (by decide) (by rfl)) pa_nil)) (by rfl))
      (pss_cons (ps_setLc (i := 3) (own := [("_law_line", 10)]) (g := (gName 10)) (tt := tYes) rfl nd rfl rfl (sw_true rfl rfl rfl (by decide +kernel)) (pi_list (pv 2)) (blkOk_by (by rfl)) (fun _ _ _ _ _ => (pg_name (i := 10) nd rfl (.inl rfl))) (fun _ _ _ _ _ => pts_nil) (fun _ _ _ _ _ => (pe_ix (Mk.ix K rfl) (pv 10) pe_int (fun _ _ => rfl))))
      (pss_cons (ps_par (i := 4) (j := 5) rfl nd rfl rfl (by decide) rfl rfl (pa_cons (C8.pe_c ok__law_mirrors hr (by decide) (by rfl) (pa_cons (pv 3) (pa_cons pe_bl pa_nil))) (pa_cons (C8.pe_c ok__law_mirrors hr (by decide) (by rfl) (pa_cons (pv 3) (pa_cons pe_bl pa_nil))) pa_nil)) (by rfl))
      (pss_cons (ps_set (i := 6) nd rfl (.inl rfl) (pe_lst (pa_cons (Mk.pc0 ok_all_sorts hr (by decide) (by rfl)) (pa_cons (pe_lc (own := [("_law_name", 11)]) (g := (gName 11)) (tt := tYes) rfl nd (pi_list (pv 3)) (blkOk_by (by rfl)) (fun _ _ _ _ _ => (pg_name (i := 11) nd rfl (.inl rfl))) (fun _ _ _ _ _ => pts_nil) (fun _ _ _ _ _ => (C8.pe_c ok_turned_sort hr (by decide) (by rfl) (pa_cons (pv 11) pa_nil)))) (pa_cons (pe_lc (own := [("_law_name", 11)]) (g := (gName 11)) (tt := tYes) rfl nd (pi_list (pv 3)) (blkOk_by (by rfl)) (fun _ _ _ _ _ => (pg_name (i := 11) nd rfl (.inl rfl))) (fun _ _ _ _ _ => pts_nil) (fun _ _ _ _ _ => (C8.pe_c ok_exchanged_sort hr (by decide) (by rfl) (pa_cons (pv 11) pa_nil)))) pa_nil)))))
      (pss_cons (ps_if (pt_cmpR op_ne (pe_callB (Mk.repr K rfl hg hr.units) (by rfl) T.b_repr (by decide +kernel) (pa_cons (pv 6) pa_nil)) (pe_callB (Mk.repr K rfl hg hr.units) (by rfl) T.b_repr (by decide +kernel) (pa_cons (pe_lst (pa_cons (pe_callTy (Mk.tuple K rfl) (by rfl) T.b_tuple PyProof.Rows.boot_tuple (pa_cons (pv 3) pa_nil)) (pa_cons (pv 4) (pa_cons (pv 5) pa_nil)))) pa_nil)) (nomark _)) (pss_one (ps_ret pe_bl)) pss_nil)
      (pss_cons (ps_for PassesOwn.never rfl (pi_list (pe_lst (pa_cons pe_int (pa_cons pe_int (pa_cons pe_int (pa_cons pe_int pa_nil)))))) (pg_name (i := 7) nd rfl (.inl rfl)) (pss_cons (ps_asg (C8.pe_c ok__law_flat_drawn hr (by decide) (by rfl) (pa_cons (pv 1) (pa_cons (pv 2) (pa_cons (pv 7) pa_nil)))) (pg_unl rfl (pgs_cons (pg_name (i := 8) nd rfl (.inl rfl)) (pgs_cons (pg_name (i := 9) nd rfl (.inl rfl)) pgs_nil))))
      (pss_one (ps_if (pt_not (pt_val (Mk.pe_callG fnBM hg (hr.mono (by decide)) (by rfl) T.g__law_by_mirrors FBM.kp bBM C8.pass0 (pa_cons (pv 8) (pa_cons (pv 9) (pa_cons (pv 3) (pa_cons (pv 4) (pa_cons (pv 5) pa_nil)))))))) (pss_one (ps_ret pe_bl)) pss_nil))))
      (pss_one (ps_ret pe_bl)))))))), ?_⟩
  have hv : Dp K H (.ref a) (eL ns) := .lst hS (DpAll.ofInts _)
  -- a new store; from there on all is known anew
  refine ⟨_, rfl, H, ns, _, rfl, hv, hn, Ex.refl _, fun lo S Hs2 H2 e1 e2 e3 n st dn hSo => ?_⟩
  have k2 : HOk ⟨K, some lo⟩ ⟨Hs2, H2⟩ S Hs2 H2 := ⟨fun a o _ e => e, Ex.refl _, e3, fun a o e => .inl ⟨o, e⟩, fun lo' e => by
    cases e
    exact ⟨st, dn, ⟨_, st.d⟩, ⟨_, st.l⟩⟩⟩
  have x2 : SlsOk ⟨K, some lo⟩ ⟨Hs2, H2⟩ Hs2 H2 (L2.start ["_law_script", "_law_store_here", "_law_lines", "_law_names", "_law_turns", "_law_changes", "_law_told", "_law_most", "_law_plane_here", "_law_wide", "_law_line", "_law_name"] [.ref a]) (slots 12 [eL ns]) := start_dat rfl (.cons (dp_mono e2 _ _ hv) .nil)
  have tb : EvA ⟨K, some lo⟩ _ (slots 12 [eL ns]) S [.list (tableL.map eLn)] S := ea_cons (ed_call (E := C8.E0) (R := R__law_table) ea_nil ⟨rfl, rfl⟩) ea_nil
  refine tb ⟨Hs2, H2⟩ _ Hs2 H2 x2 k2 _ fun us Hs3 H3 k3 f3 d3 => ?_
  have x3 := (x2.fr k2 f3).setG 1 (s := some (.ref lo.d)) (g := .sto) ⟨lo, rfl, rfl⟩ (fun _ z => nomatch z)
  cases d3 with
  | cons d3 d4 =>
    cases d4
    refine ⟨_, _, rfl, ?_⟩
    have x4 := x3.setD 2 d3
    have le : DE.le { nx := fun _ _ => False, rt := fun d _ => d = .bool true } ⟨K, some lo⟩ ⟨Hs2, H2⟩ { nx := fun _ H' => Q .non H', rt := Q } := ⟨fun σ H Γ S Hs e => e.elim, fun v H d S Hs e k dv => by
      have ed : d = .bool true := e
      subst ed
      rw [Dp.toB dv]
      exact q H, fun σ H Γ S Hs e => e.elim, fun σ H Γ S Hs e => e.elim⟩
    obtain ⟨kl, sl⟩ := keys_len
    have tl := table_len
    have shw : Shw 1000000 60 (.list [eST sortsL, eS (mirF true), eS (mirF false)]) := (shw_list (m := 2000) (k := 1) (n := 3) (fun d hd => by
      simp only [List.mem_cons, List.not_mem_nil, or_false] at hd
      rcases hd with rfl | rfl | rfl
      · exact (shw_strs (fun s h => h) (by omega)).2
      · exact (shw_strs (mir_sub true).1 (mir_sub true).2).1
      · exact (shw_strs (mir_sub false).1 (mir_sub false).2).1) (by simp)).mono (by omega) (by omega)
    refine go_nx (E := { nx := fun _ _ => False, rt := fun d _ => d = .bool true }) (Γ := [.dat (eL ns), .sto, .dat (.list (tableL.map eLn)), .un, .un, .un, .un, .un, .un, .un, .un, .un]) (S := S) ?_ le x4 k3
    refine gs_seq (gs_asg (d := eS sortsL) (ed_is (ed_lcm (as := tableL) (enc := eLn) (fun l => .str l.1) (ei_list (ed_var rfl)) (by omega) fun l hl => ⟨_, _, gt_name, by simp, fun _ => ed_op (ed_var rfl) ed_int (rd_ixT (j := 0) (by rfl) rfl)⟩) (congrArg PyData.list names_tab)) ?_)
    refine gs_seq (gs_par (d1 := eS (mirF true)) (d2 := eS (mirF false)) (ea_cons (ed_call (ea_cons (ed_var rfl) (ea_cons ed_bl ea_nil)) ⟨true, rfl, rfl⟩) (ea_cons (ed_call (ea_cons (ed_var rfl) (ea_cons ed_bl ea_nil)) ⟨false, rfl, rfl⟩) ea_nil)) ?_)
    refine gs_seq (gs_asg (d := .list [eST sortsL, eS (mirF true), eS (mirF false)]) (ed_lst (ea_cons (ed_call ea_nil ⟨rfl, rfl⟩) (ea_cons (ed_is (ed_lcm (as := sortsL) (enc := .str) (fun s => .str (mirOf true s)) (ei_list (ed_var rfl)) (by omega) fun s hs => ⟨_, _, gt_name, by simp, fun _ => ed_call (ea_cons (ed_var rfl) ea_nil) ⟨s, rfl, hs, by rw [turn_mir s hs]; rfl⟩⟩) (congrArg PyData.list (mir_all true))) (ea_cons (ed_is (ed_lcm (as := sortsL) (enc := .str) (fun s => .str (mirOf false s)) (ei_list (ed_var rfl)) (by omega) fun s hs => ⟨_, _, gt_name, by simp, fun _ => ed_call (ea_cons (ed_var rfl) ea_nil) ⟨s, rfl, hs, by rw [exch_mir s hs]; rfl⟩⟩) (congrArg PyData.list (mir_all false))) ea_nil))) (sz (by simp))) ?_)
    refine gs_seq (gs_if (b := false) (et_is (et_test (ed_op (ed_cb (ea_cons (ed_var rfl) ea_nil) (rc_shw shw (by omega) (by omega) (by rfl))) (ed_cb (ea_cons (ed_lst (ea_cons (ed_cb (ea_cons (ed_var rfl) ea_nil) rc_tuple) (ea_cons (ed_var rfl) (ea_cons (ed_var rfl) ea_nil))) (sz (by simp))) ea_nil) (rc_shw shw (by omega) (by omega) (by rfl))) rd_neS)) (by simp [eST])) (fun h => nomatch h) (fun _ => gs_next ?_))
    refine gs_seq (gs_for (as := [6, 5, 8, 6]) (enc := .int) (ei_list (ed_lst (ea_cons ed_int (ea_cons ed_int (ea_cons ed_int (ea_cons ed_int ea_nil)))) (sz (by simp)))) (fun i Γ S => ∃ s7 s8 s9, Γ = [.dat (eL ns), .sto, .dat (.list (tableL.map eLn)), .dat (eS sortsL), .dat (eS (mirF true)), .dat (eS (mirF false)), .dat (.list [eST sortsL, eS (mirF true), eS (mirF false)]), s7, s8, s9, .un, .un] ∧ SOk lo.near S) ⟨_, _, _, rfl, hSo⟩ ?_ ?_)
    · rintro i most Γ' S' ha ⟨s7, s8, s9, rfl, hS'⟩
      have hm : 0 ≤ most ∧ most ≤ 20 := by
        have := List.mem_of_getElem? ha
        simp only [List.mem_cons, List.not_mem_nil, or_false] at this
        omega
      obtain ⟨R, hw, hn40, hS2⟩ := flatF_spec (total := lo.total) hS' hm.1 hm.2
      refine ⟨_, _, gt_name, gs_seq (gs_asgT (ed_callS rfl rfl (ea_cons (ed_var rfl) (ea_cons (ed_var rfl) ea_nil)) ⟨most, rfl, hm.1, hm.2, hS', rfl, rfl⟩) (gt_unl (gts_cons gt_name (gts_cons gt_name gts_nil)) rfl) ?_)⟩
      refine gs_if (b := false) (et_is (et_not (et_B (ed_call (d := .bool true) (ea_cons (ed_var rfl) (ea_cons (ed_var rfl) (ea_cons (ed_var rfl) (ea_cons (ed_var rfl) (ea_cons (ed_var rfl) ea_nil))))) ⟨_, _, _, _, rfl, R, hw, hn40, rfl⟩))) rfl) (fun h => nomatch h) (fun _ => gs_next ⟨_, _, _, rfl, hS2⟩)
    · rintro Γ' S' ⟨s7, s8, s9, rfl, hS'⟩
      exact gs_ret ed_bl rfl
end Pm


set_option Elab.async false
set_option linter.all false
set_option maxRecDepth 100000
set_option maxHeartbeats 0
namespace Bx
open PySem PySem.Spec PyProof.Rows L2
theorem run0 (w : World) : HandSHeadRun.RunEq R (PySem.W.view R.prog [79]) (hk 4) ob 8000 loose (w.withFollow "special-get-raises" false) := by
  intro os
  kernel_rfl
theorem run1 (w : World) : HandSHeadRun.RunEq R (PySem.W.view R.prog [79]) (hk 4) ob 8000 loose (w.withFollow "special-get-raises" true) := by
  intro os
  kernel_rfl
theorem run (w : World) : HandSHeadRun.RunEq R (PySem.W.view R.prog [79]) (hk 4) ob 8000 loose w :=
  PySem.W.byRow2 "special-get-raises" (P := fun w => HandSHeadRun.RunEq R (PySem.W.view R.prog [79]) (hk 4) ob 8000 loose w) run0 run1 w
end Bx


set_option Elab.async false
set_option linter.all false
set_option maxRecDepth 100000
set_option maxHeartbeats 0
namespace Pm
open PySem PySem.Spec PyProof.Rows L2 Dl Bx
theorem facts {P : Program} {w : World} {K : PySem.W.Frag} {h : Heap} {mg : Str → Option Value} {f : Addr} (X : K.In h) (G : h.Ns mainGlobals mg) (em : mg ("law" : Str) = some (.ref f)) (c : He.SaysT fa fn ts w K) (e : exB K = true) :
    ∃ fd : FuncData, (∀ (y : Shared) (u : Value), BindsTo y fd ⟨[u], []⟩ [("_law_script", u)]) ∧ ∀ base : Heap, K.In base → base.Ns mainGlobals mg → Mk.FnG P w K mg base 11 f fd ["_law_script"] (spLaw K) := by
  have T : Tx w K mg h := ⟨X, G, c, e⟩
  obtain ⟨fd, F⟩ := T.f_law
  have e1 := em.symm.trans T.g_law
  cases e1
  have b := FunD.bindsA (ps := ["_law_script"]) F fun _ _ _ _ _ _ us hl => match us, hl with | [_], _ => rfl
  exact ⟨fd, fun y u => b y [u] rfl, fun base X2 G2 => fn_law (⟨X2, G2, c, e⟩ : Tx w K mg base) F⟩
end Pm
open PySem PySem.W PySem.Calls PyProof.Rows
theorem PySem.Challenge.cw_boxlaws_k77_whole_sorts_enough_for_turne_holds : PySem.Challenge.rw_boxlaws_k77_whole_sorts_enough_for_turne.Holds := by
  w_on; o_law
  refine HandSHeadRun.head_any (r := Bx.R) (q := PySem.W.view Bx.R.prog [79]) (H := Bx.hk 4) (ob := Bx.ob) (M := 8000) (loose := Bx.loose) (d := HandSHeadRun.topDef Bx.R.prog 79) (kwd := []) Bx.ob_eq
    (by kernel_rfl) (fun s => by kernel_rfl) Bx.run (by kernel_rfl) (by kernel_rfl) (by kernel_rfl) (by rfl) (by first | assumption | decide +kernel) (by decide +kernel) ⟨rfl, rfl, rfl, rfl, rfl, by decide +kernel⟩ ?hw ?hc
  case hw => w_witness2
  case hc =>
    refine Mk.walkG (l := PySem.Challenge.rw_boxlaws_k77_whole_sorts_enough_for_turne) (n := 63) (k := 11) (x := "_law_script") rfl (by decide) (by kernel_rfl) ⟨rfl, by decide, by decide⟩ ?_
    intro w mg f h Y G em0
    obtain ⟨K, KX, c, e⟩ := Y
    have em : mg ("law" : PySem.Str) = some (.ref f) := by
      have en : (HandSHeadRun.topDef Bx.R.prog 79).name = ("law" : PySem.Str) := by kernel_rfl
      rw [← en]
      exact em0
    obtain ⟨fd, hb, hF⟩ := Pm.facts (P := (PySem.Challenge.rw_boxlaws_k77_whole_sorts_enough_for_turne).prog) (w := w) KX G em c e
    exact ⟨K, fd, Pm.spLaw K, KX, hb, fun H a ns hl hS => ⟨a, ns, rfl, hS, hl, fun _ => rfl⟩, hF⟩

