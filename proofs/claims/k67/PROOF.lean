import PyProof.Rows.All
import Wide.All
import OpenK.AllK
import Wide.FinOn
import HandS.ForExc
import HandS.Comp
import HandS.Iter
import HandS.Dict
import HandS.WordsDict
import HandS.Wide
import HandS.ListItems
import HandS.SortRule
import HandS.Style
import HandS.IsInst
import HandS.ExcInit
import HandS.ExcField
import HandS.Walk
import KE.GoesMore
import KE.KExcIs
import PyProof.NeKinds
import HandS.ForMost
import PySem.Challenge.RW_leapfit_k67_whole_counts_between_are_att
set_option maxHeartbeats 4000000
namespace K67
/-! Records, rules, rates: the mathematics of fitting. -/
structure Rec where
  lo : Bool
  t : Int
  n : Int
/-- the rule (p, q, c) fits the record -/
def Fits (p q c : Int) (r : Rec) : Prop := if r.lo = true then r.n * q ≤ p * r.t + c else p * r.t + c < (r.n + 1) * q
structure Fit (p q c : Int) (rs : List Rec) : Prop where
  hp : 0 ≤ p
  hq : 0 < q
  all : ∀ r ∈ rs, Fits p q c r
def cnt (p q c t : Int) : Int := (p * t + c) / q
theorem fits_lo {p q c : Int} {r : Rec} (h : r.lo = true) : Fits p q c r ↔ r.n * q ≤ p * r.t + c := by unfold Fits; rw [if_pos h]
theorem fits_hi {p q c : Int} {r : Rec} (h : r.lo = false) : Fits p q c r ↔ p * r.t + c < (r.n + 1) * q := by
  unfold Fits; rw [if_neg (by rw [h]; decide)]
theorem fits_cnt {p q c : Int} {r : Rec} (hq : 0 < q) : Fits p q c r ↔ (if r.lo = true then r.n ≤ cnt p q c r.t else cnt p q c r.t ≤ r.n) := by
  unfold cnt
  cases h : r.lo with
  | true =>
    rw [fits_lo h, if_pos rfl]
    exact (Int.le_ediv_iff_mul_le hq).symm
  | false =>
    rw [fits_hi h, if_neg (by decide)]
    constructor
    · intro z
      have := (Int.ediv_lt_iff_lt_mul hq).mpr z
      omega
    · intro z
      exact (Int.ediv_lt_iff_lt_mul hq).mp (by omega)
theorem cnt_le {p q c t n : Int} (hq : 0 < q) : cnt p q c t ≤ n ↔ p * t + c < (n + 1) * q := by
  unfold cnt
  constructor
  · intro z
    exact (Int.ediv_lt_iff_lt_mul hq).mp (by omega)
  · intro z
    have := (Int.ediv_lt_iff_lt_mul hq).mpr z
    omega
theorem le_cnt {p q c t n : Int} (hq : 0 < q) : n ≤ cnt p q c t ↔ n * q ≤ p * t + c := Int.le_ediv_iff_mul_le hq
theorem cnt_eq {p q c t n : Int} (hq : 0 < q) (h1 : n * q ≤ p * t + c) (h2 : p * t + c < (n + 1) * q) : cnt p q c t = n := by
  have a := (cnt_le (p := p) (c := c) (t := t) (n := n) hq).mpr h2
  have b := (le_cnt (p := p) (c := c) (t := t) (n := n) hq).mpr h1
  omega
/-- a rate that every pair of records admits -/
def RateOk (p q : Int) (rs : List Rec) : Prop := ∀ i ∈ rs, ∀ j ∈ rs, i.lo = true → j.lo = false → (i.n - j.n - 1) * q < p * (i.t - j.t)
theorem rate_of_fit {p q c : Int} {rs : List Rec} (h : Fit p q c rs) : RateOk p q rs := by
  intro i hi j hj li lj
  have a := (fits_lo li).mp (h.all i hi)
  have b := (fits_hi lj).mp (h.all j hj)
  grind
/-- c at a record from below that is greatest -/
theorem fit_low {p q : Int} {rs : List Rec} (hp : 0 ≤ p) (hq : 0 < q) (h : RateOk p q rs) {i : Rec} (hi : i ∈ rs) (li : i.lo = true)
    (mx : ∀ r ∈ rs, r.lo = true → r.n * q - p * r.t ≤ i.n * q - p * i.t) : Fit p q (i.n * q - p * i.t) rs := by
  refine ⟨hp, hq, fun r hr => ?_⟩
  cases e : r.lo with
  | true =>
    rw [fits_lo e]
    have := mx r hr e
    omega
  | false =>
    rw [fits_hi e]
    have := h i hi r hr li e
    grind
/-- c at a record from above that is least -/
theorem fit_high {p q : Int} {rs : List Rec} (hp : 0 ≤ p) (hq : 0 < q) (h : RateOk p q rs) {j : Rec} (hj : j ∈ rs) (lj : j.lo = false)
    (mn : ∀ r ∈ rs, r.lo = false → (j.n + 1) * q - p * j.t ≤ (r.n + 1) * q - p * r.t) : Fit p q ((j.n + 1) * q - p * j.t - 1) rs := by
  refine ⟨hp, hq, fun r hr => ?_⟩
  cases e : r.lo with
  | true =>
    rw [fits_lo e]
    have := h r hr j hj e lj
    grind
  | false =>
    rw [fits_hi e]
    have := mn r hr e
    omega
/-- no record from below: every c that is small enough -/
theorem fit_small {p q c : Int} {rs : List Rec} (hp : 0 ≤ p) (hq : 0 < q) (no : ∀ r ∈ rs, r.lo = false) (mn : ∀ r ∈ rs, c < (r.n + 1) * q - p * r.t) : Fit p q c rs := by
  refine ⟨hp, hq, fun r hr => ?_⟩
  rw [fits_hi (no r hr)]
  have := mn r hr
  omega
theorem fit_great {p q c : Int} {rs : List Rec} (hp : 0 ≤ p) (hq : 0 < q) (no : ∀ r ∈ rs, r.lo = true) (mn : ∀ r ∈ rs, r.n * q - p * r.t ≤ c) : Fit p q c rs := by
  refine ⟨hp, hq, fun r hr => ?_⟩
  rw [fits_lo (no r hr)]
  have := mn r hr
  omega
/-- the least item by a measure -/
theorem exists_min {α : Type} (f : α → Int) : ∀ (l : List α), l ≠ [] → ∃ m ∈ l, ∀ x ∈ l, f m ≤ f x
  | [], h => absurd rfl h
  | [a], _ => ⟨a, List.mem_cons_self, fun x hx => by rw [List.mem_singleton.mp hx]; exact Int.le_refl _⟩
  | a :: b :: r, _ => by
    obtain ⟨m, hm, h⟩ := exists_min f (b :: r) (by simp)
    by_cases c : f a ≤ f m
    · refine ⟨a, List.mem_cons_self, fun x hx => ?_⟩
      rcases List.mem_cons.mp hx with e | e
      · rw [e]; exact Int.le_refl _
      · exact Int.le_trans c (h x e)
    · refine ⟨m, List.mem_cons_of_mem _ hm, fun x hx => ?_⟩
      rcases List.mem_cons.mp hx with e | e
      · rw [e]; omega
      · exact h x e
/-- a bound from below of a measure -/
theorem exists_below {α : Type} (f : α → Int) : ∀ (l : List α), ∃ b, ∀ x ∈ l, b ≤ f x
  | [] => ⟨0, fun _ h => by cases h⟩
  | a :: r => by
    obtain ⟨b, h⟩ := exists_below f r
    refine ⟨min b (f a), fun x hx => ?_⟩
    rcases List.mem_cons.mp hx with e | e
    · rw [e]; omega
    · have := h x e; omega
/-- a rate that fits has a rule -/
theorem fit_of_rate {p q : Int} {rs : List Rec} (hp : 0 ≤ p) (hq : 0 < q) (h : RateOk p q rs) : ∃ c, Fit p q c rs := by
  by_cases e : rs.filter (·.lo) = []
  · have no : ∀ r ∈ rs, r.lo = false := fun r hr => by
      cases q : r.lo with
      | false => rfl
      | true =>
        have : r ∈ rs.filter (·.lo) := List.mem_filter.mpr ⟨hr, q⟩
        rw [e] at this; cases this
    obtain ⟨b, hb⟩ := exists_below (fun r : Rec => (r.n + 1) * q - p * r.t) rs
    exact ⟨b - 1, fit_small hp hq no fun r hr => by have := hb r hr; omega⟩
  · obtain ⟨i, hi, h1⟩ := exists_min (fun r : Rec => -(r.n * q - p * r.t)) _ e
    obtain ⟨a, b⟩ := List.mem_filter.mp hi
    refine ⟨_, fit_low hp hq h a b fun r hr lr => ?_⟩
    have := h1 r (List.mem_filter.mpr ⟨hr, lr⟩)
    omega
/-- the space of rules is convex: a count between two counts is had -/
theorem between {p1 q1 c1 p2 q2 c2 t n : Int} {rs : List Rec} (h1 : Fit p1 q1 c1 rs) (h2 : Fit p2 q2 c2 rs) (l1 : cnt p1 q1 c1 t ≤ n) (l2 : n ≤ cnt p2 q2 c2 t) : ∃ p q c, Fit p q c rs ∧ cnt p q c t = n := by
  have g1 := (cnt_le h1.hq).mp l1
  have g2 := (le_cnt h2.hq).mp l2
  by_cases e1 : n * q1 ≤ p1 * t + c1
  · exact ⟨p1, q1, c1, h1, cnt_eq h1.hq e1 g1⟩
  · by_cases e2 : p2 * t + c2 < (n + 1) * q2
    · exact ⟨p2, q2, c2, h2, cnt_eq h2.hq g2 e2⟩
    · have hA : 0 < n * q1 - (p1 * t + c1) := by omega
      have hB : 0 < (p2 * t + c2) - n * q2 := by have := h2.hq; grind
      have hq1 := h1.hq
      have hq2 := h2.hq
      have hp1 := h1.hp
      have hp2 := h2.hp
      generalize hAe : n * q1 - (p1 * t + c1) = A at hA
      generalize hBe : (p2 * t + c2) - n * q2 = B at hB
      have hq : 0 < B * q1 + A * q2 := by
        have := Int.mul_pos hB hq1
        have := Int.mul_pos hA hq2
        omega
      refine ⟨B * p1 + A * p2, B * q1 + A * q2, B * c1 + A * c2, ⟨?_, hq, fun r hr => ?_⟩, ?_⟩
      · have := Int.mul_nonneg (Int.le_of_lt hB) hp1
        have := Int.mul_nonneg (Int.le_of_lt hA) hp2
        omega
      · have f1 := h1.all r hr
        have f2 := h2.all r hr
        cases e : r.lo with
        | true =>
          rw [fits_lo e] at f1 f2 ⊢
          have := Int.mul_le_mul_of_nonneg_left f1 (Int.le_of_lt hB)
          have := Int.mul_le_mul_of_nonneg_left f2 (Int.le_of_lt hA)
          grind
        | false =>
          rw [fits_hi e] at f1 f2 ⊢
          have := Int.mul_lt_mul_of_pos_left f1 hB
          have := Int.mul_lt_mul_of_pos_left f2 hA
          grind
      · have e : (B * p1 + A * p2) * t + (B * c1 + A * c2) = n * (B * q1 + A * q2) := by
          have a1 : p1 * t + c1 = n * q1 - A := by omega
          have a2 : p2 * t + c2 = n * q2 + B := by omega
          have b1 : B * (p1 * t + c1) = B * (n * q1 - A) := by rw [a1]
          have b2 : A * (p2 * t + c2) = A * (n * q2 + B) := by rw [a2]
          grind
        exact cnt_eq hq (by omega) (by rw [e]; grind)
/-! ### what is asked of the bounds -/
/-- the least count at t over all rules that fit; none: there is none -/
def IsLow (rs : List Rec) (t : Int) : Option Int → Prop
  | some b => (∃ p q c, Fit p q c rs ∧ cnt p q c t = b) ∧ ∀ p q c, Fit p q c rs → b ≤ cnt p q c t
  | none => ∀ n, ∃ p q c, Fit p q c rs ∧ cnt p q c t ≤ n
def IsHigh (rs : List Rec) (t : Int) : Option Int → Prop
  | some b => (∃ p q c, Fit p q c rs ∧ cnt p q c t = b) ∧ ∀ p q c, Fit p q c rs → cnt p q c t ≤ b
  | none => ∀ n, ∃ p q c, Fit p q c rs ∧ n ≤ cnt p q c t
/-- is_between of the two bounds tells whether some rule that fits has the count -/
def inB (l : Option Int) (n : Int) (g : Option Int) : Bool := (match l with | none => true | some b => decide (b ≤ n)) && (match g with | none => true | some b => decide (n ≤ b))
theorem inB_iff {rs : List Rec} {t : Int} {l g : Option Int} (hl : IsLow rs t l) (hg : IsHigh rs t g) (n : Int) : inB l n g = true ↔ ∃ p q c, Fit p q c rs ∧ cnt p q c t = n := by
  constructor
  · intro h
    unfold inB at h
    obtain ⟨a, b⟩ := Bool.and_eq_true_iff.mp h
    have x : ∃ p q c, Fit p q c rs ∧ cnt p q c t ≤ n := by
      cases l with
      | none => exact hl n
      | some v =>
        obtain ⟨⟨p, q, c, f, e⟩, _⟩ := hl
        have := of_decide_eq_true a
        exact ⟨p, q, c, f, by omega⟩
    have y : ∃ p q c, Fit p q c rs ∧ n ≤ cnt p q c t := by
      cases g with
      | none => exact hg n
      | some v =>
        obtain ⟨⟨p, q, c, f, e⟩, _⟩ := hg
        have := of_decide_eq_true b
        exact ⟨p, q, c, f, by omega⟩
    obtain ⟨p1, q1, c1, f1, e1⟩ := x
    obtain ⟨p2, q2, c2, f2, e2⟩ := y
    exact between f1 f2 e1 e2
  · rintro ⟨p, q, c, f, rfl⟩
    unfold inB
    refine Bool.and_eq_true_iff.mpr ⟨?_, ?_⟩
    · cases l with
      | none => rfl
      | some v => exact decide_eq_true (hl.2 p q c f)
    · cases g with
      | none => rfl
      | some v => exact decide_eq_true (hg.2 p q c f)
end K67

set_option maxHeartbeats 4000000
namespace K67
/-! The bounds of the rates, pair by pair. -/
abbrev Pr := Int × Int
def less (x y : Pr) : Bool := decide (x.1 * y.2 < y.1 * x.2)
structure RB where
  low : Option Pr
  high : Option Pr
  clash : Bool
def rb0 : RB := ⟨none, none, false⟩
def upLow (b : RB) (x : Pr) : RB := match b.low with
  | none => { b with low := some x }
  | some l => if less l x = true then { b with low := some x } else b
def upHigh (b : RB) (x : Pr) : RB := match b.high with
  | none => { b with high := some x }
  | some h => if less x h = true then { b with high := some x } else b
def tighten (b : RB) (i j : Rec) : RB :=
  if j.t - i.t = 0 then (if j.n + 1 - i.n ≤ 0 then { b with clash := true } else b)
  else if 0 < j.t - i.t then upHigh b (j.n + 1 - i.n, j.t - i.t)
  else upLow b (0 - (j.n + 1 - i.n), 0 - (j.t - i.t))
def lows (rs : List Rec) : List Rec := rs.filter (fun r => r.lo)
def ups (rs : List Rec) : List Rec := rs.filter (fun r => !r.lo)
def rb (rs : List Rec) : RB := (lows rs).foldl (fun b i => (ups rs).foldl (fun b j => tighten b i j) b) rb0
/-- what holds of the bounds behind the pairs ps -/
structure RbInv (b : RB) (ps : List (Rec × Rec)) : Prop where
  l0 : b.low = none → ∀ x ∈ ps, ¬ x.2.t < x.1.t
  l1 : ∀ l, b.low = some l → 0 < l.2 ∧ (∃ x ∈ ps, x.2.t < x.1.t ∧ l.1 = x.1.n - x.2.n - 1 ∧ l.2 = x.1.t - x.2.t) ∧ ∀ x ∈ ps, x.2.t < x.1.t → (x.1.n - x.2.n - 1) * l.2 ≤ l.1 * (x.1.t - x.2.t)
  h0 : b.high = none → ∀ x ∈ ps, ¬ x.1.t < x.2.t
  h1 : ∀ h, b.high = some h → 0 < h.2 ∧ (∃ x ∈ ps, x.1.t < x.2.t ∧ h.1 = x.2.n + 1 - x.1.n ∧ h.2 = x.2.t - x.1.t) ∧ ∀ x ∈ ps, x.1.t < x.2.t → h.1 * (x.2.t - x.1.t) ≤ (x.2.n + 1 - x.1.n) * h.2
  c0 : b.clash = false → ∀ x ∈ ps, x.1.t = x.2.t → 0 < x.2.n + 1 - x.1.n
  c1 : b.clash = true → ∃ x ∈ ps, x.1.t = x.2.t ∧ x.2.n + 1 - x.1.n ≤ 0
theorem rbInv0 : RbInv rb0 [] := ⟨fun _ _ h => (by cases h), fun l h => (by cases h), fun _ _ h => (by cases h), fun l h => (by cases h), fun _ _ h => (by cases h), fun h => (by cases h)⟩
theorem frac_trans {a b c d e f : Int} (hd : 0 < d) (hb : 0 ≤ b) (hf : 0 ≤ f) (h1 : a * d ≤ c * b) (h2 : c * f ≤ e * d) : a * f ≤ e * b := by
  have e1 := Int.mul_le_mul_of_nonneg_right h1 hf
  have e2 := Int.mul_le_mul_of_nonneg_right h2 hb
  have e3 : (a * f) * d ≤ (e * b) * d := by grind
  exact Int.le_of_mul_le_mul_right e3 hd
theorem rbInv_step {b : RB} {ps : List (Rec × Rec)} (I : RbInv b ps) (i j : Rec) : RbInv (tighten b i j) (ps ++ [(i, j)]) := by
  have inl : ∀ {x}, x ∈ ps → x ∈ ps ++ [(i, j)] := fun h => List.mem_append_left _ h
  have inr : (i, j) ∈ ps ++ [(i, j)] := List.mem_append_right _ (List.mem_singleton.mpr rfl)
  have cs : ∀ {x}, x ∈ ps ++ [(i, j)] → x ∈ ps ∨ x = (i, j) := fun h => (List.mem_append.mp h).imp id List.mem_singleton.mp
  unfold tighten
  by_cases e : j.t - i.t = 0
  · rw [if_pos e]
    by_cases r : j.n + 1 - i.n ≤ 0
    · rw [if_pos r]
      refine ⟨fun h x hx => ?_, fun l h => ?_, fun h x hx => ?_, fun l h => ?_, fun h => ?_, fun _ => ⟨_, inr, by dsimp only; omega, r⟩⟩
      · rcases cs hx with z | z
        · exact I.l0 h x z
        · subst z; dsimp only; omega
      · obtain ⟨a, ⟨x, b1, b2⟩, c⟩ := I.l1 l h
        refine ⟨a, ⟨x, inl b1, b2⟩, fun x hx => ?_⟩
        rcases cs hx with z | z
        · exact c x z
        · subst z; dsimp only; omega
      · rcases cs hx with z | z
        · exact I.h0 h x z
        · subst z; dsimp only; omega
      · obtain ⟨a, ⟨x, b1, b2⟩, c⟩ := I.h1 l h
        refine ⟨a, ⟨x, inl b1, b2⟩, fun x hx => ?_⟩
        rcases cs hx with z | z
        · exact c x z
        · subst z; dsimp only; omega
      · cases h
    · rw [if_neg r]
      refine ⟨fun h x hx => ?_, fun l h => ?_, fun h x hx => ?_, fun l h => ?_, fun h x hx => ?_, fun h => ?_⟩
      · rcases cs hx with z | z
        · exact I.l0 h x z
        · subst z; dsimp only; omega
      · obtain ⟨a, ⟨x, b1, b2⟩, c⟩ := I.l1 l h
        refine ⟨a, ⟨x, inl b1, b2⟩, fun x hx => ?_⟩
        rcases cs hx with z | z
        · exact c x z
        · subst z; dsimp only; omega
      · rcases cs hx with z | z
        · exact I.h0 h x z
        · subst z; dsimp only; omega
      · obtain ⟨a, ⟨x, b1, b2⟩, c⟩ := I.h1 l h
        refine ⟨a, ⟨x, inl b1, b2⟩, fun x hx => ?_⟩
        rcases cs hx with z | z
        · exact c x z
        · subst z; dsimp only; omega
      · rcases cs hx with z | z
        · exact I.c0 h x z
        · subst z; dsimp only; omega
      · obtain ⟨x, a, b⟩ := I.c1 h
        exact ⟨x, inl a, b⟩
  · rw [if_neg e]
    by_cases d : 0 < j.t - i.t
    · rw [if_pos d]
      -- an upper bound
      have key : ∀ h' : Pr, (h' = (j.n + 1 - i.n, j.t - i.t) ∧ (∀ h, b.high = some h → less h' h = true)) ∨ (b.high = some h' ∧ less (j.n + 1 - i.n, j.t - i.t) h' = false) → RbInv { b with high := some h' } (ps ++ [(i, j)]) := by
        intro h' hh
        refine ⟨fun h x hx => ?_, fun l h => ?_, fun h => (by cases h), fun l h => ?_, fun h x hx => ?_, fun h => ?_⟩
        · rcases cs hx with z | z
          · exact I.l0 h x z
          · subst z; dsimp only; omega
        · obtain ⟨a, ⟨x, b1, b2⟩, c⟩ := I.l1 l h
          refine ⟨a, ⟨x, inl b1, b2⟩, fun x hx => ?_⟩
          rcases cs hx with z | z
          · exact c x z
          · subst z; dsimp only; omega
        · have el : l = h' := (Option.some.inj h).symm
          subst el
          rcases hh with ⟨e1, e2⟩ | ⟨e1, e2⟩
          · subst e1
            refine ⟨d, ⟨_, inr, by dsimp only; omega, rfl, rfl⟩, fun x hx lt => ?_⟩
            rcases cs hx with z | z
            · cases q : b.high with
              | none => exact absurd lt (I.h0 q x z)
              | some h0 =>
                obtain ⟨a1, _, a3⟩ := I.h1 h0 q
                have f1 := of_decide_eq_true (e2 h0 q)
                have f2 := a3 x z lt
                exact frac_trans a1 (Int.le_of_lt d) (by omega) (Int.le_of_lt f1) f2
            · subst z; exact Int.le_refl _
          · obtain ⟨a, ⟨x, b1, b2⟩, c⟩ := I.h1 l e1
            refine ⟨a, ⟨x, inl b1, b2⟩, fun x hx lt => ?_⟩
            rcases cs hx with z | z
            · exact c x z lt
            · subst z
              have := of_decide_eq_false e2
              dsimp only at this ⊢
              omega
        · rcases cs hx with z | z
          · exact I.c0 h x z
          · subst z; dsimp only; omega
        · obtain ⟨x, a, b⟩ := I.c1 h
          exact ⟨x, inl a, b⟩
      unfold upHigh
      cases q : b.high with
      | none => exact key _ (.inl ⟨rfl, fun h z => by rw [q] at z; cases z⟩)
      | some h =>
        dsimp only
        by_cases z : less (j.n + 1 - i.n, j.t - i.t) h = true
        · rw [if_pos z]
          exact key _ (.inl ⟨rfl, fun h2 z2 => by rw [q] at z2; cases z2; exact z⟩)
        · rw [if_neg z]
          have := key h (.inr ⟨q, by simpa using z⟩)
          rw [← q] at this
          exact this
    · rw [if_neg d]
      have d' : 0 < i.t - j.t := by omega
      have key : ∀ h' : Pr, (h' = (i.n - j.n - 1, i.t - j.t) ∧ (∀ h, b.low = some h → less h h' = true)) ∨ (b.low = some h' ∧ less h' (i.n - j.n - 1, i.t - j.t) = false) → RbInv { b with low := some h' } (ps ++ [(i, j)]) := by
        intro h' hh
        refine ⟨fun h => (by cases h), fun l h => ?_, fun h x hx => ?_, fun l h => ?_, fun h x hx => ?_, fun h => ?_⟩
        · have el : l = h' := (Option.some.inj h).symm
          subst el
          rcases hh with ⟨e1, e2⟩ | ⟨e1, e2⟩
          · subst e1
            refine ⟨d', ⟨_, inr, by dsimp only; omega, rfl, rfl⟩, fun x hx lt => ?_⟩
            rcases cs hx with z | z
            · cases q : b.low with
              | none => exact absurd lt (I.l0 q x z)
              | some h0 =>
                obtain ⟨a1, _, a3⟩ := I.l1 h0 q
                have f1 := of_decide_eq_true (e2 h0 q)
                have f2 := a3 x z lt
                exact frac_trans a1 (by omega) (Int.le_of_lt d') f2 (Int.le_of_lt f1)
            · subst z; exact Int.le_refl _
          · obtain ⟨a, ⟨x, b1, b2⟩, c⟩ := I.l1 l e1
            refine ⟨a, ⟨x, inl b1, b2⟩, fun x hx lt => ?_⟩
            rcases cs hx with z | z
            · exact c x z lt
            · subst z
              have := of_decide_eq_false e2
              dsimp only at this ⊢
              omega
        · rcases cs hx with z | z
          · exact I.h0 h x z
          · subst z; dsimp only; omega
        · obtain ⟨a, ⟨x, b1, b2⟩, c⟩ := I.h1 l h
          refine ⟨a, ⟨x, inl b1, b2⟩, fun x hx => ?_⟩
          rcases cs hx with z | z
          · exact c x z
          · subst z; dsimp only; omega
        · rcases cs hx with z | z
          · exact I.c0 h x z
          · subst z; dsimp only; omega
        · obtain ⟨x, a, b⟩ := I.c1 h
          exact ⟨x, inl a, b⟩
      have e1 : 0 - (j.n + 1 - i.n) = i.n - j.n - 1 := by omega
      have e2 : 0 - (j.t - i.t) = i.t - j.t := by omega
      rw [e1, e2]
      unfold upLow
      cases q : b.low with
      | none => exact key _ (.inl ⟨rfl, fun h z => by rw [q] at z; cases z⟩)
      | some h =>
        dsimp only
        by_cases z : less h (i.n - j.n - 1, i.t - j.t) = true
        · rw [if_pos z]
          exact key _ (.inl ⟨rfl, fun h2 z2 => by rw [q] at z2; cases z2; exact z⟩)
        · rw [if_neg z]
          have := key h (.inr ⟨q, by simpa using z⟩)
          rw [← q] at this
          exact this
theorem rbInv_fold : ∀ (qs : List (Rec × Rec)) (b : RB) (ps : List (Rec × Rec)), RbInv b ps → RbInv (qs.foldl (fun b x => tighten b x.1 x.2) b) (ps ++ qs)
  | [], b, ps, I => by rw [List.append_nil]; exact I
  | x :: qs, b, ps, I => by
    have := rbInv_fold qs (tighten b x.1 x.2) (ps ++ [x]) (rbInv_step I x.1 x.2)
    rw [List.append_assoc] at this
    exact this
theorem fold_pairs (us : List Rec) : ∀ (ls : List Rec) (b : RB), ls.foldl (fun b i => us.foldl (fun b j => tighten b i j) b) b = (ls.flatMap fun i => us.map fun j => (i, j)).foldl (fun b x => tighten b x.1 x.2) b
  | [], b => rfl
  | i :: ls, b => by
    rw [List.foldl_cons, List.flatMap_cons, List.foldl_append, fold_pairs us ls, List.foldl_map]
theorem mem_lows {rs : List Rec} {r : Rec} : r ∈ lows rs ↔ r ∈ rs ∧ r.lo = true := by unfold lows; rw [List.mem_filter]
theorem mem_ups {rs : List Rec} {r : Rec} : r ∈ ups rs ↔ r ∈ rs ∧ r.lo = false := by unfold ups; rw [List.mem_filter]; simp
theorem rb_inv (rs : List Rec) : ∃ ps, RbInv (rb rs) ps ∧ ∀ x, x ∈ ps ↔ (x.1 ∈ rs ∧ x.1.lo = true) ∧ (x.2 ∈ rs ∧ x.2.lo = false) := by
  refine ⟨_, (by unfold rb; rw [fold_pairs]; exact rbInv_fold _ rb0 [] rbInv0), fun x => ?_⟩
  rw [List.nil_append, List.mem_flatMap]
  constructor
  · rintro ⟨i, hi, hx⟩
    obtain ⟨j, hj, rfl⟩ := List.mem_map.mp hx
    exact ⟨mem_lows.mp hi, mem_ups.mp hj⟩
  · rintro ⟨h1, h2⟩
    exact ⟨x.1, mem_lows.mpr h1, List.mem_map.mpr ⟨x.2, mem_ups.mpr h2, rfl⟩⟩
/-- no rate fits, as the program asks it -/
def RB.empty (b : RB) : Bool := if b.clash = true then true else match b.high with
  | none => false
  | some h => decide (h.1 ≤ 0) || (match b.low with
    | none => false
    | some l => !less l h)
theorem frac_lt {a b c d p q : Int} (hq : 0 < q) (hb : 0 < b) (hd : 0 < d) (h1 : a * q < p * b) (h2 : p * d < c * q) : a * d < c * b := by
  have e1 := Int.mul_lt_mul_of_pos_right h1 hd
  have e2 := Int.mul_lt_mul_of_pos_right h2 hb
  have e3 : (a * d) * q < (c * b) * q := by grind
  exact Int.lt_of_mul_lt_mul_right e3 (Int.le_of_lt hq)
/-- the interval of a non-empty bound -/
theorem rate_iff {rs : List Rec} (he : (rb rs).empty = false) {p q : Int} (_ : 0 ≤ p) (hq : 0 < q) :
    RateOk p q rs ↔ (∀ l, (rb rs).low = some l → l.1 * q < p * l.2) ∧ ∀ h, (rb rs).high = some h → p * h.2 < h.1 * q := by
  obtain ⟨ps, I, hps⟩ := rb_inv rs
  constructor
  · intro R
    constructor
    · intro l hl
      obtain ⟨_, ⟨x, hx, _, e1, e2⟩, _⟩ := I.l1 l hl
      obtain ⟨⟨a, b⟩, ⟨c, d⟩⟩ := (hps x).mp hx
      rw [e1, e2]
      exact R x.1 a x.2 c b d
    · intro h hh
      obtain ⟨_, ⟨x, hx, _, e1, e2⟩, _⟩ := I.h1 h hh
      obtain ⟨⟨a, b⟩, ⟨c, d⟩⟩ := (hps x).mp hx
      have := R x.1 a x.2 c b d
      rw [e1, e2]
      grind
  · rintro ⟨Rl, Rh⟩ i hi j hj li lj
    have hx : (i, j) ∈ ps := (hps (i, j)).mpr ⟨⟨hi, li⟩, ⟨hj, lj⟩⟩
    have hc : (rb rs).clash = false := by
      unfold RB.empty at he
      cases q : (rb rs).clash with
      | false => rfl
      | true => rw [if_pos q] at he; cases he
    by_cases e : i.t = j.t
    · have := I.c0 hc _ hx e
      dsimp only at this
      rw [e, Int.sub_self, Int.mul_zero]
      have h2 : 0 < (j.n + 1 - i.n) * q := Int.mul_pos this hq
      grind
    · by_cases g : j.t < i.t
      · cases ql : (rb rs).low with
        | none => exact absurd g (I.l0 ql _ hx)
        | some l =>
          obtain ⟨a1, _, a3⟩ := I.l1 l ql
          have b1 := a3 _ hx g
          have b2 := Rl l ql
          dsimp only at b1
          have c1 := Int.mul_le_mul_of_nonneg_right b1 (Int.le_of_lt hq)
          have c2 := Int.mul_lt_mul_of_pos_right b2 (show 0 < i.t - j.t by omega)
          have c3 : ((i.n - j.n - 1) * q) * l.2 < (p * (i.t - j.t)) * l.2 := by grind
          exact Int.lt_of_mul_lt_mul_right c3 (Int.le_of_lt a1)
      · have g' : i.t < j.t := by omega
        cases qh : (rb rs).high with
        | none => exact absurd g' (I.h0 qh _ hx)
        | some h =>
          obtain ⟨a1, _, a3⟩ := I.h1 h qh
          have b1 := a3 _ hx g'
          have b2 := Rh h qh
          dsimp only at b1
          have c1 := Int.mul_le_mul_of_nonneg_right b1 (Int.le_of_lt hq)
          have c2 := Int.mul_lt_mul_of_pos_right b2 (show 0 < j.t - i.t by omega)
          have c3 : (p * (j.t - i.t)) * h.2 < ((j.n + 1 - i.n) * q) * h.2 := by grind
          have := Int.lt_of_mul_lt_mul_right c3 (Int.le_of_lt a1)
          grind
theorem no_rate {rs : List Rec} (he : (rb rs).empty = true) {p q : Int} (hp : 0 ≤ p) (hq : 0 < q) : ¬ RateOk p q rs := by
  intro R
  obtain ⟨ps, I, hps⟩ := rb_inv rs
  unfold RB.empty at he
  cases qc : (rb rs).clash with
  | true =>
    obtain ⟨x, hx, e1, e2⟩ := I.c1 qc
    obtain ⟨⟨a, b⟩, ⟨c, d⟩⟩ := (hps x).mp hx
    have := R x.1 a x.2 c b d
    rw [e1, Int.sub_self, Int.mul_zero] at this
    have h2 : 0 ≤ (x.1.n - x.2.n - 1) * q := Int.mul_nonneg (by omega) (Int.le_of_lt hq)
    omega
  | false =>
    rw [if_neg (by rw [qc]; decide)] at he
    cases qh : (rb rs).high with
    | none => rw [qh] at he; cases he
    | some h =>
      rw [qh] at he
      dsimp only at he
      obtain ⟨a1, ⟨x, hx, _, e1, e2⟩, _⟩ := I.h1 h qh
      obtain ⟨⟨a, b⟩, ⟨c, d⟩⟩ := (hps x).mp hx
      have r1 := R x.1 a x.2 c b d
      have r2 : p * h.2 < h.1 * q := by rw [e1, e2]; grind
      rcases Bool.or_eq_true_iff.mp he with z | z
      · have z := of_decide_eq_true z
        have := Int.mul_nonneg hp (Int.le_of_lt a1)
        have : h.1 * q ≤ 0 := Int.mul_nonpos_of_nonpos_of_nonneg z (Int.le_of_lt hq)
        omega
      · cases ql : (rb rs).low with
        | none => rw [ql] at z; cases z
        | some l =>
          rw [ql] at z
          dsimp only at z
          have z : less l h = false := by simpa using z
          have z := of_decide_eq_false z
          obtain ⟨a1', ⟨x', hx', _, e1', e2'⟩, _⟩ := I.l1 l ql
          obtain ⟨⟨a', b'⟩, ⟨c', d'⟩⟩ := (hps x').mp hx'
          have r3 := R x'.1 a' x'.2 c' b' d'
          rw [← e1', ← e2'] at r3
          exact z (frac_lt hq a1' a1 r3 r2)
/-! ### the ends that the program returns -/
def lowest (x : Pr) : Pr := (x.1 / (Int.gcd x.1 x.2 : Int), x.2 / (Int.gcd x.1 x.2 : Int))
def RB.ends (b : RB) : Option Pr × Option Pr := (match b.low with
  | none => none
  | some l => if l.1 < 0 then none else some (lowest l), b.high.map lowest)
theorem lowest_ok {x : Pr} (h2 : 0 < x.2) : ∃ g : Int, 0 < g ∧ x.1 = (lowest x).1 * g ∧ x.2 = (lowest x).2 * g ∧ 0 < (lowest x).2 ∧ Int.gcd (lowest x).1 (lowest x).2 = 1 := by
  have hg : 0 < Int.gcd x.1 x.2 := Int.gcd_pos_of_ne_zero_right _ (by omega)
  have hg' : (0 : Int) < (Int.gcd x.1 x.2 : Int) := by omega
  have a1 : x.1 = (lowest x).1 * (Int.gcd x.1 x.2 : Int) := (Int.ediv_mul_cancel (Int.gcd_dvd_left ..)).symm
  have a2 : x.2 = (lowest x).2 * (Int.gcd x.1 x.2 : Int) := (Int.ediv_mul_cancel (Int.gcd_dvd_right ..)).symm
  refine ⟨_, hg', a1, a2, ?_, ?_⟩
  · rw [a2] at h2
    exact Int.pos_of_mul_pos_left h2 hg'
  · unfold lowest
    exact Int.gcd_ediv_gcd_ediv_gcd hg
theorem scale_lt {a b c d g : Int} (hg : 0 < g) : a * (b * g) < (c * g) * d ↔ a * b < c * d := by
  have e1 : a * (b * g) = (a * b) * g := by grind
  have e2 : (c * g) * d = (c * d) * g := by grind
  rw [e1, e2]
  exact ⟨fun h => Int.lt_of_mul_lt_mul_right h (Int.le_of_lt hg), fun h => Int.mul_lt_mul_of_pos_right h hg⟩
/-- the ends of the interval of the rates of some records, as the program holds them -/
structure EndsOf (rs : List Rec) (le he : Option Pr) : Prop where
  lok : ∀ l, le = some l → 0 ≤ l.1 ∧ 0 < l.2 ∧ Int.gcd l.1 l.2 = 1
  hok : ∀ h, he = some h → 0 < h.1 ∧ 0 < h.2 ∧ Int.gcd h.1 h.2 = 1
  lt : ∀ l h, le = some l → he = some h → l.1 * h.2 < h.1 * l.2
  iff : ∀ p q, 0 ≤ p → 0 < q → (RateOk p q rs ↔ (∀ l, le = some l → l.1 * q < p * l.2) ∧ ∀ h, he = some h → p * h.2 < h.1 * q)
theorem ends_ok {rs : List Rec} (he : (rb rs).empty = false) : EndsOf rs (rb rs).ends.1 (rb rs).ends.2 := by
  obtain ⟨ps, I, hps⟩ := rb_inv rs
  have hc : (rb rs).clash = false := by
    have he := he
    unfold RB.empty at he
    cases q : (rb rs).clash with
    | false => rfl
    | true => rw [if_pos q] at he; cases he
  have hh : ∀ h, (rb rs).high = some h → 0 < h.1 ∧ ∀ l, (rb rs).low = some l → less l h = true := by
    intro h qh
    have he := he
    unfold RB.empty at he
    rw [if_neg (by rw [hc]; decide), qh] at he
    dsimp only at he
    obtain ⟨a, b⟩ := Bool.or_eq_false_iff.mp he
    have a := of_decide_eq_false a
    refine ⟨by omega, fun l ql => ?_⟩
    rw [ql] at b
    simpa using b
  have l_of : ∀ l, (rb rs).ends.1 = some l → ∃ l0, (rb rs).low = some l0 ∧ 0 ≤ l0.1 ∧ l = lowest l0 := by
    intro l hl
    unfold RB.ends at hl
    cases ql : (rb rs).low with
    | none => rw [ql] at hl; cases hl
    | some l0 =>
      rw [ql] at hl
      dsimp only at hl
      by_cases z : l0.1 < 0
      · rw [if_pos z] at hl; cases hl
      · rw [if_neg z] at hl
        exact ⟨l0, rfl, by omega, (Option.some.inj hl).symm⟩
  have h_of : ∀ h, (rb rs).ends.2 = some h → ∃ h0, (rb rs).high = some h0 ∧ h = lowest h0 := by
    intro h hl
    unfold RB.ends at hl
    cases qh : (rb rs).high with
    | none => rw [qh] at hl; cases hl
    | some h0 =>
      rw [qh] at hl
      exact ⟨h0, rfl, (Option.some.inj hl).symm⟩
  refine ⟨fun l hl => ?_, fun h hl => ?_, fun l h hl hr => ?_, fun p q hp hq => ?_⟩
  · obtain ⟨l0, ql, z, rfl⟩ := l_of l hl
    obtain ⟨g, a3, a1, a2, a4, a5⟩ := lowest_ok (I.l1 l0 ql).1
    refine ⟨?_, a4, a5⟩
    rw [a1] at z
    exact Int.not_lt.mp fun y => by
      have := Int.mul_neg_of_neg_of_pos y a3
      omega
  · obtain ⟨h0, qh, rfl⟩ := h_of h hl
    obtain ⟨g, a3, a1, a2, a4, a5⟩ := lowest_ok (I.h1 h0 qh).1
    refine ⟨?_, a4, a5⟩
    have z := (hh h0 qh).1
    rw [a1] at z
    exact Int.pos_of_mul_pos_left z a3
  · obtain ⟨l0, ql, z, rfl⟩ := l_of l hl
    obtain ⟨h0, qh, rfl⟩ := h_of h hr
    obtain ⟨g, a3, a1, a2, a4, a5⟩ := lowest_ok (I.l1 l0 ql).1
    obtain ⟨g', b3, b1, b2, b4, b5⟩ := lowest_ok (I.h1 h0 qh).1
    have w := of_decide_eq_true ((hh h0 qh).2 l0 ql)
    generalize lowest l0 = m at *
    generalize lowest h0 = m' at *
    rw [a1, b2, b1, a2] at w
    have e1 : (m.1 * g) * (m'.2 * g') = (m.1 * m'.2) * (g * g') := by grind
    have e2 : (m'.1 * g') * (m.2 * g) = (m'.1 * m.2) * (g * g') := by grind
    rw [e1, e2] at w
    exact Int.lt_of_mul_lt_mul_right w (Int.le_of_lt (Int.mul_pos a3 b3))
  · rw [rate_iff he hp hq]
    constructor
    · rintro ⟨x, y⟩
      constructor
      · intro l hl
        obtain ⟨l0, ql, z, rfl⟩ := l_of l hl
        obtain ⟨g, a3, a1, a2, a4, a5⟩ := lowest_ok (I.l1 l0 ql).1
        have := x l0 ql
        generalize lowest l0 = m at *
        rw [a1, a2] at this
        exact (Int.mul_lt_mul_right a3).mp (by grind)
      · intro h hl
        obtain ⟨h0, qh, rfl⟩ := h_of h hl
        obtain ⟨g, a3, a1, a2, a4, a5⟩ := lowest_ok (I.h1 h0 qh).1
        have := y h0 qh
        generalize lowest h0 = m at *
        rw [a1, a2] at this
        exact (scale_lt a3).mp this
    · rintro ⟨x, y⟩
      constructor
      · intro l0 ql
        obtain ⟨g, a3, a1, a2, a4, a5⟩ := lowest_ok (I.l1 l0 ql).1
        by_cases z : l0.1 < 0
        · have := Int.mul_neg_of_neg_of_pos z hq
          have := Int.mul_nonneg hp (Int.le_of_lt (I.l1 l0 ql).1)
          omega
        · have w := x (lowest l0) (by unfold RB.ends; rw [ql]; dsimp only; rw [if_neg z])
          generalize lowest l0 = m at *
          rw [a1, a2]
          have := Int.mul_lt_mul_of_pos_right w a3
          grind
      · intro h0 qh
        obtain ⟨g, a3, a1, a2, a4, a5⟩ := lowest_ok (I.h1 h0 qh).1
        have w := y (lowest h0) (by unfold RB.ends; rw [qh]; rfl)
        generalize lowest h0 = m at *
        rw [a1, a2]
        exact (scale_lt a3).mpr w
end K67

set_option maxHeartbeats 4000000
namespace K67
/-! Convex chains. sg = 1: from below; sg = -1: from above. -/
/-- the slope grows (sg 1) or falls (sg -1) at b -/
def turn (sg : Int) (a b c : Pr) : Prop := 0 < sg * ((c.2 - b.2) * (b.1 - a.1) - (b.2 - a.2) * (c.1 - b.1))
instance (sg : Int) (a b c : Pr) : Decidable (turn sg a b c) := by unfold turn; exact inferInstance
/-- how high a point stands over the lines of rate p / q -/
def val (sg p q : Int) (x : Pr) : Int := sg * (x.2 * q - p * x.1)
def Conv (sg : Int) (xs : List Pr) : Prop := xs.Pairwise (fun x y => x.1 < y.1) ∧ ∀ A a b c B, xs = A ++ a :: b :: c :: B → turn sg a b c
theorem Conv.part {sg : Int} {A xs B : List Pr} (h : Conv sg (A ++ xs ++ B)) : Conv sg xs := by
  refine ⟨?_, fun A' a b c B' e => h.2 (A ++ A') a b c (B' ++ B) (by rw [e]; simp)⟩
  have := h.1
  rw [List.append_assoc] at this
  exact (List.pairwise_append.mp (List.pairwise_append.mp this).2.1).1
theorem Conv.tail {sg : Int} {x : Pr} {xs : List Pr} (h : Conv sg (x :: xs)) : Conv sg xs := by
  have : Conv sg ([x] ++ xs ++ []) := by simpa using h
  exact this.part
theorem Conv.init {sg : Int} {x : Pr} {xs : List Pr} (h : Conv sg (xs ++ [x])) : Conv sg xs := by
  have : Conv sg ([] ++ xs ++ [x]) := by simpa using h
  exact this.part
theorem conv_nil {sg : Int} : Conv sg [] := ⟨List.Pairwise.nil, fun A a b c B e => by simp at e⟩
theorem conv_one {sg : Int} {x : Pr} : Conv sg [x] := ⟨List.pairwise_singleton _ _, fun A a b c B e => by
  have := congrArg List.length e
  simp at this
  omega⟩
theorem conv_two {sg : Int} {x y : Pr} (h : x.1 < y.1) : Conv sg [x, y] := ⟨by simp [h], fun A a b c B e => by
  have := congrArg List.length e
  simp at this
  omega⟩
/-- one more at the end -/
theorem conv_snoc {sg : Int} {A : List Pr} {a b c : Pr} (h : Conv sg (A ++ [a, b])) (hl : b.1 < c.1) (ht : turn sg a b c) : Conv sg (A ++ [a, b] ++ [c]) := by
  refine ⟨?_, fun A' a' b' c' B' e => ?_⟩
  · rw [List.pairwise_append]
    refine ⟨h.1, List.pairwise_singleton _ _, fun x hx y hy => ?_⟩
    rw [List.mem_singleton.mp hy]
    have h1 := h.1
    rcases List.mem_append.mp hx with z | z
    · have := (List.pairwise_append.mp h1).2.2 x z b (by simp)
      omega
    · have h2 := (List.pairwise_append.mp h1).2.1
      simp at z h2
      rcases z with z | z
      · rw [z]; omega
      · rw [z]; omega
  · rcases List.eq_nil_or_concat B' with e' | ⟨B'', z, e'⟩
    · subst e'
      have e2 : A ++ [a, b, c] = A' ++ [a', b', c'] := by simpa using e
      have := List.append_inj' e2 rfl
      obtain ⟨_, q⟩ := this
      simp at q
      obtain ⟨q1, q2, q3⟩ := q
      rw [← q1, ← q2, ← q3]
      exact ht
    · subst e'
      have e2 : (A ++ [a, b]) ++ [c] = (A' ++ a' :: b' :: c' :: B'') ++ [z] := by simpa using e
      obtain ⟨q, _⟩ := List.append_inj' e2 rfl
      exact h.2 A' a' b' c' B'' q
theorem turn_up {sg p q : Int} {a b c : Pr} (hq : 0 < q) (h1 : a.1 < b.1) (h2 : b.1 < c.1) (ht : turn sg a b c) (hv : val sg p q a ≤ val sg p q b) : val sg p q b < val sg p q c := by
  unfold turn at ht
  unfold val at *
  have l1 : 0 < b.1 - a.1 := by omega
  have l2 : 0 < c.1 - b.1 := by omega
  have e1 := Int.mul_lt_mul_of_pos_right ht hq
  have e2 := Int.mul_le_mul_of_nonneg_right hv (Int.le_of_lt l2)
  have e3 : (sg * (b.2 * q - p * b.1)) * (b.1 - a.1) < (sg * (c.2 * q - p * c.1)) * (b.1 - a.1) := by grind
  exact Int.lt_of_mul_lt_mul_right e3 (Int.le_of_lt l1)
theorem turn_down {sg p q : Int} {a b c : Pr} (hq : 0 < q) (h1 : a.1 < b.1) (h2 : b.1 < c.1) (ht : turn sg a b c) (hv : val sg p q c ≤ val sg p q b) : val sg p q b < val sg p q a := by
  unfold turn at ht
  unfold val at *
  have l1 : 0 < b.1 - a.1 := by omega
  have l2 : 0 < c.1 - b.1 := by omega
  have e1 := Int.mul_lt_mul_of_pos_right ht hq
  have e2 := Int.mul_le_mul_of_nonneg_right hv (Int.le_of_lt l1)
  have e3 : (sg * (b.2 * q - p * b.1)) * (c.1 - b.1) < (sg * (a.2 * q - p * a.1)) * (c.1 - b.1) := by grind
  exact Int.lt_of_mul_lt_mul_right e3 (Int.le_of_lt l2)
/-- a point that is no turn is over one of its neighbours -/
theorem no_turn {sg p q : Int} {a b c : Pr} (h1 : a.1 < b.1) (h2 : b.1 < c.1) (hq : 0 < q) (ht : ¬ turn sg a b c) : val sg p q a ≤ val sg p q b ∨ val sg p q c ≤ val sg p q b := by
  unfold turn at ht
  unfold val
  have l1 : 0 < b.1 - a.1 := by omega
  have l2 : 0 < c.1 - b.1 := by omega
  apply Classical.byContradiction
  intro hn
  have n1 : sg * (b.2 * q - p * b.1) < sg * (a.2 * q - p * a.1) := by omega
  have n2 : sg * (b.2 * q - p * b.1) < sg * (c.2 * q - p * c.1) := by omega
  have e1 := Int.mul_lt_mul_of_pos_right n1 l2
  have e2 := Int.mul_lt_mul_of_pos_right n2 l1
  have ht' : sg * ((c.2 - b.2) * (b.1 - a.1) - (b.2 - a.2) * (c.1 - b.1)) ≤ 0 := by omega
  have e3 := Int.mul_le_mul_of_nonneg_right ht' (Int.le_of_lt hq)
  grind
/-- behind a step up all steps go up -/
theorem conv_up {sg p q : Int} (hq : 0 < q) : ∀ (R : List Pr) (x y : Pr), Conv sg (x :: y :: R) → val sg p q x ≤ val sg p q y → (∀ z ∈ R, val sg p q y < val sg p q z) ∧ (y :: R).Pairwise (fun u w => val sg p q u < val sg p q w)
  | [], x, y, _, _ => ⟨fun z hz => (by cases hz), List.pairwise_singleton _ _⟩
  | w :: R, x, y, h, hv => by
    have p1 := h.1
    simp only [List.pairwise_cons] at p1
    have hxy : x.1 < y.1 := p1.1 y (by simp)
    have hyw : y.1 < w.1 := p1.2.1 w (by simp)
    have s := turn_up hq hxy hyw (h.2 [] x y w R rfl) hv
    obtain ⟨a, b⟩ := conv_up hq R y w h.tail (Int.le_of_lt s)
    have c : ∀ z ∈ w :: R, val sg p q y < val sg p q z := fun z hz => by
      rcases List.mem_cons.mp hz with e | e
      · rw [e]; exact s
      · exact Int.lt_trans s (a z e)
    exact ⟨c, List.pairwise_cons.mpr ⟨c, b⟩⟩
theorem conv_down {sg p q : Int} (hq : 0 < q) : ∀ (n : Nat) (A : List Pr) (x y : Pr), A.length = n → Conv sg (A ++ [x, y]) → val sg p q y ≤ val sg p q x → (∀ z ∈ A, val sg p q x < val sg p q z) ∧ (A ++ [x]).Pairwise (fun u w => val sg p q w < val sg p q u) := by
  intro n
  induction n with
  | zero =>
    intro A x y hA _ _
    obtain rfl := List.length_eq_zero_iff.mp hA
    exact ⟨fun z hz => (by cases hz), List.pairwise_singleton _ _⟩
  | succ n ih =>
    intro A x y hA h hv
    rcases List.eq_nil_or_concat A with e | ⟨A', w, e⟩
    · subst e; simp at hA
    · subst e
      rw [List.concat_eq_append] at *
      have h0 : Conv sg (A' ++ [w, x, y]) := by simpa using h
      have p1 := (List.pairwise_append.mp h0.1).2.1
      simp only [List.pairwise_cons] at p1
      have s := turn_down hq (p1.1 x (by simp)) (p1.2.1 y (by simp)) (h0.2 A' w x y [] rfl) hv
      have h1 : Conv sg (A' ++ [w, x]) := by
        have : Conv sg ((A' ++ [w, x]) ++ [y]) := by simpa using h
        exact this.init
      obtain ⟨a, b⟩ := ih A' w x (by simpa using hA) h1 (Int.le_of_lt s)
      have c : ∀ z ∈ A' ++ [w], val sg p q x < val sg p q z := fun z hz => by
        rcases List.mem_append.mp hz with e | e
        · exact Int.lt_trans s (a z e)
        · rw [List.mem_singleton.mp e]; exact s
      exact ⟨c, List.pairwise_append.mpr ⟨b, List.pairwise_singleton _ _, fun z hz u hu => by rw [List.mem_singleton.mp hu]; exact c z hz⟩⟩
/-! ### the chain of some points -/
/-- the top is popped while it is no turn -/
def popT (sg : Int) (c : Pr) : List Pr → List Pr
  | b :: a :: r => if turn sg a b c then b :: a :: r else popT sg c (a :: r)
  | l => l
def hullS (sg : Int) (pts : List Pr) : List Pr := pts.foldl (fun st c => c :: popT sg c st) []
def hullF (sg : Int) (pts : List Pr) : List Pr := (hullS sg pts).reverse
/-- st (newest first) is the chain of pts -/
structure HullOf (sg : Int) (st pts : List Pr) : Prop where
  conv : Conv sg st.reverse
  sub : ∀ x ∈ st, x ∈ pts
  sup : ∀ (p q : Int), 0 < q → ∀ x ∈ pts, ∃ h ∈ st, val sg p q h ≤ val sg p q x
  ne : pts ≠ [] → st ≠ []
theorem popT_ok {sg : Int} {c : Pr} : ∀ (n : Nat) (st : List Pr), st.length = n → Conv sg st.reverse → (∀ x ∈ st, x.1 < c.1) →
    Conv sg (c :: popT sg c st).reverse ∧ (∀ x ∈ popT sg c st, x ∈ st) ∧ ∀ (p q : Int), 0 < q → ∀ x ∈ st, ∃ h ∈ c :: popT sg c st, val sg p q h ≤ val sg p q x := by
  intro n
  induction n with
  | zero =>
    intro st hn _ _
    obtain rfl := List.length_eq_zero_iff.mp hn
    exact ⟨by unfold popT; exact conv_one, fun x hx => by unfold popT at hx; exact hx, fun p q _ x hx => by cases hx⟩
  | succ n ih =>
    intro st hn hc hl
    match st, hn, hc, hl with
    | [b], _, _, hl =>
      refine ⟨?_, fun x hx => by unfold popT at hx; exact hx, fun p q _ x hx => ⟨x, by unfold popT; exact List.mem_cons_of_mem _ hx, Int.le_refl _⟩⟩
      unfold popT
      exact conv_two (hl b (by simp))
    | b :: a :: r, hn, hc, hl =>
      have e1 : (b :: a :: r).reverse = r.reverse ++ [a, b] := by simp
      rw [e1] at hc
      by_cases t : turn sg a b c
      · unfold popT
        rw [if_pos t]
        refine ⟨?_, fun x hx => hx, fun p q _ x hx => ⟨x, List.mem_cons_of_mem _ hx, Int.le_refl _⟩⟩
        rw [List.reverse_cons, e1]
        exact conv_snoc hc (hl b (by simp)) t
      · unfold popT
        rw [if_neg t]
        have hc' : Conv sg (a :: r).reverse := by
          have : Conv sg ((r.reverse ++ [a]) ++ [b]) := by simpa using hc
          rw [List.reverse_cons]
          exact this.init
        obtain ⟨x1, x2, x3⟩ := ih (a :: r) (by simpa using hn) hc' fun x hx => hl x (List.mem_cons_of_mem _ hx)
        refine ⟨x1, fun x hx => List.mem_cons_of_mem _ (x2 x hx), fun p q hq x hx => ?_⟩
        rcases List.mem_cons.mp hx with e | e
        · subst e
          have hab : a.1 < x.1 := by
            have := (List.pairwise_append.mp hc.1).2.1
            simp at this
            exact this
          rcases no_turn (p := p) hab (hl x (by simp)) hq t with z | z
          · obtain ⟨h, h1, h2⟩ := x3 p q hq a (by simp)
            exact ⟨h, h1, Int.le_trans h2 z⟩
          · exact ⟨c, List.mem_cons_self, z⟩
        · exact x3 p q hq x e
theorem hull_step {sg : Int} {st pts : List Pr} {c : Pr} (h : HullOf sg st pts) (hl : ∀ x ∈ pts, x.1 < c.1) : HullOf sg (c :: popT sg c st) (pts ++ [c]) := by
  obtain ⟨x1, x2, x3⟩ := popT_ok (sg := sg) (c := c) _ st rfl h.conv fun x hx => hl x (h.sub x hx)
  refine ⟨x1, fun x hx => ?_, fun p q hq x hx => ?_, fun _ => by simp⟩
  · rcases List.mem_cons.mp hx with e | e
    · rw [e]; simp
    · exact List.mem_append_left _ (h.sub x (x2 x e))
  · rcases List.mem_append.mp hx with e | e
    · obtain ⟨g, g1, g2⟩ := h.sup p q hq x e
      obtain ⟨k, k1, k2⟩ := x3 p q hq g g1
      exact ⟨k, k1, Int.le_trans k2 g2⟩
    · rw [List.mem_singleton.mp e]
      exact ⟨c, List.mem_cons_self, Int.le_refl _⟩
theorem hull_fold {sg : Int} : ∀ (qs st pts : List Pr), HullOf sg st pts → (pts ++ qs).Pairwise (fun x y => x.1 < y.1) → HullOf sg (qs.foldl (fun st c => c :: popT sg c st) st) (pts ++ qs)
  | [], st, pts, h, _ => by rw [List.append_nil]; exact h
  | c :: qs, st, pts, h, hp => by
    have := hull_fold qs (c :: popT sg c st) (pts ++ [c]) (hull_step h fun x hx => (List.pairwise_append.mp hp).2.2 x hx c (by simp)) (by rw [List.append_assoc]; exact hp)
    rw [List.append_assoc] at this
    exact this
theorem hull_ok {sg : Int} {pts : List Pr} (hp : pts.Pairwise (fun x y => x.1 < y.1)) : HullOf sg (hullS sg pts) pts := by
  have := hull_fold (sg := sg) pts [] [] ⟨conv_nil, fun x hx => (by cases hx), fun _ _ _ x hx => (by cases hx), fun h => absurd rfl h⟩ hp
  exact this
/-! ### the ends cut -/
/-- from the front while the second is no higher over the rate -/
def trimF (sg : Int) (F : Option Pr) : List Pr → List Pr
  | a :: b :: r => match F with
    | none => a :: b :: r
    | some f => if val sg f.1 f.2 a < val sg f.1 f.2 b then a :: b :: r else trimF sg (some f) (b :: r)
  | l => l
/-- from the end (newest first) -/
def trimE (sg : Int) (E : Option Pr) : List Pr → List Pr
  | b :: a :: r => match E with
    | none => b :: a :: r
    | some f => if val sg f.1 f.2 b < val sg f.1 f.2 a then b :: a :: r else trimE sg (some f) (a :: r)
  | l => l
/-- p / q lies on the inner side of the front's rate, of the end's -/
def inF (sg p q : Int) (F : Option Pr) : Prop := ∀ f, F = some f → 0 ≤ sg * (p * f.2 - f.1 * q)
def inE (sg p q : Int) (E : Option Pr) : Prop := ∀ f, E = some f → 0 ≤ sg * (f.1 * q - p * f.2)
/-- a chain, cut, that still bears all points over the rates between -/
structure Cut (sg : Int) (F E : Option Pr) (H pts : List Pr) : Prop where
  conv : Conv sg H
  sub : ∀ x ∈ H, x ∈ pts
  sup : ∀ (p q : Int), 0 < q → inF sg p q F → inE sg p q E → ∀ x ∈ pts, ∃ h ∈ H, val sg p q h ≤ val sg p q x
  ne : pts ≠ [] → H ≠ []
theorem cut0 {sg : Int} {F E : Option Pr} {st pts : List Pr} (h : HullOf sg st pts) : Cut sg F E st.reverse pts :=
  ⟨h.conv, fun x hx => h.sub x (List.mem_reverse.mp hx), fun p q hq _ _ x hx => by
    obtain ⟨g, g1, g2⟩ := h.sup p q hq x hx
    exact ⟨g, List.mem_reverse.mpr g1, g2⟩, fun z => by simpa using h.ne z⟩
theorem cut_front {sg : Int} {F : Pr} {E : Option Pr} {a b : Pr} {r pts : List Pr} (hF : 0 < F.2) (h : Cut sg (some F) E (a :: b :: r) pts) (hv : ¬ val sg F.1 F.2 a < val sg F.1 F.2 b) : Cut sg (some F) E (b :: r) pts := by
  refine ⟨h.conv.tail, fun x hx => h.sub x (List.mem_cons_of_mem _ hx), fun p q hq i1 i2 x hx => ?_, fun _ => by simp⟩
  obtain ⟨g, g1, g2⟩ := h.sup p q hq i1 i2 x hx
  rcases List.mem_cons.mp g1 with e | e
  · subst e
    refine ⟨b, List.mem_cons_self, Int.le_trans ?_ g2⟩
    have lt : g.1 < b.1 := by
      have := h.conv.1
      simp only [List.pairwise_cons] at this
      exact this.1 b (by simp)
    have i := i1 F rfl
    unfold val at *
    have hv' : sg * (b.2 * F.2 - F.1 * b.1) ≤ sg * (g.2 * F.2 - F.1 * g.1) := by omega
    have e1 := Int.mul_le_mul_of_nonneg_right hv' (Int.le_of_lt hq)
    have e2 := Int.mul_nonneg i (show 0 ≤ b.1 - g.1 by omega)
    have e3 : (sg * (b.2 * q - p * b.1)) * F.2 ≤ (sg * (g.2 * q - p * g.1)) * F.2 := by grind
    exact Int.le_of_mul_le_mul_right e3 hF
  · exact ⟨g, e, g2⟩
theorem cut_end {sg : Int} {F : Option Pr} {E : Pr} {a b : Pr} {A pts : List Pr} (hE : 0 < E.2) (h : Cut sg F (some E) (A ++ [a, b]) pts) (hv : ¬ val sg E.1 E.2 b < val sg E.1 E.2 a) : Cut sg F (some E) (A ++ [a]) pts := by
  have h1 : Conv sg (A ++ [a]) := by
    have : Conv sg ((A ++ [a]) ++ [b]) := by simpa using h.conv
    exact this.init
  refine ⟨h1, fun x hx => h.sub x ?_, fun p q hq i1 i2 x hx => ?_, fun _ => by simp⟩
  · rcases List.mem_append.mp hx with e | e
    · exact List.mem_append_left _ e
    · rw [List.mem_singleton.mp e]; simp
  obtain ⟨g, g1, g2⟩ := h.sup p q hq i1 i2 x hx
  by_cases e : g = b
  · subst e
    refine ⟨a, by simp, Int.le_trans ?_ g2⟩
    have lt : a.1 < g.1 := by
      have := (List.pairwise_append.mp h.conv.1).2.1
      simp at this
      exact this
    have i := i2 E rfl
    unfold val at *
    have hv' : sg * (a.2 * E.2 - E.1 * a.1) ≤ sg * (g.2 * E.2 - E.1 * g.1) := by omega
    have e1 := Int.mul_le_mul_of_nonneg_right hv' (Int.le_of_lt hq)
    have e2 := Int.mul_nonneg i (show 0 ≤ g.1 - a.1 by omega)
    have e3 : (sg * (a.2 * q - p * a.1)) * E.2 ≤ (sg * (g.2 * q - p * g.1)) * E.2 := by grind
    exact Int.le_of_mul_le_mul_right e3 hE
  · refine ⟨g, ?_, g2⟩
    rcases List.mem_append.mp g1 with z | z
    · exact List.mem_append_left _ z
    · simp at z
      rcases z with z | z
      · rw [z]; simp
      · exact absurd z e
theorem trimF_ok {sg : Int} {F E : Option Pr} (hF : ∀ f, F = some f → 0 < f.2) {pts : List Pr} : ∀ (H : List Pr), Cut sg F E H pts → Cut sg F E (trimF sg F H) pts ∧ ∀ a b r f, trimF sg F H = a :: b :: r → F = some f → val sg f.1 f.2 a < val sg f.1 f.2 b
  | [], h => by unfold trimF; exact ⟨h, fun a b r f e => by cases e⟩
  | [x], h => by unfold trimF; exact ⟨h, fun a b r f e => by cases e⟩
  | x :: y :: r, h => by
    cases F with
    | none => unfold trimF; exact ⟨h, fun a b r f _ e => by cases e⟩
    | some f =>
      unfold trimF
      dsimp only
      by_cases c : val sg f.1 f.2 x < val sg f.1 f.2 y
      · rw [if_pos c]
        exact ⟨h, fun a b r' f' e e' => by
          simp only [List.cons.injEq] at e
          obtain ⟨e1, e2, _⟩ := e
          cases e'
          rw [← e1, ← e2]; exact c⟩
      · rw [if_neg c]
        exact trimF_ok hF (y :: r) (cut_front (hF f rfl) h c)
theorem trimE_ok {sg : Int} {F E : Option Pr} (hE : ∀ f, E = some f → 0 < f.2) {pts : List Pr} : ∀ (H : List Pr), Cut sg F E H.reverse pts → Cut sg F E (trimE sg E H).reverse pts ∧ (∃ A, H = A ++ trimE sg E H) ∧ ∀ b a r f, trimE sg E H = b :: a :: r → E = some f → val sg f.1 f.2 b < val sg f.1 f.2 a
  | [], h => by unfold trimE; exact ⟨h, ⟨[], rfl⟩, fun a b r f e => by cases e⟩
  | [x], h => by unfold trimE; exact ⟨h, ⟨[], rfl⟩, fun a b r f e => by cases e⟩
  | x :: y :: r, h => by
    cases E with
    | none => unfold trimE; exact ⟨h, ⟨[], rfl⟩, fun a b r f _ e => by cases e⟩
    | some f =>
      unfold trimE
      dsimp only
      by_cases c : val sg f.1 f.2 x < val sg f.1 f.2 y
      · rw [if_pos c]
        exact ⟨h, ⟨[], rfl⟩, fun a b r' f' e e' => by
          simp only [List.cons.injEq] at e
          obtain ⟨e1, e2, _⟩ := e
          cases e'
          rw [← e1, ← e2]; exact c⟩
      · rw [if_neg c]
        have h' : Cut sg F (some f) (y :: r).reverse pts := by
          rw [List.reverse_cons]
          refine cut_end (hE f rfl) ?_ c
          have e : (x :: y :: r).reverse = r.reverse ++ [y, x] := by simp
          rw [e] at h
          exact h
        obtain ⟨z1, ⟨A, z2⟩, z3⟩ := trimE_ok hE (y :: r) h'
        exact ⟨z1, ⟨x :: A, by rw [List.cons_append, ← z2]⟩, z3⟩
/-- the chain that the pieces are made of -/
def cutHull (sg : Int) (F E : Option Pr) (pts : List Pr) : List Pr := (trimE sg E (trimF sg F (hullF sg pts)).reverse).reverse
structure CutOk (sg : Int) (F E : Option Pr) (H pts : List Pr) : Prop extends Cut sg F E H pts where
  fr : ∀ a b r f, H = a :: b :: r → F = some f → val sg f.1 f.2 a < val sg f.1 f.2 b
  en : ∀ A a b f, H = A ++ [a, b] → E = some f → val sg f.1 f.2 b < val sg f.1 f.2 a
theorem cut_ok {sg : Int} {F E : Option Pr} (hF : ∀ f, F = some f → 0 < f.2) (hE : ∀ f, E = some f → 0 < f.2) {pts : List Pr} (hp : pts.Pairwise (fun x y => x.1 < y.1)) : CutOk sg F E (cutHull sg F E pts) pts := by
  obtain ⟨a1, a2⟩ := trimF_ok (sg := sg) (E := E) hF _ (cut0 (F := F) (hull_ok (sg := sg) hp))
  obtain ⟨b1, ⟨A, b2⟩, b3⟩ := trimE_ok (sg := sg) (F := F) hE (trimF sg F (hullS sg pts).reverse).reverse (by rw [List.reverse_reverse]; exact a1)
  have e0 : trimF sg F (hullS sg pts).reverse = cutHull sg F E pts ++ A.reverse := by
    have := congrArg List.reverse b2
    rw [List.reverse_append, List.reverse_reverse] at this
    exact this
  refine ⟨b1, fun a b r f e ef => ?_, fun B a b f e ef => ?_⟩
  · refine a2 a b (r ++ A.reverse) f ?_ ef
    rw [e0, e]
    rfl
  · refine b3 b a B.reverse f ?_ ef
    have := congrArg List.reverse e
    unfold cutHull at this
    rw [List.reverse_reverse] at this
    unfold hullF at this
    rw [this]
    simp
end K67

set_option maxHeartbeats 4000000
namespace K67
/-! The least and the greatest count at a time, from the pieces of the cut chains. -/
structure LowPts (rs : List Rec) (pts : List Pr) : Prop where
  att : ∀ x ∈ pts, ∃ r ∈ rs, r.lo = true ∧ r.t = x.1 ∧ r.n = x.2
  dom : ∀ r ∈ rs, r.lo = true → ∃ x ∈ pts, x.1 = r.t ∧ r.n ≤ x.2
structure HighPts (rs : List Rec) (pts : List Pr) : Prop where
  att : ∀ x ∈ pts, ∃ r ∈ rs, r.lo = false ∧ r.t = x.1 ∧ r.n + 1 = x.2
  dom : ∀ r ∈ rs, r.lo = false → ∃ x ∈ pts, x.1 = r.t ∧ x.2 ≤ r.n + 1
/-- the interval of the rates: above L (or at it), below he -/
structure Iv (rs : List Rec) (L : Pr) (he : Option Pr) : Prop where
  a0 : 0 ≤ L.1
  b0 : 0 < L.2
  h0 : ∀ h, he = some h → 0 < h.1 ∧ 0 < h.2 ∧ L.1 * h.2 < h.1 * L.2
  ok : ∀ p q, 0 ≤ p → 0 < q → L.1 * q < p * L.2 → (∀ h, he = some h → p * h.2 < h.1 * q) → RateOk p q rs
  nec : ∀ p q, 0 ≤ p → 0 < q → RateOk p q rs → L.1 * q ≤ p * L.2 ∧ ∀ h, he = some h → p * h.2 < h.1 * q
theorem iv_of {rs : List Rec} {le he : Option Pr} (E : EndsOf rs le he) : Iv rs (le.getD (0, 1)) he := by
  cases le with
  | none =>
    refine ⟨Int.le_refl _, (by decide), fun h e => ?_, fun p q hp hq l r => ?_, fun p q hp hq R => ?_⟩
    · obtain ⟨a, b, _⟩ := E.hok h e
      exact ⟨a, b, by simp; omega⟩
    · exact (E.iff p q hp hq).mpr ⟨fun l z => (by cases z), r⟩
    · exact ⟨by simp; omega, ((E.iff p q hp hq).mp R).2⟩
  | some l =>
    obtain ⟨x, y, _⟩ := E.lok l rfl
    refine ⟨x, y, fun h e => ?_, fun p q hp hq l' r => ?_, fun p q hp hq R => ?_⟩
    · obtain ⟨a, b, _⟩ := E.hok h e
      exact ⟨a, b, E.lt l h rfl e⟩
    · refine (E.iff p q hp hq).mpr ⟨fun l2 z => ?_, r⟩
      cases z
      exact l'
    · have := (E.iff p q hp hq).mp R
      exact ⟨Int.le_of_lt (this.1 l rfl), this.2⟩
theorem big_of (cs : List Pr) : ∃ N : Int, 0 < N ∧ ∀ c ∈ cs, c.2 < N ∧ c.1 < N := by
  obtain ⟨b1, h1⟩ := exists_below (fun c : Pr => -c.2) cs
  obtain ⟨b2, h2⟩ := exists_below (fun c : Pr => -c.1) cs
  exact ⟨max 1 (max (1 - b1) (1 - b2)), by omega, fun c hc => by have := h1 c hc; have := h2 c hc; constructor <;> omega⟩
/-- a fraction just above a / b -/
theorem near_low {a b : Int} (hb : 0 < b) (cs : List Pr) (h : ∀ c ∈ cs, 0 ≤ c.2 ∧ a * c.2 < c.1 * b) : ∃ p q : Int, 0 < q ∧ a * q < p * b ∧ ∀ c ∈ cs, p * c.2 < c.1 * q := by
  obtain ⟨N, hN, hc⟩ := big_of cs
  refine ⟨a * N + 1, b * N, Int.mul_pos hb hN, by grind, fun c hm => ?_⟩
  obtain ⟨h1, h2⟩ := h c hm
  have h3 : 1 ≤ c.1 * b - a * c.2 := by omega
  have := Int.mul_le_mul_of_nonneg_right h3 (Int.le_of_lt hN)
  have := (hc c hm).1
  grind
/-- a fraction just below c / d -/
theorem near_high {c d : Int} (hd : 0 < d) (cs : List Pr) (h : ∀ k ∈ cs, 0 ≤ k.2 ∧ k.1 * d < c * k.2) : ∃ p q : Int, 0 < q ∧ p * d < c * q ∧ ∀ k ∈ cs, k.1 * q < p * k.2 := by
  obtain ⟨N, hN, hc⟩ := big_of cs
  refine ⟨c * N - 1, d * N, Int.mul_pos hd hN, by grind, fun k hm => ?_⟩
  obtain ⟨h1, h2⟩ := h k hm
  have h3 : 1 ≤ c * k.2 - k.1 * d := by omega
  have := Int.mul_le_mul_of_nonneg_right h3 (Int.le_of_lt hN)
  have := (hc k hm).1
  grind
/-- a great whole rate -/
theorem near_top (cs : List Pr) (h : ∀ k ∈ cs, 0 < k.2) : ∃ p : Int, 0 ≤ p ∧ ∀ k ∈ cs, k.1 < p * k.2 := by
  obtain ⟨N, hN, hc⟩ := big_of cs
  refine ⟨N, Int.le_of_lt hN, fun k hm => ?_⟩
  have := (hc k hm).2
  have := Int.mul_le_mul_of_nonneg_left (show 1 ≤ k.2 from h k hm) (Int.le_of_lt hN)
  omega
theorem nonneg_of {a b p q : Int} (ha : 0 ≤ a) (hb : 0 < b) (hq : 0 < q) (h : a * q < p * b) : 0 ≤ p := by
  have := Int.mul_nonneg ha (Int.le_of_lt hq)
  have h2 : 0 < p * b := by omega
  exact Int.le_of_lt (Int.pos_of_mul_pos_left h2 hb)
/-- the first edge, the last edge, where there is one -/
def edF (f : Pr) : List Pr → List Pr
  | [] => []
  | b :: _ => [(b.2 - f.2, b.1 - f.1)]
def edL (l : Pr) (A : List Pr) : List Pr := match A.getLast? with
  | none => []
  | some a => [(l.2 - a.2, l.1 - a.1)]
theorem edL_snoc (l a : Pr) (B : List Pr) : edL l (B ++ [a]) = [(l.2 - a.2, l.1 - a.1)] := by unfold edL; simp
/-- the bound of a piece -/
def bd (x : Pr) (rise width strict t : Int) : Int := x.2 + (rise * (t - x.1) - strict) / width
theorem cnt_at {p q n t0 t k : Int} (hq : 0 < q) : cnt p q (n * q - p * t0 - k) t = n + (p * (t - t0) - k) / q := by
  unfold cnt
  have e : p * t + (n * q - p * t0 - k) = (p * (t - t0) - k) + n * q := by grind
  rw [e, Int.add_mul_ediv_right _ _ (by omega)]
  omega
theorem cnt_at0 {p q n t0 t : Int} (hq : 0 < q) : cnt p q (n * q - p * t0) t = n + (p * (t - t0) - 0) / q := by
  have := cnt_at (p := p) (n := n) (t0 := t0) (t := t) (k := 0) hq
  rw [Int.sub_zero] at this
  exact this
theorem div_le_iff {x w k : Int} (hw : 0 < w) : x / w ≤ k ↔ x < (k + 1) * w := by
  constructor
  · intro h
    exact (Int.ediv_lt_iff_lt_mul hw).mp (by omega)
  · intro h
    have := (Int.ediv_lt_iff_lt_mul hw).mpr h
    omega
theorem le_div_iff {x w k : Int} (hw : 0 < w) : k ≤ x / w ↔ k * w ≤ x := Int.le_ediv_iff_mul_le hw
section
variable {rs : List Rec} {L : Pr} {he : Option Pr} {H pts : List Pr}
theorem inF_low {sg p q : Int} (h : ∀ f, he = some f → p * f.2 < f.1 * q) (e : sg = -1) : inF sg p q he := fun f hf => by
  have := h f hf
  subst e
  omega
theorem inE_low {sg p q : Int} (h : L.1 * q < p * L.2) (e : sg = -1) : inE sg p q (some L) := fun f hf => by
  cases hf
  subst e
  omega
theorem inF_high {sg p q : Int} (h : L.1 * q < p * L.2) (e : sg = 1) : inF sg p q (some L) := fun f hf => by
  cases hf
  subst e
  omega
theorem inE_high {sg p q : Int} (h : ∀ f, he = some f → p * f.2 < f.1 * q) (e : sg = 1) : inE sg p q he := fun f hf => by
  have := h f hf
  subst e
  omega
/-- a rule on the chain's point that is highest over its rate -/
theorem tang_low (I : Iv rs L he) (P : LowPts rs pts) (C : Cut (-1) he (some L) H pts) {p q : Int} (hq : 0 < q) (h1 : L.1 * q < p * L.2) (h2 : ∀ f, he = some f → p * f.2 < f.1 * q) {x : Pr} (hx : x ∈ H)
    (mn : ∀ y ∈ H, val (-1) p q x ≤ val (-1) p q y) : Fit p q (x.2 * q - p * x.1) rs := by
  have hp := nonneg_of I.a0 I.b0 hq h1
  obtain ⟨i, hi, li, e1, e2⟩ := P.att x (C.sub x hx)
  rw [← e1, ← e2]
  refine fit_low hp hq (I.ok p q hp hq h1 h2) hi li fun r hr lr => ?_
  obtain ⟨y, hy, f1, f2⟩ := P.dom r hr lr
  obtain ⟨g, g1, g2⟩ := C.sup p q hq (inF_low h2 rfl) (inE_low h1 rfl) y hy
  have g3 := mn g g1
  unfold val at g2 g3
  have := Int.mul_le_mul_of_nonneg_right f2 (Int.le_of_lt hq)
  rw [e1, e2, ← f1]
  omega
theorem tang_high (I : Iv rs L he) (P : HighPts rs pts) (C : Cut 1 (some L) he H pts) {p q : Int} (hq : 0 < q) (h1 : L.1 * q < p * L.2) (h2 : ∀ f, he = some f → p * f.2 < f.1 * q) {x : Pr} (hx : x ∈ H)
    (mn : ∀ y ∈ H, val 1 p q x ≤ val 1 p q y) : Fit p q (x.2 * q - p * x.1 - 1) rs := by
  have hp := nonneg_of I.a0 I.b0 hq h1
  obtain ⟨i, hi, li, e1, e2⟩ := P.att x (C.sub x hx)
  rw [← e1, ← e2]
  refine fit_high hp hq (I.ok p q hp hq h1 h2) hi li fun r hr lr => ?_
  obtain ⟨y, hy, f1, f2⟩ := P.dom r hr lr
  obtain ⟨g, g1, g2⟩ := C.sup p q hq (inF_high h1 rfl) (inE_high h2 rfl) y hy
  have g3 := mn g g1
  unfold val at g2 g3
  have := Int.mul_le_mul_of_nonneg_right f2 (Int.le_of_lt hq)
  rw [e1, e2, ← f1]
  omega
/-! the first, the last, an edge's point are least over their rates -/
theorem first_min {sg p q : Int} (hq : 0 < q) {f : Pr} {R : List Pr} (h : Conv sg (f :: R)) (hv : ∀ b r, R = b :: r → val sg p q f ≤ val sg p q b) : ∀ y ∈ f :: R, val sg p q f ≤ val sg p q y := by
  intro y hy
  rcases List.mem_cons.mp hy with e | e
  · rw [e]; exact Int.le_refl _
  · cases R with
    | nil => cases e
    | cons b r =>
      have v := hv b r rfl
      obtain ⟨a, _⟩ := conv_up hq r f b h v
      rcases List.mem_cons.mp e with z | z
      · rw [z]; exact v
      · exact Int.le_trans v (Int.le_of_lt (a y z))
theorem last_min {sg p q : Int} (hq : 0 < q) {l : Pr} {A : List Pr} (h : Conv sg (A ++ [l])) (hv : ∀ B a, A = B ++ [a] → val sg p q l ≤ val sg p q a) : ∀ y ∈ A ++ [l], val sg p q l ≤ val sg p q y := by
  intro y hy
  rcases List.mem_append.mp hy with e | e
  · rcases List.eq_nil_or_concat A with z | ⟨B, a, z⟩
    · rw [z] at e; cases e
    · rw [List.concat_eq_append] at z
      have v := hv B a z
      subst z
      obtain ⟨c, _⟩ := conv_down hq _ B a l rfl (by simpa using h) v
      rcases List.mem_append.mp e with z | z
      · exact Int.le_trans v (Int.le_of_lt (c y z))
      · rw [List.mem_singleton.mp z]; exact v
  · rw [List.mem_singleton.mp e]; exact Int.le_refl _
theorem edge_min {sg p q : Int} (hq : 0 < q) {x y : Pr} {A B : List Pr} (h : Conv sg (A ++ x :: y :: B)) (hv : val sg p q x = val sg p q y) : ∀ z ∈ A ++ x :: y :: B, val sg p q x ≤ val sg p q z := by
  intro z hz
  have h1 : Conv sg (x :: y :: B) := by
    have : Conv sg (A ++ (x :: y :: B) ++ []) := by simpa using h
    exact this.part
  have h2 : Conv sg (A ++ [x, y]) := by
    have : Conv sg ([] ++ (A ++ [x, y]) ++ B) := by simpa using h
    exact this.part
  obtain ⟨a, _⟩ := conv_up hq B x y h1 (Int.le_of_eq hv)
  obtain ⟨b, _⟩ := conv_down hq _ A x y rfl h2 (Int.le_of_eq hv.symm)
  rcases List.mem_append.mp hz with e | e
  · exact Int.le_of_lt (b z e)
  · rcases List.mem_cons.mp e with e | e
    · rw [e]; exact Int.le_refl _
    · rcases List.mem_cons.mp e with e | e
      · rw [e]; exact Int.le_of_eq hv
      · have := a z e; omega
/-- an edge's slope lies strictly between the ends -/
theorem edge_up {sg : Int} {F E : Option Pr} (hF : ∀ f, F = some f → 0 < f.2) (C : CutOk sg F E H pts) {A B : List Pr} {x y : Pr} (e : H = A ++ x :: y :: B) : ∀ f, F = some f → val sg f.1 f.2 x < val sg f.1 f.2 y := by
  intro f hf
  match A, e with
  | [], e => exact C.fr x y B f e hf
  | [a], e =>
    have v := C.fr a x (y :: B) f e hf
    have h := C.conv
    rw [e] at h
    exact (conv_up (hF f hf) (y :: B) a x h (Int.le_of_lt v)).1 y (by simp)
  | a :: b :: A', e =>
    have v := C.fr a b (A' ++ x :: y :: B) f e hf
    have h := C.conv
    rw [e] at h
    have w := (conv_up (hF f hf) _ a b h (Int.le_of_lt v)).2
    have w2 := (List.pairwise_cons.mp w).2
    have w3 := (List.pairwise_append.mp w2).2.1
    exact (List.pairwise_cons.mp w3).1 y (by simp)
theorem edge_down {sg : Int} {F E : Option Pr} (hE : ∀ f, E = some f → 0 < f.2) (C : CutOk sg F E H pts) {A B : List Pr} {x y : Pr} (e : H = A ++ x :: y :: B) : ∀ f, E = some f → val sg f.1 f.2 y < val sg f.1 f.2 x := by
  intro f hf
  rcases List.eq_nil_or_concat B with z | ⟨B1, b, z⟩
  · subst z
    exact C.en A x y f e hf
  · rw [List.concat_eq_append] at z
    subst z
    have h := C.conv
    rcases List.eq_nil_or_concat B1 with z | ⟨B2, a, z⟩
    · subst z
      have e' : H = (A ++ [x]) ++ [y, b] := by simpa using e
      have v := C.en _ y b f e' hf
      rw [e'] at h
      exact (conv_down (hE f hf) _ (A ++ [x]) y b rfl h (Int.le_of_lt v)).1 x (by simp)
    · rw [List.concat_eq_append] at z
      subst z
      have e' : H = (A ++ x :: y :: B2) ++ [a, b] := by simpa using e
      have v := C.en _ a b f e' hf
      rw [e'] at h
      have w := (conv_down (hE f hf) _ (A ++ x :: y :: B2) a b rfl h (Int.le_of_lt v)).2
      have w1 := (List.pairwise_append.mp w).1
      have w3 := (List.pairwise_append.mp w1).2.1
      exact (List.pairwise_cons.mp w3).1 y (by simp)
theorem edge_lt {sg : Int} {A B : List Pr} {x y : Pr} (h : Conv sg (A ++ x :: y :: B)) : x.1 < y.1 := by
  have := (List.pairwise_append.mp h.1).2.1
  exact (List.pairwise_cons.mp this).1 y (by simp)
/-! ### the least count -/
theorem least_head (I : Iv rs L he) (P : LowPts rs pts) (C : CutOk (-1) he (some L) H pts) {h : Pr} (eh : he = some h) {f : Pr} {R : List Pr} (e : H = f :: R) {t : Int} (ht : t < f.1) : IsLow rs t (some (bd f h.1 h.2 0 t)) := by
  obtain ⟨h1, h2, h3⟩ := I.h0 h eh
  have hf : f ∈ H := by rw [e]; exact List.mem_cons_self
  generalize eK : (h.1 * (t - f.1) - 0) / h.2 = K
  have b1 : K * h.2 ≤ h.1 * (t - f.1) - 0 := by rw [← eK]; exact (le_div_iff h2).mp (Int.le_refl _)
  have b2 : h.1 * (t - f.1) - 0 < (K + 1) * h.2 := (div_le_iff h2).mp (by rw [eK]; exact Int.le_refl _)
  have hb : bd f h.1 h.2 0 t = f.2 + K := by unfold bd; rw [eK]
  rw [hb]
  refine ⟨?_, fun p q c F => ?_⟩
  · let cs : List Pr := [L, (-(K + 1), f.1 - t)] ++ edF f R
    have hcs : ∀ k ∈ cs, 0 ≤ k.2 ∧ k.1 * h.2 < h.1 * k.2 := by
      intro k hk
      rcases List.mem_append.mp hk with z | z
      · simp only [List.mem_cons, List.not_mem_nil, or_false] at z
        rcases z with z | z
        · rw [z]; exact ⟨Int.le_of_lt I.b0, h3⟩
        · rw [z]; dsimp only
          exact ⟨by omega, by grind⟩
      · cases R with
        | nil => cases z
        | cons b r =>
          rw [List.mem_singleton.mp z]
          have v := C.fr f b r h e eh
          have lt := edge_lt (A := []) (by have := C.conv; rw [e] at this; exact this)
          unfold val at v
          dsimp only
          exact ⟨by omega, by grind⟩
    obtain ⟨p, q, hq, g1, g2⟩ := near_high h2 cs hcs
    have k1 : L.1 * q < p * L.2 := g2 L (by simp [cs])
    have k2 : -(K + 1) * q < p * (f.1 - t) := g2 (-(K + 1), f.1 - t) (by simp [cs])
    have fit := tang_low I P C.toCut hq k1 (fun f' hf' => by rw [eh] at hf'; cases hf'; exact g1) hf (by
      rw [e]
      refine first_min hq (by have := C.conv; rw [e] at this; exact this) fun b r eb => ?_
      have := g2 (b.2 - f.2, b.1 - f.1) (by simp [cs, eb, edF])
      dsimp only at this
      unfold val
      grind)
    refine ⟨p, q, _, fit, ?_⟩
    have up : f.2 + K ≤ cnt p q (f.2 * q - p * f.1) t := by
      rw [cnt_at0 hq]
      have : K ≤ (p * (t - f.1) - 0) / q := by
        rw [le_div_iff hq]
        have z1 := Int.mul_le_mul_of_nonneg_right b1 (Int.le_of_lt hq)
        have z2 := Int.mul_le_mul_of_nonneg_right (Int.le_of_lt g1) (show 0 ≤ f.1 - t by omega)
        have z3 : (K * q) * h.2 ≤ (p * (t - f.1) - 0) * h.2 := by grind
        exact Int.le_of_mul_le_mul_right z3 h2
      omega
    have dn : cnt p q (f.2 * q - p * f.1) t ≤ f.2 + K := by
      rw [cnt_at0 hq]
      have : (p * (t - f.1) - 0) / q ≤ K := by
        rw [div_le_iff hq]
        grind
      omega
    omega
  · obtain ⟨i, hi, li, e1, e2⟩ := P.att f (C.sub f hf)
    have w := (fits_lo li).mp (F.all i hi)
    rw [e1, e2] at w
    obtain ⟨_, n2⟩ := I.nec p q F.hp F.hq (rate_of_fit F)
    have n2 := n2 h eh
    rw [le_cnt F.hq]
    have z1 := Int.mul_le_mul_of_nonneg_right b1 (Int.le_of_lt F.hq)
    have z2 := Int.mul_le_mul_of_nonneg_right (Int.le_of_lt n2) (show 0 ≤ f.1 - t by omega)
    have z3 : (K * q) * h.2 ≤ (p * (t - f.1)) * h.2 := by grind
    have z4 := Int.le_of_mul_le_mul_right z3 h2
    grind
theorem least_edge (I : Iv rs L he) (P : LowPts rs pts) (C : CutOk (-1) he (some L) H pts) {A B : List Pr} {x y : Pr} (e : H = A ++ x :: y :: B) {t : Int} (h1 : x.1 ≤ t) (h2 : t < y.1) : IsLow rs t (some (bd x (y.2 - x.2) (y.1 - x.1) 0 t)) := by
  have hF : ∀ f, he = some f → 0 < f.2 := fun f hf => (I.h0 f hf).2.1
  have hE : ∀ f, some L = some f → 0 < f.2 := fun f hf => by cases hf; exact I.b0
  have hc : Conv (-1) (A ++ x :: y :: B) := by have := C.conv; rw [e] at this; exact this
  have hl := edge_lt hc
  have hq : 0 < y.1 - x.1 := by omega
  have u1 := edge_up hF C e
  have u2 := edge_down hE C e L rfl
  have hx : x ∈ H := by rw [e]; simp
  have hy : y ∈ H := by rw [e]; simp
  have k1 : L.1 * (y.1 - x.1) < (y.2 - x.2) * L.2 := by unfold val at u2; grind
  have k2 : ∀ f, he = some f → (y.2 - x.2) * f.2 < f.1 * (y.1 - x.1) := fun f hf => by have := u1 f hf; unfold val at this; grind
  have fit := tang_low I P C.toCut hq k1 k2 hx (by rw [e]; exact edge_min hq hc (by unfold val; grind))
  refine ⟨⟨_, _, _, fit, cnt_at0 hq⟩, fun p q c F => ?_⟩
  obtain ⟨i, hi, li, e1, e2⟩ := P.att x (C.sub x hx)
  have w1 := (fits_lo li).mp (F.all i hi)
  rw [e1, e2] at w1
  obtain ⟨j, hj, lj, e3, e4⟩ := P.att y (C.sub y hy)
  have w2 := (fits_lo lj).mp (F.all j hj)
  rw [e3, e4] at w2
  rw [le_cnt F.hq]
  generalize eK : ((y.2 - x.2) * (t - x.1) - 0) / (y.1 - x.1) = K
  have b1 : K * (y.1 - x.1) ≤ (y.2 - x.2) * (t - x.1) - 0 := by rw [← eK]; exact (le_div_iff hq).mp (Int.le_refl _)
  have hb : bd x (y.2 - x.2) (y.1 - x.1) 0 t = x.2 + K := by unfold bd; rw [eK]
  rw [hb]
  have z1 := Int.mul_le_mul_of_nonneg_right b1 (Int.le_of_lt F.hq)
  have z2 := Int.mul_le_mul_of_nonneg_right w1 (show 0 ≤ y.1 - t by omega)
  have z3 := Int.mul_le_mul_of_nonneg_right w2 (show 0 ≤ t - x.1 by omega)
  have z4 : ((x.2 + K) * q) * (y.1 - x.1) ≤ (p * t + c) * (y.1 - x.1) := by grind
  exact Int.le_of_mul_le_mul_right z4 hq
theorem least_tail (I : Iv rs L he) (P : LowPts rs pts) (C : CutOk (-1) he (some L) H pts) {A : List Pr} {l : Pr} (e : H = A ++ [l]) {t : Int} (ht : l.1 ≤ t) : IsLow rs t (some (bd l L.1 L.2 0 t)) := by
  have hl : l ∈ H := by rw [e]; simp
  have b0 := I.b0
  generalize eK : (L.1 * (t - l.1) - 0) / L.2 = K
  have b1 : K * L.2 ≤ L.1 * (t - l.1) - 0 := by rw [← eK]; exact (le_div_iff b0).mp (Int.le_refl _)
  have b2 : L.1 * (t - l.1) - 0 < (K + 1) * L.2 := (div_le_iff b0).mp (by rw [eK]; exact Int.le_refl _)
  have hb : bd l L.1 L.2 0 t = l.2 + K := by unfold bd; rw [eK]
  rw [hb]
  refine ⟨?_, fun p q c F => ?_⟩
  · let cs : List Pr := [(K + 1, t - l.1)] ++ he.toList ++ edL l A
    have hcs : ∀ k ∈ cs, 0 ≤ k.2 ∧ L.1 * k.2 < k.1 * L.2 := by
      intro k hk
      rcases List.mem_append.mp hk with z | z
      · rcases List.mem_append.mp z with z | z
        · rw [List.mem_singleton.mp z]; dsimp only
          exact ⟨by omega, by omega⟩
        · have z := Option.mem_toList.mp z
          obtain ⟨h1, h2, h3⟩ := I.h0 k z
          exact ⟨Int.le_of_lt h2, h3⟩
      · rcases List.eq_nil_or_concat A with w | ⟨B, a, w⟩
        · subst w; simp [edL] at z
        · rw [List.concat_eq_append] at w
          subst w
          rw [edL_snoc] at z
          rw [List.mem_singleton.mp z]; dsimp only
          have e' : H = B ++ [a, l] := by simpa using e
          have v := C.en B a l L e' rfl
          have lt := edge_lt (A := B) (B := []) (by have := C.conv; rw [e'] at this; exact this)
          unfold val at v
          exact ⟨by omega, by grind⟩
    obtain ⟨p, q, hq, g1, g2⟩ := near_low b0 cs hcs
    have k2 : p * (t - l.1) < (K + 1) * q := g2 (K + 1, t - l.1) (by simp [cs])
    have fit := tang_low I P C.toCut hq g1 (fun f hf => g2 f (by simp [cs, hf])) hl (by
      rw [e]
      refine last_min hq (by have := C.conv; rw [e] at this; exact this) fun B a eb => ?_
      have := g2 (l.2 - a.2, l.1 - a.1) (by simp [cs, eb, edL_snoc])
      dsimp only at this
      unfold val
      grind)
    refine ⟨p, q, _, fit, ?_⟩
    rw [cnt_at0 hq]
    have up : K ≤ (p * (t - l.1) - 0) / q := by
      rw [le_div_iff hq]
      have z1 := Int.mul_le_mul_of_nonneg_right b1 (Int.le_of_lt hq)
      have z2 := Int.mul_le_mul_of_nonneg_right (Int.le_of_lt g1) (show 0 ≤ t - l.1 by omega)
      have z3 : (K * q) * L.2 ≤ (p * (t - l.1) - 0) * L.2 := by grind
      exact Int.le_of_mul_le_mul_right z3 b0
    have dn : (p * (t - l.1) - 0) / q ≤ K := by
      rw [div_le_iff hq]
      omega
    omega
  · obtain ⟨i, hi, li, e1, e2⟩ := P.att l (C.sub l hl)
    have w := (fits_lo li).mp (F.all i hi)
    rw [e1, e2] at w
    obtain ⟨n1, _⟩ := I.nec p q F.hp F.hq (rate_of_fit F)
    rw [le_cnt F.hq]
    have z1 := Int.mul_le_mul_of_nonneg_right b1 (Int.le_of_lt F.hq)
    have z2 := Int.mul_le_mul_of_nonneg_right n1 (show 0 ≤ t - l.1 by omega)
    have z3 : (K * q) * L.2 ≤ (p * (t - l.1)) * L.2 := by grind
    have z4 := Int.le_of_mul_le_mul_right z3 b0
    grind
theorem some_rate (I : Iv rs L he) : ∃ p q, 0 ≤ p ∧ 0 < q ∧ RateOk p q rs := by
  obtain ⟨p, q, hq, g1, g2⟩ := near_low I.b0 he.toList fun k hk => by
    obtain ⟨h1, h2, h3⟩ := I.h0 k (Option.mem_toList.mp hk)
    exact ⟨Int.le_of_lt h2, h3⟩
  have hp := nonneg_of I.a0 I.b0 hq g1
  exact ⟨p, q, hp, hq, I.ok p q hp hq g1 fun h hh => g2 h (by simp [hh])⟩
theorem least_no (I : Iv rs L he) (P : LowPts rs pts) (e : pts = []) {t : Int} : IsLow rs t none := by
  intro n
  obtain ⟨p, q, hp, hq, _⟩ := some_rate I
  obtain ⟨b, hb⟩ := exists_below (fun r : Rec => (r.n + 1) * q - p * r.t) rs
  refine ⟨p, q, min (b - 1) (n * q - p * t), fit_small hp hq (fun r hr => ?_) (fun r hr => by have := hb r hr; omega), ?_⟩
  · cases z : r.lo with
    | false => rfl
    | true =>
      obtain ⟨x, hx, _⟩ := P.dom r hr z
      rw [e] at hx; cases hx
  · rw [cnt_le hq]
    grind
theorem least_far (I : Iv rs L he) (P : LowPts rs pts) (C : CutOk (-1) he (some L) H pts) (eh : he = none) {f : Pr} {R : List Pr} (e : H = f :: R) {t : Int} (ht : t < f.1) : IsLow rs t none := by
  intro n
  have hf : f ∈ H := by rw [e]; exact List.mem_cons_self
  let cs : List Pr := [L, (f.2 - n - 1, f.1 - t)] ++ edF f R
  have hcs : ∀ k ∈ cs, 0 < k.2 := by
    intro k hk
    rcases List.mem_append.mp hk with z | z
    · simp only [List.mem_cons, List.not_mem_nil, or_false] at z
      rcases z with z | z
      · rw [z]; exact I.b0
      · rw [z]; dsimp only; omega
    · cases R with
      | nil => cases z
      | cons b r =>
        rw [List.mem_singleton.mp z]
        have lt := edge_lt (A := []) (by have := C.conv; rw [e] at this; exact this)
        dsimp only; omega
  obtain ⟨p, hp, g2⟩ := near_top cs hcs
  have k1 : L.1 < p * L.2 := g2 L (by simp [cs])
  have k2 : f.2 - n - 1 < p * (f.1 - t) := g2 (f.2 - n - 1, f.1 - t) (by simp [cs])
  have fit := tang_low I P C.toCut (p := p) (q := 1) (by decide) (by omega) (fun f' hf' => by rw [eh] at hf'; cases hf') hf (by
    rw [e]
    refine first_min (by decide) (by have := C.conv; rw [e] at this; exact this) fun b r eb => ?_
    have := g2 (b.2 - f.2, b.1 - f.1) (by simp [cs, eb, edF])
    dsimp only at this
    unfold val
    grind)
  refine ⟨p, 1, _, fit, ?_⟩
  rw [cnt_le (by decide)]
  grind
/-! ### the greatest count -/
theorem great_head (I : Iv rs L he) (P : HighPts rs pts) (C : CutOk 1 (some L) he H pts) {f : Pr} {R : List Pr} (e : H = f :: R) {t : Int} (ht : t < f.1) : IsHigh rs t (some (bd f L.1 L.2 1 t)) := by
  have hf : f ∈ H := by rw [e]; exact List.mem_cons_self
  have b0 := I.b0
  generalize eK : (L.1 * (t - f.1) - 1) / L.2 = K
  have b1 : K * L.2 ≤ L.1 * (t - f.1) - 1 := by rw [← eK]; exact (le_div_iff b0).mp (Int.le_refl _)
  have b2 : L.1 * (t - f.1) - 1 < (K + 1) * L.2 := (div_le_iff b0).mp (by rw [eK]; exact Int.le_refl _)
  have hb : bd f L.1 L.2 1 t = f.2 + K := by unfold bd; rw [eK]
  rw [hb]
  have lim : ∀ p q c, Fit p q c rs → cnt p q c t ≤ f.2 + K := by
    intro p q c F
    obtain ⟨i, hi, li, e1, e2⟩ := P.att f (C.sub f hf)
    have w := (fits_hi li).mp (F.all i hi)
    rw [e1, e2] at w
    obtain ⟨n1, _⟩ := I.nec p q F.hp F.hq (rate_of_fit F)
    rw [cnt_le F.hq]
    have z1 := Int.mul_le_mul_of_nonneg_right (show L.1 * (t - f.1) ≤ (K + 1) * L.2 by omega) (Int.le_of_lt F.hq)
    have z2 := Int.mul_le_mul_of_nonneg_right n1 (show 0 ≤ f.1 - t by omega)
    have z3 : (p * (t - f.1)) * L.2 ≤ ((K + 1) * q) * L.2 := by grind
    have z4 := Int.le_of_mul_le_mul_right z3 b0
    grind
  refine ⟨?_, lim⟩
  let cs : List Pr := [(-K, f.1 - t)] ++ he.toList ++ edF f R
  have hcs : ∀ k ∈ cs, 0 ≤ k.2 ∧ L.1 * k.2 < k.1 * L.2 := by
    intro k hk
    rcases List.mem_append.mp hk with z | z
    · rcases List.mem_append.mp z with z | z
      · rw [List.mem_singleton.mp z]; dsimp only
        exact ⟨by omega, by grind⟩
      · have z := Option.mem_toList.mp z
        obtain ⟨h1, h2, h3⟩ := I.h0 k z
        exact ⟨Int.le_of_lt h2, h3⟩
    · cases R with
      | nil => cases z
      | cons b r =>
        rw [List.mem_singleton.mp z]
        have v := C.fr f b r L e rfl
        have lt := edge_lt (A := []) (by have := C.conv; rw [e] at this; exact this)
        unfold val at v
        dsimp only
        exact ⟨by omega, by grind⟩
  obtain ⟨p, q, hq, g1, g2⟩ := near_low b0 cs hcs
  have k2 : p * (f.1 - t) < -K * q := g2 (-K, f.1 - t) (by simp [cs])
  have fit := tang_high I P C.toCut hq g1 (fun h hh => g2 h (by simp [cs, hh])) hf (by
    rw [e]
    refine first_min hq (by have := C.conv; rw [e] at this; exact this) fun b r eb => ?_
    have := g2 (b.2 - f.2, b.1 - f.1) (by simp [cs, eb, edF])
    dsimp only at this
    unfold val
    grind)
  refine ⟨p, q, _, fit, ?_⟩
  have up := lim _ _ _ fit
  rw [cnt_at hq] at up ⊢
  have : K ≤ (p * (t - f.1) - 1) / q := by
    rw [le_div_iff hq]
    grind
  omega
theorem great_edge (I : Iv rs L he) (P : HighPts rs pts) (C : CutOk 1 (some L) he H pts) {A B : List Pr} {x y : Pr} (e : H = A ++ x :: y :: B) {t : Int} (h1 : x.1 ≤ t) (h2 : t < y.1) : IsHigh rs t (some (bd x (y.2 - x.2) (y.1 - x.1) 1 t)) := by
  have hE : ∀ f, he = some f → 0 < f.2 := fun f hf => (I.h0 f hf).2.1
  have hF : ∀ f, some L = some f → 0 < f.2 := fun f hf => by cases hf; exact I.b0
  have hc : Conv 1 (A ++ x :: y :: B) := by have := C.conv; rw [e] at this; exact this
  have hl := edge_lt hc
  have hq : 0 < y.1 - x.1 := by omega
  have u1 := edge_up hF C e L rfl
  have u2 := edge_down hE C e
  have hx : x ∈ H := by rw [e]; simp
  have hy : y ∈ H := by rw [e]; simp
  have k1 : L.1 * (y.1 - x.1) < (y.2 - x.2) * L.2 := by unfold val at u1; grind
  have k2 : ∀ f, he = some f → (y.2 - x.2) * f.2 < f.1 * (y.1 - x.1) := fun f hf => by have := u2 f hf; unfold val at this; grind
  have fit := tang_high I P C.toCut hq k1 k2 hx (by rw [e]; exact edge_min hq hc (by unfold val; grind))
  refine ⟨⟨_, _, _, fit, cnt_at hq⟩, fun p q c F => ?_⟩
  obtain ⟨i, hi, li, e1, e2⟩ := P.att x (C.sub x hx)
  have w1 := (fits_hi li).mp (F.all i hi)
  rw [e1, e2] at w1
  obtain ⟨j, hj, lj, e3, e4⟩ := P.att y (C.sub y hy)
  have w2 := (fits_hi lj).mp (F.all j hj)
  rw [e3, e4] at w2
  rw [cnt_le F.hq]
  generalize eK : ((y.2 - x.2) * (t - x.1) - 1) / (y.1 - x.1) = K
  have b1 : (y.2 - x.2) * (t - x.1) - 1 < (K + 1) * (y.1 - x.1) := (div_le_iff hq).mp (by rw [eK]; exact Int.le_refl _)
  have hb : bd x (y.2 - x.2) (y.1 - x.1) 1 t = x.2 + K := by unfold bd; rw [eK]
  rw [hb]
  have z1 := Int.mul_le_mul_of_nonneg_right (show (y.2 - x.2) * (t - x.1) ≤ (K + 1) * (y.1 - x.1) by omega) (Int.le_of_lt F.hq)
  have z2 := Int.mul_lt_mul_of_pos_right w1 (show 0 < y.1 - t by omega)
  have z3 := Int.mul_le_mul_of_nonneg_right (Int.le_of_lt w2) (show 0 ≤ t - x.1 by omega)
  have z4 : (p * t + c) * (y.1 - x.1) < ((x.2 + K + 1) * q) * (y.1 - x.1) := by grind
  exact Int.lt_of_mul_lt_mul_right z4 (Int.le_of_lt hq)
theorem great_tail (I : Iv rs L he) (P : HighPts rs pts) (C : CutOk 1 (some L) he H pts) {h : Pr} (eh : he = some h) {A : List Pr} {l : Pr} (e : H = A ++ [l]) {t : Int} (ht : l.1 ≤ t) : IsHigh rs t (some (bd l h.1 h.2 1 t)) := by
  obtain ⟨h1, h2, h3⟩ := I.h0 h eh
  have hl : l ∈ H := by rw [e]; simp
  generalize eK : (h.1 * (t - l.1) - 1) / h.2 = K
  have b1 : K * h.2 ≤ h.1 * (t - l.1) - 1 := by rw [← eK]; exact (le_div_iff h2).mp (Int.le_refl _)
  have b2 : h.1 * (t - l.1) - 1 < (K + 1) * h.2 := (div_le_iff h2).mp (by rw [eK]; exact Int.le_refl _)
  have hb : bd l h.1 h.2 1 t = l.2 + K := by unfold bd; rw [eK]
  rw [hb]
  have lim : ∀ p q c, Fit p q c rs → cnt p q c t ≤ l.2 + K := by
    intro p q c F
    obtain ⟨i, hi, li, e1, e2⟩ := P.att l (C.sub l hl)
    have w := (fits_hi li).mp (F.all i hi)
    rw [e1, e2] at w
    obtain ⟨_, n2⟩ := I.nec p q F.hp F.hq (rate_of_fit F)
    have n2 := n2 h eh
    rw [cnt_le F.hq]
    have z1 := Int.mul_le_mul_of_nonneg_right (show h.1 * (t - l.1) ≤ (K + 1) * h.2 by omega) (Int.le_of_lt F.hq)
    have z2 := Int.mul_le_mul_of_nonneg_right (Int.le_of_lt n2) (show 0 ≤ t - l.1 by omega)
    have z3 : (p * (t - l.1)) * h.2 ≤ ((K + 1) * q) * h.2 := by grind
    have z4 := Int.le_of_mul_le_mul_right z3 h2
    grind
  refine ⟨?_, lim⟩
  let cs : List Pr := [L, (K, t - l.1)] ++ edL l A
  have hcs : ∀ k ∈ cs, 0 ≤ k.2 ∧ k.1 * h.2 < h.1 * k.2 := by
    intro k hk
    rcases List.mem_append.mp hk with z | z
    · simp only [List.mem_cons, List.not_mem_nil, or_false] at z
      rcases z with z | z
      · rw [z]; exact ⟨Int.le_of_lt I.b0, h3⟩
      · rw [z]; dsimp only
        exact ⟨by omega, by omega⟩
    · rcases List.eq_nil_or_concat A with w | ⟨B, a, w⟩
      · subst w; simp [edL] at z
      · rw [List.concat_eq_append] at w
        subst w
        rw [edL_snoc] at z
        rw [List.mem_singleton.mp z]; dsimp only
        have e' : H = B ++ [a, l] := by simpa using e
        have v := C.en B a l h e' eh
        have lt := edge_lt (A := B) (B := []) (by have := C.conv; rw [e'] at this; exact this)
        unfold val at v
        exact ⟨by omega, by grind⟩
  obtain ⟨p, q, hq, g1, g2⟩ := near_high h2 cs hcs
  have k1 : L.1 * q < p * L.2 := g2 L (by simp [cs])
  have k2 : K * q < p * (t - l.1) := g2 (K, t - l.1) (by simp [cs])
  have fit := tang_high I P C.toCut hq k1 (fun f' hf' => by rw [eh] at hf'; cases hf'; exact g1) hl (by
    rw [e]
    refine last_min hq (by have := C.conv; rw [e] at this; exact this) fun B a eb => ?_
    have := g2 (l.2 - a.2, l.1 - a.1) (by simp [cs, eb, edL_snoc])
    dsimp only at this
    unfold val
    grind)
  refine ⟨p, q, _, fit, ?_⟩
  have up := lim _ _ _ fit
  rw [cnt_at hq] at up ⊢
  have : K ≤ (p * (t - l.1) - 1) / q := by
    rw [le_div_iff hq]
    omega
  omega
/-- where the rates have no upper end: any steep rate through the last point -/
theorem steep (I : Iv rs L he) (P : HighPts rs pts) (C : CutOk 1 (some L) he H pts) (eh : he = none) {A : List Pr} {l : Pr} (e : H = A ++ [l]) (k : Pr) (hk : 0 < k.2) : ∃ p : Int, Fit p 1 (l.2 * 1 - p * l.1 - 1) rs ∧ k.1 < p * k.2 := by
  have hl : l ∈ H := by rw [e]; simp
  let cs : List Pr := [L, k] ++ edL l A
  have hcs : ∀ k ∈ cs, 0 < k.2 := by
    intro k' hk'
    rcases List.mem_append.mp hk' with z | z
    · simp only [List.mem_cons, List.not_mem_nil, or_false] at z
      rcases z with z | z
      · rw [z]; exact I.b0
      · rw [z]; exact hk
    · rcases List.eq_nil_or_concat A with w | ⟨B, a, w⟩
      · subst w; simp [edL] at z
      · rw [List.concat_eq_append] at w
        subst w
        rw [edL_snoc] at z
        rw [List.mem_singleton.mp z]; dsimp only
        have e' : H = B ++ [a, l] := by simpa using e
        have lt := edge_lt (A := B) (B := []) (by have := C.conv; rw [e'] at this; exact this)
        omega
  obtain ⟨p, hp, g2⟩ := near_top cs hcs
  have k1 : L.1 < p * L.2 := g2 L (by simp [cs])
  refine ⟨p, ?_, g2 k (by simp [cs])⟩
  refine tang_high I P C.toCut (p := p) (q := 1) (by decide) (by omega) (fun f' hf' => by rw [eh] at hf'; cases hf') hl ?_
  rw [e]
  refine last_min (by decide) (by have := C.conv; rw [e] at this; exact this) fun B a eb => ?_
  have := g2 (l.2 - a.2, l.1 - a.1) (by simp [cs, eb, edL_snoc])
  dsimp only at this
  unfold val
  grind
theorem great_last (I : Iv rs L he) (P : HighPts rs pts) (C : CutOk 1 (some L) he H pts) (eh : he = none) {A : List Pr} {l : Pr} (e : H = A ++ [l]) {t : Int} (ht : t = l.1) : IsHigh rs t (some (bd l 0 1 1 t)) := by
  have hl : l ∈ H := by rw [e]; simp
  have hb : bd l 0 1 1 t = l.2 - 1 := by unfold bd; rw [Int.zero_mul, Int.ediv_one]; omega
  rw [hb]
  refine ⟨?_, fun p q c F => ?_⟩
  · obtain ⟨p, fit, _⟩ := steep I P C eh e (0, 1) (by decide)
    refine ⟨p, 1, _, fit, ?_⟩
    rw [cnt_at (by decide), ht, Int.sub_self, Int.mul_zero, Int.ediv_one]
    omega
  · obtain ⟨i, hi, li, e1, e2⟩ := P.att l (C.sub l hl)
    have w := (fits_hi li).mp (F.all i hi)
    rw [e1, e2] at w
    rw [cnt_le F.hq, ht, show l.2 - 1 + 1 = l.2 by omega]
    exact w
theorem great_far (I : Iv rs L he) (P : HighPts rs pts) (C : CutOk 1 (some L) he H pts) (eh : he = none) {A : List Pr} {l : Pr} (e : H = A ++ [l]) {t : Int} (ht : l.1 < t) : IsHigh rs t none := by
  intro n
  obtain ⟨p, fit, k⟩ := steep I P C eh e (n - l.2, t - l.1) (by dsimp only; omega)
  refine ⟨p, 1, _, fit, ?_⟩
  dsimp only at k
  rw [cnt_at (by decide), Int.ediv_one]
  omega
theorem great_no (I : Iv rs L he) (P : HighPts rs pts) (e : pts = []) {t : Int} : IsHigh rs t none := by
  intro n
  obtain ⟨p, q, hp, hq, _⟩ := some_rate I
  obtain ⟨b, hb⟩ := exists_below (fun r : Rec => -(r.n * q - p * r.t)) rs
  refine ⟨p, q, max (-b) (n * q - p * t), fit_great hp hq (fun r hr => ?_) (fun r hr => by have := hb r hr; omega), ?_⟩
  · cases z : r.lo with
    | true => rfl
    | false =>
      obtain ⟨x, hx, _⟩ := P.dom r hr z
      rw [e] at hx; cases hx
  · rw [le_cnt hq]
    grind
end
end K67

set_option maxHeartbeats 4000000
namespace K67
/-! A fraction strictly between two: the program's continued fraction. -/
/-- one step back -/
def unStep (w : Int) (x : Pr) : Pr := (w * x.1 + x.2, x.1)
/-- the bound's numerator and denominator: none is 1 / 0 -/
def hiOf (h : Option Pr) : Pr := h.getD (1, 0)
/-- a coprime pair strictly between, with parts that are bounded -/
structure Btw (low : Pr) (high : Option Pr) (x : Pr) : Prop where
  p0 : 0 < x.1
  q0 : 0 < x.2
  co : Int.gcd x.1 x.2 = 1
  lo : low.1 * x.2 < x.1 * low.2
  hi : ∀ h, high = some h → x.1 * h.2 < h.1 * x.2
  bp : x.1 ≤ low.1 + (hiOf high).1
  bq : x.2 ≤ low.2 + (hiOf high).2
/-- the ends as the loop holds them -/
structure SrOk (low : Pr) (high : Option Pr) : Prop where
  a0 : 0 ≤ low.1
  b0 : 0 < low.2
  h : ∀ h, high = some h → 0 < h.1 ∧ 0 < h.2 ∧ low.1 * h.2 < h.1 * low.2
def srStop (low : Pr) (high : Option Pr) : Bool := match high with
  | none => true
  | some h => decide ((low.1 / low.2 + 1) * h.2 < h.1)
def srNext (low h : Pr) : Pr × Option Pr := ((h.2, h.1 - low.1 / low.2 * h.2), if 0 < low.1 - low.1 / low.2 * low.2 then some (low.2, low.1 - low.1 / low.2 * low.2) else none)
def srMeas (low : Pr) (high : Option Pr) : Nat := match high with
  | none => 0
  | some h => (2 * (low.1 + low.2 + h.1 + h.2)).toNat + (if low.1 < low.2 then 1 else 0)
theorem sr_floor {low : Pr} (b0 : 0 < low.2) : low.1 / low.2 * low.2 ≤ low.1 ∧ low.1 < (low.1 / low.2 + 1) * low.2 :=
  ⟨(le_div_iff b0).mp (Int.le_refl _), (div_le_iff b0).mp (Int.le_refl _)⟩
theorem sr_w0 {low : Pr} (a0 : 0 ≤ low.1) (b0 : 0 < low.2) : 0 ≤ low.1 / low.2 := Int.ediv_nonneg a0 (Int.le_of_lt b0)
/-- where the loop ends -/
theorem sr_stop {low : Pr} {high : Option Pr} (I : SrOk low high) (hs : srStop low high = true) : Btw low high (low.1 / low.2 + 1, 1) := by
  have w0 := sr_w0 I.a0 I.b0
  obtain ⟨f1, f2⟩ := sr_floor I.b0
  have b0 := I.b0
  have a0 := I.a0
  unfold srStop at hs
  generalize low.1 / low.2 = w at *
  refine ⟨by dsimp only; omega, (by show (0 : Int) < 1; decide), by simp, by dsimp only; omega, fun h e => ?_, ?_, ?_⟩
  · subst e
    have := of_decide_eq_true hs
    dsimp only
    omega
  · cases high with
    | none =>
      unfold hiOf
      dsimp only [Option.getD]
      have := Int.mul_le_mul_of_nonneg_left (show 1 ≤ low.2 from b0) w0
      omega
    | some h =>
      unfold hiOf
      dsimp only [Option.getD]
      obtain ⟨c0, d0, _⟩ := I.h h rfl
      have := of_decide_eq_true hs
      have := Int.mul_le_mul_of_nonneg_left (show 1 ≤ h.2 from d0) (show 0 ≤ w + 1 by omega)
      omega
  · cases high with
    | none => unfold hiOf; dsimp only [Option.getD]; omega
    | some h =>
      unfold hiOf
      dsimp only [Option.getD]
      obtain ⟨c0, d0, _⟩ := I.h h rfl
      omega
theorem sr_next {low h : Pr} (I : SrOk low (some h)) (hs : srStop low (some h) = false) : SrOk (srNext low h).1 (srNext low h).2 ∧ srMeas (srNext low h).1 (srNext low h).2 < srMeas low (some h) ∧
    (srNext low h).1.1 + (srNext low h).1.2 + (hiOf (srNext low h).2).1 + (hiOf (srNext low h).2).2 ≤ low.1 + low.2 + h.1 + h.2 ∧
    ∀ x, Btw (srNext low h).1 (srNext low h).2 x → Btw low (some h) (unStep (low.1 / low.2) x) := by
  have w0 := sr_w0 I.a0 I.b0
  obtain ⟨f1, f2⟩ := sr_floor I.b0
  have b0 := I.b0
  have a0 := I.a0
  obtain ⟨c0, d0, lt⟩ := I.h h rfl
  have hs := of_decide_eq_false hs
  unfold srNext
  dsimp only
  generalize low.1 / low.2 = w at *
  have cw : 0 < h.1 - w * h.2 := by
    have e1 := Int.mul_le_mul_of_nonneg_right f1 (Int.le_of_lt d0)
    have e2 : (w * h.2) * low.2 < h.1 * low.2 := by grind
    have := Int.lt_of_mul_lt_mul_right e2 (Int.le_of_lt b0)
    omega
  have wb : 0 ≤ w * low.2 := Int.mul_nonneg w0 (Int.le_of_lt b0)
  have wd : 0 ≤ w * h.2 := Int.mul_nonneg w0 (Int.le_of_lt d0)
  by_cases r : 0 < low.1 - w * low.2
  · rw [if_pos r]
    refine ⟨⟨Int.le_of_lt d0, cw, fun h' e => ?_⟩, ?_, ?_, fun x X => ?_⟩
    · cases e
      exact ⟨b0, r, by dsimp only; grind⟩
    · unfold srMeas
      dsimp only
      by_cases z : w = 0
      · subst z
        have : low.1 < low.2 := by omega
        have : ¬ h.2 < h.1 - 0 * h.2 := by omega
        split <;> (try split) <;> omega
      · have : h.2 ≤ w * h.2 := by
          have := Int.mul_le_mul_of_nonneg_right (show 1 ≤ w by omega) (Int.le_of_lt d0)
          omega
        have : low.2 ≤ w * low.2 := by
          have := Int.mul_le_mul_of_nonneg_right (show 1 ≤ w by omega) (Int.le_of_lt b0)
          omega
        split <;> (try split) <;> omega
    · unfold hiOf; dsimp only [Option.getD]; omega
    · obtain ⟨p0, q0, co, lo, hi, bp, bq⟩ := X
      have hi := hi _ rfl
      unfold hiOf at bp bq
      dsimp only [Option.getD] at lo hi bp bq
      have wp := Int.mul_nonneg w0 (Int.le_of_lt p0)
      refine ⟨by unfold unStep; dsimp only; omega, p0, ?_, by unfold unStep; dsimp only; grind, fun h' e => ?_, ?_, ?_⟩
      · unfold unStep
        dsimp only
        rw [Int.add_comm, Int.mul_comm, Int.gcd_add_mul_left_left, Int.gcd_comm]
        exact co
      · cases e
        unfold unStep
        dsimp only
        grind
      · unfold unStep hiOf
        dsimp only [Option.getD]
        have := Int.mul_le_mul_of_nonneg_left bp w0
        grind
      · unfold unStep hiOf
        dsimp only [Option.getD]
        omega
  · rw [if_neg r]
    refine ⟨⟨Int.le_of_lt d0, cw, fun h' e => by cases e⟩, ?_, ?_, fun x X => ?_⟩
    · unfold srMeas
      dsimp only
      split <;> omega
    · unfold hiOf; dsimp only [Option.getD]; omega
    · obtain ⟨p0, q0, co, lo, hi, bp, bq⟩ := X
      unfold hiOf at bp bq
      dsimp only [Option.getD] at lo bp bq
      have wp := Int.mul_nonneg w0 (Int.le_of_lt p0)
      have ea : low.1 = w * low.2 := by omega
      refine ⟨by unfold unStep; dsimp only; omega, p0, ?_, ?_, fun h' e => ?_, ?_, ?_⟩
      · unfold unStep
        dsimp only
        rw [Int.add_comm, Int.mul_comm, Int.gcd_add_mul_left_left, Int.gcd_comm]
        exact co
      · unfold unStep
        dsimp only
        have := Int.mul_pos q0 b0
        grind
      · cases e
        unfold unStep
        dsimp only
        grind
      · unfold unStep hiOf
        dsimp only [Option.getD]
        have := Int.mul_le_mul_of_nonneg_left bp w0
        have := Int.mul_le_mul_of_nonneg_left (show 1 ≤ low.2 from b0) w0
        grind
      · unfold unStep hiOf
        dsimp only [Option.getD]
        omega
/-- all steps back -/
def unAll (ws : List Int) (x : Pr) : Pr := ws.foldr unStep x
theorem unAll_snoc (ws : List Int) (w : Int) (x : Pr) : unAll (ws ++ [w]) x = unAll ws (unStep w x) := by unfold unAll; rw [List.foldr_append]; rfl
/-- the loop's invariant: ws so far, the ends now, the ends at the start -/
structure SrInv (low0 : Pr) (high0 : Option Pr) (ws : List Int) (low : Pr) (high : Option Pr) : Prop where
  ok : SrOk low high
  wn : ∀ w ∈ ws, 0 ≤ w
  sz : low.1 + low.2 + (hiOf high).1 + (hiOf high).2 ≤ low0.1 + low0.2 + (hiOf high0).1 + (hiOf high0).2
  back : ∀ x, Btw low high x → Btw low0 high0 (unAll ws x)
theorem srInv0 {low : Pr} {high : Option Pr} (I : SrOk low high) : SrInv low high [] low high := ⟨I, fun w h => (by cases h), Int.le_refl _, fun _ h => h⟩
theorem srInv_next {low0 low h : Pr} {high0 : Option Pr} {ws : List Int} (I : SrInv low0 high0 ws low (some h)) (hs : srStop low (some h) = false) :
    SrInv low0 high0 (ws ++ [low.1 / low.2]) (srNext low h).1 (srNext low h).2 ∧ srMeas (srNext low h).1 (srNext low h).2 < srMeas low (some h) := by
  obtain ⟨a, b, c, d⟩ := sr_next I.ok hs
  refine ⟨⟨a, fun w hw => ?_, ?_, fun x X => ?_⟩, b⟩
  · rcases List.mem_append.mp hw with z | z
    · exact I.wn w z
    · rw [List.mem_singleton.mp z]; exact sr_w0 I.ok.a0 I.ok.b0
  · have := I.sz
    unfold hiOf at *
    dsimp only [Option.getD] at *
    omega
  · rw [unAll_snoc]
    exact I.back _ (d x X)
/-- the way back keeps its parts below what it comes to -/
theorem un_mono : ∀ (ws : List Int) (x : Pr), (∀ w ∈ ws, 0 ≤ w) → 0 < x.1 → 0 < x.2 → 0 < (unAll ws x).1 ∧ 0 < (unAll ws x).2 ∧ x.1 + x.2 ≤ (unAll ws x).1 + (unAll ws x).2
  | [], x, _, h1, h2 => ⟨h1, h2, Int.le_refl _⟩
  | w :: ws, x, hw, h1, h2 => by
    obtain ⟨a, b, c⟩ := un_mono ws x (fun v hv => hw v (List.mem_cons_of_mem _ hv)) h1 h2
    have e : unAll (w :: ws) x = unStep w (unAll ws x) := rfl
    rw [e]
    have := Int.mul_nonneg (hw w List.mem_cons_self) (Int.le_of_lt a)
    unfold unStep
    dsimp only
    omega
/-- the state behind i turns of the loop back over ws, newest first -/
def unBack (ws : List Int) (x : Pr) (i : Nat) : Pr := (ws.reverse.take i).foldl (fun x w => unStep w x) x
theorem unBack_zero (ws : List Int) (x : Pr) : unBack ws x 0 = x := rfl
theorem unBack_all (ws : List Int) (x : Pr) : unBack ws x ws.length = unAll ws x := by
  unfold unBack unAll
  rw [← List.length_reverse (as := ws), List.take_length, List.foldl_reverse]
theorem unBack_succ {ws : List Int} {x : Pr} {i : Nat} {w : Int} (h : ws.reverse[i]? = some w) : unBack ws x (i + 1) = unStep w (unBack ws x i) := by
  unfold unBack
  rw [List.take_add_one, h, List.foldl_append]
  rfl
theorem unBack_le {ws : List Int} {x : Pr} (hw : ∀ w ∈ ws, 0 ≤ w) (h1 : 0 < x.1) (h2 : 0 < x.2) (i : Nat) :
    0 < (unBack ws x i).1 ∧ 0 < (unBack ws x i).2 ∧ (unBack ws x i).1 + (unBack ws x i).2 ≤ (unAll ws x).1 + (unAll ws x).2 := by
  have key : ws = (ws.reverse.drop i).reverse ++ (ws.reverse.take i).reverse := by
    rw [← List.reverse_append, List.take_append_drop, List.reverse_reverse]
  have e1 : unBack ws x i = unAll (ws.reverse.take i).reverse x := by
    unfold unBack unAll
    rw [List.foldr_reverse]
  have e2 : unAll ws x = unAll (ws.reverse.drop i).reverse (unBack ws x i) := by
    rw [e1]
    unfold unAll
    rw [← List.foldr_append, ← key]
  have m1 : ∀ w ∈ (ws.reverse.take i).reverse, 0 ≤ w := fun w h => hw w (List.mem_reverse.mp (List.mem_of_mem_take (List.mem_reverse.mp h)))
  have m2 : ∀ w ∈ (ws.reverse.drop i).reverse, 0 ≤ w := fun w h => hw w (List.mem_reverse.mp (List.mem_of_mem_drop (List.mem_reverse.mp h)))
  have a := un_mono _ x m1 h1 h2
  rw [← e1] at a
  obtain ⟨a1, a2, _⟩ := a
  have b := un_mono _ (unBack ws x i) m2 a1 a2
  rw [← e2] at b
  exact ⟨a1, a2, b.2.2⟩
/-- a step's factor and product are bounded -/
theorem un_step_le {w : Int} {x : Pr} (hw : 0 ≤ w) (h1 : 0 < x.1) (h2 : 0 < x.2) : w ≤ (unStep w x).1 := by
  have := Int.mul_le_mul_of_nonneg_left (show 1 ≤ x.1 from h1) hw
  unfold unStep
  dsimp only
  omega
end K67

set_option maxHeartbeats 4000000
namespace K67
/-! How long the program's continued fraction can be. -/
def srSum (low : Pr) (high : Option Pr) : Int := low.1 + low.2 + (hiOf high).1 + (hiOf high).2
/-- behind n turns -/
def LenInv (S0 : Int) (n : Nat) (low : Pr) (high : Option Pr) : Prop := ∃ k : Nat, n ≤ 2 * k + (if low.1 < low.2 then 0 else 1) ∧ 3 ^ k * srSum low high ≤ 2 ^ k * S0
theorem len0 (low : Pr) (high : Option Pr) : LenInv (srSum low high) 0 low high := ⟨0, by omega, by simp⟩
theorem len_next {S0 : Int} {n : Nat} {low h : Pr} (I : SrOk low (some h)) (hs : srStop low (some h) = false) (L : LenInv S0 n low (some h)) : LenInv S0 (n + 1) (srNext low h).1 (srNext low h).2 := by
  obtain ⟨k, h1, h2⟩ := L
  have w0 := sr_w0 I.a0 I.b0
  obtain ⟨f1, f2⟩ := sr_floor I.b0
  have b0 := I.b0
  have a0 := I.a0
  obtain ⟨c0, d0, lt⟩ := I.h h rfl
  have hs := of_decide_eq_false hs
  have hS : srSum (srNext low h).1 (srNext low h).2 ≤ (low.1 - low.1 / low.2 * low.2) + (h.1 - low.1 / low.2 * h.2) + low.2 + h.2 := by
    unfold srSum srNext hiOf
    dsimp only
    by_cases r : 0 < low.1 - low.1 / low.2 * low.2
    · rw [if_pos r]
      dsimp only [Option.getD]
      omega
    · rw [if_neg r]
      dsimp only [Option.getD]
      omega
  have hS0 : srSum low (some h) = low.1 + low.2 + h.1 + h.2 := rfl
  have e1 : (srNext low h).1 = (h.2, h.1 - low.1 / low.2 * h.2) := rfl
  rw [hS0] at h2
  have p3 : (0 : Int) ≤ 3 ^ k := Int.le_of_lt (Int.pow_pos (by decide))
  unfold LenInv
  generalize srSum (srNext low h).1 (srNext low h).2 = S' at hS ⊢
  rw [e1]
  generalize low.1 / low.2 = w at *
  by_cases z : w = 0
  · subst z
    refine ⟨k, ?_, ?_⟩
    · rw [if_pos (show low.1 < low.2 by omega)] at h1
      rw [if_neg (by dsimp only; omega)]
      omega
    · have := Int.mul_le_mul_of_nonneg_left (show S' ≤ low.1 + low.2 + h.1 + h.2 by omega) p3
      omega
  · refine ⟨k + 1, ?_, ?_⟩
    · split <;> split at h1 <;> omega
    · have b1 : low.2 ≤ w * low.2 := by
        have := Int.mul_le_mul_of_nonneg_right (show 1 ≤ w by omega) (Int.le_of_lt b0)
        omega
      have d1 : h.2 ≤ w * h.2 := by
        have := Int.mul_le_mul_of_nonneg_right (show 1 ≤ w by omega) (Int.le_of_lt d0)
        omega
      have f2' : low.1 < w * low.2 + low.2 := by grind
      have hs' : h.1 ≤ w * h.2 + h.2 := by grind
      have key : 3 * S' ≤ 2 * (low.1 + low.2 + h.1 + h.2) := by omega
      have := Int.mul_le_mul_of_nonneg_left key p3
      rw [Int.pow_succ, Int.pow_succ]
      grind
theorem pow_bound {k M : Nat} (h : 3 ^ k < 2 ^ k * 2 ^ M) : k < 2 * M := by
  apply Classical.byContradiction
  intro hk
  have e : k = 2 * M + (k - 2 * M) := by omega
  have h1 : 2 ^ (k - 2 * M) ≤ 3 ^ (k - 2 * M) := Nat.pow_le_pow_left (by decide) _
  have h2 : (8 : Nat) ^ M ≤ 9 ^ M := Nat.pow_le_pow_left (by decide) _
  have e1 : 3 ^ k = 9 ^ M * 3 ^ (k - 2 * M) := by
    have : (9 : Nat) ^ M = 3 ^ (2 * M) := by rw [Nat.pow_mul]
    rw [this, ← Nat.pow_add, ← e]
  have e2 : 2 ^ k * 2 ^ M = 8 ^ M * 2 ^ (k - 2 * M) := by
    have : (8 : Nat) ^ M = 2 ^ (3 * M) := by rw [Nat.pow_mul]
    rw [this, ← Nat.pow_add, ← Nat.pow_add]
    congr 1
    omega
  rw [e1, e2] at h
  have := Nat.mul_le_mul h2 h1
  omega
theorem len_le {S0 : Int} {n M : Nat} {low : Pr} {high : Option Pr} (I : SrOk low high) (L : LenInv S0 n low high) (h0 : 0 ≤ S0) (hS : S0.natAbs < 2 ^ M) : n ≤ 4 * M := by
  obtain ⟨k, h1, h2⟩ := L
  have s1 : 1 ≤ srSum low high := by
    have a0 := I.a0
    have b0 := I.b0
    unfold srSum hiOf
    cases high with
    | none => dsimp only [Option.getD]; omega
    | some h =>
      obtain ⟨c0, d0, lt⟩ := I.h h rfl
      dsimp only [Option.getD]
      omega
  have p3 : (0 : Int) ≤ 3 ^ k := Int.le_of_lt (Int.pow_pos (by decide))
  have p2 : (0 : Int) < 2 ^ k := Int.pow_pos (by decide)
  have e1 := Int.mul_le_mul_of_nonneg_left s1 p3
  have hS' : S0 < 2 ^ M := by
    have e : ((2 ^ M : Nat) : Int) = (2 : Int) ^ M := by simp
    rw [← e]
    omega
  have e2 := Int.mul_lt_mul_of_pos_left hS' p2
  have e3 : (3 : Int) ^ k < 2 ^ k * 2 ^ M := by omega
  have e4 : 3 ^ k < 2 ^ k * 2 ^ M := by
    have a : ((3 ^ k : Nat) : Int) = (3 : Int) ^ k := by simp
    have b : ((2 ^ k * 2 ^ M : Nat) : Int) = (2 : Int) ^ k * 2 ^ M := by simp
    rw [← a, ← b] at e3
    exact Int.ofNat_lt.mp e3
  have := pow_bound e4
  split at h1 <;> omega
end K67

set_option Elab.async false
set_option linter.all false
set_option maxRecDepth 100000
set_option maxHeartbeats 4000000
namespace K67
open PySem PySem.Spec PyProof.Rows L2
/-! ### a list or a tuple, walked -/
def Sq (K : PySem.W.Frag) (H : Hp) (a : Addr) (xs : List V) : Prop := SqL K H a xs ∨ SqT K H a xs
theorem Same.seqT {K : PySem.W.Frag} {H H' : Hp} {a : Addr} {xs : List V} (e : Same H H') (h : SqT K H a xs) : SqT K H' a xs := by
  rcases h with h | h
  · rcases h with h | ⟨o, h⟩
    · exact .inl (.inl (e _ _ h))
    · exact .inl (.inr ⟨o, e _ _ h⟩)
  · exact .inr h
theorem Sq.same {K : PySem.W.Frag} {H H' : Hp} {a : Addr} {xs : List V} (e : Same H H') (h : Sq K H a xs) : Sq K H' a xs := h.imp e.seq (Same.seqT e)
/-- the two ways at once: a walk that stands while all that was tracked stands -/
theorem seq_walk {K : PySem.W.Frag} {H : Hp} {a : Addr} {xs : List V} (h : Sq K H a xs) {R : It → Hp → Prop} (hR : ∀ J, Walk J xs.length (fun H' => Same H H') (YAt xs) → R J H) :
    ((∃ xs, SqL K H a xs) ∧ R (Itl K a) H) ∨ ((∃ xs, SqT K H a xs) ∧ R (Itt K a) H) := by
  rcases h with h | h
  · exact .inl ⟨⟨_, h⟩, hR _ (walk_list.mono (fun H' s => s.seq h) fun _ _ _ _ _ _ y => y)⟩
  · exact .inr ⟨⟨_, h⟩, hR _ (walk_tup.mono (fun H' s => Same.seqT s h) fun _ _ _ _ _ _ y => y)⟩
/-- for x in e, e a list or a tuple that stands while all that is tracked stands -/
def iSeq (K : PySem.W.Frag) (tl : TE) : TI := fun σ H R => tl σ H fun x H1 => ∃ a xs, x = .ref a ∧ Sq K H1 a xs ∧ ∀ J, Walk J xs.length (fun H' => Same H1 H') (YAt xs) → R J H1
theorem pi_seq {X : Cx} {tg l : Expr} {tl : TE} (hl : PE X l tl) : PI X tg l (iSeq X.K tl) := by
  refine ⟨fun pins s σ H R I h => thn (hl.run pins s σ H _ I h) fun v s1 ⟨x, H1, I1, r1, a, xs, e, hs, q⟩ => ?_⟩
  subst e
  cases r1
  rcases seq_walk hs q with ⟨⟨xs, hq⟩, q⟩ | ⟨⟨xs, hq⟩, q⟩
  · obtain ⟨its, rv, p, hz⟩ := I1.list hq
    exact wpAny_pyIter_list p.isList (pi_one (tk := s1.toks) I1 _ (turn_list a _) ⟨_, Heap.get?_push_size _ rfl, rfl, rfl⟩ q)
  · obtain ⟨its, rv, p, hz⟩ := I1.tuple hq
    exact wpAny_pyIter_tuple (show s1.heap.IsTuple a its.toArray from p) (pi_one (tk := s1.toks) I1 _ (turn_tuple a _) ⟨_, Heap.get?_push_size _ rfl, rfl, rfl⟩ q)
/-! ### enumerate of a tuple -/
theorem meets_enumT (t : Addr) (items : Array Value) :
    Meets (Builtin.«enumerate.__new__» ⟨[.type "enumerate", .ref t], []⟩) (fun _ R s => s.heap.IsTuple t items ∧
      R (.ok (.ret (.ref (s.heap.push { cls := .type "tuple_iterator", data := .fields #[.ref t, .int 0 0] }).objs.size)))
        { s with heap := (s.heap.push { cls := .type "tuple_iterator", data := .fields #[.ref t, .int 0 0] }).push { cls := .type "enumerate", data := .fields #[.none, .bool false, .ref s.heap.objs.size, rawInt 0, .none, .none] } }) :=
  .of_wp fun prog w A R s h => by
    obtain ⟨hp, g, d, tk, os⟩ := s
    obtain ⟨h1, h⟩ := h
    have hsub := sub_enumerate
    have q1 : ∀ {A' : Around} {E : Value → Shared → Prop} {Q : Value → Shared → Prop}, Q (.ref hp.objs.size) ⟨hp.push { cls := .type "tuple_iterator", data := .fields #[.ref t, .int 0 0] }, g, d, tk, os⟩ → wpAny (model prog w) A' (pyIter (.ref t)) Q E ⟨hp, g, d, tk, os⟩ :=
      fun q => wpAny_pyIter_tuple (s := ⟨hp, g, d, tk, os⟩) h1 q
    wp_walk using q1
    refine wpAny_stack_any fun st => wpAny_pure ?_
    split
    · rename_i c _ _ _ _ _
      cases (c == Value.type "enumerate")
      · wp_walk using q1
        exact ⟨_, rfl, h⟩
      · wp_walk using q1
        exact ⟨_, rfl, h⟩
    · wp_walk using q1
      exact ⟨_, rfl, h⟩
theorem enumT_begins {prog : Program} {w : World} {A : Around} {E : Value → Shared → Prop} {s : Shared} {t : Addr} {items : Array Value} {Q : Value → Shared → Prop} (h1 : s.heap.IsTuple t items)
    (h : ∀ h', IsEnum h' (s.heap.objs.size + 1) s.heap.objs.size 0 .none → h'.IsTupleIter s.heap.objs.size t 0 → (∀ b o, s.heap.get? b = some o → h'.get? b = some o) → Q (.ref (s.heap.objs.size + 1)) { s with heap := h' }) :
    wpAny (model prog w) A (call (.type "enumerate") [.ref t]) Q E s := by
  refine callType_new F.called_enumerate (by decide) (F.typeCall_enumerate_1 _) (F.newCall_enumerate_1 _) (fun obj => F.args_object_init_2 obj _) F.entry_enumerate_new (meets_enumT t items) ⟨h1, ?_⟩
  generalize eo : ({ cls := .type "tuple_iterator", data := .fields #[.ref t, .int 0 0] } : Obj) = o
  generalize ee : ({ cls := .type "enumerate", data := .fields #[.none, .bool false, .ref s.heap.objs.size, rawInt 0, .none, .none] } : Obj) = en
  have fo : o.isFreed = false := by rw [← eo]; rfl
  have fe : en.isFreed = false := by rw [← ee]; rfl
  have hz : (s.heap.push o).objs.size = s.heap.objs.size + 1 := Heap.size_push ..
  have he : ((s.heap.push o).push en).get? (s.heap.objs.size + 1) = some en := by
    have := Heap.get?_push_size (s.heap.push o) (o := en) fe
    rw [hz] at this; exact this
  rw [hz]
  refine ⟨⟨en, he, by rw [← ee]⟩, h _ (by rw [← ee]; rw [← ee] at he; exact he) ⟨o, Heap.get?_push_of_some _ (Heap.get?_push_size _ fo), by rw [← eo], by rw [← eo]; rfl⟩ fun b o x => Heap.get?_push_of_some _ (Heap.get?_push_of_some _ x)⟩
/-- the tuple at a as it stands at each turn, each item in a new pair -/
def IteT (K : PySem.W.Frag) (a : Addr) : It :=
  ⟨fun i H => ∃ (xs : List V) (x : V), SqT K H a xs ∧ xs[i]? = some x, fun i H v H' => ∃ T x, v = .ref T ∧ H T = none ∧ H' = upd H T (.tup [.int (i : Nat), x]) ∧ ∀ xs, SqT K H a xs → xs[i]? = some x, fun i H => ∃ xs : List V, SqT K H a xs ∧ xs.length = i⟩
theorem ty_ne {a b : String} (h : a ≠ b) : Value.type a ≠ Value.type b := fun z => h (Value.type.inj z)
theorem turn_enumT {P : Program} {w : World} {K : PySem.W.Frag} {elts : List Expr} {kk : Nat} {tpos : Pos} (a e it : Addr) :
    Turn P w K (.Tuple elts kk tpos) (IteT K a) [e, it] e (fun i h => (∃ old, IsEnum h e it ((i : Nat) : Int) old) ∧ h.IsTupleIter it a i ∧ e ≠ it) where
  mem := List.mem_cons_self
  obj := fun i h st b hb => by
    obtain ⟨⟨old, he⟩, ⟨o, ho, hc, hd⟩, _⟩ := st
    rcases List.mem_cons.mp hb with z | z
    · rw [z]; exact ⟨_, he, fun v q => nomatch q⟩
    · rw [List.mem_singleton.mp z]; exact ⟨o, ho, fun v q => by rw [hd] at q; cases q⟩
  keep := fun i h h' ⟨⟨old, he⟩, hi, hne⟩ k => ⟨⟨old, k e List.mem_cons_self _ he⟩, hi.at fun o q => k it (List.mem_cons_of_mem _ List.mem_cons_self) o q, hne⟩
  item := by
    intro X hP hw hK hc i pins s σ H E I hf st hg
    subst hP hw hK
    obtain ⟨⟨old, he⟩, hit, hne⟩ := st
    obtain ⟨xs, x, hq, hx⟩ := hg
    obtain ⟨its, rv, p, hz⟩ := I.tuple hq
    have p' : s.heap.IsTuple a its.toArray := p
    obtain ⟨u, hu, ru⟩ := rv.get hx
    have hea : e ≠ a := fun z => by
      obtain ⟨o, ho, hc', _⟩ := id p'
      rw [← z, he] at ho
      cases ho
      exact ty_ne (by decide) hc'
    have hia : a ≠ it := fun z => by
      obtain ⟨o, ho, hc', _⟩ := id p'
      obtain ⟨o2, ho2, hc2, _⟩ := id hit
      rw [z, ho2] at ho
      cases ho
      rw [hc2] at hc'
      exact ty_ne (by decide) hc'
    have hel : e < s.heap.objs.size := Heap.lt_size he
    have hil : it < s.heap.objs.size := by obtain ⟨_, q, _⟩ := hit; exact Heap.lt_size q
    have hui : its.toArray[i]? = some u := by simpa using hu
    have D := Draws.tuple (prog := X.prog) (w := X.w) (A := X.A.in1) (I.ok.hd hc) it a hia its.toArray
    refine wpAny_pyNext_enum_itemD D he ⟨hit, p'⟩ (Array.getElem?_eq_some_iff.mp hui).1 hne (fun z => ?_) fun x' h' tk hP ho st' hT hsz hk => ?_
    · rcases List.mem_cons.mp z with z | z
      · exact hne z
      · exact hea (List.mem_singleton.mp z)
    have eu : x' = u := Option.some.inj (hP.symm.trans hui)
    subst eu
    refine ⟨_, rfl, wpAny_letOwnedTupleGo_enum (s := { s with heap := h', toks := tk + 1 }) ho fun h2 he' sb => ?_⟩
    have hT2 : h2.get? s.heap.objs.size = some { cls := .type "tuple", data := .seq #[.int i tk, x'] } := (sb.2 _ (Nat.ne_of_gt hel)).trans hT
    have new : ObjOk X.prog X.w (upd H s.heap.objs.size (.tup [.int (i : Nat), x])) h2 s.heap.objs.size (.tup [.int (i : Nat), x]) :=
      ⟨by show 2 ≤ sizeLine; decide, [.int i tk, x'], .cons ⟨_, rfl⟩ (.cons ru .nil), ⟨_, hT2, rfl, _, rfl⟩⟩
    have I1 : Inv X pins σ (upd H s.heap.objs.size (.tup [.int (i : Nat), x])) { s with heap := h2, toks := tk + 1 } :=
      I.turnedNew (ch := [e, it]) (fun b ob hb q => (sb.2 b (fun z => hb (z ▸ List.mem_cons_self))).trans (hk b ob (fun z => hb (z ▸ List.mem_cons_self)) (fun z => hb (z ▸ List.mem_cons_of_mem _ List.mem_cons_self)) q)) hf (Nat.le_refl _) new
    refine ⟨.ref s.heap.objs.size, _, I1, rfl, ⟨_, x, rfl, I.hok.fresh (Nat.le_refl _), rfl, fun ys hy => by rw [I.tuple_inj hy hq]; exact hx⟩, ⟨⟨x', ?_⟩, st'.1.at fun o q => (sb.2 it (Ne.symm hne)).trans q, hne⟩, fun b hb => ?_⟩
    · have e1 : ((i + 1 : Nat) : Int) = (i : Int) + 1 := by omega
      rw [e1]
      exact he'
    · have hb' : b < s.heap.objs.size := by
        rcases List.mem_cons.mp hb with z | z
        · rw [z]; exact hel
        · rw [List.mem_singleton.mp z]; exact hil
      rw [upd_ne (Nat.ne_of_lt hb')]
      exact (hf b hb).1
  done := by
    intro X hP hw hK hc i pins s σ H E I hf st hg
    subst hP hw hK
    obtain ⟨⟨old, he⟩, hit, hne⟩ := st
    obtain ⟨xs, hq, hx⟩ := hg
    obtain ⟨its, rv, p, hz⟩ := I.tuple hq
    have p' : s.heap.IsTuple a its.toArray := p
    have hia : a ≠ it := fun z => by
      obtain ⟨o, ho, hc', _⟩ := id p'
      obtain ⟨o2, ho2, hc2, _⟩ := id hit
      rw [z, ho2] at ho
      cases ho
      rw [hc2] at hc'
      exact ty_ne (by decide) hc'
    have hn : its.toArray.size = i := by
      have := rv.length
      rw [List.size_toArray]
      omega
    obtain ⟨f0, f1, f2, f3, f4, f5⟩ := hf it (List.mem_cons_of_mem _ List.mem_cons_self)
    have D := Draws.tuple (prog := X.prog) (w := X.w) (A := X.A.in1) (I.ok.hd hc) it a hia its.toArray
    exact wpAny_pyNext_enum_endD D he ⟨by rw [hn]; exact hit, p'⟩ fun h' eb => ⟨rfl, I.turned (t' := s.toks) (fun b o hb q => eb b o hb q) f0 f1 f3 f4 f5⟩
  self := fun A i s Q E st h => let ⟨⟨_, he⟩, _⟩ := st; wpAny_pyIter_enum he h
theorem enum_walk {K : PySem.W.Frag} {H : Hp} {a : Addr} {xs : List V} (h : Sq K H a xs) {R : It → Hp → Prop} (hR : ∀ J, Walk J xs.length (fun H' => Same H H') (YPair (fun i => some (.int (i : Nat))) (fun i => xs[i]?)) → R J H) :
    ((∃ xs, SqL K H a xs) ∧ R (Ite K a) H) ∨ ((∃ xs, SqT K H a xs) ∧ R (IteT K a) H) := by
  rcases h with h | h
  · exact .inl ⟨⟨_, h⟩, hR _ (walk_enum.mono (fun H' s => s.seq h) fun _ _ _ _ _ _ y => y)⟩
  · refine .inr ⟨⟨_, h⟩, hR _ ⟨fun i H' hi s => ⟨xs, xs[i], Same.seqT s h, by simp [hi]⟩, fun H' s => ⟨xs, Same.seqT s h, rfl⟩, fun i H' x H2 hi s y => ?_⟩⟩
    obtain ⟨T, z, e1, e2, e3, e4⟩ := y
    exact ⟨T, _, z, e1, e2, e3, rfl, e4 xs (Same.seqT s h)⟩
/-- enumerate(a list or a tuple) -/
def iEnumS (K : PySem.W.Frag) (ta : TA) : TI := fun σ H R => ta σ H fun vs H1 => ∃ a xs, vs = [.ref a] ∧ Sq K H1 a xs ∧ ∀ J, Walk J xs.length (fun H' => Same H1 H') (YPair (fun i => some (.int (i : Nat))) (fun i => xs[i]?)) → R J H1
theorem pi_enumS {X : Cx} {e : Expr} {ta : TA} {p pos tpos : Pos} {elts : List Expr} {kk : Nat} (hg : Gl X "enumerate") (hm : X.mg "enumerate" = none) (ha : PA X [e] ta) (hs : starEach [e] X.env = [(false, eval e X.env)] := by rfl) :
    PI X (.Tuple elts kk tpos) (.Call (.Name "enumerate" p) [e] [] pos) (iEnumS X.K ta) := by
  refine ⟨fun pins s σ H R I h => ?_⟩
  refine Call_ (ld_blt I hg hm boot_enumerate (PyProof.Rows.callWith_type1 (thn (ha.run pos pins s σ H _ I h) fun us s1 ⟨vs, H1, I1, r1, q1⟩ => ?_) hs rfl))
  obtain ⟨a, xs0, ex, hs1, q1⟩ := q1
  subst ex
  have q1 := enum_walk hs1 q1
  cases r1 with
  | cons r rr =>
    cases rr
    cases r
    have fresh : ∀ {H2 : Hp}, ∀ b ∈ [s1.heap.objs.size + 1, s1.heap.objs.size], s1.heap.objs.size ≤ b := fun b hb => by
      rcases List.mem_cons.mp hb with z | z
      · rw [z]; exact Nat.le_add_right _ _
      · rw [List.mem_singleton.mp z]; exact Nat.le_refl _
    rcases q1 with ⟨⟨xs, hq⟩, q⟩ | ⟨⟨xs, hq⟩, q⟩
    · obtain ⟨its, rv, p', hz⟩ := I1.list hq
      refine call_enumerate_list p'.isList fun h' he hit hsz hk => wpAny_pyIter_enum he ?_
      have I2 : Inv X pins σ H1 { s1 with heap := h' } := I1.kept (t' := s1.toks) hk
      exact ⟨s1.heap.objs.size + 1, [s1.heap.objs.size + 1, s1.heap.objs.size], _, _, H1, rfl, I2, turn_enum a (s1.heap.objs.size + 1) s1.heap.objs.size, ⟨⟨.none, he⟩, hit, Nat.succ_ne_self _⟩, fun b hb => I1.fpOk (fresh (H2 := H1) b hb) (I1.hok.fresh (fresh (H2 := H1) b hb)), q⟩
    · obtain ⟨its, rv, p', hz⟩ := I1.tuple hq
      refine enumT_begins (show s1.heap.IsTuple a its.toArray from p') fun h' he hit hk => wpAny_pyIter_enum he ?_
      have I2 : Inv X pins σ H1 { s1 with heap := h' } := I1.kept (t' := s1.toks) hk
      exact ⟨s1.heap.objs.size + 1, [s1.heap.objs.size + 1, s1.heap.objs.size], _, _, H1, rfl, I2, turn_enumT a (s1.heap.objs.size + 1) s1.heap.objs.size, ⟨⟨.none, he⟩, hit, Nat.succ_ne_self _⟩, fun b hb => I1.fpOk (fresh (H2 := H1) b hb) (I1.hok.fresh (fresh (H2 := H1) b hb)), q⟩
/-! ### repr of data -/
theorem call_reprD {X : Cx} (hg : X.A.guards = some []) (hu : X.A.units + 64 < cLine) : CallR X (.builtin "repr") (fun xs H Q => ∃ a d, xs = [.ref a] ∧ Dp X.K H (.ref a) d ∧ d.showable = true ∧ d.hasDict = false ∧ d.depth ≤ 32 ∧ d.shown.length ≤ sizeLine ∧ Q (.str d.shown) H) := by
  intro pins s σ H xs us Q I r h
  obtain ⟨a, d, rfl, hd, hs, hn, hp, hz, q⟩ := h
  cases r with
  | cons ra rr =>
    cases rr
    cases ra
    obtain ⟨as, r1⟩ := Dp.reads I d _ _ hd (show RelV (V.ref a) (Value.ref a) from rfl)
    exact repr_of_reads' r1 hs (fun z => by rw [hn] at z; cases z) hg (by omega) (fun b o e => e) (fun h' u tk hk => ⟨.str d.shown, H, I.kept (t' := tk) hk, ⟨u, rfl⟩, q⟩) hz
/-! ### LeapfitError.__init__(self, ..), read off an own class that has none -/
theorem pe_clsinit {X : Cx} {e : Expr} {es : List Expr} {ta : TA} {x : Str} {p1 p2 pos : Pos} {CL : Addr} {mc : Value} {pl : Sem Bool} (hg : Gl X x) (hm : X.mg x = some (.ref CL))
    (rd : PySem.W.readsIn X.K CL mc = true) (sg : PySem.W.specialIn X.K (.ref CL) "__getattribute__" = some (some (.builtin "type.__getattribute__")))
    (fc : PySem.W.findCls X.K (.ref CL) mc "__init__" = some (.val (.builtin "ValueError.__init__"))) (ha : PA X (e :: es) ta) (hdb : (x == ("__debug__" : Str)) = false := by decide)
    (hc : eval (.Call (.Attribute (.Name x p1) "__init__" p2) (e :: es) [] pos) X.env = (do
      let ov ← eval (.Name x p1) X.env
      standAt p2.atName
      let (f, first) ← holding [ov] (getMethod ov "__init__" pl)
      callWith pos f first (backTo pos (starEach (e :: es) X.env)) (backToKw pos (keywordEach [] X.env))) := by rfl)
    (he : starEach (e :: es) X.env = (false, eval e X.env) :: starEach es X.env := by rfl) (hpl : (backTo pos (starEach es X.env)).any (·.1) = false := by rfl) :
    PE X (.Call (.Attribute (.Name x p1) "__init__" p2) (e :: es) [] pos) (tVeI X.K ta) := by
  refine ⟨fun pins s σ H Q I h => PySem.W.methodCall_KW (ld_glob I hg hm ?_ hdb) hc⟩
  refine PySem.W.method_cls I.kIn sg (PySem.W.cls_value I.kIn rd fc (by decide +kernel) ?_)
  show wpAny _ _ (callWith pos (Value.builtin "ValueError.__init__") [] (backTo pos (starEach (e :: es) X.env)) []) _ _ _
  refine PyProof.Rows.callWith_method1 (thn (ha.run pos pins _ σ H _ (I.tok _) h) fun us s1 ⟨vs, H1, I1, r1, a, C, ws, ev, hl, T, ea, q⟩ => ?_) he hpl
  subst ev
  cases r1 with
  | @cons _ u0 _ ur ra rw' =>
    obtain rfl : u0 = Value.ref a := ra
    refine oinit_ok T I1 ea ?_ fun s' J => ⟨.non, H1, J, rfl, q⟩
    rw [← Paired.length rw', sizeLine_eq]
    omega
/-! ### a target o.f -/
def gFld (K : PySem.W.Frag) (to : TE) (f : Str) : TG := fun v σ H Q => to σ H fun x H1 => ∃ a C dx fs, x = .ref a ∧ H1 a = some (.ins C dx fs) ∧ Cls K C ∧ NoAttr K C f ∧ fs.length < 1000 ∧ Q σ (upd H1 a (.ins C dx (putF f v fs)))
theorem pg_fld {X : Cx} {o : Expr} {to : TE} {f : Str} {pos : Pos} (ho : PE X o to)
    (ha : ∀ v, assign (.Attribute o f pos) X.env v = (do
      let ov ← holding [v] (eval o X.env)
      standAt pos.atName
      holding [v, ov] (setAttr ov f v)
      release [v, ov] []) := by intro _; rfl) : PG X (.Attribute o f pos) (gFld X.K to f) := by
  refine ⟨fun pins s σ H v u Q I r h => ?_⟩
  rw [ha]
  refine wpAny_bind (wpAny_holding (thn (ho.run pins s σ H _ I h) fun ov s1 ⟨x, H1, I1, rx, a, C, dx, fs, ex, ea, c, n, l, q⟩ => ?_))
  subst ex
  obtain rfl : ov = Value.ref a := rx
  refine wpAny_bind (wpAny_standAt ?_)
  refine wpAny_bind (wpAny_holding (setattr_ok I1 ea c n l r fun s2 I2 => ?_))
  exact wpAny_release ⟨σ, _, I2, q⟩
/-! ### == [], != [] of lists of anything -/
theorem eqNil {X : Cx} {pins : List (Addr × Obj)} {s : Shared} {σ : L2.St} {H : Hp} {a b : Addr} {xs : List V} (I : Inv X pins σ H s) (ha : SqL X.K H a xs) (hb : SqL X.K H b []) (hu : X.A.units < cLine) : SeqAt.RcAt X.A s (.ref a) (.ref b) xs.isEmpty := by
  obtain ⟨its, rv, p, hz⟩ := I.list ha
  obtain ⟨its2, rv2, p2, _⟩ := I.list hb
  cases rv2
  cases rv with
  | nil =>
    have := SeqAt.RcAt.lists (A := X.A) (s := s) (e := fun _ => true) p.isList p2.isList rfl hu (fun j h1 h2 => by simp at h1)
    exact this
  | cons r t => exact SeqAt.RcAt.lists_lengths p.isList p2.isList (by simp) hu
theorem neNil {X : Cx} {pins : List (Addr × Obj)} {s : Shared} {σ : L2.St} {H : Hp} {a b : Addr} {xs : List V} (I : Inv X pins σ H s) (ha : SqL X.K H a xs) (hb : SqL X.K H b []) (hu : X.A.units < cLine) : SeqAt.RcNeAt X.A s (.ref a) (.ref b) (!xs.isEmpty) := by
  obtain ⟨its, rv, p, hz⟩ := I.list ha
  obtain ⟨its2, rv2, p2, _⟩ := I.list hb
  cases rv2
  cases rv with
  | nil =>
    have := SeqAt.RcNeAt.lists (A := X.A) (s := s) (e := fun _ => true) p.isList p2.isList rfl hu (fun j h1 h2 => by simp at h1)
    exact this
  | cons r t => exact SeqAt.RcNeAt.lists_lengths p.isList p2.isList (by simp) hu
def rNil (K : PySem.W.Frag) (neg : Bool) : R2 := fun x y H Q => ∃ a b xs, x = .ref a ∧ y = .ref b ∧ SqL K H a xs ∧ SqL K H b [] ∧ Q (.bl (if neg then !xs.isEmpty else xs.isEmpty)) H
theorem op_eqNil {X : Cx} (hu : X.A.units < cLine) : OpR X (compareOp .Eq) (rNil X.K false) := by
  intro pins s σ H x y v u Q I rx ry h
  obtain ⟨a, b, xs, rfl, rfl, ha, hb, q⟩ := h
  cases rx
  cases ry
  exact eqNil I ha hb hu X.prog X.w _ _ ⟨.bl _, H, I, rfl, q⟩
theorem op_neNil {X : Cx} (hu : X.A.units < cLine) : OpR X (compareOp .NotEq) (rNil X.K true) := by
  intro pins s σ H x y v u Q I rx ry h
  obtain ⟨a, b, xs, rfl, rfl, ha, hb, q⟩ := h
  cases rx
  cases ry
  exact neNil I ha hb hu X.prog X.w _ _ ⟨.bl _, H, I, rfl, q⟩
/-! ### isinstance(e, T) of a caught error with a dict of its own -/
def rIsX (K : PySem.W.Frag) (D a : Addr) (cls : Value) (d : Option Addr) : List V → Hp → VK → Prop := fun xs H Q => ∃ (T : String) (b : Bool) (dd : Addr) (fs : List (Str × V)), xs = [.ref a, .ty T] ∧ cls = .ref D ∧ d = some dd ∧ H dd = some (.xd fs) ∧ PySem.W.kitOne K (.ref D) (.type T) = some b ∧ Q (.bl b) H
theorem call_isX {X : Cx} {a D : Addr} {cls : Value} {d : Option Addr} {oe : Obj} {pn : List (Addr × Obj)} (hcl : (PySem.W.clsIn X.K D).isSome = true) (hga : PySem.W.findIn X.K (.ref D) "__getattribute__" = some (some (.builtin "BaseException.__getattribute__"))) (hgt : PySem.W.findIn X.K (.ref D) "__getattr__" = some none)
    (hsub : PySem.W.subIn X.K (.ref D) (.type "BaseException") = some true) (ha : PySem.W.findIn X.K (.ref D) "__class__" = some (some (.builtin "object.__class__"))) (hn : PySem.W.specialIn X.K (.builtin "object.__class__") "__get__" = some (some (.builtin "getset_descriptor.__get__")))
    (htk : PySem.W.takesIn X.K (.builtin "object.__class__") = some true) (hm : PySem.W.mroIn X.K D (.type "object") = some true) (hz : Zc cls d oe) (hf : ∃ vs, oe.data = .fields vs) :
    CallR (X.suite a ((a, oe) :: pn)) (.builtin "isinstance") (rIsX X.K D a cls d) := by
  intro pins s σ H xs us Q I r h
  obtain ⟨T, b, dd, fs, rfl, rfl, rfl, hx, e, q⟩ := h
  cases r with
  | cons rx rr =>
    cases rr with
    | cons rt rr =>
      cases rr
      cases rx
      cases rt
      obtain ⟨hget, _⟩ := I.pin (a, oe) (List.mem_append_left _ List.mem_cons_self)
      obtain ⟨vs, hd⟩ := hf
      obtain ⟨mA, hns, _⟩ : ObjOk X.prog X.w H s.heap dd (.xd fs) := I.hok dd _ hx
      obtain ⟨od, ho, hl⟩ := lookIn_ns hns
      have J : PySem.W.InstAt s.heap a oe D (some od) := ⟨hget, hz.1, by unfold PySem.W.notCls; rw [hd] <;> rfl, by rw [hz.2]; exact ho⟩
      exact PySem.W.kia_one (PySem.W.kitx_exc hcl hga hgt hsub ha hn htk hm) I.kIn J e (fun z => nomatch z) fun tk => ⟨.bl b, H, I.kept (t' := tk) fun _ _ z => z, rfl, q⟩
end K67

set_option Elab.async false
set_option linter.all false
set_option maxRecDepth 100000
set_option maxHeartbeats 4000000
namespace K67
open PySem PySem.Spec PyProof.Rows L2
/-! ### the text by places -/
def top (i : Nat) : Stmt := PySem.Challenge.pw_leapfit_k67_whole_counts_between_are_att.main.body.getD i (.Pass ⟨0, 0, 0, 0⟩)
/-! ### what the top has written: the built-ins stand, two constants -/
structure Txt (K : PySem.W.Frag) (mg : Str → Option Value) : Prop where
  isinstance : mg "isinstance" = none
  int : mg "int" = none
  bool : mg "bool" = none
  list : mg "list" = none
  tuple : mg "tuple" = none
  len : mg "len" = none
  all : mg "all" = none
  str : mg "str" = none
  enumerate : mg "enumerate" = none
  abs : mg "abs" = none
  max : mg "max" = none
  min : mg "min" = none
  sorted : mg "sorted" = none
  zip : mg "zip" = none
  range : mg "range" = none
  repr : mg "repr" = none
  verr : mg "ValueError" = none
  most : ∃ t, mg "MOST_ITEMS" = some (.int 200 t)
  bounds : ∃ a o n t1 t2, mg "BOUNDS" = some (.ref a) ∧ K.lookup a = some o ∧ o.cls = .type "tuple" ∧ o.data = .seq #[.str "at least" t1, .str "at most" t2] n
/-- a def of the text that keeps its promise, called by its name -/
def Can (P : Program) (w : World) (K : PySem.W.Frag) (mg : Str → Option Value) (base : Heap) (x : Str) (k : Nat) (ps : List Str) (sp : Sp) : Prop :=
  ∃ (f : Addr) (fd : FuncData), mg x = some (.ref f) ∧ PySem.W.keepIn K (.ref f) = true ∧ Binds K fd ps [] ∧ FnOk P w K mg base CX0 k f fd ps sp
/-- a def as it stands behind the top -/
structure Df (K : PySem.W.Frag) (mg : Str → Option Value) (x : Str) (st : Stmt) (ps : List Str) (f : Addr) (fd : FuncData) : Prop where
  fn : Fun K x x st f fd
  mg : mg x = some (.ref f)
  bd : Binds K fd ps []
theorem Df.can {P : Program} {w : World} {K : PySem.W.Frag} {mg : Str → Option Value} {base : Heap} {x : Str} {st : Stmt} {k : Nat} {ps : List Str} {f : Addr} {fd : FuncData} {sp : Sp} (D : Df K mg x st ps f fd) (F : FnOk P w K mg base CX0 k f fd ps sp) :
    Can P w K mg base x k ps sp := ⟨f, fd, D.mg, D.fn.kp, D.bd, F⟩
theorem pe_can {X : Cx} {x : Str} {k : Nat} {ps : List Str} {sp : Sp} {e : Expr} {es : List Expr} {t : TA} {p pos : Pos} (C : Can X.prog X.w X.K X.mg X.base x k ps sp) (hr : Room k X.A) (ha : PA X (e :: es) t) (hg : Gl X x := by rfl)
    (hdb : (x == ("__debug__" : Str)) = false := by decide) (he : starEach (e :: es) X.env = (false, eval e X.env) :: starEach es X.env := by rfl) (hpl : (backTo pos (starEach es X.env)).any (·.1) = false := by rfl) :
    PE X (.Call (.Name x p) (e :: es) [] pos) (tCall sp [] E0 t) := by
  obtain ⟨f, fd, h1, h2, h3, h4⟩ := C
  exact pe_call h4 hr hg h1 h2 h3 .nil pass0 ha hdb he hpl
theorem Can.mono {P : Program} {w : World} {K : PySem.W.Frag} {mg : Str → Option Value} {base : Heap} {x : Str} {j k : Nat} {ps : List Str} {sp : Sp} (C : Can P w K mg base x j ps sp) (h : j ≤ k) : Can P w K mg base x k ps sp := by
  obtain ⟨f, fd, h1, h2, h3, h4⟩ := C
  exact ⟨f, fd, h1, h2, h3, h4.mono h⟩
/-- a built-in class as a value -/
theorem pe_ty {X : Cx} {x : Str} {T : String} {pos : Pos} (hm : X.mg x = none) (hg : Gl X x := by rfl) (hv : bootBuiltins x = some (.type T) := by decide +kernel) (hn : x ≠ "__name__" := by decide) (hd : (x == ("__debug__" : Str)) = false := by decide) :
    PE X (.Name x pos) (tC (.ty T)) := pe_bltn hg hm hv rfl hn hd
/-- isinstance(e, T) -/
theorem pe_isi {X : Cx} {a b : Expr} {ta tb : TE} {p pos : Pos} (hm : X.mg "isinstance" = none) (ha : PE X a ta) (hb : PE X b tb) (hg : Gl X "isinstance" := by rfl)
    (s1 : starEach [a, b] X.env = (false, eval a X.env) :: starEach [b] X.env := by rfl) (s2 : starEach [b] X.env = (false, eval b X.env) :: starEach [] X.env := by rfl) (hpl : (backTo pos (starEach [b] X.env)).any (·.1) = false := by rfl) :
    PE X (.Call (.Name "isinstance" p) [a, b] [] pos) (tCB (rIsi X.K) (tCons ta (tCons tb tNil))) :=
  pe_callB call_isi hg hm (by decide +kernel) (pa_cons ha (pa_cons hb pa_nil s2) s1) (by decide) (by decide) s1 hpl
theorem pe_isiT {X : Cx} {a b : Expr} {ta tb : TE} {p pos : Pos} (hm : X.mg "isinstance" = none) (ha : PE X a ta) (hb : PE X b tb) (hg : Gl X "isinstance" := by rfl)
    (s1 : starEach [a, b] X.env = (false, eval a X.env) :: starEach [b] X.env := by rfl) (s2 : starEach [b] X.env = (false, eval b X.env) :: starEach [] X.env := by rfl) (hpl : (backTo pos (starEach [b] X.env)).any (·.1) = false := by rfl) :
    PE X (.Call (.Name "isinstance" p) [a, b] [] pos) (tCB (rIsiT X.K) (tCons ta (tCons tb tNil))) :=
  pe_callB call_isiT hg hm (by decide +kernel) (pa_cons ha (pa_cons hb pa_nil s2) s1) (by decide) (by decide) s1 hpl
/-- len of a list or tuple -/
theorem pe_len {X : Cx} {a : Expr} {ta : TE} {p pos : Pos} (hm : X.mg "len" = none) (ha : PE X a ta) (hg : Gl X "len" := by rfl) (s1 : starEach [a] X.env = (false, eval a X.env) :: starEach [] X.env := by rfl) (hpl : (backTo pos (starEach [] X.env)).any (·.1) = false := by rfl) :
    PE X (.Call (.Name "len" p) [a] [] pos) (tCB (fun xs H Q => ∃ p ys, xs = [.ref p] ∧ (SqL X.K H p ys ∨ SqT X.K H p ys) ∧ Q (.int ys.length) H) (tCons ta tNil)) :=
  pe_callB call_len_seq hg hm PySem.boot_len (pa_cons ha pa_nil s1) (by decide) (by decide) s1 hpl
/-! ### data on the heap -/
def kindS (b : Bool) : Str := if b = true then "at least" else "at most"
/-- a tracked list or tuple -/
def Tq (H : Hp) (a : Addr) (xs : List V) : Prop := H a = some (.lst xs) ∨ H a = some (.tup xs)
theorem Tq.sq {K : PySem.W.Frag} {H : Hp} {a : Addr} {xs : List V} (h : Tq H a xs) : Sq K H a xs := h.imp SqL.of SqT.of
theorem Tq.same {H H' : Hp} {a : Addr} {xs : List V} (e : Same H H') (h : Tq H a xs) : Tq H' a xs := h.imp (e _ _) (e _ _)
/-- v is a tuple of these values -/
def TupV (H : Hp) (v : V) (xs : List V) : Prop := ∃ a, v = .ref a ∧ H a = some (.tup xs)
def recL (r : Rec) : List V := [.str (kindS r.lo), .int r.t, .int r.n]
def RecV (H : Hp) (v : V) (r : Rec) : Prop := TupV H v (recL r)
def RecsV (H : Hp) : List V → List Rec → Prop := Paired (RecV H)
theorem TupV.same {H H' : Hp} {v : V} {xs : List V} (e : Same H H') (h : TupV H v xs) : TupV H' v xs := by
  obtain ⟨a, h1, h2⟩ := h
  exact ⟨a, h1, e _ _ h2⟩
theorem paired_mono {α β : Type} {F G : α → β → Prop} (h : ∀ a b, F a b → G a b) : ∀ {xs : List α} {ys : List β}, Paired F xs ys → Paired G xs ys
  | _, _, .nil => .nil
  | _, _, .cons r t => .cons (h _ _ r) (paired_mono h t)
theorem RecsV.same {H H' : Hp} {vs : List V} {rs : List Rec} (e : Same H H') (h : RecsV H vs rs) : RecsV H' vs rs := paired_mono (fun _ _ => TupV.same e) h
theorem paired_at {α β : Type} {F : α → β → Prop} : ∀ {xs : List α} {ys : List β}, Paired F xs ys → ∀ {i : Nat} {x : α}, xs[i]? = some x → ∃ y, ys[i]? = some y ∧ F x y
  | _, _, .nil, i, x, h => by simp at h
  | _, _, .cons r t, 0, x, h => by simp at h; subst h; exact ⟨_, rfl, r⟩
  | _, _, .cons r t, i + 1, x, h => by
    obtain ⟨y, h1, h2⟩ := paired_at t (i := i) (x := x) (by simpa using h)
    exact ⟨y, by simpa using h1, h2⟩
theorem paired_len {α β : Type} {F : α → β → Prop} : ∀ {xs : List α} {ys : List β}, Paired F xs ys → xs.length = ys.length
  | _, _, .nil => rfl
  | _, _, .cons r t => by rw [List.length_cons, List.length_cons, paired_len t]
theorem paired_snoc {α β : Type} {F : α → β → Prop} {x : α} {y : β} (r : F x y) : ∀ {xs : List α} {ys : List β}, Paired F xs ys → Paired F (xs ++ [x]) (ys ++ [y])
  | _, _, .nil => .cons r .nil
  | _, _, .cons q t => .cons q (paired_snoc r t)
theorem paired_append {α β : Type} {F : α → β → Prop} : ∀ {xs xs' : List α} {ys ys' : List β}, Paired F xs ys → Paired F xs' ys' → Paired F (xs ++ xs') (ys ++ ys')
  | _, _, _, _, .nil, s => s
  | _, _, _, _, .cons q t, s => .cons q (paired_append t s)
/-- a list or a tuple of records -/
def RecsAt (H : Hp) (a : Addr) (rs : List Rec) : Prop := ∃ vs, Tq H a vs ∧ RecsV H vs rs
theorem RecsAt.same {H H' : Hp} {a : Addr} {rs : List Rec} (e : Same H H') (h : RecsAt H a rs) : RecsAt H' a rs := by
  obtain ⟨vs, h1, h2⟩ := h
  exact ⟨vs, h1.same e, h2.same e⟩
/-- a new thing is tracked -/
theorem Same.new {H : Hp} {p : Addr} {o : HO} (h : H p = none) : Same H (upd H p o) := fun b u e => by rw [upd_ne (ne_of_none e h)]; exact e
theorem Same.upd {H H' : Hp} {p : Addr} {o : HO} (s : Same H H') (h : H p = none) : Same H (upd H' p o) := fun b u e => by rw [upd_ne (ne_of_none e h)]; exact s _ _ e
/-! ### sizes -/
def Nb (n : Nat) (i : Int) : Prop := i.natAbs < 2 ^ n
theorem Nb.mono {n m : Nat} {i : Int} (h : Nb n i) (l : n ≤ m) : Nb m i := Nat.lt_of_lt_of_le h (Nat.pow_le_pow_right (by decide) l)
theorem Nb.add {n : Nat} {i j : Int} (a : Nb n i) (b : Nb n j) : Nb (n + 1) (i + j) := by
  unfold Nb at *
  rw [Nat.pow_succ]
  omega
theorem Nb.sub {n : Nat} {i j : Int} (a : Nb n i) (b : Nb n j) : Nb (n + 1) (i - j) := by
  unfold Nb at *
  rw [Nat.pow_succ]
  omega
theorem Nb.mul {n m : Nat} {i j : Int} (a : Nb n i) (b : Nb m j) : Nb (n + m) (i * j) := wide_lt a b
theorem Nb.div {n : Nat} {i j : Int} (a : Nb n i) (h : 0 < j) : Nb n (i / j) := by
  unfold Nb at *
  refine Nat.lt_of_le_of_lt ?_ a
  by_cases c : 0 ≤ i
  · have h1 : 0 ≤ i / j := Int.ediv_nonneg c (Int.le_of_lt h)
    have h2 : i / j ≤ i := Int.ediv_le_self _ c
    omega
  · have h1 : i / j < 0 := Int.ediv_neg_of_neg_of_pos (by omega) h
    have h2 : i ≤ i / j := by
      rw [Int.le_ediv_iff_mul_le h]
      have := Int.mul_nonneg (show 0 ≤ -i by omega) (show 0 ≤ j - 1 by omega)
      grind
    omega
theorem Nb.le {n : Nat} {i j : Int} (a : Nb n j) (h0 : 0 ≤ i) (h : i ≤ j) : Nb n i := by
  unfold Nb at *
  omega
theorem Nb.neg {n : Nat} {i : Int} (a : Nb n i) : Nb n (-i) := by
  unfold Nb at *
  omega
theorem Nb.cmul {n m : Nat} {i j : Int} (a : Nb n i) (b : Nb m j) (h : n + m ≤ 900000 := by decide) : CMulW i j := wide_mul (Nat.lt_of_lt_of_le a (Nat.pow_le_pow_right (by decide) (Nat.le_succ n))) (Nat.lt_of_lt_of_le b (Nat.pow_le_pow_right (by decide) (Nat.le_succ m))) (Nat.succ_pos _) (Nat.succ_pos _) (by omega)
theorem Nb.cdiv {n : Nat} {j : Int} (b : Nb n j) (h : 0 < j) (l : n ≤ 8900 := by decide) : CDivW 0 j := wide_div (i := 0) h (Nat.lt_of_lt_of_le b (Nat.pow_le_pow_right (by decide) (Nat.le_succ n))) (Nat.succ_pos _) (by omega)
section
variable {P : Program} {w : World} {K : PySem.W.Frag} {mg : Str → Option Value} {base : Heap}
/-! ### is_integer, is_list -/
def spIsInt : Sp := fun vs H Q _ => ∃ i : Int, vs = [.int i] ∧ Q (.bl true) H
theorem sc11 : FnScope ["value"] ["value"] (defScope (top 11)) := ⟨rfl, rfl, rfl, by decide +kernel, rfl, by decide +kernel, by decide +kernel⟩
theorem can_is_integer (T : Txt K mg) {f : Addr} {fd : FuncData} (D : Df K mg "is_integer" (top 11) ["value"] f fd) : Can P w K mg base "is_integer" 1 ["value"] spIsInt := by
  refine D.can (D.fn.ok sc11 (fun vs H Q E h => ?_) (fun cdv A outer s H vs Q E hr h => ?_))
  · obtain ⟨i, rfl, _⟩ := h
    rfl
  · obtain ⟨i, rfl, k⟩ := h
    refine ⟨_, pss_one (ps_ret (pe_and (pe_isi T.isinstance (pv 0) (pe_ty (T := "int") T.int)) (pe_one (pe_not (pe_isi T.isinstance (pv 0) (pe_ty (T := "bool") T.bool)))))), ?_⟩
    refine ⟨_, rfl, _, _, _, _, true, rfl, .ty _, .base (.int i), kit_ty (by decide +kernel), true, rfl, iteT ?_⟩
    refine ⟨_, rfl, _, _, _, _, false, rfl, .ty _, .base (.int i), kit_ty (by decide +kernel), false, rfl, ?_⟩
    exact k
def spIsList : Sp := fun vs H Q _ => ∃ (a : Addr) (xs : List V), vs = [.ref a] ∧ Tq H a xs ∧ ∀ H', Same H H' → Q (.bl true) H'
theorem sc12 : FnScope ["value"] ["value"] (defScope (top 12)) := ⟨rfl, rfl, rfl, by decide +kernel, rfl, by decide +kernel, by decide +kernel⟩
theorem can_is_list (T : Txt K mg) {f : Addr} {fd : FuncData} (D : Df K mg "is_list" (top 12) ["value"] f fd) : Can P w K mg base "is_list" 1 ["value"] spIsList := by
  refine D.can (D.fn.ok sc12 (fun vs H Q E h => ?_) (fun cdv A outer s H vs Q E hr h => ?_))
  · obtain ⟨a, xs, rfl, _⟩ := h
    rfl
  · obtain ⟨a, xs, rfl, hq, k⟩ := h
    refine ⟨_, pss_one (ps_ret (pe_isiT T.isinstance (pv 0) (pe_tup (pa_cons (pe_ty (T := "list") T.list) (pa_cons (pe_ty (T := "tuple") T.tuple) pa_nil))))), ?_⟩
    refine ⟨_, rfl, (by show 2 ≤ sizeLine; decide), fun p hp => ?_⟩
    have s1 : Same H (upd H p (.tup [.ty "list", .ty "tuple"])) := Same.new hp
    rcases hq with e | e
    · exact ⟨_, p, _, _, [.type "list", .type "tuple"], true, rfl, upd_same, .cons (.ty _) (.cons (.ty _) .nil), .base (.lst (s1 _ _ e)), kitAny_cons (b := true) (kit_ty (by decide +kernel)) (fun z => by cases z) (fun _ => rfl), k _ s1⟩
    · exact ⟨_, p, _, _, [.type "list", .type "tuple"], true, rfl, upd_same, .cons (.ty _) (.cons (.ty _) .nil), .base (.tup (s1 _ _ e)), kitAny_cons (b := false) (kit_ty (by decide +kernel)) (fun _ => kitAny_cons (b := true) (kit_ty (by decide +kernel)) (fun z => by cases z) (fun _ => rfl)) (fun z => by cases z), k _ s1⟩
/-! ### common_divisor, is_reduced -/
theorem gcd_step {a b : Int} (hb : 0 < b) : Int.gcd b (a % b) = Int.gcd a b := by
  have e : a = a % b + b * (a / b) := (Int.emod_add_mul_ediv a b).symm
  have h : Int.gcd (a % b + b * (a / b)) b = Int.gcd (a % b) b := Int.gcd_add_mul_left_left ..
  rw [← e] at h
  rw [Int.gcd_comm, h]
def spGcd : Sp := fun vs H Q _ => ∃ a b : Int, vs = [.int a, .int b] ∧ 0 ≤ a ∧ 0 ≤ b ∧ Q (.int (Int.gcd a b : Nat)) H
theorem sc13 : FnScope ["one", "other"] ["one", "other"] (defScope (top 13)) := ⟨rfl, rfl, rfl, by decide +kernel, rfl, by decide +kernel, by decide +kernel⟩
theorem can_common_divisor {f : Addr} {fd : FuncData} (D : Df K mg "common_divisor" (top 13) ["one", "other"] f fd) : Can P w K mg base "common_divisor" 1 ["one", "other"] spGcd := by
  refine D.can (D.fn.ok sc13 (fun vs H Q E h => ?_) (fun cdv A outer s H vs Q E hr h => ?_))
  · obtain ⟨a, b, rfl, _⟩ := h
    rfl
  · obtain ⟨a, b, rfl, ha, hb, k⟩ := h
    refine ⟨_, pss_cons (ps_while PassesOwn.never (pt_cmpR op_gt (pv 1) pe_int (nomark _)) (pss_one (ps_par (i := 0) (j := 1) (by rfl) sc13.nd rfl rfl (by decide) rfl rfl (pa_cons (pv 1) (pa_cons (pe_op op_mod (pv 0) (pv 1)) pa_nil)) (by rfl))))
      (pss_one (ps_ret (pv 0))), ?_⟩
    refine ⟨fun m σ H' => ∃ x y : Int, σ = [some (.int x), some (.int y)] ∧ H' = H ∧ 0 ≤ x ∧ 0 ≤ y ∧ Int.gcd x y = Int.gcd a b ∧ m = y.toNat, ⟨_, a, b, rfl, rfl, ha, hb, rfl, rfl⟩, ?_⟩
    rintro m σ H' ⟨x, y, rfl, rfl, hx, hy, hg, rfl⟩
    refine ⟨_, rfl, _, _, rfl, rfl, _, rfl, ite2 (fun c => ?_) (fun c => ?_)⟩
    · have c := of_decide_eq_true c
      refine ⟨_, fun σ' H2 h => h, ?_⟩
      refine ⟨_, rfl, _, rfl, _, rfl, _, _, rfl, rfl, c, _, _, rfl, ?_⟩
      have h1 := Int.emod_nonneg x (show y ≠ 0 by omega)
      have h2 := Int.emod_lt_of_pos x c
      exact ⟨_, (by omega : (x % y).toNat < y.toNat), y, x % y, rfl, rfl, hy, h1, by rw [gcd_step c, hg], rfl⟩
    · have c : ¬ 0 < y := fun z => c (decide_eq_true z)
      have e : y = 0 := by omega
      subst e
      refine ⟨_, rfl, ?_⟩
      have e2 : (Int.gcd a b : Int) = x := by
        rw [← hg, Int.gcd_zero_right]
        omega
      rw [← e2]
      exact k
def spReduced : Sp := fun vs H Q _ => ∃ p q : Int, vs = [.int p, .int q] ∧ 0 ≤ p ∧ 0 < q ∧ Int.gcd p q = 1 ∧ Q (.bl true) H
theorem sc14 : FnScope ["p", "q"] ["p", "q"] (defScope (top 14)) := ⟨rfl, rfl, rfl, by decide +kernel, rfl, by decide +kernel, by decide +kernel⟩
theorem can_is_reduced {f : Addr} {fd : FuncData} (D : Df K mg "is_reduced" (top 14) ["p", "q"] f fd) (C1 : Can P w K mg base "common_divisor" 1 ["one", "other"] spGcd) : Can P w K mg base "is_reduced" 2 ["p", "q"] spReduced := by
  refine D.can (D.fn.ok sc14 (fun vs H Q E h => ?_) (fun cdv A outer s H vs Q E hr h => ?_))
  · obtain ⟨a, b, rfl, _⟩ := h
    rfl
  · obtain ⟨p, q, rfl, hp, hq, hg, k⟩ := h
    refine ⟨_, pss_one (ps_ret (pe_and (pe_cmpR op_ge (pv 0) pe_int (nomark _)) (pe_and (pe_cmpR op_ge (pv 1) pe_int (nomark _)) (pe_one (pe_cmpR op_eq (pe_can C1 hr (pa_cons (pv 0) (pa_cons (pv 1) pa_nil))) pe_int (nomark _)))))), ?_⟩
    refine ⟨_, rfl, _, _, rfl, rfl, true, congrArg V.bl (decide_eq_true hp), iteT ?_⟩
    refine ⟨_, rfl, _, _, rfl, rfl, true, congrArg V.bl (decide_eq_true (show (1 : Int) ≤ q from hq)), iteT ?_⟩
    refine ⟨_, rfl, _, rfl, p, q, rfl, hp, Int.le_of_lt hq, rfl, ?_⟩
    rw [hg]
    exact k
end
end K67

set_option Elab.async false
set_option linter.all false
set_option maxRecDepth 100000
set_option maxHeartbeats 4000000
namespace K67
open PySem PySem.Spec PyProof.Rows L2
section
variable {P : Program} {w : World} {K : PySem.W.Frag} {mg : Str → Option Value} {base : Heap}
/-! ### is_rate -/
def spIsRate : Sp := fun vs H Q _ => ∃ (a : Addr) (p q : Int), vs = [.ref a] ∧ H a = some (.tup [.int p, .int q]) ∧ 0 ≤ p ∧ 0 < q ∧ Int.gcd p q = 1 ∧ ∀ H', Same H H' → Q (.bl true) H'
theorem sc15 : FnScope ["value", "part"] ["value"] (defScope (top 15)) := ⟨rfl, rfl, rfl, by decide +kernel, rfl, by decide +kernel, by decide +kernel⟩
theorem can_is_rate (T : Txt K mg) {f : Addr} {fd : FuncData} (D : Df K mg "is_rate" (top 15) ["value"] f fd) (C1 : Can P w K mg base "is_integer" 1 ["value"] spIsInt) (C2 : Can P w K mg base "is_reduced" 2 ["p", "q"] spReduced) : Can P w K mg base "is_rate" 3 ["value"] spIsRate := by
  refine D.can (D.fn.ok sc15 (fun vs H Q E h => ?_) (fun cdv A outer s H vs Q E hr h => ?_))
  · obtain ⟨a, p, q, rfl, _⟩ := h
    rfl
  · obtain ⟨a, p, q, rfl, ha, hp, hq, hg, k⟩ := h
    have hr1 : Room 1 _ := hr.mono (by decide)
    refine ⟨_, pss_one (ps_ret (pe_and (pe_isi T.isinstance (pv 0) (pe_ty (T := "tuple") T.tuple)) (pe_and (pe_cmpR op_eq (pe_len T.len (pv 0)) pe_int (nomark _))
      (pe_and (pe_callB (cr_all rfl) (by rfl) T.all (by decide +kernel) (pa_cons (pe_lc (own := [("part", 1)]) (g := gName 1) (tt := tYes) rfl sc15.nd (pi_tup (pv 0)) (blkOk_by (N := ["value", "part"]) (sc := defScope (top 15)) (by decide +kernel))
        (fun _ _ _ _ _ => pg_name (i := 1) sc15.nd rfl (Or.inl rfl)) (fun _ _ _ _ _ => pts_nil) (fun _ _ _ _ _ => pe_can C1 hr1 (pa_cons (pv 1) pa_nil))) pa_nil))
      (pe_one (pe_can C2 hr (pa_cons (pe_ix ix_tup (pv 0) pe_int (fun _ _ => rfl)) (pa_cons (pe_ix ix_tup (pv 0) pe_int (fun _ _ => rfl)) pa_nil)))))))), ?_⟩
    refine ⟨_, rfl, _, _, _, _, true, rfl, .ty _, .base (.tup ha), kit_ty (by decide +kernel), true, rfl, iteT ?_⟩
    refine ⟨_, rfl, a, _, rfl, .inr (SqT.of ha), rfl, true, rfl, iteT ?_⟩
    refine ⟨_, rfl, a, rfl, ⟨_, SqT.of ha⟩, fun d hd => lc_tup (K := K) (a := a) (xs := [.int p, .int q]) (fun i H' => Same H H' ∧ H' d = some (.lst (List.replicate i (V.bl true))))
      ⟨Same.new hd, upd_same⟩ (fun i H' _ h => .inl (.inl (h.1 _ _ ha))) ?_ ?_⟩
    · rintro i x H' hx ⟨s1, h1⟩
      obtain ⟨z, rfl⟩ : ∃ z, x = V.int z := by
        match i, hx with
        | 0, hx => simp at hx; exact ⟨_, hx.symm⟩
        | 1, hx => simp at hx; exact ⟨_, hx.symm⟩
      refine ⟨rfl, _, rfl, z, rfl, _, h1, ?_, fun b u e => ?_, ?_⟩
      · have hi : i < 2 := by
          have := (List.getElem?_eq_some_iff.mp hx).1
          exact this
        rw [List.length_replicate]
        exact small1000 (by omega)
      · rw [upd_ne (ne_of_none e hd)]
        exact s1 _ _ e
      · rw [upd_same, ← List.replicate_succ']
    · rintro H' ⟨s1, h1⟩
      have ha' := s1 _ _ ha
      refine ⟨d, [true, true], rfl, SqL.of h1, true, rfl, iteT ?_⟩
      refine ⟨_, rfl, a, _, 0, _, rfl, rfl, SqT.of ha', rfl, _, rfl, a, _, 1, _, rfl, rfl, SqT.of ha', rfl, ?_⟩
      exact ⟨p, q, rfl, hp, hq, hg, k _ s1⟩
/-! ### is_record -/
theorem kind_in (b : Bool) : inV (.str (kindS b)) [.str "at least", .str "at most"] = true := by cases b <;> decide +kernel
def spIsRec : Sp := fun vs H Q _ => ∃ (v : V) (r : Rec), vs = [v] ∧ RecV H v r ∧ Q (.bl true) H
theorem sc16 : FnScope ["value"] ["value"] (defScope (top 16)) := ⟨rfl, rfl, rfl, by decide +kernel, rfl, by decide +kernel, by decide +kernel⟩
theorem can_is_record (T : Txt K mg) {f : Addr} {fd : FuncData} (D : Df K mg "is_record" (top 16) ["value"] f fd) (C1 : Can P w K mg base "is_integer" 1 ["value"] spIsInt) : Can P w K mg base "is_record" 2 ["value"] spIsRec := by
  refine D.can (D.fn.ok sc16 (fun vs H Q E h => ?_) (fun cdv A outer s H vs Q E hr h => ?_))
  · obtain ⟨v, r, rfl, _⟩ := h
    rfl
  · obtain ⟨v, r, rfl, ⟨a, rfl, ha⟩, k⟩ := h
    obtain ⟨aB, oB, nB, t1, t2, g1, g2, g3, g4⟩ := T.bounds
    have hB : SqT K H aB [.str "at least", .str "at most"] := .inr ⟨oB, _, nB, g2, g3, g4, (by show 2 ≤ sizeLine; decide), .cons ⟨_, rfl⟩ (.cons ⟨_, rfl⟩ .nil)⟩
    have i0 : ∀ j, PlainIx (.Constant (.int j) 0 ⟨0, 0, 0, 0⟩) := fun j _ _ => rfl
    refine ⟨_, pss_one (ps_ret (pe_and (pe_isi T.isinstance (pv 0) (pe_ty (T := "tuple") T.tuple)) (pe_and (pe_cmpR op_eq (pe_len T.len (pv 0)) pe_int (nomark _))
      (pe_and (pe_isi T.isinstance (pe_ix ix_tup (pv 0) pe_int (fun _ _ => rfl)) (pe_ty (T := "str") T.str))
      (pe_and (pe_cmpR op_in_seq (pe_ix ix_tup (pv 0) pe_int (fun _ _ => rfl)) (pe_glob (v := .ref aB) rfl g1 rfl) rfl)
      (pe_and (pe_can C1 hr (pa_cons (pe_ix ix_tup (pv 0) pe_int (fun _ _ => rfl)) pa_nil)) (pe_one (pe_can C1 hr (pa_cons (pe_ix ix_tup (pv 0) pe_int (fun _ _ => rfl)) pa_nil))))))))), ?_⟩
    refine ⟨_, rfl, _, _, _, _, true, rfl, .ty _, .base (.tup ha), kit_ty (by decide +kernel), true, rfl, iteT ?_⟩
    refine ⟨_, rfl, a, _, rfl, .inr (SqT.of ha), rfl, true, rfl, iteT ?_⟩
    refine ⟨_, rfl, a, _, 0, _, rfl, rfl, SqT.of ha, rfl, _, _, _, _, true, rfl, .ty _, .base (.str _), kit_ty (by decide +kernel), true, rfl, iteT ?_⟩
    refine ⟨_, rfl, a, _, 0, _, rfl, rfl, SqT.of ha, rfl, aB, _, rfl, .inr hB, rfl, rfl, true, congrArg V.bl (kind_in r.lo), iteT ?_⟩
    refine ⟨_, rfl, a, _, 1, _, rfl, rfl, SqT.of ha, rfl, r.t, rfl, true, rfl, iteT ?_⟩
    exact ⟨_, rfl, a, _, 2, _, rfl, rfl, SqT.of ha, rfl, r.n, rfl, k⟩
/-! ### need_integer, need_records: nothing is raised here -/
def spNeedInt : Sp := fun vs H Q _ => ∃ i : Int, vs = [.int i] ∧ Q .non H
theorem sc17 : FnScope ["value"] ["value"] (defScope (top 17)) := ⟨rfl, rfl, rfl, by decide +kernel, rfl, by decide +kernel, by decide +kernel⟩
theorem can_need_integer {f : Addr} {fd : FuncData} (D : Df K mg "need_integer" (top 17) ["value"] f fd) (C1 : Can P w K mg base "is_integer" 1 ["value"] spIsInt) : Can P w K mg base "need_integer" 2 ["value"] spNeedInt := by
  refine D.can (D.fn.ok sc17 (fun vs H Q E h => ?_) (fun cdv A outer s H vs Q E hr h => ?_))
  · obtain ⟨i, rfl, _⟩ := h
    rfl
  · obtain ⟨i, rfl, k⟩ := h
    refine ⟨_, pss_one (ps_if (pt_not (pt_val (pe_can C1 hr (pa_cons (pv 0) pa_nil)))) pss_never pss_nil), ?_⟩
    exact ⟨_, rfl, i, rfl, true, rfl, k⟩
def spNeedRecs : Sp := fun vs H Q _ => ∃ (a : Addr) (rs : List Rec), vs = [.ref a] ∧ RecsAt H a rs ∧ rs.length ≤ 200 ∧ ∀ H', Same H H' → Q .non H'
theorem sc18 : FnScope ["value", "index", "item"] ["value"] (defScope (top 18)) := ⟨rfl, rfl, rfl, by decide +kernel, rfl, by decide +kernel, by decide +kernel⟩
theorem can_need_records (T : Txt K mg) {f : Addr} {fd : FuncData} (D : Df K mg "need_records" (top 18) ["value"] f fd) (C1 : Can P w K mg base "is_list" 1 ["value"] spIsList) (C2 : Can P w K mg base "is_record" 2 ["value"] spIsRec) : Can P w K mg base "need_records" 3 ["value"] spNeedRecs := by
  refine D.can (D.fn.ok sc18 (fun vs H Q E h => ?_) (fun cdv A outer s H vs Q E hr h => ?_))
  · obtain ⟨a, rs, rfl, _⟩ := h
    rfl
  · obtain ⟨a, rs, rfl, ⟨vs, hq, hv⟩, hl, k⟩ := h
    have hr1 : Room 1 _ := hr.mono (by decide)
    obtain ⟨tm, hm⟩ := T.most
    refine ⟨_, pss_cons (ps_if (PW.pt (pw_or (pt_not (pt_val (pe_can C1 hr1 (pa_cons (pv 0) pa_nil)))) (pw_or1 (pt_cmpR op_gt (pe_len T.len (pv 0)) (pe_glob (v := .int 200) rfl hm ⟨_, rfl⟩) (nomark _))))) pss_never pss_nil)
      (pss_one (ps_for PassesOwn.never rfl (pi_enumS rfl T.enumerate (pa_cons (pv 0) pa_nil)) (pg_tup rfl (pgs_cons (pg_name (i := 1) sc18.nd rfl (Or.inl rfl)) (pgs_cons (pg_name (i := 2) sc18.nd rfl (Or.inl rfl)) pgs_nil)))
        (pss_one (ps_if (pt_not (pt_val (pe_can C2 hr (pa_cons (pv 2) pa_nil)))) pss_never pss_nil)))), ?_⟩
    refine ⟨_, rfl, a, vs, rfl, hq, fun H1 s1 => ⟨true, rfl, ?_⟩⟩
    have hlen := paired_len hv
    refine ⟨_, rfl, a, vs, rfl, (hq.same s1).sq (K := K), _, _, rfl, rfl, false, congrArg V.bl (decide_eq_false (by omega)), ?_⟩
    refine ⟨_, rfl, a, _, rfl, (hq.same s1).sq, fun J W => for_it W (fun i σ H' => Same H1 H' ∧ ∃ v1 v2, σ = [some (.ref a), v1, v2]) ⟨Same.refl _, _, _, rfl⟩ (fun _ _ _ _ h => h.1) ?_ ?_⟩
    · rintro i x σ H2 H3 hi ⟨s2, v1, v2, rfl⟩ ⟨t, y, z, rfl, ht, rfl, e1, e2⟩
      obtain ⟨r, _, hR⟩ := paired_at hv e2
      have s3 : Same H1 (upd H2 t (.tup [y, z])) := Same.upd s2 (s2.free ht)
      refine ⟨t, _, rfl, SqT.of upd_same, rfl, _, _, rfl, _, _, rfl, rfl, ?_⟩
      exact ⟨_, rfl, z, r, rfl, TupV.same (s1.trans s3) hR, true, rfl, s3, _, _, rfl⟩
    · rintro σ H2 ⟨s2, v1, v2, rfl⟩
      exact k _ (s1.trans s2)
end
end K67

set_option Elab.async false
set_option linter.all false
set_option maxRecDepth 100000
set_option maxHeartbeats 4000000
namespace K67
open PySem PySem.Spec PyProof.Rows L2
/-! ### pairs of ints, or None -/
def prL (x : Pr) : List V := [.int x.1, .int x.2]
def OptV (H : Hp) (v : V) : Option Pr → Prop
  | none => v = .non
  | some x => TupV H v (prL x)
theorem OptV.same {H H' : Hp} {v : V} {o : Option Pr} (e : Same H H') (h : OptV H v o) : OptV H' v o := by
  cases o with
  | none => exact h
  | some x => exact TupV.same e h
/-- the ends' sizes -/
def NbO (B : Nat) (o : Option Pr) : Prop := ∀ x, o = some x → Nb B x.1 ∧ Nb B x.2
/-- what simplest_rate gives -/
structure SimOk (B : Nat) (le he : Option Pr) (p q : Int) : Prop where
  p0 : 0 ≤ p
  q0 : 0 < q
  co : Int.gcd p q = 1
  lo : ∀ l, le = some l → l.1 * q < p * l.2
  hi : ∀ h, he = some h → p * h.2 < h.1 * q
  bp : Nb (B + 3) p
  bq : Nb (B + 3) q
theorem nb_sum {B : Nat} {low : Pr} {high : Option Pr} (h1 : Nb B low.1) (h2 : Nb B low.2) (hh : NbO B high) (I : SrOk low high) : Nb (B + 3) (srSum low high) ∧ 0 ≤ srSum low high := by
  have a0 := I.a0
  have b0 := I.b0
  have hp : 0 < 2 ^ B := Nat.pow_pos (by decide)
  unfold srSum hiOf Nb at *
  rw [Nat.pow_add]
  cases high with
  | none => dsimp only [Option.getD]; constructor <;> omega
  | some h =>
    obtain ⟨c0, d0, lt⟩ := I.h h rfl
    obtain ⟨e1, e2⟩ := hh h rfl
    unfold Nb at e1 e2
    dsimp only [Option.getD]
    constructor <;> omega
theorem sim_of {B : Nat} {low : Pr} {high : Option Pr} {x : Pr} (h1 : Nb B low.1) (h2 : Nb B low.2) (hh : NbO B high) (I : SrOk low high) (X : Btw low high x) : SimOk B (some low) high x.1 x.2 := by
  obtain ⟨s1, s2⟩ := nb_sum h1 h2 hh I
  have bp := X.bp
  have bq := X.bq
  have p0 := X.p0
  have q0 := X.q0
  have a0 := I.a0
  have b0 := I.b0
  have hn : 0 ≤ (hiOf high).1 ∧ 0 ≤ (hiOf high).2 := by
    unfold hiOf
    cases high with
    | none => exact ⟨by decide, by decide⟩
    | some h =>
      obtain ⟨c0, d0, _⟩ := I.h h rfl
      exact ⟨Int.le_of_lt c0, Int.le_of_lt d0⟩
  unfold srSum at s1
  refine ⟨Int.le_of_lt X.p0, X.q0, X.co, fun l e => by cases e; exact X.lo, X.hi, s1.le (Int.le_of_lt p0) (by omega), s1.le (Int.le_of_lt q0) (by omega)⟩
theorem nb_one {n : Nat} (h : 1 ≤ n) : Nb n 1 := Nb.mono (n := 1) (by unfold Nb; decide) h
/-- what stands between two statements, said by itself -/
theorem mid {t u : TS} {D : Ends} {σ : L2.St} {H : Hp} (M : L2.St → Hp → Prop) (h1 : ∀ R : L2.St → Hp → Prop, (∀ σ H, M σ H → R σ H) → t { D with nx := R } σ H) (h2 : ∀ σ H, M σ H → u D σ H) : tSeq t u D σ H := h1 _ h2
/-- the parts stay as small as at the start -/
theorem sr_parts {B : Nat} {low0 low : Pr} {high0 high : Option Pr} {ws : List Int} (I : SrInv low0 high0 ws low high) (s : Nb (B + 3) (srSum low0 high0)) : Nb (B + 3) low.1 ∧ Nb (B + 3) low.2 ∧ NbO (B + 3) high ∧ Nb (B + 3) (low.1 / low.2) := by
  have a0 := I.ok.a0
  have b0 := I.ok.b0
  have sz := I.sz
  have hw := Int.ediv_le_self low.2 a0
  have hw0 := sr_w0 a0 b0
  have e : srSum low0 high0 = low0.1 + low0.2 + (hiOf high0).1 + (hiOf high0).2 := rfl
  rw [← e] at sz
  cases high with
  | none =>
    unfold hiOf at sz
    dsimp only [Option.getD] at sz
    exact ⟨s.le a0 (by omega), s.le (by omega) (by omega), fun x e => (by cases e), s.le hw0 (by omega)⟩
  | some h =>
    obtain ⟨c0, d0, _⟩ := I.ok.h h rfl
    unfold hiOf at sz
    dsimp only [Option.getD] at sz
    exact ⟨s.le a0 (by omega), s.le (by omega) (by omega), fun x e => (by cases e; exact ⟨s.le (by omega) (by omega), s.le (by omega) (by omega)⟩), s.le hw0 (by omega)⟩
section
variable {P : Program} {w : World} {K : PySem.W.Frag} {mg : Str → Option Value} {base : Heap}
/-! ### simplest_rate -/
def spSim : Sp := fun vs H Q _ => ∃ (vl vh : V) (le he : Option Pr) (B : Nat), vs = [vl, vh] ∧ OptV H vl le ∧ OptV H vh he ∧ B ≤ 4000 ∧ (∀ l, le = some l → SrOk l he ∧ Nb B l.1 ∧ Nb B l.2) ∧ (le = none → ∀ h, he = some h → 0 < h.1) ∧ NbO B he ∧
  ∀ v p q H', Same H H' → TupV H' v (prL (p, q)) → SimOk B le he p q → Q v H'
theorem sc20 : FnScope ["low", "high", "wholes", "whole", "rest", "p", "q"] ["low", "high"] (defScope (top 20)) := ⟨rfl, rfl, rfl, by decide +kernel, rfl, by decide +kernel, by decide +kernel⟩
theorem can_simplest_rate {f : Addr} {fd : FuncData} (D : Df K mg "simplest_rate" (top 20) ["low", "high"] f fd) : Can P w K mg base "simplest_rate" 1 ["low", "high"] spSim := by
  refine D.can (D.fn.ok sc20 (fun vs H Q E h => ?_) (fun cdv A outer s H vs Q E hr h => ?_))
  · obtain ⟨vl, vh, le, he, B, rfl, _⟩ := h
    rfl
  · obtain ⟨vl, vh, le, he, B, rfl, hvl, hvh, hB, hle, hno, hnb, k⟩ := h
    have hu := hu_of hr
    have iset : ∀ (i : Nat) (x : Str), (cxOf CX0 P w K mg base ["low", "high", "wholes", "whole", "rest", "p", "q"] "simplest_rate" (defScope (top 20)) f cdv A outer s H E).nox.N[i]? = some x → True := fun _ _ _ => trivial
    refine ⟨_, pss_cons (ps_if (pt_cmpR op_isN (pv 0) pe_non (nomark _)) (pss_one (ps_ret (pe_tup (pa_cons pe_int (pa_cons pe_int pa_nil))))) pss_nil)
      (pss_cons (ps_set (i := 2) sc20.nd rfl (Or.inl rfl) (pe_lst pa_nil))
      (pss_cons (ps_while PassesOwn.never (pt_val pe_bl)
        (pss_cons (ps_set (i := 3) sc20.nd rfl (Or.inl rfl) (pe_op op_fdivW (pe_ix ix_tup (pv 0) pe_int (fun _ _ => rfl)) (pe_ix ix_tup (pv 0) pe_int (fun _ _ => rfl))))
        (pss_cons (ps_if (PW.pt (pw_or (pt_cmpR op_isN (pv 1) pe_non (nomark _)) (pw_or1 (pt_cmpR op_lt (pe_op op_mulW (pe_op op_add (pv 3) pe_int) (pe_ix ix_tup (pv 1) pe_int (fun _ _ => rfl))) (pe_ix ix_tup (pv 1) pe_int (fun _ _ => rfl)) (nomark _))))) (pss_one ps_break) pss_nil)
        (pss_cons (ps_expr (pe_bm PySem.F.plainAttrs_list PySem.F.slot_list_append PySem.F.type_list_append mt_append (pv 2) (pa_cons (pv 3) pa_nil)))
        (pss_cons (ps_set (i := 4) sc20.nd rfl (Or.inl rfl) (pe_op op_sub (pe_ix ix_tup (pv 0) pe_int (fun _ _ => rfl)) (pe_op op_mulW (pv 3) (pe_ix ix_tup (pv 0) pe_int (fun _ _ => rfl)))))
        (pss_one (ps_par (i := 0) (j := 1) (by rfl) sc20.nd rfl rfl (by decide) rfl rfl
          (pa_cons (pe_tup (pa_cons (pe_ix ix_tup (pv 1) pe_int (fun _ _ => rfl)) (pa_cons (pe_op op_sub (pe_ix ix_tup (pv 1) pe_int (fun _ _ => rfl)) (pe_op op_mulW (pv 3) (pe_ix ix_tup (pv 1) pe_int (fun _ _ => rfl)))) pa_nil)))
          (pa_cons (pe_ifExp (pt_cmpR op_gt (pv 4) pe_int (nomark _)) (pe_tup (pa_cons (pe_ix ix_tup (pv 0) pe_int (fun _ _ => rfl)) (pa_cons (pv 4) pa_nil))) pe_non) pa_nil)) (by rfl))))))))
      (pss_cons (ps_par (i := 5) (j := 6) (by rfl) sc20.nd rfl rfl (by decide) rfl rfl (pa_cons (pe_op op_add (pv 3) pe_int) (pa_cons pe_int pa_nil)) (by rfl))
      (pss_cons (ps_for PassesOwn.never rfl (pi_list (pe_revL (pv 2))) (pg_name (i := 3) sc20.nd rfl (Or.inl rfl))
        (pss_one (ps_par (i := 5) (j := 6) (by rfl) sc20.nd rfl rfl (by decide) rfl rfl (pa_cons (pe_op op_add (pe_op op_mulW (pv 3) (pv 5)) (pv 6)) (pa_cons (pv 5) pa_nil)) (by rfl))))
      (pss_one (ps_ret (pe_tup (pa_cons (pv 5) (pa_cons (pv 6) pa_nil))))))))), ?_⟩
    refine ⟨_, rfl, rfl, _, rfl, ?_⟩
    cases le with
    | none =>
      obtain rfl : vl = .non := hvl
      refine ite2 (fun _ => ?_) (fun c => absurd rfl c)
      refine ⟨(by show 2 ≤ sizeLine; decide), fun p hp => k (.ref p) 0 1 _ (Same.new hp) ⟨p, rfl, upd_same⟩ ⟨Int.le_refl _, (by decide), rfl, fun l e => (by cases e), fun h e => ?_, ?_, ?_⟩⟩
      · have := hno rfl h e
        omega
      · unfold Nb
        exact Nat.pow_pos (by decide)
      · unfold Nb
        exact Nat.one_lt_two_pow (by omega)
    | some low0 =>
      obtain ⟨a0, rfl, ha0⟩ := hvl
      refine iteF ?_
      obtain ⟨I0, n1, n2⟩ := hle low0 rfl
      obtain ⟨sS, sS0⟩ := nb_sum n1 n2 hnb I0
      refine ⟨Nat.zero_le _, fun lw hlw => ?_⟩
      have nal : a0 ≠ lw := ne_of_none ha0 hlw
      have s1 : Same H (upd H lw (.lst [])) := Same.new hlw
      show tSeq (tWhile _ _) _ _ _ _
      refine mid (fun σ H' => ∃ (v0 v1 v4 : Option V) (low : Pr) (high : Option Pr) (ws : List Int), σ = [v0, v1, some (.ref lw), some (.int (low.1 / low.2)), v4, none, none] ∧ Same H H' ∧ H' lw = some (.lst (ws.map V.int)) ∧ SrInv low0 he ws low high ∧ srStop low high = true)
        (fun R hR => ?_) ?_
      · refine ⟨fun m σ H' => ∃ (al : Addr) (vh : V) (low : Pr) (high : Option Pr) (ws : List Int) (v3 v4 : Option V), σ = [some (.ref al), some vh, some (.ref lw), v3, v4, none, none] ∧ m = srMeas low high ∧ Same H H' ∧ H' lw = some (.lst (ws.map V.int)) ∧ H' al = some (.tup (prL low)) ∧ OptV H' vh high ∧ SrInv low0 he ws low high ∧ LenInv (srSum low0 he) ws.length low high,
          ⟨_, a0, vh, low0, he, [], none, none, rfl, rfl, s1, upd_same, s1 _ _ ha0, hvh.same s1, srInv0 I0, len0 _ _⟩, ?_⟩
        rintro m σ H' ⟨al, vh, low, high, ws, v3, v4, rfl, rfl, sm, hl, hal, hvh, I, L⟩
        obtain ⟨z1, z2, z3, z4⟩ := sr_parts I sS
        have hlen := len_le I.ok L sS0 sS
        have w0 := sr_w0 I.ok.a0 I.ok.b0
        refine ⟨true, rfl, iteT ⟨_, fun _ _ h => h, ?_⟩⟩
        refine ⟨_, rfl, al, _, 0, _, rfl, rfl, SqT.of hal, rfl, _, rfl, al, _, 1, _, rfl, rfl, SqT.of hal, rfl, _, _, rfl, rfl, z2.cdiv I.ok.b0 (by omega), ?_⟩
        refine ⟨_, rfl, rfl, _, rfl, ?_⟩
        cases high with
        | none =>
          obtain rfl : vh = .non := hvh
          refine ite2 (fun _ => ?_) (fun c => absurd rfl c)
          refine iteT ?_
          exact hR _ _ ⟨_, _, _, low, none, ws, rfl, sm, hl, I, rfl⟩
        | some h =>
          obtain ⟨ah, rfl, hah⟩ := hvh
          refine iteF ?_
          obtain ⟨y1, y2⟩ := z3 h rfl
          obtain ⟨c0, d0, _⟩ := I.ok.h h rfl
          refine ⟨_, rfl, _, _, rfl, rfl, _, rfl, ah, _, 1, _, rfl, rfl, SqT.of hah, rfl, _, _, rfl, rfl, (z4.add (nb_one (by omega))).cmul y2 (by omega), _, rfl, ah, _, 0, _, rfl, rfl, SqT.of hah, rfl, _, _, rfl, rfl, _, rfl, ?_⟩
          have st : ∀ b, decide ((low.1 / low.2 + 1) * h.2 < h.1) = b → srStop low (some h) = b := fun b e => e
          refine ite2 (fun c => ?_) (fun c => ?_)
          · exact hR _ _ ⟨_, _, _, low, some h, ws, rfl, sm, hl, I, c⟩
          · have st := st false (Bool.eq_false_iff.mpr c)
            have nl : al ≠ lw := ne_of hal hl (fun z => by cases z)
            have nh : ah ≠ lw := ne_of hah hl (fun z => by cases z)
            obtain ⟨J, ml⟩ := srInv_next I st
            have LJ := len_next I.ok st L
            refine ⟨_, rfl, .inl ⟨rfl, _, SqL.of hl⟩, _, rfl, lw, _, _, rfl, rfl, hl, (by rw [List.length_map, sizeLine_eq]; omega), ?_⟩
            have sm2 : Same H (upd H' lw (.lst (ws.map V.int ++ [V.int (low.1 / low.2)]))) := Same.upd sm hlw
            have hal2 : (upd H' lw (.lst (ws.map V.int ++ [V.int (low.1 / low.2)]))) al = some (.tup (prL low)) := (upd_ne nl).trans hal
            have hah2 : (upd H' lw (.lst (ws.map V.int ++ [V.int (low.1 / low.2)]))) ah = some (.tup (prL h)) := (upd_ne nh).trans hah
            have hl2 : (upd H' lw (.lst (ws.map V.int ++ [V.int (low.1 / low.2)]))) lw = some (.lst ((ws ++ [low.1 / low.2]).map V.int)) := by rw [upd_same, List.map_append]; rfl
            generalize upd H' lw (.lst (ws.map V.int ++ [V.int (low.1 / low.2)])) = H2 at *
            refine ⟨_, rfl, al, _, 0, _, rfl, rfl, SqT.of hal2, rfl, _, rfl, _, rfl, al, _, 1, _, rfl, rfl, SqT.of hal2, rfl, _, _, rfl, rfl, z4.cmul z2 (by omega), _, _, rfl, rfl, ?_⟩
            refine ⟨_, rfl, ah, _, 1, _, rfl, rfl, SqT.of hah2, rfl, _, rfl, ah, _, 0, _, rfl, rfl, SqT.of hah2, rfl, _, rfl, _, rfl, ah, _, 1, _, rfl, rfl, SqT.of hah2, rfl, _, _, rfl, rfl, z4.cmul y2 (by omega), _, _, rfl, rfl, (by show 2 ≤ sizeLine; decide), fun p1 hp1 => ?_⟩
            have sm3 := Same.new (o := HO.tup [V.int h.2, V.int (h.1 - low.1 / low.2 * h.2)]) hp1
            refine ⟨_, rfl, _, _, rfl, rfl, _, rfl, ite2 (fun c2 => ?_) (fun c2 => ?_)⟩
            · have c2 := of_decide_eq_true c2
              refine ⟨_, rfl, al, _, 1, _, rfl, rfl, SqT.of (sm3 _ _ hal2), rfl, _, rfl, (by show 2 ≤ sizeLine; decide), fun p2 hp2 => ⟨_, _, rfl, ?_⟩⟩
              have sm4 := Same.upd (o := HO.tup [V.int low.2, V.int (low.1 - low.1 / low.2 * low.2)]) sm3 (sm3.free hp2)
              have e2 : (srNext low h).2 = some (low.2, low.1 - low.1 / low.2 * low.2) := if_pos c2
              refine ⟨_, ml, p1, .ref p2, (srNext low h).1, (srNext low h).2, ws ++ [low.1 / low.2], _, _, rfl, rfl, sm2.trans sm4, sm4 _ _ hl2, ?_, ?_, J, by rw [List.length_append]; exact LJ⟩
              · rw [upd_ne (ne_of_none upd_same hp2)]
                exact upd_same
              · rw [e2]
                exact ⟨p2, rfl, upd_same⟩
            · have c2 : ¬ 0 < low.1 - low.1 / low.2 * low.2 := fun z => c2 (decide_eq_true z)
              have e2 : (srNext low h).2 = none := if_neg c2
              refine ⟨_, _, rfl, ?_⟩
              refine ⟨_, ml, p1, .non, (srNext low h).1, (srNext low h).2, ws ++ [low.1 / low.2], _, _, rfl, rfl, sm2.trans sm3, sm3 _ _ hl2, upd_same, ?_, J, by rw [List.length_append]; exact LJ⟩
              rw [e2]
              exact rfl
      · rintro σ H' ⟨v0, v1, v4, low, high, ws, rfl, sm, hl, I, st⟩
        have X := sr_stop I.ok st
        have Y := I.back _ X
        have Z := sim_of n1 n2 hnb I0 Y
        have p0 := X.p0
        have q0 := X.q0
        refine ⟨_, rfl, _, _, rfl, rfl, _, _, rfl, ?_⟩
        refine ⟨_, rfl, lw, _, rfl, SqL.of hl, fun rv hrv => ⟨rv, rfl, ⟨_, SqL.of upd_same⟩, for_list (K := K) (a := rv) (xs := (ws.map V.int).reverse)
          (fun i σ H2 => ∃ v3, σ = [v0, v1, some (.ref lw), v3, v4, some (.int (unBack ws (low.1 / low.2 + 1, 1) i).1), some (.int (unBack ws (low.1 / low.2 + 1, 1) i).2)] ∧ Same (upd H' rv (.lst (ws.map V.int).reverse)) H2)
          ⟨_, rfl, Same.refl _⟩ (fun i σ H2 _ h => h.elim fun _ z => SqL.of (z.2 _ _ upd_same)) ?_ ?_⟩⟩
        · rintro i x σ H2 hx ⟨v3, rfl, s2⟩
          rw [← List.map_reverse, List.getElem?_map] at hx
          cases e : ws.reverse[i]? with
          | none => rw [e] at hx; cases hx
          | some z =>
            rw [e] at hx
            obtain rfl : V.int z = x := Option.some.inj hx
            have hz : 0 ≤ z := I.wn z (List.mem_reverse.mp (List.mem_of_getElem? e))
            obtain ⟨b1, b2, b3⟩ := unBack_le (ws := ws) (x := (low.1 / low.2 + 1, 1)) I.wn p0 q0 i
            obtain ⟨b4, b5, b6⟩ := unBack_le (ws := ws) (x := (low.1 / low.2 + 1, 1)) I.wn p0 q0 (i + 1)
            have es := unBack_succ (ws := ws) (x := (low.1 / low.2 + 1, 1)) e
            have hw := un_step_le hz b1 b2
            rw [← es] at hw
            have tot : Nb (B + 4) ((unAll ws (low.1 / low.2 + 1, 1)).1 + (unAll ws (low.1 / low.2 + 1, 1)).2) := Z.bp.add Z.bq
            have t0 := Z.p0
            have t1 := Z.q0
            refine ⟨_, rfl, _, rfl, _, _, rfl, rfl, (tot.le hz (by omega)).cmul (tot.le (Int.le_of_lt b1) (by omega)) (by omega), _, rfl, _, _, rfl, rfl, _, rfl, _, _, rfl, ?_⟩
            rw [es]
            exact ⟨_, rfl, s2⟩
        · rintro σ H2 ⟨v3, rfl, s2⟩
          rw [List.length_reverse, List.length_map, unBack_all]
          refine ⟨_, rfl, _, rfl, (by show 2 ≤ sizeLine; decide), fun p hp => ?_⟩
          have s3 : Same H' H2 := (Same.new hrv).trans s2
          exact k (.ref p) _ _ _ (Same.upd (sm.trans s3) (sm.free (s3.free hp))) ⟨p, rfl, upd_same⟩ Z
end
end K67

set_option Elab.async false
set_option linter.all false
set_option maxRecDepth 100000
set_option maxHeartbeats 4000000
namespace K67
open PySem PySem.Spec PyProof.Rows L2
section
variable {P : Program} {w : World} {K : PySem.W.Frag} {mg : Str → Option Value} {base : Heap}
/-! ### simplest_between -/
def RateP (o : Option Pr) : Prop := ∀ r, o = some r → 0 ≤ r.1 ∧ 0 < r.2 ∧ Int.gcd r.1 r.2 = 1
def spBtw : Sp := fun vs H Q _ => ∃ (vl vh : V) (le he : Option Pr) (B : Nat), vs = [vl, vh] ∧ OptV H vl le ∧ OptV H vh he ∧ B ≤ 4000 ∧ RateP le ∧ RateP he ∧ (∀ h, he = some h → 0 < h.1) ∧ (∀ l h, le = some l → he = some h → l.1 * h.2 < h.1 * l.2) ∧ NbO B le ∧ NbO B he ∧
  ∀ v p q H', Same H H' → TupV H' v (prL (p, q)) → SimOk B le he p q → Q v H'
theorem sc21 : FnScope ["low", "high", "value", "least"] ["low", "high"] (defScope (top 21)) := ⟨rfl, rfl, rfl, by decide +kernel, rfl, by decide +kernel, by decide +kernel⟩
theorem can_simplest_between {f : Addr} {fd : FuncData} (D : Df K mg "simplest_between" (top 21) ["low", "high"] f fd) (C1 : Can P w K mg base "is_rate" 3 ["value"] spIsRate) (C2 : Can P w K mg base "simplest_rate" 1 ["low", "high"] spSim) : Can P w K mg base "simplest_between" 4 ["low", "high"] spBtw := by
  refine D.can (D.fn.ok sc21 (fun vs H Q E h => ?_) (fun cdv A outer s H vs Q E hr h => ?_))
  · obtain ⟨vl, vh, le, he, B, rfl, _⟩ := h
    rfl
  · obtain ⟨vl, vh, le, he, B, rfl, hvl, hvh, hB, hle, hhe, hpos, hlt, nl, nh, k⟩ := h
    have hr1 : Room 1 _ := hr.mono (by decide)
    refine ⟨_, pss_cons (ps_for PassesOwn.never rfl (pi_tup (pe_tup (pa_cons (pv 0) (pa_cons (pv 1) pa_nil)))) (pg_name (i := 2) sc21.nd rfl (Or.inl rfl))
        (pss_one (ps_if (PW.pt (pw_and (pt_cmpR op_notN (pv 2) pe_non (nomark _)) (pw_and1 (pt_not (pt_val (pe_can C1 hr (pa_cons (pv 2) pa_nil))))))) pss_never pss_nil)))
      (pss_cons (ps_set (i := 3) sc21.nd rfl (Or.inl rfl) (pe_ifExp (pt_cmpR op_isN (pv 0) pe_non (nomark _)) (pe_tup (pa_cons pe_int (pa_cons pe_int pa_nil))) (pv 0)))
      (pss_cons (ps_if (PW.pt (pw_and (pt_cmpR op_notN (pv 1) pe_non (nomark _)) (pw_and1 (pt_cmpR op_le (pe_op op_mulW (pe_ix ix_tup (pv 1) pe_int (fun _ _ => rfl)) (pe_ix ix_tup (pv 3) pe_int (fun _ _ => rfl))) (pe_op op_mulW (pe_ix ix_tup (pv 3) pe_int (fun _ _ => rfl)) (pe_ix ix_tup (pv 1) pe_int (fun _ _ => rfl))) (nomark _))))) pss_never pss_nil)
      (pss_one (ps_ret (pe_can C2 hr1 (pa_cons (pv 0) (pa_cons (pv 1) pa_nil))))))), ?_⟩
    refine ⟨_, rfl, _, rfl, (by show 2 ≤ sizeLine; decide), fun p hp => ⟨p, rfl, ⟨_, SqT.of upd_same⟩, for_tup (K := K) (a := p) (xs := [vl, vh]) (fun i σ H' => Same (upd H p (.tup [vl, vh])) H' ∧ ∃ v2, σ = [some vl, some vh, v2, none])
      ⟨Same.refl _, none, rfl⟩ (fun i σ H' _ h => SqT.of (h.1 _ _ upd_same)) ?_ ?_⟩⟩
    · rintro i x σ H' hx ⟨s1, v2, rfl⟩
      have s0 : Same H H' := (Same.new hp).trans s1
      obtain ⟨o, ho, hR⟩ : ∃ o, OptV H x o ∧ RateP o := by
        match i, hx with
        | 0, hx => simp at hx; subst hx; exact ⟨_, hvl, hle⟩
        | 1, hx => simp at hx; subst hx; exact ⟨_, hvh, hhe⟩
      refine ⟨_, rfl, rfl, _, rfl, ?_⟩
      cases o with
      | none =>
        obtain rfl : x = .non := ho
        exact ⟨s1, _, rfl⟩
      | some r =>
        obtain ⟨a, rfl, ha⟩ := ho
        obtain ⟨r1, r2, r3⟩ := hR r rfl
        exact ⟨_, rfl, a, r.1, r.2, rfl, s0 _ _ ha, r1, r2, r3, fun H2 s2 => ⟨true, rfl, s1.trans s2, _, rfl⟩⟩
    · rintro σ H' ⟨s1, v2, rfl⟩
      have s0 : Same H H' := (Same.new hp).trans s1
      -- least = ..; the test, false; the call
      have fin : ∀ (H1 : Hp) (v3 : V) (l : Pr), Same H H1 → TupV H1 v3 (prL l) → l = le.getD (0, 1) →
          tSeq (tIfS (tAnd (tTest (tOp (fun x y H Q => y = .non ∧ Q (.bl (!decide (x = .non))) H) (tVar 1) (tC .non))) (tTest (tOp (rI0 fun i j => .bl (decide (i ≤ j))) (tOp (rI CMulW fun i j => .int (i * j)) (tOp (rIxT K) (tVar 1) (tC (.int 0))) (tOp (rIxT K) (tVar 3) (tC (.int 1)))) (tOp (rI CMulW fun i j => .int (i * j)) (tOp (rIxT K) (tVar 3) (tC (.int 0))) (tOp (rIxT K) (tVar 1) (tC (.int 1))))))) tNever tNext)
            (tRet (tCall spSim [] E0 (tCons (tVar 0) (tCons (tVar 1) tNil)))) { nx := fun _ H' => Q .non H', rt := Q } [some vl, some vh, v2, some v3] H1 := by
        intro H1 v3 l s2 h3 el
        have last : tRet (tCall spSim [] E0 (tCons (tVar 0) (tCons (tVar 1) tNil))) { nx := fun _ H' => Q .non H', rt := Q } [some vl, some vh, v2, some v3] H1 := by
          refine ⟨_, rfl, _, rfl, vl, vh, le, he, B, rfl, hvl.same s2, hvh.same s2, hB, fun l0 e0 => ?_, fun _ => hpos, nh, fun v p q H2 s3 ht hS => k v p q H2 (s2.trans s3) ht hS⟩
          obtain ⟨r1, r2, r3⟩ := hle l0 e0
          obtain ⟨b1, b2⟩ := nl l0 e0
          exact ⟨⟨r1, r2, fun h e => ⟨hpos h e, (hhe h e).2.1, hlt l0 h e0 e⟩⟩, b1, b2⟩
        refine ⟨_, rfl, rfl, _, rfl, ?_⟩
        cases he with
        | none =>
          obtain rfl : vh = .non := hvh
          exact last
        | some h =>
          obtain ⟨ah, rfl, hah⟩ := hvh
          obtain ⟨a3, rfl, ha3⟩ := h3
          have hah1 := s2 _ _ hah
          obtain ⟨b1, b2⟩ := nh h rfl
          have c0 := hpos h rfl
          have d0 := (hhe h rfl).2.1
          have lb : Nb (B + 1) l.1 ∧ Nb (B + 1) l.2 ∧ l.1 * h.2 < h.1 * l.2 := by
            cases le with
            | none =>
              subst el
              exact ⟨by unfold Nb; exact Nat.pow_pos (by decide), nb_one (by omega), by simp; omega⟩
            | some l0 =>
              have el' : l = l0 := el
              rw [el']
              exact ⟨(nl l0 rfl).1.mono (by omega), (nl l0 rfl).2.mono (by omega), hlt l0 h rfl rfl⟩
          obtain ⟨lb1, lb2, lb3⟩ := lb
          refine ⟨_, rfl, ah, _, 0, _, rfl, rfl, SqT.of hah1, rfl, _, rfl, a3, _, 1, _, rfl, rfl, SqT.of ha3, rfl, _, _, rfl, rfl, b1.cmul lb2 (by omega), _, rfl, a3, _, 0, _, rfl, rfl, SqT.of ha3, rfl, _, rfl, ah, _, 1, _, rfl, rfl, SqT.of hah1, rfl, _, _, rfl, rfl, lb1.cmul b2 (by omega), _, _, rfl, rfl, false, congrArg V.bl (decide_eq_false (by omega)), ?_⟩
          exact last
      refine ⟨_, rfl, rfl, _, rfl, ?_⟩
      cases le with
      | none =>
        obtain rfl : vl = .non := hvl
        refine ite2 (fun _ => ?_) (fun c => absurd rfl c)
        refine ⟨(by show 2 ≤ sizeLine; decide), fun q hq => ?_⟩
        exact fin _ (.ref q) (0, 1) (Same.upd s0 (s0.free hq)) ⟨q, rfl, upd_same⟩ rfl
      | some l0 =>
        obtain ⟨al, rfl, hal⟩ := hvl
        refine iteF ⟨_, rfl, ?_⟩
        exact fin _ (.ref al) l0 s0 ⟨al, rfl, s0 _ _ hal⟩ rfl
/-! ### lowest_terms, is_less -/
def spLowest : Sp := fun vs H Q _ => ∃ (x : Pr) (B : Nat), vs = [.int x.1, .int x.2] ∧ 0 < x.2 ∧ B ≤ 8000 ∧ Nb B x.2 ∧ ∀ v H', Same H H' → TupV H' v (prL (lowest x)) → Q v H'
theorem sc23 : FnScope ["top", "bottom", "divisor"] ["top", "bottom"] (defScope (top 23)) := ⟨rfl, rfl, rfl, by decide +kernel, rfl, by decide +kernel, by decide +kernel⟩
theorem gcd_abs (a b : Int) : Int.gcd (if a < 0 then -a else a) b = Int.gcd a b := by
  split
  · exact Int.neg_gcd
  · rfl
theorem can_lowest_terms (T : Txt K mg) {f : Addr} {fd : FuncData} (D : Df K mg "lowest_terms" (top 23) ["top", "bottom"] f fd) (C1 : Can P w K mg base "common_divisor" 1 ["one", "other"] spGcd) : Can P w K mg base "lowest_terms" 2 ["top", "bottom"] spLowest := by
  refine D.can (D.fn.ok sc23 (fun vs H Q E h => ?_) (fun cdv A outer s H vs Q E hr h => ?_))
  · obtain ⟨x, B, rfl, _⟩ := h
    rfl
  · obtain ⟨x, B, rfl, h2, hB, hb, k⟩ := h
    refine ⟨_, pss_cons (ps_set (i := 2) sc23.nd rfl (Or.inl rfl) (pe_can C1 hr (pa_cons (pe_callB call_abs (by rfl) T.abs (by decide +kernel) (pa_cons (pv 0) pa_nil)) (pa_cons (pv 1) pa_nil))))
      (pss_one (ps_ret (pe_tup (pa_cons (pe_op op_fdivW (pv 0) (pv 2)) (pa_cons (pe_op op_fdivW (pv 1) (pv 2)) pa_nil))))), ?_⟩
    have hg : 0 < (Int.gcd x.1 x.2 : Int) := by
      have := Int.gcd_pos_of_ne_zero_right x.1 (show x.2 ≠ 0 by omega)
      omega
    have hgl : (Int.gcd x.1 x.2 : Int) ≤ x.2 := Int.le_of_dvd h2 (Int.gcd_dvd_right ..)
    have cd : CDivW 0 (Int.gcd x.1 x.2 : Int) := (hb.le (Int.le_of_lt hg) hgl).cdiv hg (by omega)
    refine ⟨_, rfl, _, rfl, _, rfl, _, _, rfl, (by split <;> omega), Int.le_of_lt h2, ?_⟩
    rw [gcd_abs]
    refine ⟨_, rfl, _, rfl, _, _, rfl, rfl, cd, _, rfl, _, rfl, _, _, rfl, rfl, cd, (by show 2 ≤ sizeLine; decide), fun p hp => ?_⟩
    exact k (.ref p) _ (Same.new hp) ⟨p, rfl, upd_same⟩
def spLess : Sp := fun vs H Q _ => ∃ (v1 v2 : V) (x y : Pr) (B : Nat), vs = [v1, v2] ∧ TupV H v1 (prL x) ∧ TupV H v2 (prL y) ∧ B ≤ 8000 ∧ Nb B x.1 ∧ Nb B x.2 ∧ Nb B y.1 ∧ Nb B y.2 ∧ Q (.bl (less x y)) H
theorem sc24 : FnScope ["one", "other"] ["one", "other"] (defScope (top 24)) := ⟨rfl, rfl, rfl, by decide +kernel, rfl, by decide +kernel, by decide +kernel⟩
theorem can_is_less {f : Addr} {fd : FuncData} (D : Df K mg "is_less" (top 24) ["one", "other"] f fd) : Can P w K mg base "is_less" 1 ["one", "other"] spLess := by
  refine D.can (D.fn.ok sc24 (fun vs H Q E h => ?_) (fun cdv A outer s H vs Q E hr h => ?_))
  · obtain ⟨v1, v2, x, y, B, rfl, _⟩ := h
    rfl
  · obtain ⟨v1, v2, x, y, B, rfl, ⟨a, rfl, ha⟩, ⟨b, rfl, hb⟩, hB, n1, n2, n3, n4, k⟩ := h
    refine ⟨_, pss_one (ps_ret (pe_cmpR op_lt (pe_op op_mulW (pe_ix ix_tup (pv 0) pe_int (fun _ _ => rfl)) (pe_ix ix_tup (pv 1) pe_int (fun _ _ => rfl))) (pe_op op_mulW (pe_ix ix_tup (pv 1) pe_int (fun _ _ => rfl)) (pe_ix ix_tup (pv 0) pe_int (fun _ _ => rfl))) (nomark _))), ?_⟩
    exact ⟨_, rfl, a, _, 0, _, rfl, rfl, SqT.of ha, rfl, _, rfl, b, _, 1, _, rfl, rfl, SqT.of hb, rfl, _, _, rfl, rfl, n1.cmul n4 (by omega), _, rfl, b, _, 0, _, rfl, rfl, SqT.of hb, rfl, _, rfl, a, _, 1, _, rfl, rfl, SqT.of ha, rfl, _, _, rfl, rfl, n3.cmul n2 (by omega), _, _, rfl, rfl, k⟩
end
end K67

set_option Elab.async false
set_option linter.all false
set_option maxRecDepth 100000
set_option maxHeartbeats 4000000
namespace K67
open PySem PySem.Spec PyProof.Rows L2
/-! ### the fields of the program's instances -/
def rbF (x0 x1 x2 x3 x4 : V) : List (Str × V) := [("low", x0), ("low_pair", x1), ("high", x2), ("high_pair", x3), ("clash", x4)]
theorem rbF_low (x0 x1 x2 x3 x4 : V) : (rbF x0 x1 x2 x3 x4).lookup ("low" : Str) = some x0 := by unfold rbF; simp only [List.lookup, beq_self_eq_true]
theorem rbF_put_low (x0 x1 x2 x3 x4 : V) (y : V) : putF ("low" : Str) y (rbF x0 x1 x2 x3 x4) = rbF y x1 x2 x3 x4 := by unfold rbF; simp only [putF, if_true]
theorem rbF_low_pair (x0 x1 x2 x3 x4 : V) : (rbF x0 x1 x2 x3 x4).lookup ("low_pair" : Str) = some x1 := by unfold rbF; simp only [List.lookup, beq_self_eq_true, show (("low_pair" : Str) == ("low" : Str)) = false by decide +kernel]
theorem rbF_put_low_pair (x0 x1 x2 x3 x4 : V) (y : V) : putF ("low_pair" : Str) y (rbF x0 x1 x2 x3 x4) = rbF x0 y x2 x3 x4 := by unfold rbF; simp only [putF, if_true, if_neg (show ¬ (("low" : Str) = ("low_pair" : Str)) by decide +kernel)]
theorem rbF_high (x0 x1 x2 x3 x4 : V) : (rbF x0 x1 x2 x3 x4).lookup ("high" : Str) = some x2 := by unfold rbF; simp only [List.lookup, beq_self_eq_true, show (("high" : Str) == ("low" : Str)) = false by decide +kernel, show (("high" : Str) == ("low_pair" : Str)) = false by decide +kernel]
theorem rbF_put_high (x0 x1 x2 x3 x4 : V) (y : V) : putF ("high" : Str) y (rbF x0 x1 x2 x3 x4) = rbF x0 x1 y x3 x4 := by unfold rbF; simp only [putF, if_true, if_neg (show ¬ (("low" : Str) = ("high" : Str)) by decide +kernel), if_neg (show ¬ (("low_pair" : Str) = ("high" : Str)) by decide +kernel)]
theorem rbF_high_pair (x0 x1 x2 x3 x4 : V) : (rbF x0 x1 x2 x3 x4).lookup ("high_pair" : Str) = some x3 := by unfold rbF; simp only [List.lookup, beq_self_eq_true, show (("high_pair" : Str) == ("low" : Str)) = false by decide +kernel, show (("high_pair" : Str) == ("low_pair" : Str)) = false by decide +kernel, show (("high_pair" : Str) == ("high" : Str)) = false by decide +kernel]
theorem rbF_put_high_pair (x0 x1 x2 x3 x4 : V) (y : V) : putF ("high_pair" : Str) y (rbF x0 x1 x2 x3 x4) = rbF x0 x1 x2 y x4 := by unfold rbF; simp only [putF, if_true, if_neg (show ¬ (("low" : Str) = ("high_pair" : Str)) by decide +kernel), if_neg (show ¬ (("low_pair" : Str) = ("high_pair" : Str)) by decide +kernel), if_neg (show ¬ (("high" : Str) = ("high_pair" : Str)) by decide +kernel)]
theorem rbF_clash (x0 x1 x2 x3 x4 : V) : (rbF x0 x1 x2 x3 x4).lookup ("clash" : Str) = some x4 := by unfold rbF; simp only [List.lookup, beq_self_eq_true, show (("clash" : Str) == ("low" : Str)) = false by decide +kernel, show (("clash" : Str) == ("low_pair" : Str)) = false by decide +kernel, show (("clash" : Str) == ("high" : Str)) = false by decide +kernel, show (("clash" : Str) == ("high_pair" : Str)) = false by decide +kernel]
theorem rbF_put_clash (x0 x1 x2 x3 x4 : V) (y : V) : putF ("clash" : Str) y (rbF x0 x1 x2 x3 x4) = rbF x0 x1 x2 x3 y := by unfold rbF; simp only [putF, if_true, if_neg (show ¬ (("low" : Str) = ("clash" : Str)) by decide +kernel), if_neg (show ¬ (("low_pair" : Str) = ("clash" : Str)) by decide +kernel), if_neg (show ¬ (("high" : Str) = ("clash" : Str)) by decide +kernel), if_neg (show ¬ (("high_pair" : Str) = ("clash" : Str)) by decide +kernel)]
theorem rbF_no_tighten (x0 x1 x2 x3 x4 : V) : (rbF x0 x1 x2 x3 x4).lookup ("tighten" : Str) = none := by unfold rbF; simp only [List.lookup, show (("tighten" : Str) == ("low" : Str)) = false by decide +kernel, show (("tighten" : Str) == ("low_pair" : Str)) = false by decide +kernel, show (("tighten" : Str) == ("high" : Str)) = false by decide +kernel, show (("tighten" : Str) == ("high_pair" : Str)) = false by decide +kernel, show (("tighten" : Str) == ("clash" : Str)) = false by decide +kernel]
theorem rbF_no_is_empty (x0 x1 x2 x3 x4 : V) : (rbF x0 x1 x2 x3 x4).lookup ("is_empty" : Str) = none := by unfold rbF; simp only [List.lookup, show (("is_empty" : Str) == ("low" : Str)) = false by decide +kernel, show (("is_empty" : Str) == ("low_pair" : Str)) = false by decide +kernel, show (("is_empty" : Str) == ("high" : Str)) = false by decide +kernel, show (("is_empty" : Str) == ("high_pair" : Str)) = false by decide +kernel, show (("is_empty" : Str) == ("clash" : Str)) = false by decide +kernel]
theorem rbF_no_ends (x0 x1 x2 x3 x4 : V) : (rbF x0 x1 x2 x3 x4).lookup ("ends" : Str) = none := by unfold rbF; simp only [List.lookup, show (("ends" : Str) == ("low" : Str)) = false by decide +kernel, show (("ends" : Str) == ("low_pair" : Str)) = false by decide +kernel, show (("ends" : Str) == ("high" : Str)) = false by decide +kernel, show (("ends" : Str) == ("high_pair" : Str)) = false by decide +kernel, show (("ends" : Str) == ("clash" : Str)) = false by decide +kernel]
theorem rbF_made (x0 x1 x2 x3 x4 : V) : putF ("clash" : Str) x4 (putF ("high_pair" : Str) x3 (putF ("high" : Str) x2 (putF ("low_pair" : Str) x1 (putF ("low" : Str) x0 ([]))))) = rbF x0 x1 x2 x3 x4 := by unfold rbF; simp only [putF, if_neg (show ¬ (("low" : Str) = ("low_pair" : Str)) by decide +kernel), if_neg (show ¬ (("low" : Str) = ("high" : Str)) by decide +kernel), if_neg (show ¬ (("low_pair" : Str) = ("high" : Str)) by decide +kernel), if_neg (show ¬ (("low" : Str) = ("high_pair" : Str)) by decide +kernel), if_neg (show ¬ (("low_pair" : Str) = ("high_pair" : Str)) by decide +kernel), if_neg (show ¬ (("high" : Str) = ("high_pair" : Str)) by decide +kernel), if_neg (show ¬ (("low" : Str) = ("clash" : Str)) by decide +kernel), if_neg (show ¬ (("low_pair" : Str) = ("clash" : Str)) by decide +kernel), if_neg (show ¬ (("high" : Str) = ("clash" : Str)) by decide +kernel), if_neg (show ¬ (("high_pair" : Str) = ("clash" : Str)) by decide +kernel)]
def pcF (x0 x1 x2 x3 x4 x5 x6 : V) : List (Str × V) := [("start", x0), ("stop", x1), ("time", x2), ("value", x3), ("rise", x4), ("width", x5), ("strict", x6)]
theorem pcF_start (x0 x1 x2 x3 x4 x5 x6 : V) : (pcF x0 x1 x2 x3 x4 x5 x6).lookup ("start" : Str) = some x0 := by unfold pcF; simp only [List.lookup, beq_self_eq_true]
theorem pcF_put_start (x0 x1 x2 x3 x4 x5 x6 : V) (y : V) : putF ("start" : Str) y (pcF x0 x1 x2 x3 x4 x5 x6) = pcF y x1 x2 x3 x4 x5 x6 := by unfold pcF; simp only [putF, if_true]
theorem pcF_stop (x0 x1 x2 x3 x4 x5 x6 : V) : (pcF x0 x1 x2 x3 x4 x5 x6).lookup ("stop" : Str) = some x1 := by unfold pcF; simp only [List.lookup, beq_self_eq_true, show (("stop" : Str) == ("start" : Str)) = false by decide +kernel]
theorem pcF_put_stop (x0 x1 x2 x3 x4 x5 x6 : V) (y : V) : putF ("stop" : Str) y (pcF x0 x1 x2 x3 x4 x5 x6) = pcF x0 y x2 x3 x4 x5 x6 := by unfold pcF; simp only [putF, if_true, if_neg (show ¬ (("start" : Str) = ("stop" : Str)) by decide +kernel)]
theorem pcF_time (x0 x1 x2 x3 x4 x5 x6 : V) : (pcF x0 x1 x2 x3 x4 x5 x6).lookup ("time" : Str) = some x2 := by unfold pcF; simp only [List.lookup, beq_self_eq_true, show (("time" : Str) == ("start" : Str)) = false by decide +kernel, show (("time" : Str) == ("stop" : Str)) = false by decide +kernel]
theorem pcF_put_time (x0 x1 x2 x3 x4 x5 x6 : V) (y : V) : putF ("time" : Str) y (pcF x0 x1 x2 x3 x4 x5 x6) = pcF x0 x1 y x3 x4 x5 x6 := by unfold pcF; simp only [putF, if_true, if_neg (show ¬ (("start" : Str) = ("time" : Str)) by decide +kernel), if_neg (show ¬ (("stop" : Str) = ("time" : Str)) by decide +kernel)]
theorem pcF_value (x0 x1 x2 x3 x4 x5 x6 : V) : (pcF x0 x1 x2 x3 x4 x5 x6).lookup ("value" : Str) = some x3 := by unfold pcF; simp only [List.lookup, beq_self_eq_true, show (("value" : Str) == ("start" : Str)) = false by decide +kernel, show (("value" : Str) == ("stop" : Str)) = false by decide +kernel, show (("value" : Str) == ("time" : Str)) = false by decide +kernel]
theorem pcF_put_value (x0 x1 x2 x3 x4 x5 x6 : V) (y : V) : putF ("value" : Str) y (pcF x0 x1 x2 x3 x4 x5 x6) = pcF x0 x1 x2 y x4 x5 x6 := by unfold pcF; simp only [putF, if_true, if_neg (show ¬ (("start" : Str) = ("value" : Str)) by decide +kernel), if_neg (show ¬ (("stop" : Str) = ("value" : Str)) by decide +kernel), if_neg (show ¬ (("time" : Str) = ("value" : Str)) by decide +kernel)]
theorem pcF_rise (x0 x1 x2 x3 x4 x5 x6 : V) : (pcF x0 x1 x2 x3 x4 x5 x6).lookup ("rise" : Str) = some x4 := by unfold pcF; simp only [List.lookup, beq_self_eq_true, show (("rise" : Str) == ("start" : Str)) = false by decide +kernel, show (("rise" : Str) == ("stop" : Str)) = false by decide +kernel, show (("rise" : Str) == ("time" : Str)) = false by decide +kernel, show (("rise" : Str) == ("value" : Str)) = false by decide +kernel]
theorem pcF_put_rise (x0 x1 x2 x3 x4 x5 x6 : V) (y : V) : putF ("rise" : Str) y (pcF x0 x1 x2 x3 x4 x5 x6) = pcF x0 x1 x2 x3 y x5 x6 := by unfold pcF; simp only [putF, if_true, if_neg (show ¬ (("start" : Str) = ("rise" : Str)) by decide +kernel), if_neg (show ¬ (("stop" : Str) = ("rise" : Str)) by decide +kernel), if_neg (show ¬ (("time" : Str) = ("rise" : Str)) by decide +kernel), if_neg (show ¬ (("value" : Str) = ("rise" : Str)) by decide +kernel)]
theorem pcF_width (x0 x1 x2 x3 x4 x5 x6 : V) : (pcF x0 x1 x2 x3 x4 x5 x6).lookup ("width" : Str) = some x5 := by unfold pcF; simp only [List.lookup, beq_self_eq_true, show (("width" : Str) == ("start" : Str)) = false by decide +kernel, show (("width" : Str) == ("stop" : Str)) = false by decide +kernel, show (("width" : Str) == ("time" : Str)) = false by decide +kernel, show (("width" : Str) == ("value" : Str)) = false by decide +kernel, show (("width" : Str) == ("rise" : Str)) = false by decide +kernel]
theorem pcF_put_width (x0 x1 x2 x3 x4 x5 x6 : V) (y : V) : putF ("width" : Str) y (pcF x0 x1 x2 x3 x4 x5 x6) = pcF x0 x1 x2 x3 x4 y x6 := by unfold pcF; simp only [putF, if_true, if_neg (show ¬ (("start" : Str) = ("width" : Str)) by decide +kernel), if_neg (show ¬ (("stop" : Str) = ("width" : Str)) by decide +kernel), if_neg (show ¬ (("time" : Str) = ("width" : Str)) by decide +kernel), if_neg (show ¬ (("value" : Str) = ("width" : Str)) by decide +kernel), if_neg (show ¬ (("rise" : Str) = ("width" : Str)) by decide +kernel)]
theorem pcF_strict (x0 x1 x2 x3 x4 x5 x6 : V) : (pcF x0 x1 x2 x3 x4 x5 x6).lookup ("strict" : Str) = some x6 := by unfold pcF; simp only [List.lookup, beq_self_eq_true, show (("strict" : Str) == ("start" : Str)) = false by decide +kernel, show (("strict" : Str) == ("stop" : Str)) = false by decide +kernel, show (("strict" : Str) == ("time" : Str)) = false by decide +kernel, show (("strict" : Str) == ("value" : Str)) = false by decide +kernel, show (("strict" : Str) == ("rise" : Str)) = false by decide +kernel, show (("strict" : Str) == ("width" : Str)) = false by decide +kernel]
theorem pcF_put_strict (x0 x1 x2 x3 x4 x5 x6 : V) (y : V) : putF ("strict" : Str) y (pcF x0 x1 x2 x3 x4 x5 x6) = pcF x0 x1 x2 x3 x4 x5 y := by unfold pcF; simp only [putF, if_true, if_neg (show ¬ (("start" : Str) = ("strict" : Str)) by decide +kernel), if_neg (show ¬ (("stop" : Str) = ("strict" : Str)) by decide +kernel), if_neg (show ¬ (("time" : Str) = ("strict" : Str)) by decide +kernel), if_neg (show ¬ (("value" : Str) = ("strict" : Str)) by decide +kernel), if_neg (show ¬ (("rise" : Str) = ("strict" : Str)) by decide +kernel), if_neg (show ¬ (("width" : Str) = ("strict" : Str)) by decide +kernel)]
theorem pcF_no_covers (x0 x1 x2 x3 x4 x5 x6 : V) : (pcF x0 x1 x2 x3 x4 x5 x6).lookup ("covers" : Str) = none := by unfold pcF; simp only [List.lookup, show (("covers" : Str) == ("start" : Str)) = false by decide +kernel, show (("covers" : Str) == ("stop" : Str)) = false by decide +kernel, show (("covers" : Str) == ("time" : Str)) = false by decide +kernel, show (("covers" : Str) == ("value" : Str)) = false by decide +kernel, show (("covers" : Str) == ("rise" : Str)) = false by decide +kernel, show (("covers" : Str) == ("width" : Str)) = false by decide +kernel, show (("covers" : Str) == ("strict" : Str)) = false by decide +kernel]
theorem pcF_no_bound_at (x0 x1 x2 x3 x4 x5 x6 : V) : (pcF x0 x1 x2 x3 x4 x5 x6).lookup ("bound_at" : Str) = none := by unfold pcF; simp only [List.lookup, show (("bound_at" : Str) == ("start" : Str)) = false by decide +kernel, show (("bound_at" : Str) == ("stop" : Str)) = false by decide +kernel, show (("bound_at" : Str) == ("time" : Str)) = false by decide +kernel, show (("bound_at" : Str) == ("value" : Str)) = false by decide +kernel, show (("bound_at" : Str) == ("rise" : Str)) = false by decide +kernel, show (("bound_at" : Str) == ("width" : Str)) = false by decide +kernel, show (("bound_at" : Str) == ("strict" : Str)) = false by decide +kernel]
theorem pcF_made (x0 x1 x2 x3 x4 x5 x6 : V) : putF ("strict" : Str) x6 (putF ("width" : Str) x5 (putF ("rise" : Str) x4 (putF ("value" : Str) x3 (putF ("time" : Str) x2 (putF ("stop" : Str) x1 (putF ("start" : Str) x0 ([]))))))) = pcF x0 x1 x2 x3 x4 x5 x6 := by unfold pcF; simp only [putF, if_neg (show ¬ (("start" : Str) = ("stop" : Str)) by decide +kernel), if_neg (show ¬ (("start" : Str) = ("time" : Str)) by decide +kernel), if_neg (show ¬ (("stop" : Str) = ("time" : Str)) by decide +kernel), if_neg (show ¬ (("start" : Str) = ("value" : Str)) by decide +kernel), if_neg (show ¬ (("stop" : Str) = ("value" : Str)) by decide +kernel), if_neg (show ¬ (("time" : Str) = ("value" : Str)) by decide +kernel), if_neg (show ¬ (("start" : Str) = ("rise" : Str)) by decide +kernel), if_neg (show ¬ (("stop" : Str) = ("rise" : Str)) by decide +kernel), if_neg (show ¬ (("time" : Str) = ("rise" : Str)) by decide +kernel), if_neg (show ¬ (("value" : Str) = ("rise" : Str)) by decide +kernel), if_neg (show ¬ (("start" : Str) = ("width" : Str)) by decide +kernel), if_neg (show ¬ (("stop" : Str) = ("width" : Str)) by decide +kernel), if_neg (show ¬ (("time" : Str) = ("width" : Str)) by decide +kernel), if_neg (show ¬ (("value" : Str) = ("width" : Str)) by decide +kernel), if_neg (show ¬ (("rise" : Str) = ("width" : Str)) by decide +kernel), if_neg (show ¬ (("start" : Str) = ("strict" : Str)) by decide +kernel), if_neg (show ¬ (("stop" : Str) = ("strict" : Str)) by decide +kernel), if_neg (show ¬ (("time" : Str) = ("strict" : Str)) by decide +kernel), if_neg (show ¬ (("value" : Str) = ("strict" : Str)) by decide +kernel), if_neg (show ¬ (("rise" : Str) = ("strict" : Str)) by decide +kernel), if_neg (show ¬ (("width" : Str) = ("strict" : Str)) by decide +kernel)]
def evF (x0 x1 x2 x3 : V) : List (Str × V) := [("low", x0), ("high", x1), ("lower", x2), ("upper", x3)]
theorem evF_low (x0 x1 x2 x3 : V) : (evF x0 x1 x2 x3).lookup ("low" : Str) = some x0 := by unfold evF; simp only [List.lookup, beq_self_eq_true]
theorem evF_put_low (x0 x1 x2 x3 : V) (y : V) : putF ("low" : Str) y (evF x0 x1 x2 x3) = evF y x1 x2 x3 := by unfold evF; simp only [putF, if_true]
theorem evF_high (x0 x1 x2 x3 : V) : (evF x0 x1 x2 x3).lookup ("high" : Str) = some x1 := by unfold evF; simp only [List.lookup, beq_self_eq_true, show (("high" : Str) == ("low" : Str)) = false by decide +kernel]
theorem evF_put_high (x0 x1 x2 x3 : V) (y : V) : putF ("high" : Str) y (evF x0 x1 x2 x3) = evF x0 y x2 x3 := by unfold evF; simp only [putF, if_true, if_neg (show ¬ (("low" : Str) = ("high" : Str)) by decide +kernel)]
theorem evF_lower (x0 x1 x2 x3 : V) : (evF x0 x1 x2 x3).lookup ("lower" : Str) = some x2 := by unfold evF; simp only [List.lookup, beq_self_eq_true, show (("lower" : Str) == ("low" : Str)) = false by decide +kernel, show (("lower" : Str) == ("high" : Str)) = false by decide +kernel]
theorem evF_put_lower (x0 x1 x2 x3 : V) (y : V) : putF ("lower" : Str) y (evF x0 x1 x2 x3) = evF x0 x1 y x3 := by unfold evF; simp only [putF, if_true, if_neg (show ¬ (("low" : Str) = ("lower" : Str)) by decide +kernel), if_neg (show ¬ (("high" : Str) = ("lower" : Str)) by decide +kernel)]
theorem evF_upper (x0 x1 x2 x3 : V) : (evF x0 x1 x2 x3).lookup ("upper" : Str) = some x3 := by unfold evF; simp only [List.lookup, beq_self_eq_true, show (("upper" : Str) == ("low" : Str)) = false by decide +kernel, show (("upper" : Str) == ("high" : Str)) = false by decide +kernel, show (("upper" : Str) == ("lower" : Str)) = false by decide +kernel]
theorem evF_put_upper (x0 x1 x2 x3 : V) (y : V) : putF ("upper" : Str) y (evF x0 x1 x2 x3) = evF x0 x1 x2 y := by unfold evF; simp only [putF, if_true, if_neg (show ¬ (("low" : Str) = ("upper" : Str)) by decide +kernel), if_neg (show ¬ (("high" : Str) = ("upper" : Str)) by decide +kernel), if_neg (show ¬ (("lower" : Str) = ("upper" : Str)) by decide +kernel)]
theorem evF_no_least (x0 x1 x2 x3 : V) : (evF x0 x1 x2 x3).lookup ("least" : Str) = none := by unfold evF; simp only [List.lookup, show (("least" : Str) == ("low" : Str)) = false by decide +kernel, show (("least" : Str) == ("high" : Str)) = false by decide +kernel, show (("least" : Str) == ("lower" : Str)) = false by decide +kernel, show (("least" : Str) == ("upper" : Str)) = false by decide +kernel]
theorem evF_no_greatest (x0 x1 x2 x3 : V) : (evF x0 x1 x2 x3).lookup ("greatest" : Str) = none := by unfold evF; simp only [List.lookup, show (("greatest" : Str) == ("low" : Str)) = false by decide +kernel, show (("greatest" : Str) == ("high" : Str)) = false by decide +kernel, show (("greatest" : Str) == ("lower" : Str)) = false by decide +kernel, show (("greatest" : Str) == ("upper" : Str)) = false by decide +kernel]
theorem evF_made (x0 x1 x2 x3 : V) : putF ("upper" : Str) x3 (putF ("lower" : Str) x2 (putF ("high" : Str) x1 (putF ("low" : Str) x0 ([])))) = evF x0 x1 x2 x3 := by unfold evF; simp only [putF, if_neg (show ¬ (("low" : Str) = ("high" : Str)) by decide +kernel), if_neg (show ¬ (("low" : Str) = ("lower" : Str)) by decide +kernel), if_neg (show ¬ (("high" : Str) = ("lower" : Str)) by decide +kernel), if_neg (show ¬ (("low" : Str) = ("upper" : Str)) by decide +kernel), if_neg (show ¬ (("high" : Str) = ("upper" : Str)) by decide +kernel), if_neg (show ¬ (("lower" : Str) = ("upper" : Str)) by decide +kernel)]
end K67

set_option Elab.async false
set_option linter.all false
set_option maxRecDepth 100000
set_option maxHeartbeats 4000000
namespace K67
open PySem PySem.Spec PyProof.Rows L2
/-! ### methods and classes of the text -/
def CanM (P : Program) (w : World) (K : PySem.W.Frag) (mg : Str → Option Value) (base : Heap) (C : Addr) (m : Str) (k : Nat) (ps : List Str) (sp : Sp) : Prop :=
  ∃ (f : Addr) (fd : FuncData), Meth K C m f ∧ Binds K fd ps [] ∧ FnOk P w K mg base CX0 k f fd ps sp
def CanMk (P : Program) (w : World) (K : PySem.W.Frag) (mg : Str → Option Value) (base : Heap) (x : Str) (C : Addr) (k : Nat) (ps : List Str) (sp : Sp) : Prop :=
  ∃ (f : Addr) (fd : FuncData), mg x = some (.ref C) ∧ Mk K C f ∧ Binds K fd ps [] ∧ FnOk P w K mg base CX0 k f fd ps sp
/-- a method as it stands behind the top -/
structure Dm (K : PySem.W.Frag) (C : Addr) (m qual : Str) (st : Stmt) (ps : List Str) (f : Addr) (fd : FuncData) : Prop where
  fn : Fun K m qual st f fd
  me : Meth K C m f
  bd : Binds K fd ps []
structure Di (K : PySem.W.Frag) (mg : Str → Option Value) (x : Str) (C : Addr) (qual : Str) (st : Stmt) (ps : List Str) (f : Addr) (fd : FuncData) : Prop where
  fn : Fun K "__init__" qual st f fd
  mak : Mk K C f
  mg : mg x = some (.ref C)
  bd : Binds K fd ps []
section
variable {P : Program} {w : World} {K : PySem.W.Frag} {mg : Str → Option Value} {base : Heap}
theorem Dm.can {C : Addr} {m qual : Str} {st : Stmt} {k : Nat} {ps : List Str} {f : Addr} {fd : FuncData} {sp : Sp} (D : Dm K C m qual st ps f fd) (F : FnOk P w K mg base CX0 k f fd ps sp) : CanM P w K mg base C m k ps sp := ⟨f, fd, D.me, D.bd, F⟩
theorem Di.can {C : Addr} {x qual : Str} {st : Stmt} {k : Nat} {ps : List Str} {f : Addr} {fd : FuncData} {sp : Sp} (D : Di K mg x C qual st ps f fd) (F : FnOk P w K mg base CX0 k f fd ps sp) : CanMk P w K mg base x C k ps sp := ⟨f, fd, D.mg, D.mak, D.bd, F⟩
end
theorem pe_canM {X : Cx} {C : Addr} {m : Str} {k : Nat} {ps : List Str} {sp : Sp} {o e : Expr} {es : List Expr} {ta : TE} {t : TA} {apos pos : Pos} {pl : Sem Bool} (M : CanM X.prog X.w X.K X.mg X.base C m k ps sp) (c : Cls X.K C) (hr : Room k X.A) (he : PE X o ta) (ha : PA X (e :: es) t)
    (hst : starEach (e :: es) X.env = (false, eval e X.env) :: starEach es X.env := by rfl) (hpl : (backTo pos (starEach es X.env)).any (·.1) = false := by rfl)
    (ht : eval (.Call (.Attribute o m apos) (e :: es) [] pos) X.env = (do
      let ov ← eval o X.env
      standAt apos.atName
      let (f, first) ← holding [ov] (getMethod ov m pl)
      callWith pos f first (backTo pos (starEach (e :: es) X.env)) (backToKw pos (keywordEach [] X.env))) := by rfl) :
    PE X (.Call (.Attribute o m apos) (e :: es) [] pos) (tMeth C m sp [] E0 ta t) := by
  obtain ⟨f, fd, h1, h2, h3⟩ := M
  exact pe_meth he c h1 h3 hr h2 .nil pass0 ha hst hpl ht
theorem pe_canM0 {X : Cx} {C : Addr} {m : Str} {k : Nat} {ps : List Str} {sp : Sp} {o : Expr} {ta : TE} {apos pos : Pos} {pl : Sem Bool} (M : CanM X.prog X.w X.K X.mg X.base C m k ps sp) (c : Cls X.K C) (hr : Room k X.A) (he : PE X o ta)
    (ht : eval (.Call (.Attribute o m apos) [] [] pos) X.env = (do
      let ov ← eval o X.env
      standAt apos.atName
      let (f, first) ← holding [ov] (getMethod ov m pl)
      callWith pos f first (backTo pos (starEach [] X.env)) (backToKw pos (keywordEach [] X.env))) := by rfl) :
    PE X (.Call (.Attribute o m apos) [] [] pos) (tMeth C m sp [] E0 ta tNil) := by
  obtain ⟨f, fd, h1, h2, h3⟩ := M
  exact pe_meth0 he c h1 h3 hr h2 .nil pass0 ht
theorem pe_canMk {X : Cx} {x : Str} {C : Addr} {k : Nat} {ps : List Str} {sp : Sp} {e : Expr} {es : List Expr} {t : TA} {p pos : Pos} (M : CanMk X.prog X.w X.K X.mg X.base x C k ps sp) (hr : Room (k + 1) X.A) (ha : PA X (e :: es) t) (hg : Gl X x := by rfl)
    (hdb : (x == ("__debug__" : Str)) = false := by decide) (he : starEach (e :: es) X.env = (false, eval e X.env) :: starEach es X.env := by rfl) (hpl : (backTo pos (starEach es X.env)).any (·.1) = false := by rfl) :
    PE X (.Call (.Name x p) (e :: es) [] pos) (tMake C sp [] E0 t) := by
  obtain ⟨f, fd, h1, h2, h3, h4⟩ := M
  exact pe_make h2 h4 hr hg h1 h3 .nil pass0 ha hdb he hpl
/-! ### one thing changes -/
def But (p : Addr) (H H' : Hp) : Prop := ∀ b o, H b = some o → b ≠ p → H' b = some o
theorem But.refl (p : Addr) (H : Hp) : But p H H := fun _ _ e _ => e
theorem But.trans {p : Addr} {H H1 H2 : Hp} (a : But p H H1) (b : But p H1 H2) : But p H H2 := fun c o e n => b c o (a c o e n) n
theorem But.upd {p : Addr} {H : Hp} {o : HO} : But p H (upd H p o) := fun b u e n => by rw [upd_ne n]; exact e
theorem Same.but {p : Addr} {H H' : Hp} (s : Same H H') : But p H H' := fun b o e _ => s b o e
theorem TupV.but {p : Addr} {H H' : Hp} {v : V} {xs : List V} {C dx : Addr} {fs : List (Str × V)} (e : But p H H') (hp : H p = some (.ins C dx fs)) (h : TupV H v xs) : TupV H' v xs := by
  obtain ⟨a, h1, h2⟩ := h
  exact ⟨a, h1, e a _ h2 (ne_of h2 hp (fun z => by cases z))⟩
theorem OptV.but {p : Addr} {H H' : Hp} {v : V} {o : Option Pr} {C dx : Addr} {fs : List (Str × V)} (e : But p H H') (hp : H p = some (.ins C dx fs)) (h : OptV H v o) : OptV H' v o := by
  cases o with
  | none => exact h
  | some x => exact TupV.but e hp h
/-! ### RateBounds -/
structure RbC (K : PySem.W.Frag) (C : Addr) : Prop where
  cl : Cls K C
  n1 : NoAttr K C "low"
  n2 : NoAttr K C "low_pair"
  n3 : NoAttr K C "high"
  n4 : NoAttr K C "high_pair"
  n5 : NoAttr K C "clash"
def RbAt (C : Addr) (H : Hp) (p : Addr) (b : RB) : Prop :=
  ∃ dx vl vlp vh vhp vc, H p = some (.ins C dx (rbF vl vlp vh vhp vc)) ∧ OptV H vl b.low ∧ OptV H vh b.high ∧ (b.clash = false → vc = .non) ∧ (b.clash = true → vc ≠ .non)
def RbSz (B : Nat) (b : RB) : Prop := NbO (B + 2) b.low ∧ NbO (B + 2) b.high
def RecSz (B : Nat) (r : Rec) : Prop := Nb B r.t ∧ Nb B r.n
theorem room_sz {B : Nat} {i j : Rec} (h1 : RecSz B i) (h2 : RecSz B j) : Nb (B + 2) (j.n + 1 - i.n) ∧ Nb (B + 2) (j.t - i.t) := by
  obtain ⟨a1, a2⟩ := h1
  obtain ⟨b1, b2⟩ := h2
  have hp : 0 < 2 ^ B := Nat.pow_pos (by decide)
  unfold Nb at *
  rw [Nat.pow_add]
  constructor <;> omega
theorem tighten_sz {B : Nat} {b : RB} {i j : Rec} (h : RbSz B b) (h1 : RecSz B i) (h2 : RecSz B j) : RbSz B (tighten b i j) := by
  obtain ⟨z1, z2⟩ := room_sz h1 h2
  have z3 : Nb (B + 2) (0 - (j.n + 1 - i.n)) := by rw [Int.zero_sub]; exact z1.neg
  have z4 : Nb (B + 2) (0 - (j.t - i.t)) := by rw [Int.zero_sub]; exact z2.neg
  unfold tighten
  split
  · split
    · exact h
    · exact h
  · split
    · unfold upHigh
      split
      · exact ⟨h.1, fun x e => by cases e; exact ⟨z1, z2⟩⟩
      · split
        · exact ⟨h.1, fun x e => by cases e; exact ⟨z1, z2⟩⟩
        · exact h
    · unfold upLow
      split
      · exact ⟨fun x e => by cases e; exact ⟨z3, z4⟩, h.2⟩
      · split
        · exact ⟨fun x e => by cases e; exact ⟨z3, z4⟩, h.2⟩
        · exact h
section
variable {P : Program} {w : World} {K : PySem.W.Frag} {mg : Str → Option Value} {base : Heap}
def spTighten (C : Addr) : Sp := fun vs H Q _ => ∃ (p ap : Addr) (v1 v2 : V) (i j : Rec) (b : RB) (B : Nat), vs = [.ref p, .ref ap, v1, v2] ∧ RbAt C H p b ∧ RecV H v1 i ∧ RecV H v2 j ∧ B ≤ 4000 ∧ RecSz B i ∧ RecSz B j ∧ RbSz B b ∧
  ∀ H', But p H H' → RbAt C H' p (tighten b i j) → Q .non H'
theorem scTi : FnScope ["self", "pair", "one", "other", "room", "distance"] ["self", "pair", "one", "other"] (defScope (inClass (top 25) 1)) := ⟨rfl, rfl, rfl, by decide +kernel, rfl, by decide +kernel, by decide +kernel⟩
theorem can_tighten {C f : Addr} {fd : FuncData} (T : RbC K C) (D : Dm K C "tighten" "RateBounds.tighten" (inClass (top 25) 1) ["self", "pair", "one", "other"] f fd) (C1 : Can P w K mg base "is_less" 1 ["one", "other"] spLess) :
    CanM P w K mg base C "tighten" 2 ["self", "pair", "one", "other"] (spTighten C) := by
  refine D.can (D.fn.ok scTi (fun vs H Q E h => ?_) (fun cdv A outer s H vs Q E hr h => ?_))
  · obtain ⟨p, ap, v1, v2, i, j, b, B, rfl, _⟩ := h
    rfl
  · obtain ⟨p, ap, v1, v2, i, j, b, B, rfl, ⟨dx, vl, vlp, vh, vhp, vc, hp, hl, hh, hc0, hc1⟩, ⟨a1, rfl, ha1⟩, ⟨a2, rfl, ha2⟩, hB, si, sj, sb, k⟩ := h
    refine ⟨_, pss_cons (ps_par (i := 4) (j := 5) (by rfl) scTi.nd rfl rfl (by decide) rfl rfl (pa_cons (pe_op op_sub (pe_op op_add (pe_ix ix_tup (pv 3) pe_int (fun _ _ => rfl)) pe_int) (pe_ix ix_tup (pv 2) pe_int (fun _ _ => rfl))) (pa_cons (pe_op op_sub (pe_ix ix_tup (pv 3) pe_int (fun _ _ => rfl)) (pe_ix ix_tup (pv 2) pe_int (fun _ _ => rfl))) pa_nil)) (by rfl))
      (pss_one (ps_if (pt_cmpR op_eq (pv 5) pe_int (nomark _)) (pss_one (ps_if (pt_cmpR op_le (pv 4) pe_int (nomark _)) (pss_one (ps_fld (pv 0) (pv 1) rfl)) pss_nil))
        (pss_one (ps_if (pt_cmpR op_gt (pv 5) pe_int (nomark _))
          (pss_one (ps_if (PW.pt (pw_or (pt_cmpR op_isN (pe_fld (pv 0) rfl) pe_non (nomark _)) (pw_or1 (pt_val (pe_can C1 hr (pa_cons (pe_tup (pa_cons (pv 4) (pa_cons (pv 5) pa_nil))) (pa_cons (pe_fld (pv 0) rfl) pa_nil)))))))
            (pss_cons (ps_fld (pv 0) (pe_tup (pa_cons (pv 4) (pa_cons (pv 5) pa_nil))) rfl) (pss_one (ps_fld (pv 0) (pv 1) rfl))) pss_nil))
          (pss_one (ps_if (PW.pt (pw_or (pt_cmpR op_isN (pe_fld (pv 0) rfl) pe_non (nomark _)) (pw_or1 (pt_val (pe_can C1 hr (pa_cons (pe_fld (pv 0) rfl) (pa_cons (pe_tup (pa_cons (pe_op op_sub pe_int (pv 4)) (pa_cons (pe_op op_sub pe_int (pv 5)) pa_nil))) pa_nil)))))))
            (pss_cons (ps_fld (pv 0) (pe_tup (pa_cons (pe_op op_sub pe_int (pv 4)) (pa_cons (pe_op op_sub pe_int (pv 5)) pa_nil))) rfl) (pss_one (ps_fld (pv 0) (pv 1) rfl))) pss_nil)))))), ?_⟩
    obtain ⟨z1, z2⟩ := room_sz si sj
    refine ⟨_, rfl, a2, _, 2, _, rfl, rfl, SqT.of ha2, rfl, _, _, rfl, rfl, _, rfl, a1, _, 2, _, rfl, rfl, SqT.of ha1, rfl, _, _, rfl, rfl, ?_⟩
    refine ⟨_, rfl, a2, _, 1, _, rfl, rfl, SqT.of ha2, rfl, _, rfl, a1, _, 1, _, rfl, rfl, SqT.of ha1, rfl, _, _, rfl, rfl, _, _, rfl, ?_⟩
    have fin : ∀ {b' : RB}, b' = tighten b i j → ∀ H', But p H H' → RbAt C H' p b' → Q .non H' := fun {b'} e H' h1 h2 => k H' h1 (e ▸ h2)
    -- the heap behind the stores
    have st2 : ∀ (H1 : Hp) (q : Addr) (x : Pr), Same H H1 → H1 q = none → ∀ (fs : List (Str × V)) (o : HO), But p H (upd (upd (upd H1 q (.tup (prL x))) p o) p (.ins C dx fs)) := by
      intro H1 q x s1 hq fs o c u e n
      rw [upd_ne n, upd_ne n, upd_ne (ne_of_none (s1 _ _ e) hq)]
      exact s1 _ _ e
    refine ⟨_, rfl, rfl, _, rfl, ite2 (fun c => ?_) (fun c => ?_)⟩
    · have e0 : j.t - i.t = 0 := V.int.inj (of_decide_eq_true c)
      refine ⟨_, rfl, _, _, rfl, rfl, _, rfl, ite2 (fun c => ?_) (fun c => ?_)⟩
      · have e1 := of_decide_eq_true c
        refine ⟨_, rfl, _, rfl, p, C, dx, _, rfl, hp, T.cl, T.n5, (by show 5 < 1000; decide), ?_⟩
        rw [rbF_put_clash]
        refine fin (b' := { b with clash := true }) (by unfold tighten; rw [if_pos e0, if_pos e1]) _ But.upd ⟨dx, vl, vlp, vh, vhp, _, upd_same, hl.but But.upd hp, hh.but But.upd hp, fun z => (by cases z), fun _ z => (by cases z)⟩
      · have e1 : ¬ (j.n + 1 - i.n ≤ 0) := fun z => c (decide_eq_true z)
        exact fin (b' := b) (by unfold tighten; rw [if_pos e0, if_neg e1]) _ (But.refl _ _) ⟨dx, vl, vlp, vh, vhp, vc, hp, hl, hh, hc0, hc1⟩
    · have e0 : ¬ (j.t - i.t = 0) := fun z => c (decide_eq_true (congrArg V.int z))
      refine ⟨_, rfl, _, _, rfl, rfl, _, rfl, ite2 (fun c => ?_) (fun c => ?_)⟩
      · have e1 := of_decide_eq_true c
        have et : tighten b i j = upHigh b (j.n + 1 - i.n, j.t - i.t) := by unfold tighten; rw [if_neg e0, if_pos e1]
        -- the two stores
        have sto : ∀ (H1 : Hp) (b' : RB), Same H H1 → b' = { b with high := some (j.n + 1 - i.n, j.t - i.t) } → b' = tighten b i j →
            tSeq (sFld K (tVar 0) (tTup (tCons (tVar 4) (tCons (tVar 5) tNil))) "high") (sFld K (tVar 0) (tVar 1) "high_pair") { nx := fun _ H' => Q .non H', rt := Q } [some (.ref p), some (.ref ap), some (.ref a1), some (.ref a2), some (.int (j.n + 1 - i.n)), some (.int (j.t - i.t))] H1 := by
          intro H1 b' s1 eb eb2
          refine ⟨_, rfl, _, rfl, (by show 2 ≤ sizeLine; decide), fun q hq => ?_⟩
          have s2 : Same H (upd H1 q (.tup (prL (j.n + 1 - i.n, j.t - i.t)))) := Same.upd s1 (s1.free hq)
          have nqp : q ≠ p := fun z => by rw [z, s1 _ _ hp] at hq; cases hq
          refine ⟨_, rfl, p, C, dx, _, rfl, s2 _ _ hp, T.cl, T.n3, (by show 5 < 1000; decide), ?_⟩
          rw [rbF_put_high]
          refine ⟨_, rfl, _, rfl, p, C, dx, _, rfl, upd_same, T.cl, T.n4, (by show 5 < 1000; decide), ?_⟩
          rw [rbF_put_high_pair]
          have bt := st2 H1 q (j.n + 1 - i.n, j.t - i.t) s1 hq (rbF vl vlp (.ref q) (.ref ap) vc) (.ins C dx (rbF vl vlp (.ref q) vhp vc))
          refine fin eb2 _ bt ⟨dx, vl, vlp, .ref q, .ref ap, vc, upd_same, ?_, ?_, ?_, ?_⟩
          · rw [eb]; exact hl.but bt hp
          · rw [eb]; exact ⟨q, rfl, by rw [upd_ne nqp, upd_ne nqp]; exact upd_same⟩
          · rw [eb]; exact hc0
          · rw [eb]; exact hc1
        refine ⟨_, rfl, p, C, dx, _, _, rfl, hp, T.cl, T.n3, rbF_high .., rfl, _, rfl, ?_⟩
        cases eh : b.high with
        | none =>
          rw [eh] at hh
          obtain rfl : vh = .non := hh
          refine ite2 (fun _ => ?_) (fun c => absurd rfl c)
          refine iteT ?_
          exact sto H _ (Same.refl _) rfl (by rw [et]; unfold upHigh; rw [eh])
        | some h =>
          rw [eh] at hh
          obtain ⟨ah, rfl, hah⟩ := hh
          refine iteF ?_
          obtain ⟨y1, y2⟩ := sb.2 h eh
          refine ⟨_, rfl, _, rfl, (by show 2 ≤ sizeLine; decide), fun q hq => ?_⟩
          have s2 : Same H (upd H q (.tup (prL (j.n + 1 - i.n, j.t - i.t)))) := Same.new hq
          refine ⟨_, rfl, p, C, dx, _, _, rfl, s2 _ _ hp, T.cl, T.n3, rbF_high .., ?_⟩
          refine ⟨_, _, (j.n + 1 - i.n, j.t - i.t), h, B + 2, rfl, ⟨q, rfl, upd_same⟩, ⟨ah, rfl, s2 _ _ hah⟩, by omega, z1, z2, y1, y2, _, rfl, ?_⟩
          refine ite2 (fun c => ?_) (fun c => ?_)
          · exact sto _ _ s2 rfl (by rw [et]; unfold upHigh; rw [eh]; dsimp only; rw [if_pos c])
          · exact fin (b' := b) (by rw [et]; unfold upHigh; rw [eh]; dsimp only; rw [if_neg c]) _ (Same.but s2) ⟨dx, vl, vlp, .ref ah, vhp, vc, s2 _ _ hp, hl.same s2, by rw [eh]; exact ⟨ah, rfl, s2 _ _ hah⟩, hc0, hc1⟩
      · have e1 : ¬ (0 < j.t - i.t) := fun z => c (decide_eq_true z)
        have et : tighten b i j = upLow b (0 - (j.n + 1 - i.n), 0 - (j.t - i.t)) := by unfold tighten; rw [if_neg e0, if_neg e1]
        have sto : ∀ (H1 : Hp) (b' : RB), Same H H1 → b' = { b with low := some (0 - (j.n + 1 - i.n), 0 - (j.t - i.t)) } → b' = tighten b i j →
            tSeq (sFld K (tVar 0) (tTup (tCons (tOp (rI0 fun i j => .int (i - j)) (tC (.int 0)) (tVar 4)) (tCons (tOp (rI0 fun i j => .int (i - j)) (tC (.int 0)) (tVar 5)) tNil))) "low") (sFld K (tVar 0) (tVar 1) "low_pair") { nx := fun _ H' => Q .non H', rt := Q } [some (.ref p), some (.ref ap), some (.ref a1), some (.ref a2), some (.int (j.n + 1 - i.n)), some (.int (j.t - i.t))] H1 := by
          intro H1 b' s1 eb eb2
          refine ⟨_, rfl, _, _, rfl, rfl, _, rfl, _, _, rfl, rfl, (by show 2 ≤ sizeLine; decide), fun q hq => ?_⟩
          have s2 : Same H (upd H1 q (.tup (prL (0 - (j.n + 1 - i.n), 0 - (j.t - i.t))))) := Same.upd s1 (s1.free hq)
          have nqp : q ≠ p := fun z => by rw [z, s1 _ _ hp] at hq; cases hq
          refine ⟨_, rfl, p, C, dx, _, rfl, s2 _ _ hp, T.cl, T.n1, (by show 5 < 1000; decide), ?_⟩
          rw [rbF_put_low]
          refine ⟨_, rfl, _, rfl, p, C, dx, _, rfl, upd_same, T.cl, T.n2, (by show 5 < 1000; decide), ?_⟩
          rw [rbF_put_low_pair]
          have bt := st2 H1 q (0 - (j.n + 1 - i.n), 0 - (j.t - i.t)) s1 hq (rbF (.ref q) (.ref ap) vh vhp vc) (.ins C dx (rbF (.ref q) vlp vh vhp vc))
          refine fin eb2 _ bt ⟨dx, .ref q, .ref ap, vh, vhp, vc, upd_same, ?_, ?_, ?_, ?_⟩
          · rw [eb]; exact ⟨q, rfl, by rw [upd_ne nqp, upd_ne nqp]; exact upd_same⟩
          · rw [eb]; exact hh.but bt hp
          · rw [eb]; exact hc0
          · rw [eb]; exact hc1
        refine ⟨_, rfl, p, C, dx, _, _, rfl, hp, T.cl, T.n1, rbF_low .., rfl, _, rfl, ?_⟩
        cases el : b.low with
        | none =>
          rw [el] at hl
          obtain rfl : vl = .non := hl
          refine ite2 (fun _ => ?_) (fun c => absurd rfl c)
          refine iteT ?_
          exact sto H _ (Same.refl _) rfl (by rw [et]; unfold upLow; rw [el])
        | some l =>
          rw [el] at hl
          obtain ⟨al, rfl, hal⟩ := hl
          refine iteF ?_
          obtain ⟨y1, y2⟩ := sb.1 l el
          have z3 : Nb (B + 2) (0 - (j.n + 1 - i.n)) := by rw [Int.zero_sub]; exact z1.neg
          have z4 : Nb (B + 2) (0 - (j.t - i.t)) := by rw [Int.zero_sub]; exact z2.neg
          refine ⟨_, rfl, p, C, dx, _, _, rfl, hp, T.cl, T.n1, rbF_low .., ?_⟩
          refine ⟨_, rfl, _, _, rfl, rfl, _, rfl, _, _, rfl, rfl, (by show 2 ≤ sizeLine; decide), fun q hq => ?_⟩
          have s2 : Same H (upd H q (.tup (prL (0 - (j.n + 1 - i.n), 0 - (j.t - i.t))))) := Same.new hq
          refine ⟨_, _, l, (0 - (j.n + 1 - i.n), 0 - (j.t - i.t)), B + 2, rfl, ⟨al, rfl, s2 _ _ hal⟩, ⟨q, rfl, upd_same⟩, by omega, y1, y2, z3, z4, _, rfl, ?_⟩
          refine ite2 (fun c => ?_) (fun c => ?_)
          · exact sto _ _ s2 rfl (by rw [et]; unfold upLow; rw [el]; dsimp only; rw [if_pos c])
          · exact fin (b' := b) (by rw [et]; unfold upLow; rw [el]; dsimp only; rw [if_neg c]) _ (Same.but s2) ⟨dx, .ref al, vlp, vh, vhp, vc, s2 _ _ hp, by rw [el]; exact ⟨al, rfl, s2 _ _ hal⟩, hh.same s2, hc0, hc1⟩
end
end K67

set_option Elab.async false
set_option linter.all false
set_option maxRecDepth 100000
set_option maxHeartbeats 4000000
namespace K67
open PySem PySem.Spec PyProof.Rows L2
theorem putF_len {f : Str} {v : V} {fs : List (Str × V)} {n : Nat} (h : fs.length < n) : (putF f v fs).length < n + 1 := Nat.lt_of_le_of_lt (length_putF f v fs) (by omega)
theorem asg_mid {te : TE} {g : TG} {u : TS} {D : Ends} {σ : L2.St} {H : Hp} (h : te σ H fun x H1 => g x σ H1 (u D)) : tSeq (tAsg te g) u D σ H := h
/-! ### the records of one kind, with their indexes -/
def sel (b : Bool) (rs : List Rec) : List Rec := rs.filter (fun r => r.lo == b)
theorem sel_true (rs : List Rec) : sel true rs = lows rs := by unfold sel lows; congr 1; funext r; cases r.lo <;> rfl
theorem sel_false (rs : List Rec) : sel false rs = ups rs := by unfold sel ups; congr 1; funext r; cases r.lo <;> rfl
def IdxV (H : Hp) (v : V) (r : Rec) : Prop := ∃ (i : Int) (u : V), TupV H v [.int i, u] ∧ RecV H u r
theorem IdxV.same {H H' : Hp} {v : V} {r : Rec} (e : Same H H') (h : IdxV H v r) : IdxV H' v r := by
  obtain ⟨i, u, h1, h2⟩ := h
  exact ⟨i, u, TupV.same e h1, TupV.same e h2⟩
theorem IdxV.but {p : Addr} {H H' : Hp} {v : V} {r : Rec} {C dx : Addr} {fs : List (Str × V)} (e : But p H H') (hp : H p = some (.ins C dx fs)) (h : IdxV H v r) : IdxV H' v r := by
  obtain ⟨i, u, h1, h2⟩ := h
  exact ⟨i, u, TupV.but e hp h1, TupV.but e hp h2⟩
theorem kind_dec (b b' : Bool) : decide (V.str (kindS b) = V.str (kindS b')) = (b == b') := by cases b <;> cases b' <;> decide +kernel
theorem sel_snoc {b : Bool} {rs : List Rec} {i : Nat} {r : Rec} (h : rs[i]? = some r) : sel b (rs.take (i + 1)) = sel b (rs.take i) ++ (if (r.lo == b) = true then [r] else []) := by
  unfold sel
  rw [List.take_add_one, h, List.filter_append]
  congr 1
  simp only [Option.toList, List.filter_cons, List.filter_nil]
theorem sel_len (b : Bool) (rs : List Rec) : (sel b rs).length ≤ rs.length := List.length_filter_le ..
theorem comp_kind (K : PySem.W.Frag) (b : Bool) {s0 s2 s3 s4 s5 s6 s7 s8 s9 : Option V} {a : Addr} {rs : List Rec} {H : Hp} {Q : VK} (hR : RecsAt H a rs) (hl : rs.length ≤ 300)
    (k : ∀ D H' vs, Same H H' → H' D = some (.lst vs) → Paired (IdxV H') vs (sel b rs) → Q (.ref D) H') :
    tLc (iEnumS K (tCons (tVar 1) tNil)) (gTup K 2 (gCons (gName 8) (gCons (gName 9) gNil))) (tTest (tOp rEq (tOp (rIxT K) (tVar 9) (tC (.int 0))) (tC (.str (kindS b))))) (tTup (tCons (tVar 8) (tCons (tVar 9) tNil))) [8, 9]
      [s0, some (.ref a), s2, s3, s4, s5, s6, s7, s8, s9] H Q := by
  obtain ⟨us, hq, hv⟩ := hR
  have hlen := paired_len hv
  refine ⟨_, rfl, a, us, rfl, hq.sq, fun J W D hD => lc_it W (fun i H' => Same H H' ∧ ∃ acc, H' D = some (.lst acc) ∧ Paired (IdxV H') acc (sel b (rs.take i))) ⟨Same.new hD, [], upd_same, .nil⟩ (fun _ _ _ h => h.1) ?_ ?_⟩
  · rintro i x H1 H2 hi ⟨sm, acc, h1, hp⟩ ⟨t, y, z, rfl, ht, rfl, e1, e2⟩
    obtain rfl := Option.some.inj e1
    obtain ⟨r, hr, ⟨ar, rfl, har⟩⟩ := paired_at hv e2
    have s2 : Same H1 (upd H1 t (.tup [.int (i : Nat), .ref ar])) := Same.new ht
    have nD : D ≠ t := ne_of_none h1 ht
    have hacc : acc.length ≤ 300 := by
      have := paired_len hp
      have := sel_len b (rs.take i)
      have := List.length_take_le i rs
      have := List.length_take_le' i rs
      omega
    refine ⟨t, _, rfl, SqT.of upd_same, rfl, _, _, rfl, _, _, rfl, rfl, rfl, _, rfl, ar, _, 0, _, rfl, rfl, SqT.of ((sm.trans s2) _ _ har), rfl, rfl, _, rfl, ?_⟩
    have ed : decide (V.str (kindS r.lo) = V.str (kindS b)) = (r.lo == b) := kind_dec _ _
    refine ite2 (fun c => ?_) (fun c => ?_)
    · have c : (r.lo == b) = true := ed.symm.trans c
      refine ⟨_, rfl, _, rfl, (by show 2 ≤ sizeLine; decide), fun q hq' => ?_⟩
      have s3 : Same H1 (upd (upd H1 t (.tup [.int (i : Nat), .ref ar])) q (.tup [.int (i : Nat), .ref ar])) := Same.upd s2 (s2.free hq')
      have nq : D ≠ q := ne_of_none (s2 _ _ h1) hq'
      refine ⟨acc, (by rw [upd_ne nq, upd_ne nD]; exact h1), small1000 (by omega), ?_⟩
      have e4 : ∀ H4 : Hp, (∀ c o, H1 c = some o → c ≠ D → H4 c = some o) → ∀ v r, IdxV H1 v r → IdxV H4 v r := by
        rintro H4 g v r ⟨i, u, ⟨a1, rfl, g1⟩, ⟨a2, rfl, g2⟩⟩
        exact ⟨i, _, ⟨a1, rfl, g _ _ g1 (ne_of g1 h1 (fun z => by cases z))⟩, ⟨a2, rfl, g _ _ g2 (ne_of g2 h1 (fun z => by cases z))⟩⟩
      have g4 : ∀ c o, H1 c = some o → c ≠ D → (upd (upd (upd H1 t (.tup [.int (i : Nat), .ref ar])) q (.tup [.int (i : Nat), .ref ar])) D (.lst (acc ++ [.ref q]))) c = some o := fun c o e n => by rw [upd_ne n]; exact s3 _ _ e
      refine ⟨fun c o e => ?_, _, upd_same, ?_⟩
      · rw [upd_ne (ne_of_none e hD)]
        exact s3 _ _ (sm _ _ e)
      · rw [sel_snoc hr, if_pos c]
        refine paired_snoc ⟨(i : Nat), .ref ar, ⟨q, rfl, by rw [upd_ne nq.symm]; exact upd_same⟩, ⟨ar, rfl, ?_⟩⟩ (paired_mono (e4 _ g4) hp)
        have := sm _ _ har
        exact g4 _ _ this (ne_of this h1 (fun z => by cases z))
    · have c : ¬ (r.lo == b) = true := fun z => c (ed.trans z)
      refine ⟨sm.trans s2, acc, s2 _ _ h1, ?_⟩
      rw [sel_snoc hr, if_neg c, List.append_nil]
      exact paired_mono (fun _ _ => IdxV.same s2) hp
  · rintro H' ⟨sm, acc, h1, hp⟩
    rw [hlen, List.take_length] at hp
    exact k D H' acc sm h1 hp
/-! ### RateBounds.__init__ -/
def fold1 (b : RB) (i : Rec) (us : List Rec) : RB := us.foldl (fun b j => tighten b i j) b
def fold2 (b : RB) (ls us : List Rec) : RB := ls.foldl (fun b i => fold1 b i us) b
theorem fold1_snoc {b : RB} {i r : Rec} {us : List Rec} {k : Nat} (h : us[k]? = some r) : fold1 b i (us.take (k + 1)) = tighten (fold1 b i (us.take k)) i r := by
  unfold fold1
  rw [List.take_add_one, h, List.foldl_append]
  rfl
theorem fold2_snoc {b : RB} {r : Rec} {ls us : List Rec} {k : Nat} (h : ls[k]? = some r) : fold2 b (ls.take (k + 1)) us = fold1 (fold2 b (ls.take k) us) r us := by
  unfold fold2
  rw [List.take_add_one, h, List.foldl_append]
  rfl
theorem rb_fold (rs : List Rec) : fold2 rb0 (sel true rs) (sel false rs) = rb rs := by rw [sel_true, sel_false]; rfl
theorem fold1_sz {B : Nat} {i : Rec} (hi : RecSz B i) : ∀ (us : List Rec) (b : RB), RbSz B b → (∀ j ∈ us, RecSz B j) → RbSz B (fold1 b i us)
  | [], b, h, _ => h
  | j :: us, b, h, hu => fold1_sz hi us (tighten b i j) (tighten_sz h hi (hu j List.mem_cons_self)) fun x hx => hu x (List.mem_cons_of_mem _ hx)
theorem fold2_sz {B : Nat} {us : List Rec} (hu : ∀ j ∈ us, RecSz B j) : ∀ (ls : List Rec) (b : RB), RbSz B b → (∀ j ∈ ls, RecSz B j) → RbSz B (fold2 b ls us)
  | [], b, h, _ => h
  | i :: ls, b, h, hl => fold2_sz hu ls (fold1 b i us) (fold1_sz (hl i List.mem_cons_self) us b h hu) fun x hx => hl x (List.mem_cons_of_mem _ hx)
theorem rb0_sz (B : Nat) : RbSz B rb0 := ⟨fun x e => (by cases e), fun x e => (by cases e)⟩
theorem sel_mem {b : Bool} {rs : List Rec} {r : Rec} (h : r ∈ sel b rs) : r ∈ rs := (List.mem_filter.mp h).1
theorem rb_sz {B : Nat} {rs : List Rec} (h : ∀ r ∈ rs, RecSz B r) : RbSz B (rb rs) := by
  rw [← rb_fold]
  exact fold2_sz (fun j hj => h j (sel_mem hj)) _ _ (rb0_sz B) fun j hj => h j (sel_mem hj)
section
variable {P : Program} {w : World} {K : PySem.W.Frag} {mg : Str → Option Value} {base : Heap}
def spRbInit (C : Addr) : Sp := fun vs H Q _ => ∃ (p dx a : Addr) (rs : List Rec) (B : Nat), vs = [.ref p, .ref a] ∧ H p = some (.ins C dx []) ∧ RecsAt H a rs ∧ rs.length ≤ 300 ∧ B ≤ 4000 ∧ (∀ r ∈ rs, RecSz B r) ∧
  ∀ H', But p H H' → RbAt C H' p (rb rs) → Q .non H'
theorem scRi : FnScope ["self", "records", "lower", "upper", "i", "one", "j", "other", "index", "record"] ["self", "records"] (defScope (inClass (top 25) 0)) := ⟨rfl, rfl, rfl, by decide +kernel, rfl, by decide +kernel, by decide +kernel⟩
theorem can_rbinit {C f : Addr} {fd : FuncData} (TT : Txt K mg) (T : RbC K C) (D : Di K mg "RateBounds" C "RateBounds.__init__" (inClass (top 25) 0) ["self", "records"] f fd) (M1 : CanM P w K mg base C "tighten" 2 ["self", "pair", "one", "other"] (spTighten C)) :
    CanMk P w K mg base "RateBounds" C 3 ["self", "records"] (spRbInit C) := by
  refine D.can (D.fn.ok scRi (fun vs H Q E h => ?_) (fun cdv A outer s H vs Q E hr h => ?_))
  · obtain ⟨p, dx, a, rs, B, rfl, _⟩ := h
    rfl
  · obtain ⟨p, dx, a, rs, B, rfl, hp, hR, hl, hB, hsz, k⟩ := h
    refine ⟨_, pss_cons (ps_fld (pv 0) pe_non rfl) (pss_cons (ps_fld (pv 0) pe_non rfl) (pss_cons (ps_fld (pv 0) pe_non rfl) (pss_cons (ps_fld (pv 0) pe_non rfl) (pss_cons (ps_fld (pv 0) pe_non rfl)
      (pss_cons (ps_setLc (i := 2) (own := [("index", 8), ("record", 9)]) (g := gTup K 2 (gCons (gName 8) (gCons (gName 9) gNil))) (tt := tTest (tOp rEq (tOp (rIxT K) (tVar 9) (tC (.int 0))) (tC (.str "at least")))) (te := tTup (tCons (tVar 8) (tCons (tVar 9) tNil))) rfl scRi.nd rfl rfl (sw_true rfl rfl rfl (by decide +kernel)) (pi_enumS rfl TT.enumerate (pa_cons (pv 1) pa_nil)) (blkOk_by (N := ["self", "records", "lower", "upper", "i", "one", "j", "other", "index", "record"]) (sc := defScope (inClass (top 25) 0)) (by decide +kernel))
        (fun _ _ _ _ _ => by exact pg_tup rfl (pgs_cons (pg_name (i := 8) scRi.nd rfl (Or.inl rfl)) (pgs_cons (pg_name (i := 9) scRi.nd rfl (Or.inl rfl)) pgs_nil))) (fun _ _ _ _ _ => by exact pts_one (pt_cmpR op_eq (pe_ix ix_tup (pv 9) pe_int (fun _ _ => rfl)) pe_str (nomark _))) (fun _ _ _ _ _ => by exact pe_tup (pa_cons (pv 8) (pa_cons (pv 9) pa_nil))))
      (pss_cons (ps_setLc (i := 3) (own := [("index", 8), ("record", 9)]) (g := gTup K 2 (gCons (gName 8) (gCons (gName 9) gNil))) (tt := tTest (tOp rEq (tOp (rIxT K) (tVar 9) (tC (.int 0))) (tC (.str "at most")))) (te := tTup (tCons (tVar 8) (tCons (tVar 9) tNil))) rfl scRi.nd rfl rfl (sw_true rfl rfl rfl (by decide +kernel)) (pi_enumS rfl TT.enumerate (pa_cons (pv 1) pa_nil)) (blkOk_by (N := ["self", "records", "lower", "upper", "i", "one", "j", "other", "index", "record"]) (sc := defScope (inClass (top 25) 0)) (by decide +kernel))
        (fun _ _ _ _ _ => by exact pg_tup rfl (pgs_cons (pg_name (i := 8) scRi.nd rfl (Or.inl rfl)) (pgs_cons (pg_name (i := 9) scRi.nd rfl (Or.inl rfl)) pgs_nil))) (fun _ _ _ _ _ => by exact pts_one (pt_cmpR op_eq (pe_ix ix_tup (pv 9) pe_int (fun _ _ => rfl)) pe_str (nomark _))) (fun _ _ _ _ _ => by exact pe_tup (pa_cons (pv 8) (pa_cons (pv 9) pa_nil))))
      (pss_one (ps_for PassesOwn.never rfl (pi_list (pv 2)) (pg_tup rfl (pgs_cons (pg_name (i := 4) scRi.nd rfl (Or.inl rfl)) (pgs_cons (pg_name (i := 5) scRi.nd rfl (Or.inl rfl)) pgs_nil)))
        (pss_one (ps_for PassesOwn.never rfl (pi_list (pv 3)) (pg_tup rfl (pgs_cons (pg_name (i := 6) scRi.nd rfl (Or.inl rfl)) (pgs_cons (pg_name (i := 7) scRi.nd rfl (Or.inl rfl)) pgs_nil)))
          (pss_one (ps_expr (pe_canM M1 T.cl hr (pv 0) (pa_cons (pe_tup (pa_cons (pv 4) (pa_cons (pv 6) pa_nil))) (pa_cons (pv 5) (pa_cons (pv 7) pa_nil)))))))))))))))), ?_⟩
    refine ⟨_, rfl, p, C, dx, _, rfl, hp, T.cl, T.n1, (by decide +kernel), _, rfl, p, C, dx, _, rfl, upd_same, T.cl, T.n2, (by decide +kernel), _, rfl, p, C, dx, _, rfl, upd_same, T.cl, T.n3, (by decide +kernel), _, rfl, p, C, dx, _, rfl, upd_same, T.cl, T.n4, (by decide +kernel), _, rfl, p, C, dx, _, rfl, upd_same, T.cl, T.n5, (by decide +kernel), ?_⟩
    rw [rbF_made]
    have hb : But p H (upd (upd (upd (upd (upd H p (.ins C dx (putF "low" .non []))) p (.ins C dx (putF "low_pair" .non (putF "low" .non [])))) p (.ins C dx (putF "high" .non (putF "low_pair" .non (putF "low" .non []))))) p (.ins C dx (putF "high_pair" .non (putF "high" .non (putF "low_pair" .non (putF "low" .non [])))))) p (.ins C dx (rbF .non .non .non .non .non))) := by
      intro c o e n
      rw [upd_ne n, upd_ne n, upd_ne n, upd_ne n, upd_ne n]
      exact e
    have hp5 : (upd (upd (upd (upd (upd H p (.ins C dx (putF "low" .non []))) p (.ins C dx (putF "low_pair" .non (putF "low" .non [])))) p (.ins C dx (putF "high" .non (putF "low_pair" .non (putF "low" .non []))))) p (.ins C dx (putF "high_pair" .non (putF "high" .non (putF "low_pair" .non (putF "low" .non [])))))) p (.ins C dx (rbF .non .non .non .non .non))) p = some (.ins C dx (rbF .non .non .non .non .non)) := upd_same
    generalize (upd (upd (upd (upd (upd H p (.ins C dx (putF "low" .non []))) p (.ins C dx (putF "low_pair" .non (putF "low" .non [])))) p (.ins C dx (putF "high" .non (putF "low_pair" .non (putF "low" .non []))))) p (.ins C dx (putF "high_pair" .non (putF "high" .non (putF "low_pair" .non (putF "low" .non [])))))) p (.ins C dx (rbF .non .non .non .non .non))) = H5 at hb hp5 ⊢
    have hR5 : RecsAt H5 a rs := by
      obtain ⟨us, hq, hv⟩ := hR
      refine ⟨us, hq.imp (fun z => hb _ _ z (ne_of z hp (fun y => by cases y))) (fun z => hb _ _ z (ne_of z hp (fun y => by cases y))), paired_mono (fun _ _ => TupV.but hb hp) hv⟩
    dsimp only
    show tSeq (tAsg _ _) _ _ _ _
    refine asg_mid (comp_kind K true hR5 hl fun D1 H6 us1 s6 hD1 hu1 => ?_)
    show tSeq (tAsg _ _) _ _ _ _
    refine asg_mid (comp_kind K false (hR5.same s6) hl fun D2 H7 us2 s7 hD2 hu2 => ?_)
    have hu1 := paired_mono (fun _ _ => IdxV.same s7) hu1
    have hD1 := s7 _ _ hD1
    have hp7 := s7 _ _ (s6 _ _ hp5)
    have n1 : D1 ≠ p := ne_of hD1 hp7 (fun z => by cases z)
    have n2 : D2 ≠ p := ne_of hD2 hp7 (fun z => by cases z)
    refine ⟨_, rfl, D1, rfl, ⟨_, SqL.of hD1⟩, for_list (K := K) (a := D1) (xs := us1) (fun i σ H' => ∃ s4 s5 s6 s7, σ = [some (.ref p), some (.ref a), some (.ref D1), some (.ref D2), s4, s5, s6, s7, none, none] ∧ But p H7 H' ∧ RbAt C H' p (fold2 rb0 ((sel true rs).take i) (sel false rs)))
      ⟨none, none, none, none, rfl, But.refl _ _, dx, .non, .non, .non, .non, .non, hp7, rfl, rfl, fun _ => rfl, fun z => by cases z⟩ (fun i σ H' _ h => ?_) ?_ ?_⟩
    · obtain ⟨_, _, _, _, _, hb', _⟩ := h
      exact SqL.of (hb' _ _ hD1 n1)
    · rintro i x σ H' hx ⟨s4, s5, s6', s7', rfl, hb', hRb⟩
      obtain ⟨r1, hr1, ⟨i1, u1, ⟨a1, rfl, ha1⟩, hu1r⟩⟩ := paired_at hu1 hx
      have ha1' := hb' _ _ ha1 (ne_of ha1 hp7 (fun z => by cases z))
      have hu1r' := TupV.but hb' hp7 hu1r
      refine ⟨a1, _, rfl, SqT.of ha1', rfl, _, _, rfl, _, _, rfl, rfl, ?_⟩
      refine ⟨_, rfl, D2, rfl, ⟨_, SqL.of (hb' _ _ hD2 n2)⟩, for_list (K := K) (a := D2) (xs := us2) (fun j σ H2 => ∃ s6 s7, σ = [some (.ref p), some (.ref a), some (.ref D1), some (.ref D2), some (.int i1), some u1, s6, s7, none, none] ∧ But p H7 H2 ∧ RbAt C H2 p (fold1 (fold2 rb0 ((sel true rs).take i) (sel false rs)) r1 ((sel false rs).take j)))
        ⟨_, _, rfl, hb', hRb⟩ (fun j σ H2 _ h => ?_) ?_ ?_⟩
      · obtain ⟨_, _, _, hb2, _⟩ := h
        exact SqL.of (hb2 _ _ hD2 n2)
      · rintro j y σ H2 hy ⟨s6, s7, rfl, hb2, hRb2⟩
        obtain ⟨r2, hr2, ⟨i2, u2, ⟨a2, rfl, ha2⟩, hu2r⟩⟩ := paired_at hu2 hy
        have ha2' := hb2 _ _ ha2 (ne_of ha2 hp7 (fun z => by cases z))
        refine ⟨a2, _, rfl, SqT.of ha2', rfl, _, _, rfl, _, _, rfl, rfl, ?_⟩
        obtain ⟨dx2, v1, v2, v3, v4, v5, hp2, hl2, hh2, hc2, hc2'⟩ := id hRb2
        refine ⟨_, rfl, p, dx2, _, rfl, hp2, rbF_no_tighten .., _, rfl, _, rfl, (by show 2 ≤ sizeLine; decide), fun q hq => ⟨_, rfl, _, rfl, ?_⟩⟩
        have sq : Same H2 (upd H2 q (.tup [.int i1, .int i2])) := Same.new hq
        have m1 : r1 ∈ rs := sel_mem (List.mem_of_getElem? hr1)
        have m2 : r2 ∈ rs := sel_mem (List.mem_of_getElem? hr2)
        refine ⟨p, q, u1, u2, r1, r2, _, B, rfl, ⟨dx2, v1, v2, v3, v4, v5, sq _ _ hp2, hl2.same sq, hh2.same sq, hc2, hc2'⟩, TupV.same sq (TupV.but hb2 hp7 hu1r), TupV.same sq (TupV.but hb2 hp7 hu2r), hB, hsz _ m1, hsz _ m2, ?_, fun H3 hb3 hRb3 => ?_⟩
        · refine fold1_sz (hsz _ m1) _ _ (fold2_sz (fun j hj => hsz j (sel_mem hj)) _ _ (rb0_sz B) fun j hj => hsz j (sel_mem (List.mem_of_mem_take hj))) fun j hj => hsz j (sel_mem (List.mem_of_mem_take hj))
        · refine ⟨_, _, rfl, hb2.trans ((Same.but sq).trans hb3), ?_⟩
          rw [fold1_snoc hr2]
          exact hRb3
      · rintro σ H2 ⟨s6, s7, rfl, hb2, hRb2⟩
        refine ⟨_, _, _, _, rfl, hb2, ?_⟩
        rw [paired_len hu2, List.take_length] at hRb2
        rw [fold2_snoc hr1]
        exact hRb2
    · rintro σ H' ⟨s4, s5, s6', s7', rfl, hb', hRb⟩
      rw [paired_len hu1, List.take_length, rb_fold] at hRb
      refine k H' ?_ hRb
      exact hb.trans ((Same.but (s6.trans s7)).trans hb')
end
end K67

set_option Elab.async false
set_option linter.all false
set_option maxRecDepth 100000
set_option maxHeartbeats 4000000
namespace K67
open PySem PySem.Spec PyProof.Rows L2
theorem NbO.mono {n m : Nat} {o : Option Pr} (h : NbO n o) (l : n ≤ m) : NbO m o := fun x e => ⟨(h x e).1.mono l, (h x e).2.mono l⟩
theorem lowest_sz {B : Nat} {x : Pr} (h1 : Nb B x.1) (h2 : Nb B x.2) (h : 0 < x.2) : Nb B (lowest x).1 ∧ Nb B (lowest x).2 := by
  have hg : 0 < (Int.gcd x.1 x.2 : Int) := by
    have := Int.gcd_pos_of_ne_zero_right x.1 (show x.2 ≠ 0 by omega)
    omega
  exact ⟨h1.div hg, h2.div hg⟩
/-- the bounds' denominators are above zero -/
def RbPos (b : RB) : Prop := (∀ l, b.low = some l → 0 < l.2) ∧ ∀ h, b.high = some h → 0 < h.2
theorem rb_pos (rs : List Rec) : RbPos (rb rs) := by
  obtain ⟨ps, I, _⟩ := rb_inv rs
  exact ⟨fun l e => (I.l1 l e).1, fun h e => (I.h1 h e).1⟩
theorem ends_sz {B : Nat} {b : RB} (h : RbSz B b) (hp : RbPos b) : NbO (B + 2) b.ends.1 ∧ NbO (B + 2) b.ends.2 := by
  constructor
  · intro x e
    unfold RB.ends at e
    cases q : b.low with
    | none => rw [q] at e; cases e
    | some l =>
      rw [q] at e
      dsimp only at e
      split at e
      · cases e
      · cases e
        obtain ⟨n1, n2⟩ := h.1 l q
        exact lowest_sz n1 n2 (hp.1 l q)
  · intro x e
    unfold RB.ends at e
    cases q : b.high with
    | none => rw [q] at e; cases e
    | some l =>
      rw [q] at e
      cases e
      obtain ⟨n1, n2⟩ := h.2 l q
      exact lowest_sz n1 n2 (hp.2 l q)
section
variable {P : Program} {w : World} {K : PySem.W.Frag} {mg : Str → Option Value} {base : Heap}
/-! ### is_empty, ends -/
def spEmpty (C : Addr) : Sp := fun vs H Q _ => ∃ (p : Addr) (b : RB) (B : Nat), vs = [.ref p] ∧ RbAt C H p b ∧ RbSz B b ∧ B ≤ 4000 ∧ Q (.bl b.empty) H
theorem scEm : FnScope ["self"] ["self"] (defScope (inClass (top 25) 2)) := ⟨rfl, rfl, rfl, by decide +kernel, rfl, by decide +kernel, by decide +kernel⟩
theorem can_is_empty {C f : Addr} {fd : FuncData} (T : RbC K C) (D : Dm K C "is_empty" "RateBounds.is_empty" (inClass (top 25) 2) ["self"] f fd) (C1 : Can P w K mg base "is_less" 1 ["one", "other"] spLess) : CanM P w K mg base C "is_empty" 2 ["self"] (spEmpty C) := by
  refine D.can (D.fn.ok scEm (fun vs H Q E h => ?_) (fun cdv A outer s H vs Q E hr h => ?_))
  · obtain ⟨p, b, B, rfl, _⟩ := h
    rfl
  · obtain ⟨p, b, B, rfl, ⟨dx, vl, vlp, vh, vhp, vc, hp, hl, hh, hc0, hc1⟩, sb, hB, k⟩ := h
    refine ⟨_, pss_cons (ps_if (pt_cmpR op_notN (pe_fld (pv 0) rfl) pe_non (nomark _)) (pss_one (ps_ret pe_bl)) pss_nil)
      (pss_cons (ps_if (pt_cmpR op_isN (pe_fld (pv 0) rfl) pe_non (nomark _)) (pss_one (ps_ret pe_bl)) pss_nil)
      (pss_one (ps_ret (pe_or (pe_cmpR op_le (pe_ix ix_tup (pe_fld (pv 0) rfl) pe_int (fun _ _ => rfl)) pe_int (nomark _)) (pe_one (pe_and (pe_cmpR op_notN (pe_fld (pv 0) rfl) pe_non (nomark _)) (pe_one (pe_not (pe_can C1 hr (pa_cons (pe_fld (pv 0) rfl) (pa_cons (pe_fld (pv 0) rfl) pa_nil))))))))))), ?_⟩
    refine ⟨_, rfl, p, C, dx, _, _, rfl, hp, T.cl, T.n5, rbF_clash .., rfl, _, rfl, ?_⟩
    cases ec : b.clash with
    | true =>
      refine ite2 (fun _ => ?_) (fun c => ?_)
      · have e : b.empty = true := by unfold RB.empty; rw [if_pos ec]
        rw [e] at k
        exact k
      · refine absurd ?_ c
        rw [decide_eq_false (hc1 ec)]
        rfl
    | false =>
      obtain rfl := hc0 ec
      refine iteF ?_
      refine ⟨_, rfl, p, C, dx, _, _, rfl, hp, T.cl, T.n3, rbF_high .., rfl, _, rfl, ?_⟩
      cases eh : b.high with
      | none =>
        rw [eh] at hh
        obtain rfl : vh = .non := hh
        refine ite2 (fun _ => ?_) (fun c => absurd rfl c)
        have e : b.empty = false := by unfold RB.empty; rw [if_neg (by rw [ec]; decide), eh]
        rw [e] at k
        exact k
      | some h =>
        rw [eh] at hh
        obtain ⟨ah, rfl, hah⟩ := hh
        refine iteF ?_
        obtain ⟨y1, y2⟩ := sb.2 h eh
        have ee : b.empty = (decide (h.1 ≤ 0) || (match b.low with | none => false | some l => !less l h)) := by unfold RB.empty; rw [if_neg (by rw [ec]; decide), eh] <;> rfl
        refine ⟨_, rfl, p, C, dx, _, _, rfl, hp, T.cl, T.n3, rbF_high .., ah, _, 0, _, rfl, rfl, SqT.of hah, rfl, _, _, rfl, rfl, _, rfl, ite2 (fun c => ?_) (fun c => ?_)⟩
        · rw [ee, c, Bool.true_or] at k
          exact k
        · have c : decide (h.1 ≤ 0) = false := Bool.eq_false_iff.mpr c
          rw [ee, c, Bool.false_or] at k
          refine ⟨_, rfl, p, C, dx, _, _, rfl, hp, T.cl, T.n1, rbF_low .., rfl, _, rfl, ?_⟩
          cases el : b.low with
          | none =>
            rw [el] at hl
            obtain rfl : vl = .non := hl
            rw [el] at k
            exact k
          | some l =>
            rw [el] at hl
            obtain ⟨al, rfl, hal⟩ := hl
            refine ite2 (fun _ => ?_) (fun c => absurd rfl c)
            obtain ⟨x1, x2⟩ := sb.1 l el
            rw [el] at k
            exact ⟨_, rfl, p, C, dx, _, _, rfl, hp, T.cl, T.n1, rbF_low .., _, rfl, p, C, dx, _, _, rfl, hp, T.cl, T.n3, rbF_high .., _, _, l, h, B + 2, rfl, ⟨al, rfl, hal⟩, ⟨ah, rfl, hah⟩, by omega, x1, x2, y1, y2, _, rfl, k⟩
def spEnds (C : Addr) : Sp := fun vs H Q _ => ∃ (p : Addr) (b : RB) (B : Nat), vs = [.ref p] ∧ RbAt C H p b ∧ RbSz B b ∧ B ≤ 4000 ∧ RbPos b ∧
  ∀ v vl vh H', Same H H' → TupV H' v [vl, vh] → OptV H' vl b.ends.1 → OptV H' vh b.ends.2 → Q v H'
theorem scEn : FnScope ["self", "low"] ["self"] (defScope (inClass (top 25) 3)) := ⟨rfl, rfl, rfl, by decide +kernel, rfl, by decide +kernel, by decide +kernel⟩
theorem can_ends {C f : Addr} {fd : FuncData} (T : RbC K C) (D : Dm K C "ends" "RateBounds.ends" (inClass (top 25) 3) ["self"] f fd) (C1 : Can P w K mg base "lowest_terms" 2 ["top", "bottom"] spLowest) : CanM P w K mg base C "ends" 3 ["self"] (spEnds C) := by
  refine D.can (D.fn.ok scEn (fun vs H Q E h => ?_) (fun cdv A outer s H vs Q E hr h => ?_))
  · obtain ⟨p, b, B, rfl, _⟩ := h
    rfl
  · obtain ⟨p, b, B, rfl, ⟨dx, vl, vlp, vh, vhp, vc, hp, hl, hh, hc0, hc1⟩, sb, hB, pos, k⟩ := h
    refine ⟨_, pss_cons (ps_set (i := 1) scEn.nd rfl (Or.inl rfl) (pe_ifExp (PW.pt (pw_or (pt_cmpR op_isN (pe_fld (pv 0) rfl) pe_non (nomark _)) (pw_or1 (pt_cmpR op_lt (pe_ix ix_tup (pe_fld (pv 0) rfl) pe_int (fun _ _ => rfl)) pe_int (nomark _))))) pe_non
        (pe_can C1 hr (pa_cons (pe_ix ix_tup (pe_fld (pv 0) rfl) pe_int (fun _ _ => rfl)) (pa_cons (pe_ix ix_tup (pe_fld (pv 0) rfl) pe_int (fun _ _ => rfl)) pa_nil)))))
      (pss_one (ps_ret (pe_tup (pa_cons (pv 1) (pa_cons (pe_ifExp (pt_cmpR op_isN (pe_fld (pv 0) rfl) pe_non (nomark _)) pe_non
        (pe_can C1 hr (pa_cons (pe_ix ix_tup (pe_fld (pv 0) rfl) pe_int (fun _ _ => rfl)) (pa_cons (pe_ix ix_tup (pe_fld (pv 0) rfl) pe_int (fun _ _ => rfl)) pa_nil)))) pa_nil))))), ?_⟩
    -- the second half, from low's value
    have fin : ∀ (H1 : Hp) (v1 : V), Same H H1 → OptV H1 v1 b.ends.1 →
        tRet (tTup (tCons (tVar 1) (tCons (tIf (tTest (tOp (fun x y H Q => y = .non ∧ Q (.bl (decide (x = .non))) H) (tFld K (tVar 0) "high") (tC .non))) (tC .non) (tCall spLowest [] E0 (tCons (tOp (rIxT K) (tFld K (tVar 0) "high") (tC (.int 0))) (tCons (tOp (rIxT K) (tFld K (tVar 0) "high") (tC (.int 1))) tNil)))) tNil)))
          { nx := fun _ H' => Q .non H', rt := Q } [some (.ref p), some v1] H1 := by
      intro H1 v1 s1 h1
      have hp1 := s1 _ _ hp
      have last : ∀ (H2 : Hp) (v2 : V), Same H1 H2 → OptV H2 v2 b.ends.2 → (([v1, v2].length ≤ sizeLine) ∧ ∀ q, H2 q = none → Q (.ref q) (upd H2 q (.tup [v1, v2]))) := by
        intro H2 v2 s2 h2
        refine ⟨(by show 2 ≤ sizeLine; decide), fun q hq => ?_⟩
        have s3 : Same H2 (upd H2 q (.tup [v1, v2])) := Same.new hq
        exact k (.ref q) v1 v2 _ (s1.trans (s2.trans s3)) ⟨q, rfl, upd_same⟩ (h1.same (s2.trans s3)) (h2.same s3)
      refine ⟨_, rfl, _, rfl, p, C, dx, _, _, rfl, hp1, T.cl, T.n3, rbF_high .., rfl, _, rfl, ?_⟩
      cases eh : b.high with
      | none =>
        rw [eh] at hh
        obtain rfl : vh = .non := hh
        refine ite2 (fun _ => ?_) (fun c => absurd rfl c)
        exact last H1 .non (Same.refl _) (by unfold RB.ends; rw [eh]; exact rfl)
      | some h =>
        rw [eh] at hh
        obtain ⟨ah, rfl, hah⟩ := hh
        refine iteF ?_
        obtain ⟨y1, y2⟩ := sb.2 h eh
        refine ⟨_, rfl, p, C, dx, _, _, rfl, hp1, T.cl, T.n3, rbF_high .., ah, _, 0, _, rfl, rfl, SqT.of (s1 _ _ hah), rfl, _, rfl, p, C, dx, _, _, rfl, hp1, T.cl, T.n3, rbF_high .., ah, _, 1, _, rfl, rfl, SqT.of (s1 _ _ hah), rfl, ?_⟩
        exact ⟨h, B + 2, rfl, pos.2 h eh, by omega, y2, fun v2 H2 s2 h2 => last H2 v2 s2 (by unfold RB.ends; rw [eh]; exact h2)⟩
    refine ⟨_, rfl, p, C, dx, _, _, rfl, hp, T.cl, T.n1, rbF_low .., rfl, _, rfl, ?_⟩
    cases el : b.low with
    | none =>
      rw [el] at hl
      obtain rfl : vl = .non := hl
      refine ite2 (fun _ => ?_) (fun c => absurd rfl c)
      refine iteT ?_
      exact fin H .non (Same.refl _) (by unfold RB.ends; rw [el]; exact rfl)
    | some l =>
      rw [el] at hl
      obtain ⟨al, rfl, hal⟩ := hl
      refine iteF ?_
      obtain ⟨x1, x2⟩ := sb.1 l el
      refine ⟨_, rfl, p, C, dx, _, _, rfl, hp, T.cl, T.n1, rbF_low .., al, _, 0, _, rfl, rfl, SqT.of hal, rfl, _, _, rfl, rfl, _, rfl, ite2 (fun c => ?_) (fun c => ?_)⟩
      · have c := of_decide_eq_true c
        exact fin H .non (Same.refl _) (by unfold RB.ends; rw [el]; dsimp only; rw [if_pos c]; exact rfl)
      · have c : ¬ l.1 < 0 := fun z => c (decide_eq_true z)
        refine ⟨_, rfl, p, C, dx, _, _, rfl, hp, T.cl, T.n1, rbF_low .., al, _, 0, _, rfl, rfl, SqT.of hal, rfl, _, rfl, p, C, dx, _, _, rfl, hp, T.cl, T.n1, rbF_low .., al, _, 1, _, rfl, rfl, SqT.of hal, rfl, ?_⟩
        exact ⟨l, B + 2, rfl, pos.1 l el, by omega, x2, fun v2 H2 s2 h2 => fin H2 v2 s2 (by unfold RB.ends; rw [el]; dsimp only; rw [if_neg c]; exact h2)⟩
/-! ### ends_of, rates -/
def spEndsOf : Sp := fun vs H Q _ => ∃ (a : Addr) (rs : List Rec) (B : Nat), vs = [.ref a] ∧ RecsAt H a rs ∧ rs.length ≤ 300 ∧ B ≤ 4000 ∧ (∀ r ∈ rs, RecSz B r) ∧
  ((rb rs).empty = true → ∀ H', Same H H' → Q .non H') ∧
  ((rb rs).empty = false → ∀ v vl vh H', Same H H' → TupV H' v [vl, vh] → OptV H' vl (rb rs).ends.1 → OptV H' vh (rb rs).ends.2 → Q v H')
theorem sc26 : FnScope ["records", "bounds"] ["records"] (defScope (top 26)) := ⟨rfl, rfl, rfl, by decide +kernel, rfl, by decide +kernel, by decide +kernel⟩
theorem made_same {H H1 : Hp} {x dx C : Addr} (nx : H x = none) (nd : H dx = none) (b : But x (upd (upd H dx (.own x)) x (.ins C dx [])) H1) : Same H H1 := fun c o e => b c o (by rw [upd_ne (ne_of_none e nx), upd_ne (ne_of_none e nd)]; exact e) (ne_of_none e nx)
theorem can_ends_of {C f : Addr} {fd : FuncData} (T : RbC K C) (D : Df K mg "ends_of" (top 26) ["records"] f fd) (M0 : CanMk P w K mg base "RateBounds" C 3 ["self", "records"] (spRbInit C)) (M1 : CanM P w K mg base C "is_empty" 2 ["self"] (spEmpty C)) (M2 : CanM P w K mg base C "ends" 3 ["self"] (spEnds C)) :
    Can P w K mg base "ends_of" 5 ["records"] spEndsOf := by
  refine D.can (D.fn.ok sc26 (fun vs H Q E h => ?_) (fun cdv A outer s H vs Q E hr h => ?_))
  · obtain ⟨a, rs, B, rfl, _⟩ := h
    rfl
  · obtain ⟨a, rs, B, rfl, hR, hl, hB, hsz, k0, k1⟩ := h
    have hr2 : Room 2 _ := hr.mono (by decide)
    have hr3 : Room 3 _ := hr.mono (by decide)
    refine ⟨_, pss_cons (ps_set (i := 1) sc26.nd rfl (Or.inl rfl) (pe_canMk M0 hr (pa_cons (pv 0) pa_nil)))
      (pss_one (ps_ret (pe_ifExp (pt_val (pe_canM0 M1 T.cl hr2 (pv 1))) pe_non (pe_canM0 M2 T.cl hr3 (pv 1))))), ?_⟩
    refine ⟨_, rfl, fun x dx nx ndx nex => ?_⟩
    have s0 : Same H (upd (upd H dx (.own x)) x (.ins C dx [])) := made_same nx ndx (But.refl _ _)
    refine ⟨x, dx, a, rs, B, rfl, upd_same, hR.same s0, hl, hB, hsz, fun H1 hb hRb => ⟨rfl, ?_⟩⟩
    have s1 : Same H H1 := made_same nx ndx hb
    have sb := rb_sz hsz
    obtain ⟨dy, v1, v2, v3, v4, v5, hx, g1, g2, g3, g4⟩ := id hRb
    refine ⟨_, rfl, x, dy, _, rfl, hx, rbF_no_is_empty .., x, rb rs, B, rfl, hRb, sb, hB, _, rfl, ?_⟩
    cases e : (rb rs).empty with
    | true => exact iteT (k0 e H1 s1)
    | false =>
      refine iteF ⟨_, rfl, x, dy, _, rfl, hx, rbF_no_ends .., x, rb rs, B, rfl, hRb, sb, hB, rb_pos rs, fun v vl vh H2 s2 h1 h2 h3 => k1 e v vl vh H2 (s1.trans s2) h1 h2 h3⟩
def spRates : Sp := fun vs H Q _ => ∃ (a : Addr) (rs : List Rec) (B : Nat), vs = [.ref a] ∧ RecsAt H a rs ∧ rs.length ≤ 200 ∧ B ≤ 4000 ∧ (∀ r ∈ rs, RecSz B r) ∧ (∀ p q c, ¬ Fit p q c rs) ∧ ∀ H', Same H H' → Q .non H'
theorem empty_of {rs : List Rec} (h : ∀ p q c, ¬ Fit p q c rs) : (rb rs).empty = true := by
  cases e : (rb rs).empty with
  | true => rfl
  | false =>
    have I := iv_of (ends_ok e)
    obtain ⟨p, q, hp, hq, R⟩ := some_rate I
    obtain ⟨c, F⟩ := fit_of_rate hp hq R
    exact absurd F (h p q c)
theorem sc27 : FnScope ["records"] ["records"] (defScope (top 27)) := ⟨rfl, rfl, rfl, by decide +kernel, rfl, by decide +kernel, by decide +kernel⟩
theorem can_rates {f : Addr} {fd : FuncData} (D : Df K mg "rates" (top 27) ["records"] f fd) (C1 : Can P w K mg base "need_records" 3 ["value"] spNeedRecs) (C2 : Can P w K mg base "ends_of" 5 ["records"] spEndsOf) : Can P w K mg base "rates" 6 ["records"] spRates := by
  refine D.can (D.fn.ok sc27 (fun vs H Q E h => ?_) (fun cdv A outer s H vs Q E hr h => ?_))
  · obtain ⟨a, rs, B, rfl, _⟩ := h
    rfl
  · obtain ⟨a, rs, B, rfl, hR, hl, hB, hsz, hno, k⟩ := h
    have hr3 : Room 3 _ := hr.mono (by decide)
    refine ⟨_, pss_cons (ps_expr (pe_can C1 hr3 (pa_cons (pv 0) pa_nil))) (pss_one (ps_ret (pe_can C2 hr (pa_cons (pv 0) pa_nil)))), ?_⟩
    refine ⟨_, rfl, a, rs, rfl, hR, hl, fun H1 s1 => ⟨_, rfl, a, rs, B, rfl, hR.same s1, by omega, hB, hsz, fun _ H2 s2 => k H2 (s1.trans s2), fun e => ?_⟩⟩
    rw [empty_of hno] at e
    cases e
end
end K67

set_option Elab.async false
set_option linter.all false
set_option maxRecDepth 100000
set_option maxHeartbeats 4000000
namespace K67
open PySem PySem.Spec PyProof.Rows L2
def optI : Option Int → V
  | none => .non
  | some m => .int m
def PhMax (f : Rec → Int) (xs : List Rec) : Option Int → Prop
  | none => xs = []
  | some m => m ∈ xs.map f ∧ ∀ y ∈ xs.map f, y ≤ m
def PhMin (f : Rec → Int) (xs : List Rec) : Option Int → Prop
  | none => xs = []
  | some m => m ∈ xs.map f ∧ ∀ y ∈ xs.map f, m ≤ y
def phL (p q : Int) (r : Rec) : Int := r.n * q - p * r.t
def phH (p q : Int) (r : Rec) : Int := (r.n + 1) * q - p * r.t - 1
/-- [f of a record of the kind for bound, time, number in records if bound == kind] -/
theorem comp_ints (K : PySem.W.Frag) (b : Bool) {te : TE} {f : Rec → Int} {s1 s2 s3 s4 s5 s6 s7 s8 : Option V} {a : Addr} {rs : List Rec} {H : Hp} {Q : VK} (hR : RecsAt H a rs) (hl : rs.length ≤ 300)
    (hte : ∀ (r : Rec) (x : V) (H : Hp) (Q : VK), r ∈ rs → Q (.int (f r)) H → te [some (.ref a), s1, s2, s3, s4, s5, some x, some (.int r.t), some (.int r.n)] H Q)
    (k : ∀ D H', Same H H' → H' D = some (.lst (((sel b rs).map f).map V.int)) → Q (.ref D) H') :
    tLc (iSeq K (tVar 0)) (gTup K 3 (gCons (gName 6) (gCons (gName 7) (gCons (gName 8) gNil)))) (tTest (tOp rEq (tVar 6) (tC (.str (kindS b))))) te [6, 7, 8] [some (.ref a), s1, s2, s3, s4, s5, s6, s7, s8] H Q := by
  obtain ⟨us, hq, hv⟩ := hR
  have hlen := paired_len hv
  refine ⟨_, rfl, a, us, rfl, hq.sq, fun J W D hD => lc_it W (fun i H' => Same H H' ∧ H' D = some (.lst (((sel b (rs.take i)).map f).map V.int))) ⟨Same.new hD, upd_same⟩ (fun _ _ _ h => h.1) ?_ ?_⟩
  · rintro i x H1 H2 hi ⟨sm, h1⟩ ⟨rfl, hx⟩
    obtain ⟨r, hr, ⟨ar, rfl, har⟩⟩ := paired_at hv hx
    refine ⟨ar, _, rfl, SqT.of (sm _ _ har), rfl, _, _, rfl, _, _, rfl, _, _, rfl, rfl, rfl, _, rfl, rfl, _, rfl, ?_⟩
    have ed : decide (V.str (kindS r.lo) = V.str (kindS b)) = (r.lo == b) := kind_dec _ _
    refine ite2 (fun c => ?_) (fun c => ?_)
    · have c : (r.lo == b) = true := ed.symm.trans c
      refine hte r _ _ _ (List.mem_of_getElem? hr) ⟨_, h1, ?_, fun c o e => ?_, ?_⟩
      · rw [List.length_map, List.length_map]
        refine small1000 ?_
        have := sel_len b (rs.take i)
        have := List.length_take_le' i rs
        omega
      · rw [upd_ne (ne_of_none e hD)]
        exact sm _ _ e
      · rw [upd_same, sel_snoc hr, if_pos c, List.map_append, List.map_append]
        rfl
    · have c : ¬ (r.lo == b) = true := fun z => c (ed.trans z)
      refine ⟨sm, ?_⟩
      rw [sel_snoc hr, if_neg c, List.append_nil]
      exact h1
  · rintro H' ⟨sm, h1⟩
    rw [hlen, List.take_length] at h1
    exact k D H' sm h1
section
variable {P : Program} {w : World} {K : PySem.W.Frag} {mg : Str → Option Value} {base : Heap}
/-! ### phase_range -/
def spPhase : Sp := fun vs H Q _ => ∃ (a ar : Addr) (rs : List Rec) (p q : Int) (B : Nat), vs = [.ref a, .ref ar] ∧ RecsAt H a rs ∧ rs.length ≤ 300 ∧ B ≤ 4000 ∧ (∀ r ∈ rs, RecSz B r) ∧ H ar = some (.tup (prL (p, q))) ∧ Nb 4010 p ∧ Nb 4010 q ∧
  ∀ v l g H', Same H H' → TupV H' v [optI l, optI g] → PhMax (phL p q) (sel true rs) l → PhMin (phH p q) (sel false rs) g → Q v H'
theorem sc28 : FnScope ["records", "rate", "p", "q", "lower", "upper", "bound", "time", "number"] ["records", "rate"] (defScope (top 28)) := ⟨rfl, rfl, rfl, by decide +kernel, rfl, by decide +kernel, by decide +kernel⟩
theorem can_phase_range (T : Txt K mg) {f : Addr} {fd : FuncData} (D : Df K mg "phase_range" (top 28) ["records", "rate"] f fd) : Can P w K mg base "phase_range" 1 ["records", "rate"] spPhase := by
  refine D.can (D.fn.ok sc28 (fun vs H Q E h => ?_) (fun cdv A outer s H vs Q E hr h => ?_))
  · obtain ⟨a, ar, rs, p, q, B, rfl, _⟩ := h
    rfl
  · obtain ⟨a, ar, rs, p, q, B, rfl, hR, hl, hB, hsz, har, np, nq, k⟩ := h
    refine ⟨_, pss_cons (ps_asg (pv 1) (pg_tup rfl (pgs_cons (pg_name (i := 2) sc28.nd rfl (Or.inr rfl)) (pgs_cons (pg_name (i := 3) sc28.nd rfl (Or.inr rfl)) pgs_nil))))
      (pss_cons (ps_setLc (i := 4) (own := [("bound", 6), ("time", 7), ("number", 8)]) (g := gTup K 3 (gCons (gName 6) (gCons (gName 7) (gCons (gName 8) gNil)))) (tt := tTest (tOp rEq (tVar 6) (tC (.str "at least"))))
          (te := tOp (rI0 fun i j => .int (i - j)) (tOp (rI CMulW fun i j => .int (i * j)) (tVar 8) (tVar 3)) (tOp (rI CMulW fun i j => .int (i * j)) (tVar 2) (tVar 7))) rfl sc28.nd rfl rfl (sw_true rfl rfl rfl (by decide +kernel)) (pi_seq (pv 0)) (blkOk_by (N := ["records", "rate", "p", "q", "lower", "upper", "bound", "time", "number"]) (sc := defScope (top 28)) (by decide +kernel))
        (fun _ _ _ _ _ => by exact pg_tup rfl (pgs_cons (pg_name (i := 6) sc28.nd rfl (Or.inl rfl)) (pgs_cons (pg_name (i := 7) sc28.nd rfl (Or.inl rfl)) (pgs_cons (pg_name (i := 8) sc28.nd rfl (Or.inl rfl)) pgs_nil)))) (fun _ _ _ _ _ => by exact pts_one (pt_cmpR op_eq (pv 6) pe_str (nomark _)))
        (fun _ _ _ _ _ => by exact pe_op op_sub (pe_op op_mulW (pv 8) (pv 3)) (pe_op op_mulW (pv 2) (pv 7))))
      (pss_cons (ps_setLc (i := 5) (own := [("bound", 6), ("time", 7), ("number", 8)]) (g := gTup K 3 (gCons (gName 6) (gCons (gName 7) (gCons (gName 8) gNil)))) (tt := tTest (tOp rEq (tVar 6) (tC (.str "at most"))))
          (te := tOp (rI0 fun i j => .int (i - j)) (tOp (rI0 fun i j => .int (i - j)) (tOp (rI CMulW fun i j => .int (i * j)) (tOp (rI0 fun i j => .int (i + j)) (tVar 8) (tC (.int 1))) (tVar 3)) (tOp (rI CMulW fun i j => .int (i * j)) (tVar 2) (tVar 7))) (tC (.int 1))) rfl sc28.nd rfl rfl (sw_true rfl rfl rfl (by decide +kernel)) (pi_seq (pv 0)) (blkOk_by (N := ["records", "rate", "p", "q", "lower", "upper", "bound", "time", "number"]) (sc := defScope (top 28)) (by decide +kernel))
        (fun _ _ _ _ _ => by exact pg_tup rfl (pgs_cons (pg_name (i := 6) sc28.nd rfl (Or.inl rfl)) (pgs_cons (pg_name (i := 7) sc28.nd rfl (Or.inl rfl)) (pgs_cons (pg_name (i := 8) sc28.nd rfl (Or.inl rfl)) pgs_nil)))) (fun _ _ _ _ _ => by exact pts_one (pt_cmpR op_eq (pv 6) pe_str (nomark _)))
        (fun _ _ _ _ _ => by exact pe_op op_sub (pe_op op_sub (pe_op op_mulW (pe_op op_add (pv 8) pe_int) (pv 3)) (pe_op op_mulW (pv 2) (pv 7))) pe_int))
      (pss_one (ps_ret (pe_tup (pa_cons (pe_ifExp (pt_truth (pv 4) (by intro _; rfl)) (pe_callB (cr_max rfl) (by rfl) T.max (by decide +kernel) (pa_cons (pv 4) pa_nil)) pe_non)
        (pa_cons (pe_ifExp (pt_truth (pv 5) (by intro _; rfl)) (pe_callB (cr_min rfl) (by rfl) T.min (by decide +kernel) (pa_cons (pv 5) pa_nil)) pe_non) pa_nil))))))), ?_⟩
    refine ⟨_, rfl, ar, _, rfl, SqT.of har, rfl, _, _, rfl, _, _, rfl, rfl, ?_⟩
    dsimp only
    show tSeq (tAsg _ _) _ _ _ _
    refine asg_mid (comp_ints K true (f := phL p q) hR hl (fun r x H Q hm hQ => ?_) fun D1 H1 s1 h1 => ?_)
    · obtain ⟨z1, z2⟩ := hsz r hm
      exact ⟨_, rfl, _, rfl, _, _, rfl, rfl, z2.cmul nq (by omega), _, rfl, _, rfl, _, _, rfl, rfl, np.cmul z1 (by omega), _, _, rfl, rfl, hQ⟩
    show tSeq (tAsg _ _) _ _ _ _
    refine asg_mid (comp_ints K false (f := phH p q) (hR.same s1) hl (fun r x H Q hm hQ => ?_) fun D2 H2 s2 h2 => ?_)
    · obtain ⟨z1, z2⟩ := hsz r hm
      exact ⟨_, rfl, _, _, rfl, rfl, _, rfl, _, _, rfl, rfl, ((z2.mono (Nat.le_succ B)).add (nb_one (by omega))).cmul nq (by omega), _, rfl, _, rfl, _, _, rfl, rfl, np.cmul z1 (by omega), _, _, rfl, rfl, _, _, rfl, rfl, hQ⟩
    have h1 := s2 _ _ h1
    have fin : ∀ (l g : Option Int), PhMax (phL p q) (sel true rs) l → PhMin (phH p q) (sel false rs) g → ([optI l, optI g].length ≤ sizeLine ∧ ∀ q, H2 q = none → Q (.ref q) (upd H2 q (.tup [optI l, optI g]))) := fun l g a b =>
      ⟨(by show 2 ≤ sizeLine; decide), fun q hq => k (.ref q) l g _ ((s1.trans s2).trans (Same.new hq)) ⟨q, rfl, upd_same⟩ a b⟩
    have snd : ∀ (l : Option Int), PhMax (phL p q) (sel true rs) l →
        (tIf (fun σ H Q => tVar 5 σ H fun x H' => ∃ k, TruV K x H' k ∧ Q k H') (tCB (rMin K) (tCons (tVar 5) tNil)) (tC .non)) [some (.ref a), some (.ref ar), some (.int p), some (.int q), some (.ref D1), some (.ref D2), none, none, none] H2 fun x H3 =>
          tNil [some (.ref a), some (.ref ar), some (.int p), some (.int q), some (.ref D1), some (.ref D2), none, none, none] H3 fun xs H4 => ((optI l :: x :: xs).length ≤ sizeLine ∧ ∀ q, H4 q = none → Q (.ref q) (upd H4 q (.tup (optI l :: x :: xs)))) := by
      intro l hl'
      refine ⟨_, rfl, _, .inl ⟨_, SqL.of h2, rfl⟩, ?_⟩
      cases e : sel false rs with
      | nil => exact fin l none hl' e
      | cons r xs =>
        refine ⟨_, rfl, D2, _, rfl, SqL.of h2, ?_, fun m hm hle => ?_⟩
        · rw [List.length_map, e]; exact Nat.succ_pos _
        · exact fin l (some m) hl' ⟨hm, hle⟩
    refine ⟨_, rfl, _, .inl ⟨_, SqL.of h1, rfl⟩, ?_⟩
    cases e : sel true rs with
    | nil => exact snd none e
    | cons r xs =>
      refine ⟨_, rfl, D1, _, rfl, SqL.of h1, ?_, fun m hm hle => ?_⟩
      · rw [List.length_map, e]; exact Nat.succ_pos _
      · exact snd (some m) ⟨hm, hle⟩
end
end K67

set_option Elab.async false
set_option linter.all false
set_option maxRecDepth 100000
set_option maxHeartbeats 4000000
namespace K67
open PySem PySem.Spec PyProof.Rows L2
theorem sel_iff {b : Bool} {rs : List Rec} {r : Rec} : r ∈ sel b rs ↔ r ∈ rs ∧ r.lo = b := by
  unfold sel
  rw [List.mem_filter]
  simp
/-- the c that the program takes -/
theorem ph_fit {p q : Int} {rs : List Rec} (hp : 0 ≤ p) (hq : 0 < q) (R : RateOk p q rs) {l g : Option Int} (hl : PhMax (phL p q) (sel true rs) l) (hg : PhMin (phH p q) (sel false rs) g) :
    Fit p q (match l with | some m => m | none => (match g with | some m => m | none => 0)) rs := by
  cases l with
  | some m =>
    obtain ⟨hm, hle⟩ := hl
    obtain ⟨i, hi, rfl⟩ := List.mem_map.mp hm
    obtain ⟨h1, h2⟩ := sel_iff.mp hi
    exact fit_low hp hq R h1 h2 fun r hr lr => hle _ (List.mem_map.mpr ⟨r, sel_iff.mpr ⟨hr, lr⟩, rfl⟩)
  | none =>
    have hl : sel true rs = [] := hl
    have no : ∀ r ∈ rs, r.lo = false := fun r hr => by
      cases e : r.lo with
      | false => rfl
      | true =>
        have := sel_iff.mpr ⟨hr, e⟩
        rw [hl] at this
        cases this
    cases g with
    | some m =>
      obtain ⟨hm, hle⟩ := hg
      obtain ⟨j, hj, rfl⟩ := List.mem_map.mp hm
      obtain ⟨h1, h2⟩ := sel_iff.mp hj
      exact fit_high hp hq R h1 h2 fun r hr lr => by
        have := hle _ (List.mem_map.mpr ⟨r, sel_iff.mpr ⟨hr, lr⟩, rfl⟩)
        unfold phH at this
        omega
    | none =>
      have hg : sel false rs = [] := hg
      refine fit_small hp hq no fun r hr => ?_
      have := sel_iff.mpr ⟨hr, no r hr⟩
      rw [hg] at this
      cases this
theorem ph_szL {B : Nat} {p q : Int} {rs : List Rec} (hB : B ≤ 3000) (np : Nb 4000 p) (nq : Nb 4000 q) (hsz : ∀ r ∈ rs, RecSz B r) {l : Option Int} (hl : PhMax (phL p q) (sel true rs) l) : ∀ m, l = some m → Nb 8000 m := by
  rintro m rfl
  obtain ⟨hm, hle⟩ := hl
  obtain ⟨i, hi, rfl⟩ := List.mem_map.mp hm
  obtain ⟨z1, z2⟩ := hsz i (sel_iff.mp hi).1
  unfold phL
  have a : Nb (B + 4000) (i.n * q) := z2.mul nq
  have b : Nb (B + 4000) (p * i.t) := (np.mul z1).mono (by omega)
  exact (a.sub b).mono (by omega)
theorem ph_szH {B : Nat} {p q : Int} {rs : List Rec} (hB : B ≤ 3000) (np : Nb 4000 p) (nq : Nb 4000 q) (hsz : ∀ r ∈ rs, RecSz B r) {l : Option Int} (hl : PhMin (phH p q) (sel false rs) l) : ∀ m, l = some m → Nb 8000 m := by
  rintro m rfl
  obtain ⟨hm, hle⟩ := hl
  obtain ⟨i, hi, rfl⟩ := List.mem_map.mp hm
  obtain ⟨z1, z2⟩ := hsz i (sel_iff.mp hi).1
  unfold phH
  have c : Nb (B + 2) (i.n + 1) := (z2.mono (Nat.le_succ B)).add (nb_one (by omega))
  have a : Nb (B + 4002) ((i.n + 1) * q) := (c.mul nq).mono (by omega)
  have b : Nb (B + 4002) (p * i.t) := (np.mul z1).mono (by omega)
  exact ((a.sub b).sub (nb_one (by omega))).mono (by omega)
section
variable {P : Program} {w : World} {K : PySem.W.Frag} {mg : Str → Option Value} {base : Heap}
/-! ### some_rule -/
def ruL (p q c : Int) : List V := [.int p, .int q, .int c]
def spSome : Sp := fun vs H Q _ => ∃ (a : Addr) (rs : List Rec) (B : Nat), vs = [.ref a] ∧ RecsAt H a rs ∧ rs.length ≤ 300 ∧ B ≤ 3000 ∧ (∀ r ∈ rs, RecSz B r) ∧ (∃ p q c, Fit p q c rs) ∧
  ∀ v p q c H', Same H H' → TupV H' v (ruL p q c) → Fit p q c rs → Int.gcd p q = 1 → Nb 4000 p → Nb 4000 q → Nb 8000 c → Q v H'
theorem sc29 : FnScope ["records", "ends", "rate", "least", "greatest"] ["records"] (defScope (top 29)) := ⟨rfl, rfl, rfl, by decide +kernel, rfl, by decide +kernel, by decide +kernel⟩
theorem can_some_rule {f : Addr} {fd : FuncData} (D : Df K mg "some_rule" (top 29) ["records"] f fd) (C1 : Can P w K mg base "ends_of" 5 ["records"] spEndsOf) (C2 : Can P w K mg base "simplest_between" 4 ["low", "high"] spBtw) (C3 : Can P w K mg base "phase_range" 1 ["records", "rate"] spPhase) :
    Can P w K mg base "some_rule" 6 ["records"] spSome := by
  refine D.can (D.fn.ok sc29 (fun vs H Q E h => ?_) (fun cdv A outer s H vs Q E hr h => ?_))
  · obtain ⟨a, rs, B, rfl, _⟩ := h
    rfl
  · obtain ⟨a, rs, B, rfl, hR, hl, hB, hsz, ⟨p0, q0, c0, F0⟩, k⟩ := h
    have hr4 : Room 4 _ := hr.mono (by decide)
    have hr1 : Room 1 _ := hr.mono (by decide)
    refine ⟨_, pss_cons (ps_set (i := 1) sc29.nd rfl (Or.inl rfl) (pe_can C1 hr (pa_cons (pv 0) pa_nil)))
      (pss_cons (ps_if (pt_cmpR op_isN (pv 1) pe_non (nomark _)) (pss_one (ps_ret pe_non)) pss_nil)
      (pss_cons (ps_set (i := 2) sc29.nd rfl (Or.inl rfl) (pe_can C2 hr4 (pa_cons (pe_ix ix_tup (pv 1) pe_int (fun _ _ => rfl)) (pa_cons (pe_ix ix_tup (pv 1) pe_int (fun _ _ => rfl)) pa_nil))))
      (pss_cons (ps_asg (pe_can C3 hr1 (pa_cons (pv 0) (pa_cons (pv 2) pa_nil))) (pg_tup rfl (pgs_cons (pg_name (i := 3) sc29.nd rfl (Or.inl rfl)) (pgs_cons (pg_name (i := 4) sc29.nd rfl (Or.inl rfl)) pgs_nil))))
      (pss_cons (ps_if (pt_cmpR op_isN (pv 3) pe_non (nomark _)) (pss_one (ps_set (i := 3) sc29.nd rfl (Or.inl rfl) (pe_ifExp (pt_cmpR op_isN (pv 4) pe_non (nomark _)) pe_int (pv 4)))) pss_nil)
      (pss_one (ps_ret (pe_tup (pa_cons (pe_ix ix_tup (pv 2) pe_int (fun _ _ => rfl)) (pa_cons (pe_ix ix_tup (pv 2) pe_int (fun _ _ => rfl)) (pa_cons (pv 3) pa_nil)))))))))), ?_⟩
    have he : (rb rs).empty = false := by
      cases e : (rb rs).empty with
      | false => rfl
      | true => exact absurd (rate_of_fit F0) (no_rate e F0.hp F0.hq)
    have EO := ends_ok he
    obtain ⟨n1, n2⟩ := ends_sz (rb_sz hsz) (rb_pos rs)
    refine ⟨_, rfl, a, rs, B, rfl, hR, hl, by omega, hsz, fun e => ?_, fun _ ve vl vh H1 s1 ⟨ae, e1, hae⟩ h2 h3 => ?_⟩
    · rw [he] at e; cases e
    subst e1
    refine ⟨_, rfl, rfl, _, rfl, iteF ?_⟩
    refine ⟨_, rfl, ae, _, 0, _, rfl, rfl, SqT.of hae, rfl, _, rfl, ae, _, 1, _, rfl, rfl, SqT.of hae, rfl, ?_⟩
    refine ⟨vl, vh, (rb rs).ends.1, (rb rs).ends.2, B + 2, rfl, h2, h3, by omega, fun r e => EO.lok r e, fun r e => ⟨Int.le_of_lt (EO.hok r e).1, (EO.hok r e).2⟩, fun h e => (EO.hok h e).1, EO.lt, n1, n2, fun vr p q H2 s2 ⟨ar, e2, har⟩ S => ?_⟩
    subst e2
    have R : RateOk p q rs := (EO.iff p q S.p0 S.q0).mpr ⟨S.lo, S.hi⟩
    have np : Nb 4000 p := S.bp.mono (by omega)
    have nq : Nb 4000 q := S.bq.mono (by omega)
    refine ⟨_, rfl, _, rfl, a, ar, rs, p, q, B, rfl, (hR.same s1).same s2, hl, by omega, hsz, har, np.mono (by omega), nq.mono (by omega), fun vp l g H3 s3 ⟨ap, e3, hap⟩ hmx hmn => ?_⟩
    subst e3
    refine ⟨ap, _, rfl, SqT.of hap, rfl, _, _, rfl, _, _, rfl, rfl, ?_⟩
    have har3 := s3 _ _ har
    have F := ph_fit S.p0 S.q0 R hmx hmn
    have s13 := s1.trans (s2.trans s3)
    have fin : ∀ (c : Int) (v4 : V), Fit p q c rs → Nb 8000 c →
        tRet (tTup (tCons (tOp (rIxT K) (tVar 2) (tC (.int 0))) (tCons (tOp (rIxT K) (tVar 2) (tC (.int 1))) (tCons (tVar 3) tNil)))) { nx := fun _ H' => Q .non H', rt := Q } [some (.ref a), some (.ref ae), some (.ref ar), some (.int c), some v4] H3 := by
      intro c v4 hF hc
      refine ⟨_, rfl, ar, _, 0, _, rfl, rfl, SqT.of har3, rfl, _, rfl, ar, _, 1, _, rfl, rfl, SqT.of har3, rfl, _, rfl, (by show 3 ≤ sizeLine; decide), fun t ht => ?_⟩
      exact k (.ref t) p q c _ (s13.trans (Same.new ht)) ⟨t, rfl, upd_same⟩ hF S.co np nq hc
    refine ⟨_, rfl, rfl, _, rfl, ?_⟩
    cases l with
    | some m =>
      refine ite2 (fun c => by cases c) (fun _ => ?_)
      exact fin m _ F (ph_szL hB np nq hsz hmx m rfl)
    | none =>
      refine ite2 (fun _ => ?_) (fun c => absurd rfl c)
      refine ⟨_, rfl, rfl, _, rfl, ?_⟩
      cases g with
      | some m =>
        refine ite2 (fun c => by cases c) (fun _ => ?_)
        exact ⟨_, rfl, fin m _ F (ph_szH hB np nq hsz hmn m rfl)⟩
      | none =>
        refine ite2 (fun _ => ?_) (fun c => absurd rfl c)
        exact fin 0 _ F (by unfold Nb; exact Nat.pow_pos (by decide))
end
end K67

set_option Elab.async false
set_option linter.all false
set_option maxRecDepth 100000
set_option maxHeartbeats 4000000
namespace K67
open PySem PySem.Spec PyProof.Rows L2
/-! ### pieces -/
structure PcC (K : PySem.W.Frag) (C : Addr) : Prop where
  cl : Cls K C
  n1 : NoAttr K C "start"
  n2 : NoAttr K C "stop"
  n3 : NoAttr K C "time"
  n4 : NoAttr K C "value"
  n5 : NoAttr K C "rise"
  n6 : NoAttr K C "width"
  n7 : NoAttr K C "strict"
structure Pc where
  start : Option Int
  stop : Option Int
  x : Pr
  rise : Int
  width : Int
  strict : Int
def Pc.fs (c : Pc) : List (Str × V) := pcF (optI c.start) (optI c.stop) (.int c.x.1) (.int c.x.2) (.int c.rise) (.int c.width) (.int c.strict)
def covS (t : Int) : Option Int → Bool
  | none => true
  | some s => decide (s ≤ t)
def covE (t : Int) : Option Int → Bool
  | none => true
  | some s => decide (t < s)
def Pc.cov (c : Pc) (t : Int) : Bool := covS t c.start && covE t c.stop
def Pc.bd (c : Pc) (t : Int) : Int := K67.bd c.x c.rise c.width c.strict t
def PcAt (C : Addr) (H : Hp) (v : V) (c : Pc) : Prop := ∃ p dx, v = .ref p ∧ H p = some (.ins C dx c.fs)
theorem PcAt.same {C : Addr} {H H' : Hp} {v : V} {c : Pc} (e : Same H H') (h : PcAt C H v c) : PcAt C H' v c := by
  obtain ⟨p, dx, h1, h2⟩ := h
  exact ⟨p, dx, h1, e _ _ h2⟩
structure PcSz (B : Nat) (c : Pc) : Prop where
  w0 : 0 < c.width
  n1 : Nb B c.x.1
  n2 : Nb B c.x.2
  n3 : Nb B c.rise
  n4 : Nb B c.width
  n5 : Nb B c.strict
section
variable {P : Program} {w : World} {K : PySem.W.Frag} {mg : Str → Option Value} {base : Heap}
theorem pL {f : Str} {v : V} {fs : List (Str × V)} {n : Nat} (h : fs.length ≤ n) : (putF f v fs).length ≤ n + 1 := Nat.le_trans (length_putF f v fs) (by omega)
theorem pN : ([] : List (Str × V)).length ≤ 0 := Nat.le_refl _
theorem pZ {fs : List (Str × V)} {n : Nat} (h : fs.length ≤ n) (l : n ≤ 20 := by decide) : fs.length < 1000 := by omega
def spPcInit (C : Addr) : Sp := fun vs H Q _ => ∃ (p dx : Addr) (v3 v4 : V) (c : Pc), vs = [.ref p, optI c.start, optI c.stop, v3, v4, .int c.strict] ∧ H p = some (.ins C dx []) ∧ TupV H v3 (prL c.x) ∧ TupV H v4 (prL (c.rise, c.width)) ∧
  ∀ H', But p H H' → H' p = some (.ins C dx c.fs) → Q .non H'
theorem scPi : FnScope ["self", "start", "stop", "point", "slope", "strict"] ["self", "start", "stop", "point", "slope", "strict"] (defScope (inClass (top 31) 0)) := ⟨rfl, rfl, rfl, by decide +kernel, rfl, by decide +kernel, by decide +kernel⟩
theorem can_pcinit {C f : Addr} {fd : FuncData} (T : PcC K C) (D : Di K mg "Piece" C "Piece.__init__" (inClass (top 31) 0) ["self", "start", "stop", "point", "slope", "strict"] f fd) :
    CanMk P w K mg base "Piece" C 1 ["self", "start", "stop", "point", "slope", "strict"] (spPcInit C) := by
  refine D.can (D.fn.ok scPi (fun vs H Q E h => ?_) (fun cdv A outer s H vs Q E hr h => ?_))
  · obtain ⟨p, dx, v3, v4, c, rfl, _⟩ := h
    rfl
  · obtain ⟨p, dx, v3, v4, c, rfl, hp, ⟨a3, rfl, h3⟩, ⟨a4, rfl, h4⟩, k⟩ := h
    refine ⟨_, pss_cons (ps_fld (pv 0) (pv 1) rfl) (pss_cons (ps_fld (pv 0) (pv 2) rfl)
      (pss_cons (ps_asg (pv 3) (pg_tup rfl (pgs_cons (pg_fld (pv 0)) (pgs_cons (pg_fld (pv 0)) pgs_nil))))
      (pss_cons (ps_asg (pv 4) (pg_tup rfl (pgs_cons (pg_fld (pv 0)) (pgs_cons (pg_fld (pv 0)) pgs_nil))))
      (pss_one (ps_fld (pv 0) (pv 5) rfl))))), ?_⟩
    have n3 : a3 ≠ p := ne_of h3 hp (fun z => by cases z)
    have n4 : a4 ≠ p := ne_of h4 hp (fun z => by cases z)
    refine ⟨_, rfl, _, rfl, p, C, dx, _, rfl, hp, T.cl, T.n1, (pZ pN), _, rfl, _, rfl, p, C, dx, _, rfl, upd_same, T.cl, T.n2, (pZ (pL pN)), ?_⟩
    refine ⟨_, rfl, a3, _, rfl, SqT.of (by rw [upd_ne n3, upd_ne n3]; exact h3), rfl, _, _, rfl, ⟨_, rfl, p, C, dx, _, rfl, upd_same, T.cl, T.n3, (pZ (pL (pL pN))), _, _, rfl, ⟨_, rfl, p, C, dx, _, rfl, upd_same, T.cl, T.n4, (pZ (pL (pL (pL pN)))), rfl, ?_⟩⟩⟩
    refine ⟨_, rfl, a4, _, rfl, SqT.of (by rw [upd_ne n4, upd_ne n4, upd_ne n4, upd_ne n4]; exact h4), rfl, _, _, rfl, ⟨_, rfl, p, C, dx, _, rfl, upd_same, T.cl, T.n5, (pZ (pL (pL (pL (pL pN))))), _, _, rfl, ⟨_, rfl, p, C, dx, _, rfl, upd_same, T.cl, T.n6, (pZ (pL (pL (pL (pL (pL pN)))))), rfl, ?_⟩⟩⟩
    refine ⟨_, rfl, _, rfl, p, C, dx, _, rfl, upd_same, T.cl, T.n7, (pZ (pL (pL (pL (pL (pL (pL pN))))))), ?_⟩
    rw [pcF_made]
    refine k _ (fun b o e n => ?_) upd_same
    rw [upd_ne n, upd_ne n, upd_ne n, upd_ne n, upd_ne n, upd_ne n, upd_ne n]
    exact e
def spCov (C : Addr) : Sp := fun vs H Q _ => ∃ (v : V) (c : Pc) (t : Int), vs = [v, .int t] ∧ PcAt C H v c ∧ Q (.bl (c.cov t)) H
theorem scCo : FnScope ["self", "time"] ["self", "time"] (defScope (inClass (top 31) 1)) := ⟨rfl, rfl, rfl, by decide +kernel, rfl, by decide +kernel, by decide +kernel⟩
theorem can_covers {C f : Addr} {fd : FuncData} (T : PcC K C) (D : Dm K C "covers" "Piece.covers" (inClass (top 31) 1) ["self", "time"] f fd) : CanM P w K mg base C "covers" 1 ["self", "time"] (spCov C) := by
  refine D.can (D.fn.ok scCo (fun vs H Q E h => ?_) (fun cdv A outer s H vs Q E hr h => ?_))
  · obtain ⟨v, c, t, rfl, _⟩ := h
    rfl
  · obtain ⟨v, c, t, rfl, ⟨p, dx, rfl, hp⟩, k⟩ := h
    refine ⟨_, pss_one (ps_ret (pe_and (pe_or (pe_cmpR op_isN (pe_fld (pv 0) rfl) pe_non (nomark _)) (pe_one (pe_cmpR op_le (pe_fld (pv 0) rfl) (pv 1) (nomark _))))
      (pe_one (pe_or (pe_cmpR op_isN (pe_fld (pv 0) rfl) pe_non (nomark _)) (pe_one (pe_cmpR op_lt (pv 1) (pe_fld (pv 0) rfl) (nomark _))))))), ?_⟩
    obtain ⟨st, sp, x, ri, wi, sr⟩ := c
    unfold Pc.fs at hp
    dsimp only at hp
    have second : Q (.bl (covE t sp)) H →
        tOrV (tOp (fun x y H Q => y = .non ∧ Q (.bl (decide (x = .non))) H) (tFld K (tVar 0) "stop") (tC .non)) (tOp (rI0 fun i j => .bl (decide (i < j))) (tVar 1) (tFld K (tVar 0) "stop")) [some (.ref p), some (.int t)] H Q := by
      intro kk
      refine ⟨_, rfl, p, C, dx, _, _, rfl, hp, T.cl, T.n2, pcF_stop .., rfl, ?_⟩
      cases sp with
      | none => exact ⟨true, rfl, iteT kk⟩
      | some s => exact ⟨false, rfl, iteF ⟨_, rfl, _, rfl, p, C, dx, _, _, rfl, hp, T.cl, T.n2, pcF_stop .., _, _, rfl, rfl, kk⟩⟩
    refine ⟨_, rfl, p, C, dx, _, _, rfl, hp, T.cl, T.n1, pcF_start .., rfl, ?_⟩
    cases st with
    | none => exact ⟨true, rfl, iteT ⟨true, rfl, iteT (second k)⟩⟩
    | some s0 =>
      refine ⟨false, rfl, iteF ⟨_, rfl, p, C, dx, _, _, rfl, hp, T.cl, T.n1, pcF_start .., _, rfl, _, _, rfl, rfl, ?_⟩⟩
      have k : Q (.bl (decide (s0 ≤ t) && covE t sp)) H := k
      by_cases c : s0 ≤ t
      · rw [decide_eq_true c, Bool.true_and] at k
        exact ⟨true, congrArg V.bl (decide_eq_true c), iteT (second k)⟩
      · rw [decide_eq_false c, Bool.false_and] at k
        refine ⟨false, congrArg V.bl (decide_eq_false c), iteF k⟩
def spBd (C : Addr) : Sp := fun vs H Q _ => ∃ (v : V) (c : Pc) (t : Int) (B : Nat), vs = [v, .int t] ∧ PcAt C H v c ∧ PcSz B c ∧ Nb B t ∧ B ≤ 8000 ∧ Q (.int (c.bd t)) H
theorem scBd : FnScope ["self", "time"] ["self", "time"] (defScope (inClass (top 31) 2)) := ⟨rfl, rfl, rfl, by decide +kernel, rfl, by decide +kernel, by decide +kernel⟩
theorem can_bound_at {C f : Addr} {fd : FuncData} (T : PcC K C) (D : Dm K C "bound_at" "Piece.bound_at" (inClass (top 31) 2) ["self", "time"] f fd) : CanM P w K mg base C "bound_at" 1 ["self", "time"] (spBd C) := by
  refine D.can (D.fn.ok scBd (fun vs H Q E h => ?_) (fun cdv A outer s H vs Q E hr h => ?_))
  · obtain ⟨v, c, t, B, rfl, _⟩ := h
    rfl
  · obtain ⟨v, c, t, B, rfl, ⟨p, dx, rfl, hp⟩, S, ht, hB, k⟩ := h
    refine ⟨_, pss_one (ps_ret (pe_op op_add (pe_fld (pv 0) rfl) (pe_op op_fdivW (pe_op op_sub (pe_op op_mulW (pe_fld (pv 0) rfl) (pe_op op_sub (pv 1) (pe_fld (pv 0) rfl))) (pe_fld (pv 0) rfl)) (pe_fld (pv 0) rfl)))), ?_⟩
    obtain ⟨st, sp, x, ri, wi, sr⟩ := c
    unfold Pc.fs at hp
    obtain ⟨w0, z1, z2, z3, z4, z5⟩ := S
    dsimp only at hp w0 z1 z2 z3 z4 z5
    refine ⟨_, rfl, p, C, dx, _, _, rfl, hp, T.cl, T.n4, pcF_value .., _, rfl, p, C, dx, _, _, rfl, hp, T.cl, T.n5, pcF_rise .., _, rfl, _, rfl, p, C, dx, _, _, rfl, hp, T.cl, T.n3, pcF_time .., _, _, rfl, rfl, _, _, rfl, rfl, ?_, ?_⟩
    · exact z3.cmul (ht.sub z1) (by omega)
    refine ⟨_, rfl, p, C, dx, _, _, rfl, hp, T.cl, T.n7, pcF_strict .., _, _, rfl, rfl, _, rfl, p, C, dx, _, _, rfl, hp, T.cl, T.n6, pcF_width .., _, _, rfl, rfl, ?_, _, _, rfl, rfl, k⟩
    · exact z4.cdiv w0 (by omega)
/-! ### slope_between, is_steeper, is_turn -/
def slp (a b : Pr) : Pr := (b.2 - a.2, b.1 - a.1)
def spSlope : Sp := fun vs H Q _ => ∃ (v1 v2 : V) (a b : Pr), vs = [v1, v2] ∧ TupV H v1 (prL a) ∧ TupV H v2 (prL b) ∧ ∀ p, H p = none → Q (.ref p) (upd H p (.tup (prL (slp a b))))
theorem sc32 : FnScope ["first", "second"] ["first", "second"] (defScope (top 32)) := ⟨rfl, rfl, rfl, by decide +kernel, rfl, by decide +kernel, by decide +kernel⟩
theorem can_slope {f : Addr} {fd : FuncData} (D : Df K mg "slope_between" (top 32) ["first", "second"] f fd) : Can P w K mg base "slope_between" 1 ["first", "second"] spSlope := by
  refine D.can (D.fn.ok sc32 (fun vs H Q E h => ?_) (fun cdv A outer s H vs Q E hr h => ?_))
  · obtain ⟨v1, v2, a, b, rfl, _⟩ := h
    rfl
  · obtain ⟨v1, v2, a, b, rfl, ⟨a1, rfl, h1⟩, ⟨a2, rfl, h2⟩, k⟩ := h
    refine ⟨_, pss_one (ps_ret (pe_tup (pa_cons (pe_op op_sub (pe_ix ix_tup (pv 1) pe_int (fun _ _ => rfl)) (pe_ix ix_tup (pv 0) pe_int (fun _ _ => rfl))) (pa_cons (pe_op op_sub (pe_ix ix_tup (pv 1) pe_int (fun _ _ => rfl)) (pe_ix ix_tup (pv 0) pe_int (fun _ _ => rfl))) pa_nil)))), ?_⟩
    exact ⟨_, rfl, a2, _, 1, _, rfl, rfl, SqT.of h2, rfl, _, rfl, a1, _, 1, _, rfl, rfl, SqT.of h1, rfl, _, _, rfl, rfl, _, rfl, a2, _, 0, _, rfl, rfl, SqT.of h2, rfl, _, rfl, a1, _, 0, _, rfl, rfl, SqT.of h1, rfl, _, _, rfl, rfl, (by show 2 ≤ sizeLine; decide), fun p hp => k p hp⟩
def steepB (a b : Pr) : Bool := decide (a.1 * b.2 > b.1 * a.2)
def spSteep : Sp := fun vs H Q _ => ∃ (v1 v2 : V) (a b : Pr) (B : Nat), vs = [v1, v2] ∧ TupV H v1 (prL a) ∧ TupV H v2 (prL b) ∧ B ≤ 8000 ∧ Nb B a.1 ∧ Nb B a.2 ∧ Nb B b.1 ∧ Nb B b.2 ∧ Q (.bl (steepB a b)) H
theorem sc33 : FnScope ["first", "second"] ["first", "second"] (defScope (top 33)) := ⟨rfl, rfl, rfl, by decide +kernel, rfl, by decide +kernel, by decide +kernel⟩
theorem can_is_steeper {f : Addr} {fd : FuncData} (D : Df K mg "is_steeper" (top 33) ["first", "second"] f fd) : Can P w K mg base "is_steeper" 1 ["first", "second"] spSteep := by
  refine D.can (D.fn.ok sc33 (fun vs H Q E h => ?_) (fun cdv A outer s H vs Q E hr h => ?_))
  · obtain ⟨v1, v2, a, b, B, rfl, _⟩ := h
    rfl
  · obtain ⟨v1, v2, a, b, B, rfl, ⟨a1, rfl, h1⟩, ⟨a2, rfl, h2⟩, hB, z1, z2, z3, z4, k⟩ := h
    refine ⟨_, pss_one (ps_ret (pe_cmpR op_gt (pe_op op_mulW (pe_ix ix_tup (pv 0) pe_int (fun _ _ => rfl)) (pe_ix ix_tup (pv 1) pe_int (fun _ _ => rfl))) (pe_op op_mulW (pe_ix ix_tup (pv 1) pe_int (fun _ _ => rfl)) (pe_ix ix_tup (pv 0) pe_int (fun _ _ => rfl))) (nomark _))), ?_⟩
    exact ⟨_, rfl, a1, _, 0, _, rfl, rfl, SqT.of h1, rfl, _, rfl, a2, _, 1, _, rfl, rfl, SqT.of h2, rfl, _, _, rfl, rfl, z1.cmul z4 (by omega), _, rfl, a2, _, 0, _, rfl, rfl, SqT.of h2, rfl, _, rfl, a1, _, 1, _, rfl, rfl, SqT.of h1, rfl, _, _, rfl, rfl, z3.cmul z2 (by omega), _, _, rfl, rfl, k⟩
def PrSz (B : Nat) (x : Pr) : Prop := Nb B x.1 ∧ Nb B x.2
theorem slp_sz {B : Nat} {a b : Pr} (h1 : PrSz B a) (h2 : PrSz B b) : PrSz (B + 1) (slp a b) := ⟨h2.2.sub h1.2, h2.1.sub h1.1⟩
instance (sg : Int) (a b c : Pr) : Decidable (turn sg a b c) := by unfold turn; infer_instance
def spTurn : Sp := fun vs H Q _ => ∃ (v1 v2 v3 : V) (a b c : Pr) (sg : Int) (B : Nat), vs = [v1, v2, v3, .int sg] ∧ (sg = 1 ∨ sg = -1) ∧ TupV H v1 (prL a) ∧ TupV H v2 (prL b) ∧ TupV H v3 (prL c) ∧ B ≤ 7000 ∧ PrSz B a ∧ PrSz B b ∧ PrSz B c ∧ ∀ H', Same H H' → Q (.bl (decide (turn sg a b c))) H'
theorem sc34 : FnScope ["first", "second", "third", "sign", "before", "after"] ["first", "second", "third", "sign"] (defScope (top 34)) := ⟨rfl, rfl, rfl, by decide +kernel, rfl, by decide +kernel, by decide +kernel⟩
theorem can_is_turn {f : Addr} {fd : FuncData} (D : Df K mg "is_turn" (top 34) ["first", "second", "third", "sign"] f fd) (C1 : Can P w K mg base "slope_between" 1 ["first", "second"] spSlope) (C2 : Can P w K mg base "is_steeper" 1 ["first", "second"] spSteep) :
    Can P w K mg base "is_turn" 2 ["first", "second", "third", "sign"] spTurn := by
  refine D.can (D.fn.ok sc34 (fun vs H Q E h => ?_) (fun cdv A outer s H vs Q E hr h => ?_))
  · obtain ⟨v1, v2, v3, a, b, c, sg, B, rfl, _⟩ := h
    rfl
  · obtain ⟨v1, v2, v3, a, b, c, sg, B, rfl, hsg, h1, h2, h3, hB, z1, z2, z3, k⟩ := h
    refine ⟨_, pss_cons (ps_par (i := 4) (j := 5) (by rfl) sc34.nd rfl rfl (by decide) rfl rfl (pa_cons (pe_can C1 hr (pa_cons (pv 0) (pa_cons (pv 1) pa_nil))) (pa_cons (pe_can C1 hr (pa_cons (pv 1) (pa_cons (pv 2) pa_nil))) pa_nil)) (by rfl))
      (pss_one (ps_ret (pe_ifExp (pt_cmpR op_eq (pv 3) pe_int (nomark _)) (pe_can C2 hr (pa_cons (pv 5) (pa_cons (pv 4) pa_nil))) (pe_can C2 hr (pa_cons (pv 4) (pa_cons (pv 5) pa_nil)))))), ?_⟩
    refine ⟨_, rfl, _, rfl, v1, v2, a, b, rfl, h1, h2, fun p hp => ?_⟩
    have s1 : Same H (upd H p (.tup (prL (slp a b)))) := Same.new hp
    refine ⟨_, rfl, _, rfl, v2, v3, b, c, rfl, h2.same s1, h3.same s1, fun q hq => ?_⟩
    have s2 := s1.trans (Same.new (o := .tup (prL (slp b c))) hq)
    have np : p ≠ q := ne_of_none (upd_same : (upd H p (.tup (prL (slp a b)))) p = _) hq
    have e1 : TupV (upd (upd H p (.tup (prL (slp a b)))) q (.tup (prL (slp b c)))) (.ref p) (prL (slp a b)) := ⟨p, rfl, by rw [upd_ne np]; exact upd_same⟩
    have e2 : TupV (upd (upd H p (.tup (prL (slp a b)))) q (.tup (prL (slp b c)))) (.ref q) (prL (slp b c)) := ⟨q, rfl, upd_same⟩
    obtain ⟨y1, y2⟩ := slp_sz z1 z2
    obtain ⟨y3, y4⟩ := slp_sz z2 z3
    refine ⟨_, _, rfl, _, rfl, rfl, _, rfl, ?_⟩
    rcases hsg with rfl | rfl
    · refine ite2 (fun _ => ?_) (fun c => absurd (by decide +kernel) c)
      refine ⟨_, rfl, _, rfl, _, _, slp b c, slp a b, B + 1, rfl, e2, e1, by omega, y3, y4, y1, y2, ?_⟩
      have := k _ s2
      rw [show decide (turn 1 a b c) = steepB (slp b c) (slp a b) from by unfold turn steepB slp; congr 1; dsimp only; apply propext; constructor <;> intro h <;> omega] at this
      exact this
    · refine ite2 (fun c => absurd c (by decide +kernel)) (fun _ => ?_)
      refine ⟨_, rfl, _, rfl, _, _, slp a b, slp b c, B + 1, rfl, e1, e2, by omega, y1, y2, y3, y4, ?_⟩
      have := k _ s2
      rw [show decide (turn (-1) a b c) = steepB (slp a b) (slp b c) from by unfold turn steepB slp; congr 1; dsimp only; apply propext; constructor <;> intro h <;> omega] at this
      exact this
end
end K67

set_option Elab.async false
set_option linter.all false
set_option maxRecDepth 100000
set_option maxHeartbeats 4000000
namespace K67
open PySem PySem.Spec PyProof.Rows L2
/-! ### lists of points -/
def PtsV (H : Hp) : List V → List Pr → Prop := Paired fun v x => TupV H v (prL x)
theorem PtsV.same {H H' : Hp} {vs : List V} {xs : List Pr} (e : Same H H') (h : PtsV H vs xs) : PtsV H' vs xs := paired_mono (fun _ _ => TupV.same e) h
theorem TupV.butL {p : Addr} {H H' : Hp} {v : V} {xs zs : List V} (e : But p H H') (hp : H p = some (.lst zs)) (h : TupV H v xs) : TupV H' v xs := by
  obtain ⟨a, h1, h2⟩ := h
  exact ⟨a, h1, e a _ h2 (ne_of h2 hp (fun z => by cases z))⟩
theorem PtsV.butL {p : Addr} {H H' : Hp} {vs zs : List V} {xs : List Pr} (e : But p H H') (hp : H p = some (.lst zs)) (h : PtsV H vs xs) : PtsV H' vs xs := paired_mono (fun _ _ => TupV.butL e hp) h
theorem paired_unsnoc {α β : Type} {F : α → β → Prop} {y : β} : ∀ {ys : List β} {ws : List α}, Paired F ws (ys ++ [y]) → ∃ ws' w, ws = ws' ++ [w] ∧ Paired F ws' ys ∧ F w y
  | [], _, .cons r .nil => ⟨[], _, rfl, .nil, r⟩
  | z :: ys, _, .cons r t => by
    obtain ⟨ws', w, h1, h2, h3⟩ := paired_unsnoc t
    exact ⟨_ :: ws', w, by rw [h1]; rfl, .cons r h2, h3⟩
theorem paired_map {α β : Type} {F : α → β → Prop} {f : α → β} : ∀ {xs : List α}, (∀ x ∈ xs, F x (f x)) → Paired F xs (xs.map f)
  | [], _ => .nil
  | x :: xs, h => .cons (h x List.mem_cons_self) (paired_map fun y hy => h y (List.mem_cons_of_mem _ hy))
theorem paired_memL {α β : Type} {F : α → β → Prop} : ∀ {xs : List α} {ys : List β}, Paired F xs ys → ∀ {x : α}, x ∈ xs → ∃ y ∈ ys, F x y
  | _, _, .cons r t, x, h => by
    rcases List.mem_cons.mp h with e | e
    · exact ⟨_, List.mem_cons_self, e ▸ r⟩
    · obtain ⟨y, h1, h2⟩ := paired_memL t e
      exact ⟨y, List.mem_cons_of_mem _ h1, h2⟩
theorem paired_memR {α β : Type} {F : α → β → Prop} : ∀ {xs : List α} {ys : List β}, Paired F xs ys → ∀ {y : β}, y ∈ ys → ∃ x ∈ xs, F x y
  | _, _, .cons r t, x, h => by
    rcases List.mem_cons.mp h with e | e
    · exact ⟨_, List.mem_cons_self, e ▸ r⟩
    · obtain ⟨y, h1, h2⟩ := paired_memR t e
      exact ⟨y, List.mem_cons_of_mem _ h1, h2⟩
theorem at_m1 {xs : List V} {v : V} : atI (xs ++ [v]) (-1) = some v := atI_last xs v
theorem at_m2 {xs : List V} {u v : V} : atI (xs ++ [u, v]) (-2) = some u := by
  unfold atI ixN
  have e : (xs ++ [u, v]).length = xs.length + 2 := by simp
  rw [e, if_neg (by decide), if_pos (by omega)]
  show (xs ++ [u, v])[(-2 + ((xs.length + 2 : Nat) : Int)).toNat]? = some u
  rw [show (-2 + ((xs.length + 2 : Nat) : Int)).toNat = xs.length by omega]
  simp
/-- what the pair at x holds -/
def prAt (H : Hp) : V → Pr
  | .ref t => match H t with
    | some (.tup [.int a, .int b]) => (a, b)
    | _ => (0, 0)
  | _ => (0, 0)
theorem prAt_of {H : Hp} {v : V} {x : Pr} (h : TupV H v (prL x)) : prAt H v = x := by
  obtain ⟨a, rfl, h⟩ := h
  show (match H a with
    | some (.tup [.int a, .int b]) => (a, b)
    | _ => ((0, 0) : Pr)) = x
  rw [h]
  rfl
theorem prAt_map {H : Hp} : ∀ {vs : List V} {xs : List Pr}, PtsV H vs xs → vs.map (prAt H) = xs
  | _, _, .nil => rfl
  | _, _, .cons r t => by rw [List.map_cons, prAt_of r, prAt_map t]
/-- sorted by the pairs, the firsts all different -/
theorem sorted_lt {qs : List Pr} (hs : qs.Pairwise fun x y => SrtO.lexB y x = false) (hn : (qs.map (·.1)).Nodup) : qs.Pairwise fun x y => x.1 < y.1 := by
  have hn : qs.Pairwise (fun x y => x.1 ≠ y.1) := List.pairwise_map.mp hn
  refine List.Pairwise.imp₂ ?_ hs hn
  intro a b h1 h2
  have := SrtO.lexB_no.mp h1
  omega
theorem popT_len (sg : Int) (c : Pr) : ∀ st : List Pr, (popT sg c st).length ≤ st.length
  | [] => by unfold popT; exact Nat.le_refl _
  | [x] => by unfold popT; exact Nat.le_refl _
  | x :: y :: r => by
    unfold popT
    split
    · exact Nat.le_refl _
    · have := popT_len sg c (y :: r)
      simp only [List.length_cons] at *
      omega
theorem popT_mem (sg : Int) (c : Pr) : ∀ (st : List Pr), ∀ x ∈ popT sg c st, x ∈ st
  | [] => by unfold popT; exact fun x h => h
  | [x] => by unfold popT; exact fun x h => h
  | a :: b :: r => by
    unfold popT
    split
    · exact fun x h => h
    · exact fun x h => List.mem_cons_of_mem _ (popT_mem sg c (b :: r) x h)
theorem hullS_snoc {sg : Int} {qs : List Pr} {c : Pr} {i : Nat} (h : qs[i]? = some c) : hullS sg (qs.take (i + 1)) = c :: popT sg c (hullS sg (qs.take i)) := by
  unfold hullS
  rw [List.take_add_one, h, List.foldl_append]
  rfl
theorem hullS_fold {sg : Int} : ∀ (qs st : List Pr), (qs.foldl (fun st c => c :: popT sg c st) st).length ≤ st.length + qs.length ∧ ∀ x ∈ qs.foldl (fun st c => c :: popT sg c st) st, x ∈ st ∨ x ∈ qs
  | [], st => ⟨Nat.le_refl _, fun x h => Or.inl h⟩
  | c :: qs, st => by
    obtain ⟨h1, h2⟩ := hullS_fold (sg := sg) qs (c :: popT sg c st)
    have := popT_len sg c st
    refine ⟨?_, fun x hx => ?_⟩
    · simp only [List.foldl_cons, List.length_cons] at *
      omega
    · rcases h2 x hx with e | e
      · rcases List.mem_cons.mp e with e | e
        · exact Or.inr (by rw [e]; exact List.mem_cons_self)
        · exact Or.inl (popT_mem sg c st x e)
      · exact Or.inr (List.mem_cons_of_mem _ e)
theorem hullS_sz (sg : Int) (qs : List Pr) : (hullS sg qs).length ≤ qs.length ∧ ∀ x ∈ hullS sg qs, x ∈ qs := by
  obtain ⟨h1, h2⟩ := hullS_fold (sg := sg) qs []
  refine ⟨by unfold hullS; simpa using h1, fun x hx => ?_⟩
  rcases h2 x hx with e | e
  · cases e
  · exact e
section
variable {P : Program} {w : World} {K : PySem.W.Frag} {mg : Str → Option Value} {base : Heap}
/-! ### hull_of -/
def spHull : Sp := fun vs H Q _ => ∃ (a : Addr) (us : List V) (pts : List Pr) (sg : Int) (B : Nat), vs = [.ref a, .int sg] ∧ (sg = 1 ∨ sg = -1) ∧ H a = some (.lst us) ∧ PtsV H us pts ∧ (pts.map (·.1)).Nodup ∧ pts.length ≤ 300 ∧ B ≤ 7000 ∧ (∀ x ∈ pts, PrSz B x) ∧
  ∀ p H' ws qs, Same H H' → H p = none → H' p = some (.lst ws) → PtsV H' ws (hullF sg qs) → qs.Perm pts → qs.Pairwise (fun x y => x.1 < y.1) → Q (.ref p) H'
theorem sc35 : FnScope ["points", "sign", "found", "point"] ["points", "sign"] (defScope (top 35)) := ⟨rfl, rfl, rfl, by decide +kernel, rfl, by decide +kernel, by decide +kernel⟩
theorem can_hull_of (T : Txt K mg) {f : Addr} {fd : FuncData} (D : Df K mg "hull_of" (top 35) ["points", "sign"] f fd) (C1 : Can P w K mg base "is_turn" 2 ["first", "second", "third", "sign"] spTurn) :
    Can P w K mg base "hull_of" 3 ["points", "sign"] spHull := by
  refine D.can (D.fn.ok sc35 (fun vs H Q E h => ?_) (fun cdv A outer s H vs Q E hr h => ?_))
  · obtain ⟨a, us, pts, sg, B, rfl, _⟩ := h
    rfl
  · obtain ⟨a, us, pts, sg, B, rfl, hsg, ha, hus, hnd, hl, hB, hsz, k⟩ := h
    refine ⟨_, pss_cons (ps_set (i := 2) sc35.nd rfl (Or.inl rfl) (pe_lst pa_nil))
      (pss_cons (ps_for PassesOwn.never rfl (pi_list (pe_callB cr_sortedPO (by rfl) T.sorted (by decide +kernel) (pa_cons (pv 0) pa_nil))) (pg_name (i := 3) sc35.nd rfl (Or.inl rfl))
        (pss_cons (ps_while PassesOwn.never (PW.pt (pw_and (pt_cmpR op_gt (pe_len T.len (pv 2)) pe_int (nomark _)) (pw_and1 (pt_not (pt_val (pe_can C1 hr (pa_cons (pe_ix ix_list (pv 2) (pe_un un_neg pe_int) (fun _ _ => rfl)) (pa_cons (pe_ix ix_list (pv 2) (pe_un un_neg pe_int) (fun _ _ => rfl)) (pa_cons (pv 3) (pa_cons (pv 1) pa_nil)))))))))) 
            (pss_one (ps_expr (pe_bm0 PySem.F.plainAttrs_list PySem.F.slot_list_pop PySem.F.type_list_pop mt_pop (pv 2)))))
          (pss_one (ps_expr (pe_bm PySem.F.plainAttrs_list PySem.F.slot_list_append PySem.F.type_list_append mt_append (pv 2) (pa_cons (pv 3) pa_nil))))))
      (pss_one (ps_ret (pv 2)))), ?_⟩
    refine ⟨Nat.zero_le _, fun fa hfa => ?_⟩
    have s1 : Same H (upd H fa (.lst [])) := Same.new hfa
    refine ⟨_, rfl, a, us, prAt H, rfl, SqL.of (s1 _ _ ha), fun x hx => ?_, fun ys so srt stb hso => ?_⟩
    · obtain ⟨y, hy, hxy⟩ := paired_memL hus hx
      rw [prAt_of hxy]
      obtain ⟨t, rfl, ht⟩ := hxy
      exact ⟨t, rfl, s1 _ _ ht⟩
    have em : us.map (prAt H) = pts := prAt_map hus
    have hys : PtsV H ys (ys.map (prAt H)) := paired_map fun x hx => by
      obtain ⟨y, hy, hxy⟩ := paired_memL hus (stb.perm.mem_iff.mp hx)
      rw [prAt_of hxy]
      exact hxy
    have hperm : (ys.map (prAt H)).Perm pts := by rw [← em]; exact stb.perm.map _
    generalize eqs : ys.map (prAt H) = qs at hys hperm
    have hlt : qs.Pairwise fun x y => x.1 < y.1 := by
      refine sorted_lt ?_ ((hperm.map _).nodup_iff.mpr hnd)
      rw [← eqs]
      exact List.pairwise_map.mpr srt
    have hql : qs.length ≤ 300 := by rw [hperm.length_eq]; exact hl
    have nso : so ≠ fa := fun z => by rw [z, upd_same] at hso; cases hso
    have s2 : Same H (upd (upd H fa (.lst [])) so (.lst ys)) := s1.trans (Same.new hso)
    refine ⟨so, rfl, ⟨_, SqL.of upd_same⟩, for_list (K := K) (a := so) (xs := ys) (fun i σ H' => ∃ s3 ws, σ = [some (.ref a), some (.int sg), some (.ref fa), s3] ∧ Same H H' ∧ H' so = some (.lst ys) ∧ H' fa = some (.lst ws) ∧ PtsV H' ws (hullS sg (qs.take i)).reverse)
      ⟨none, [], rfl, s2, upd_same, by rw [upd_ne nso.symm]; exact upd_same, .nil⟩ (fun i σ H' _ h => ?_) ?_ ?_⟩
    · obtain ⟨_, _, _, _, h, _⟩ := h
      exact SqL.of h
    · rintro i x σ H' hx ⟨s3, ws, rfl, sm, hso', hfa', hws⟩
      obtain ⟨c, hc, hcv⟩ := paired_at hys hx
      have hcm : c ∈ qs := List.mem_of_getElem? hc
      have szq : ∀ y ∈ qs, PrSz B y := fun y hy => hsz y (hperm.mem_iff.mp hy)
      generalize est : hullS sg (qs.take i) = st0 at hws
      have st0l : st0.length ≤ 300 := by
        have := (hullS_sz sg (qs.take i)).1
        have := List.length_take_le' i qs
        rw [est] at *
        omega
      have st0m : ∀ y ∈ st0, y ∈ qs := fun y hy => List.mem_of_mem_take ((hullS_sz sg (qs.take i)).2 y (by rw [est]; exact hy))
      refine ⟨fun m σ H2 => ∃ ws st, σ = [some (.ref a), some (.int sg), some (.ref fa), some x] ∧ m = st.length ∧ Same H H2 ∧ H2 so = some (.lst ys) ∧ H2 fa = some (.lst ws) ∧ PtsV H2 ws st.reverse ∧ popT sg c st = popT sg c st0 ∧ st.length ≤ 300 ∧ ∀ y ∈ st, y ∈ qs,
        ⟨_, ws, st0, rfl, rfl, sm, hso', hfa', hws, rfl, st0l, st0m⟩, ?_⟩
      rintro m σ H2 ⟨ws, st, rfl, rfl, sm, hso', hfa', hws, hpop, hstl, hstm⟩
      have hwl : ws.length = st.length := by rw [paired_len hws, List.length_reverse]
      have fin : ∀ (H2 : Hp) (ws : List V) (st : List Pr), Same H H2 → H2 so = some (.lst ys) → H2 fa = some (.lst ws) → PtsV H2 ws st.reverse → popT sg c st = popT sg c st0 → st.length ≤ 300 → popT sg c st = st →
          tDrop (tBM K "list" rAppend (tVar 2) (tCons (tVar 3) tNil)) { nx := fun σ H' => ∃ s3 ws, σ = [some (.ref a), some (.int sg), some (.ref fa), s3] ∧ Same H H' ∧ H' so = some (.lst ys) ∧ H' fa = some (.lst ws) ∧ PtsV H' ws (hullS sg (qs.take (i + 1))).reverse, rt := Q } [some (.ref a), some (.int sg), some (.ref fa), some x] H2 := by
        intro H2 ws st sm hso' hfa' hws hpop hstl hp
        have hwl : ws.length = st.length := by rw [paired_len hws, List.length_reverse]
        refine ⟨_, rfl, .inl ⟨rfl, _, SqL.of hfa'⟩, _, rfl, fa, ws, x, rfl, rfl, hfa', small1000 (by omega), ?_⟩
        have b : But fa H2 (upd H2 fa (.lst (ws ++ [x]))) := But.upd
        refine ⟨_, _, rfl, fun u o e => ?_, ?_, upd_same, ?_⟩
        · rw [upd_ne (ne_of_none e hfa)]
          exact sm _ _ e
        · rw [upd_ne nso]
          exact hso'
        · rw [hullS_snoc hc, est, ← hpop, hp, List.reverse_cons]
          exact paired_snoc (F := fun v x => TupV _ v (prL x)) (TupV.butL b hfa' (hcv.same sm)) (PtsV.butL b hfa' hws)
      refine ⟨_, rfl, fa, ws, rfl, .inl (SqL.of hfa'), _, _, rfl, rfl, _, rfl, ite2 (fun cc => ?_) (fun cc => ?_)⟩
      · have cc : (1 : Int) < (ws.length : Nat) := of_decide_eq_true cc
        match st, hpop, hstl, hstm, hws, hwl with
        | [], _, _, _, _, hwl => simp at hwl; simp [hwl] at cc
        | [_], _, _, _, _, hwl => simp at hwl; simp [hwl] at cc
        | b :: a' :: r, hpop, hstl, hstm, hws, hwl =>
          rw [List.reverse_cons, List.reverse_cons] at hws
          obtain ⟨w1, vb, rfl, h1, hvb⟩ := paired_unsnoc hws
          obtain ⟨w2, va, rfl, h2, hva⟩ := paired_unsnoc h1
          have e2 : w2 ++ [va] ++ [vb] = w2 ++ [va, vb] := by simp
          have zs : ∀ y ∈ b :: a' :: r, PrSz B y := fun y hy => szq y (hstm y hy)
          refine ⟨_, rfl, _, rfl, fa, _, -2, va, rfl, rfl, SqL.of hfa', (by rw [e2]; exact at_m2), _, rfl, _, rfl, fa, _, -1, vb, rfl, rfl, SqL.of hfa', at_m1, _, rfl, _, rfl, ?_⟩
          refine ⟨va, vb, x, a', b, c, sg, B, rfl, hsg, hva, hvb, hcv.same sm, hB, zs _ (by simp), zs _ (by simp), szq c hcm, fun H3 s3 => ?_⟩
          by_cases ct : turn sg a' b c
          · refine ⟨true, congrArg V.bl (decide_eq_true ct), ?_⟩
            refine fin H3 _ (b :: a' :: r) (sm.trans s3) (s3 _ _ hso') (s3 _ _ hfa') ?_ hpop hstl ?_
            · rw [List.reverse_cons, List.reverse_cons]
              exact PtsV.same s3 hws
            · unfold popT
              rw [if_pos ct]
          · refine ⟨false, congrArg V.bl (decide_eq_false ct), ⟨_, fun _ _ h => h, ?_⟩⟩
            refine ⟨_, rfl, .inl ⟨rfl, _, SqL.of (s3 _ _ hfa')⟩, fa, _, vb, rfl, rfl, s3 _ _ hfa', (by simp), ?_⟩
            have bt : But fa H3 (upd H3 fa (.lst (w2 ++ [va] ++ [vb]).dropLast)) := But.upd
            refine ⟨(a' :: r).length, (by simp), _, a' :: r, rfl, rfl, fun u o e => ?_, ?_, upd_same, ?_, ?_, ?_, fun y hy => hstm y (List.mem_cons_of_mem _ hy)⟩
            · rw [upd_ne (ne_of_none e hfa)]
              exact s3 _ _ (sm _ _ e)
            · rw [upd_ne nso]
              exact s3 _ _ hso'
            · rw [List.dropLast_concat] at bt ⊢
              rw [List.reverse_cons]
              exact PtsV.butL bt (s3 _ _ hfa') (PtsV.same s3 h1)
            · rw [← hpop]
              conv => rhs; unfold popT
              rw [if_neg ct]
            · simp only [List.length_cons] at hstl ⊢
              omega
      · have cc : ¬ (1 : Int) < (ws.length : Nat) := fun z => cc (decide_eq_true z)
        refine fin H2 ws st sm hso' hfa' hws hpop hstl ?_
        match st, hwl with
        | [], _ => unfold popT; rfl
        | [_], _ => unfold popT; rfl
        | b :: a' :: r, hwl => simp at hwl; omega
    · rintro σ H' ⟨s3, ws, rfl, sm, hso', hfa', hws⟩
      rw [show ys.length = qs.length from paired_len hys, List.take_length] at hws
      exact ⟨_, rfl, k fa H' ws qs sm hfa hfa' hws hperm hlt⟩
end
end K67

set_option Elab.async false
set_option linter.all false
set_option maxRecDepth 100000
set_option maxHeartbeats 4000000
namespace K67
open PySem PySem.Spec PyProof.Rows L2
/-! ### a list or a tuple, walked; it alone stands -/
def iSeqT (tl : TE) : TI := fun σ H R => tl σ H fun x H1 => ∃ a xs, x = .ref a ∧ Tq H1 a xs ∧ ∀ J, Walk J xs.length (fun H' => H' a = H1 a) (YAt xs) → R J H1
theorem pi_seqT {X : Cx} {tg l : Expr} {tl : TE} (hl : PE X l tl) : PI X tg l (iSeqT tl) := by
  refine ⟨fun pins s σ H R I h => thn (hl.run pins s σ H _ I h) fun v s1 ⟨x, H1, I1, r1, a, xs, e, hs, q⟩ => ?_⟩
  subst e
  cases r1
  rcases hs with hs | hs
  · obtain ⟨its, rv, p, hz⟩ := I1.list (SqL.of hs)
    exact wpAny_pyIter_list p.isList (pi_one (tk := s1.toks) I1 _ (turn_list a _) ⟨_, Heap.get?_push_size _ rfl, rfl, rfl⟩ (q _ (walk_list.mono (fun H' s => SqL.of (s.trans hs)) fun _ _ _ _ _ _ y => y)))
  · obtain ⟨its, rv, p, hz⟩ := I1.tuple (SqT.of hs)
    exact wpAny_pyIter_tuple (show s1.heap.IsTuple a its.toArray from p) (pi_one (tk := s1.toks) I1 _ (turn_tuple a _) ⟨_, Heap.get?_push_size _ rfl, rfl, rfl⟩ (q _ (walk_tup.mono (fun H' s => SqT.of (s.trans hs)) fun _ _ _ _ _ _ y => y)))
/-! ### points by time -/
def kf (pts : List Pr) : List (Key × V) := pts.map fun x => (Sum.inl x.1, V.int x.2)
def getP : List Pr → Int → Option Int
  | [], _ => none
  | x :: r, t => if x.1 = t then some x.2 else getP r t
def putP (pts : List Pr) (t v : Int) : List Pr := if getP pts t = none then pts ++ [(t, v)] else pts.map fun x => if x.1 = t then (t, v) else x
theorem inl_dec (a t : Int) : decide ((Sum.inl a : Key) = Sum.inl t) = decide (a = t) := by
  apply decide_eq_decide.mpr
  exact ⟨fun h => Sum.inl.inj h, fun h => by rw [h]⟩
theorem kf_val : ∀ (pts : List Pr) (t : Int), valV (kf pts) (.inl t) = (getP pts t).map V.int
  | [], t => rfl
  | x :: r, t => by
    by_cases e : x.1 = t
    · have h : getP (x :: r) t = some x.2 := by unfold getP; rw [if_pos e]
      rw [h]
      exact valV_pos (p := (Sum.inl x.1, V.int x.2)) (r := kf r) (congrArg Sum.inl e)
    · have h : getP (x :: r) t = getP r t := by rw [getP, if_neg e]
      rw [h, ← kf_val r t]
      exact valV_neg (p := (Sum.inl x.1, V.int x.2)) (r := kf r) (fun z => e (Sum.inl.inj z))
theorem kf_any (pts : List Pr) (t : Int) : ((kf pts).any fun kv => decide (kv.1 = .inl t)) = (getP pts t).isSome := by
  rw [valV_any, kf_val]
  cases getP pts t <;> rfl
theorem kf_put (pts : List Pr) (t v : Int) : putK (kf pts) (.inl t) (.int v) = kf (putP pts t v) := by
  unfold putK putP
  rw [kf_any]
  cases e : getP pts t with
  | none =>
    rw [if_neg (by simp), if_pos rfl]
    unfold kf
    rw [List.map_append]
    rfl
  | some m =>
    rw [if_pos (by simp), if_neg (by simp)]
    unfold kf
    rw [List.map_map, List.map_map]
    refine List.map_congr_left fun x _ => ?_
    dsimp only [Function.comp]
    by_cases e2 : x.1 = t
    · rw [if_pos (congrArg Sum.inl e2), if_pos e2, e2]
    · rw [if_neg (fun z => e2 (Sum.inl.inj z)), if_neg e2]
theorem getP_none {t : Int} : ∀ {pts : List Pr}, getP pts t = none → ∀ x ∈ pts, x.1 ≠ t
  | y :: r, h, x, hx => by
    rw [getP] at h
    split at h
    · cases h
    · rename_i n
      rcases List.mem_cons.mp hx with e | e
      · rw [e]; exact n
      · exact getP_none h x e
theorem getP_some {t m : Int} : ∀ {pts : List Pr}, getP pts t = some m → (t, m) ∈ pts
  | y :: r, h => by
    rw [getP] at h
    split at h
    · rename_i e
      cases h
      rw [← e]
      exact List.mem_cons_self
    · exact List.mem_cons_of_mem _ (getP_some h)
theorem getP_uniq {t m : Int} : ∀ {pts : List Pr}, (pts.map (·.1)).Nodup → getP pts t = some m → ∀ x ∈ pts, x.1 = t → x.2 = m
  | y :: r, hn, h, x, hx, ex => by
    rw [List.map_cons, List.nodup_cons] at hn
    rw [getP] at h
    split at h
    · rename_i e
      cases h
      rcases List.mem_cons.mp hx with z | z
      · rw [z]
      · exact absurd (List.mem_map.mpr ⟨x, z, ex.trans e.symm⟩) hn.1
    · rename_i n
      rcases List.mem_cons.mp hx with z | z
      · rw [z] at ex; exact absurd ex n
      · exact getP_uniq hn.2 h x z ex
theorem putP_mem {pts : List Pr} {t v : Int} : ∀ x ∈ putP pts t v, x = (t, v) ∨ (x ∈ pts ∧ x.1 ≠ t) := by
  intro x hx
  unfold putP at hx
  split at hx
  · rename_i e
    rcases List.mem_append.mp hx with z | z
    · exact Or.inr ⟨z, getP_none e x z⟩
    · exact Or.inl (List.mem_singleton.mp z)
  · obtain ⟨y, hy, rfl⟩ := List.mem_map.mp hx
    split
    · exact Or.inl rfl
    · rename_i n
      exact Or.inr ⟨hy, n⟩
theorem putP_self {pts : List Pr} {t v : Int} : (t, v) ∈ putP pts t v := by
  unfold putP
  cases e : getP pts t with
  | none => rw [if_pos rfl]; simp
  | some m =>
    rw [if_neg (by simp)]
    exact List.mem_map.mpr ⟨(t, m), getP_some e, by rw [if_pos rfl]⟩
theorem putP_old {pts : List Pr} {t v : Int} {x : Pr} (h : x ∈ pts) (n : x.1 ≠ t) : x ∈ putP pts t v := by
  unfold putP
  split
  · exact List.mem_append_left _ h
  · exact List.mem_map.mpr ⟨x, h, by rw [if_neg n]⟩
theorem putP_nodup {pts : List Pr} {t v : Int} (h : (pts.map (·.1)).Nodup) : ((putP pts t v).map (·.1)).Nodup := by
  unfold putP
  split
  · rename_i e
    rw [List.map_append]
    refine List.nodup_append.mpr ⟨h, by simp, fun a ha b hb => ?_⟩
    obtain ⟨x, hx, rfl⟩ := List.mem_map.mp ha
    simp at hb
    rw [hb]
    exact getP_none e x hx
  · rw [List.map_map]
    have : (fun x : Pr => (if x.1 = t then (t, v) else x).1) = (·.1) := by
      funext x
      by_cases e : x.1 = t
      · rw [if_pos e]; exact e.symm
      · rw [if_neg e]
    have e2 : List.map (Prod.fst ∘ fun x : Pr => if x.1 = t then (t, v) else x) pts = pts.map (·.1) := List.map_congr_left fun x _ => congrFun this x
    rw [e2]
    exact h
theorem putP_len (pts : List Pr) (t v : Int) : (putP pts t v).length ≤ pts.length + 1 := by
  unfold putP
  split
  · simp
  · simp
/-! ### the points of the records that give an upper bound, a lower bound -/
structure PtsOk (B : Nat) (n : Nat) (pts : List Pr) : Prop where
  nd : (pts.map (·.1)).Nodup
  len : pts.length ≤ n
  sz : ∀ x ∈ pts, PrSz (B + 1) x
theorem ptsOk_put {B n : Nat} {pts : List Pr} {t v : Int} (h : PtsOk B n pts) (h1 : Nb (B + 1) t) (h2 : Nb (B + 1) v) : PtsOk B (n + 1) (putP pts t v) :=
  ⟨putP_nodup h.nd, Nat.le_trans (putP_len _ _ _) (Nat.succ_le_succ h.len), fun x hx => by
    rcases putP_mem x hx with e | e
    · rw [e]; exact ⟨h1, h2⟩
    · exact h.sz x e.1⟩
theorem high_skip {rs : List Rec} {pts : List Pr} {r : Rec} (h : HighPts rs pts) (lr : r.lo = true) : HighPts (rs ++ [r]) pts :=
  ⟨fun x hx => by
    obtain ⟨s, h1, h2⟩ := h.att x hx
    exact ⟨s, List.mem_append_left _ h1, h2⟩, fun s hs ls => by
    rcases List.mem_append.mp hs with e | e
    · exact h.dom s e ls
    · rw [List.mem_singleton.mp e, lr] at ls; cases ls⟩
theorem low_skip {rs : List Rec} {pts : List Pr} {r : Rec} (h : LowPts rs pts) (lr : r.lo = false) : LowPts (rs ++ [r]) pts :=
  ⟨fun x hx => by
    obtain ⟨s, h1, h2⟩ := h.att x hx
    exact ⟨s, List.mem_append_left _ h1, h2⟩, fun s hs ls => by
    rcases List.mem_append.mp hs with e | e
    · exact h.dom s e ls
    · rw [List.mem_singleton.mp e, lr] at ls; cases ls⟩
theorem high_put {rs : List Rec} {pts : List Pr} {r : Rec} {v : Int} (h : HighPts rs pts) (nd : (pts.map (·.1)).Nodup) (lr : r.lo = false)
    (hv : (getP pts r.t = none ∧ v = r.n + 1) ∨ ∃ m, getP pts r.t = some m ∧ v ≤ r.n + 1 ∧ v ≤ m ∧ (v = m ∨ v = r.n + 1)) : HighPts (rs ++ [r]) (putP pts r.t v) := by
  constructor
  · intro x hx
    rcases putP_mem x hx with rfl | ⟨e, _⟩
    · have new : v = r.n + 1 → ∃ s ∈ rs ++ [r], s.lo = false ∧ s.t = r.t ∧ s.n + 1 = v := fun z => ⟨r, by simp, lr, rfl, z.symm⟩
      rcases hv with ⟨_, z⟩ | ⟨m, g, _, _, z | z⟩
      · exact new z
      · obtain ⟨s, h1, h2, h3, h4⟩ := h.att _ (getP_some g)
        exact ⟨s, List.mem_append_left _ h1, h2, h3, by rw [z]; exact h4⟩
      · exact new z
    · obtain ⟨s, h1, h2⟩ := h.att x e
      exact ⟨s, List.mem_append_left _ h1, h2⟩
  · intro s hs ls
    rcases List.mem_append.mp hs with e | e
    · obtain ⟨x, h1, h2, h3⟩ := h.dom s e ls
      by_cases c : x.1 = r.t
      · refine ⟨_, putP_self, c.symm.trans h2, ?_⟩
        rcases hv with ⟨g, _⟩ | ⟨m, g, _, z, _⟩
        · exact absurd c (getP_none g x h1)
        · have := getP_uniq nd g x h1 c
          show v ≤ s.n + 1
          omega
      · exact ⟨x, putP_old h1 c, h2, h3⟩
    · rw [List.mem_singleton.mp e]
      refine ⟨_, putP_self, rfl, ?_⟩
      show v ≤ r.n + 1
      rcases hv with ⟨_, z⟩ | ⟨m, _, z, _⟩
      · omega
      · exact z
theorem low_put {rs : List Rec} {pts : List Pr} {r : Rec} {v : Int} (h : LowPts rs pts) (nd : (pts.map (·.1)).Nodup) (lr : r.lo = true)
    (hv : (getP pts r.t = none ∧ v = r.n) ∨ ∃ m, getP pts r.t = some m ∧ r.n ≤ v ∧ m ≤ v ∧ (v = m ∨ v = r.n)) : LowPts (rs ++ [r]) (putP pts r.t v) := by
  constructor
  · intro x hx
    rcases putP_mem x hx with rfl | ⟨e, _⟩
    · have new : v = r.n → ∃ s ∈ rs ++ [r], s.lo = true ∧ s.t = r.t ∧ s.n = v := fun z => ⟨r, by simp, lr, rfl, z.symm⟩
      rcases hv with ⟨_, z⟩ | ⟨m, g, _, _, z | z⟩
      · exact new z
      · obtain ⟨s, h1, h2, h3, h4⟩ := h.att _ (getP_some g)
        exact ⟨s, List.mem_append_left _ h1, h2, h3, by rw [z]; exact h4⟩
      · exact new z
    · obtain ⟨s, h1, h2⟩ := h.att x e
      exact ⟨s, List.mem_append_left _ h1, h2⟩
  · intro s hs ls
    rcases List.mem_append.mp hs with e | e
    · obtain ⟨x, h1, h2, h3⟩ := h.dom s e ls
      by_cases c : x.1 = r.t
      · refine ⟨_, putP_self, c.symm.trans h2, ?_⟩
        rcases hv with ⟨g, _⟩ | ⟨m, g, _, z, _⟩
        · exact absurd c (getP_none g x h1)
        · have := getP_uniq nd g x h1 c
          show s.n ≤ v
          omega
      · exact ⟨x, putP_old h1 c, h2, h3⟩
    · rw [List.mem_singleton.mp e]
      refine ⟨_, putP_self, rfl, ?_⟩
      show r.n ≤ v
      rcases hv with ⟨_, z⟩ | ⟨m, _, z, _⟩
      · omega
      · exact z
theorem paired_pts {H : Hp} : ∀ {ts : List Addr} {pts : List Pr}, Paired (fun (t : Addr) (q : Key × V) => H t = some (.tup [kV q.1, q.2])) ts (kf pts) → PtsV H (ts.map V.ref) pts
  | [], [], .nil => .nil
  | t :: ts, x :: pts, .cons r z => .cons ⟨t, rfl, r⟩ (paired_pts z)
section
variable {P : Program} {w : World} {K : PySem.W.Frag} {mg : Str → Option Value} {base : Heap}
theorem Nb.succ {n : Nat} {i : Int} (h : Nb n i) : Nb (n + 1) (i + 1) := by
  have h0 : 0 < 2 ^ n := Nat.pow_pos (by decide)
  unfold Nb at *
  rw [Nat.pow_succ]
  omega
def spPts (b : Bool) : Sp := fun vs H Q _ => ∃ (a : Addr) (rs : List Rec) (B : Nat), vs = [.ref a] ∧ RecsAt H a rs ∧ rs.length ≤ 300 ∧ (∀ r ∈ rs, RecSz B r) ∧
  ∀ p H' ws pts, Same H H' → H p = none → H' p = some (.lst ws) → PtsV H' ws pts → PtsOk B 300 pts → (if b then LowPts rs pts else HighPts rs pts) → Q (.ref p) H'
theorem sc36 : FnScope ["records", "found", "kind", "time", "number"] ["records"] (defScope (top 36)) := ⟨rfl, rfl, rfl, by decide +kernel, rfl, by decide +kernel, by decide +kernel⟩
theorem sc37 : FnScope ["records", "found", "kind", "time", "number"] ["records"] (defScope (top 37)) := ⟨rfl, rfl, rfl, by decide +kernel, rfl, by decide +kernel, by decide +kernel⟩
theorem can_greatest_points (T : Txt K mg) {f : Addr} {fd : FuncData} (D : Df K mg "greatest_points" (top 36) ["records"] f fd) : Can P w K mg base "greatest_points" 1 ["records"] (spPts false) := by
  refine D.can (D.fn.ok sc36 (fun vs H Q E h => ?_) (fun cdv A outer s H vs Q E hr h => ?_))
  · obtain ⟨a, rs, B, rfl, _⟩ := h
    rfl
  · obtain ⟨a, rs, B, rfl, ⟨us, hq, hv⟩, hl, hsz, k⟩ := h
    have hu := hu_of hr
    refine ⟨_, pss_cons (ps_set (i := 1) sc36.nd rfl (Or.inl rfl) pe_dnewK)
      (pss_cons (ps_for PassesOwn.never rfl (pi_seqT (pv 0)) (pg_tup rfl (pgs_cons (pg_name (i := 2) sc36.nd rfl (Or.inl rfl)) (pgs_cons (pg_name (i := 3) sc36.nd rfl (Or.inl rfl)) (pgs_cons (pg_name (i := 4) sc36.nd rfl (Or.inl rfl)) pgs_nil))))
        (pss_one (ps_if (pt_cmpR op_eq (pv 2) pe_str (nomark _))
          (pss_one (ps_dput hu (pv 1) (pv 3) (pe_callB (call_min2 rfl) (by rfl) T.min (by decide +kernel) (pa_cons (pe_dget2 hu (pv 1) (pv 3) (pe_op op_add (pv 4) pe_int) ⟨rfl, rfl, rfl, rfl⟩) (pa_cons (pe_op op_add (pv 4) pe_int) pa_nil))) rfl)) pss_nil)))
      (pss_one (ps_ret (LiI.pe_listItems rfl (pv 1) (by rfl) T.list (by decide +kernel))))), ?_⟩
    refine fun fa hfa => ?_
    have s1 : Same H (upd H fa (.dK [])) := Same.new hfa
    have na : a ≠ fa := by
      rcases hq with e | e
      · exact ne_of_none e hfa
      · exact ne_of_none e hfa
    refine ⟨_, rfl, a, us, rfl, hq.same s1, fun J W => for_it W (fun i σ H' => ∃ s2 s3 s4 pts, σ = [some (.ref a), some (.ref fa), s2, s3, s4] ∧ Same H H' ∧ H' fa = some (.dK (kf pts)) ∧ PtsOk B i pts ∧ HighPts (rs.take i) pts) ?_ ?_ ?_ ?_⟩
    · exact ⟨none, none, none, [], rfl, s1, upd_same, ⟨List.nodup_nil, Nat.le_refl _, fun x hx => (by cases hx)⟩, ⟨fun x hx => (by cases hx), fun x hx => (by cases hx)⟩⟩
    · rintro i σ H' _ ⟨_, _, _, _, _, sm, _⟩
      rw [upd_ne na]
      rcases hq with e | e
      · rw [e, sm _ _ e]
      · rw [e, sm _ _ e]
    · rintro i x σ H2 H1 hi ⟨s2, s3, s4, pts, rfl, sm, hfa', ok, hi'⟩ ⟨rfl, hx⟩
      obtain ⟨r, hr', ⟨ar, rfl, har⟩⟩ := paired_at hv hx
      have htk : rs.take (i + 1) = rs.take i ++ [r] := by rw [List.take_add_one, hr']; rfl
      have il : i ≤ 300 := by
        have := paired_len hv
        omega
      obtain ⟨z1, z2⟩ := hsz r (List.mem_of_getElem? hr')
      have z3 : Nb (B + 1) r.t := z1.mono (by omega)
      have z4 : Nb (B + 1) (r.n + 1) := z2.succ
      refine ⟨ar, _, rfl, SqT.of (sm _ _ har), rfl, _, _, rfl, _, _, rfl, _, _, rfl, rfl, ?_⟩
      refine ⟨_, rfl, rfl, _, rfl, ?_⟩
      refine ite2 (fun cc => ?_) (fun cc => ?_)
      · have lr : r.lo = false := by
          have : (r.lo == false) = true := (kind_dec r.lo false).symm.trans cc
          simpa using this
        have gd : DGet H1 fa (kV (.inl r.t)) (valV (kf pts) (.inl r.t)) := DGet.k hfa'
        rw [kf_val] at gd
        have kl : (kf pts).length < sizeLine := small1000 (by unfold kf; rw [List.length_map]; have := ok.len; omega)
        have put : ∀ v : Int, Nb (B + 1) v → ((getP pts r.t = none ∧ v = r.n + 1) ∨ ∃ m, getP pts r.t = some m ∧ v ≤ r.n + 1 ∧ v ≤ m ∧ (v = m ∨ v = r.n + 1)) →
            ∃ H4, DPut H1 fa (.int r.t) (.int v) H4 ∧ ∃ s2 s3 s4 pts, [some (V.ref a), some (.ref fa), some (.str (kindS r.lo)), some (.int r.t), some (.int r.n)] = [some (V.ref a), some (.ref fa), s2, s3, s4] ∧ Same H H4 ∧ H4 fa = some (.dK (kf pts)) ∧ PtsOk B (i + 1) pts ∧ HighPts (rs.take (i + 1)) pts := by
          intro v nv hv
          refine ⟨_, DPut.k (k := .inl r.t) hfa' kl, _, _, _, putP pts r.t v, rfl, fun u o e => ?_, ?_, ptsOk_put ok z3 nv, ?_⟩
          · rw [upd_ne (ne_of_none e hfa)]
            exact sm _ _ e
          · rw [upd_same, kf_put]
          · rw [htk]
            exact high_put hi' ok.nd lr hv
        refine ⟨_, rfl, fa, rfl, .inl ⟨_, Rd.of hfa'⟩, _, rfl, _, rfl, _, _, rfl, rfl, ⟨_, gd, ?_⟩⟩
        cases eg : getP pts r.t with
        | none =>
          refine ⟨_, rfl, _, _, rfl, rfl, r.n + 1, r.n + 1, rfl, _, rfl, _, rfl, fa, ?_⟩
          obtain ⟨H4, h1, h2⟩ := put (r.n + 1) z4 (.inl ⟨eg, rfl⟩)
          rw [if_neg (Int.lt_irrefl _)]
          exact ⟨H4, rfl, h1, h2⟩
        | some m =>
          have nm : Nb (B + 1) m := (ok.sz _ (getP_some eg)).2
          refine ⟨_, rfl, _, _, rfl, rfl, m, r.n + 1, rfl, _, rfl, _, rfl, fa, ?_⟩
          by_cases cm : r.n + 1 < m
          · obtain ⟨H4, h1, h2⟩ := put (r.n + 1) z4 (.inr ⟨m, eg, Int.le_refl _, Int.le_of_lt cm, .inr rfl⟩)
            rw [if_pos cm]
            exact ⟨H4, rfl, h1, h2⟩
          · obtain ⟨H4, h1, h2⟩ := put m nm (.inr ⟨m, eg, by omega, Int.le_refl _, .inl rfl⟩)
            rw [if_neg cm]
            exact ⟨H4, rfl, h1, h2⟩
      · have lr : r.lo = true := by
          cases e : r.lo with
          | true => rfl
          | false => exact absurd ((kind_dec r.lo false).trans (by rw [e]; rfl)) cc
        refine ⟨_, _, _, pts, rfl, sm, hfa', ⟨ok.nd, Nat.le_succ_of_le ok.len, ok.sz⟩, ?_⟩
        rw [htk]
        exact high_skip hi' lr
    · rintro σ H' ⟨s2, s3, s4, pts, rfl, sm, hfa', ok, hi'⟩
      rw [paired_len hv, List.take_length] at hi'
      refine ⟨_, rfl, fa, _, rfl, hfa', fun H2 p ts sm2 hp hts npts hp' hpa => ?_⟩
      exact k p H2 _ pts (sm.trans sm2) (sm.free hp) hp' (paired_pts hpa) ⟨ok.nd, by have := ok.len; have := paired_len hv; omega, ok.sz⟩ hi'
theorem can_least_points (T : Txt K mg) {f : Addr} {fd : FuncData} (D : Df K mg "least_points" (top 37) ["records"] f fd) : Can P w K mg base "least_points" 1 ["records"] (spPts true) := by
  refine D.can (D.fn.ok sc37 (fun vs H Q E h => ?_) (fun cdv A outer s H vs Q E hr h => ?_))
  · obtain ⟨a, rs, B, rfl, _⟩ := h
    rfl
  · obtain ⟨a, rs, B, rfl, ⟨us, hq, hv⟩, hl, hsz, k⟩ := h
    have hu := hu_of hr
    refine ⟨_, pss_cons (ps_set (i := 1) sc37.nd rfl (Or.inl rfl) pe_dnewK)
      (pss_cons (ps_for PassesOwn.never rfl (pi_seqT (pv 0)) (pg_tup rfl (pgs_cons (pg_name (i := 2) sc37.nd rfl (Or.inl rfl)) (pgs_cons (pg_name (i := 3) sc37.nd rfl (Or.inl rfl)) (pgs_cons (pg_name (i := 4) sc37.nd rfl (Or.inl rfl)) pgs_nil))))
        (pss_one (ps_if (pt_cmpR op_eq (pv 2) pe_str (nomark _))
          (pss_one (ps_dput hu (pv 1) (pv 3) (pe_callB (call_max2 rfl) (by rfl) T.max (by decide +kernel) (pa_cons (pe_dget2 hu (pv 1) (pv 3) (pv 4) ⟨rfl, rfl, rfl, rfl⟩) (pa_cons (pv 4) pa_nil))) rfl)) pss_nil)))
      (pss_one (ps_ret (LiI.pe_listItems rfl (pv 1) (by rfl) T.list (by decide +kernel))))), ?_⟩
    refine fun fa hfa => ?_
    have s1 : Same H (upd H fa (.dK [])) := Same.new hfa
    have na : a ≠ fa := by
      rcases hq with e | e
      · exact ne_of_none e hfa
      · exact ne_of_none e hfa
    refine ⟨_, rfl, a, us, rfl, hq.same s1, fun J W => for_it W (fun i σ H' => ∃ s2 s3 s4 pts, σ = [some (.ref a), some (.ref fa), s2, s3, s4] ∧ Same H H' ∧ H' fa = some (.dK (kf pts)) ∧ PtsOk B i pts ∧ LowPts (rs.take i) pts) ?_ ?_ ?_ ?_⟩
    · exact ⟨none, none, none, [], rfl, s1, upd_same, ⟨List.nodup_nil, Nat.le_refl _, fun x hx => (by cases hx)⟩, ⟨fun x hx => (by cases hx), fun x hx => (by cases hx)⟩⟩
    · rintro i σ H' _ ⟨_, _, _, _, _, sm, _⟩
      rw [upd_ne na]
      rcases hq with e | e
      · rw [e, sm _ _ e]
      · rw [e, sm _ _ e]
    · rintro i x σ H2 H1 hi ⟨s2, s3, s4, pts, rfl, sm, hfa', ok, hi'⟩ ⟨rfl, hx⟩
      obtain ⟨r, hr', ⟨ar, rfl, har⟩⟩ := paired_at hv hx
      have htk : rs.take (i + 1) = rs.take i ++ [r] := by rw [List.take_add_one, hr']; rfl
      have il : i ≤ 300 := by
        have := paired_len hv
        omega
      obtain ⟨z1, z2⟩ := hsz r (List.mem_of_getElem? hr')
      have z3 : Nb (B + 1) r.t := z1.mono (by omega)
      have z4 : Nb (B + 1) r.n := z2.mono (by omega)
      refine ⟨ar, _, rfl, SqT.of (sm _ _ har), rfl, _, _, rfl, _, _, rfl, _, _, rfl, rfl, ?_⟩
      refine ⟨_, rfl, rfl, _, rfl, ?_⟩
      refine ite2 (fun cc => ?_) (fun cc => ?_)
      · have lr : r.lo = true := by
          have : (r.lo == true) = true := (kind_dec r.lo true).symm.trans cc
          simpa using this
        have gd : DGet H1 fa (kV (.inl r.t)) (valV (kf pts) (.inl r.t)) := DGet.k hfa'
        rw [kf_val] at gd
        have kl : (kf pts).length < sizeLine := small1000 (by unfold kf; rw [List.length_map]; have := ok.len; omega)
        have put : ∀ v : Int, Nb (B + 1) v → ((getP pts r.t = none ∧ v = r.n) ∨ ∃ m, getP pts r.t = some m ∧ r.n ≤ v ∧ m ≤ v ∧ (v = m ∨ v = r.n)) →
            ∃ H4, DPut H1 fa (.int r.t) (.int v) H4 ∧ ∃ s2 s3 s4 pts, [some (V.ref a), some (.ref fa), some (.str (kindS r.lo)), some (.int r.t), some (.int r.n)] = [some (V.ref a), some (.ref fa), s2, s3, s4] ∧ Same H H4 ∧ H4 fa = some (.dK (kf pts)) ∧ PtsOk B (i + 1) pts ∧ LowPts (rs.take (i + 1)) pts := by
          intro v nv hv
          refine ⟨_, DPut.k (k := .inl r.t) hfa' kl, _, _, _, putP pts r.t v, rfl, fun u o e => ?_, ?_, ptsOk_put ok z3 nv, ?_⟩
          · rw [upd_ne (ne_of_none e hfa)]
            exact sm _ _ e
          · rw [upd_same, kf_put]
          · rw [htk]
            exact low_put hi' ok.nd lr hv
        refine ⟨_, rfl, fa, rfl, .inl ⟨_, Rd.of hfa'⟩, _, rfl, _, rfl, ⟨_, gd, ?_⟩⟩
        cases eg : getP pts r.t with
        | none =>
          refine ⟨_, rfl, r.n, r.n, rfl, _, rfl, _, rfl, fa, ?_⟩
          obtain ⟨H4, h1, h2⟩ := put (r.n) z4 (.inl ⟨eg, rfl⟩)
          rw [if_neg (Int.lt_irrefl _)]
          exact ⟨H4, rfl, h1, h2⟩
        | some m =>
          have nm : Nb (B + 1) m := (ok.sz _ (getP_some eg)).2
          refine ⟨_, rfl, m, r.n, rfl, _, rfl, _, rfl, fa, ?_⟩
          by_cases cm : r.n > m
          · obtain ⟨H4, h1, h2⟩ := put (r.n) z4 (.inr ⟨m, eg, Int.le_refl _, Int.le_of_lt cm, .inr rfl⟩)
            rw [if_pos cm]
            exact ⟨H4, rfl, h1, h2⟩
          · obtain ⟨H4, h1, h2⟩ := put m nm (.inr ⟨m, eg, by omega, Int.le_refl _, .inl rfl⟩)
            rw [if_neg cm]
            exact ⟨H4, rfl, h1, h2⟩
      · have lr : r.lo = false := by
          cases e : r.lo with
          | false => rfl
          | true => exact absurd ((kind_dec r.lo true).trans (by rw [e]; rfl)) cc
        refine ⟨_, _, _, pts, rfl, sm, hfa', ⟨ok.nd, Nat.le_succ_of_le ok.len, ok.sz⟩, ?_⟩
        rw [htk]
        exact low_skip hi' lr
    · rintro σ H' ⟨s2, s3, s4, pts, rfl, sm, hfa', ok, hi'⟩
      rw [paired_len hv, List.take_length] at hi'
      refine ⟨_, rfl, fa, _, rfl, hfa', fun H2 p ts sm2 hp hts npts hp' hpa => ?_⟩
      exact k p H2 _ pts (sm.trans sm2) (sm.free hp) hp' (paired_pts hpa) ⟨ok.nd, by have := ok.len; have := paired_len hv; omega, ok.sz⟩ hi'
end
end K67

set_option Elab.async false
set_option linter.all false
set_option maxRecDepth 100000
set_option maxHeartbeats 4000000
namespace K67
open PySem PySem.Spec PyProof.Rows L2
def mkP (s : Int) (x y : Pr) : Pc := ⟨some x.1, some y.1, x, y.2 - x.2, y.1 - x.1, s⟩
def innerP (s : Int) : List Pr → List Pc
  | x :: y :: r => mkP s x y :: innerP s (y :: r)
  | _ => []
theorem innerP_len (s : Int) : ∀ hl : List Pr, (innerP s hl).length = hl.length - 1
  | [] => rfl
  | [_] => rfl
  | x :: y :: r => by
    have := innerP_len s (y :: r)
    unfold innerP
    simp only [List.length_cons] at *
    omega
theorem innerP_at {s : Int} : ∀ {hl : List Pr} {i : Nat} {x y : Pr}, hl[i]? = some x → hl[i + 1]? = some y → (innerP s hl)[i]? = some (mkP s x y)
  | [], i, x, y, h, _ => by simp at h
  | [_], i, x, y, _, h => by simp at h
  | a :: b :: r, 0, x, y, h1, h2 => by
    simp at h1 h2
    subst h1
    subst h2
    unfold innerP
    rfl
  | a :: b :: r, i + 1, x, y, h1, h2 => by
    have := innerP_at (s := s) (hl := b :: r) (i := i) (x := x) (y := y) (by simpa using h1) (by simpa using h2)
    unfold innerP
    simpa using this
theorem cut_tail (us : List V) : cutV us (some 1) none = us.drop 1 := by
  have e : HT.sIx us.length 0 (some 1) = min 1 us.length := HT.sIx_nat us.length 0 1
  have e2 : HT.sIx us.length us.length none = us.length := HT.sIx_none _ _
  unfold cutV
  rw [e, e2]
  cases us with
  | nil => rfl
  | cons a r =>
    have : min 1 (a :: r).length = 1 := by simp
    rw [this]
    simp
theorem PcAt.butL {p : Addr} {H H' : Hp} {C : Addr} {v : V} {c : Pc} {zs : List V} (e : But p H H') (hp : H p = some (.lst zs)) (h : PcAt C H v c) : PcAt C H' v c := by
  obtain ⟨a, dx, h1, h2⟩ := h
  exact ⟨a, dx, h1, e a _ h2 (ne_of h2 hp (fun z => by cases z))⟩
section
variable {P : Program} {w : World} {K : PySem.W.Frag} {mg : Str → Option Value} {base : Heap}
def spInner (C : Addr) : Sp := fun vs H Q _ => ∃ (a : Addr) (us : List V) (hl : List Pr) (s : Int), vs = [.ref a, .int s] ∧ H a = some (.lst us) ∧ PtsV H us hl ∧ hl.length ≤ 300 ∧
  ∀ p H' ws, Same H H' → H p = none → H' p = some (.lst ws) → Paired (PcAt C H') ws (innerP s hl) → Q (.ref p) H'
theorem sc38 : FnScope ["hull", "strict", "one", "two"] ["hull", "strict"] (defScope (top 38)) := ⟨rfl, rfl, rfl, by decide +kernel, rfl, by decide +kernel, by decide +kernel⟩
theorem can_inner_pieces (T : Txt K mg) {C : Addr} {f : Addr} {fd : FuncData} (PC : PcC K C) (D : Df K mg "inner_pieces" (top 38) ["hull", "strict"] f fd) (C1 : Can P w K mg base "slope_between" 1 ["first", "second"] spSlope)
    (M0 : CanMk P w K mg base "Piece" C 1 ["self", "start", "stop", "point", "slope", "strict"] (spPcInit C)) : Can P w K mg base "inner_pieces" 3 ["hull", "strict"] (spInner C) := by
  refine D.can (D.fn.ok sc38 (fun vs H Q E h => ?_) (fun cdv A outer s H vs Q E hr h => ?_))
  · obtain ⟨a, us, hl, s, rfl, _⟩ := h
    rfl
  · obtain ⟨a, us, hl, s, rfl, ha, hus, hlen, k⟩ := h
    have hr1 : Room 1 _ := hr.mono (by decide)
    refine ⟨_, pss_one (ps_ret (pe_lc (own := [("one", 2), ("two", 3)]) (g := gTup K 2 (gCons (gName 2) (gCons (gName 3) gNil))) (tt := tYes)
        (te := tMake C (spPcInit C) [] E0 (tCons (tOp (rIxT K) (tVar 2) (tC (.int 0))) (tCons (tOp (rIxT K) (tVar 3) (tC (.int 0))) (tCons (tVar 2) (tCons (tCall spSlope [] E0 (tCons (tVar 2) (tCons (tVar 3) tNil))) (tCons (tVar 1) tNil))))))
        rfl sc38.nd (pi_zip (by rfl) T.zip (pa_cons (pv 0) (pa_cons (pe_slice sl_list (pv 0) (po_some pe_int) po_none) pa_nil))) (blkOk_by (N := ["hull", "strict", "one", "two"]) (sc := defScope (top 38)) (by decide +kernel))
        (fun _ _ _ _ _ => by exact pg_tup rfl (pgs_cons (pg_name (i := 2) sc38.nd rfl (Or.inl rfl)) (pgs_cons (pg_name (i := 3) sc38.nd rfl (Or.inl rfl)) pgs_nil))) (fun _ _ _ _ _ => pts_nil)
        (fun _ _ _ _ _ => by exact pe_canMk M0 hr (pa_cons (pe_ix ix_tup (pv 2) pe_int (fun _ _ => rfl)) (pa_cons (pe_ix ix_tup (pv 3) pe_int (fun _ _ => rfl)) (pa_cons (pv 2) (pa_cons (pe_can C1 hr1 (pa_cons (pv 2) (pa_cons (pv 3) pa_nil))) (pa_cons (pv 1) pa_nil)))))))), ?_⟩
    have hul := paired_len hus
    refine ⟨_, rfl, _, rfl, _, rfl, a, us, rfl, SqL.of ha, fun b hb => ?_⟩
    rw [cut_tail]
    have s1 : Same H (upd H b (.lst (us.drop 1))) := Same.new hb
    refine ⟨a, b, us, us.drop 1, rfl, SqL.of (s1 _ _ ha), SqL.of upd_same, fun Dd hD => ?_⟩
    have hD0 := s1.free hD
    refine lc_it (walk_zip (xs := us) (ys := us.drop 1) (n := us.length - 1) (by rw [List.length_drop]; omega)) (fun i H' => Same (upd H b (.lst (us.drop 1))) H' ∧ ∃ acc, H' Dd = some (.lst acc) ∧ Paired (PcAt C H') acc ((innerP s hl).take i)) ?_ ?_ ?_ ?_
    · exact ⟨Same.new hD, [], upd_same, .nil⟩
    · rintro i H' _ ⟨sm, _⟩
      exact ⟨SqL.of (sm _ _ (s1 _ _ ha)), SqL.of (sm _ _ upd_same)⟩
    · rintro i x H1 H2 hi ⟨sm, acc, hacc, hp⟩ ⟨t, y, z, rfl, ht, rfl, e1, e2⟩
      have e1 : us[i]? = some y := e1
      have e2 : (us.drop 1)[i]? = some z := e2
      rw [List.getElem?_drop] at e2
      rw [show 1 + i = i + 1 by omega] at e2
      obtain ⟨p1, q1, r1⟩ := paired_at hus e1
      obtain ⟨p2, q2, r2⟩ := paired_at hus e2
      have st : Same H1 (upd H1 t (.tup [y, z])) := Same.new ht
      have s01 : Same H (upd H1 t (.tup [y, z])) := s1.trans (sm.trans st)
      have nt : Dd ≠ t := ne_of_none hacc ht
      refine ⟨t, _, rfl, SqT.of upd_same, rfl, _, _, rfl, _, _, rfl, rfl, rfl, ?_⟩
      obtain ⟨a1, rfl, h1⟩ := r1.same s01
      obtain ⟨a2, rfl, h2⟩ := r2.same s01
      refine ⟨_, rfl, a1, _, 0, _, rfl, rfl, SqT.of h1, rfl, _, rfl, a2, _, 0, _, rfl, rfl, SqT.of h2, rfl, _, rfl, _, rfl, _, rfl, _, _, p1, p2, rfl, ⟨a1, rfl, h1⟩, ⟨a2, rfl, h2⟩, fun q hq => ⟨_, rfl, fun x dx nx ndx nex => ?_⟩⟩
      have sq : Same (upd H1 t (.tup [.ref a1, .ref a2])) (upd (upd H1 t (.tup [.ref a1, .ref a2])) q (.tup (prL (slp p1 p2)))) := Same.new hq
      have sx := made_same (C := C) nx ndx (But.refl _ _)
      refine ⟨x, dx, .ref a1, .ref q, mkP s p1 p2, rfl, upd_same, ⟨a1, rfl, sx _ _ (sq _ _ h1)⟩, ⟨q, rfl, sx _ _ upd_same⟩, fun H3 hb3 h3 => ⟨rfl, ?_⟩⟩
      have s3 : Same H1 H3 := st.trans (sq.trans (made_same nx ndx hb3))
      have hacc3 := s3 _ _ hacc
      have hal : acc.length ≤ 300 := by
        have := paired_len hp
        have := innerP_len s hl
        have := List.length_take_le' i (innerP s hl)
        omega
      have bD : But Dd H3 (upd H3 Dd (.lst (acc ++ [.ref x]))) := But.upd
      refine ⟨acc, hacc3, small1000 (by omega), fun c o e => ?_, _, upd_same, ?_⟩
      · rw [upd_ne (ne_of_none e hD)]
        exact s3 _ _ (sm _ _ e)
      · have eq : (innerP s hl).take (i + 1) = (innerP s hl).take i ++ [mkP s p1 p2] := by rw [List.take_add_one, innerP_at q1 q2]; rfl
        rw [eq]
        exact paired_snoc (PcAt.butL bD hacc3 ⟨x, dx, rfl, h3⟩) (paired_mono (fun _ _ z => PcAt.butL bD hacc3 (PcAt.same s3 z)) hp)
    · rintro H' ⟨sm, acc, h1, hp⟩
      rw [List.take_of_length_le (by rw [innerP_len]; omega)] at hp
      exact k Dd H' acc (s1.trans sm) hD0 h1 hp
/-! ### the two trimmings -/
def cutFB (sg : Int) (F : Option Pr) : List Pr → Bool
  | a :: b :: _ => match F with
    | none => false
    | some f => !decide (val sg f.1 f.2 a < val sg f.1 f.2 b)
  | _ => false
theorem trimF_eq (sg : Int) (F : Option Pr) : ∀ hl : List Pr, trimF sg F hl = if cutFB sg F hl = true then trimF sg F hl.tail else hl
  | [] => by unfold trimF cutFB; rfl
  | [_] => by unfold trimF cutFB; rfl
  | a :: b :: r => by
    cases F with
    | none => unfold trimF cutFB; rfl
    | some f =>
      by_cases c : val sg f.1 f.2 a < val sg f.1 f.2 b
      · simp [trimF, cutFB, c]
      · simp [trimF, cutFB, c]
def cutEB (sg : Int) (F : Option Pr) : List Pr → Bool
  | b :: a :: _ => match F with
    | none => false
    | some f => !decide (val sg f.1 f.2 b < val sg f.1 f.2 a)
  | _ => false
theorem trimE_eq (sg : Int) (F : Option Pr) : ∀ hl : List Pr, trimE sg F hl = if cutEB sg F hl = true then trimE sg F hl.tail else hl
  | [] => by unfold trimE cutEB; rfl
  | [_] => by unfold trimE cutEB; rfl
  | a :: b :: r => by
    cases F with
    | none => unfold trimE cutEB; rfl
    | some f =>
      by_cases c : val sg f.1 f.2 a < val sg f.1 f.2 b
      · simp [trimE, cutEB, c]
      · simp [trimE, cutEB, c]
theorem trim_front {K : PySem.W.Frag} {sg : Int} {F : Option Pr} {hl0 : List Pr} {H0 H : Hp} {fa : Addr} {ws : List V} {j : Nat} {σ : L2.St} {D : Ends} {tc : TT} (hσ : σ[j]? = some (some (.ref fa))) (h0 : H0 fa = none) (s0 : Same H0 H) (h1 : H fa = some (.lst ws)) (hp : PtsV H ws hl0)
    (hc : ∀ H' ws hl, Same H0 H' → H' fa = some (.lst ws) → PtsV H' ws hl → (∀ x ∈ hl, x ∈ hl0) → ∀ Qb : Bool → Hp → Prop, (∀ H2, Same H' H2 → Qb (cutFB sg F hl) H2) → tc σ H' Qb)
    (k : ∀ H' ws, Same H0 H' → H' fa = some (.lst ws) → PtsV H' ws (trimF sg F hl0) → D.nx σ H') :
    tWhile tc (tDrop (tBM K "list" rPopAt (tVar j) (tCons (tC (.int 0)) tNil))) D σ H := by
  refine ⟨fun m σ' H' => ∃ ws hl, σ' = σ ∧ m = hl.length ∧ Same H0 H' ∧ H' fa = some (.lst ws) ∧ PtsV H' ws hl ∧ (∀ x ∈ hl, x ∈ hl0) ∧ trimF sg F hl = trimF sg F hl0, ⟨_, ws, hl0, rfl, rfl, s0, h1, hp, fun _ h => h, rfl⟩, ?_⟩
  rintro m σ' H' ⟨ws, hl, rfl, rfl, sm, hw, hp, hin, he⟩
  refine hc H' ws hl sm hw hp hin _ fun H2 s2 => ?_
  have hp2 := PtsV.same s2 hp
  have hw2 := s2 _ _ hw
  cases e : cutFB sg F hl with
  | false =>
    refine k H2 ws (sm.trans s2) hw2 ?_
    rw [← he, trimF_eq, e]
    exact hp2
  | true =>
    refine ⟨_, fun _ _ h => h, ?_⟩
    match hl, ws, hp2, e with
    | a :: r, v :: ws, .cons r1 t1, e =>
      refine ⟨_, hσ, .inl ⟨rfl, _, SqL.of hw2⟩, fa, _, 0, 0, v, rfl, rfl, hw2, by decide, by decide, ?_, rfl, ?_⟩
      · show seqIndex? 0 (ws.length + 1) = some 0
        unfold seqIndex?
        simp
      · have b : But fa H2 (upd H2 fa (.lst ((v :: ws).eraseIdx 0))) := But.upd
        refine ⟨r.length, by simp, ws, r, rfl, rfl, fun u o e => ?_, upd_same, PtsV.butL b hw2 t1, fun x hx => hin x (List.mem_cons_of_mem _ hx), ?_⟩
        · rw [upd_ne (ne_of_none e h0)]
          exact s2 _ _ (sm _ _ e)
        · rw [← he, trimF_eq sg F (a :: r), e]
          rfl
theorem trim_back {K : PySem.W.Frag} {sg : Int} {F : Option Pr} {hl0 : List Pr} {H0 H : Hp} {fa : Addr} {ws : List V} {j : Nat} {σ : L2.St} {D : Ends} {tc : TT} (hσ : σ[j]? = some (some (.ref fa))) (h0 : H0 fa = none) (s0 : Same H0 H) (h1 : H fa = some (.lst ws)) (hp : PtsV H ws hl0)
    (hc : ∀ H' ws hl, Same H0 H' → H' fa = some (.lst ws) → PtsV H' ws hl → (∀ x ∈ hl, x ∈ hl0) → ∀ Qb : Bool → Hp → Prop, (∀ H2, Same H' H2 → Qb (cutEB sg F hl.reverse) H2) → tc σ H' Qb)
    (k : ∀ H' ws, Same H0 H' → H' fa = some (.lst ws) → PtsV H' ws (trimE sg F hl0.reverse).reverse → D.nx σ H') :
    tWhile tc (tDrop (tBM0 K "list" rPop (tVar j))) D σ H := by
  refine ⟨fun m σ' H' => ∃ ws hl, σ' = σ ∧ m = hl.length ∧ Same H0 H' ∧ H' fa = some (.lst ws) ∧ PtsV H' ws hl.reverse ∧ (∀ x ∈ hl, x ∈ hl0) ∧ trimE sg F hl = trimE sg F hl0.reverse, ⟨_, ws, hl0.reverse, rfl, rfl, s0, h1, by rw [List.reverse_reverse]; exact hp, fun x h => List.mem_reverse.mp h, rfl⟩, ?_⟩
  rintro m σ' H' ⟨ws, hl, rfl, rfl, sm, hw, hp, hin, he⟩
  refine hc H' ws hl.reverse sm hw hp (fun x hx => hin x (List.mem_reverse.mp hx)) _ fun H2 s2 => ?_
  rw [List.reverse_reverse]
  have hp2 := PtsV.same s2 hp
  have hw2 := s2 _ _ hw
  cases e : cutEB sg F hl with
  | false =>
    refine k H2 ws (sm.trans s2) hw2 ?_
    rw [← he, trimE_eq, e]
    exact hp2
  | true =>
    refine ⟨_, fun _ _ h => h, ?_⟩
    match hl, hp2, e with
    | a :: r, hp2, e =>
      rw [List.reverse_cons] at hp2
      obtain ⟨w1, v, rfl, t1, r1⟩ := paired_unsnoc hp2
      refine ⟨_, hσ, .inl ⟨rfl, _, SqL.of hw2⟩, fa, _, v, rfl, rfl, hw2, by simp, ?_⟩
      have b : But fa H2 (upd H2 fa (.lst (w1 ++ [v]).dropLast)) := But.upd
      rw [List.dropLast_concat] at b ⊢
      refine ⟨r.length, by simp, w1, r, rfl, rfl, fun u o e => ?_, upd_same, PtsV.butL b hw2 t1, fun x hx => hin x (List.mem_cons_of_mem _ hx), ?_⟩
      · rw [upd_ne (ne_of_none e h0)]
        exact s2 _ _ (sm _ _ e)
      · rw [← he, trimE_eq sg F (a :: r), e]
        rfl
end
end K67

set_option Elab.async false
set_option linter.all false
set_option maxRecDepth 100000
set_option maxHeartbeats 4000000
namespace K67
open PySem PySem.Spec PyProof.Rows L2
/-! ### what the pieces tell -/
structure PcsLow (rs : List Rec) (pcs : List Pc) : Prop where
  hit : ∀ t, ∀ c ∈ pcs, c.cov t = true → IsLow rs t (some (c.bd t))
  no : ∀ t, (∀ c ∈ pcs, c.cov t = false) → IsLow rs t none
structure PcsHigh (rs : List Rec) (pcs : List Pc) : Prop where
  hit : ∀ t, ∀ c ∈ pcs, c.cov t = true → IsHigh rs t (some (c.bd t))
  no : ∀ t, (∀ c ∈ pcs, c.cov t = false) → IsHigh rs t none
theorem inner_mem {s : Int} : ∀ {hl : List Pr} {c : Pc}, c ∈ innerP s hl → ∃ A x y B, hl = A ++ x :: y :: B ∧ c = mkP s x y
  | x :: y :: r, c, h => by
    unfold innerP at h
    rcases List.mem_cons.mp h with e | e
    · exact ⟨[], x, y, r, rfl, e⟩
    · obtain ⟨A, a, b, B, h1, h2⟩ := inner_mem e
      exact ⟨x :: A, a, b, B, by rw [h1]; rfl, h2⟩
  | [], c, h => by cases h
  | [_], c, h => by cases h
theorem mkP_cov {s t : Int} {x y : Pr} : (mkP s x y).cov t = true ↔ x.1 ≤ t ∧ t < y.1 := by
  show (decide (x.1 ≤ t) && decide (t < y.1)) = true ↔ _
  rw [Bool.and_eq_true, decide_eq_true_iff, decide_eq_true_iff]
/-- a time within is covered by an inner piece -/
theorem inner_cov {s t : Int} : ∀ {hl : List Pr} {f l : Pr} {R A : List Pr}, hl = f :: R → hl = A ++ [l] → f.1 ≤ t → t < l.1 → ∃ c ∈ innerP s hl, c.cov t = true
  | x :: y :: r, f, l, R, A, h1, h2, h3, h4 => by
    cases h1
    by_cases c : t < y.1
    · exact ⟨mkP s x y, by unfold innerP; exact List.mem_cons_self, mkP_cov.mpr ⟨h3, c⟩⟩
    · match A, h2 with
      | a :: A', h2 =>
        obtain ⟨d, h5, h6⟩ := inner_cov (s := s) (t := t) (hl := y :: r) (f := y) (l := l) (R := r) (A := A') rfl (by simpa using (List.cons.inj h2).2) (by omega) h4
        exact ⟨d, by unfold innerP; exact List.mem_cons_of_mem _ h5, h6⟩
  | [], f, l, R, A, h1, _, _, _ => by cases h1
  | [x], f, l, R, A, h1, h2, h3, h4 => by
    cases h1
    match A, h2 with
    | [], h2 => cases h2; omega
    | a :: A', h2 => have := congrArg List.length h2; simp at this
theorem bl_not {b : Bool} (h : ¬ b = true) : b = false := by cases b with | true => exact absurd rfl h | false => rfl
def headL (f : Pr) : Option Pr → List Pc
  | none => []
  | some h => [⟨none, some f.1, f, h.1, h.2, 0⟩]
def lowPcs (L : Pr) (he : Option Pr) (hl : List Pr) (f l : Pr) : List Pc := headL f he ++ innerP 0 hl ++ [⟨some l.1, none, l, L.1, L.2, 0⟩]
theorem pcsLow_of {rs : List Rec} {L : Pr} {he : Option Pr} {hl pts : List Pr} (I : Iv rs L he) (Pt : LowPts rs pts) (C : CutOk (-1) he (some L) hl pts) {f l : Pr} {R A : List Pr} (e1 : hl = f :: R) (e2 : hl = A ++ [l]) : PcsLow rs (lowPcs L he hl f l) := by
  have tl : ∀ t, (⟨some l.1, none, l, L.1, L.2, 0⟩ : Pc).cov t = true ↔ l.1 ≤ t := fun t => by
    show (decide (l.1 ≤ t) && true) = true ↔ _
    rw [Bool.and_true, decide_eq_true_iff]
  constructor
  · intro t c hc hcov
    unfold lowPcs at hc
    rcases List.mem_append.mp hc with hc | hc
    · rcases List.mem_append.mp hc with hc | hc
      · cases eh : he with
        | none => rw [eh] at hc; cases hc
        | some h =>
          rw [eh] at hc
          rw [List.mem_singleton.mp hc] at hcov ⊢
          have hcov : (true && decide (t < f.1)) = true := hcov
          rw [Bool.true_and, decide_eq_true_iff] at hcov
          exact least_head I Pt C eh e1 hcov
      · obtain ⟨A', x, y, B, h1, h2⟩ := inner_mem hc
        rw [h2] at hcov ⊢
        obtain ⟨h3, h4⟩ := mkP_cov.mp hcov
        exact least_edge I Pt C h1 h3 h4
    · rw [List.mem_singleton.mp hc] at hcov ⊢
      exact least_tail I Pt C e2 ((tl t).mp hcov)
  · intro t hno
    by_cases c1 : t < f.1
    · cases eh : he with
      | none => exact least_far I Pt C eh e1 c1
      | some h =>
        have := hno ⟨none, some f.1, f, h.1, h.2, 0⟩ (by unfold lowPcs; rw [eh]; simp [headL])
        have h2 : (true && decide (t < f.1)) = false := this
        rw [Bool.true_and, decide_eq_true c1] at h2
        cases h2
    · by_cases c2 : t < l.1
      · obtain ⟨c, h1, h2⟩ := inner_cov (s := 0) e1 e2 (by omega) c2
        rw [hno c (by unfold lowPcs; simp [h1])] at h2
        cases h2
      · have := (tl t).mpr (by omega)
        rw [hno _ (by unfold lowPcs; simp)] at this
        cases this
def tailH (l : Pr) : Option Pr → Pc
  | none => ⟨some l.1, some (l.1 + 1), l, 0, 1, 1⟩
  | some h => ⟨some l.1, none, l, h.1, h.2, 1⟩
def highPcs (L : Pr) (he : Option Pr) (hl : List Pr) (f l : Pr) : List Pc := [⟨none, some f.1, f, L.1, L.2, 1⟩] ++ innerP 1 hl ++ [tailH l he]
theorem pcsHigh_of {rs : List Rec} {L : Pr} {he : Option Pr} {hl pts : List Pr} (I : Iv rs L he) (Pt : HighPts rs pts) (C : CutOk 1 (some L) he hl pts) {f l : Pr} {R A : List Pr} (e1 : hl = f :: R) (e2 : hl = A ++ [l]) : PcsHigh rs (highPcs L he hl f l) := by
  constructor
  · intro t c hc hcov
    unfold highPcs at hc
    rcases List.mem_append.mp hc with hc | hc
    · rcases List.mem_append.mp hc with hc | hc
      · rw [List.mem_singleton.mp hc] at hcov ⊢
        have hcov : (true && decide (t < f.1)) = true := hcov
        rw [Bool.true_and, decide_eq_true_iff] at hcov
        exact great_head I Pt C e1 hcov
      · obtain ⟨A', x, y, B, h1, h2⟩ := inner_mem hc
        rw [h2] at hcov ⊢
        obtain ⟨h3, h4⟩ := mkP_cov.mp hcov
        exact great_edge I Pt C h1 h3 h4
    · rw [List.mem_singleton.mp hc] at hcov ⊢
      cases eh : he with
      | none =>
        rw [eh] at hcov
        have hcov : (decide (l.1 ≤ t) && decide (t < l.1 + 1)) = true := hcov
        rw [Bool.and_eq_true, decide_eq_true_iff, decide_eq_true_iff] at hcov
        exact great_last I Pt C eh e2 (by omega)
      | some h =>
        rw [eh] at hcov
        have hcov : (decide (l.1 ≤ t) && true) = true := hcov
        rw [Bool.and_true, decide_eq_true_iff] at hcov
        exact great_tail I Pt C eh e2 hcov
  · intro t hno
    by_cases c1 : t < f.1
    · have := hno ⟨none, some f.1, f, L.1, L.2, 1⟩ (by unfold highPcs; simp)
      have h2 : (true && decide (t < f.1)) = false := this
      rw [Bool.true_and, decide_eq_true c1] at h2
      cases h2
    · by_cases c2 : t < l.1
      · obtain ⟨c, h1, h2⟩ := inner_cov (s := 1) e1 e2 (by omega) c2
        rw [hno c (by unfold highPcs; simp [h1])] at h2
        cases h2
      · have h0 := hno (tailH l he) (by unfold highPcs; simp)
        cases eh : he with
        | some h =>
          rw [eh] at h0
          have h0 : (decide (l.1 ≤ t) && true) = false := h0
          rw [Bool.and_true, decide_eq_true (by omega)] at h0
          cases h0
        | none =>
          rw [eh] at h0
          have h0 : (decide (l.1 ≤ t) && decide (t < l.1 + 1)) = false := h0
          rw [decide_eq_true (show l.1 ≤ t by omega), Bool.true_and] at h0
          have h0 := of_decide_eq_false h0
          exact great_far I Pt C eh e2 (by omega)
/-! ### sizes -/
theorem nb_zero (n : Nat) : Nb n 0 := by unfold Nb; exact Nat.pow_pos (by decide)
theorem inner_sz {B : Nat} {s : Int} {hl : List Pr} (hs : s = 0 ∨ s = 1) (h : ∀ x ∈ hl, PrSz B x) (hp : hl.Pairwise (fun x y => x.1 < y.1)) : ∀ c ∈ innerP s hl, PcSz (B + 1) c := by
  intro c hc
  obtain ⟨A, x, y, R, e, rfl⟩ := inner_mem hc
  have hx := h x (by rw [e]; simp)
  have hy := h y (by rw [e]; simp)
  have hlt : x.1 < y.1 := by
    rw [e] at hp
    exact (List.pairwise_cons.mp (List.pairwise_append.mp hp).2.1).1 y (by simp)
  refine ⟨?_, hx.1.mono (Nat.le_succ _), hx.2.mono (Nat.le_succ _), hy.2.sub hx.2, hy.1.sub hx.1, ?_⟩
  · show 0 < y.1 - x.1
    omega
  · show Nb (B + 1) s
    rcases hs with rfl | rfl
    · exact nb_zero _
    · exact nb_one (by omega)
theorem lowPcs_sz {B : Nat} {L : Pr} {he : Option Pr} {hl : List Pr} {f l : Pr} (b0 : 0 < L.2) (h0 : ∀ h, he = some h → 0 < h.2) (h : ∀ x ∈ hl, PrSz B x) (hp : hl.Pairwise (fun x y => x.1 < y.1)) (hf : f ∈ hl) (hlm : l ∈ hl) (hL : PrSz (B + 1) L) (hh : NbO (B + 1) he) : ∀ c ∈ lowPcs L he hl f l, PcSz (B + 1) c := by
  intro c hc
  unfold lowPcs at hc
  rcases List.mem_append.mp hc with hc | hc
  · rcases List.mem_append.mp hc with hc | hc
    · cases eh : he with
      | none => rw [eh] at hc; cases hc
      | some k =>
        rw [eh] at hc
        rw [List.mem_singleton.mp hc]
        exact ⟨h0 k eh, (h f hf).1.mono (Nat.le_succ _), (h f hf).2.mono (Nat.le_succ _), (hh k eh).1, (hh k eh).2, nb_zero _⟩
    · exact inner_sz (.inl rfl) h hp c hc
  · rw [List.mem_singleton.mp hc]
    exact ⟨b0, (h l hlm).1.mono (Nat.le_succ _), (h l hlm).2.mono (Nat.le_succ _), hL.1, hL.2, nb_zero _⟩
theorem highPcs_sz {B : Nat} {L : Pr} {he : Option Pr} {hl : List Pr} {f l : Pr} (b0 : 0 < L.2) (h0 : ∀ h, he = some h → 0 < h.2) (h : ∀ x ∈ hl, PrSz B x) (hp : hl.Pairwise (fun x y => x.1 < y.1)) (hf : f ∈ hl) (hlm : l ∈ hl) (hL : PrSz (B + 1) L) (hh : NbO (B + 1) he) : ∀ c ∈ highPcs L he hl f l, PcSz (B + 1) c := by
  intro c hc
  unfold highPcs at hc
  rcases List.mem_append.mp hc with hc | hc
  · rcases List.mem_append.mp hc with hc | hc
    · rw [List.mem_singleton.mp hc]
      exact ⟨b0, (h f hf).1.mono (Nat.le_succ _), (h f hf).2.mono (Nat.le_succ _), hL.1, hL.2, nb_one (by omega)⟩
    · exact inner_sz (.inr rfl) h hp c hc
  · rw [List.mem_singleton.mp hc]
    cases eh : he with
    | none => exact ⟨(by show (0 : Int) < 1; decide), (h l hlm).1.mono (Nat.le_succ _), (h l hlm).2.mono (Nat.le_succ _), nb_zero _, nb_one (by omega), nb_one (by omega)⟩
    | some k => exact ⟨h0 k eh, (h l hlm).1.mono (Nat.le_succ _), (h l hlm).2.mono (Nat.le_succ _), (hh k eh).1, (hh k eh).2, nb_one (by omega)⟩
/-- the chain's length -/
theorem trimF_len (sg : Int) (F : Option Pr) : ∀ hl : List Pr, (trimF sg F hl).length ≤ hl.length
  | [] => by unfold trimF; exact Nat.le_refl _
  | [_] => by unfold trimF; exact Nat.le_refl _
  | a :: b :: r => by
    rw [trimF_eq]
    split
    · have := trimF_len sg F (b :: r)
      simp only [List.tail_cons, List.length_cons] at *
      omega
    · exact Nat.le_refl _
theorem trimE_len (sg : Int) (F : Option Pr) : ∀ hl : List Pr, (trimE sg F hl).length ≤ hl.length
  | [] => by unfold trimE; exact Nat.le_refl _
  | [_] => by unfold trimE; exact Nat.le_refl _
  | a :: b :: r => by
    rw [trimE_eq]
    split
    · have := trimE_len sg F (b :: r)
      simp only [List.tail_cons, List.length_cons] at *
      omega
    · exact Nat.le_refl _
theorem cutHull_len (sg : Int) (F E : Option Pr) (pts : List Pr) : (cutHull sg F E pts).length ≤ pts.length := by
  unfold cutHull hullF
  rw [List.length_reverse]
  have h1 := trimE_len sg E (trimF sg F (hullS sg pts).reverse).reverse
  have h2 := trimF_len sg F (hullS sg pts).reverse
  have h3 := (hullS_sz sg pts).1
  rw [List.length_reverse] at h1 h2
  omega
theorem lowPts_perm {rs : List Rec} {a b : List Pr} (h : LowPts rs a) (p : b.Perm a) : LowPts rs b :=
  ⟨fun x hx => h.att x (p.mem_iff.mp hx), fun r hr lr => by
    obtain ⟨x, h1, h2⟩ := h.dom r hr lr
    exact ⟨x, p.mem_iff.mpr h1, h2⟩⟩
theorem highPts_perm {rs : List Rec} {a b : List Pr} (h : HighPts rs a) (p : b.Perm a) : HighPts rs b :=
  ⟨fun x hx => h.att x (p.mem_iff.mp hx), fun r hr lr => by
    obtain ⟨x, h1, h2⟩ := h.dom r hr lr
    exact ⟨x, p.mem_iff.mpr h1, h2⟩⟩
theorem mem_snoc_of {α : Type} {x : α} {A : List α} : x ∈ A ++ [x] := by simp
end K67

set_option Elab.async false
set_option linter.all false
set_option maxRecDepth 100000
set_option maxHeartbeats 4000000
namespace K67
open PySem PySem.Spec PyProof.Rows L2
theorem OptV.sameK {H H' : Hp} {v : V} {o : Option Pr} (e : Same H H') (h : OptV H v o) : OptV H' v o := h.same e
theorem cutFB_none (sg : Int) (hl : List Pr) : cutFB sg none hl = false := by
  match hl with
  | [] => rfl
  | [_] => rfl
  | a :: b :: r => rfl
theorem cutEB_none (sg : Int) (hl : List Pr) : cutEB sg none hl = false := by
  match hl with
  | [] => rfl
  | [_] => rfl
  | a :: b :: r => rfl
theorem cutFB_low (h a b : Pr) (r : List Pr) : cutFB (-1) (some h) (a :: b :: r) = !steepB h (slp a b) := by
  show (!decide (val (-1) h.1 h.2 a < val (-1) h.1 h.2 b)) = _
  congr 1
  unfold val steepB slp
  congr 1
  apply propext
  dsimp only
  constructor <;> intro h <;> grind
theorem cutFB_high (h a b : Pr) (r : List Pr) : cutFB 1 (some h) (a :: b :: r) = !steepB (slp a b) h := by
  show (!decide (val 1 h.1 h.2 a < val 1 h.1 h.2 b)) = _
  congr 1
  unfold val steepB slp
  congr 1
  apply propext
  dsimp only
  constructor <;> intro h <;> grind
theorem cutEB_low (h a b : Pr) (r : List Pr) : cutEB (-1) (some h) (b :: a :: r) = !steepB (slp a b) h := by
  show (!decide (val (-1) h.1 h.2 b < val (-1) h.1 h.2 a)) = _
  congr 1
  unfold val steepB slp
  congr 1
  apply propext
  dsimp only
  constructor <;> intro h <;> grind
theorem cutEB_high (h a b : Pr) (r : List Pr) : cutEB 1 (some h) (b :: a :: r) = !steepB h (slp a b) := by
  show (!decide (val 1 h.1 h.2 b < val 1 h.1 h.2 a)) = _
  congr 1
  unfold val steepB slp
  congr 1
  apply propext
  dsimp only
  constructor <;> intro h <;> grind
theorem trimF_mem (sg : Int) (F : Option Pr) : ∀ hl : List Pr, ∀ x ∈ trimF sg F hl, x ∈ hl
  | [] => by unfold trimF; exact fun x h => h
  | [_] => by unfold trimF; exact fun x h => h
  | a :: b :: r => by
    rw [trimF_eq]
    split
    · exact fun x h => List.mem_cons_of_mem _ (trimF_mem sg F (b :: r) x h)
    · exact fun x h => h
section
variable {P : Program} {w : World} {K : PySem.W.Frag} {mg : Str → Option Value} {base : Heap}
def spPcs (C : Addr) (low : Bool) : Sp := fun vs H Q _ => ∃ (a : Addr) (vl vh : V) (rs : List Rec) (L : Pr) (he : Option Pr) (B : Nat), vs = [.ref a, vl, vh] ∧ RecsAt H a rs ∧ rs.length ≤ 300 ∧ B ≤ 4000 ∧ (∀ r ∈ rs, RecSz B r) ∧ TupV H vl (prL L) ∧ OptV H vh he ∧
  Iv rs L he ∧ PrSz (B + 2) L ∧ NbO (B + 2) he ∧
  ∀ p H' ws pcs, Same H H' → H p = none → H' p = some (.lst ws) → Paired (PcAt C H') ws pcs → (if low then PcsLow rs pcs else PcsHigh rs pcs) → (∀ c ∈ pcs, PcSz (B + 2) c) → pcs.length ≤ 310 → Q (.ref p) H'
theorem sc40 : FnScope ["records", "low", "high", "hull", "first", "last", "head"] ["records", "low", "high"] (defScope (top 40)) := ⟨rfl, rfl, rfl, by decide +kernel, rfl, by decide +kernel, by decide +kernel⟩
theorem sc39 : FnScope ["records", "low", "high", "hull", "first", "last", "tail"] ["records", "low", "high"] (defScope (top 39)) := ⟨rfl, rfl, rfl, by decide +kernel, rfl, by decide +kernel, by decide +kernel⟩
theorem can_least_pieces (T : Txt K mg) {C : Addr} {f : Addr} {fd : FuncData} (PC : PcC K C) (D : Df K mg "least_pieces" (top 40) ["records", "low", "high"] f fd) (C1 : Can P w K mg base "least_points" 1 ["records"] (spPts true))
    (C2 : Can P w K mg base "hull_of" 3 ["points", "sign"] spHull) (C3 : Can P w K mg base "slope_between" 1 ["first", "second"] spSlope) (C4 : Can P w K mg base "is_steeper" 1 ["first", "second"] spSteep)
    (C5 : Can P w K mg base "inner_pieces" 3 ["hull", "strict"] (spInner C)) (M0 : CanMk P w K mg base "Piece" C 1 ["self", "start", "stop", "point", "slope", "strict"] (spPcInit C)) :
    Can P w K mg base "least_pieces" 4 ["records", "low", "high"] (spPcs C true) := by
  refine D.can (D.fn.ok sc40 (fun vs H Q E h => ?_) (fun cdv A outer s H vs Q E hr h => ?_))
  · obtain ⟨a, vl, vh, rs, L, he, B, rfl, _⟩ := h
    rfl
  · obtain ⟨a, vl, vh, rs, L, he, B, rfl, hR, hl, hB, hsz, hL, hH, I, nL, nH, k⟩ := h
    have hr1 : Room 1 _ := hr.mono (by decide)
    have hr2 : Room 2 _ := hr.mono (by decide)
    have hu := hu_of hr
    refine ⟨_, pss_cons (ps_set (i := 3) sc40.nd rfl (Or.inl rfl) (pe_can C2 hr (pa_cons (pe_can C1 hr1 (pa_cons (pv 0) pa_nil)) (pa_cons (pe_un un_neg pe_int) pa_nil))))
      (pss_cons (ps_while PassesOwn.never (PW.pt (pw_and (pt_cmpR op_notN (pv 2) pe_non (nomark _)) (pw_and (pt_cmpR op_gt (pe_len T.len (pv 3)) pe_int (nomark _)) (pw_and1 (pt_not (pt_val (pe_can C4 hr1 (pa_cons (pv 2) (pa_cons (pe_can C3 hr1 (pa_cons (pe_ix ix_list (pv 3) pe_int (fun _ _ => rfl)) (pa_cons (pe_ix ix_list (pv 3) pe_int (fun _ _ => rfl)) pa_nil))) pa_nil)))))))))
          (pss_one (ps_expr (pe_bm PySem.F.plainAttrs_list PySem.F.slot_list_pop PySem.F.type_list_pop mt_popAt (pv 3) (pa_cons pe_int pa_nil)))))
      (pss_cons (ps_while PassesOwn.never (PW.pt (pw_and (pt_cmpR op_gt (pe_len T.len (pv 3)) pe_int (nomark _)) (pw_and1 (pt_not (pt_val (pe_can C4 hr1 (pa_cons (pe_can C3 hr1 (pa_cons (pe_ix ix_list (pv 3) (pe_un un_neg pe_int) (fun _ _ => rfl)) (pa_cons (pe_ix ix_list (pv 3) (pe_un un_neg pe_int) (fun _ _ => rfl)) pa_nil))) (pa_cons (pv 1) pa_nil))))))))
          (pss_one (ps_expr (pe_bm0 PySem.F.plainAttrs_list PySem.F.slot_list_pop PySem.F.type_list_pop mt_pop (pv 3)))))
      (pss_cons (ps_if (pt_cmpR (op_eqNil (by exact Nat.lt_of_succ_lt hu)) (pv 3) (pe_lst pa_nil) (nomark _)) (pss_one (ps_ret (pe_lst pa_nil))) pss_nil)
      (pss_cons (ps_par (i := 4) (j := 5) (by rfl) sc40.nd rfl rfl (by decide) rfl rfl (pa_cons (pe_ix ix_list (pv 3) pe_int (fun _ _ => rfl)) (pa_cons (pe_ix ix_list (pv 3) (pe_un un_neg pe_int) (fun _ _ => rfl)) pa_nil)) (by rfl))
      (pss_cons (ps_set (i := 6) sc40.nd rfl (Or.inl rfl) (pe_ifExp (pt_cmpR op_isN (pv 2) pe_non (nomark _)) (pe_lst pa_nil) (pe_lst (pa_cons (pe_canMk M0 hr2 (pa_cons pe_non (pa_cons (pe_ix ix_tup (pv 4) pe_int (fun _ _ => rfl)) (pa_cons (pv 4) (pa_cons (pv 2) (pa_cons pe_int pa_nil)))))) pa_nil))))
      (pss_one (ps_ret (pe_op op_cat (pe_op op_cat (pv 6) (pe_can C5 hr (pa_cons (pv 3) (pa_cons pe_int pa_nil)))) (pe_lst (pa_cons (pe_canMk M0 hr2 (pa_cons (pe_ix ix_tup (pv 5) pe_int (fun _ _ => rfl)) (pa_cons pe_non (pa_cons (pv 5) (pa_cons (pv 1) (pa_cons pe_int pa_nil)))))) pa_nil)))))))))), ?_⟩
    refine ⟨_, rfl, a, rs, B, rfl, hR, hl, hsz, fun p1 H1 ws1 pts1 s1 hp1 h1 hpt ok lp => ⟨_, rfl, ?_⟩⟩
    refine ⟨p1, ws1, pts1, -1, B + 1, rfl, .inr rfl, h1, hpt, ok.nd, ok.len, by omega, ok.sz, fun fa H2 ws2 qs s2 hfa h2 hqs pm hlt => ?_⟩
    have hfa0 := s1.free hfa
    have s02 := s1.trans s2
    have hsq : ∀ x ∈ qs, PrSz (B + 1) x := fun x hx => ok.sz x (pm.mem_iff.mp hx)
    have hmF : ∀ x ∈ hullF (-1) qs, PrSz (B + 2) x := fun x hx => by
      have := hsq x ((hullS_sz (-1) qs).2 x (List.mem_reverse.mp hx))
      exact ⟨this.1.mono (Nat.le_succ _), this.2.mono (Nat.le_succ _)⟩
    show tSeq (tWhile _ _) _ _ _ _
    refine trim_front (sg := -1) (F := he) rfl hfa0 s02 h2 hqs (fun H' ws hl' sm hw hp hin Qb hk => ?_) (fun H' ws sm hw hp => ?_)
    · cases eh : he with
      | none =>
        rw [eh] at hH hk
        obtain rfl : vh = .non := hH
        refine ⟨_, rfl, rfl, _, rfl, ?_⟩
        have := hk H' (Same.refl _)
        rw [cutFB_none] at this
        exact this
      | some h =>
        rw [eh] at hH hk
        obtain ⟨ah, rfl, hah⟩ := hH
        refine ⟨_, rfl, rfl, _, rfl, ?_⟩
        refine ⟨_, rfl, fa, ws, rfl, .inl (SqL.of hw), _, _, rfl, rfl, _, rfl, ite2 (fun cc => ?_) (fun cc => ?_)⟩
        · have cc : (1 : Int) < (ws.length : Nat) := of_decide_eq_true cc
          match hl', ws, hp, cc with
          | [], [], .nil, cc => simp at cc
          | [_], [_], .cons _ .nil, cc => simp at cc
          | x :: y :: r, u :: v :: ws, .cons r1 (.cons r2 t), cc =>
            refine ⟨_, rfl, _, rfl, fa, _, 0, u, rfl, rfl, SqL.of hw, atI_nat (j := 0) rfl, _, rfl, fa, _, 1, v, rfl, rfl, SqL.of hw, atI_nat (j := 1) rfl, ?_⟩
            refine ⟨_, _, x, y, rfl, r1, r2, fun q hq => ⟨_, _, h, slp x y, B + 3, rfl, ⟨ah, rfl, (Same.new hq) _ _ (sm _ _ hah)⟩, ⟨q, rfl, upd_same⟩, by omega, ?_⟩⟩
            obtain ⟨g1, g2⟩ := nH h eh
            obtain ⟨g3, g4⟩ := slp_sz (hmF _ (hin x (by simp))) (hmF _ (hin y (by simp)))
            refine ⟨g1.mono (by omega), g2.mono (by omega), g3, g4, _, rfl, ?_⟩
            have := hk _ (Same.new (o := .tup (prL (slp x y))) hq)
            rw [cutFB_low h x y r] at this
            exact this
        · have cc : ¬ (1 : Int) < (ws.length : Nat) := fun z => cc (decide_eq_true z)
          have := hk H' (Same.refl _)
          match hl', ws, hp, cc with
          | [], [], .nil, cc => exact this
          | [_], [_], .cons _ .nil, cc => exact this
          | x :: y :: r, u :: v :: ws, .cons r1 (.cons r2 t), cc => simp at cc; omega
    · show tSeq (tWhile _ _) _ _ _ _
      refine trim_back (sg := -1) (F := some L) (H0 := H) rfl hfa0 sm hw hp (fun H' ws hl' sm hw hp hin Qb hk => ?_) (fun H' ws sm hw hp => ?_)
      · refine ⟨_, rfl, fa, ws, rfl, .inl (SqL.of hw), _, _, rfl, rfl, _, rfl, ite2 (fun cc => ?_) (fun cc => ?_)⟩
        · have cc : (1 : Int) < (ws.length : Nat) := of_decide_eq_true cc
          have hmT : ∀ x ∈ hl', PrSz (B + 2) x := fun x hx => hmF x (trimF_mem _ _ _ x (hin x hx))
          obtain ⟨hr', rfl⟩ : ∃ q, hl' = q.reverse := ⟨hl'.reverse, by rw [List.reverse_reverse]⟩
          have wl := paired_len hp
          rw [List.reverse_reverse] at hk
          match hr', hp, hk, hmT, wl with
          | [], hp, hk, _, wl => simp at wl; simp [wl] at cc
          | [_], hp, hk, _, wl => simp at wl; simp [wl] at cc
          | y :: x :: r, hp, hk, hmT, _ =>
            rw [List.reverse_cons, List.reverse_cons] at hp
            obtain ⟨w1, v, rfl, hp1, r2⟩ := paired_unsnoc hp
            obtain ⟨w2, u, rfl, hp2, r1⟩ := paired_unsnoc hp1
            have e2 : w2 ++ [u] ++ [v] = w2 ++ [u, v] := by simp
            obtain ⟨g3, g4⟩ := slp_sz (hmT x (by simp)) (hmT y (by simp))
            refine ⟨_, rfl, _, rfl, fa, _, -2, u, rfl, rfl, SqL.of hw, (by rw [e2]; exact at_m2), _, rfl, _, rfl, fa, _, -1, v, rfl, rfl, SqL.of hw, at_m1, ?_⟩
            refine ⟨_, _, x, y, rfl, r1, r2, fun q hq => ⟨_, rfl, _, _, slp x y, L, B + 3, rfl, ⟨q, rfl, upd_same⟩, (hL.same sm).same (Same.new hq), by omega, g3, g4, nL.1.mono (by omega), nL.2.mono (by omega), _, rfl, ?_⟩⟩
            have := hk _ (Same.new (o := .tup (prL (slp x y))) hq)
            rw [cutEB_low L x y r] at this
            exact this
        · have cc : ¬ (1 : Int) < (ws.length : Nat) := fun z => cc (decide_eq_true z)
          have := hk H' (Same.refl _)
          have wl : ws.length = hl'.reverse.length := by rw [List.length_reverse]; exact paired_len hp
          match hl'.reverse, this, wl with
          | [], this, wl => exact this
          | [_], this, wl => exact this
          | x :: y :: r, this, wl => rw [wl] at cc; simp at cc; omega
      · have hF : ∀ g, he = some g → 0 < g.2 := fun g e => (I.h0 g e).2.1
        have hE : ∀ g, some L = some g → 0 < g.2 := fun g e => by cases e; exact I.b0
        have hp : PtsV H' ws (cutHull (-1) he (some L) qs) := hp
        have CO := cut_ok (sg := -1) hF hE hlt
        have hcl := cutHull_len (-1) he (some L) qs
        have hql : qs.length ≤ 300 := by rw [pm.length_eq]; exact ok.len
        have LP := lowPts_perm lp pm
        generalize cutHull (-1) he (some L) qs = hl' at hp CO hcl
        have hls : ∀ x ∈ hl', PrSz (B + 1) x := fun x hx => hsq x (CO.sub x hx)
        refine ⟨_, rfl, Nat.zero_le _, fun ne hne => ?_⟩
        have s4 : Same H' (upd H' ne (.lst [])) := Same.new hne
        refine ⟨fa, ne, ws, rfl, rfl, SqL.of (s4 _ _ hw), SqL.of upd_same, _, rfl, ?_⟩
        have hw := s4 _ _ hw
        have sm := sm.trans s4
        have hp := PtsV.same s4 hp
        generalize upd H' ne (.lst []) = H4 at hw sm hp
        cases eh : hl' with
        | nil =>
          rw [eh] at hp
          cases hp
          refine ite2 (fun _ => ?_) (fun cc => absurd rfl cc)
          refine ⟨Nat.zero_le _, fun p hp => ?_⟩
          have hqs0 : qs = [] := by
            by_cases z : qs = []
            · exact z
            · exact absurd eh (CO.ne z)
          refine k p _ [] [] (sm.trans (Same.new hp)) (sm.free hp) upd_same .nil ⟨fun t c hc => (by cases hc), fun t _ => least_no I LP hqs0⟩ (fun c hc => (by cases hc)) (Nat.zero_le _)
        | cons x R =>
          have hne : ws ≠ [] := fun z => by
            have := paired_len hp
            rw [z, eh] at this
            simp at this
          match ws, hp, hne, hw with
          | [], _, hne, _ => exact absurd rfl hne
          | u :: W, hp, _, hw =>
          refine ite2 (fun cc => by cases cc) (fun _ => ?_)
          obtain ⟨A1, l, el⟩ : ∃ A1 l, hl' = A1 ++ [l] := by
            rcases List.eq_nil_or_concat hl' with z | ⟨A1, l, z⟩
            · rw [z] at eh; cases eh
            · exact ⟨A1, l, by rw [z]; simp⟩
          obtain ⟨W1, v, ev, _, rv⟩ : ∃ W1 v, u :: W = W1 ++ [v] ∧ PtsV H4 W1 A1 ∧ TupV H4 v (prL l) := by
            rw [el] at hp
            exact paired_unsnoc hp
          have ru : TupV H4 u (prL x) := by
            rw [eh] at hp
            cases hp with
            | cons r t => exact r
          obtain ⟨au, rfl, hau⟩ := ru
          obtain ⟨av, rfl, hav⟩ := rv
          have hlen3 : hl'.length ≤ 300 := by omega
          have hlt' : hl'.Pairwise fun x y => x.1 < y.1 := CO.conv.1
          refine ⟨_, rfl, fa, _, 0, _, rfl, rfl, SqL.of hw, atI_nat (j := 0) rfl, _, rfl, _, rfl, fa, _, -1, _, rfl, rfl, SqL.of hw, (by rw [ev]; exact at_m1), _, _, rfl, ?_⟩
          have fin : ∀ (H5 : Hp) (hd : Addr) (vsH : List V), Same H4 H5 → H5 hd = some (.lst vsH) → Paired (PcAt C H5) vsH (headL x he) →
              tRet (tOp rCat (tOp rCat (tVar 6) (tCall (spInner C) [] E0 (tCons (tVar 3) (tCons (tC (.int 0)) tNil)))) (tLst (tCons (tMake C (spPcInit C) [] E0 (tCons (tOp (rIxT K) (tVar 5) (tC (.int 0))) (tCons (tC .non) (tCons (tVar 5) (tCons (tVar 1) (tCons (tC (.int 0)) tNil)))))) tNil)))
                { nx := fun _ H' => Q .non H', rt := Q } [some (.ref a), some vl, some vh, some (.ref fa), some (.ref au), some (.ref av), some (.ref hd)] H5 := by
            intro H5 hd vsH s5 hhd hpH
            have hvl : vsH.length ≤ 1 := by
              rw [paired_len hpH]
              cases he with
              | none => exact Nat.zero_le _
              | some _ => exact Nat.le_refl _
            refine ⟨_, rfl, _, rfl, fa, _, hl', 0, rfl, s5 _ _ hw, PtsV.same s5 hp, hlen3, fun ip H6 iw s6 hip h6 hip2 => ?_⟩
            have hiw : iw.length ≤ 300 := by
              have := paired_len hip2
              rw [innerP_len] at this
              omega
            refine ⟨hd, ip, vsH, iw, rfl, rfl, s6 _ _ hhd, h6, Nat.le_of_lt (small1000 (by omega)), fun cp hcp => ?_⟩
            have s7 : Same H6 (upd H6 cp (.lst (vsH ++ iw))) := Same.new hcp
            have hav7 := s7 _ _ (s6 _ _ (s5 _ _ hav))
            have hL7 := (hL.same sm).same (s5.trans (s6.trans s7))
            refine ⟨_, rfl, av, _, 0, _, rfl, rfl, SqT.of hav7, rfl, _, rfl, _, rfl, fun x8 dx nx ndx nex => ?_⟩
            have s8 := made_same (C := C) nx ndx (But.refl _ _)
            refine ⟨x8, dx, .ref av, vl, ⟨some l.1, none, l, L.1, L.2, 0⟩, rfl, upd_same, ⟨av, rfl, s8 _ _ hav7⟩, hL7.same s8, fun H8 hb8 h8 => ⟨rfl, (by show 1 ≤ sizeLine; decide), fun lp hlp => ?_⟩⟩
            have s8 := made_same nx ndx hb8
            have s9 : Same H8 (upd H8 lp (.lst [.ref x8])) := Same.new hlp
            refine ⟨cp, lp, _, _, rfl, rfl, s9 _ _ (s8 _ _ upd_same), upd_same, Nat.le_of_lt (small1000 (by simp; omega)), fun rp hrp => ?_⟩
            have s10 := Same.new (o := .lst (vsH ++ iw ++ [.ref x8])) hrp
            have t8 := s8.trans (s9.trans s10)
            have t6 := s7.trans t8
            have t5 := s6.trans t6
            have tt := sm.trans (s5.trans t5)
            refine k rp _ _ (lowPcs L he hl' x l) tt ((sm.trans (s5.trans (s6.trans (s7.trans (s8.trans s9))))).free hrp) upd_same ?_ (pcsLow_of I LP CO eh el) ?_ ?_
            · unfold lowPcs
              exact paired_append (paired_append (paired_mono (fun _ _ => PcAt.same t5) hpH) (paired_mono (fun _ _ => PcAt.same t6) hip2)) (.cons ⟨x8, dx, rfl, (s9.trans s10) _ _ h8⟩ .nil)
            · exact lowPcs_sz (B := B + 1) I.b0 (fun g e => (I.h0 g e).2.1) hls hlt' (by rw [eh]; simp) (by rw [el]; simp) nL nH
            · unfold lowPcs
              rw [List.length_append, List.length_append, innerP_len]
              have : (headL x he).length ≤ 1 := by
                cases he with
                | none => exact Nat.zero_le _
                | some _ => exact Nat.le_refl _
              simp only [List.length_singleton]
              omega
          refine ⟨_, rfl, rfl, _, rfl, ?_⟩
          cases eg : he with
          | none =>
            rw [eg] at hH fin
            obtain rfl : vh = .non := hH
            refine ite2 (fun _ => ?_) (fun cc => absurd rfl cc)
            exact ⟨Nat.zero_le _, fun hd hhd => fin _ hd [] (Same.new hhd) upd_same .nil⟩
          | some h =>
            rw [eg] at hH fin
            obtain ⟨ah, rfl, hah⟩ := hH
            refine ite2 (fun cc => by cases cc) (fun _ => ?_)
            have hah4 := sm _ _ hah
            refine ⟨_, rfl, au, _, 0, _, rfl, rfl, SqT.of hau, rfl, _, rfl, _, rfl, fun x5 dx nx ndx nex => ?_⟩
            have s5 := made_same (C := C) nx ndx (But.refl _ _)
            refine ⟨x5, dx, .ref au, .ref ah, ⟨none, some x.1, x, h.1, h.2, 0⟩, rfl, upd_same, ⟨au, rfl, s5 _ _ hau⟩, ⟨ah, rfl, s5 _ _ hah4⟩, fun H5 hb5 h5 => ⟨rfl, (by show 1 ≤ sizeLine; decide), fun hd hhd => ?_⟩⟩
            have s5 := made_same nx ndx hb5
            have s6 := Same.new (o := .lst [.ref x5]) hhd
            exact fin _ hd [.ref x5] (s5.trans s6) upd_same (.cons ⟨x5, dx, rfl, s6 _ _ h5⟩ .nil)
end
end K67

set_option Elab.async false
set_option linter.all false
set_option maxRecDepth 100000
set_option maxHeartbeats 4000000
namespace K67
open PySem PySem.Spec PyProof.Rows L2
section
variable {P : Program} {w : World} {K : PySem.W.Frag} {mg : Str → Option Value} {base : Heap}
theorem can_greatest_pieces (T : Txt K mg) {C : Addr} {f : Addr} {fd : FuncData} (PC : PcC K C) (D : Df K mg "greatest_pieces" (top 39) ["records", "low", "high"] f fd) (C1 : Can P w K mg base "greatest_points" 1 ["records"] (spPts false))
    (C2 : Can P w K mg base "hull_of" 3 ["points", "sign"] spHull) (C3 : Can P w K mg base "slope_between" 1 ["first", "second"] spSlope) (C4 : Can P w K mg base "is_steeper" 1 ["first", "second"] spSteep)
    (C5 : Can P w K mg base "inner_pieces" 3 ["hull", "strict"] (spInner C)) (M0 : CanMk P w K mg base "Piece" C 1 ["self", "start", "stop", "point", "slope", "strict"] (spPcInit C)) :
    Can P w K mg base "greatest_pieces" 4 ["records", "low", "high"] (spPcs C false) := by
  refine D.can (D.fn.ok sc39 (fun vs H Q E h => ?_) (fun cdv A outer s H vs Q E hr h => ?_))
  · obtain ⟨a, vl, vh, rs, L, he, B, rfl, _⟩ := h
    rfl
  · obtain ⟨a, vl, vh, rs, L, he, B, rfl, hR, hl, hB, hsz, hL, hH, I, nL, nH, k⟩ := h
    have hr1 : Room 1 _ := hr.mono (by decide)
    have hr2 : Room 2 _ := hr.mono (by decide)
    have hu := hu_of hr
    refine ⟨_, pss_cons (ps_set (i := 3) sc39.nd rfl (Or.inl rfl) (pe_can C2 hr (pa_cons (pe_can C1 hr1 (pa_cons (pv 0) pa_nil)) (pa_cons pe_int pa_nil))))
      (pss_cons (ps_while PassesOwn.never (PW.pt (pw_and (pt_cmpR op_gt (pe_len T.len (pv 3)) pe_int (nomark _)) (pw_and1 (pt_not (pt_val (pe_can C4 hr1 (pa_cons (pe_can C3 hr1 (pa_cons (pe_ix ix_list (pv 3) pe_int (fun _ _ => rfl)) (pa_cons (pe_ix ix_list (pv 3) pe_int (fun _ _ => rfl)) pa_nil))) (pa_cons (pv 1) pa_nil))))))))
          (pss_one (ps_expr (pe_bm PySem.F.plainAttrs_list PySem.F.slot_list_pop PySem.F.type_list_pop mt_popAt (pv 3) (pa_cons pe_int pa_nil)))))
      (pss_cons (ps_while PassesOwn.never (PW.pt (pw_and (pt_cmpR op_notN (pv 2) pe_non (nomark _)) (pw_and (pt_cmpR op_gt (pe_len T.len (pv 3)) pe_int (nomark _)) (pw_and1 (pt_not (pt_val (pe_can C4 hr1 (pa_cons (pv 2) (pa_cons (pe_can C3 hr1 (pa_cons (pe_ix ix_list (pv 3) (pe_un un_neg pe_int) (fun _ _ => rfl)) (pa_cons (pe_ix ix_list (pv 3) (pe_un un_neg pe_int) (fun _ _ => rfl)) pa_nil))) pa_nil)))))))))
          (pss_one (ps_expr (pe_bm0 PySem.F.plainAttrs_list PySem.F.slot_list_pop PySem.F.type_list_pop mt_pop (pv 3)))))
      (pss_cons (ps_if (pt_cmpR (op_eqNil (by exact Nat.lt_of_succ_lt hu)) (pv 3) (pe_lst pa_nil) (nomark _)) (pss_one (ps_ret (pe_lst pa_nil))) pss_nil)
      (pss_cons (ps_par (i := 4) (j := 5) (by rfl) sc39.nd rfl rfl (by decide) rfl rfl (pa_cons (pe_ix ix_list (pv 3) pe_int (fun _ _ => rfl)) (pa_cons (pe_ix ix_list (pv 3) (pe_un un_neg pe_int) (fun _ _ => rfl)) pa_nil)) (by rfl))
      (pss_cons (ps_set (i := 6) sc39.nd rfl (Or.inl rfl) (pe_ifExp (pt_cmpR op_notN (pv 2) pe_non (nomark _)) (pe_canMk M0 hr2 (pa_cons (pe_ix ix_tup (pv 5) pe_int (fun _ _ => rfl)) (pa_cons pe_non (pa_cons (pv 5) (pa_cons (pv 2) (pa_cons pe_int pa_nil))))))
          (pe_canMk M0 hr2 (pa_cons (pe_ix ix_tup (pv 5) pe_int (fun _ _ => rfl)) (pa_cons (pe_op op_add (pe_ix ix_tup (pv 5) pe_int (fun _ _ => rfl)) pe_int) (pa_cons (pv 5) (pa_cons (pe_tup (pa_cons pe_int (pa_cons pe_int pa_nil))) (pa_cons pe_int pa_nil))))))))
      (pss_one (ps_ret (pe_op op_cat (pe_op op_cat (pe_lst (pa_cons (pe_canMk M0 hr2 (pa_cons pe_non (pa_cons (pe_ix ix_tup (pv 4) pe_int (fun _ _ => rfl)) (pa_cons (pv 4) (pa_cons (pv 1) (pa_cons pe_int pa_nil)))))) pa_nil)) (pe_can C5 hr (pa_cons (pv 3) (pa_cons pe_int pa_nil)))) (pe_lst (pa_cons (pv 6) pa_nil)))))))))), ?_⟩
    refine ⟨_, rfl, a, rs, B, rfl, hR, hl, hsz, fun p1 H1 ws1 pts1 s1 hp1 h1 hpt ok lp => ?_⟩
    refine ⟨p1, ws1, pts1, 1, B + 1, rfl, .inl rfl, h1, hpt, ok.nd, ok.len, by omega, ok.sz, fun fa H2 ws2 qs s2 hfa h2 hqs pm hlt => ?_⟩
    have hfa0 := s1.free hfa
    have s02 := s1.trans s2
    have hsq : ∀ x ∈ qs, PrSz (B + 1) x := fun x hx => ok.sz x (pm.mem_iff.mp hx)
    have hmF : ∀ x ∈ hullF 1 qs, PrSz (B + 2) x := fun x hx => by
      have := hsq x ((hullS_sz 1 qs).2 x (List.mem_reverse.mp hx))
      exact ⟨this.1.mono (Nat.le_succ _), this.2.mono (Nat.le_succ _)⟩
    show tSeq (tWhile _ _) _ _ _ _
    refine trim_front (sg := 1) (F := some L) rfl hfa0 s02 h2 hqs (fun H' ws hl' sm hw hp hin Qb hk => ?_) (fun H' ws sm hw hp => ?_)
    · refine ⟨_, rfl, fa, ws, rfl, .inl (SqL.of hw), _, _, rfl, rfl, _, rfl, ite2 (fun cc => ?_) (fun cc => ?_)⟩
      · have cc : (1 : Int) < (ws.length : Nat) := of_decide_eq_true cc
        match hl', ws, hp, cc with
        | [], [], .nil, cc => simp at cc
        | [_], [_], .cons _ .nil, cc => simp at cc
        | x :: y :: r, u :: v :: ws, .cons r1 (.cons r2 t), cc =>
          refine ⟨_, rfl, fa, _, 0, u, rfl, rfl, SqL.of hw, atI_nat (j := 0) rfl, _, rfl, fa, _, 1, v, rfl, rfl, SqL.of hw, atI_nat (j := 1) rfl, ?_⟩
          obtain ⟨g3, g4⟩ := slp_sz (hmF _ (hin x (by simp))) (hmF _ (hin y (by simp)))
          refine ⟨_, _, x, y, rfl, r1, r2, fun q hq => ⟨_, rfl, _, _, slp x y, L, B + 3, rfl, ⟨q, rfl, upd_same⟩, (hL.same sm).same (Same.new hq), by omega, g3, g4, nL.1.mono (by omega), nL.2.mono (by omega), _, rfl, ?_⟩⟩
          have := hk _ (Same.new (o := .tup (prL (slp x y))) hq)
          rw [cutFB_high L x y r] at this
          exact this
      · have cc : ¬ (1 : Int) < (ws.length : Nat) := fun z => cc (decide_eq_true z)
        have := hk H' (Same.refl _)
        match hl', ws, hp, cc with
        | [], [], .nil, cc => exact this
        | [_], [_], .cons _ .nil, cc => exact this
        | x :: y :: r, u :: v :: ws, .cons r1 (.cons r2 t), cc => simp at cc; omega
    · show tSeq (tWhile _ _) _ _ _ _
      refine trim_back (sg := 1) (F := he) (H0 := H) rfl hfa0 sm hw hp (fun H' ws hl' sm hw hp hin Qb hk => ?_) (fun H' ws sm hw hp => ?_)
      · cases eh : he with
        | none =>
          rw [eh] at hH hk
          obtain rfl : vh = .non := hH
          refine ⟨_, rfl, rfl, _, rfl, ?_⟩
          have := hk H' (Same.refl _)
          rw [cutEB_none] at this
          exact this
        | some h =>
        rw [eh] at hH hk
        obtain ⟨ah, rfl, hah⟩ := hH
        refine ⟨_, rfl, rfl, _, rfl, ?_⟩
        refine ⟨_, rfl, fa, ws, rfl, .inl (SqL.of hw), _, _, rfl, rfl, _, rfl, ite2 (fun cc => ?_) (fun cc => ?_)⟩
        · have cc : (1 : Int) < (ws.length : Nat) := of_decide_eq_true cc
          have hmT : ∀ x ∈ hl', PrSz (B + 2) x := fun x hx => hmF x (trimF_mem _ _ _ x (hin x hx))
          obtain ⟨hr', rfl⟩ : ∃ q, hl' = q.reverse := ⟨hl'.reverse, by rw [List.reverse_reverse]⟩
          have wl := paired_len hp
          rw [List.reverse_reverse] at hk
          match hr', hp, hk, hmT, wl with
          | [], hp, hk, _, wl => simp at wl; simp [wl] at cc
          | [_], hp, hk, _, wl => simp at wl; simp [wl] at cc
          | y :: x :: r, hp, hk, hmT, _ =>
            rw [List.reverse_cons, List.reverse_cons] at hp
            obtain ⟨w1, v, rfl, hp1, r2⟩ := paired_unsnoc hp
            obtain ⟨w2, u, rfl, hp2, r1⟩ := paired_unsnoc hp1
            have e2 : w2 ++ [u] ++ [v] = w2 ++ [u, v] := by simp
            obtain ⟨g1, g2⟩ := nH h eh
            obtain ⟨g3, g4⟩ := slp_sz (hmT x (by simp)) (hmT y (by simp))
            refine ⟨_, rfl, _, rfl, _, rfl, fa, _, -2, u, rfl, rfl, SqL.of hw, (by rw [e2]; exact at_m2), _, rfl, _, rfl, fa, _, -1, v, rfl, rfl, SqL.of hw, at_m1, ?_⟩
            refine ⟨_, _, x, y, rfl, r1, r2, fun q hq => ⟨_, _, h, slp x y, B + 3, rfl, ⟨ah, rfl, (Same.new hq) _ _ (sm _ _ hah)⟩, ⟨q, rfl, upd_same⟩, by omega, g1.mono (by omega), g2.mono (by omega), g3, g4, _, rfl, ?_⟩⟩
            have := hk _ (Same.new (o := .tup (prL (slp x y))) hq)
            rw [cutEB_high h x y r] at this
            exact this
        · have cc : ¬ (1 : Int) < (ws.length : Nat) := fun z => cc (decide_eq_true z)
          have := hk H' (Same.refl _)
          have wl : ws.length = hl'.reverse.length := by rw [List.length_reverse]; exact paired_len hp
          match hl'.reverse, this, wl with
          | [], this, wl => exact this
          | [_], this, wl => exact this
          | x :: y :: r, this, wl => rw [wl] at cc; simp at cc; omega
      · have hE : ∀ g, he = some g → 0 < g.2 := fun g e => (I.h0 g e).2.1
        have hF : ∀ g, some L = some g → 0 < g.2 := fun g e => by cases e; exact I.b0
        have hp : PtsV H' ws (cutHull 1 (some L) he qs) := hp
        have CO := cut_ok (sg := 1) hF hE hlt
        have hcl := cutHull_len 1 (some L) he qs
        have hql : qs.length ≤ 300 := by rw [pm.length_eq]; exact ok.len
        have LP := highPts_perm lp pm
        generalize cutHull 1 (some L) he qs = hl' at hp CO hcl
        have hls : ∀ x ∈ hl', PrSz (B + 1) x := fun x hx => hsq x (CO.sub x hx)
        refine ⟨_, rfl, Nat.zero_le _, fun ne hne => ?_⟩
        have s4 : Same H' (upd H' ne (.lst [])) := Same.new hne
        refine ⟨fa, ne, ws, rfl, rfl, SqL.of (s4 _ _ hw), SqL.of upd_same, _, rfl, ?_⟩
        have hw := s4 _ _ hw
        have sm := sm.trans s4
        have hp := PtsV.same s4 hp
        generalize upd H' ne (.lst []) = H4 at hw sm hp
        cases eh : hl' with
        | nil =>
          rw [eh] at hp
          cases hp
          refine ite2 (fun _ => ?_) (fun cc => absurd rfl cc)
          refine ⟨Nat.zero_le _, fun p hp => ?_⟩
          have hqs0 : qs = [] := by
            by_cases z : qs = []
            · exact z
            · exact absurd eh (CO.ne z)
          refine k p _ [] [] (sm.trans (Same.new hp)) (sm.free hp) upd_same .nil ⟨fun t c hc => (by cases hc), fun t _ => great_no I LP hqs0⟩ (fun c hc => (by cases hc)) (Nat.zero_le _)
        | cons x R =>
          have hne : ws ≠ [] := fun z => by
            have := paired_len hp
            rw [z, eh] at this
            simp at this
          match ws, hp, hne, hw with
          | [], _, hne, _ => exact absurd rfl hne
          | u :: W, hp, _, hw =>
          refine ite2 (fun cc => by cases cc) (fun _ => ?_)
          obtain ⟨A1, l, el⟩ : ∃ A1 l, hl' = A1 ++ [l] := by
            rcases List.eq_nil_or_concat hl' with z | ⟨A1, l, z⟩
            · rw [z] at eh; cases eh
            · exact ⟨A1, l, by rw [z]; simp⟩
          obtain ⟨W1, v, ev, _, rv⟩ : ∃ W1 v, u :: W = W1 ++ [v] ∧ PtsV H4 W1 A1 ∧ TupV H4 v (prL l) := by
            rw [el] at hp
            exact paired_unsnoc hp
          have ru : TupV H4 u (prL x) := by
            rw [eh] at hp
            cases hp with
            | cons r t => exact r
          obtain ⟨au, rfl, hau⟩ := ru
          obtain ⟨av, rfl, hav⟩ := rv
          have hlen3 : hl'.length ≤ 300 := by omega
          have hlt' : hl'.Pairwise fun x y => x.1 < y.1 := CO.conv.1
          refine ⟨_, rfl, fa, _, 0, _, rfl, rfl, SqL.of hw, atI_nat (j := 0) rfl, _, rfl, _, rfl, fa, _, -1, _, rfl, rfl, SqL.of hw, (by rw [ev]; exact at_m1), _, _, rfl, ?_⟩
          have fin : ∀ (H5 : Hp) (vt : V), Same H4 H5 → PcAt C H5 vt (tailH l he) →
              tRet (tOp rCat (tOp rCat (tLst (tCons (tMake C (spPcInit C) [] E0 (tCons (tC .non) (tCons (tOp (rIxT K) (tVar 4) (tC (.int 0))) (tCons (tVar 4) (tCons (tVar 1) (tCons (tC (.int 1)) tNil)))))) tNil)) (tCall (spInner C) [] E0 (tCons (tVar 3) (tCons (tC (.int 1)) tNil)))) (tLst (tCons (tVar 6) tNil)))
                { nx := fun _ H' => Q .non H', rt := Q } [some (.ref a), some vl, some vh, some (.ref fa), some (.ref au), some (.ref av), some vt] H5 := by
            intro H5 vt s5 hvt
            have hau5 := s5 _ _ hau
            have hL5 := (hL.same sm).same s5
            refine ⟨_, rfl, au, _, 0, _, rfl, rfl, SqT.of hau5, rfl, _, rfl, _, rfl, fun x6 dx nx ndx nex => ?_⟩
            have s6 := made_same (C := C) nx ndx (But.refl _ _)
            refine ⟨x6, dx, .ref au, vl, ⟨none, some x.1, x, L.1, L.2, 1⟩, rfl, upd_same, ⟨au, rfl, s6 _ _ hau5⟩, hL5.same s6, fun H6 hb6 h6 => ⟨rfl, (by show 1 ≤ sizeLine; decide), fun hd hhd => ?_⟩⟩
            have s6 := made_same nx ndx hb6
            have s7 : Same H6 (upd H6 hd (.lst [.ref x6])) := Same.new hhd
            have s57 := s5.trans (s6.trans s7)
            refine ⟨_, rfl, fa, _, hl', 1, rfl, s57 _ _ hw, PtsV.same s57 hp, hlen3, fun ip H8 iw s8 hip h8 hip2 => ?_⟩
            have hiw : iw.length ≤ 300 := by
              have := paired_len hip2
              rw [innerP_len] at this
              omega
            refine ⟨hd, ip, [.ref x6], iw, rfl, rfl, s8 _ _ upd_same, h8, Nat.le_of_lt (small1000 (by simp; omega)), fun cp hcp => ?_⟩
            have s9 : Same H8 (upd H8 cp (.lst ([.ref x6] ++ iw))) := Same.new hcp
            refine ⟨_, rfl, (by show 1 ≤ sizeLine; decide), fun lp hlp => ?_⟩
            have s10 := Same.new (o := .lst [vt]) hlp
            refine ⟨cp, lp, _, _, rfl, rfl, s10 _ _ upd_same, upd_same, Nat.le_of_lt (small1000 (by simp; omega)), fun rp hrp => ?_⟩
            have s11 := Same.new (o := .lst ([.ref x6] ++ iw ++ [vt])) hrp
            have t8 := s9.trans (s10.trans s11)
            have t6 := s7.trans (s8.trans t8)
            have t5 := s6.trans t6
            have tt := sm.trans (s5.trans t5)
            refine k rp _ _ (highPcs L he hl' x l) tt ((sm.trans (s5.trans (s6.trans (s7.trans (s8.trans (s9.trans s10)))))).free hrp) upd_same ?_ (pcsHigh_of I LP CO eh el) ?_ ?_
            · unfold highPcs
              exact paired_append (paired_append (.cons ⟨x6, dx, rfl, t6 _ _ h6⟩ .nil) (paired_mono (fun _ _ => PcAt.same t8) hip2)) (.cons (PcAt.same t5 hvt) .nil)
            · exact highPcs_sz (B := B + 1) I.b0 (fun g e => (I.h0 g e).2.1) hls hlt' (by rw [eh]; simp) (by rw [el]; simp) nL nH
            · unfold highPcs
              rw [List.length_append, List.length_append, innerP_len]
              simp only [List.length_singleton]
              omega
          refine ⟨_, rfl, rfl, _, rfl, ?_⟩
          cases eg : he with
          | none =>
            rw [eg] at hH fin
            obtain rfl : vh = .non := hH
            refine ite2 (fun cc => by cases cc) (fun _ => ?_)
            refine ⟨_, rfl, av, _, 0, _, rfl, rfl, SqT.of hav, rfl, _, rfl, av, _, 0, _, rfl, rfl, SqT.of hav, rfl, _, _, rfl, rfl, _, rfl, (by show 2 ≤ sizeLine; decide), fun t ht => fun x5 dx nx ndx nex => ?_⟩
            have s4 := Same.new (o := .tup [.int 0, .int 1]) ht
            have s5 := made_same (C := C) nx ndx (But.refl _ _)
            refine ⟨x5, dx, .ref av, .ref t, tailH l none, rfl, upd_same, ⟨av, rfl, s5 _ _ (s4 _ _ hav)⟩, ⟨t, rfl, s5 _ _ upd_same⟩, fun H5 hb5 h5 => ⟨rfl, ?_⟩⟩
            have s5 := made_same nx ndx hb5
            exact fin H5 (.ref x5) (s4.trans s5) ⟨x5, dx, rfl, h5⟩
          | some h =>
            rw [eg] at hH fin
            obtain ⟨ah, rfl, hah⟩ := hH
            refine ite2 (fun _ => ?_) (fun cc => absurd rfl cc)
            have hah4 := sm _ _ hah
            refine ⟨_, rfl, av, _, 0, _, rfl, rfl, SqT.of hav, rfl, _, rfl, _, rfl, fun x5 dx nx ndx nex => ?_⟩
            have s5 := made_same (C := C) nx ndx (But.refl _ _)
            refine ⟨x5, dx, .ref av, .ref ah, tailH l (some h), rfl, upd_same, ⟨av, rfl, s5 _ _ hav⟩, ⟨ah, rfl, s5 _ _ hah4⟩, fun H5 hb5 h5 => ⟨rfl, ?_⟩⟩
            have s5 := made_same nx ndx hb5
            exact fin H5 (.ref x5) s5 ⟨x5, dx, rfl, h5⟩
end
end K67

set_option Elab.async false
set_option linter.all false
set_option maxRecDepth 100000
set_option maxHeartbeats 4000000
namespace K67
open PySem PySem.Spec PyProof.Rows L2
/-! ### Envelope -/
structure EvC (K : PySem.W.Frag) (C : Addr) : Prop where
  cl : Cls K C
  n1 : NoAttr K C "low"
  n2 : NoAttr K C "high"
  n3 : NoAttr K C "lower"
  n4 : NoAttr K C "upper"
def PcsAt (CP : Addr) (H : Hp) (a : Addr) (B : Nat) (pcs : List Pc) : Prop := ∃ ws, H a = some (.lst ws) ∧ Paired (PcAt CP H) ws pcs ∧ (∀ c ∈ pcs, PcSz (B + 2) c) ∧ pcs.length ≤ 310
theorem PcsAt.same {CP : Addr} {H H' : Hp} {a : Addr} {B : Nat} {pcs : List Pc} (e : Same H H') (h : PcsAt CP H a B pcs) : PcsAt CP H' a B pcs := by
  obtain ⟨ws, h1, h2, h3⟩ := h
  exact ⟨ws, e _ _ h1, paired_mono (fun _ _ => PcAt.same e) h2, h3⟩
theorem PcAt.butI {p : Addr} {H H' : Hp} {C C' dx' : Addr} {v : V} {c : Pc} {fs : List (Str × V)} (e : But p H H') (hp : H p = some (.ins C' dx' fs)) (hc : C ≠ C') (h : PcAt C H v c) : PcAt C H' v c := by
  obtain ⟨a, dx, h1, h2⟩ := h
  exact ⟨a, dx, h1, e a _ h2 (ne_of h2 hp (fun z => by cases z; exact hc rfl))⟩
theorem PcsAt.butI {p : Addr} {CP : Addr} {H H' : Hp} {a : Addr} {B : Nat} {pcs : List Pc} {C' dx' : Addr} {fs : List (Str × V)} (e : But p H H') (hp : H p = some (.ins C' dx' fs)) (hc : CP ≠ C') (h : PcsAt CP H a B pcs) : PcsAt CP H' a B pcs := by
  obtain ⟨ws, h1, h2, h3⟩ := h
  exact ⟨ws, e _ _ h1 (ne_of h1 hp (fun z => by cases z)), paired_mono (fun _ _ => PcAt.butI e hp hc) h2, h3⟩
def EvAt (C CP : Addr) (H : Hp) (p : Addr) (rs : List Rec) (B : Nat) : Prop :=
  ∃ dx vl vh al au lp up, H p = some (.ins C dx (evF vl vh (.ref al) (.ref au))) ∧ PcsAt CP H al B lp ∧ PcsLow rs lp ∧ PcsAt CP H au B up ∧ PcsHigh rs up
theorem EvAt.same {C CP : Addr} {H H' : Hp} {p : Addr} {rs : List Rec} {B : Nat} (e : Same H H') (h : EvAt C CP H p rs B) : EvAt C CP H' p rs B := by
  obtain ⟨dx, vl, vh, al, au, lp, up, h1, h2, h3, h4, h5⟩ := h
  exact ⟨dx, vl, vh, al, au, lp, up, e _ _ h1, h2.same e, h3, h4.same e, h5⟩
def ev2L (x0 x1 : V) : List (Str × V) := [("low", x0), ("high", x1)]
def ev3L (x0 x1 x2 : V) : List (Str × V) := [("low", x0), ("high", x1), ("lower", x2)]
theorem ev2 (x0 x1 : V) : putF ("high" : Str) x1 (putF ("low" : Str) x0 []) = ev2L x0 x1 := by unfold ev2L; simp only [putF, if_neg (show ¬ (("low" : Str) = ("high" : Str)) by decide +kernel)]
theorem ev3 (x0 x1 x2 : V) : putF ("lower" : Str) x2 (ev2L x0 x1) = ev3L x0 x1 x2 := by unfold ev2L ev3L; simp only [putF, if_neg (show ¬ (("low" : Str) = ("lower" : Str)) by decide +kernel), if_neg (show ¬ (("high" : Str) = ("lower" : Str)) by decide +kernel)]
theorem ev4 (x0 x1 x2 x3 : V) : putF ("upper" : Str) x3 (ev3L x0 x1 x2) = evF x0 x1 x2 x3 := by unfold ev3L evF; simp only [putF, if_neg (show ¬ (("low" : Str) = ("upper" : Str)) by decide +kernel), if_neg (show ¬ (("high" : Str) = ("upper" : Str)) by decide +kernel), if_neg (show ¬ (("lower" : Str) = ("upper" : Str)) by decide +kernel)]
theorem ev2_low (x0 x1 : V) : (ev2L x0 x1).lookup ("low" : Str) = some x0 := by unfold ev2L; simp only [List.lookup, beq_self_eq_true]
theorem ev3_low (x0 x1 x2 : V) : (ev3L x0 x1 x2).lookup ("low" : Str) = some x0 := by unfold ev3L; simp only [List.lookup, beq_self_eq_true]
theorem Tq.but {p : Addr} {H H' : Hp} {a : Addr} {xs : List V} {C dx : Addr} {fs : List (Str × V)} (e : But p H H') (hp : H p = some (.ins C dx fs)) (h : Tq H a xs) : Tq H' a xs := h.imp (fun z => e _ _ z (ne_of z hp (fun y => by cases y))) (fun z => e _ _ z (ne_of z hp (fun y => by cases y)))
theorem RecsAt.but {p : Addr} {H H' : Hp} {a : Addr} {rs : List Rec} {C dx : Addr} {fs : List (Str × V)} (e : But p H H') (hp : H p = some (.ins C dx fs)) (h : RecsAt H a rs) : RecsAt H' a rs := by
  obtain ⟨vs, h1, h2⟩ := h
  exact ⟨vs, h1.but e hp, paired_mono (fun _ _ => TupV.but e hp) h2⟩
section
variable {P : Program} {w : World} {K : PySem.W.Frag} {mg : Str → Option Value} {base : Heap}
def spEvInit (C CP : Addr) : Sp := fun vs H Q _ => ∃ (p dx a : Addr) (rs : List Rec) (B : Nat), vs = [.ref p, .ref a] ∧ H p = some (.ins C dx []) ∧ RecsAt H a rs ∧ rs.length ≤ 300 ∧ B ≤ 4000 ∧ (∀ r ∈ rs, RecSz B r) ∧ (∃ p q c, Fit p q c rs) ∧
  ∀ H', But p H H' → EvAt C CP H' p rs B → Q .non H'
theorem scEv : FnScope ["self", "records", "interval", "low", "high"] ["self", "records"] (defScope (inClass (top 41) 0)) := ⟨rfl, rfl, rfl, by decide +kernel, rfl, by decide +kernel, by decide +kernel⟩
theorem can_evinit {C CP f : Addr} {fd : FuncData} (T : EvC K C) (hcc : CP ≠ C) (D : Di K mg "Envelope" C "Envelope.__init__" (inClass (top 41) 0) ["self", "records"] f fd) (C1 : Can P w K mg base "ends_of" 5 ["records"] spEndsOf)
    (C2 : Can P w K mg base "least_pieces" 4 ["records", "low", "high"] (spPcs CP true)) (C3 : Can P w K mg base "greatest_pieces" 4 ["records", "low", "high"] (spPcs CP false)) :
    CanMk P w K mg base "Envelope" C 6 ["self", "records"] (spEvInit C CP) := by
  refine D.can (D.fn.ok scEv (fun vs H Q E h => ?_) (fun cdv A outer s H vs Q E hr h => ?_))
  · obtain ⟨p, dx, a, rs, B, rfl, _⟩ := h
    rfl
  · obtain ⟨p, dx, a, rs, B, rfl, hp, hR, hl, hB, hsz, ⟨p0, q0, c0, F0⟩, k⟩ := h
    have hr4 : Room 4 _ := hr.mono (by decide)
    refine ⟨_, pss_cons (ps_set (i := 2) scEv.nd rfl (Or.inl rfl) (pe_can C1 hr (pa_cons (pv 1) pa_nil)))
      (pss_cons (ps_if (pt_cmpR op_isN (pv 2) pe_non (nomark _)) pss_never pss_nil)
      (pss_cons (ps_asg (pv 2) (pg_tup rfl (pgs_cons (pg_name (i := 3) scEv.nd rfl (Or.inl rfl)) (pgs_cons (pg_name (i := 4) scEv.nd rfl (Or.inl rfl)) pgs_nil))))
      (pss_cons (ps_fld (pv 0) (pe_ifExp (pt_cmpR op_isN (pv 3) pe_non (nomark _)) (pe_tup (pa_cons pe_int (pa_cons pe_int pa_nil))) (pv 3)) rfl)
      (pss_cons (ps_fld (pv 0) (pv 4) rfl)
      (pss_cons (ps_fld (pv 0) (pe_can C2 hr4 (pa_cons (pv 1) (pa_cons (pe_fld (pv 0) rfl) (pa_cons (pv 4) pa_nil)))) rfl)
      (pss_one (ps_fld (pv 0) (pe_can C3 hr4 (pa_cons (pv 1) (pa_cons (pe_fld (pv 0) rfl) (pa_cons (pv 4) pa_nil)))) rfl))))))), ?_⟩
    have he : (rb rs).empty = false := by
      cases e : (rb rs).empty with
      | false => rfl
      | true => exact absurd (rate_of_fit F0) (no_rate e F0.hp F0.hq)
    have EO := ends_ok he
    obtain ⟨n1, n2⟩ := ends_sz (rb_sz hsz) (rb_pos rs)
    refine ⟨_, rfl, a, rs, B, rfl, hR, hl, by omega, hsz, fun e => ?_, fun _ ve vl vh H1 s1 ⟨ae, e1, hae⟩ h2 h3 => ?_⟩
    · rw [he] at e; cases e
    subst e1
    refine ⟨_, rfl, rfl, _, rfl, iteF ?_⟩
    refine ⟨_, rfl, ae, _, rfl, SqT.of hae, rfl, _, _, rfl, _, _, rfl, rfl, ?_⟩
    have I := iv_of EO
    generalize elo : (rb rs).ends.1 = le at h2 n1 I
    generalize ehi : (rb rs).ends.2 = hi at h3 n2 I
    generalize eL : le.getD (0, 1) = L at I
    have nL : PrSz (B + 2) L := by
      rw [← eL]
      cases le with
      | none => exact ⟨nb_zero _, nb_one (by omega)⟩
      | some x => exact n1 x rfl
    have hp1 := s1 _ _ hp
    have rest : ∀ (H2 : Hp) (vL : V), Same H1 H2 → TupV H2 vL (prL L) →
        tSeq (sFld K (tVar 0) (tVar 4) "high") (tSeq (sFld K (tVar 0) (tCall (spPcs CP true) [] E0 (tCons (tVar 1) (tCons (tFld K (tVar 0) "low") (tCons (tVar 4) tNil)))) "lower") (sFld K (tVar 0) (tCall (spPcs CP false) [] E0 (tCons (tVar 1) (tCons (tFld K (tVar 0) "low") (tCons (tVar 4) tNil)))) "upper"))
          { nx := fun _ H' => Q .non H', rt := Q } [some (.ref p), some (.ref a), some (.ref ae), some vl, some vh] (upd H2 p (.ins C dx (putF "low" vL []))) := by
      intro H2 vL s2 hvL
      have hp2 := s2 _ _ hp1
      refine ⟨_, rfl, _, rfl, p, C, dx, _, rfl, upd_same, T.cl, T.n2, (pZ (pL pN)), ?_⟩
      rw [ev2]
      have b3 : But p H2 (upd (upd H2 p (.ins C dx (putF "low" vL []))) p (.ins C dx (ev2L vL vh))) := fun b o e n => by rw [upd_ne n, upd_ne n]; exact e
      have hp3 : (upd (upd H2 p (.ins C dx (putF "low" vL []))) p (.ins C dx (ev2L vL vh))) p = some (.ins C dx (ev2L vL vh)) := upd_same
      generalize upd (upd H2 p (.ins C dx (putF "low" vL []))) p (.ins C dx (ev2L vL vh)) = H3 at b3 hp3 ⊢
      have hR3 : RecsAt H3 a rs := ((hR.same s1).same s2).but b3 hp2
      have hL3 := hvL.but b3 hp2
      have hh3 := (h3.same s2).but b3 hp2
      refine ⟨_, rfl, _, rfl, p, C, dx, _, _, rfl, hp3, T.cl, T.n1, ev2_low .., _, rfl, ?_⟩
      refine ⟨a, vL, vh, rs, L, hi, B, rfl, hR3, hl, hB, hsz, hL3, hh3, I, nL, n2, fun al H4 wl pl s4 hal hwl hpl lowp szl lenl => ?_⟩
      have hp4 := s4 _ _ hp3
      refine ⟨_, rfl, p, C, dx, _, rfl, hp4, T.cl, T.n3, (by show 2 < 1000; decide), ?_⟩
      rw [ev3]
      have b5 : But p H4 (upd H4 p (.ins C dx (ev3L vL vh (.ref al)))) := But.upd
      have hp5 : (upd H4 p (.ins C dx (ev3L vL vh (.ref al)))) p = some (.ins C dx (ev3L vL vh (.ref al))) := upd_same
      generalize upd H4 p (.ins C dx (ev3L vL vh (.ref al))) = H5 at b5 hp5 ⊢
      have PL : PcsAt CP H4 al B pl := ⟨wl, hwl, hpl, szl, lenl⟩
      have PL := PL.butI b5 hp4 hcc
      have hR5 := (hR3.same s4).but b5 hp4
      have hL5 := (hL3.same s4).but b5 hp4
      have hh5 := (hh3.same s4).but b5 hp4
      refine ⟨_, rfl, _, rfl, p, C, dx, _, _, rfl, hp5, T.cl, T.n1, ev3_low .., _, rfl, ?_⟩
      refine ⟨a, vL, vh, rs, L, hi, B, rfl, hR5, hl, hB, hsz, hL5, hh5, I, nL, n2, fun au H6 wu pu s6 hau hwu hpu highp szu lenu => ?_⟩
      have hp6 := s6 _ _ hp5
      refine ⟨_, rfl, p, C, dx, _, rfl, hp6, T.cl, T.n4, (by show 3 < 1000; decide), ?_⟩
      rw [ev4]
      have b7 : But p H6 (upd H6 p (.ins C dx (evF vL vh (.ref al) (.ref au)))) := But.upd
      have PU : PcsAt CP H6 au B pu := ⟨wu, hwu, hpu, szu, lenu⟩
      refine k _ ?_ ⟨dx, vL, vh, al, au, pl, pu, upd_same, (PL.same s6).butI b7 hp6 hcc, lowp, PU.butI b7 hp6 hcc, highp⟩
      exact (Same.but (s1.trans s2)).trans (b3.trans ((Same.but s4).trans (b5.trans ((Same.but s6).trans b7))))
    refine ⟨_, rfl, rfl, _, rfl, ?_⟩
    cases ele : le with
    | none =>
      rw [ele] at h2 eL
      obtain rfl : vl = .non := h2
      refine ite2 (fun _ => ?_) (fun cc => absurd rfl cc)
      refine ⟨(by show 2 ≤ sizeLine; decide), fun t ht => ?_⟩
      have s2 := Same.new (o := .tup [.int 0, .int 1]) ht
      refine ⟨_, rfl, p, C, dx, _, rfl, s2 _ _ hp1, T.cl, T.n1, (pZ pN), ?_⟩
      exact rest _ (.ref t) s2 ⟨t, rfl, by rw [← eL]; exact upd_same⟩
    | some x =>
      rw [ele] at h2 eL
      obtain ⟨ax, rfl, hax⟩ := h2
      refine ite2 (fun cc => by cases cc) (fun _ => ?_)
      refine ⟨_, rfl, _, rfl, p, C, dx, _, rfl, hp1, T.cl, T.n1, (pZ pN), ?_⟩
      exact rest H1 (.ref ax) (Same.refl _) ⟨ax, rfl, by rw [← eL]; exact hax⟩
end
end K67

set_option Elab.async false
set_option linter.all false
set_option maxRecDepth 100000
set_option maxHeartbeats 4000000
namespace K67
open PySem PySem.Spec PyProof.Rows L2
theorem bd_sz {B : Nat} {c : Pc} {t : Int} (S : PcSz B c) (ht : Nb B t) (hB : 1 ≤ B) : Nb (2 * B + 3) (c.bd t) := by
  unfold Pc.bd bd
  obtain ⟨w0, z1, z2, z3, z4, z5⟩ := S
  have h1 : Nb (2 * B + 1) (c.rise * (t - c.x.1)) := (z3.mul (ht.sub z1)).mono (by omega)
  have h2 : Nb (2 * B + 2) (c.rise * (t - c.x.1) - c.strict) := h1.sub (z5.mono (by omega))
  exact ((z2.mono (by omega)).add (h2.div w0)).mono (by omega)
/-- [piece for piece in the list if piece.covers(time)] -/
theorem comp_cov (K : PySem.W.Frag) {C CP : Addr} {p : Addr} {s2 s3 : Option V} {t : Int} {f : Str} {dx : Addr} {fs : List (Str × V)} {a : Addr} {B : Nat} {pcs : List Pc} {H : Hp} {Q : VK}
    (hp : H p = some (.ins C dx fs)) (cl : Cls K C) (na : NoAttr K C f) (hf : fs.lookup f = some (.ref a)) (hP : PcsAt CP H a B pcs)
    (k : ∀ D H' ws, Same H H' → H' D = some (.lst ws) → Paired (PcAt CP H') ws (pcs.filter fun c => c.cov t) → Q (.ref D) H') :
    tLc (iList K (tFld K (tVar 0) f)) (gName 3) (tTest (tMeth CP "covers" (spCov CP) [] E0 (tVar 3) (tCons (tVar 1) tNil))) (tVar 3) [3] [some (.ref p), some (.int t), s2, s3] H Q := by
  obtain ⟨ws, ha, hw, hsz, hl⟩ := hP
  refine ⟨_, rfl, p, C, dx, _, _, rfl, hp, cl, na, hf, a, rfl, ⟨_, SqL.of ha⟩, fun D hD => lc_list (K := K) (a := a) (xs := ws) (fun i H' => Same H H' ∧ ∃ acc, H' D = some (.lst acc) ∧ Paired (PcAt CP H') acc ((pcs.take i).filter fun c => c.cov t)) ⟨Same.new hD, [], upd_same, .nil⟩ (fun i H' _ h => SqL.of (h.1 _ _ ha)) ?_ ?_⟩
  · rintro i x H1 hx ⟨sm, acc, hacc, hpa⟩
    obtain ⟨c, hc, hv⟩ := paired_at hw hx
    have hv1 := hv.same sm
    have etk : (pcs.take (i + 1)).filter (fun c => c.cov t) = (pcs.take i).filter (fun c => c.cov t) ++ (if c.cov t = true then [c] else []) := by
      rw [List.take_add_one, hc, List.filter_append]
      congr 1
      simp only [Option.toList, List.filter_cons, List.filter_nil]
    obtain ⟨q, dq, e, hq⟩ := id hv1
    subst e
    refine ⟨rfl, _, rfl, q, dq, _, rfl, hq, pcF_no_covers .., _, rfl, .ref q, c, t, rfl, hv1, _, rfl, ?_⟩
    refine ite2 (fun cc => ?_) (fun cc => ?_)
    · refine ⟨_, rfl, acc, hacc, small1000 ?_, fun b o e => ?_, _, upd_same, ?_⟩
      · have h1 := paired_len hpa
        have h2 := List.length_filter_le (fun c => c.cov t) (pcs.take i)
        have h3 := List.length_take_le' i pcs
        omega
      · rw [upd_ne (ne_of_none e hD)]
        exact sm _ _ e
      · rw [etk, if_pos cc]
        have b : But D H1 (upd H1 D (.lst (acc ++ [.ref q]))) := But.upd
        exact paired_snoc (PcAt.butL b hacc hv1) (paired_mono (fun _ _ => PcAt.butL b hacc) hpa)
    · refine ⟨sm, acc, hacc, ?_⟩
      rw [etk, if_neg cc, List.append_nil]
      exact hpa
  · rintro H' ⟨sm, acc, hacc, hpa⟩
    rw [paired_len hw, List.take_length] at hpa
    exact k D H' acc sm hacc hpa
section
variable {P : Program} {w : World} {K : PySem.W.Frag} {mg : Str → Option Value} {base : Heap}
def spAt (C CP : Addr) (low : Bool) : Sp := fun vs H Q _ => ∃ (p : Addr) (t : Int) (rs : List Rec) (B : Nat), vs = [.ref p, .int t] ∧ EvAt C CP H p rs B ∧ B ≤ 4000 ∧ Nb (B + 2) t ∧
  ∀ o H', Same H H' → (if low then IsLow rs t o else IsHigh rs t o) → (∀ m, o = some m → Nb (2 * B + 7) m) → Q (optI o) H'
theorem scEl : FnScope ["self", "time", "found", "piece"] ["self", "time"] (defScope (inClass (top 41) 1)) := ⟨rfl, rfl, rfl, by decide +kernel, rfl, by decide +kernel, by decide +kernel⟩
theorem scEg : FnScope ["self", "time", "found", "piece"] ["self", "time"] (defScope (inClass (top 41) 2)) := ⟨rfl, rfl, rfl, by decide +kernel, rfl, by decide +kernel, by decide +kernel⟩
theorem can_least {C CP f : Addr} {fd : FuncData} (T : EvC K C) (TP : PcC K CP) (D : Dm K C "least" "Envelope.least" (inClass (top 41) 1) ["self", "time"] f fd) (M1 : CanM P w K mg base CP "covers" 1 ["self", "time"] (spCov CP)) (M2 : CanM P w K mg base CP "bound_at" 1 ["self", "time"] (spBd CP)) :
    CanM P w K mg base C "least" 2 ["self", "time"] (spAt C CP true) := by
  refine D.can (D.fn.ok scEl (fun vs H Q E h => ?_) (fun cdv A outer s H vs Q E hr h => ?_))
  · obtain ⟨p, t, rs, B, rfl, _⟩ := h
    rfl
  · obtain ⟨p, t, rs, B, rfl, ⟨dx, vl, vh, al, au, lp, up, hp, hlp, lowp, hup, highp⟩, hB, ht, k⟩ := h
    have hu := hu_of hr
    refine ⟨_, pss_cons (ps_setLc (i := 2) (own := [("piece", 3)]) (g := gName 3) (tt := tTest (tMeth CP "covers" (spCov CP) [] E0 (tVar 3) (tCons (tVar 1) tNil))) (te := tVar 3) rfl scEl.nd rfl rfl (sw_true rfl rfl rfl (by decide +kernel)) (pi_list (pe_fld (pv 0) rfl)) (blkOk_by (N := ["self", "time", "found", "piece"]) (sc := defScope (inClass (top 41) 1)) (by decide +kernel))
        (fun _ _ _ _ _ => by exact pg_name (i := 3) scEl.nd rfl (Or.inl rfl)) (fun _ _ _ _ _ => by exact pts_one (pt_val (pe_canM M1 TP.cl hr (pv 3) (pa_cons (pv 1) pa_nil)))) (fun _ _ _ _ _ => by exact pv 3))
      (pss_one (ps_ret (pe_ifExp (pt_cmpR (op_neNil (by exact Nat.lt_of_succ_lt hu)) (pv 2) (pe_lst pa_nil) (nomark _)) (pe_canM M2 TP.cl hr (pe_ix ix_list (pv 2) pe_int (fun _ _ => rfl)) (pa_cons (pv 1) pa_nil)) pe_non))), ?_⟩
    dsimp only
    show tSeq (tAsg _ _) _ _ _ _
    refine asg_mid (comp_cov K hp T.cl T.n3 (evF_lower ..) hlp fun Dd H1 ws s1 hDd hws => ?_)
    refine ⟨_, rfl, Nat.zero_le _, fun ne hne => ?_⟩
    have s2 := Same.new (o := .lst []) hne
    refine ⟨Dd, ne, ws, rfl, rfl, SqL.of (s2 _ _ hDd), SqL.of upd_same, _, rfl, ?_⟩
    have hws2 := paired_mono (fun _ _ => PcAt.same s2) hws
    have hDd2 := s2 _ _ hDd
    obtain ⟨_, _, _, hsz, _⟩ := hlp
    cases e : lp.filter (fun c => c.cov t) with
    | nil =>
      rw [e] at hws2
      cases hws2
      refine ite2 (fun cc => by cases cc) (fun _ => ?_)
      refine k none _ (s1.trans s2) (lowp.no t fun c hc => ?_) (fun m e => by cases e)
      have := List.filter_eq_nil_iff.mp e c hc
      simpa using this
    | cons c r =>
      rw [e] at hws2
      have hc := List.mem_filter.mp (show c ∈ lp.filter (fun c => c.cov t) by rw [e]; exact List.mem_cons_self)
      match ws, hws2, hDd2 with
      | v :: W, .cons hv _, hDd2 =>
        refine ite2 (fun _ => ?_) (fun cc => absurd rfl cc)
        obtain ⟨q, dq, ev, hq⟩ := id hv
        subst ev
        refine ⟨_, rfl, Dd, _, 0, _, rfl, rfl, SqL.of hDd2, atI_nat (j := 0) rfl, q, dq, _, rfl, hq, pcF_no_bound_at .., _, rfl, .ref q, c, t, B + 2, rfl, hv, hsz c hc.1, ht, by omega, ?_⟩
        exact k (some (c.bd t)) _ (s1.trans s2) (lowp.hit t c hc.1 hc.2) fun m e => by
          cases e
          exact (bd_sz (hsz c hc.1) ht (by omega)).mono (by omega)
theorem can_greatest {C CP f : Addr} {fd : FuncData} (T : EvC K C) (TP : PcC K CP) (D : Dm K C "greatest" "Envelope.greatest" (inClass (top 41) 2) ["self", "time"] f fd) (M1 : CanM P w K mg base CP "covers" 1 ["self", "time"] (spCov CP)) (M2 : CanM P w K mg base CP "bound_at" 1 ["self", "time"] (spBd CP)) :
    CanM P w K mg base C "greatest" 2 ["self", "time"] (spAt C CP false) := by
  refine D.can (D.fn.ok scEg (fun vs H Q E h => ?_) (fun cdv A outer s H vs Q E hr h => ?_))
  · obtain ⟨p, t, rs, B, rfl, _⟩ := h
    rfl
  · obtain ⟨p, t, rs, B, rfl, ⟨dx, vl, vh, al, au, up, lp, hp, hup, highp, hlp, lowp⟩, hB, ht, k⟩ := h
    have hu := hu_of hr
    refine ⟨_, pss_cons (ps_setLc (i := 2) (own := [("piece", 3)]) (g := gName 3) (tt := tTest (tMeth CP "covers" (spCov CP) [] E0 (tVar 3) (tCons (tVar 1) tNil))) (te := tVar 3) rfl scEg.nd rfl rfl (sw_true rfl rfl rfl (by decide +kernel)) (pi_list (pe_fld (pv 0) rfl)) (blkOk_by (N := ["self", "time", "found", "piece"]) (sc := defScope (inClass (top 41) 2)) (by decide +kernel))
        (fun _ _ _ _ _ => by exact pg_name (i := 3) scEg.nd rfl (Or.inl rfl)) (fun _ _ _ _ _ => by exact pts_one (pt_val (pe_canM M1 TP.cl hr (pv 3) (pa_cons (pv 1) pa_nil)))) (fun _ _ _ _ _ => by exact pv 3))
      (pss_one (ps_ret (pe_ifExp (pt_cmpR (op_neNil (by exact Nat.lt_of_succ_lt hu)) (pv 2) (pe_lst pa_nil) (nomark _)) (pe_canM M2 TP.cl hr (pe_ix ix_list (pv 2) pe_int (fun _ _ => rfl)) (pa_cons (pv 1) pa_nil)) pe_non))), ?_⟩
    dsimp only
    show tSeq (tAsg _ _) _ _ _ _
    refine asg_mid (comp_cov K hp T.cl T.n4 (evF_upper ..) hlp fun Dd H1 ws s1 hDd hws => ?_)
    refine ⟨_, rfl, Nat.zero_le _, fun ne hne => ?_⟩
    have s2 := Same.new (o := .lst []) hne
    refine ⟨Dd, ne, ws, rfl, rfl, SqL.of (s2 _ _ hDd), SqL.of upd_same, _, rfl, ?_⟩
    have hws2 := paired_mono (fun _ _ => PcAt.same s2) hws
    have hDd2 := s2 _ _ hDd
    obtain ⟨_, _, _, hsz, _⟩ := hlp
    cases e : lp.filter (fun c => c.cov t) with
    | nil =>
      rw [e] at hws2
      cases hws2
      refine ite2 (fun cc => by cases cc) (fun _ => ?_)
      refine k none _ (s1.trans s2) (lowp.no t fun c hc => ?_) (fun m e => by cases e)
      have := List.filter_eq_nil_iff.mp e c hc
      simpa using this
    | cons c r =>
      rw [e] at hws2
      have hc := List.mem_filter.mp (show c ∈ lp.filter (fun c => c.cov t) by rw [e]; exact List.mem_cons_self)
      match ws, hws2, hDd2 with
      | v :: W, .cons hv _, hDd2 =>
        refine ite2 (fun _ => ?_) (fun cc => absurd rfl cc)
        obtain ⟨q, dq, ev, hq⟩ := id hv
        subst ev
        refine ⟨_, rfl, Dd, _, 0, _, rfl, rfl, SqL.of hDd2, atI_nat (j := 0) rfl, q, dq, _, rfl, hq, pcF_no_bound_at .., _, rfl, .ref q, c, t, B + 2, rfl, hv, hsz c hc.1, ht, by omega, ?_⟩
        exact k (some (c.bd t)) _ (s1.trans s2) (lowp.hit t c hc.1 hc.2) fun m e => by
          cases e
          exact (bd_sz (hsz c hc.1) ht (by omega)).mono (by omega)
/-! ### count_records, count_range, is_between -/
def cRecs (t n : Int) : List Rec := [⟨true, t, n⟩, ⟨false, t, n⟩]
def spCRecs : Sp := fun vs H Q _ => ∃ t n : Int, vs = [.int t, .int n] ∧ ∀ p H' ws, Same H H' → H p = none → H' p = some (.lst ws) → RecsV H' ws (cRecs t n) → Q (.ref p) H'
theorem sc43 : FnScope ["time", "count"] ["time", "count"] (defScope (top 43)) := ⟨rfl, rfl, rfl, by decide +kernel, rfl, by decide +kernel, by decide +kernel⟩
theorem can_count_records {f : Addr} {fd : FuncData} (D : Df K mg "count_records" (top 43) ["time", "count"] f fd) (C1 : Can P w K mg base "need_integer" 2 ["value"] spNeedInt) : Can P w K mg base "count_records" 3 ["time", "count"] spCRecs := by
  refine D.can (D.fn.ok sc43 (fun vs H Q E h => ?_) (fun cdv A outer s H vs Q E hr h => ?_))
  · obtain ⟨t, n, rfl, _⟩ := h
    rfl
  · obtain ⟨t, n, rfl, k⟩ := h
    refine ⟨_, pss_cons (ps_expr (pe_can C1 hr (pa_cons (pv 0) pa_nil))) (pss_cons (ps_expr (pe_can C1 hr (pa_cons (pv 1) pa_nil)))
      (pss_one (ps_ret (pe_lst (pa_cons (pe_tup (pa_cons pe_str (pa_cons (pv 0) (pa_cons (pv 1) pa_nil)))) (pa_cons (pe_tup (pa_cons pe_str (pa_cons (pv 0) (pa_cons (pv 1) pa_nil)))) pa_nil)))))), ?_⟩
    refine ⟨_, rfl, t, rfl, _, rfl, n, rfl, _, rfl, _, rfl, (by show 3 ≤ sizeLine; decide), fun a ha => ⟨_, rfl, _, rfl, (by show 3 ≤ sizeLine; decide), fun b hb => ⟨(by show 2 ≤ sizeLine; decide), fun p hp => ?_⟩⟩⟩
    have s1 := Same.new (o := .tup (recL ⟨true, t, n⟩)) ha
    have s2 := Same.new (o := .tup (recL ⟨false, t, n⟩)) hb
    have s3 := Same.new (o := .lst [.ref a, .ref b]) hp
    exact k p _ _ (s1.trans (s2.trans s3)) ((s1.trans s2).free hp) upd_same (.cons ⟨a, rfl, s3 _ _ (s2 _ _ upd_same)⟩ (.cons ⟨b, rfl, s3 _ _ upd_same⟩ .nil))
def spRange : Sp := fun vs H Q _ => ∃ (a : Addr) (t : Int) (rs : List Rec) (B : Nat), vs = [.ref a, .int t] ∧ RecsAt H a rs ∧ rs.length ≤ 200 ∧ B ≤ 4000 ∧ (∀ r ∈ rs, RecSz B r) ∧ Nb (B + 2) t ∧ (∃ p q c, Fit p q c rs) ∧
  ∀ v l g H', Same H H' → TupV H' v [optI l, optI g] → IsLow rs t l → IsHigh rs t g → (∀ m, l = some m → Nb (2 * B + 7) m) → (∀ m, g = some m → Nb (2 * B + 7) m) → Q v H'
theorem sc45 : FnScope ["records", "time", "envelope"] ["records", "time"] (defScope (top 45)) := ⟨rfl, rfl, rfl, by decide +kernel, rfl, by decide +kernel, by decide +kernel⟩
theorem can_count_range {C CP : Addr} {f : Addr} {fd : FuncData} (T : EvC K C) (D : Df K mg "count_range" (top 45) ["records", "time"] f fd) (C1 : Can P w K mg base "need_records" 3 ["value"] spNeedRecs) (C2 : Can P w K mg base "need_integer" 2 ["value"] spNeedInt)
    (M0 : CanMk P w K mg base "Envelope" C 6 ["self", "records"] (spEvInit C CP)) (M1 : CanM P w K mg base C "least" 2 ["self", "time"] (spAt C CP true)) (M2 : CanM P w K mg base C "greatest" 2 ["self", "time"] (spAt C CP false)) :
    Can P w K mg base "count_range" 8 ["records", "time"] spRange := by
  refine D.can (D.fn.ok sc45 (fun vs H Q E h => ?_) (fun cdv A outer s H vs Q E hr h => ?_))
  · obtain ⟨a, t, rs, B, rfl, _⟩ := h
    rfl
  · obtain ⟨a, t, rs, B, rfl, hR, hl, hB, hsz, ht, hF, k⟩ := h
    have hr3 : Room 3 _ := hr.mono (by decide)
    have hr2 : Room 2 _ := hr.mono (by decide)
    refine ⟨_, pss_cons (ps_expr (pe_can C1 hr3 (pa_cons (pv 0) pa_nil))) (pss_cons (ps_expr (pe_can C2 hr2 (pa_cons (pv 1) pa_nil)))
      (pss_cons (ps_set (i := 2) sc45.nd rfl (Or.inl rfl) (pe_canMk M0 hr (pa_cons (pv 0) pa_nil)))
      (pss_one (ps_ret (pe_tup (pa_cons (pe_canM M1 T.cl hr2 (pv 2) (pa_cons (pv 1) pa_nil)) (pa_cons (pe_canM M2 T.cl hr2 (pv 2) (pa_cons (pv 1) pa_nil)) pa_nil))))))), ?_⟩
    refine ⟨_, rfl, a, rs, rfl, hR, hl, fun H1 s1 => ⟨_, rfl, t, rfl, _, rfl, fun x dx nx ndx nex => ?_⟩⟩
    have s2 := made_same (C := C) nx ndx (But.refl _ _)
    refine ⟨x, dx, a, rs, B, rfl, upd_same, (hR.same s1).same s2, by omega, hB, hsz, hF, fun H2 hb2 hE => ⟨rfl, ?_⟩⟩
    have s2 := made_same nx ndx hb2
    obtain ⟨dy, vl, vh, al, au, lp, up, hx, g1, g2, g3, g4⟩ := id hE
    refine ⟨_, rfl, x, dy, _, rfl, hx, evF_no_least .., _, rfl, x, t, rs, B, rfl, hE, hB, ht, fun l H3 s3 hlow nl => ?_⟩
    refine ⟨_, rfl, x, dy, _, rfl, s3 _ _ hx, evF_no_greatest .., _, rfl, x, t, rs, B, rfl, hE.same s3, hB, ht, fun g H4 s4 hhigh ng => ?_⟩
    refine ⟨(by show 2 ≤ sizeLine; decide), fun p hp => ?_⟩
    exact k (.ref p) l g _ (s1.trans (s2.trans (s3.trans (s4.trans (Same.new hp))))) ⟨p, rfl, upd_same⟩ hlow hhigh nl ng
def inL (n : Int) : Option Int → Bool
  | none => true
  | some b => decide (b ≤ n)
def inG (n : Int) : Option Int → Bool
  | none => true
  | some b => decide (n ≤ b)
theorem inB_eq (l g : Option Int) (n : Int) : inB l n g = (inL n l && inG n g) := by cases l <;> cases g <;> rfl
def spBetw : Sp := fun vs H Q _ => ∃ (l g : Option Int) (n : Int), vs = [optI l, .int n, optI g] ∧ Q (.bl (inB l n g)) H
theorem sc46 : FnScope ["least", "number", "greatest"] ["least", "number", "greatest"] (defScope (top 46)) := ⟨rfl, rfl, rfl, by decide +kernel, rfl, by decide +kernel, by decide +kernel⟩
theorem can_is_between {f : Addr} {fd : FuncData} (D : Df K mg "is_between" (top 46) ["least", "number", "greatest"] f fd) : Can P w K mg base "is_between" 1 ["least", "number", "greatest"] spBetw := by
  refine D.can (D.fn.ok sc46 (fun vs H Q E h => ?_) (fun cdv A outer s H vs Q E hr h => ?_))
  · obtain ⟨l, g, n, rfl, _⟩ := h
    rfl
  · obtain ⟨l, g, n, rfl, k⟩ := h
    refine ⟨_, pss_one (ps_ret (pe_and (pe_or (pe_cmpR op_isN (pv 0) pe_non (nomark _)) (pe_one (pe_cmpR op_le (pv 0) (pv 1) (nomark _))))
      (pe_one (pe_or (pe_cmpR op_isN (pv 2) pe_non (nomark _)) (pe_one (pe_cmpR op_le (pv 1) (pv 2) (nomark _))))))), ?_⟩
    have second : Q (.bl (inG n g)) H →
        tOrV (tOp (fun x y H Q => y = .non ∧ Q (.bl (decide (x = .non))) H) (tVar 2) (tC .non)) (tOp (rI0 fun i j => .bl (decide (i ≤ j))) (tVar 1) (tVar 2)) [some (optI l), some (.int n), some (optI g)] H Q := by
      intro kk
      cases g with
      | none => exact ⟨_, rfl, rfl, true, rfl, iteT kk⟩
      | some b => exact ⟨_, rfl, rfl, false, rfl, iteF ⟨_, rfl, _, rfl, _, _, rfl, rfl, kk⟩⟩
    rw [inB_eq] at k
    cases l with
    | none => exact ⟨_, rfl, rfl, true, rfl, iteT ⟨true, rfl, iteT (second k)⟩⟩
    | some b =>
      refine ⟨_, rfl, rfl, false, rfl, iteF ⟨_, rfl, _, rfl, _, _, rfl, rfl, ?_⟩⟩
      have k : Q (.bl (decide (b ≤ n) && inG n g)) H := k
      by_cases c : b ≤ n
      · rw [decide_eq_true c, Bool.true_and] at k
        exact ⟨true, congrArg V.bl (decide_eq_true c), iteT (second k)⟩
      · rw [decide_eq_false c, Bool.false_and] at k
        refine ⟨false, congrArg V.bl (decide_eq_false c), iteF k⟩
end
end K67

set_option Elab.async false
set_option linter.all false
set_option maxRecDepth 100000
set_option maxHeartbeats 4000000
namespace K67
open PySem PySem.Spec PyProof.Rows L2
/-! ### NotPossible -/
structure NpTxt (K : PySem.W.Frag) (mg : Str → Option Value) (C : Addr) : Prop where
  gC : mg "NotPossible" = some (.ref C)
  ox : OexC K C
  xf : XfC K C
  noV : PySem.W.findIn K (.ref C) "value" = some none
  ini : ∃ fI, PySem.W.findIn K (.ref C) "__init__" = some (some (.ref fI)) ∧ PySem.W.typeIn K (.ref fI) = some (.type "function") ∧ ∃ fd, Fun K "__init__" "NotPossible.__init__" (inClass (top 5) 0) fI fd ∧ Binds K fd ["self", "value"] []
  base : ∃ CL mc, mg "LeapfitError" = some (.ref CL) ∧ PySem.W.readsIn K CL mc = true ∧ PySem.W.specialIn K (.ref CL) "__getattribute__" = some (some (.builtin "type.__getattribute__")) ∧ PySem.W.findCls K (.ref CL) mc "__init__" = some (.val (.builtin "ValueError.__init__"))
  hcl : (PySem.W.clsIn K C).isSome = true
  hca : PySem.W.findIn K (.ref C) "__class__" = some (some (.builtin "object.__class__"))
  hn : PySem.W.specialIn K (.builtin "object.__class__") "__get__" = some (some (.builtin "getset_descriptor.__get__"))
  htk : PySem.W.takesIn K (.builtin "object.__class__") = some true
  hm : PySem.W.mroIn K C (.type "object") = some true
  kit : PySem.W.kitOne K (.ref C) (.type "ValueError") = some true
  exm : PySem.W.exmOne K (.ref C) (.ref C) = some true
section
variable {P : Program} {w : World} {K : PySem.W.Frag} {mg : Str → Option Value} {base : Heap}
def spNpI (C : Addr) : Sp := fun vs H Q _ => ∃ (a : Addr) (n : Int), vs = [.ref a, .int n] ∧ H a = some (exo a C none) ∧ ∀ dx, H dx = none → dx ≠ a → Q .non (upd (upd H dx (exd dx [("value", .int n)])) a (exo a C (some dx)))
theorem scNp : FnScope ["self", "value"] ["self", "value"] (defScope (inClass (top 5) 0)) := ⟨rfl, rfl, rfl, by decide +kernel, rfl, by decide +kernel, by decide +kernel⟩
theorem ok_np {C fI : Addr} {fd : FuncData} (N : NpTxt K mg C) (F : Fun K "__init__" "NotPossible.__init__" (inClass (top 5) 0) fI fd) : FnOk P w K mg base CX0 1 fI fd ["self", "value"] (spNpI C) := by
  refine F.ok scNp (fun vs H Q E h => ?_) (fun cdv A outer s H vs Q E hr h => ?_)
  · obtain ⟨a, n, rfl, _⟩ := h
    rfl
  · obtain ⟨a, n, rfl, ha, k⟩ := h
    obtain ⟨CL, mc, g1, g2, g3, g4⟩ := N.base
    refine ⟨_, pss_cons (ps_expr (pe_clsinit rfl g1 g2 g3 g4 (pa_cons (pv 0) (pa_cons pe_str pa_nil)))) (pss_one (ps_ost (pv 0) (pv 1))), ?_⟩
    exact ⟨_, rfl, a, C, [.str "no rule that fits has this count"], rfl, (by show 1 ≤ 1000; decide), N.ox, ha, _, rfl, _, rfl, a, C, rfl, N.ox, N.noV, .inl ⟨ha, fun dx h1 h2 => k dx h1 h2⟩⟩
/-! ### witness -/
theorem fit_app {p q c t n : Int} {rs : List Rec} : Fit p q c (rs ++ cRecs t n) ↔ Fit p q c rs ∧ cnt p q c t = n := by
  constructor
  · intro F
    refine ⟨⟨F.hp, F.hq, fun r hr => F.all r (List.mem_append_left _ hr)⟩, ?_⟩
    have h1 := (fits_lo (r := ⟨true, t, n⟩) rfl).mp (F.all ⟨true, t, n⟩ (List.mem_append_right _ (by simp [cRecs])))
    have h2 := (fits_hi (r := ⟨false, t, n⟩) rfl).mp (F.all ⟨false, t, n⟩ (List.mem_append_right _ (by simp [cRecs])))
    exact cnt_eq F.hq h1 h2
  · rintro ⟨F, e⟩
    refine ⟨F.hp, F.hq, fun r hr => ?_⟩
    rcases List.mem_append.mp hr with h | h
    · exact F.all r h
    · rw [fits_cnt F.hq]
      unfold cRecs at h
      rcases List.mem_cons.mp h with z | z
      · rw [z, if_pos rfl]
        exact Int.le_of_eq e.symm
      · rw [List.mem_singleton.mp z, if_neg (by exact Bool.false_ne_true)]
        exact Int.le_of_eq e
def spWit (C : Addr) : Sp := fun vs H Q E => ∃ (a : Addr) (t n : Int) (rs : List Rec) (B : Nat), vs = [.ref a, .int t, .int n] ∧ RecsAt H a rs ∧ rs.length ≤ 200 ∧ B ≤ 1000 ∧ (∀ r ∈ rs, RecSz B r) ∧ Nb B t ∧ Nb B n ∧ (∃ p q c, Fit p q c rs) ∧
  ((∃ p q c, Fit p q c rs ∧ cnt p q c t = n) → ∀ v p q c H', Same H H' → TupV H' v (ruL p q c) → Fit p q c rs → cnt p q c t = n → Int.gcd p q = 1 → Nb 4000 p → Nb 4000 q → Nb 8000 c → Q v H') ∧
  ((∀ p q c, Fit p q c rs → cnt p q c t ≠ n) → ∀ H' d, Same H H' → H' d = some (.xd [("value", .int n)]) → E (.ref C) (some d) H')
theorem sc47 : FnScope ["records", "time", "count", "least", "greatest"] ["records", "time", "count"] (defScope (top 47)) := ⟨rfl, rfl, rfl, by decide +kernel, rfl, by decide +kernel, by decide +kernel⟩
/-- as Can, for a def that may raise -/
def CanX (P : Program) (w : World) (K : PySem.W.Frag) (mg : Str → Option Value) (base : Heap) (x : Str) (k : Nat) (ps : List Str) (sp : Sp) : Prop :=
  ∃ (f : Addr) (fd : FuncData), mg x = some (.ref f) ∧ PySem.W.keepIn K (.ref f) = true ∧ Binds K fd ps [] ∧ FnOk P w K mg base (L2.CX P w) k f fd ps sp
theorem can_witness (T : Txt K mg) {C f : Addr} {fd : FuncData} (N : NpTxt K mg C) (D : Df K mg "witness" (top 47) ["records", "time", "count"] f fd) (C1 : Can P w K mg base "need_records" 3 ["value"] spNeedRecs) (C2 : Can P w K mg base "need_integer" 2 ["value"] spNeedInt)
    (C3 : Can P w K mg base "count_range" 8 ["records", "time"] spRange) (C4 : Can P w K mg base "is_between" 1 ["least", "number", "greatest"] spBetw) (C5 : Can P w K mg base "some_rule" 6 ["records"] spSome) (C6 : Can P w K mg base "count_records" 3 ["time", "count"] spCRecs) :
    CanX P w K mg base "witness" 9 ["records", "time", "count"] (spWit C) := by
  obtain ⟨fI, i1, i2, fdI, FI, bI⟩ := N.ini
  have F1 : FnOk P w K mg base CX0 1 fI fdI ["self", "value"] (spNpI C) := ok_np N FI
  refine ⟨f, fd, D.mg, D.fn.kp, D.bd, D.fn.okX sc47 (fun vs H Q E h => ?_) (fun cdv A outer s H vs Q E hr h => ?_)⟩
  · obtain ⟨a, t, n, rs, B, rfl, _⟩ := h
    rfl
  · obtain ⟨a, t, n, rs, B, rfl, hR, hl, hB, hsz, ht, hn, hF, k1, k2⟩ := h
    have hr1 : Room 1 _ := hr.mono (by decide)
    have hr2 : Room 2 _ := hr.mono (by decide)
    have hr3 : Room 3 _ := hr.mono (by decide)
    have hr6 : Room 6 _ := hr.mono (by decide)
    refine ⟨_, pss_cons (ps_expr (pe_can C1 hr3 (pa_cons (pv 0) pa_nil))) (pss_cons (ps_expr (pe_can C2 hr2 (pa_cons (pv 1) pa_nil))) (pss_cons (ps_expr (pe_can C2 hr2 (pa_cons (pv 2) pa_nil)))
      (pss_cons (ps_asg (pe_can C3 hr (pa_cons (pv 0) (pa_cons (pv 1) pa_nil))) (pg_tup rfl (pgs_cons (pg_name (i := 3) sc47.nd rfl (Or.inl rfl)) (pgs_cons (pg_name (i := 4) sc47.nd rfl (Or.inl rfl)) pgs_nil))))
      (pss_cons (ps_if (pt_not (pt_val (pe_can C4 hr1 (pa_cons (pv 3) (pa_cons (pv 2) (pa_cons (pv 4) pa_nil))))))
        (pss_one (ps_raise rfl (takes_of rfl rfl rfl rfl) (pmk_oex (C := C) (sp := spNpI C) N.ox i1 i2 F1 hr2 bI .nil pass0 rfl N.gC (pa_cons (pv 2) pa_nil)))) pss_nil)
      (pss_one (ps_ret (pe_can C5 hr6 (pa_cons (pe_op op_cat (pe_callTy call_list_of (by rfl) T.list (by decide +kernel) (pa_cons (pv 0) pa_nil)) (pe_can C6 hr3 (pa_cons (pv 1) (pa_cons (pv 2) pa_nil)))) pa_nil)))))))), ?_⟩
    refine ⟨_, rfl, a, rs, rfl, hR, hl, fun H1 s1 => ⟨_, rfl, t, rfl, _, rfl, n, rfl, ?_⟩⟩
    refine ⟨_, rfl, _, rfl, a, t, rs, B, rfl, hR.same s1, hl, by omega, hsz, ht.mono (by omega), hF, fun v l g H2 s2 ⟨ar, ev, har⟩ hlo hhi _ _ => ?_⟩
    subst ev
    refine ⟨ar, _, rfl, SqT.of har, rfl, _, _, rfl, _, _, rfl, rfl, ?_⟩
    have s02 := s1.trans s2
    refine ⟨_, rfl, _, rfl, _, rfl, l, g, n, rfl, _, rfl, ?_⟩
    have hin := inB_iff hlo hhi n
    cases e : inB l n g with
    | false =>
      refine ⟨_, rfl, (by show 1 ≤ 1000; decide), fun x hx => ⟨x, n, rfl, upd_same, fun dx h1 h2 => ⟨rfl, dx, [("value", .int n)], upd_same, ?_, ?_, ?_⟩⟩⟩
      · rw [upd_ne h2]; exact upd_same
      · rw [upd_ne h2] at h1; exact h1
      · have h1' : H2 dx = none := by rw [upd_ne h2] at h1; exact h1
        refine k2 (fun p q c F z => ?_) _ dx (fun b o eb => ?_) upd_same
        · have := hin.mpr ⟨p, q, c, F, z⟩
          rw [e] at this
          cases this
        · have eb2 := s02 _ _ eb
          have nx := ne_of_none eb2 hx
          have nd := ne_of_none eb2 h1'
          rw [upd_ne nd, del_ne nx, upd_ne nx, upd_ne nd, upd_ne nx]
          exact eb2
    | true =>
      have hex := hin.mp e
      obtain ⟨us, hq, hv⟩ := hR.same s02
      refine ⟨_, rfl, a, us, rfl, hq.sq, fun la hla => ?_⟩
      have s3 := Same.new (o := .lst us) hla
      refine ⟨_, rfl, _, rfl, t, n, rfl, fun lb H4 wb s4 hlb hlb4 hwb => ?_⟩
      have hul := paired_len hv
      have hwl := paired_len hwb
      refine ⟨la, lb, us, wb, rfl, rfl, s4 _ _ upd_same, hlb4, Nat.le_of_lt (small1000 (by simp [cRecs] at hwl; omega)), fun lc hlc => ?_⟩
      have s5 := Same.new (o := .lst (us ++ wb)) hlc
      refine ⟨lc, rs ++ cRecs t n, B, rfl, ⟨us ++ wb, .inl upd_same, paired_append (RecsV.same (s3.trans (s4.trans s5)) hv) (RecsV.same s5 hwb)⟩, ?_, by omega, fun r hr => ?_, ?_, fun v p q c H6 s6 hv6 F hg np nq nc => ?_⟩
      · rw [List.length_append]
        show rs.length + 2 ≤ 300
        omega
      · rcases List.mem_append.mp hr with h | h
        · exact hsz r h
        · unfold cRecs at h
          rcases List.mem_cons.mp h with z | z
          · rw [z]; exact ⟨ht, hn⟩
          · rw [List.mem_singleton.mp z]; exact ⟨ht, hn⟩
      · obtain ⟨p, q, c, F, z⟩ := hex
        exact ⟨p, q, c, fit_app.mpr ⟨F, z⟩⟩
      · obtain ⟨F, z⟩ := fit_app.mp F
        exact k1 hex v p q c H6 (s02.trans (s3.trans (s4.trans (s5.trans s6)))) hv6 F z hg np nq nc
end
theorem pe_canX {X : Cx} {x : Str} {k : Nat} {ps : List Str} {sp : Sp} {e : Expr} {es : List Expr} {t : TA} {p pos : Pos} (C : CanX X.prog X.w X.K X.mg X.base x k ps sp) (hr : Room k X.A) (ha : PA X (e :: es) t) (hg : Gl X x := by rfl)
    (hdb : (x == ("__debug__" : Str)) = false := by decide) (he : starEach (e :: es) X.env = (false, eval e X.env) :: starEach es X.env := by rfl) (hpl : (backTo pos (starEach es X.env)).any (·.1) = false := by rfl) :
    PE X (.Call (.Name x p) (e :: es) [] pos) (tCall sp [] E0 t) := by
  obtain ⟨f, fd, h1, h2, h3, h4⟩ := C
  exact pe_call h4 hr hg h1 h2 h3 .nil passL ha hdb he hpl
theorem CanX.mono {P : Program} {w : World} {K : PySem.W.Frag} {mg : Str → Option Value} {base : Heap} {x : Str} {j k : Nat} {ps : List Str} {sp : Sp} (C : CanX P w K mg base x j ps sp) (h : j ≤ k) : CanX P w K mg base x k ps sp := by
  obtain ⟨f, fd, h1, h2, h3, h4⟩ := C
  exact ⟨f, fd, h1, h2, h3, h4.mono h⟩
end K67

set_option Elab.async false
set_option linter.all false
set_option maxRecDepth 100000
set_option maxHeartbeats 4000000
namespace K67
open PySem PySem.Spec PyProof.Rows L2
theorem gcd_abs2 (a b : Int) : Int.gcd (if a < 0 then -a else a) (if b < 0 then -b else b) = Int.gcd a b := by
  rw [gcd_abs]
  split
  · exact Int.gcd_neg
  · rfl
section
variable {P : Program} {w : World} {K : PySem.W.Frag} {mg : Str → Option Value} {base : Heap}
/-! ### _law_gcd, _law_count_at, _law_fits_all -/
def spLGcd : Sp := fun vs H Q _ => ∃ a b : Int, vs = [.int a, .int b] ∧ Q (.int (Int.gcd a b : Nat)) H
theorem sc54 : FnScope ["_law_one", "_law_two"] ["_law_one", "_law_two"] (defScope (top 54)) := ⟨rfl, rfl, rfl, by decide +kernel, rfl, by decide +kernel, by decide +kernel⟩
theorem can_lgcd (T : Txt K mg) {f : Addr} {fd : FuncData} (D : Df K mg "_law_gcd" (top 54) ["_law_one", "_law_two"] f fd) : Can P w K mg base "_law_gcd" 1 ["_law_one", "_law_two"] spLGcd := by
  refine D.can (D.fn.ok sc54 (fun vs H Q E h => ?_) (fun cdv A outer s H vs Q E hr h => ?_))
  · obtain ⟨a, b, rfl, _⟩ := h
    rfl
  · obtain ⟨a, b, rfl, k⟩ := h
    refine ⟨_, pss_cons (ps_par (i := 0) (j := 1) (by rfl) sc54.nd rfl rfl (by decide) rfl rfl (pa_cons (pe_callB call_abs (by rfl) T.abs (by decide +kernel) (pa_cons (pv 0) pa_nil)) (pa_cons (pe_callB call_abs (by rfl) T.abs (by decide +kernel) (pa_cons (pv 1) pa_nil)) pa_nil)) (by rfl))
      (pss_cons (ps_while PassesOwn.never (pt_cmpR op_gt (pv 1) pe_int (nomark _)) (pss_one (ps_par (i := 0) (j := 1) (by rfl) sc54.nd rfl rfl (by decide) rfl rfl (pa_cons (pv 1) (pa_cons (pe_op op_mod (pv 0) (pv 1)) pa_nil)) (by rfl))))
      (pss_one (ps_ret (pv 0)))), ?_⟩
    refine ⟨_, rfl, a, rfl, _, rfl, b, rfl, _, _, rfl, ?_⟩
    rw [← gcd_abs2] at k
    have pa : 0 ≤ (if a < 0 then -a else a) := by split <;> omega
    have pb : 0 ≤ (if b < 0 then -b else b) := by split <;> omega
    generalize (if a < 0 then -a else a) = a at k pa ⊢
    generalize (if b < 0 then -b else b) = b at k pb ⊢
    refine ⟨fun m σ H' => ∃ x y : Int, σ = [some (.int x), some (.int y)] ∧ H' = H ∧ 0 ≤ x ∧ 0 ≤ y ∧ Int.gcd x y = Int.gcd a b ∧ m = y.toNat, ⟨_, a, b, rfl, rfl, pa, pb, rfl, rfl⟩, ?_⟩
    rintro m σ H' ⟨x, y, rfl, rfl, hx, hy, hg, rfl⟩
    refine ⟨_, rfl, _, _, rfl, rfl, _, rfl, ite2 (fun c => ?_) (fun c => ?_)⟩
    · have c := of_decide_eq_true c
      refine ⟨_, fun σ' H2 h => h, ?_⟩
      refine ⟨_, rfl, _, rfl, _, rfl, _, _, rfl, rfl, c, _, _, rfl, ?_⟩
      have h1 := Int.emod_nonneg x (show y ≠ 0 by omega)
      have h2 := Int.emod_lt_of_pos x c
      exact ⟨_, (by omega : (x % y).toNat < y.toNat), y, x % y, rfl, rfl, hy, h1, by rw [gcd_step c, hg], rfl⟩
    · have c : ¬ 0 < y := fun z => c (decide_eq_true z)
      have e : y = 0 := by omega
      subst e
      refine ⟨_, rfl, ?_⟩
      have e2 : (Int.gcd a b : Int) = x := by
        rw [← hg, Int.gcd_zero_right]
        omega
      rw [← e2]
      exact k
def spCnt : Sp := fun vs H Q _ => ∃ (v : V) (p q c t : Int), vs = [v, .int t] ∧ TupV H v (ruL p q c) ∧ 0 < q ∧ Nb 4000 p ∧ Nb 4000 q ∧ Nb 1000 t ∧ Q (.int (cnt p q c t)) H
theorem sc56 : FnScope ["_law_rule", "_law_t"] ["_law_rule", "_law_t"] (defScope (top 56)) := ⟨rfl, rfl, rfl, by decide +kernel, rfl, by decide +kernel, by decide +kernel⟩
theorem can_count_at {f : Addr} {fd : FuncData} (D : Df K mg "_law_count_at" (top 56) ["_law_rule", "_law_t"] f fd) : Can P w K mg base "_law_count_at" 1 ["_law_rule", "_law_t"] spCnt := by
  refine D.can (D.fn.ok sc56 (fun vs H Q E h => ?_) (fun cdv A outer s H vs Q E hr h => ?_))
  · obtain ⟨v, p, q, c, t, rfl, _⟩ := h
    rfl
  · obtain ⟨v, p, q, c, t, rfl, ⟨a, rfl, ha⟩, hq, np, nq, nt, k⟩ := h
    refine ⟨_, pss_one (ps_ret (pe_op op_fdivW (pe_op op_add (pe_op op_mulW (pe_ix ix_tup (pv 0) pe_int (fun _ _ => rfl)) (pv 1)) (pe_ix ix_tup (pv 0) pe_int (fun _ _ => rfl))) (pe_ix ix_tup (pv 0) pe_int (fun _ _ => rfl)))), ?_⟩
    exact ⟨_, rfl, a, _, 0, _, rfl, rfl, SqT.of ha, rfl, _, rfl, _, _, rfl, rfl, np.cmul nt, _, rfl, a, _, 2, _, rfl, rfl, SqT.of ha, rfl, _, _, rfl, rfl, _, rfl, a, _, 1, _, rfl, rfl, SqT.of ha, rfl, _, _, rfl, rfl, nq.cdiv hq, k⟩
def spFits : Sp := fun vs H Q _ => ∃ (v : V) (a : Addr) (p q c : Int) (rs : List Rec), vs = [v, .ref a] ∧ TupV H v (ruL p q c) ∧ RecsAt H a rs ∧ Fit p q c rs ∧ Int.gcd p q = 1 ∧ Nb 4000 p ∧ Nb 4000 q ∧ (∀ r ∈ rs, RecSz 1000 r) ∧ ∀ H', Same H H' → Q (.bl true) H'
theorem sc60 : FnScope ["_law_rule", "_law_records_here", "_law_kind", "_law_t", "_law_n", "_law_here"] ["_law_rule", "_law_records_here"] (defScope (top 60)) := ⟨rfl, rfl, rfl, by decide +kernel, rfl, by decide +kernel, by decide +kernel⟩
theorem can_fits_all (T : Txt K mg) {f : Addr} {fd : FuncData} (D : Df K mg "_law_fits_all" (top 60) ["_law_rule", "_law_records_here"] f fd) (C1 : Can P w K mg base "_law_gcd" 1 ["_law_one", "_law_two"] spLGcd) (C2 : Can P w K mg base "_law_count_at" 1 ["_law_rule", "_law_t"] spCnt) :
    Can P w K mg base "_law_fits_all" 2 ["_law_rule", "_law_records_here"] spFits := by
  refine D.can (D.fn.ok sc60 (fun vs H Q E h => ?_) (fun cdv A outer s H vs Q E hr h => ?_))
  · obtain ⟨v, a, p, q, c, rs, rfl, _⟩ := h
    rfl
  · obtain ⟨v, a, p, q, c, rs, rfl, ⟨ar, rfl, har⟩, ⟨us, hq, hv⟩, F, hg, np, nq, hsz, k⟩ := h
    refine ⟨_, pss_cons (ps_if (PW.pt (pw_or (pt_not (pt_val (pe_isi T.isinstance (pv 0) (pe_ty (T := "tuple") T.tuple)))) (pw_or (pt_cmpR op_ne (pe_len T.len (pv 0)) pe_int (nomark _)) (pw_or (pt_cmpR op_lt (pe_ix ix_tup (pv 0) pe_int (fun _ _ => rfl)) pe_int (nomark _)) (pw_or1 (pt_cmpR op_lt (pe_ix ix_tup (pv 0) pe_int (fun _ _ => rfl)) pe_int (nomark _))))))) pss_never pss_nil)
      (pss_cons (ps_if (pt_cmpR op_ne (pe_can C1 hr (pa_cons (pe_ix ix_tup (pv 0) pe_int (fun _ _ => rfl)) (pa_cons (pe_ix ix_tup (pv 0) pe_int (fun _ _ => rfl)) pa_nil))) pe_int (nomark _)) pss_never pss_nil)
      (pss_cons (ps_for PassesOwn.never rfl (pi_seq (pv 1)) (pg_tup rfl (pgs_cons (pg_name (i := 2) sc60.nd rfl (Or.inl rfl)) (pgs_cons (pg_name (i := 3) sc60.nd rfl (Or.inl rfl)) (pgs_cons (pg_name (i := 4) sc60.nd rfl (Or.inl rfl)) pgs_nil))))
        (pss_cons (ps_set (i := 5) sc60.nd rfl (Or.inl rfl) (pe_can C2 hr (pa_cons (pv 0) (pa_cons (pv 3) pa_nil))))
        (pss_one (ps_if (PW.pt (pw_or (PW.pt (pw_and (pt_cmpR op_eq (pv 2) pe_str (nomark _)) (pw_and1 (pt_cmpR op_lt (pv 5) (pv 4) (nomark _))))) (pw_or1 (PW.pt (pw_and (pt_cmpR op_eq (pv 2) pe_str (nomark _)) (pw_and1 (pt_cmpR op_gt (pv 5) (pv 4) (nomark _)))))))) pss_never pss_nil))))
      (pss_one (ps_ret pe_bl)))), ?_⟩
    refine ⟨_, rfl, _, _, _, _, true, rfl, .ty _, .base (.tup har), kit_ty (by decide +kernel), true, rfl, ?_⟩
    refine ⟨_, rfl, ar, _, rfl, .inr (SqT.of har), rfl, false, rfl, ?_⟩
    refine ⟨_, rfl, ar, _, 0, _, rfl, rfl, SqT.of har, rfl, _, _, rfl, rfl, false, congrArg V.bl (decide_eq_false (by have := F.hp; omega)), ?_⟩
    refine ⟨_, rfl, ar, _, 1, _, rfl, rfl, SqT.of har, rfl, _, _, rfl, rfl, false, congrArg V.bl (decide_eq_false (by have := F.hq; omega)), ?_⟩
    refine ⟨_, rfl, ar, _, 0, _, rfl, rfl, SqT.of har, rfl, _, rfl, ar, _, 1, _, rfl, rfl, SqT.of har, rfl, p, q, rfl, ?_⟩
    rw [hg]
    refine ⟨rfl, false, rfl, ?_⟩
    refine ⟨_, rfl, a, us, rfl, hq.sq, fun J W => for_it W (fun i σ H' => Same H H' ∧ ∃ s2 s3 s4 s5, σ = [some (.ref ar), some (.ref a), s2, s3, s4, s5]) ⟨Same.refl _, none, none, none, none, rfl⟩ (fun _ _ _ _ h => h.1) ?_ ?_⟩
    · rintro i x σ H2 H1 hi ⟨sm, s2, s3, s4, s5, rfl⟩ ⟨rfl, hx⟩
      obtain ⟨r, hr', ⟨br, rfl, hbr⟩⟩ := paired_at hv hx
      have hm := List.mem_of_getElem? hr'
      have hfit := (fits_cnt F.hq).mp (F.all r hm)
      have zt := (hsz r hm).1
      obtain ⟨lo, t, n⟩ := r
      refine ⟨br, _, rfl, SqT.of (sm _ _ hbr), rfl, _, _, rfl, _, _, rfl, _, _, rfl, rfl, ?_⟩
      refine ⟨_, rfl, _, rfl, _, p, q, c, t, rfl, ⟨ar, rfl, sm _ _ har⟩, F.hq, np, nq, zt, ?_⟩
      have nx : ∀ s2 s3 s4 s5, Same H H1 ∧ ∃ t2 t3 t4 t5, [some (V.ref ar), some (.ref a), s2, s3, s4, s5] = [some (V.ref ar), some (.ref a), t2, t3, t4, t5] := fun s2 s3 s4 s5 => ⟨sm, _, _, _, _, rfl⟩
      cases lo with
      | true =>
        have h1 : n ≤ cnt p q c t := hfit
        refine ⟨_, rfl, rfl, true, rfl, _, rfl, _, rfl, _, _, rfl, rfl, false, congrArg V.bl (decide_eq_false (Int.not_lt.mpr h1)), ?_⟩
        exact ⟨_, rfl, rfl, false, rfl, nx _ _ _ _⟩
      | false =>
        have h1 : cnt p q c t ≤ n := hfit
        refine ⟨_, rfl, rfl, false, rfl, ?_⟩
        refine ⟨_, rfl, rfl, true, rfl, _, rfl, _, rfl, _, _, rfl, rfl, false, congrArg V.bl (decide_eq_false (Int.not_lt.mpr h1)), nx _ _ _ _⟩
    · rintro σ H' ⟨sm, s2, s3, s4, s5, rfl⟩
      exact k H' sm
/-! ### _law_not_possible, _law_is_witness -/
def spNotP : Sp := fun vs H Q _ => ∃ (a : Addr) (t n : Int) (rs : List Rec) (B : Nat), vs = [.ref a, .int t, .int n] ∧ RecsAt H a rs ∧ rs.length ≤ 200 ∧ B ≤ 1000 ∧ (∀ r ∈ rs, RecSz B r) ∧ Nb B t ∧ Nb B n ∧ (∃ p q c, Fit p q c rs) ∧
  (∀ p q c, Fit p q c rs → cnt p q c t ≠ n) ∧ ∀ H', Same H H' → Q (.bl true) H'
def spIsW : Sp := fun vs H Q _ => ∃ (a : Addr) (t n : Int) (rs : List Rec) (B : Nat), vs = [.ref a, .int t, .int n] ∧ RecsAt H a rs ∧ rs.length ≤ 200 ∧ B ≤ 1000 ∧ (∀ r ∈ rs, RecSz B r) ∧ Nb B t ∧ Nb B n ∧
  (∃ p q c, Fit p q c rs ∧ cnt p q c t = n) ∧ ∀ H', Same H H' → Q (.bl true) H'
theorem sc61 : FnScope ["_law_records_here", "_law_t", "_law_n", "e"] ["_law_records_here", "_law_t", "_law_n"] (defScope (top 61)) := ⟨rfl, rfl, rfl, by decide +kernel, rfl, by decide +kernel, by decide +kernel⟩
theorem sc62 : FnScope ["_law_records_here", "_law_t", "_law_n", "_law_rule"] ["_law_records_here", "_law_t", "_law_n"] (defScope (top 62)) := ⟨rfl, rfl, rfl, by decide +kernel, rfl, by decide +kernel, by decide +kernel⟩
theorem can_is_witness {C f : Addr} {fd : FuncData} (D : Df K mg "_law_is_witness" (top 62) ["_law_records_here", "_law_t", "_law_n"] f fd) (C1 : CanX P w K mg base "witness" 9 ["records", "time", "count"] (spWit C)) (C2 : Can P w K mg base "_law_fits_all" 2 ["_law_rule", "_law_records_here"] spFits)
    (C3 : Can P w K mg base "_law_count_at" 1 ["_law_rule", "_law_t"] spCnt) : Can P w K mg base "_law_is_witness" 10 ["_law_records_here", "_law_t", "_law_n"] spIsW := by
  refine D.can (D.fn.ok sc62 (fun vs H Q E h => ?_) (fun cdv A outer s H vs Q E hr h => ?_))
  · obtain ⟨a, t, n, rs, B, rfl, _⟩ := h
    rfl
  · obtain ⟨a, t, n, rs, B, rfl, hR, hl, hB, hsz, ht, hn, hex, k⟩ := h
    have hr1 : Room 1 _ := hr.mono (by decide)
    have hr2 : Room 2 _ := hr.mono (by decide)
    refine ⟨_, pss_cons (ps_set (i := 3) sc62.nd rfl (Or.inl rfl) (pe_canX C1 hr (pa_cons (pv 0) (pa_cons (pv 1) (pa_cons (pv 2) pa_nil)))))
      (pss_one (ps_ret (pe_and (pe_can C2 hr2 (pa_cons (pv 3) (pa_cons (pv 0) pa_nil))) (pe_one (pe_cmpR op_eq (pe_can C3 hr1 (pa_cons (pv 3) (pa_cons (pv 1) pa_nil))) (pv 2) (nomark _)))))), ?_⟩
    have hF : ∃ p q c, Fit p q c rs := by
      obtain ⟨p, q, c, F, _⟩ := hex
      exact ⟨p, q, c, F⟩
    refine ⟨_, rfl, _, rfl, _, rfl, a, t, n, rs, B, rfl, hR, hl, hB, hsz, ht, hn, hF, fun _ v p q c H1 s1 hv F hc hg np nq nc => ?_, fun hno _ _ _ _ => ?_⟩
    · refine ⟨_, rfl, _, rfl, v, a, p, q, c, rs, rfl, hv, hR.same s1, F, hg, np, nq, fun r hr => ⟨(hsz r hr).1.mono hB, (hsz r hr).2.mono hB⟩, fun H2 s2 => ⟨true, rfl, iteT ?_⟩⟩
      refine ⟨_, rfl, _, rfl, v, p, q, c, t, rfl, TupV.same s2 hv, F.hq, np, nq, ht.mono hB, _, rfl, ?_⟩
      rw [hc]
      have := k H2 (s1.trans s2)
      rw [← show decide (V.int n = V.int n) = true from decide_eq_true rfl] at this
      exact ⟨rfl, this⟩
    · obtain ⟨p, q, c, F, z⟩ := hex
      exact hno p q c F z
theorem can_not_possible (T : Txt K mg) {C f : Addr} {fd : FuncData} (N : NpTxt K mg C) (D : Df K mg "_law_not_possible" (top 61) ["_law_records_here", "_law_t", "_law_n"] f fd) (C1 : CanX P w K mg base "witness" 9 ["records", "time", "count"] (spWit C)) :
    Can P w K mg base "_law_not_possible" 10 ["_law_records_here", "_law_t", "_law_n"] spNotP := by
  obtain ⟨fw, fdw, w1, w2, w3, w4⟩ := C1
  refine D.can (D.fn.ok sc61 (fun vs H Q E h => ?_) (fun cdv A outer s H vs Q E hr h => ?_))
  · obtain ⟨a, t, n, rs, B, rfl, _⟩ := h
    rfl
  · obtain ⟨a, t, n, rs, B, rfl, hR, hl, hB, hsz, ht, hn, hF, hno, k⟩ := h
    refine ⟨_, pss_cons (ps_try_as (i := 3) (tb := fun W => tDrop (tCallS (spWit C) (WE W) (tCons (tVar 0) (tCons (tVar 1) (tCons (tVar 2) tNil)))))
          (ts := fun a cls d => tRet (tAndV (tCB (rIsX K C a cls d) (tCons (tVar 3) (tCons (tC (.ty "ValueError")) tNil))) (tOp rEq (tXf a cls d C "value" (tVar 3)) (tVar 2)))) (Wout := fun _ _ _ _ => False) rfl rfl sc61.nd rfl rfl ⟨rfl, by decide, Or.inl N.gC⟩ takes0
          (fun W pn xe tk _ => pss_one (ps_expr (by exact (pe_callS w4 hr rfl w1 w2 w3 (fun σ => passAt tk σ) (by exact (pa_cons (pv 0) (pa_cons (pv 1) (pa_cons (pv 2) pa_nil))))))))
          (fun a oe cls d pn hz hf => pss_one (ps_ret (by exact (pe_and (pe_callB (call_isX N.hcl N.xf.ga N.xf.gg N.xf.exC N.hca N.hn N.htk N.hm hz hf) rfl T.isinstance (by decide +kernel) (pa_cons (pv 3) (pa_cons (pe_ty (T := "ValueError") T.verr) pa_nil)))
            (pe_one (pe_cmpR op_eq (pe_xf N.xf N.noV hz hf (pv 3)) (pv 2) (nomark _))))))))
      (pss_one (ps_ret pe_bl)), ?_⟩
    refine ⟨_, rfl, _, rfl, _, rfl, a, t, n, rs, B, rfl, hR, hl, hB, hsz, ht, hn, hF, fun ⟨p, q, c, F, z⟩ => absurd z (hno p q c F), fun _ H1 d s1 hd => ⟨true, N.exm, fun _ a0 ha0 => ?_, fun q => Bool.noConfusion q⟩⟩
    refine ⟨_, rfl, "ValueError", true, d, _, rfl, rfl, rfl, hd, N.kit, true, rfl, iteT ?_⟩
    refine ⟨_, rfl, rfl, rfl, d, _, .int n, rfl, hd, (by simp [List.lookup]), _, rfl, ?_⟩
    have := k H1 s1
    rw [← show decide (V.int n = V.int n) = true from decide_eq_true rfl] at this
    exact ⟨rfl, this⟩
/-! ### _law_end_right -/
theorem Nb.bnd {n : Nat} {i : Int} (h : Nb n i) : -((2 ^ n : Nat) : Int) < i ∧ i < ((2 ^ n : Nat) : Int) := by
  unfold Nb at h
  omega
theorem t50 : Nb 167 ((10 : Int) ^ (50 : Int).toNat) := by unfold Nb; decide +kernel
theorem t40 : Nb 133 ((10 : Int) ^ (40 : Int).toNat) := by unfold Nb; decide +kernel
theorem t40p : (0 : Int) < (10 : Int) ^ (40 : Int).toNat := by decide +kernel
theorem t150 : ((2 ^ 450 : Nat) : Int) ≤ (10 : Int) ^ (50 : Int).toNat * (10 : Int) ^ (50 : Int).toNat * (10 : Int) ^ (50 : Int).toNat := by decide +kernel
theorem cpow10 {j : Int} (h : 0 ≤ j) (h2 : j ≤ 1000) : CPow 10 j := ⟨h, by omega, by decide⟩
theorem nb_sg {sg : Int} (h : sg = -1 ∨ sg = 1) : Nb 1 sg := by rcases h with rfl | rfl <;> (unfold Nb; decide)
def spEnd : Sp := fun vs H Q _ => ∃ (a : Addr) (t : Int) (o : Option Int) (sg : Int) (rs : List Rec), vs = [.ref a, .int t, optI o, .int sg] ∧ RecsAt H a rs ∧ rs.length ≤ 190 ∧ (∀ r ∈ rs, RecSz 300 r) ∧ Nb 300 t ∧
  ((sg = -1 ∧ IsLow rs t o) ∨ (sg = 1 ∧ IsHigh rs t o)) ∧ (∃ p q c, Fit p q c rs ∧ Nb 450 (cnt p q c t)) ∧ (∀ m, o = some m → Nb 610 m) ∧ ∀ H', Same H H' → Q (.bl true) H'
theorem sc63 : FnScope ["_law_records_here", "_law_t", "_law_bound", "_law_sign", "_law_beyond"] ["_law_records_here", "_law_t", "_law_bound", "_law_sign"] (defScope (top 63)) := ⟨rfl, rfl, rfl, by decide +kernel, rfl, by decide +kernel, by decide +kernel⟩
theorem can_end_right (T : Txt K mg) {f : Addr} {fd : FuncData} (D : Df K mg "_law_end_right" (top 63) ["_law_records_here", "_law_t", "_law_bound", "_law_sign"] f fd) (C1 : Can P w K mg base "_law_is_witness" 10 ["_law_records_here", "_law_t", "_law_n"] spIsW)
    (C2 : Can P w K mg base "_law_not_possible" 10 ["_law_records_here", "_law_t", "_law_n"] spNotP) (C3 : Can P w K mg base "rates" 6 ["records"] spRates) : Can P w K mg base "_law_end_right" 11 ["_law_records_here", "_law_t", "_law_bound", "_law_sign"] spEnd := by
  refine D.can (D.fn.ok sc63 (fun vs H Q E h => ?_) (fun cdv A outer s H vs Q E hr h => ?_))
  · obtain ⟨a, t, o, sg, rs, rfl, _⟩ := h
    rfl
  · obtain ⟨a, t, o, sg, rs, rfl, hR, hl, hsz, ht, hsg, ⟨p0, q0, c0, F0, n0⟩, no, k⟩ := h
    have hr6 : Room 6 _ := hr.mono (by decide)
    refine ⟨_, pss_cons (ps_if (pt_cmpR op_isN (pv 2) pe_non (nomark _)) (pss_one (ps_ret (pe_can C1 hr (pa_cons (pv 0) (pa_cons (pv 1) (pa_cons (pe_op op_mulW (pe_op op_mulW (pe_op op_mulW (pv 3) (pe_op op_pow pe_int pe_int)) (pe_op op_pow pe_int pe_int)) (pe_op op_pow pe_int pe_int)) pa_nil)))))) pss_nil)
      (pss_cons (ps_set (i := 4) sc63.nd rfl (Or.inl rfl) (pe_tup (pa_cons (pe_ifExp (pt_cmpR op_eq (pv 3) pe_int (nomark _)) pe_str pe_str) (pa_cons (pv 1) (pa_cons (pe_op op_add (pv 2) (pv 3)) pa_nil)))))
      (pss_cons (ps_if (PW.pt (pw_or (pt_not (pt_val (pe_can C1 hr (pa_cons (pv 0) (pa_cons (pv 1) (pa_cons (pv 2) pa_nil)))))) (pw_or1 (pt_not (pt_val (pe_can C2 hr (pa_cons (pv 0) (pa_cons (pv 1) (pa_cons (pe_op op_add (pv 2) (pv 3)) pa_nil))))))))) pss_never pss_nil)
      (pss_one (ps_ret (pe_and (pe_cmpR op_isN (pe_can C3 hr6 (pa_cons (pe_op op_cat (pe_callTy call_list_of (by rfl) T.list (by decide +kernel) (pa_cons (pv 0) pa_nil)) (pe_lst (pa_cons (pv 4) pa_nil))) pa_nil)) pe_non (nomark _))
        (pe_one (pe_can C2 hr (pa_cons (pv 0) (pa_cons (pv 1) (pa_cons (pe_op op_add (pv 2) (pe_op op_mulW (pv 3) (pe_op op_pow pe_int pe_int))) pa_nil)))))))))), ?_⟩
    have hsz' : ∀ r ∈ rs, RecSz 700 r := fun r hr => ⟨(hsz r hr).1.mono (by decide), (hsz r hr).2.mono (by decide)⟩
    have ht' : Nb 700 t := ht.mono (by decide)
    have hF : ∃ p q c, Fit p q c rs := ⟨p0, q0, c0, F0⟩
    have b0 := n0.bnd
    have b1 := t150
    cases o with
    | none =>
      refine ⟨_, rfl, rfl, _, rfl, ite2 (fun _ => ?_) (fun c => absurd rfl c)⟩
      have nsg : Nb 1 sg := nb_sg (hsg.imp (·.1) (·.1))
      refine ⟨_, rfl, _, rfl, _, rfl, _, _, rfl, rfl, cpow10 (by decide) (by decide), _, _, rfl, rfl, nsg.cmul t50, _, _, rfl, rfl, cpow10 (by decide) (by decide), _, _, rfl, rfl, (nsg.mul t50).cmul t50, _, _, rfl, rfl, cpow10 (by decide) (by decide), _, _, rfl, rfl, ((nsg.mul t50).mul t50).cmul t50, ?_⟩
      refine ⟨a, t, _, rs, 700, rfl, hR, by omega, by decide, hsz', ht', (((nsg.mul t50).mul t50).mul t50).mono (by decide), ?_, k⟩
      generalize (10 : Int) ^ (50 : Int).toNat = T at b1
      rcases hsg with ⟨rfl, hI⟩ | ⟨rfl, hI⟩
      · obtain ⟨p1, q1, c1, F1, e1⟩ := hI (-1 * T * T * T)
        refine between F1 F0 e1 ?_
        have : -1 * T * T * T = -(T * T * T) := by grind
        omega
      · obtain ⟨p1, q1, c1, F1, e1⟩ := hI (1 * T * T * T)
        refine between F0 F1 ?_ e1
        have : 1 * T * T * T = T * T * T := by grind
        omega
    | some m =>
      have nm := no m rfl
      rcases hsg with ⟨rfl, hI⟩ | ⟨rfl, hI⟩
      · have hlow : (∃ p q c, Fit p q c rs ∧ cnt p q c t = m) ∧ ∀ p q c, Fit p q c rs → m ≤ cnt p q c t := hI
        refine ⟨_, rfl, rfl, _, rfl, ite2 (fun c => by cases c) (fun _ => ?_)⟩
        refine ⟨_, rfl, rfl, _, rfl, ite2 (fun c => absurd c (by decide +kernel)) (fun _ => ?_)⟩
        refine ⟨_, rfl, _, rfl, _, rfl, _, _, rfl, rfl, (by show 3 ≤ sizeLine; decide), fun b hb => ?_⟩
        have s1 := Same.new (o := .tup (recL ⟨false, t, m + -1⟩)) hb
        refine ⟨_, rfl, _, rfl, _, rfl, a, t, m, rs, 700, rfl, hR.same s1, by omega, by decide, hsz', ht', nm.mono (by decide), hlow.1, fun H1 s2 => ⟨true, rfl, ?_⟩⟩
        refine ⟨_, rfl, _, rfl, _, rfl, _, rfl, _, _, rfl, rfl, a, t, m + -1, rs, 700, rfl, (hR.same s1).same s2, by omega, by decide, hsz', ht', (nm.add (nb_sg (.inl rfl) |>.mono (by decide))).mono (by decide), hF, fun p q c F z => ?_, fun H2 s3 => ⟨true, rfl, ?_⟩⟩
        · have := hlow.2 p q c F
          omega
        have s13 := s1.trans (s2.trans s3)
        obtain ⟨us, hq, hv⟩ := hR.same s13
        refine ⟨_, rfl, a, us, rfl, hq.sq, fun la hla => ⟨_, rfl, (by show 1 ≤ sizeLine; decide), fun lb hlb => ?_⟩⟩
        have s4 := Same.new (o := .lst us) hla
        have s5 := Same.new (o := .lst [.ref b]) hlb
        refine ⟨la, lb, us, [.ref b], rfl, rfl, s5 _ _ upd_same, upd_same, Nat.le_of_lt (small1000 (by have := paired_len hv; simp; omega)), fun lc hlc => ?_⟩
        have s6 := Same.new (o := .lst (us ++ [.ref b])) hlc
        have hb6 : _ = some (HO.tup (recL ⟨false, t, m + -1⟩)) := (s2.trans (s3.trans (s4.trans (s5.trans s6)))) b _ upd_same
        refine ⟨lc, rs ++ [(⟨false, t, m + -1⟩ : Rec)], 700, rfl, ⟨us ++ [V.ref b], .inl upd_same, paired_snoc (F := RecV _) (y := ⟨false, t, m + -1⟩) ⟨b, rfl, hb6⟩ (RecsV.same (s4.trans (s5.trans s6)) hv)⟩, by rw [List.length_append]; show rs.length + 1 ≤ 200; omega, by decide, fun r hr => ?_, fun p q c F => ?_, fun H7 s7 => ⟨rfl, true, rfl, iteT ?_⟩⟩
        · rcases List.mem_append.mp hr with h | h
          · exact hsz' r h
          · rw [List.mem_singleton.mp h]
            exact ⟨ht', (nm.add (nb_sg (.inl rfl) |>.mono (by decide))).mono (by decide)⟩
        · have h1 := hlow.2 p q c ⟨F.hp, F.hq, fun r hr => F.all r (List.mem_append_left _ hr)⟩
          have h2 := (fits_cnt F.hq).mp (F.all ⟨false, t, m + -1⟩ (List.mem_append_right _ (List.mem_singleton.mpr rfl)))
          have h2 : cnt p q c t ≤ m + -1 := h2
          omega
        · refine ⟨_, rfl, _, rfl, _, rfl, _, rfl, _, _, rfl, rfl, cpow10 (by decide) (by decide), _, _, rfl, rfl, (nb_sg (.inl rfl)).cmul t40, _, _, rfl, rfl, a, t, _, rs, 700, rfl, (hR.same s13).same (s4.trans (s5.trans (s6.trans s7))), by omega, by decide, hsz', ht', (nm.add (((nb_sg (.inl rfl)).mul t40).mono (by decide))).mono (by decide), hF, fun p q c F z => ?_, fun H8 s8 => k H8 (s13.trans (s4.trans (s5.trans (s6.trans (s7.trans s8)))))⟩
          have := hlow.2 p q c F
          have := t40p
          omega
      · have hlow : (∃ p q c, Fit p q c rs ∧ cnt p q c t = m) ∧ ∀ p q c, Fit p q c rs → cnt p q c t ≤ m := hI
        refine ⟨_, rfl, rfl, _, rfl, ite2 (fun c => by cases c) (fun _ => ?_)⟩
        refine ⟨_, rfl, rfl, _, rfl, ite2 (fun _ => ?_) (fun c => absurd (by decide +kernel) c)⟩
        refine ⟨_, rfl, _, rfl, _, rfl, _, _, rfl, rfl, (by show 3 ≤ sizeLine; decide), fun b hb => ?_⟩
        have s1 := Same.new (o := .tup (recL ⟨true, t, m + 1⟩)) hb
        refine ⟨_, rfl, _, rfl, _, rfl, a, t, m, rs, 700, rfl, hR.same s1, by omega, by decide, hsz', ht', nm.mono (by decide), hlow.1, fun H1 s2 => ⟨true, rfl, ?_⟩⟩
        refine ⟨_, rfl, _, rfl, _, rfl, _, rfl, _, _, rfl, rfl, a, t, m + 1, rs, 700, rfl, (hR.same s1).same s2, by omega, by decide, hsz', ht', (nm.add (nb_sg (.inr rfl) |>.mono (by decide))).mono (by decide), hF, fun p q c F z => ?_, fun H2 s3 => ⟨true, rfl, ?_⟩⟩
        · have := hlow.2 p q c F
          omega
        have s13 := s1.trans (s2.trans s3)
        obtain ⟨us, hq, hv⟩ := hR.same s13
        refine ⟨_, rfl, a, us, rfl, hq.sq, fun la hla => ⟨_, rfl, (by show 1 ≤ sizeLine; decide), fun lb hlb => ?_⟩⟩
        have s4 := Same.new (o := .lst us) hla
        have s5 := Same.new (o := .lst [.ref b]) hlb
        refine ⟨la, lb, us, [.ref b], rfl, rfl, s5 _ _ upd_same, upd_same, Nat.le_of_lt (small1000 (by have := paired_len hv; simp; omega)), fun lc hlc => ?_⟩
        have s6 := Same.new (o := .lst (us ++ [.ref b])) hlc
        have hb6 : _ = some (HO.tup (recL ⟨true, t, m + 1⟩)) := (s2.trans (s3.trans (s4.trans (s5.trans s6)))) b _ upd_same
        refine ⟨lc, rs ++ [(⟨true, t, m + 1⟩ : Rec)], 700, rfl, ⟨us ++ [V.ref b], .inl upd_same, paired_snoc (F := RecV _) (y := ⟨true, t, m + 1⟩) ⟨b, rfl, hb6⟩ (RecsV.same (s4.trans (s5.trans s6)) hv)⟩, by rw [List.length_append]; show rs.length + 1 ≤ 200; omega, by decide, fun r hr => ?_, fun p q c F => ?_, fun H7 s7 => ⟨rfl, true, rfl, iteT ?_⟩⟩
        · rcases List.mem_append.mp hr with h | h
          · exact hsz' r h
          · rw [List.mem_singleton.mp h]
            exact ⟨ht', (nm.add (nb_sg (.inr rfl) |>.mono (by decide))).mono (by decide)⟩
        · have h1 := hlow.2 p q c ⟨F.hp, F.hq, fun r hr => F.all r (List.mem_append_left _ hr)⟩
          have h2 := (fits_cnt F.hq).mp (F.all ⟨true, t, m + 1⟩ (List.mem_append_right _ (List.mem_singleton.mpr rfl)))
          have h2 : m + 1 ≤ cnt p q c t := h2
          omega
        · refine ⟨_, rfl, _, rfl, _, rfl, _, rfl, _, _, rfl, rfl, cpow10 (by decide) (by decide), _, _, rfl, rfl, (nb_sg (.inr rfl)).cmul t40, _, _, rfl, rfl, a, t, _, rs, 700, rfl, (hR.same s13).same (s4.trans (s5.trans (s6.trans s7))), by omega, by decide, hsz', ht', (nm.add (((nb_sg (.inr rfl)).mul t40).mono (by decide))).mono (by decide), hF, fun p q c F z => ?_, fun H8 s8 => k H8 (s13.trans (s4.trans (s5.trans (s6.trans (s7.trans s8)))))⟩
          have := hlow.2 p q c F
          have := t40p
          omega
end
end K67

set_option Elab.async false
set_option linter.all false
set_option maxRecDepth 100000
set_option maxHeartbeats 4000000
namespace K67
open PySem PySem.Spec PyProof.Rows L2
/-! ### the pen -/
def penL (ca : Addr) (k l : Int) : List (Key × V) := [(.inr "cells", .ref ca), (.inr "turn", .int k), (.inr "left", .int l)]
theorem kne {a b : Str} (h : a ≠ b) : (Sum.inr a : Key) ≠ Sum.inr b := fun z => h (Sum.inr.inj z)
theorem pen_cells (ca : Addr) (k l : Int) : valV (penL ca k l) (.inr "cells") = some (.ref ca) := valV_pos rfl
theorem pen_turn (ca : Addr) (k l : Int) : valV (penL ca k l) (.inr "turn") = some (.int k) := (valV_neg (kne (by decide +kernel))).trans (valV_pos rfl)
theorem pen_left (ca : Addr) (k l : Int) : valV (penL ca k l) (.inr "left") = some (.int l) := (valV_neg (kne (by decide +kernel))).trans ((valV_neg (kne (by decide +kernel))).trans (valV_pos rfl))
theorem pen_put_turn (ca : Addr) (k l k' : Int) : putK (penL ca k l) (.inr "turn") (.int k') = penL ca k' l := by
  unfold putK
  rw [valV_any, pen_turn, if_pos (show (some (V.int k)).isSome = true from rfl)]
  unfold penL
  simp only [List.map_cons, List.map_nil, if_true, if_neg (kne (show ("cells" : Str) ≠ "turn" by decide +kernel)), if_neg (kne (show ("left" : Str) ≠ "turn" by decide +kernel))]
theorem pen_put_left (ca : Addr) (k l l' : Int) : putK (penL ca k l) (.inr "left") (.int l') = penL ca k l' := by
  unfold putK
  rw [valV_any, pen_left, if_pos (show (some (V.int l)).isSome = true from rfl)]
  unfold penL
  simp only [List.map_cons, List.map_nil, if_true, if_neg (kne (show ("cells" : Str) ≠ "left" by decide +kernel)), if_neg (kne (show ("turn" : Str) ≠ "left" by decide +kernel))]
def PenAt (H : Hp) (pe : Addr) (N : Nat) : Prop := ∃ (ca : Addr) (cells : List Int) (k : Nat) (l : Int), H pe = some (.dK (penL ca k l)) ∧ H ca = some (.lst (cells.map V.int)) ∧ k ≤ N ∧ 0 ≤ l ∧ cells.length ≤ 63
theorem PenAt.more {H : Hp} {pe : Addr} {N M : Nat} (h : PenAt H pe N) (l : N ≤ M) : PenAt H pe M := by
  obtain ⟨ca, cells, k, lf, h1, h2, h3, h4⟩ := h
  exact ⟨ca, cells, k, lf, h1, h2, Nat.le_trans h3 l, h4⟩
theorem PenAt.same {H H' : Hp} {pe : Addr} {N : Nat} (e : Same H H') (h : PenAt H pe N) : PenAt H' pe N := by
  obtain ⟨ca, cells, k, lf, h1, h2, h3⟩ := h
  exact ⟨ca, cells, k, lf, e _ _ h1, e _ _ h2, h3⟩
theorem PenAt.keep {H H' : Hp} {pe b : Addr} {N : Nat} {o : HO} (h : PenAt H pe N) (e : But pe H H') (hb : H b = some o) (n : ∀ kvs, o ≠ .dK kvs) : H' b = some o := by
  obtain ⟨ca, cells, k, lf, h1, _⟩ := h
  exact e _ _ hb (ne_of hb h1 (n _))
/-- all that was tracked, but for the pen's own dict, stands; the pen has turned -/
structure PenGo (pe : Addr) (H H' : Hp) (N : Nat) : Prop where
  but : But pe H H'
  ca : ∀ ca k l, H pe = some (.dK (penL ca k l)) → ∃ k' l', H' pe = some (.dK (penL ca k' l'))
  pen : PenAt H' pe N
theorem penL_inj {ca ca' : Addr} {k l k' l' : Int} (h : penL ca k l = penL ca' k' l') : ca = ca' := by
  have h1 := (List.cons.inj h).1
  have h2 : V.ref ca = V.ref ca' := congrArg Prod.snd h1
  cases h2
  rfl
theorem pen_ca {H H' : Hp} {pe ca : Addr} {k l k1 l1 : Int} (h : H pe = some (.dK (penL ca k l))) (h1 : H' pe = some (.dK (penL ca k1 l1))) : ∀ ca k l, H pe = some (.dK (penL ca k l)) → ∃ k' l', H' pe = some (.dK (penL ca k' l')) := by
  intro ca' k' l' e
  rw [h] at e
  have : penL ca k l = penL ca' k' l' := by
    have := Option.some.inj e
    injection this
  rw [← penL_inj this]
  exact ⟨k1, l1, h1⟩
theorem pen_merge (ca : Addr) : mergeK [] (penL ca 0 0) = penL ca 0 0 := by
  unfold mergeK penL
  simp only [List.foldl_cons, List.foldl_nil]
  rw [putK_new _ (show valV ([] : List (Key × V)) (.inr "cells") = none from rfl)]
  rw [putK_new _ (show valV ([] ++ [((Sum.inr "cells" : Key), V.ref ca)]) (.inr "turn") = none from (valV_neg (kne (by decide +kernel))).trans rfl)]
  rw [putK_new _ (show valV ([] ++ [((Sum.inr "cells" : Key), V.ref ca)] ++ [((Sum.inr "turn" : Key), V.int 0)]) (.inr "left") = none from (valV_neg (kne (by decide +kernel))).trans ((valV_neg (kne (by decide +kernel))).trans rfl))]
  rfl
theorem cut_63 {us : List V} (h : us.length ≤ 63) : cutV us none (some 63) = us := by
  have e : HT.sIx us.length us.length (some 63) = min 63 us.length := HT.sIx_nat us.length us.length 63
  have e2 : HT.sIx us.length 0 none = 0 := HT.sIx_none _ _
  unfold cutV
  rw [e, e2, Nat.min_eq_right h, List.drop_zero, Nat.sub_zero, List.take_length]
section
variable {P : Program} {w : World} {K : PySem.W.Frag} {mg : Str → Option Value} {base : Heap}
def spPen (K : PySem.W.Frag) : Sp := fun vs H Q _ => ∃ (a : Addr) (ns : List Int), vs = [.ref a] ∧ SqL K H a (ns.map V.int) ∧ ns.length ≤ 63 ∧ ∀ pe H', Same H H' → PenAt H' pe 0 → Q (.ref pe) H'
theorem sc49 : FnScope ["_law_script"] ["_law_script"] (defScope (top 49)) := ⟨rfl, rfl, rfl, by decide +kernel, rfl, by decide +kernel, by decide +kernel⟩
theorem can_pen (T : Txt K mg) {f : Addr} {fd : FuncData} (D : Df K mg "_law_pen" (top 49) ["_law_script"] f fd) : Can P w K mg base "_law_pen" 1 ["_law_script"] (spPen K) := by
  refine D.can (D.fn.ok sc49 (fun vs H Q E h => ?_) (fun cdv A outer s H vs Q E hr h => ?_))
  · obtain ⟨a, ns, rfl, _⟩ := h
    rfl
  · obtain ⟨a, ns, rfl, ha, hl, k⟩ := h
    refine ⟨_, pss_one (ps_ret (pe_disp (pps_cons pe_str (pe_callTy call_list_of (by rfl) T.list (by decide +kernel) (pa_cons (pe_slice sl_list (pv 0) po_none (po_some pe_int)) pa_nil)) (pps_cons pe_str pe_int (pps_cons pe_str pe_int pps_nil))) rfl rfl (fun z => by cases z) (by decide))), ?_⟩
    refine fun p hp => ?_
    have s1 := Same.new (o := .dK []) hp
    refine ⟨_, rfl, 63, rfl, a, _, rfl, s1.seq ha, fun sl hsl => ?_⟩
    rw [cut_63 (by rw [List.length_map]; exact hl)]
    have s2 := Same.new (o := .lst (ns.map V.int)) hsl
    refine ⟨sl, _, rfl, .inl (SqL.of upd_same), fun l hl' => ?_⟩
    have s3 := Same.new (o := .lst (ns.map V.int)) hl'
    refine ⟨s3 _ _ (s2 _ _ upd_same), penL l 0 0, rfl, by show 3 ≤ 15; decide, ?_⟩
    rw [pen_merge]
    have nl : l ≠ p := fun z => by
      have := s2 _ _ (upd_same : (upd H p (.dK [])) p = _)
      rw [z, this] at hl'
      cases hl'
    refine k p _ (fun b o e => ?_) ⟨l, ns, 0, 0, upd_same, ?_, Nat.le_refl _, Int.le_refl _, hl⟩
    · rw [upd_ne (ne_of_none e hp)]
      exact s3 _ _ (s2 _ _ (s1 _ _ e))
    · rw [upd_ne nl]
      exact upd_same
def spDraw : Sp := fun vs H Q _ => ∃ (pe : Addr) (m : Int) (N : Nat), vs = [.ref pe, .int m] ∧ PenAt H pe N ∧ N ≤ 10 ^ 9 ∧ 0 < m ∧ Nb 64 m ∧ ∀ d H', 0 ≤ d → d < m → PenGo pe H H' (N + 1) → Q (.int d) H'
theorem sc50 : FnScope ["_law_pen_here", "_law_many", "_law_digit", "_law_turn", "_law_cell", "_law_mix"] ["_law_pen_here", "_law_many"] (defScope (top 50)) := ⟨rfl, rfl, rfl, by decide +kernel, rfl, by decide +kernel, by decide +kernel⟩
theorem can_draw (T : Txt K mg) {f : Addr} {fd : FuncData} (D : Df K mg "_law_draw" (top 50) ["_law_pen_here", "_law_many"] f fd) : Can P w K mg base "_law_draw" 1 ["_law_pen_here", "_law_many"] spDraw := by
  refine D.can (D.fn.ok sc50 (fun vs H Q E h => ?_) (fun cdv A outer s H vs Q E hr h => ?_))
  · obtain ⟨pe, m, N, rfl, _⟩ := h
    rfl
  · obtain ⟨pe, m, N, rfl, ⟨ca, cells, n, l, hpe, hca, hk, hl0, hcl⟩, hN, hm, nm, k⟩ := h
    have hu := hu_of hr
    refine ⟨_, pss_cons (ps_if (pt_cmpR op_gt (pe_dget hu (pv 0) pe_str (fun _ _ => rfl)) pe_int (nomark _))
        (pss_cons (ps_set (i := 2) sc50.nd rfl (Or.inl rfl) (pe_op op_mod (pe_dget hu (pv 0) pe_str (fun _ _ => rfl)) (pv 1)))
        (pss_cons (ps_dput hu (pv 0) pe_str (pe_op op_fdivW (pe_dget hu (pv 0) pe_str (fun _ _ => rfl)) (pv 1)) rfl)
        (pss_one (ps_ret (pv 2))))) pss_nil)
      (pss_cons (ps_set (i := 3) sc50.nd rfl (Or.inl rfl) (pe_dget hu (pv 0) pe_str (fun _ _ => rfl)))
      (pss_cons (ps_dput hu (pv 0) pe_str (pe_op op_add (pv 3) pe_int) rfl)
      (pss_cons (ps_set (i := 4) sc50.nd rfl (Or.inl rfl) (pe_op op_add (pe_op op_mulW pe_int (pv 3)) pe_int))
      (pss_cons (ps_if (pt_cmpR (op_neNil (by exact Nat.lt_of_succ_lt hu)) (pe_dget hu (pv 0) pe_str (fun _ _ => rfl)) (pe_lst pa_nil) (nomark _))
        (pss_one (ps_set (i := 4) sc50.nd rfl (Or.inl rfl) (pe_ix ix_list (pe_dget hu (pv 0) pe_str (fun _ _ => rfl)) (pe_op op_mod (pv 3) (pe_len T.len (pe_dget hu (pv 0) pe_str (fun _ _ => rfl)))) (fun _ _ => rfl)))) pss_nil)
      (pss_cons (ps_if (PW.pt (pw_and (pt_cmpR op_lt (pv 3) (pe_len T.len (pe_dget hu (pv 0) pe_str (fun _ _ => rfl))) (nomark _)) (pw_and1 (pt_cmpR op_ge (pe_callB call_abs (by rfl) T.abs (by decide +kernel) (pa_cons (pv 4) pa_nil)) (pe_op op_pow pe_int pe_int) (nomark _)))))
        (pss_cons (ps_dput hu (pv 0) pe_str (pe_op op_fdivW (pe_op op_sub (pe_callB call_abs (by rfl) T.abs (by decide +kernel) (pa_cons (pv 4) pa_nil)) (pe_op op_pow pe_int pe_int)) (pv 1)) rfl)
        (pss_one (ps_ret (pe_op op_mod (pe_op op_sub (pe_callB call_abs (by rfl) T.abs (by decide +kernel) (pa_cons (pv 4) pa_nil)) (pe_op op_pow pe_int pe_int)) (pv 1))))) pss_nil)
      (pss_cons (ps_set (i := 5) sc50.nd rfl (Or.inl rfl) (pe_op op_mod (pe_op op_add (pe_op op_add (pe_op op_add (pe_op op_mulW (pe_op op_mod (pv 4) pe_int) pe_int) (pe_op op_mulW (pe_op op_mulW pe_int (pv 3)) (pv 3))) (pe_op op_mulW pe_int (pv 3))) pe_int) pe_int))
      (pss_cons (ps_set (i := 5) sc50.nd rfl (Or.inl rfl) (pe_op op_mod (pe_op op_add (pe_op op_add (pe_op op_add (pe_op op_mulW (pv 5) (pv 5)) (pe_op op_mulW pe_int (pv 5))) (pe_op op_mulW pe_int (pv 3))) pe_int) pe_int))
      (pss_one (ps_ret (pe_op op_mod (pe_op op_fdivW (pe_op op_mod (pe_op op_mulW (pv 5) (pe_op op_add (pv 5) pe_int)) pe_int) pe_int) (pv 1))))))))))), ?_⟩
    have gl : ∀ (H' : Hp) (n l : Int), H' pe = some (.dK (penL ca n l)) → DGet H' pe (.str "left") (some (.int l)) := fun H' n l h => by
      have := DGet.k (k := .inr "left") h
      rw [pen_left] at this
      exact this
    have gt : ∀ (H' : Hp) (n l : Int), H' pe = some (.dK (penL ca n l)) → DGet H' pe (.str "turn") (some (.int n)) := fun H' n l h => by
      have := DGet.k (k := .inr "turn") h
      rw [pen_turn] at this
      exact this
    have gc : ∀ (H' : Hp) (n l : Int), H' pe = some (.dK (penL ca n l)) → DGet H' pe (.str "cells") (some (.ref ca)) := fun H' n l h => by
      have := DGet.k (k := .inr "cells") h
      rw [pen_cells] at this
      exact this
    have nca : ca ≠ pe := fun z => by
      rw [z, hpe] at hca
      cases hca
    have lsm : ∀ n l : Int, (penL ca n l).length < sizeLine := fun _ _ => small1000 (by show 3 ≤ 1000; decide)
    refine ⟨_, rfl, pe, _, rfl, gl _ _ _ hpe, _, _, rfl, rfl, _, rfl, ite2 (fun c => ?_) (fun c => ?_)⟩
    · refine ⟨_, rfl, pe, _, rfl, gl _ _ _ hpe, _, rfl, _, _, rfl, rfl, hm, ?_⟩
      refine ⟨_, rfl, pe, _, rfl, gl _ _ _ hpe, _, rfl, _, _, rfl, rfl, nm.cdiv hm, _, rfl, pe, _, rfl, DPut.k (k := .inr "left") hpe (lsm _ _), ?_⟩
      refine ⟨_, rfl, k _ _ (Int.emod_nonneg _ (by omega)) (Int.emod_lt_of_pos _ hm) ⟨But.upd, pen_ca (k1 := n) (l1 := l / m) hpe ?_, ca, cells, n, l / m, ?_, ?_, by omega, Int.ediv_nonneg hl0 (Int.le_of_lt hm), hcl⟩⟩
      · rw [upd_same, pen_put_left]
      · rw [upd_same, pen_put_left]
      · rw [upd_ne nca]; exact hca
    · refine ⟨_, rfl, pe, _, rfl, gt _ _ _ hpe, ?_⟩
      refine ⟨_, rfl, _, _, rfl, rfl, _, rfl, pe, _, rfl, DPut.k (k := .inr "turn") hpe (lsm _ _), ?_⟩
      have nn : Nb 30 (n : Int) := by
        unfold Nb
        show n < 2 ^ 30
        omega
      have hp5 : (upd H pe (.dK (putK (penL ca n l) (.inr "turn") (.int ((n : Int) + 1))))) pe = some (.dK (penL ca ((n : Int) + 1) l)) := by rw [upd_same, pen_put_turn]
      have hc5 : (upd H pe (.dK (putK (penL ca n l) (.inr "turn") (.int ((n : Int) + 1))))) ca = some (.lst (cells.map V.int)) := by rw [upd_ne nca]; exact hca
      have b5 : But pe H (upd H pe (.dK (putK (penL ca n l) (.inr "turn") (.int ((n : Int) + 1))))) := But.upd
      generalize upd H pe (.dK (putK (penL ca n l) (.inr "turn") (.int ((n : Int) + 1)))) = H5 at hp5 hc5 b5 ⊢
      refine ⟨_, rfl, _, _, rfl, rfl, Nb.cmul (n := 6) (by unfold Nb; decide) nn, _, _, rfl, rfl, ?_⟩
      -- the cell
      dsimp only
      show tSeq (tIfS _ _ _) _ _ _ _
      refine mid (fun σ H' => ∃ z : Int, σ = [some (.ref pe), some (.int m), none, some (.int n), some (.int z), none] ∧ Same H5 H') (fun R hR => ?_) ?_
      · refine ⟨_, rfl, pe, _, rfl, gc _ _ _ hp5, Nat.zero_le _, fun ne hne => ?_⟩
        have s6 := Same.new (o := .lst []) hne
        refine ⟨ca, ne, _, rfl, rfl, SqL.of (s6 _ _ hc5), SqL.of upd_same, _, rfl, ?_⟩
        have hp6 := s6 _ _ hp5
        have hc6 := s6 _ _ hc5
        cases ec : cells with
        | nil => exact ite2 (fun c => by cases c) (fun _ => hR _ _ ⟨_, rfl, s6⟩)
        | cons z zs =>
          refine ite2 (fun _ => ?_) (fun c => absurd rfl c)
          have hpos : 0 < cells.length := by rw [ec]; exact Nat.succ_pos _
          have hlt : n % cells.length < cells.length := Nat.mod_lt _ hpos
          refine ⟨_, rfl, pe, _, rfl, gc _ _ _ hp6, _, rfl, _, rfl, pe, _, rfl, gc _ _ _ hp6, ca, _, rfl, .inl (SqL.of hc6), _, _, rfl, rfl, ?_, ca, _, _, .int (cells[n % cells.length]), rfl, rfl, SqL.of hc6, ?_, ?_⟩
          · show (0 : Int) < ((cells.map V.int).length : Nat)
            rw [List.length_map]
            omega
          · refine at_of (j := n % cells.length) ?_ ?_
            · rw [List.length_map]; rfl
            · rw [List.getElem?_map, List.getElem?_eq_getElem hlt]; rfl
          · exact hR _ _ ⟨_, rfl, s6⟩
      · rintro σ H6 ⟨z, rfl, s6⟩
        have hp6 := s6 _ _ hp5
        have hc6 := s6 _ _ hc5
        have hlen : ((cells.map V.int).length : Int) = cells.length := by rw [List.length_map]
        show tSeq (tIfS _ _ _) _ _ _ _
        refine mid (fun σ H' => σ = [some (.ref pe), some (.int m), none, some (.int n), some (.int z), none] ∧ H' = H6) (fun R hR => ?_) ?_
        · refine ⟨_, rfl, _, rfl, pe, _, rfl, gc _ _ _ hp6, ca, _, rfl, .inl (SqL.of hc6), _, _, rfl, rfl, _, rfl, ite2 (fun _ => ?_) (fun _ => hR _ _ ⟨rfl, rfl⟩)⟩
          refine ⟨_, rfl, z, rfl, _, _, rfl, rfl, cpow10 (by decide) (by decide), _, _, rfl, rfl, _, rfl, ite2 (fun cz => ?_) (fun _ => hR _ _ ⟨rfl, rfl⟩)⟩
          have cz := of_decide_eq_true cz
          have hyu := Int.sub_nonneg_of_le cz
          refine ⟨_, rfl, z, rfl, _, _, rfl, rfl, cpow10 (by decide) (by decide), _, _, rfl, rfl, _, rfl, _, _, rfl, rfl, nm.cdiv hm, _, rfl, pe, _, rfl, DPut.k (k := .inr "left") hp6 (lsm _ _), ?_⟩
          refine ⟨_, rfl, z, rfl, _, _, rfl, rfl, cpow10 (by decide) (by decide), _, _, rfl, rfl, _, rfl, _, _, rfl, rfl, hm, ?_⟩
          refine k _ _ (Int.emod_nonneg _ (by omega)) (Int.emod_lt_of_pos _ hm) ⟨b5.trans ((Same.but s6).trans But.upd), pen_ca hpe (upd_same.trans (by rw [pen_put_left])), ca, cells, n + 1, _, ?_, ?_, by omega, Int.ediv_nonneg hyu (Int.le_of_lt hm), hcl⟩
          · rw [upd_same, pen_put_left]
            rfl
          · rw [upd_ne nca]; exact hc6
        · rintro σ H7 ⟨rfl, rfl⟩
          have r1 : ∀ (x M : Int) (b : Nat), 0 < M → Nb b M → 0 ≤ x % M ∧ Nb b (x % M) := fun x M b h hb => by
            have h1 := Int.emod_nonneg x (show M ≠ 0 by omega)
            have h2 := Int.emod_lt_of_pos x h
            exact ⟨h1, hb.le h1 (by omega)⟩
          have q1 := fun x => (r1 x 2147483647 31 (by decide) (by unfold Nb; decide)).2
          have q2 := fun x => (r1 x 2147483629 31 (by decide) (by unfold Nb; decide)).2
          have q3 := fun x => (r1 x 2147483587 31 (by decide) (by unfold Nb; decide)).2
          have m1 : (0 : Int) < 2147483647 := by decide
          have m2 : (0 : Int) < 2147483629 := by decide
          have m3 : (0 : Int) < 2147483587 := by decide
          have m4 : (0 : Int) < 2147483579 := by decide
          refine ⟨_, rfl, _, _, rfl, rfl, m1, _, _, rfl, rfl, (q1 z).cmul (m := 17) (by unfold Nb; decide), _, rfl, _, _, rfl, rfl, Nb.cmul (n := 16) (by unfold Nb; decide) nn, _, rfl, _, _, rfl, rfl, (Nb.mul (n := 16) (by unfold Nb; decide) nn).cmul nn, _, _, rfl, rfl, _, rfl, _, _, rfl, rfl, Nb.cmul (n := 15) (by unfold Nb; decide) nn, _, _, rfl, rfl, _, _, rfl, rfl, _, _, rfl, rfl, m2, ?_⟩
          refine ⟨_, rfl, _, rfl, _, _, rfl, rfl, (q2 _).cmul (q2 _), _, rfl, _, _, rfl, rfl, Nb.cmul (n := 16) (by unfold Nb; decide) (q2 _), _, _, rfl, rfl, _, rfl, _, _, rfl, rfl, Nb.cmul (n := 4) (by unfold Nb; decide) nn, _, _, rfl, rfl, _, _, rfl, rfl, _, _, rfl, rfl, m3, ?_⟩
          refine ⟨_, rfl, _, rfl, _, _, rfl, rfl, _, _, rfl, rfl, (q3 _).cmul (((q3 _).mono (by decide)).add (n := 31) (j := 16807) (by unfold Nb; decide)), _, _, rfl, rfl, m4, _, _, rfl, rfl, Nb.cdiv (n := 6) (by unfold Nb; decide) (by decide), _, rfl, _, _, rfl, rfl, hm, ?_⟩
          exact k _ _ (Int.emod_nonneg _ (by omega)) (Int.emod_lt_of_pos _ hm) ⟨b5.trans (Same.but s6), pen_ca hpe hp6, ca, cells, n + 1, l, hp6, hc6, by omega, hl0, hcl⟩
end
end K67

set_option Elab.async false
set_option linter.all false
set_option maxRecDepth 100000
set_option maxHeartbeats 4000000
namespace K67
open PySem PySem.Spec PyProof.Rows L2
theorem PenGo.trans {pe : Addr} {H H1 H2 : Hp} {N M : Nat} (a : PenGo pe H H1 N) (b : PenGo pe H1 H2 M) : PenGo pe H H2 M := ⟨a.but.trans b.but, fun ca k l h => by
  obtain ⟨k', l', h'⟩ := a.ca ca k l h
  exact b.ca ca k' l' h', b.pen⟩
theorem PenGo.same {pe : Addr} {H H1 H2 : Hp} {N : Nat} (a : PenGo pe H H1 N) (s : Same H1 H2) : PenGo pe H H2 N := ⟨a.but.trans (Same.but s), fun ca k l h => by
  obtain ⟨k', l', h'⟩ := a.ca ca k l h
  exact ⟨k', l', s _ _ h'⟩, a.pen.same s⟩
theorem PenGo.more {pe : Addr} {H H1 : Hp} {N M : Nat} (a : PenGo pe H H1 N) (l : N ≤ M) : PenGo pe H H1 M := ⟨a.but, a.ca, a.pen.more l⟩
theorem PenGo.refl {pe : Addr} {H : Hp} {N : Nat} (p : PenAt H pe N) : PenGo pe H H N := ⟨But.refl _ _, fun ca k l h => ⟨k, l, h⟩, p⟩
theorem TupV.go {pe : Addr} {H H' : Hp} {v : V} {xs : List V} {N M : Nat} (p : PenAt H pe N) (g : PenGo pe H H' M) (h : TupV H v xs) : TupV H' v xs := by
  obtain ⟨a, h1, h2⟩ := h
  exact ⟨a, h1, p.keep g.but h2 (fun _ z => by cases z)⟩
section
variable {P : Program} {w : World} {K : PySem.W.Frag} {mg : Str → Option Value} {base : Heap}
def spPick : Sp := fun vs H Q _ => ∃ (pe a : Addr) (xs : List V) (N : Nat), vs = [.ref pe, .ref a] ∧ PenAt H pe N ∧ N ≤ 10 ^ 9 ∧ H a = some (.lst xs) ∧ xs ≠ [] ∧ xs.length ≤ 1000 ∧ ∀ (i : Nat) (x : V) (H' : Hp), xs[i]? = some x → PenGo pe H H' (N + 1) → Q x H'
theorem sc51 : FnScope ["_law_pen_here", "_law_options"] ["_law_pen_here", "_law_options"] (defScope (top 51)) := ⟨rfl, rfl, rfl, by decide +kernel, rfl, by decide +kernel, by decide +kernel⟩
theorem can_pick (T : Txt K mg) {f : Addr} {fd : FuncData} (D : Df K mg "_law_pick" (top 51) ["_law_pen_here", "_law_options"] f fd) (C1 : Can P w K mg base "_law_draw" 1 ["_law_pen_here", "_law_many"] spDraw) : Can P w K mg base "_law_pick" 2 ["_law_pen_here", "_law_options"] spPick := by
  refine D.can (D.fn.ok sc51 (fun vs H Q E h => ?_) (fun cdv A outer s H vs Q E hr h => ?_))
  · obtain ⟨pe, a, xs, N, rfl, _⟩ := h
    rfl
  · obtain ⟨pe, a, xs, N, rfl, hp, hN, ha, hne, hl, k⟩ := h
    refine ⟨_, pss_one (ps_ret (pe_ix ix_list (pv 1) (pe_can C1 hr (pa_cons (pv 0) (pa_cons (pe_len T.len (pv 1)) pa_nil))) (fun _ _ => rfl))), ?_⟩
    have hpos : 0 < xs.length := by
      cases xs with
      | nil => exact absurd rfl hne
      | cons x r => exact Nat.succ_pos _
    refine ⟨_, rfl, _, rfl, _, rfl, a, xs, rfl, .inl (SqL.of ha), pe, _, N, rfl, hp, hN, by omega, ?_, fun d H' h0 h1 go => ?_⟩
    · unfold Nb
      have : (2 : Nat) ^ 64 = 18446744073709551616 := by decide
      omega
    · have hlt : d.toNat < xs.length := by omega
      exact ⟨a, xs, d, xs[d.toNat], rfl, rfl, SqL.of (hp.keep go.but ha (fun _ z => by cases z)), at_of (j := d.toNat) (by omega) (List.getElem?_eq_getElem hlt), k d.toNat _ H' (List.getElem?_eq_getElem hlt) go⟩
def fbits (f : Nat) : Nat := 10 * (f / 3) + 4
def spNat : Sp := fun vs H Q _ => ∃ (pe : Addr) (f N : Nat), vs = [.ref pe, .int f] ∧ f ≤ 100 ∧ PenAt H pe N ∧ N + 100 ≤ 10 ^ 9 ∧ ∀ r H', 0 ≤ r → Nb (fbits f) r → PenGo pe H H' (N + 40) → Q (.int r) H'
theorem sc52 : FnScope ["_law_pen_here", "_law_figures", "_law_result", "_law_k"] ["_law_pen_here", "_law_figures"] (defScope (top 52)) := ⟨rfl, rfl, rfl, by decide +kernel, rfl, by decide +kernel, by decide +kernel⟩
theorem nat_step {i : Nat} {r d : Int} (h0 : 0 ≤ r) (h : Nb (10 * i) r) (d0 : 0 ≤ d) (d1 : d < 1000) : Nb (10 * (i + 1)) (1000 * r + d) := by
  unfold Nb at *
  rw [show 10 * (i + 1) = 10 * i + 10 by omega, Nat.pow_add]
  generalize 2 ^ (10 * i) = x at *
  have : (2 : Nat) ^ 10 = 1024 := by decide
  omega
theorem nat_last {i : Nat} {r d : Int} (h0 : 0 ≤ r) (h : Nb (10 * i) r) (d0 : 0 ≤ d) (d1 : d < 10) : Nb (10 * i + 4) (10 * r + d) := by
  unfold Nb at *
  rw [Nat.pow_add]
  generalize 2 ^ (10 * i) = x at *
  omega
theorem can_natural (T : Txt K mg) {f : Addr} {fd : FuncData} (D : Df K mg "_law_natural" (top 52) ["_law_pen_here", "_law_figures"] f fd) (C1 : Can P w K mg base "_law_draw" 1 ["_law_pen_here", "_law_many"] spDraw) : Can P w K mg base "_law_natural" 2 ["_law_pen_here", "_law_figures"] spNat := by
  refine D.can (D.fn.ok sc52 (fun vs H Q E h => ?_) (fun cdv A outer s H vs Q E hr h => ?_))
  · obtain ⟨pe, f, N, rfl, _⟩ := h
    rfl
  · obtain ⟨pe, f, N, rfl, hf, hp, hN, k⟩ := h
    refine ⟨_, pss_cons (ps_set (i := 2) sc52.nd rfl (Or.inl rfl) pe_int)
      (pss_cons (ps_for PassesOwn.never rfl (pi_range1 (by rfl) T.range (pa_cons (pe_op op_fdivW (pv 1) pe_int) pa_nil)) (pg_name (i := 3) sc52.nd rfl (Or.inl rfl))
        (pss_one (ps_set (i := 2) sc52.nd rfl (Or.inl rfl) (pe_op op_add (pe_op op_mulW pe_int (pv 2)) (pe_can C1 hr (pa_cons (pv 0) (pa_cons pe_int pa_nil)))))))
      (pss_one (ps_ret (pe_ifExp (pt_cmpR op_eq (pe_op op_mod (pv 1) pe_int) pe_int (nomark _)) (pv 2) (pe_op op_add (pe_op op_mulW pe_int (pv 2)) (pe_can C1 hr (pa_cons (pv 0) (pa_cons pe_int pa_nil)))))))), ?_⟩
    have e3 : ((f : Int) / 3).toNat = f / 3 := by omega
    refine ⟨_, rfl, _, _, rfl, rfl, Nb.cdiv (n := 2) (by unfold Nb; decide) (by decide), (f : Int) / 3, rfl, by omega, by omega, ?_⟩
    rw [e3]
    refine for_range (fun i σ H' => ∃ s3 r, σ = [some (.ref pe), some (.int f), some (.int r), s3] ∧ 0 ≤ r ∧ Nb (10 * i) r ∧ PenGo pe H H' (N + i)) ⟨none, 0, rfl, Int.le_refl _, by unfold Nb; decide, PenGo.refl hp⟩ ?_ ?_
    · rintro i σ H1 hi ⟨s3, r, rfl, r0, nr, go⟩
      refine ⟨_, rfl, _, _, rfl, rfl, Nb.cmul (n := 10) (by unfold Nb; decide) nr (by omega), _, rfl, pe, 1000, N + i, rfl, go.pen, by omega, by decide, by unfold Nb; decide, fun d H2 d0 d1 g2 => ⟨_, _, rfl, rfl, ?_⟩⟩
      exact ⟨_, _, rfl, by omega, nat_step r0 nr d0 d1, go.trans g2⟩
    · rintro σ H1 ⟨s3, r, rfl, r0, nr, go⟩
      refine ⟨_, rfl, _, _, rfl, rfl, (show (0 : Int) < 3 by decide), rfl, _, rfl, ite2 (fun _ => ?_) (fun _ => ?_)⟩
      · exact ⟨_, rfl, k r H1 r0 (nr.mono (by unfold fbits; omega)) (go.more (by omega))⟩
      · refine ⟨_, rfl, _, _, rfl, rfl, Nb.cmul (n := 4) (by unfold Nb; decide) nr (by omega), _, rfl, pe, 10, N + f / 3, rfl, go.pen, by omega, by decide, by unfold Nb; decide, fun d H2 d0 d1 g2 => ⟨_, _, rfl, rfl, ?_⟩⟩
        exact k _ H2 (by omega) (nat_last r0 nr d0 d1) ((go.trans g2).more (by omega))
def spInteger : Sp := fun vs H Q _ => ∃ (pe : Addr) (f N : Nat), vs = [.ref pe, .int f] ∧ f ≤ 100 ∧ PenAt H pe N ∧ N + 100 ≤ 10 ^ 9 ∧ ∀ r H', Nb (fbits f) r → PenGo pe H H' (N + 41) → Q (.int r) H'
theorem sc53 : FnScope ["_law_pen_here", "_law_figures"] ["_law_pen_here", "_law_figures"] (defScope (top 53)) := ⟨rfl, rfl, rfl, by decide +kernel, rfl, by decide +kernel, by decide +kernel⟩
theorem can_integer {f : Addr} {fd : FuncData} (D : Df K mg "_law_integer" (top 53) ["_law_pen_here", "_law_figures"] f fd) (C1 : Can P w K mg base "_law_natural" 2 ["_law_pen_here", "_law_figures"] spNat) (C2 : Can P w K mg base "_law_pick" 2 ["_law_pen_here", "_law_options"] spPick) :
    Can P w K mg base "_law_integer" 3 ["_law_pen_here", "_law_figures"] spInteger := by
  refine D.can (D.fn.ok sc53 (fun vs H Q E h => ?_) (fun cdv A outer s H vs Q E hr h => ?_))
  · obtain ⟨pe, f, N, rfl, _⟩ := h
    rfl
  · obtain ⟨pe, f, N, rfl, hf, hp, hN, k⟩ := h
    refine ⟨_, pss_one (ps_ret (pe_op op_mulW (pe_can C1 hr (pa_cons (pv 0) (pa_cons (pv 1) pa_nil))) (pe_can C2 hr (pa_cons (pv 0) (pa_cons (pe_lst (pa_cons pe_int (pa_cons (pe_un un_neg pe_int) pa_nil))) pa_nil))))), ?_⟩
    refine ⟨_, rfl, _, rfl, pe, f, N, rfl, hf, hp, hN, fun r H1 r0 nr g1 => ?_⟩
    refine ⟨_, rfl, _, rfl, (by show 2 ≤ sizeLine; decide), fun a ha => ?_⟩
    have s2 := Same.new (o := .lst [.int 1, .int (-1)]) ha
    have g2 := g1.same s2
    refine ⟨pe, a, [.int 1, .int (-1)], N + 40, rfl, g2.pen, by omega, upd_same, (fun z => by cases z), (by show 2 ≤ 1000; decide), fun i x H3 hx g3 => ?_⟩
    have fin : ∀ sg : Int, sg = -1 ∨ sg = 1 → x = .int sg → ∃ i j, V.int r = .int i ∧ x = .int j ∧ CMulW i j ∧ Q (.int (i * j)) H3 := by
      rintro sg hsg rfl
      refine ⟨r, sg, rfl, rfl, nr.cmul (nb_sg hsg) (by unfold fbits; omega), k _ H3 ?_ (g2.trans g3)⟩
      rcases hsg with rfl | rfl
      · rw [show r * -1 = -r by omega]; exact nr.neg
      · rw [Int.mul_one]; exact nr
    match i, hx with
    | 0, hx => simp at hx; exact fin 1 (.inr rfl) hx.symm
    | 1, hx => simp at hx; exact fin (-1) (.inl rfl) hx.symm
def spHid : Sp := fun vs H Q _ => ∃ (pe : Addr) (f N : Nat), vs = [.ref pe, .int f] ∧ f ≤ 20 ∧ PenAt H pe N ∧ N + 1000 ≤ 10 ^ 9 ∧ ∀ v p q c H', TupV H' v (ruL p q c) → 0 ≤ p → 0 < q → Int.gcd p q = 1 → Nb 65 p → Nb 65 q → Nb 65 c → PenGo pe H H' (N + 200) → Q v H'
theorem sc55 : FnScope ["_law_pen_here", "_law_figures", "_law_road", "_law_p", "_law_q", "_law_c", "_law_both"] ["_law_pen_here", "_law_figures"] (defScope (top 55)) := ⟨rfl, rfl, rfl, by decide +kernel, rfl, by decide +kernel, by decide +kernel⟩
theorem can_hidden {f : Addr} {fd : FuncData} (D : Df K mg "_law_hidden" (top 55) ["_law_pen_here", "_law_figures"] f fd) (C1 : Can P w K mg base "_law_draw" 1 ["_law_pen_here", "_law_many"] spDraw) (C2 : Can P w K mg base "_law_natural" 2 ["_law_pen_here", "_law_figures"] spNat)
    (C3 : Can P w K mg base "_law_integer" 3 ["_law_pen_here", "_law_figures"] spInteger) (C4 : Can P w K mg base "_law_gcd" 1 ["_law_one", "_law_two"] spLGcd) : Can P w K mg base "_law_hidden" 4 ["_law_pen_here", "_law_figures"] spHid := by
  refine D.can (D.fn.ok sc55 (fun vs H Q E h => ?_) (fun cdv A outer s H vs Q E hr h => ?_))
  · obtain ⟨pe, f, N, rfl, _⟩ := h
    rfl
  · obtain ⟨pe, f, N, rfl, hf, hp, hN, k⟩ := h
    have hr1 : Room 1 _ := hr.mono (by decide)
    have hr2 : Room 2 _ := hr.mono (by decide)
    refine ⟨_, pss_cons (ps_set (i := 2) sc55.nd rfl (Or.inl rfl) (pe_can C1 hr1 (pa_cons (pv 0) (pa_cons pe_int pa_nil))))
      (pss_cons (ps_par3 (i := 3) (j := 4) (l := 5) (by rfl) sc55.nd rfl rfl rfl (by decide) (by decide) (by decide) rfl rfl rfl (pa_cons (pe_can C1 hr1 (pa_cons (pv 0) (pa_cons pe_int pa_nil))) (pa_cons (pe_op op_add pe_int (pe_can C1 hr1 (pa_cons (pv 0) (pa_cons pe_int pa_nil)))) (pa_cons (pe_op op_sub (pe_can C1 hr1 (pa_cons (pv 0) (pa_cons pe_int pa_nil))) pe_int) pa_nil))) (by rfl))
      (pss_cons (ps_if (pt_cmpR op_eq (pv 2) pe_int (nomark _)) (pss_one (ps_ret (pe_tup (pa_cons pe_int (pa_cons pe_int (pa_cons (pv 5) pa_nil)))))) pss_nil)
      (pss_cons (ps_if (PW.pt (pw_and (pt_cmpR op_gt (pv 2) pe_int (nomark _)) (pw_and1 (pt_cmpR op_gt (pv 1) pe_int (nomark _)))))
        (pss_one (ps_par3 (i := 3) (j := 4) (l := 5) (by rfl) sc55.nd rfl rfl rfl (by decide) (by decide) (by decide) rfl rfl rfl (pa_cons (pe_can C2 hr2 (pa_cons (pv 0) (pa_cons (pv 1) pa_nil))) (pa_cons (pe_op op_add pe_int (pe_can C2 hr2 (pa_cons (pv 0) (pa_cons (pv 1) pa_nil)))) (pa_cons (pe_can C3 hr (pa_cons (pv 0) (pa_cons (pv 1) pa_nil))) pa_nil))) (by rfl))) pss_nil)
      (pss_cons (ps_set (i := 6) sc55.nd rfl (Or.inl rfl) (pe_can C4 hr1 (pa_cons (pv 3) (pa_cons (pv 4) pa_nil))))
      (pss_one (ps_ret (pe_tup (pa_cons (pe_op op_fdivW (pv 3) (pv 6)) (pa_cons (pe_op op_fdivW (pv 4) (pv 6)) (pa_cons (pv 5) pa_nil)))))))))), ?_⟩
    refine ⟨_, rfl, pe, 6, N, rfl, hp, by omega, by decide, by unfold Nb; decide, fun d1 H1 _ _ g1 => ?_⟩
    refine ⟨_, rfl, pe, 14, _, rfl, g1.pen, by omega, by decide, by unfold Nb; decide, fun p0 H2 p1 p2 g2 => ?_⟩
    refine ⟨_, rfl, pe, 14, _, rfl, g2.pen, by omega, by decide, by unfold Nb; decide, fun q0 H3 q1 q2 g3 => ?_⟩
    refine ⟨_, _, rfl, rfl, _, rfl, pe, 41, _, rfl, g3.pen, by omega, by decide, by unfold Nb; decide, fun c0 H4 c1 c2 g4 => ?_⟩
    refine ⟨_, _, rfl, rfl, _, _, _, rfl, ?_⟩
    have g := g1.trans (g2.trans (g3.trans g4))
    have sm : ∀ x : Int, -100 ≤ x → x ≤ 100 → Nb 65 x := fun x h1 h2 => by
      unfold Nb
      have : (2 : Nat) ^ 65 = 36893488147419103232 := by decide
      omega
    refine ⟨_, rfl, rfl, _, rfl, ite2 (fun _ => ?_) (fun _ => ?_)⟩
    · refine ⟨_, rfl, (by show 3 ≤ sizeLine; decide), fun a ha => ?_⟩
      exact k (.ref a) 0 1 (c0 - 20) _ ⟨a, rfl, upd_same⟩ (Int.le_refl _) (by decide) rfl (sm _ (by decide) (by decide)) (sm _ (by decide) (by decide)) (sm _ (by omega) (by omega)) ((g.same (Same.new ha)).more (by omega))
    · dsimp only [tNext]
      show tSeq (tIfS _ _ _) _ _ _ _
      refine mid (fun σ H' => ∃ p q c, σ = [some (.ref pe), some (.int f), some (.int d1), some (.int p), some (.int q), some (.int c), none] ∧ 0 ≤ p ∧ 0 < q ∧ Nb 65 p ∧ Nb 65 q ∧ Nb 65 c ∧ PenGo pe H H' (N + 180)) (fun R hR => ?_) ?_
      · have stay := hR _ _ ⟨p0, 1 + q0, c0 - 20, rfl, p1, by omega, sm _ (by omega) (by omega), sm _ (by omega) (by omega), sm _ (by omega) (by omega), g.more (by omega)⟩
        refine ⟨_, rfl, _, _, rfl, rfl, _, rfl, ite2 (fun _ => ?_) (fun _ => stay)⟩
        refine ⟨_, rfl, _, _, rfl, rfl, _, rfl, ite2 (fun _ => ?_) (fun _ => stay)⟩
        have fb : fbits f ≤ 64 := by unfold fbits; omega
        refine ⟨_, rfl, _, rfl, pe, f, _, rfl, by omega, g.pen, by omega, fun p H5 p0 np g5 => ?_⟩
        refine ⟨_, rfl, _, rfl, pe, f, _, rfl, by omega, g5.pen, by omega, fun q H6 q0 nq g6 => ⟨_, _, rfl, rfl, ?_⟩⟩
        refine ⟨_, rfl, _, rfl, pe, f, _, rfl, by omega, g6.pen, by omega, fun c H7 nc g7 => ⟨_, _, _, rfl, ?_⟩⟩
        exact hR _ _ ⟨p, 1 + q, c, rfl, p0, by omega, np.mono (by omega), by rw [Int.add_comm]; exact (nq.mono fb).succ, nc.mono (by omega), (g.trans (g5.trans (g6.trans g7))).more (by omega)⟩
      · rintro σ H5 ⟨p, q, c, rfl, p0, q0, np, nq, nc, g5⟩
        obtain ⟨gg, z1, z2, z3, z4, z5⟩ := lowest_ok (x := (p, q)) q0
        have hg : 0 < (Int.gcd p q : Int) := by
          have := Int.gcd_pos_of_ne_zero_right p (show q ≠ 0 by omega)
          omega
        have ng : Nb 65 (Int.gcd p q : Int) := by
          refine nq.le (Int.le_of_lt hg) ?_
          exact Int.le_of_dvd q0 (Int.gcd_dvd_right ..)
        refine ⟨_, rfl, _, rfl, p, q, rfl, _, rfl, _, rfl, _, _, rfl, rfl, ng.cdiv hg, _, rfl, _, rfl, _, _, rfl, rfl, ng.cdiv hg, _, rfl, (by show 3 ≤ sizeLine; decide), fun a ha => ?_⟩
        exact k (.ref a) (p / (Int.gcd p q : Int)) (q / (Int.gcd p q : Int)) c _ ⟨a, rfl, upd_same⟩ (Int.ediv_nonneg p0 (Int.le_of_lt hg)) z4 z5 (np.div hg) (nq.div hg) nc ((g5.same (Same.new ha)).more (by omega))
end
end K67

set_option Elab.async false
set_option linter.all false
set_option maxRecDepth 100000
set_option maxHeartbeats 4000000
namespace K67
open PySem PySem.Spec PyProof.Rows L2
theorem cnt_sz {p q c t : Int} {n : Nat} (hq : 0 < q) (np : Nb 65 p) (nc : Nb 65 c) (nt : Nb n t) (h : 1 ≤ n) : Nb (n + 66) (cnt p q c t) := by
  unfold cnt
  exact (((np.mul nt).mono (show 65 + n ≤ n + 65 by omega)).add (nc.mono (by omega))).div hq
theorem RecsV.go {pe : Addr} {H H' : Hp} {ws : List V} {rs : List Rec} {N M : Nat} (p : PenAt H pe N) (g : PenGo pe H H' M) (h : RecsV H ws rs) : RecsV H' ws rs := paired_mono (fun _ _ => TupV.go p g) h
theorem PenAt.lst {H H' : Hp} {pe b : Addr} {N M : Nat} {xs : List V} (h : PenAt H pe N) (g : PenGo pe H H' M) (hb : H b = some (.lst xs)) : H' b = some (.lst xs) := h.keep g.but hb (fun _ z => by cases z)
/-- a new list beside grows -/
theorem PenGo.app {pe fl : Addr} {H H1 : Hp} {N N1 : Nat} {ws : List V} {o : HO} (hp : PenAt H pe N1) (g : PenGo pe H H1 N) (hf : H fl = none) (h1 : H1 fl = some (.lst ws)) : PenGo pe H (upd H1 fl o) N := by
  obtain ⟨ca0, cells0, k0, l0, p1, p2, _⟩ := hp
  obtain ⟨b, cc, ca, cells, k, l, e1, e2, e3⟩ := g
  have n1 : pe ≠ fl := fun z => by rw [← z, e1] at h1; cases h1
  have eca : ca0 = ca := by
    obtain ⟨k', l', h'⟩ := cc ca0 k0 l0 p1
    rw [e1] at h'
    have := Option.some.inj h'
    injection this with this
    exact (penL_inj this).symm
  have n2 : ca ≠ fl := fun z => by rw [← z, ← eca, p2] at hf; cases hf
  have e1' : (upd H1 fl o) pe = some (.dK (penL ca k l)) := by rw [upd_ne n1]; exact e1
  refine ⟨fun c u e n => ?_, pen_ca (eca ▸ p1) e1', ca, cells, k, l, e1', ?_, e3⟩
  · rw [upd_ne (ne_of_none e hf)]
    exact b c u e n
  · rw [upd_ne n2]; exact e2
structure RecOk (p q c : Int) (B : Nat) (r : Rec) : Prop where
  sz : RecSz B r
  fit : Fits p q c r
section
variable {P : Program} {w : World} {K : PySem.W.Frag} {mg : Str → Option Value} {base : Heap}
def spRecs : Sp := fun vs H Q _ => ∃ (pe : Addr) (v : V) (p q c : Int) (mo f N : Nat), vs = [.ref pe, v, .int mo, .int f] ∧ TupV H v (ruL p q c) ∧ 0 < q ∧ Nb 65 p ∧ Nb 65 q ∧ Nb 65 c ∧ mo ≤ 10 ∧ f ≤ 40 ∧ PenAt H pe N ∧ N + 5000 ≤ 10 ^ 9 ∧
  ∀ l H' ws rs, PenGo pe H H' (N + 3000) → H l = none → H' l = some (.lst ws) → RecsV H' ws rs → (∀ r ∈ rs, RecOk p q c 250 r) → rs.length ≤ 10 → Q (.ref l) H'
theorem sc57 : FnScope ["_law_pen_here", "_law_rule", "_law_most", "_law_figures", "_law_result", "_law_sort", "_law_k", "_law_t", "_law_slack", "_law_kind", "_law_n"] ["_law_pen_here", "_law_rule", "_law_most", "_law_figures"] (defScope (top 57)) := ⟨rfl, rfl, rfl, by decide +kernel, rfl, by decide +kernel, by decide +kernel⟩
theorem can_records (T : Txt K mg) {f : Addr} {fd : FuncData} (D : Df K mg "_law_records" (top 57) ["_law_pen_here", "_law_rule", "_law_most", "_law_figures"] f fd) (C1 : Can P w K mg base "_law_draw" 1 ["_law_pen_here", "_law_many"] spDraw) (C2 : Can P w K mg base "_law_natural" 2 ["_law_pen_here", "_law_figures"] spNat)
    (C3 : Can P w K mg base "_law_integer" 3 ["_law_pen_here", "_law_figures"] spInteger) (C4 : Can P w K mg base "_law_pick" 2 ["_law_pen_here", "_law_options"] spPick) (C5 : Can P w K mg base "_law_count_at" 1 ["_law_rule", "_law_t"] spCnt) :
    Can P w K mg base "_law_records" 4 ["_law_pen_here", "_law_rule", "_law_most", "_law_figures"] spRecs := by
  refine D.can (D.fn.ok sc57 (fun vs H Q E h => ?_) (fun cdv A outer s H vs Q E hr h => ?_))
  · obtain ⟨pe, v, p, q, c, mo, f, N, rfl, _⟩ := h
    rfl
  · obtain ⟨pe, v, p, q, c, mo, f, N, rfl, hv, hq, np, nq, nc, hmo, hf, hp, hN, k⟩ := h
    have hr1 : Room 1 _ := hr.mono (by decide)
    have hr2 : Room 2 _ := hr.mono (by decide)
    refine ⟨_, pss_cons (ps_par (i := 4) (j := 5) (by rfl) sc57.nd rfl rfl (by decide) rfl rfl (pa_cons (pe_lst pa_nil) (pa_cons (pe_can C1 hr1 (pa_cons (pv 0) (pa_cons pe_int pa_nil))) pa_nil)) (by rfl))
      (pss_cons (ps_for PassesOwn.never rfl (pi_range1 (by rfl) T.range (pa_cons (pe_can C1 hr1 (pa_cons (pv 0) (pa_cons (pe_op op_add (pv 2) pe_int) pa_nil))) pa_nil)) (pg_name (i := 6) sc57.nd rfl (Or.inl rfl))
        (pss_cons (ps_set (i := 7) sc57.nd rfl (Or.inl rfl) (pe_ifExp (PW.pt (pw_or (pt_cmpR op_lt (pv 3) pe_int (nomark _)) (pw_or1 (pt_cmpR op_eq (pe_can C1 hr1 (pa_cons (pv 0) (pa_cons pe_int pa_nil))) pe_int (nomark _))))) (pe_op op_sub (pe_can C1 hr1 (pa_cons (pv 0) (pa_cons pe_int pa_nil))) pe_int) (pe_can C3 hr (pa_cons (pv 0) (pa_cons (pv 3) pa_nil)))))
        (pss_cons (ps_set (i := 8) sc57.nd rfl (Or.inl rfl) (pe_can C4 hr2 (pa_cons (pv 0) (pa_cons (pe_lst (pa_cons pe_int (pa_cons pe_int (pa_cons pe_int (pa_cons pe_int (pa_cons pe_int (pa_cons (pe_can C1 hr1 (pa_cons (pv 0) (pa_cons pe_int pa_nil)))
            (pa_cons (pe_can C2 hr2 (pa_cons (pv 0) (pa_cons (pe_callB (call_min2 rfl) (by rfl) T.min (by decide +kernel) (pa_cons (pv 3) (pa_cons (pe_op op_add pe_int (pe_op op_fdivW (pv 3) pe_int)) pa_nil))) pa_nil))) pa_nil)))))))) pa_nil))))
        (pss_cons (ps_set (i := 9) sc57.nd rfl (Or.inl rfl) (pe_ifExp (pt_cmpR op_lt (pv 5) pe_int (nomark _)) (pe_ix ix_list (pe_lst (pa_cons pe_str (pa_cons pe_str pa_nil))) (pv 5) (fun _ _ => rfl)) (pe_can C4 hr2 (pa_cons (pv 0) (pa_cons (pe_lst (pa_cons pe_str (pa_cons pe_str pa_nil))) pa_nil)))))
        (pss_cons (ps_set (i := 10) sc57.nd rfl (Or.inl rfl) (pe_can C5 hr1 (pa_cons (pv 1) (pa_cons (pv 7) pa_nil))))
        (pss_one (ps_expr (pe_bm PySem.F.plainAttrs_list PySem.F.slot_list_append PySem.F.type_list_append mt_append (pv 4) (pa_cons (pe_tup (pa_cons (pv 9) (pa_cons (pv 7) (pa_cons (pe_ifExp (pt_cmpR op_eq (pv 9) pe_str (nomark _)) (pe_op op_sub (pv 10) (pv 8)) (pe_op op_add (pv 10) (pv 8))) pa_nil)))) pa_nil)))))))))
      (pss_one (ps_ret (pv 4)))), ?_⟩
    refine ⟨Nat.zero_le _, fun fl hfl => ?_⟩
    have s1 := Same.new (o := .lst []) hfl
    refine ⟨_, rfl, pe, 8, N, rfl, hp.same s1, by omega, by decide, by unfold Nb; decide, fun so H1 so0 so8 g1 => ⟨_, _, rfl, ?_⟩⟩
    have g01 := ((PenGo.refl hp).same s1).trans g1
    have hfl1 : H1 fl = some (.lst []) := (hp.same s1).lst g1 upd_same
    refine ⟨_, rfl, _, rfl, _, _, rfl, rfl, pe, mo + 1, N + 1, rfl, g1.pen, by omega, by omega, ?_, fun d H2 d0 d1 g2 => ⟨d, rfl, by omega, by omega, ?_⟩⟩
    · unfold Nb
      have : (2 : Nat) ^ 64 = 18446744073709551616 := by decide
      omega
    have g02 := g01.trans g2
    have hfl2 := g1.pen.lst g2 hfl1
    refine for_range (fun i σ H' => ∃ s6 s7 s8 s9 s10 ws rs, σ = [some (.ref pe), some v, some (.int mo), some (.int f), some (.ref fl), some (.int so), s6, s7, s8, s9, s10] ∧ PenGo pe H H' (N + 2 + 200 * i) ∧ H' fl = some (.lst ws) ∧ RecsV H' ws rs ∧ (∀ r ∈ rs, RecOk p q c 250 r) ∧ rs.length = i)
      ⟨none, none, none, none, none, [], [], rfl, g02, hfl2, .nil, fun r hr => (by cases hr), rfl⟩ ?_ ?_
    · rintro i σ H3 hi ⟨s6, s7, s8, s9, s10, ws, rs, rfl, g3, hfl3, hws, hok, hlen⟩
      have hi10 : i < 10 := by omega
      have sm : ∀ x : Int, -100 ≤ x → x ≤ 100 → Nb 134 x := fun x h1 h2 => by
        have : Nb 65 x := by
          unfold Nb
          have : (2 : Nat) ^ 65 = 36893488147419103232 := by decide
          omega
        exact this.mono (by decide)
      have ff : fbits f ≤ 134 := by unfold fbits; omega
      dsimp only
      show tSeq (tAsg _ _) _ _ _ _
      refine mid (fun σ H' => ∃ t : Int, σ = [some (.ref pe), some v, some (.int mo), some (.int f), some (.ref fl), some (.int so), some (.int (0 + (i : Nat))), some (.int t), s8, s9, s10] ∧ Nb 134 t ∧ PenGo pe H H' (N + 2 + 200 * i + 50) ∧ H' fl = some (.lst ws) ∧ RecsV H' ws rs) (fun R hR => ?_) ?_
      · have small : ∀ H4, PenGo pe H3 H4 (N + 2 + 200 * i + 1) → tOp (rI0 fun i j => .int (i - j)) (tCall spDraw [] E0 (tCons (tVar 0) (tCons (tC (.int 41)) tNil))) (tC (.int 20)) [some (.ref pe), some v, some (.int mo), some (.int f), some (.ref fl), some (.int so), some (.int (0 + (i : Nat))), s7, s8, s9, s10] H4
            (fun x H5 => R [some (.ref pe), some v, some (.int mo), some (.int f), some (.ref fl), some (.int so), some (.int (0 + (i : Nat))), some x, s8, s9, s10] H5) := by
          intro H4 g4
          refine ⟨_, rfl, pe, 41, _, rfl, g4.pen, by omega, by decide, by unfold Nb; decide, fun d H5 d0 d1 g5 => ⟨_, _, rfl, rfl, ?_⟩⟩
          exact hR _ _ ⟨d - 20, rfl, sm _ (by omega) (by omega), (g3.trans (g4.trans g5)).more (by omega), g3.pen.lst (g4.trans g5) hfl3, RecsV.go g3.pen (g4.trans g5) hws⟩
        refine ⟨_, rfl, _, _, rfl, rfl, _, rfl, ite2 (fun _ => ?_) (fun _ => ?_)⟩
        · exact small H3 (PenGo.refl (g3.pen.more (by omega)))
        · refine ⟨_, rfl, pe, 2, _, rfl, g3.pen, by omega, by decide, by unfold Nb; decide, fun d H4 d0 d1 g4 => ⟨rfl, _, rfl, ite2 (fun _ => ?_) (fun _ => ?_)⟩⟩
          · exact small H4 g4
          · refine ⟨_, rfl, _, rfl, pe, f, _, rfl, by omega, g4.pen, by omega, fun t H5 nt g5 => ?_⟩
            exact hR _ _ ⟨t, rfl, nt.mono ff, (g3.trans (g4.trans g5)).more (by omega), g3.pen.lst (g4.trans g5) hfl3, RecsV.go g3.pen (g4.trans g5) hws⟩
      rintro σ H4 ⟨t, rfl, nt, g4, hfl4, hws4⟩
      -- the slack
      show tSeq (tAsg _ _) _ _ _ _
      refine mid (fun σ H' => ∃ s : Int, σ = [some (.ref pe), some v, some (.int mo), some (.int f), some (.ref fl), some (.int so), some (.int (0 + (i : Nat))), some (.int t), some (.int s), s9, s10] ∧ 0 ≤ s ∧ Nb 134 s ∧ PenGo pe H H' (N + 2 + 200 * i + 100) ∧ H' fl = some (.lst ws) ∧ RecsV H' ws rs) (fun R hR => ?_) ?_
      · refine ⟨_, rfl, _, rfl, pe, 9, _, rfl, g4.pen, by omega, by decide, by unfold Nb; decide, fun d H5 d0 d1 g5 => ?_⟩
        have e : (if 3 + (f : Int) / 2 < (f : Int) then 3 + (f : Int) / 2 else (f : Int)) = ((min f (3 + f / 2) : Nat) : Int) := by split <;> omega
        refine ⟨_, rfl, _, rfl, _, rfl, _, _, rfl, rfl, Nb.cdiv (n := 2) (by unfold Nb; decide) (by decide), _, _, rfl, rfl, _, _, rfl, ?_⟩
        refine ⟨pe, min f (3 + f / 2), _, congrArg (fun z => [V.ref pe, V.int z]) e, by omega, g5.pen, by omega, fun sl H6 sl0 nsl g6 => ?_⟩
        refine ⟨(by show 7 ≤ sizeLine; decide), fun a ha => ?_⟩
        have s7 := Same.new (o := .lst [.int 0, .int 0, .int 0, .int 1, .int 2, .int d, .int sl]) ha
        have g7 := (g5.trans g6).same s7
        refine ⟨pe, a, _, _, rfl, g7.pen, by omega, upd_same, (fun z => by cases z), (by show 7 ≤ 1000; decide), fun ix x H8 hx g8 => ?_⟩
        have g48 := g7.trans g8
        have fin : ∀ s : Int, x = .int s → 0 ≤ s → Nb 134 s → R [some (.ref pe), some v, some (.int mo), some (.int f), some (.ref fl), some (.int so), some (.int (0 + (i : Nat))), some (.int t), some x, s9, s10] H8 := by
          rintro s rfl h0 ns
          exact hR _ _ ⟨s, rfl, h0, ns, (g4.trans g48).more (by omega), g4.pen.lst g48 hfl4, RecsV.go g4.pen g48 hws4⟩
        have hx : ([V.int 0, V.int 0, V.int 0, V.int 1, V.int 2, V.int d, V.int sl] : List V)[ix]? = some x := hx
        match ix, hx with
        | 0, hx => simp at hx; exact fin 0 hx.symm (by decide) (sm _ (by decide) (by decide))
        | 1, hx => simp at hx; exact fin 0 hx.symm (by decide) (sm _ (by decide) (by decide))
        | 2, hx => simp at hx; exact fin 0 hx.symm (by decide) (sm _ (by decide) (by decide))
        | 3, hx => simp at hx; exact fin 1 hx.symm (by decide) (sm _ (by decide) (by decide))
        | 4, hx => simp at hx; exact fin 2 hx.symm (by decide) (sm _ (by decide) (by decide))
        | 5, hx => simp at hx; exact fin d hx.symm d0 (sm _ (by omega) (by omega))
        | 6, hx => simp at hx; exact fin sl hx.symm sl0 (nsl.mono (by unfold fbits; omega))
        | ix + 7, hx => simp at hx
      rintro σ H5 ⟨sl, rfl, sl0, nsl, g5, hfl5, hws5⟩
      -- the kind
      show tSeq (tAsg _ _) _ _ _ _
      refine mid (fun σ H' => ∃ b : Bool, σ = [some (.ref pe), some v, some (.int mo), some (.int f), some (.ref fl), some (.int so), some (.int (0 + (i : Nat))), some (.int t), some (.int sl), some (.str (kindS b)), s10] ∧ PenGo pe H H' (N + 2 + 200 * i + 150) ∧ H' fl = some (.lst ws) ∧ RecsV H' ws rs) (fun R hR => ?_) ?_
      · refine ⟨_, rfl, _, _, rfl, rfl, _, rfl, ite2 (fun cs => ?_) (fun _ => ?_)⟩
        · have cs := of_decide_eq_true cs
          refine ⟨(by show 2 ≤ sizeLine; decide), fun a ha => ?_⟩
          have s6 := Same.new (o := .lst [.str "at least", .str "at most"]) ha
          have fin : ∀ b : Bool, R [some (.ref pe), some v, some (.int mo), some (.int f), some (.ref fl), some (.int so), some (.int (0 + (i : Nat))), some (.int t), some (.int sl), some (.str (kindS b)), s10] (upd H5 a (.lst [.str "at least", .str "at most"])) := fun b =>
            hR _ _ ⟨b, rfl, (g5.same s6).more (by omega), s6 _ _ hfl5, RecsV.same s6 hws5⟩
          have hso : so = 0 ∨ so = 1 := by omega
          rcases hso with rfl | rfl
          · exact ⟨_, rfl, a, _, 0, .str "at least", rfl, rfl, SqL.of upd_same, atI_nat (j := 0) rfl, fin true⟩
          · exact ⟨_, rfl, a, _, 1, .str "at most", rfl, rfl, SqL.of upd_same, atI_nat (j := 1) rfl, fin false⟩
        · refine ⟨_, rfl, (by show 2 ≤ sizeLine; decide), fun a ha => ?_⟩
          have s6 := Same.new (o := .lst [.str "at least", .str "at most"]) ha
          have g6 := (PenGo.refl g5.pen).same s6
          refine ⟨pe, a, _, _, rfl, g6.pen, by omega, upd_same, (fun z => by cases z), (by show 2 ≤ 1000; decide), fun ix x H8 hx g8 => ?_⟩
          have g58 := g6.trans g8
          have fin : ∀ b : Bool, x = .str (kindS b) → R [some (.ref pe), some v, some (.int mo), some (.int f), some (.ref fl), some (.int so), some (.int (0 + (i : Nat))), some (.int t), some (.int sl), some x, s10] H8 := by
            rintro b rfl
            exact hR _ _ ⟨b, rfl, (g5.trans g58).more (by omega), g5.pen.lst g58 hfl5, RecsV.go g5.pen g58 hws5⟩
          have hx : ([V.str "at least", V.str "at most"] : List V)[ix]? = some x := hx
          match ix, hx with
          | 0, hx => simp at hx; exact fin true hx.symm
          | 1, hx => simp at hx; exact fin false hx.symm
          | ix + 2, hx => simp at hx
      rintro σ H6 ⟨b, rfl, g6, hfl6, hws6⟩
      refine ⟨_, rfl, _, rfl, v, p, q, c, t, rfl, TupV.go hp g6 hv, hq, np.mono (by decide), nq.mono (by decide), nt.mono (by decide), ?_⟩
      have ncnt := cnt_sz hq np nc nt (by decide)
      have add : ∀ (r : Rec) (tp : Addr), H6 tp = none → RecOk p q c 250 r →
          (∃ s6 s7 s8 s9 s10 ws' rs', [some (V.ref pe), some v, some (.int mo), some (.int f), some (.ref fl), some (.int so), some (.int (0 + (i : Nat))), some (.int t), some (.int sl), some (.str (kindS b)), some (.int (cnt p q c t))] = [some (V.ref pe), some v, some (.int mo), some (.int f), some (.ref fl), some (.int so), s6, s7, s8, s9, s10] ∧
            PenGo pe H (upd (upd H6 tp (.tup (recL r))) fl (.lst (ws ++ [.ref tp]))) (N + 2 + 200 * (i + 1)) ∧ (upd (upd H6 tp (.tup (recL r))) fl (.lst (ws ++ [.ref tp]))) fl = some (.lst ws') ∧ RecsV (upd (upd H6 tp (.tup (recL r))) fl (.lst (ws ++ [.ref tp]))) ws' rs' ∧ (∀ r ∈ rs', RecOk p q c 250 r) ∧ rs'.length = i + 1) := by
        intro r tp htp hr
        have s7 := Same.new (o := .tup (recL r)) htp
        have hfl7 := s7 _ _ hfl6
        have bf : But fl (upd H6 tp (.tup (recL r))) (upd (upd H6 tp (.tup (recL r))) fl (.lst (ws ++ [.ref tp]))) := But.upd
        refine ⟨_, _, _, _, _, ws ++ [.ref tp], rs ++ [r], rfl, (PenGo.app hp (g6.same s7) hfl hfl7).more (by omega), upd_same, ?_, ?_, by rw [List.length_append]; show rs.length + 1 = i + 1; omega⟩
        · exact paired_snoc (F := RecV _) (TupV.butL bf hfl7 ⟨tp, rfl, upd_same⟩) (paired_mono (fun _ _ => TupV.butL bf hfl7) (RecsV.same s7 hws6))
        · intro r' hr'
          rcases List.mem_append.mp hr' with h | h
          · exact hok r' h
          · rw [List.mem_singleton.mp h]; exact hr
      have hwl := paired_len hws
      refine ⟨_, rfl, .inl ⟨rfl, _, SqL.of hfl6⟩, _, rfl, _, rfl, _, rfl, rfl, _, rfl, ?_⟩
      have ns := nsl.mono (show 134 ≤ 200 by decide)
      cases b with
      | true =>
        refine ite2 (fun _ => ?_) (fun c => absurd (by decide +kernel) c)
        refine ⟨_, rfl, _, rfl, _, _, rfl, rfl, (by show 3 ≤ sizeLine; decide), fun tp htp => ⟨fl, ws, .ref tp, rfl, rfl, (Same.new htp) _ _ hfl6, small1000 (by omega), ?_⟩⟩
        exact add ⟨true, t, cnt p q c t - sl⟩ tp htp ⟨⟨nt.mono (by decide), (ncnt.sub ns).mono (by decide)⟩, (fits_cnt hq).mpr (by rw [if_pos rfl]; show cnt p q c t - sl ≤ cnt p q c t; omega)⟩
      | false =>
        refine ite2 (fun c => absurd c (by decide +kernel)) (fun _ => ?_)
        refine ⟨_, rfl, _, rfl, _, _, rfl, rfl, (by show 3 ≤ sizeLine; decide), fun tp htp => ⟨fl, ws, .ref tp, rfl, rfl, (Same.new htp) _ _ hfl6, small1000 (by omega), ?_⟩⟩
        exact add ⟨false, t, cnt p q c t + sl⟩ tp htp ⟨⟨nt.mono (by decide), (ncnt.add ns).mono (by decide)⟩, (fits_cnt hq).mpr (by rw [if_neg (by exact Bool.false_ne_true)]; show cnt p q c t ≤ cnt p q c t + sl; omega)⟩
    · rintro σ H3 ⟨s6, s7, s8, s9, s10, ws, rs, rfl, g3, hfl3, hws, hok, hlen⟩
      exact ⟨_, rfl, k fl H3 ws rs (g3.more (by omega)) hfl hfl3 hws hok (by omega)⟩
end
end K67

set_option Elab.async false
set_option linter.all false
set_option maxRecDepth 100000
set_option maxHeartbeats 4000000
namespace K67
open PySem PySem.Spec PyProof.Rows L2
section
variable {P : Program} {w : World} {K : PySem.W.Frag} {mg : Str → Option Value} {base : Heap}
/-! ### _law_loose, _law_far_records, _law_handed -/
def spLoose : Sp := fun vs H Q _ => ∃ (pe : Addr) (v : V) (p q c : Int) (m f N : Nat), vs = [.ref pe, v, .int m, .int f] ∧ TupV H v (ruL p q c) ∧ 0 < q ∧ Nb 65 p ∧ Nb 65 q ∧ Nb 65 c ∧ m ≤ 50 ∧ f ≤ 40 ∧ PenAt H pe N ∧ N + 10000 ≤ 10 ^ 9 ∧
  ∀ l H' ws rs, PenGo pe H H' (N + 5000) → H l = none → H' l = some (.lst ws) → RecsV H' ws rs → (∀ r ∈ rs, RecOk p q c 250 r) → rs.length ≤ 50 → Q (.ref l) H'
theorem sc58 : FnScope ["_law_pen_here", "_law_rule", "_law_many", "_law_figures", "_law_result", "_law_k", "_law_t", "_law_n", "_law_spare"] ["_law_pen_here", "_law_rule", "_law_many", "_law_figures"] (defScope (top 58)) := ⟨rfl, rfl, rfl, by decide +kernel, rfl, by decide +kernel, by decide +kernel⟩
theorem can_loose (T : Txt K mg) {f : Addr} {fd : FuncData} (D : Df K mg "_law_loose" (top 58) ["_law_pen_here", "_law_rule", "_law_many", "_law_figures"] f fd) (C1 : Can P w K mg base "_law_draw" 1 ["_law_pen_here", "_law_many"] spDraw)
    (C3 : Can P w K mg base "_law_integer" 3 ["_law_pen_here", "_law_figures"] spInteger) (C5 : Can P w K mg base "_law_count_at" 1 ["_law_rule", "_law_t"] spCnt) :
    Can P w K mg base "_law_loose" 4 ["_law_pen_here", "_law_rule", "_law_many", "_law_figures"] spLoose := by
  refine D.can (D.fn.ok sc58 (fun vs H Q E h => ?_) (fun cdv A outer s H vs Q E hr h => ?_))
  · obtain ⟨pe, v, p, q, c, m, f, N, rfl, _⟩ := h
    rfl
  · obtain ⟨pe, v, p, q, c, m, f, N, rfl, hv, hq, np, nq, nc, hm, hf, hp, hN, k⟩ := h
    have hr1 : Room 1 _ := hr.mono (by decide)
    refine ⟨_, pss_cons (ps_set (i := 4) sc58.nd rfl (Or.inl rfl) (pe_lst pa_nil))
      (pss_cons (ps_for PassesOwn.never rfl (pi_range1 (by rfl) T.range (pa_cons (pv 2) pa_nil)) (pg_name (i := 5) sc58.nd rfl (Or.inl rfl))
        (pss_cons (ps_set (i := 6) sc58.nd rfl (Or.inl rfl) (pe_can C3 hr (pa_cons (pv 0) (pa_cons (pv 3) pa_nil))))
        (pss_cons (ps_par (i := 7) (j := 8) (by rfl) sc58.nd rfl rfl (by decide) rfl rfl (pa_cons (pe_can C5 hr1 (pa_cons (pv 1) (pa_cons (pv 6) pa_nil))) (pa_cons (pe_op op_add pe_int (pe_can C1 hr1 (pa_cons (pv 0) (pa_cons pe_int pa_nil)))) pa_nil)) (by rfl))
        (pss_one (ps_expr (pe_bm PySem.F.plainAttrs_list PySem.F.slot_list_append PySem.F.type_list_append mt_append (pv 4) (pa_cons (pe_ifExp (pt_cmpR op_eq (pe_can C1 hr1 (pa_cons (pv 0) (pa_cons pe_int pa_nil))) pe_int (nomark _)) (pe_tup (pa_cons pe_str (pa_cons (pv 6) (pa_cons (pe_op op_sub (pv 7) (pv 8)) pa_nil)))) (pe_tup (pa_cons pe_str (pa_cons (pv 6) (pa_cons (pe_op op_add (pv 7) (pv 8)) pa_nil))))) pa_nil)))))))
      (pss_one (ps_ret (pv 4)))), ?_⟩
    refine ⟨Nat.zero_le _, fun fl hfl => ?_⟩
    have s1 := Same.new (o := .lst []) hfl
    refine ⟨_, rfl, m, rfl, by omega, by omega, ?_⟩
    rw [Int.toNat_natCast]
    refine for_range (fun i σ H' => ∃ s5 s6 s7 s8 ws rs, σ = [some (.ref pe), some v, some (.int m), some (.int f), some (.ref fl), s5, s6, s7, s8] ∧ PenGo pe H H' (N + 100 * i) ∧ H' fl = some (.lst ws) ∧ RecsV H' ws rs ∧ (∀ r ∈ rs, RecOk p q c 250 r) ∧ rs.length = i)
      ⟨none, none, none, none, [], [], rfl, (PenGo.refl hp).same s1, upd_same, .nil, fun r hr => (by cases hr), rfl⟩ ?_ ?_
    · rintro i σ H3 hi ⟨s5, s6, s7, s8, ws, rs, rfl, g3, hfl3, hws, hok, hlen⟩
      have ff : fbits f ≤ 134 := by unfold fbits; omega
      refine ⟨_, rfl, _, rfl, pe, f, _, rfl, by omega, g3.pen, by omega, fun t H4 nt g4 => ?_⟩
      have nt := nt.mono ff
      have g34 := g3.trans g4
      refine ⟨_, rfl, _, rfl, v, p, q, c, t, rfl, TupV.go hp g34 hv, hq, np.mono (by decide), nq.mono (by decide), nt.mono (by decide), ?_⟩
      have ncnt := cnt_sz hq np nc nt (by decide)
      refine ⟨_, rfl, pe, 90, _, rfl, g4.pen, by omega, by decide, by unfold Nb; decide, fun d H5 d0 d1 g5 => ⟨_, _, rfl, rfl, _, _, rfl, ?_⟩⟩
      have g35 := g4.trans g5
      have ns : Nb 200 (3 + d) := by
        have : Nb 65 (3 + d) := by
          unfold Nb
          have : (2 : Nat) ^ 65 = 36893488147419103232 := by decide
          omega
        exact this.mono (by decide)
      refine ⟨_, rfl, .inl ⟨rfl, _, SqL.of (g3.pen.lst g35 hfl3)⟩, _, rfl, pe, 2, _, rfl, g5.pen, by omega, by decide, by unfold Nb; decide, fun e H6 e0 e1 g6 => ⟨rfl, _, rfl, ?_⟩⟩
      have g36 := g35.trans g6
      have hfl6 := g3.pen.lst g36 hfl3
      have hws6 := RecsV.go g3.pen g36 hws
      have g6' := g3.trans g36
      have hwl := paired_len hws
      have add : ∀ (r : Rec) (tp : Addr), H6 tp = none → RecOk p q c 250 r →
          (∃ s5 s6 s7 s8 ws' rs', [some (V.ref pe), some v, some (.int m), some (.int f), some (.ref fl), some (.int (0 + (i : Nat))), some (.int t), some (.int (cnt p q c t)), some (.int (3 + d))] = [some (V.ref pe), some v, some (.int m), some (.int f), some (.ref fl), s5, s6, s7, s8] ∧
            PenGo pe H (upd (upd H6 tp (.tup (recL r))) fl (.lst (ws ++ [.ref tp]))) (N + 100 * (i + 1)) ∧ (upd (upd H6 tp (.tup (recL r))) fl (.lst (ws ++ [.ref tp]))) fl = some (.lst ws') ∧ RecsV (upd (upd H6 tp (.tup (recL r))) fl (.lst (ws ++ [.ref tp]))) ws' rs' ∧ (∀ r ∈ rs', RecOk p q c 250 r) ∧ rs'.length = i + 1) := by
        intro r tp htp hr
        have s7 := Same.new (o := .tup (recL r)) htp
        have hfl7 := s7 _ _ hfl6
        have bf : But fl (upd H6 tp (.tup (recL r))) (upd (upd H6 tp (.tup (recL r))) fl (.lst (ws ++ [.ref tp]))) := But.upd
        refine ⟨_, _, _, _, ws ++ [.ref tp], rs ++ [r], rfl, (PenGo.app hp (g6'.same s7) hfl hfl7).more (by omega), upd_same, ?_, ?_, by rw [List.length_append]; show rs.length + 1 = i + 1; omega⟩
        · exact paired_snoc (F := RecV _) (TupV.butL bf hfl7 ⟨tp, rfl, upd_same⟩) (paired_mono (fun _ _ => TupV.butL bf hfl7) (RecsV.same s7 hws6))
        · intro r' hr'
          rcases List.mem_append.mp hr' with h | h
          · exact hok r' h
          · rw [List.mem_singleton.mp h]; exact hr
      refine ite2 (fun _ => ?_) (fun _ => ?_)
      · refine ⟨_, rfl, _, rfl, _, rfl, _, _, rfl, rfl, (by show 3 ≤ sizeLine; decide), fun tp htp => ⟨fl, ws, .ref tp, rfl, rfl, (Same.new htp) _ _ hfl6, small1000 (by omega), ?_⟩⟩
        exact add ⟨true, t, cnt p q c t - (3 + d)⟩ tp htp ⟨⟨nt.mono (by decide), (ncnt.sub ns).mono (by decide)⟩, (fits_cnt hq).mpr (by rw [if_pos rfl]; show cnt p q c t - (3 + d) ≤ cnt p q c t; omega)⟩
      · refine ⟨_, rfl, _, rfl, _, rfl, _, _, rfl, rfl, (by show 3 ≤ sizeLine; decide), fun tp htp => ⟨fl, ws, .ref tp, rfl, rfl, (Same.new htp) _ _ hfl6, small1000 (by omega), ?_⟩⟩
        exact add ⟨false, t, cnt p q c t + (3 + d)⟩ tp htp ⟨⟨nt.mono (by decide), (ncnt.add ns).mono (by decide)⟩, (fits_cnt hq).mpr (by rw [if_neg (by exact Bool.false_ne_true)]; show cnt p q c t ≤ cnt p q c t + (3 + d); omega)⟩
    · rintro σ H3 ⟨s5, s6, s7, s8, ws, rs, rfl, g3, hfl3, hws, hok, hlen⟩
      exact ⟨_, rfl, k fl H3 ws rs (g3.more (by omega)) hfl hfl3 hws hok (by omega)⟩
def spFar : Sp := fun vs H Q _ => ∃ (pe : Addr) (f N : Nat), vs = [.ref pe, .int f] ∧ f ≤ 40 ∧ PenAt H pe N ∧ N + 50000 ≤ 10 ^ 9 ∧
  ∀ v l vr p q c H' ws rs, PenGo pe H H' (N + 10000) → TupV H' v [.ref l, vr] → TupV H' vr (ruL p q c) → 0 ≤ p → 0 < q → Int.gcd p q = 1 → Nb 65 p → Nb 65 q → Nb 65 c → H l = none → H' l = some (.lst ws) → RecsV H' ws rs → (∀ r ∈ rs, RecOk p q c 250 r) → rs.length ≤ 60 → Q v H'
theorem sc59 : FnScope ["_law_pen_here", "_law_figures", "_law_rule", "_law_loose_here"] ["_law_pen_here", "_law_figures"] (defScope (top 59)) := ⟨rfl, rfl, rfl, by decide +kernel, rfl, by decide +kernel, by decide +kernel⟩
theorem can_far {f : Addr} {fd : FuncData} (D : Df K mg "_law_far_records" (top 59) ["_law_pen_here", "_law_figures"] f fd) (C1 : Can P w K mg base "_law_draw" 1 ["_law_pen_here", "_law_many"] spDraw) (C2 : Can P w K mg base "_law_hidden" 4 ["_law_pen_here", "_law_figures"] spHid)
    (C3 : Can P w K mg base "_law_loose" 4 ["_law_pen_here", "_law_rule", "_law_many", "_law_figures"] spLoose) (C4 : Can P w K mg base "_law_records" 4 ["_law_pen_here", "_law_rule", "_law_most", "_law_figures"] spRecs) (C5 : Can P w K mg base "_law_pick" 2 ["_law_pen_here", "_law_options"] spPick) :
    Can P w K mg base "_law_far_records" 5 ["_law_pen_here", "_law_figures"] spFar := by
  refine D.can (D.fn.ok sc59 (fun vs H Q E h => ?_) (fun cdv A outer s H vs Q E hr h => ?_))
  · obtain ⟨pe, f, N, rfl, _⟩ := h
    rfl
  · obtain ⟨pe, f, N, rfl, hf, hp, hN, k⟩ := h
    have hr1 : Room 1 _ := hr.mono (by decide)
    have hr2 : Room 2 _ := hr.mono (by decide)
    refine ⟨_, pss_cons (ps_set (i := 2) sc59.nd rfl (Or.inl rfl) (pe_can C2 hr (pa_cons (pv 0) (pa_cons (pe_op op_fdivW (pv 1) pe_int) pa_nil))))
      (pss_cons (ps_set (i := 3) sc59.nd rfl (Or.inl rfl) (pe_can C3 hr (pa_cons (pv 0) (pa_cons (pv 2) (pa_cons (pe_ifExp (pt_cmpR op_eq (pe_can C1 hr1 (pa_cons (pv 0) (pa_cons pe_int pa_nil))) pe_int (nomark _)) (pe_op op_add pe_int (pe_can C1 hr1 (pa_cons (pv 0) (pa_cons pe_int pa_nil)))) pe_int) (pa_cons (pv 1) pa_nil))))))
      (pss_one (ps_ret (pe_tup (pa_cons (pe_op op_cat (pv 3) (pe_can C4 hr (pa_cons (pv 0) (pa_cons (pv 2) (pa_cons (pe_can C5 hr2 (pa_cons (pv 0) (pa_cons (pe_lst (pa_cons pe_int (pa_cons pe_int (pa_cons pe_int pa_nil)))) pa_nil))) (pa_cons (pv 1) pa_nil)))))) (pa_cons (pv 2) pa_nil)))))), ?_⟩
    have e2 : (f : Int) / 2 = ((f / 2 : Nat) : Int) := by omega
    refine ⟨_, rfl, _, rfl, _, _, rfl, rfl, Nb.cdiv (n := 2) (by unfold Nb; decide) (by decide), pe, f / 2, N, rfl, by omega, hp, by omega, fun vr p q c H1 hvr p0 q0 hg np nq nc g1 => ?_⟩
    have hvr0 := hvr
    have fin : ∀ (m : Nat) (H3 : Hp), m ≤ 50 → PenGo pe H1 H3 (N + 202) → spLoose [.ref pe, vr, .int m, .int f] H3 (fun x H' =>
        tRet (tTup (tCons (tOp rCat (tVar 3) (tCall spRecs [] E0 (tCons (tVar 0) (tCons (tVar 2) (tCons (tCall spPick [] E0 (tCons (tVar 0) (tCons (tLst (tCons (tC (.int 2)) (tCons (tC (.int 5)) (tCons (tC (.int 10)) tNil)))) tNil))) (tCons (tVar 1) tNil)))))) (tCons (tVar 2) tNil)))
          { nx := fun _ H' => Q .non H', rt := Q } [some (.ref pe), some (.int f), some vr, some x] H') E0 := by
      intro m H3 hm g3
      refine ⟨pe, vr, p, q, c, m, f, _, rfl, TupV.go g1.pen g3 hvr, q0, np, nq, nc, hm, hf, g3.pen, by omega, fun la H4 wa ra g4 hla hla4 hwa hoka hlena => ?_⟩
      have g14 := g3.trans g4
      refine ⟨_, rfl, _, rfl, _, rfl, _, rfl, (by show 3 ≤ sizeLine; decide), fun oa hoa => ?_⟩
      have s5 := Same.new (o := .lst [.int 2, .int 5, .int 10]) hoa
      have g5 := (PenGo.refl g4.pen).same s5
      refine ⟨pe, oa, _, _, rfl, g5.pen, by omega, upd_same, (fun z => by cases z), (by show 3 ≤ 1000; decide), fun ix x H6 hx g6 => ?_⟩
      have g46 := g5.trans g6
      have g16 := g14.trans g46
      have go2 : ∀ mo : Nat, x = .int mo → mo ≤ 10 → tCons (tVar 1) tNil [some (.ref pe), some (.int f), some vr, some (.ref la)] H6 (fun xs H1 => spRecs (.ref pe :: vr :: x :: (xs ++ [])) H1 (fun y H2 => rCat (.ref la) y H2 fun z H3 => tCons (tVar 2) tNil [some (.ref pe), some (.int f), some vr, some (.ref la)] H3 fun zs H4 => ((z :: zs).length ≤ sizeLine ∧ ∀ q, H4 q = none → Q (.ref q) (upd H4 q (.tup (z :: zs))))) E0) := by
        rintro mo rfl hmo
        refine ⟨_, rfl, pe, vr, p, q, c, mo, f, _, rfl, TupV.go g1.pen g16 hvr, q0, np, nq, nc, hmo, hf, g6.pen, by omega, fun lb H7 wb rb g7 hlb hlb7 hwb hokb hlenb => ?_⟩
        have g47 := g46.trans g7
        have hla7 := g4.pen.lst g47 hla4
        have hwa7 := RecsV.go g4.pen g47 hwa
        have l1 := paired_len hwa
        have l2 := paired_len hwb
        refine ⟨la, lb, wa, wb, rfl, rfl, hla7, hlb7, Nat.le_of_lt (small1000 (by omega)), fun lc hlc => ?_⟩
        have s8 := Same.new (o := .lst (wa ++ wb)) hlc
        refine ⟨_, rfl, (by show 2 ≤ sizeLine; decide), fun tp htp => ?_⟩
        have s9 := Same.new (o := .tup [.ref lc, vr]) htp
        have gall := (g1.trans (g14.trans g47)).same (s8.trans s9)
        have hlc0 : H lc = none := by
          have gg := g1.trans (g14.trans g47)
          cases e : H lc with
          | none => rfl
          | some o =>
            by_cases z : lc = pe
            · obtain ⟨ca, cells, kk, l, e1, _⟩ := gg.pen
              rw [z, e1] at hlc
              cases hlc
            · rw [gg.but lc o e z] at hlc
              cases hlc
        refine k (.ref tp) lc vr p q c _ (wa ++ wb) (ra ++ rb) (gall.more (by omega)) ⟨tp, rfl, upd_same⟩ ?_ p0 q0 hg np nq nc hlc0 (s9 _ _ upd_same) (paired_append (RecsV.same (s8.trans s9) hwa7) (RecsV.same (s8.trans s9) hwb)) (fun r hr => ?_) (by rw [List.length_append]; omega)
        · exact TupV.same (s8.trans s9) (TupV.go g1.pen (g14.trans g47) hvr)
        · rcases List.mem_append.mp hr with h | h
          · exact hoka r h
          · exact hokb r h
      have hx : ([V.int 2, V.int 5, V.int 10] : List V)[ix]? = some x := hx
      match ix, hx with
      | 0, hx => simp at hx; exact go2 2 hx.symm (by decide)
      | 1, hx => simp at hx; exact go2 5 hx.symm (by decide)
      | 2, hx => simp at hx; exact go2 10 hx.symm (by decide)
      | ix + 3, hx => simp at hx
    refine ⟨_, rfl, _, rfl, _, rfl, pe, 6, _, rfl, g1.pen, by omega, by decide, by unfold Nb; decide, fun d H2 d0 d1 g2 => ⟨rfl, _, rfl, ite2 (fun _ => ?_) (fun _ => ?_)⟩⟩
    · refine ⟨_, rfl, pe, 20, _, rfl, g2.pen, by omega, by decide, by unfold Nb; decide, fun e H3 e0 e1 g3 => ⟨_, _, rfl, rfl, _, rfl, ?_⟩⟩
      obtain ⟨en, rfl⟩ := Int.eq_ofNat_of_zero_le e0
      exact fin (25 + en) H3 (by omega) ((g2.trans g3).more (by omega))
    · exact ⟨_, rfl, fin 0 H2 (by decide) (g2.more (by omega))⟩
def spHand : Sp := fun vs H Q _ => ∃ (pe a : Addr) (us : List V) (N : Nat), vs = [.ref pe, .ref a] ∧ H a = some (.lst us) ∧ us.length ≤ 1000 ∧ PenAt H pe N ∧ N ≤ 10 ^ 9 ∧ ∀ l H', PenGo pe H H' (N + 1) → Tq H' l us → Q (.ref l) H'
theorem sc64 : FnScope ["_law_pen_here", "_law_records_here"] ["_law_pen_here", "_law_records_here"] (defScope (top 64)) := ⟨rfl, rfl, rfl, by decide +kernel, rfl, by decide +kernel, by decide +kernel⟩
theorem can_handed (T : Txt K mg) {f : Addr} {fd : FuncData} (D : Df K mg "_law_handed" (top 64) ["_law_pen_here", "_law_records_here"] f fd) (C1 : Can P w K mg base "_law_draw" 1 ["_law_pen_here", "_law_many"] spDraw) : Can P w K mg base "_law_handed" 2 ["_law_pen_here", "_law_records_here"] spHand := by
  refine D.can (D.fn.ok sc64 (fun vs H Q E h => ?_) (fun cdv A outer s H vs Q E hr h => ?_))
  · obtain ⟨pe, a, us, N, rfl, _⟩ := h
    rfl
  · obtain ⟨pe, a, us, N, rfl, ha, hl, hp, hN, k⟩ := h
    refine ⟨_, pss_one (ps_ret (pe_ifExp (pt_cmpR op_gt (pe_can C1 hr (pa_cons (pv 0) (pa_cons pe_int pa_nil))) pe_int (nomark _)) (pe_callTy call_list_of (by rfl) T.list (by decide +kernel) (pa_cons (pv 1) pa_nil)) (pe_callTy call_tuple_of (by rfl) T.tuple (by decide +kernel) (pa_cons (pv 1) pa_nil)))), ?_⟩
    refine ⟨_, rfl, pe, 3, N, rfl, hp, hN, by decide, by unfold Nb; decide, fun d H1 d0 d1 g1 => ⟨_, _, rfl, rfl, _, rfl, ite2 (fun _ => ?_) (fun _ => ?_)⟩⟩
    · refine ⟨_, rfl, a, us, rfl, .inl (SqL.of (hp.lst g1 ha)), fun l hl => ?_⟩
      exact k l _ (g1.same (Same.new hl)) (.inl upd_same)
    · refine ⟨_, rfl, a, us, rfl, .inl ⟨SqL.of (hp.lst g1 ha), fun l hl => ?_⟩⟩
      exact k l _ (g1.same (Same.new hl)) (.inr upd_same)
end
end K67

set_option Elab.async false
set_option linter.all false
set_option maxRecDepth 100000
set_option maxHeartbeats 4000000
namespace K67
open PySem PySem.Spec PyProof.Rows L2
/-! ### what repr shows of the records -/
def recD (r : Rec) : PyData := .tuple [.str (kindS r.lo), .int r.t, .int r.n]
theorem dp_rec {K : PySem.W.Frag} {H : Hp} {v : V} {r : Rec} (h : RecV H v r) : Dp K H v (recD r) := by
  obtain ⟨a, rfl, ha⟩ := h
  exact .tup (SqT.of ha) (.cons (.str _) (.cons (.int _) (.cons (.int _) .nil)))
theorem dp_recs {K : PySem.W.Frag} {H : Hp} : ∀ {vs : List V} {rs : List Rec}, RecsV H vs rs → DpAll K H vs (rs.map recD)
  | _, _, .nil => .nil
  | _, _, .cons r t => .cons (dp_rec r) (dp_recs t)
theorem sh_rec {r : Rec} (h : RecSz 250 r) : (recD r).showable = true := by
  have l : ∀ i : Int, Nb 250 i → decide (i.natAbs.log2 < 1920) = true := fun i hi => decide_eq_true (Nat.lt_trans (PySem.Flt.log2_lt_of (by decide) hi) (by decide))
  simp only [recD, PyData.showable, PyData.showableAll, l _ h.1, l _ h.2, Bool.and_self]
theorem sh_recs : ∀ {rs : List Rec}, (∀ r ∈ rs, RecSz 250 r) → PyData.showableAll (rs.map recD) = true
  | [], _ => rfl
  | r :: rs, h => by
    simp only [List.map_cons, PyData.showableAll, sh_rec (h r List.mem_cons_self), sh_recs fun x hx => h x (List.mem_cons_of_mem _ hx), Bool.and_self]
theorem nd_recs : ∀ (rs : List Rec), PyData.hasDictAll (rs.map recD) = false
  | [] => rfl
  | r :: rs => by
    simp only [List.map_cons, PyData.hasDictAll, nd_recs rs, recD, PyData.hasDict, Bool.or_self]
theorem dep_recs : ∀ (rs : List Rec), PyData.depthAll (rs.map recD) ≤ 5
  | [] => Nat.zero_le _
  | r :: rs => by
    have := dep_recs rs
    simp only [List.map_cons, PyData.depthAll, recD, PyData.depth] at *
    omega
theorem int_shown {i : Int} (h : Nb 250 i) : (PyData.shown (.int i)).length ≤ 251 := by
  show (Str.ofString (toString i)).length ≤ 251
  rw [PySem.ofString_length]
  exact int_text_length_le (by decide) (PySem.Flt.log2_lt_of (by decide) h)
theorem kind_shown (b : Bool) : (PyData.shown (.str (kindS b))).length ≤ 20 := by
  cases b <;> decide +kernel
theorem tup_len {ts : List Str} (h : 2 ≤ ts.length) : (tupleText ts).length = piled ts := by
  have hne : ts ≠ [] := fun z => by rw [z] at h; simp at h
  have := join_length_add ts hne
  unfold tupleText
  rw [strLen_append, strLen_append]
  have e1 : ((ts.length == 1) = true) = False := by simp; omega
  rw [if_neg (by rw [e1]; exact fun z => z)]
  have e2 : ("(" : Str).length = 1 := rfl
  have e3 : ((")" : String) : Str).length = 1 := rfl
  omega
theorem rec_shown {r : Rec} (h : RecSz 250 r) : (recD r).shown.length ≤ 600 := by
  have a := kind_shown r.lo
  have b := int_shown h.1
  have c := int_shown h.2
  show (tupleText (PyData.shownAll [.str (kindS r.lo), .int r.t, .int r.n])).length ≤ 600
  simp only [PyData.shownAll]
  rw [tup_len (by simp), piled_cons, piled_cons, piled_cons, piled_nil]
  omega
theorem all_shown : ∀ {rs : List Rec}, (∀ r ∈ rs, RecSz 250 r) → piled (PyData.shownAll (rs.map recD)) ≤ 602 * rs.length ∧ (PyData.shownAll (rs.map recD)).length = rs.length
  | [], _ => ⟨Nat.le_refl _, rfl⟩
  | r :: rs, h => by
    obtain ⟨h1, h2⟩ := all_shown (rs := rs) fun x hx => h x (List.mem_cons_of_mem _ hx)
    have := rec_shown (h r List.mem_cons_self)
    simp only [List.map_cons, PyData.shownAll, piled_cons, List.length_cons, h2]
    exact ⟨by omega, trivial⟩
theorem text_list (ts : List Str) : (listText ts).length ≤ piled ts + 4 := by
  cases ts with
  | nil => rw [listText_nil]; decide +kernel
  | cons t r =>
    have h := textFrom_length_pos r 1 (("[" : Str) ++ (if (0 : Nat) > 0 then ", " else "" : String) ++ t) (Nat.succ_pos 0)
    have hX : (listText (t :: r)).length = (textFrom 0 "[" (t :: r)).length + 1 := by
      show (textFrom 0 "[" (t :: r) ++ "]").length = _
      rw [strLen_append]
      rfl
    have hY : (textFrom 0 "[" (t :: r)).length = (textFrom 1 (("[" : Str) ++ (if (0 : Nat) > 0 then ", " else "" : String) ++ t) r).length := rfl
    have e : ((("[" : Str) ++ (if (0 : Nat) > 0 then ", " else "" : String) ++ t) : Str).length = 1 + t.length := by
      rw [strLen_append, strLen_append]
      rfl
    rw [hX, hY, h, e, piled_cons]
    omega
theorem text_tup (ts : List Str) : (tupleText ts).length ≤ piled ts + 4 := by
  match ts with
  | [] => decide +kernel
  | [t] =>
    have : (tupleText [t]).length = 1 + t.length + 2 := by
      unfold tupleText
      rw [strLen_append, strLen_append]
      rfl
    rw [this, piled_cons, piled_nil]
    omega
  | a :: b :: r => rw [tup_len (by simp)]; omega
def dD (b : Bool) (rs : List Rec) : PyData := if b then .list (rs.map recD) else .tuple (rs.map recD)
def hoB (b : Bool) (vs : List V) : HO := if b then .lst vs else .tup vs
theorem tq_b {H : Hp} {a : Addr} {vs : List V} (h : Tq H a vs) : ∃ b, H a = some (hoB b vs) := by
  rcases h with h | h
  · exact ⟨true, h⟩
  · exact ⟨false, h⟩
theorem b_tq {H : Hp} {a : Addr} {vs : List V} {b : Bool} (h : H a = some (hoB b vs)) : Tq H a vs := by
  cases b with
  | true => exact .inl h
  | false => exact .inr h
theorem hoB_dk (b : Bool) (vs : List V) (kvs : List (Key × V)) : hoB b vs ≠ .dK kvs := by cases b <;> (intro z; cases z)
theorem dp_b {K : PySem.W.Frag} {H : Hp} {a : Addr} {vs : List V} {rs : List Rec} {b : Bool} (h : H a = some (hoB b vs)) (hv : RecsV H vs rs) : Dp K H (.ref a) (dD b rs) := by
  cases b with
  | true => exact .lst (SqL.of h) (dp_recs hv)
  | false => exact .tup (SqT.of h) (dp_recs hv)
theorem dD_ok {b : Bool} {rs : List Rec} (h : ∀ r ∈ rs, RecSz 250 r) (hl : rs.length ≤ 60) : (dD b rs).showable = true ∧ (dD b rs).hasDict = false ∧ (dD b rs).depth ≤ 32 ∧ (dD b rs).shown.length ≤ sizeLine := by
  obtain ⟨h1, h2⟩ := all_shown h
  have hd := dep_recs rs
  have sl : 100000 ≤ sizeLine := by decide
  cases b with
  | true =>
    refine ⟨by simp only [dD, if_true, PyData.showable]; exact sh_recs h, by simp only [dD, if_true, PyData.hasDict]; exact nd_recs rs, by simp only [dD, if_true, PyData.depth]; omega, ?_⟩
    have := text_list (PyData.shownAll (rs.map recD))
    show (listText (PyData.shownAll (rs.map recD))).length ≤ sizeLine
    omega
  | false =>
    refine ⟨by simp only [dD, PyData.showable]; exact sh_recs h, by simp only [dD, PyData.hasDict]; exact nd_recs rs, by simp only [dD, PyData.depth]; exact Nat.le_trans (Nat.succ_le_succ hd) (by decide), ?_⟩
    have := text_tup (PyData.shownAll (rs.map recD))
    show (tupleText (PyData.shownAll (rs.map recD))).length ≤ sizeLine
    omega
end K67

set_option Elab.async false
set_option linter.all false
set_option maxRecDepth 100000
set_option maxHeartbeats 8000000
namespace K67
open PySem PySem.Spec PyProof.Rows L2
/-- what stands while the questions of one turn are asked -/
structure LK (l hd : Addr) (b : Bool) (us : List V) (rs : List Rec) (vr : V) (p q c : Int) (H : Hp) : Prop where
  l : H l = some (.lst us)
  rv : RecsV H us rs
  hd : H hd = some (hoB b us)
  vr : TupV H vr (ruL p q c)
theorem LK.same {l hd : Addr} {b : Bool} {us : List V} {rs : List Rec} {vr : V} {p q c : Int} {H H' : Hp} (h : LK l hd b us rs vr p q c H) (e : Same H H') : LK l hd b us rs vr p q c H' := ⟨e _ _ h.l, RecsV.same e h.rv, e _ _ h.hd, TupV.same e h.vr⟩
theorem LK.go {l hd : Addr} {b : Bool} {us : List V} {rs : List Rec} {vr : V} {p q c : Int} {pe : Addr} {N M : Nat} {H H' : Hp} (h : LK l hd b us rs vr p q c H) (hp : PenAt H pe N) (g : PenGo pe H H' M) : LK l hd b us rs vr p q c H' :=
  ⟨hp.lst g h.l, RecsV.go hp g h.rv, hp.keep g.but h.hd (hoB_dk _ _), TupV.go hp g h.vr⟩
theorem LK.recs {l hd : Addr} {b : Bool} {us : List V} {rs : List Rec} {vr : V} {p q c : Int} {H : Hp} (h : LK l hd b us rs vr p q c H) : RecsAt H hd rs := ⟨us, b_tq h.hd, h.rv⟩
/-- [one[1] for one in records] -/
theorem comp_times (K : PySem.W.Frag) {s0 s1 s2 s3 s5 s6 s7 s8 s9 s10 s11 s12 s13 s14 s15 : Option V} {l : Addr} {us : List V} {rs : List Rec} {H : Hp} {Q : VK} (hl : H l = some (.lst us)) (hv : RecsV H us rs) (hn : rs.length ≤ 300)
    (k : ∀ D H', Same H H' → H' D = some (.lst (rs.map fun r => .int r.t)) → Q (.ref D) H') : tLc (iList K (tVar 4)) (gName 15) tYes (tOp (rIxT K) (tVar 15) (tC (.int 1))) [15] [s0, s1, s2, s3, some (.ref l), s5, s6, s7, s8, s9, s10, s11, s12, s13, s14, s15] H Q := by
  refine ⟨_, rfl, l, rfl, ⟨_, SqL.of hl⟩, fun D hD => lc_list (K := K) (a := l) (xs := us) (fun i H' => Same H H' ∧ H' D = some (.lst ((rs.take i).map fun r => .int r.t))) ⟨Same.new hD, upd_same⟩ (fun i H' _ h => SqL.of (h.1 _ _ hl)) ?_ ?_⟩
  · rintro i x H1 hx ⟨sm, hacc⟩
    obtain ⟨r, hr, ⟨a, rfl, ha⟩⟩ := paired_at hv hx
    have etk : (rs.take (i + 1)).map (fun r => V.int r.t) = (rs.take i).map (fun r => V.int r.t) ++ [.int r.t] := by rw [List.take_add_one, hr, List.map_append]; rfl
    refine ⟨rfl, ⟨_, rfl, a, _, 1, _, rfl, rfl, SqT.of (sm _ _ ha), atI_nat (j := 1) rfl, _, hacc, small1000 ?_, fun b o e => ?_, ?_⟩⟩
    · have := List.length_take_le' i rs
      rw [List.length_map]
      omega
    · rw [upd_ne (ne_of_none e hD)]
      exact sm _ _ e
    · rw [upd_same, etk]
  · rintro H' ⟨sm, hacc⟩
    rw [paired_len hv, List.take_length] at hacc
    exact k D H' sm hacc
theorem cat_mid {te tb : TE} {ta : TA} {σ : L2.St} {H : Hp} {Q : List V → Hp → Prop} (h : te σ H fun x H1 => tb σ H1 fun y H2 => rCat x y H2 fun z H3 => ta σ H3 fun xs H4 => Q (z :: xs) H4) : tCons (tOp rCat te tb) ta σ H Q := h
theorem emod_le_self {a b : Int} (h : 0 ≤ a) (hb : 0 < b) : a % b ≤ a := by
  have e := Int.emod_add_mul_ediv a b
  have := Int.mul_nonneg (Int.le_of_lt hb) (Int.ediv_nonneg h (Int.le_of_lt hb))
  omega
def N65 : List Str := ["_law_script", "_law_pen_here", "_law_turn", "_law_figures", "_law_records_here_here", "_law_rule", "_law_handed_here", "_law_kept", "_law_k", "_law_far", "_law_t", "_law_least", "_law_most", "_law_here", "_law_wide", "_law_one"]
theorem sc65 : FnScope ["_law_script", "_law_pen_here", "_law_turn", "_law_figures", "_law_records_here_here", "_law_rule", "_law_handed_here", "_law_kept", "_law_k", "_law_far", "_law_t", "_law_least", "_law_most", "_law_here", "_law_wide", "_law_one"] ["_law_script"] (defScope (top 65)) := ⟨rfl, rfl, rfl, by decide +kernel, rfl, by decide +kernel, by decide +kernel⟩
section
variable {P : Program} {w : World} {K : PySem.W.Frag} {mg : Str → Option Value} {base : Heap}
def spLaw (K : PySem.W.Frag) : Sp := fun vs H Q _ => ∃ (a : Addr) (ns : List Int), vs = [.ref a] ∧ SqL K H a (ns.map V.int) ∧ ns.length ≤ 63 ∧ ∀ H', Q (.bl true) H'
theorem law_walk (T : Txt K mg) (C0 : Can P w K mg base "_law_pen" 1 ["_law_script"] (spPen K)) (C1 : Can P w K mg base "_law_draw" 1 ["_law_pen_here", "_law_many"] spDraw) (C2 : Can P w K mg base "_law_pick" 2 ["_law_pen_here", "_law_options"] spPick)
    (C3 : Can P w K mg base "_law_natural" 2 ["_law_pen_here", "_law_figures"] spNat) (C4 : Can P w K mg base "_law_integer" 3 ["_law_pen_here", "_law_figures"] spInteger) (C5 : Can P w K mg base "_law_count_at" 1 ["_law_rule", "_law_t"] spCnt)
    (C6 : Can P w K mg base "_law_far_records" 5 ["_law_pen_here", "_law_figures"] spFar) (C7 : Can P w K mg base "_law_handed" 2 ["_law_pen_here", "_law_records_here"] spHand) (C8 : Can P w K mg base "count_range" 8 ["records", "time"] spRange)
    (C9 : Can P w K mg base "_law_end_right" 11 ["_law_records_here", "_law_t", "_law_bound", "_law_sign"] spEnd) (CA : Can P w K mg base "_law_is_witness" 10 ["_law_records_here", "_law_t", "_law_n"] spIsW)
    {f : Addr} {cdv : Value} {A : Around} {outer : List Env} {s : Shared} {H : Hp} {vs : List V} {Q : VK} {E : XK} (hr : Room 11 (A.deeper (envOfC "law" (defScope (top 65)) s.heap.objs.size f cdv))) (hg : (A.deeper (envOfC "law" (defScope (top 65)) s.heap.objs.size f cdv)).guards = some []) (h : spLaw K vs H Q E) :
    ∃ t, PSs (cxOf CX0 P w K mg base ["_law_script", "_law_pen_here", "_law_turn", "_law_figures", "_law_records_here_here", "_law_rule", "_law_handed_here", "_law_kept", "_law_k", "_law_far", "_law_t", "_law_least", "_law_most", "_law_here", "_law_wide", "_law_one"] "law" (defScope (top 65)) f cdv A outer s H E).nox (defBody (top 65)) t ∧
      t { nx := fun _ H' => Q .non H', rt := Q } (start ["_law_script", "_law_pen_here", "_law_turn", "_law_figures", "_law_records_here_here", "_law_rule", "_law_handed_here", "_law_kept", "_law_k", "_law_far", "_law_t", "_law_least", "_law_most", "_law_here", "_law_wide", "_law_one"] vs) H := by
  obtain ⟨a, ns, rfl, ha, hns, k⟩ := h
  have hr1 : Room 1 _ := hr.mono (by decide)
  have hr2 : Room 2 _ := hr.mono (by decide)
  have hr3 : Room 3 _ := hr.mono (by decide)
  have hr5 : Room 5 _ := hr.mono (by decide)
  have hr8 : Room 8 _ := hr.mono (by decide)
  have hrA : Room 10 _ := hr.mono (by decide)
  have hu64 : (A.deeper (envOfC "law" (defScope (top 65)) s.heap.objs.size f cdv)).units + 64 < cLine := by
    have := hr.un
    omega
  refine ⟨_, pss_cons (ps_set (i := 1) sc65.nd rfl (Or.inl rfl) (pe_can C0 hr1 (pa_cons (pv 0) pa_nil)))
    (pss_cons (ps_for PassesOwn.never rfl (pi_range1 (by rfl) T.range (pa_cons (pe_op op_add pe_int (pe_callB (call_min2 rfl) (by rfl) T.min (by decide +kernel) (pa_cons pe_int (pa_cons (pe_len T.len (pv 0)) pa_nil)))) pa_nil)) (pg_name (i := 2) sc65.nd rfl (Or.inl rfl))
      (pss_cons (ps_set (i := 3) sc65.nd rfl (Or.inl rfl) (pe_can C2 hr2 (pa_cons (pv 1) (pa_cons (pe_lst (pa_cons pe_int (pa_cons pe_int (pa_cons pe_int pa_nil)))) pa_nil))))
      (pss_cons (ps_asg (pe_can C6 hr5 (pa_cons (pv 1) (pa_cons (pv 3) pa_nil))) (pg_tup rfl (pgs_cons (pg_name (i := 4) sc65.nd rfl (Or.inl rfl)) (pgs_cons (pg_name (i := 5) sc65.nd rfl (Or.inl rfl)) pgs_nil))))
      (pss_cons (ps_set (i := 6) sc65.nd rfl (Or.inl rfl) (pe_can C7 hr2 (pa_cons (pv 1) (pa_cons (pv 4) pa_nil))))
      (pss_cons (ps_set (i := 7) sc65.nd rfl (Or.inl rfl) (pe_callB (call_reprD hg hu64) (by rfl) T.repr (by decide +kernel) (pa_cons (pv 6) pa_nil)))
      (pss_cons (ps_for PassesOwn.never rfl (pi_range1 (by rfl) T.range (pa_cons pe_int pa_nil)) (pg_name (i := 8) sc65.nd rfl (Or.inl rfl))
        (pss_cons (ps_set (i := 9) sc65.nd rfl (Or.inl rfl) (pe_lst (pa_cons (pe_can C4 hr3 (pa_cons (pv 1) (pa_cons pe_int pa_nil))) (pa_cons (pe_can C4 hr3 (pa_cons (pv 1) (pa_cons (pe_op op_add (pv 3) pe_int) pa_nil))) pa_nil))))
        (pss_cons (ps_set (i := 10) sc65.nd rfl (Or.inl rfl) (pe_op op_sub (pe_op op_add (pe_can C2 hr2 (pa_cons (pv 1) (pa_cons (pe_op op_cat
            (pe_lc (own := [("_law_one", 15)]) (g := gName 15) (tt := tYes) (te := tOp (rIxT K) (tVar 15) (tC (.int 1))) rfl sc65.nd (pi_list (pv 4)) (blkOk_by (N := ["_law_script", "_law_pen_here", "_law_turn", "_law_figures", "_law_records_here_here", "_law_rule", "_law_handed_here", "_law_kept", "_law_k", "_law_far", "_law_t", "_law_least", "_law_most", "_law_here", "_law_wide", "_law_one"]) (sc := defScope (top 65)) (by decide +kernel))
              (fun _ _ _ _ _ => by exact pg_name (i := 15) sc65.nd rfl (Or.inl rfl)) (fun _ _ _ _ _ => pts_nil) (fun _ _ _ _ _ => by exact pe_ix ix_tup (pv 15) pe_int (fun _ _ => rfl))) (pv 9)) pa_nil))) (pe_can C1 hr1 (pa_cons (pv 1) (pa_cons pe_int pa_nil)))) pe_int))
        (pss_cons (ps_asg (pe_can C8 hr8 (pa_cons (pv 6) (pa_cons (pv 10) pa_nil))) (pg_tup rfl (pgs_cons (pg_name (i := 11) sc65.nd rfl (Or.inl rfl)) (pgs_cons (pg_name (i := 12) sc65.nd rfl (Or.inl rfl)) pgs_nil))))
        (pss_cons (ps_set (i := 13) sc65.nd rfl (Or.inl rfl) (pe_can C5 hr1 (pa_cons (pv 5) (pa_cons (pv 10) pa_nil))))
        (pss_cons (ps_if (PW.pt (pw_or (PW.pt (pw_and (pt_cmpR op_notN (pv 11) pe_non (nomark _)) (pw_and1 (pt_cmpR op_lt (pv 13) (pv 11) (nomark _))))) (pw_or1 (PW.pt (pw_and (pt_cmpR op_notN (pv 12) pe_non (nomark _)) (pw_and1 (pt_cmpR op_gt (pv 13) (pv 12) (nomark _)))))))) pss_never pss_nil)
        (pss_cons (ps_if (PW.pt (pw_or (pt_not (pt_val (pe_can C9 hr (pa_cons (pv 6) (pa_cons (pv 10) (pa_cons (pv 11) (pa_cons (pe_un un_neg pe_int) pa_nil))))))) (pw_or1 (pt_not (pt_val (pe_can C9 hr (pa_cons (pv 6) (pa_cons (pv 10) (pa_cons (pv 12) (pa_cons pe_int pa_nil)))))))))) pss_never pss_nil)
        (pss_cons (ps_set (i := 14) sc65.nd rfl (Or.inl rfl) (pe_ifExp (pt_cmpR op_isN (pv 12) pe_non (nomark _)) (pe_op op_pow pe_int pe_int) (pe_op op_sub (pv 12) (pv 13))))
        (pss_cons (ps_if (pt_not (pt_val (pe_can CA hrA (pa_cons (pv 6) (pa_cons (pv 10) (pa_cons (pe_op op_add (pv 13) (pe_op op_mod (pe_can C3 hr2 (pa_cons (pv 1) (pa_cons pe_int pa_nil))) (pe_op op_add (pv 14) pe_int))) pa_nil)))))) pss_never pss_nil)
        (pss_cons (ps_set (i := 14) sc65.nd rfl (Or.inl rfl) (pe_ifExp (pt_cmpR op_isN (pv 11) pe_non (nomark _)) (pe_op op_pow pe_int pe_int) (pe_op op_sub (pv 13) (pv 11))))
        (pss_one (ps_if (pt_not (pt_val (pe_can CA hrA (pa_cons (pv 6) (pa_cons (pv 10) (pa_cons (pe_op op_sub (pv 13) (pe_op op_mod (pe_can C3 hr2 (pa_cons (pv 1) (pa_cons pe_int pa_nil))) (pe_op op_add (pv 14) pe_int))) pa_nil)))))) pss_never pss_nil))))))))))))
      (pss_one (ps_if (pt_cmpR op_ne (pe_callB (call_reprD hg hu64) (by rfl) T.repr (by decide +kernel) (pa_cons (pv 6) pa_nil)) (pv 7) (nomark _)) pss_never pss_nil))))))))
    (pss_one (ps_ret pe_bl))), ?_⟩
  refine ⟨_, rfl, a, ns, rfl, ha, hns, fun pe H1 s1 hpen => ?_⟩
  have e2 : ∃ m : Nat, (2 : Int) + (if (((ns.map V.int).length : Nat) : Int) < 3 then (((ns.map V.int).length : Nat) : Int) else 3) = (m : Nat) ∧ m ≤ 5 := by
    split
    · exact ⟨2 + (ns.map V.int).length, by omega, by omega⟩
    · exact ⟨5, by omega, Nat.le_refl _⟩
  obtain ⟨m, em, hm⟩ := e2
  refine ⟨_, rfl, a, _, rfl, .inl (s1.seq ha), 3, _, rfl, _, _, rfl, rfl, _, rfl, ?_, ?_, ?_⟩
  · rw [em]; omega
  · rw [em]; omega
  rw [em, Int.toNat_natCast]
  refine for_range (fun i σ H' => ∃ s2 s3 s4 s5 s6 s7 s8 s9 s10 s11 s12 s13 s14 s15, σ = [some (.ref a), some (.ref pe), s2, s3, s4, s5, s6, s7, s8, s9, s10, s11, s12, s13, s14, s15] ∧ PenGo pe H1 H' (20000 * i))
    ⟨none, none, none, none, none, none, none, none, none, none, none, none, none, none, rfl, PenGo.refl hpen⟩ ?_ ?_
  · rintro i σ H2 hi ⟨s2, s3, s4, s5, s6, s7, s8, s9, s10, s11, s12, s13, s14, s15, rfl, g2⟩
    have hi5 : i < 5 := by omega
    -- figures
    dsimp only
    show tSeq (tAsg _ _) _ _ _ _
    refine mid (fun σ H' => ∃ f : Nat, f ≤ 40 ∧ σ = [some (.ref a), some (.ref pe), some (.int (0 + (i : Nat))), some (.int f), s4, s5, s6, s7, s8, s9, s10, s11, s12, s13, s14, s15] ∧ PenGo pe H1 H' (20000 * i + 1)) (fun R hR => ?_) ?_
    · refine ⟨_, rfl, (by show 3 ≤ sizeLine; decide), fun la hla => ?_⟩
      have sn := Same.new (o := .lst [.int 3, .int 12, .int 40]) hla
      have gn := (PenGo.refl g2.pen).same sn
      refine ⟨pe, la, _, _, rfl, gn.pen, by omega, upd_same, (fun z => by cases z), (by show 3 ≤ 1000; decide), fun ix x H3 hx g3 => ?_⟩
      have g23 := g2.trans (gn.trans g3)
      have fin : ∀ f : Nat, x = .int f → f ≤ 40 → R [some (.ref a), some (.ref pe), some (.int (0 + (i : Nat))), some x, s4, s5, s6, s7, s8, s9, s10, s11, s12, s13, s14, s15] H3 := by
        rintro f rfl hf
        exact hR _ _ ⟨f, hf, rfl, g23⟩
      have hx : ([V.int 3, V.int 12, V.int 40] : List V)[ix]? = some x := hx
      match ix, hx with
      | 0, hx => simp at hx; exact fin 3 hx.symm (by decide)
      | 1, hx => simp at hx; exact fin 12 hx.symm (by decide)
      | 2, hx => simp at hx; exact fin 40 hx.symm (by decide)
      | ix + 3, hx => simp at hx
    rintro σ H3 ⟨f, hf, rfl, g3⟩
    -- the records and their rule
    refine ⟨_, rfl, _, rfl, pe, f, _, rfl, hf, g3.pen, by omega, fun v l vr p q c H4 us rs g4 hv hvr p0 q0 hgcd np nq nc hl0 hl hrv hok hlen => ?_⟩
    obtain ⟨av, rfl, hav⟩ := hv
    refine ⟨av, _, rfl, SqT.of hav, rfl, _, _, rfl, _, _, rfl, rfl, ?_⟩
    have ulen := paired_len hrv
    refine ⟨_, rfl, _, rfl, pe, l, us, _, rfl, hl, by omega, g4.pen, by omega, fun hd H5 g5 hq5 => ?_⟩
    obtain ⟨b, hb5⟩ := tq_b hq5
    have lk5 : LK l hd b us rs vr p q c H5 := ⟨g4.pen.lst g5 hl, RecsV.go g4.pen g5 hrv, hb5, TupV.go g4.pen g5 hvr⟩
    have g15 := g3.trans (g4.trans g5)
    have hsz : ∀ r ∈ rs, RecSz 250 r := fun r hr => (hok r hr).sz
    have hF : Fit p q c rs := ⟨p0, q0, fun r hr => (hok r hr).fit⟩
    obtain ⟨d1, d2, d3, d4⟩ := dD_ok (b := b) hsz hlen
    refine ⟨_, rfl, hd, dD b rs, rfl, dp_b lk5.hd lk5.rv, d1, d2, d3, d4, ?_⟩
    refine ⟨2, rfl, by decide, by decide, ?_⟩
    refine for_range (n := 2) (fun kk σ H' => ∃ s8 s9 s10 s11 s12 s13 s14 s15, σ = [some (.ref a), some (.ref pe), some (.int (0 + (i : Nat))), some (.int f), some (.ref l), some vr, some (.ref hd), some (.str (dD b rs).shown), s8, s9, s10, s11, s12, s13, s14, s15] ∧ PenGo pe H1 H' (20000 * i + 10010 + 500 * kk) ∧ LK l hd b us rs vr p q c H')
      ⟨s8, s9, s10, s11, s12, s13, s14, s15, rfl, g15.more (by omega), lk5⟩ ?_ ?_
    · rintro kk σ H6 hk2 ⟨s8, s9, s10, s11, s12, s13, s14, s15, rfl, g6, lk6⟩
      have sz300 : ∀ r ∈ rs, RecSz 300 r := fun r hr => ⟨(hsz r hr).1.mono (by decide), (hsz r hr).2.mono (by decide)⟩
      have sz700 : ∀ r ∈ rs, RecSz 700 r := fun r hr => ⟨(hsz r hr).1.mono (by decide), (hsz r hr).2.mono (by decide)⟩
      -- far times
      refine ⟨_, rfl, pe, 3, _, rfl, by decide, g6.pen, by omega, fun r1 H7 n1 g7 => ?_⟩
      refine ⟨_, rfl, _, rfl, _, _, rfl, rfl, pe, f + 6, _, rfl, by omega, g7.pen, by omega, fun r2 H8 n2 g8 => ?_⟩
      refine ⟨(by show 2 ≤ sizeLine; decide), fun fa hfa => ?_⟩
      have s9' := Same.new (o := .lst [.int r1, .int r2]) hfa
      have g79 := (g7.trans g8).same s9'
      have lk9 := lk6.go g6.pen g79
      have g9 := g6.trans g79
      have n1 : Nb 250 r1 := n1.mono (by unfold fbits; decide)
      have n2 : Nb 250 r2 := n2.mono (by unfold fbits; omega)
      -- the time
      dsimp only
      show tSeq (tAsg _ _) _ _ _ _
      refine mid (fun σ H' => ∃ t : Int, Nb 252 t ∧ σ = [some (.ref a), some (.ref pe), some (.int (0 + (i : Nat))), some (.int f), some (.ref l), some vr, some (.ref hd), some (.str (dD b rs).shown), some (.int (0 + (kk : Nat))), some (.ref fa), some (.int t), s11, s12, s13, s14, s15] ∧ PenGo pe H1 H' (20000 * i + 10010 + 500 * kk + 100) ∧ LK l hd b us rs vr p q c H') (fun R hR => ?_) ?_
      · refine ⟨_, rfl, ?_⟩
        dsimp only
        refine cat_mid (comp_times K lk9.l lk9.rv (by omega) fun D H10 s10 hD => ?_)
        refine ⟨_, rfl, D, fa, _, [.int r1, .int r2], rfl, rfl, hD, s10 _ _ upd_same, Nat.le_of_lt (small1000 (by rw [List.length_map]; show rs.length + 2 ≤ 1000; omega)), fun la hla => ?_⟩
        have s11 := Same.new (o := .lst (rs.map (fun r => V.int r.t) ++ [.int r1, .int r2])) hla
        have g11 := (PenGo.refl g9.pen).same (s10.trans s11)
        refine ⟨pe, la, _, _, rfl, g11.pen, by omega, upd_same, (by simp), by rw [List.length_append, List.length_map]; show rs.length + 2 ≤ 1000; omega, fun ix x H12 hx g12 => ?_⟩
        obtain ⟨t0, rfl, nt0⟩ : ∃ t0, x = V.int t0 ∧ Nb 250 t0 := by
          rcases List.mem_append.mp (List.mem_of_getElem? hx) with h | h
          · obtain ⟨r, hr, rfl⟩ := List.mem_map.mp h
            exact ⟨r.t, rfl, (hsz r hr).1⟩
          · rcases List.mem_cons.mp h with e | h
            · exact ⟨r1, e, n1⟩
            · exact ⟨r2, List.mem_singleton.mp h, n2⟩
        refine ⟨_, rfl, pe, 3, _, rfl, g12.pen, by omega, by decide, by unfold Nb; decide, fun d H13 e0 e1 g13 => ⟨_, _, rfl, rfl, _, _, rfl, rfl, ?_⟩⟩
        have gg := g11.trans (g12.trans g13)
        have nd : Nb 250 d := by
          have : Nb 65 d := by
            unfold Nb
            have : (2 : Nat) ^ 65 = 36893488147419103232 := by decide
            omega
          exact this.mono (by decide)
        exact hR _ _ ⟨t0 + d - 1, (nt0.add nd).sub (nb_one (by decide)), rfl, (g9.trans gg).more (by omega), lk9.go g9.pen gg⟩
      rintro σ H10 ⟨t, nt, rfl, g10, lk10⟩
      have nt300 : Nb 300 t := nt.mono (by decide)
      -- the bounds
      refine ⟨_, rfl, _, rfl, hd, t, rs, 300, rfl, lk10.recs, by omega, by decide, sz300, nt.mono (by decide), ⟨p, q, c, hF⟩, fun vb lo hi' H11 s11 ⟨ar, ev, har⟩ hlo hhi nlo nhi => ?_⟩
      subst ev
      refine ⟨ar, _, rfl, SqT.of har, rfl, _, _, rfl, _, _, rfl, rfl, ?_⟩
      have lk11 := lk10.same s11
      have g11 := g10.same s11
      -- the count of the hidden rule
      refine ⟨_, rfl, _, rfl, vr, p, q, c, t, rfl, lk11.vr, q0, np.mono (by decide), nq.mono (by decide), nt.mono (by decide), ?_⟩
      have nh := cnt_sz q0 np nc nt (by decide)
      have hlo' : ∀ m, lo = some m → m ≤ cnt p q c t := fun m e => by rw [e] at hlo; exact hlo.2 p q c hF
      have hhi' : ∀ m, hi' = some m → cnt p q c t ≤ m := fun m e => by rw [e] at hhi; exact hhi.2 p q c hF
      generalize eh : cnt p q c t = here at nh hlo' hhi' ⊢
      -- it lies between
      dsimp only
      show tSeq (tIfS _ _ _) _ _ _ _
      refine mid (fun σ H' => σ = [some (.ref a), some (.ref pe), some (.int (0 + (i : Nat))), some (.int f), some (.ref l), some vr, some (.ref hd), some (.str (dD b rs).shown), some (.int (0 + (kk : Nat))), some (.ref fa), some (.int t), some (optI lo), some (optI hi'), some (.int here), s14, s15] ∧ H' = H11) (fun R hR => ?_) ?_
      · have stay := hR [some (.ref a), some (.ref pe), some (.int (0 + (i : Nat))), some (.int f), some (.ref l), some vr, some (.ref hd), some (.str (dD b rs).shown), some (.int (0 + (kk : Nat))), some (.ref fa), some (.int t), some (optI lo), some (optI hi'), some (.int here), s14, s15] H11 ⟨rfl, rfl⟩
        have second : ∀ Qb : Bool → Hp → Prop, Qb false H11 → tAnd (tTest (tOp (fun x y H Q => y = .non ∧ Q (.bl (!decide (x = .non))) H) (tVar 12) (tC .non))) (tTest (tOp (rI0 fun i j => .bl (decide (j < i))) (tVar 13) (tVar 12))) [some (.ref a), some (.ref pe), some (.int (0 + (i : Nat))), some (.int f), some (.ref l), some vr, some (.ref hd), some (.str (dD b rs).shown), some (.int (0 + (kk : Nat))), some (.ref fa), some (.int t), some (optI lo), some (optI hi'), some (.int here), s14, s15] H11 Qb := by
          intro Qb hQ
          cases e : hi' with
          | none => exact ⟨_, rfl, rfl, false, rfl, hQ⟩
          | some m => exact ⟨_, rfl, rfl, true, rfl, _, rfl, _, rfl, _, _, rfl, rfl, false, congrArg V.bl (decide_eq_false (Int.not_lt.mpr (hhi' m e))), hQ⟩
        cases e : lo with
        | none =>
          rw [e] at second stay
          exact ⟨_, rfl, rfl, false, rfl, second _ stay⟩
        | some m =>
          rw [e] at second stay
          exact ⟨_, rfl, rfl, true, rfl, _, rfl, _, rfl, _, _, rfl, rfl, false, congrArg V.bl (decide_eq_false (Int.not_lt.mpr (hlo' m e))), second _ stay⟩
      rintro σ H12 ⟨rfl, rfl⟩
      have h0 : ∃ p q c, Fit p q c rs ∧ Nb 450 (cnt p q c t) := ⟨p, q, c, hF, by rw [eh]; exact nh.mono (by decide)⟩
      refine ⟨_, rfl, _, rfl, _, rfl, _, rfl, hd, t, lo, -1, rs, rfl, lk11.recs, by omega, sz300, nt300, .inl ⟨rfl, hlo⟩, h0, fun m e => (nlo m e).mono (by decide), fun H13 s13 => ⟨true, rfl, ?_⟩⟩
      have lk13 := lk11.same s13
      refine ⟨_, rfl, _, rfl, _, rfl, hd, t, hi', 1, rs, rfl, lk13.recs, by omega, sz300, nt300, .inr ⟨rfl, hhi⟩, h0, fun m e => (nhi m e).mono (by decide), fun H14 s14' => ⟨true, rfl, ?_⟩⟩
      have lk14 := lk13.same s14'
      have g14 := g11.same (s13.trans s14')
      have ex : ∀ n : Int, (∀ m, lo = some m → m ≤ n) → (∀ m, hi' = some m → n ≤ m) → ∃ p q c, Fit p q c rs ∧ cnt p q c t = n := by
        intro n h1 h2
        refine (inB_iff hlo hhi n).mp ?_
        rw [inB_eq]
        refine Bool.and_eq_true_iff.mpr ⟨?_, ?_⟩
        · cases e : lo with
          | none => rfl
          | some m => exact decide_eq_true (h1 m e)
        · cases e : hi' with
          | none => rfl
          | some m => exact decide_eq_true (h2 m e)
      have t30 : (0 : Int) ≤ (10 : Int) ^ (30 : Int).toNat := by decide +kernel
      -- upwards
      dsimp only [tNext]
      show tSeq (tAsg _ _) _ _ _ _
      refine mid (fun σ H' => ∃ wd : Int, 0 ≤ wd ∧ (∀ m, hi' = some m → here + wd ≤ m) ∧ σ = [some (.ref a), some (.ref pe), some (.int (0 + (i : Nat))), some (.int f), some (.ref l), some vr, some (.ref hd), some (.str (dD b rs).shown), some (.int (0 + (kk : Nat))), some (.ref fa), some (.int t), some (optI lo), some (optI hi'), some (.int here), some (.int wd), s15] ∧ H' = H14) (fun R hR => ?_) ?_
      · refine ⟨_, rfl, rfl, _, rfl, ?_⟩
        cases e : hi' with
        | none =>
          rw [e] at hR
          exact ite2 (fun _ => ⟨_, _, rfl, rfl, cpow10 (by decide) (by decide), hR _ _ ⟨_, t30, fun m e => (by cases e), rfl, rfl⟩⟩) (fun c => absurd rfl c)
        | some m =>
          rw [e] at hR
          have := hhi' m e
          exact ite2 (fun c => by cases c) (fun _ => ⟨_, rfl, _, rfl, _, _, rfl, rfl, hR _ _ ⟨m - here, by omega, fun m' e' => by cases e'; omega, rfl, rfl⟩⟩)
      rintro σ H15 ⟨wd, wd0, hwd, rfl, rfl⟩
      refine ⟨_, rfl, _, rfl, _, rfl, _, rfl, pe, 60, _, rfl, by decide, g14.pen, by omega, fun r H16 z0 nr g16 => ?_⟩
      have hm1 : (0 : Int) < wd + 1 := by omega
      have q1 := Int.emod_nonneg r (show wd + 1 ≠ 0 by omega)
      have q2 := Int.emod_lt_of_pos r hm1
      have q3 : Nb 320 (r % (wd + 1)) := (nr.le q1 (emod_le_self z0 hm1)).mono (by unfold fbits; decide)
      have lk16 := lk14.go g14.pen g16
      refine ⟨_, rfl, _, _, rfl, rfl, _, _, rfl, rfl, hm1, _, _, rfl, rfl, hd, t, here + r % (wd + 1), rs, 700, rfl, lk16.recs, by omega, by decide, sz700, nt.mono (by decide), ((nh.mono (show 252 + 66 ≤ 320 by decide)).add q3).mono (by decide), ?_, fun H17 s17 => ⟨true, rfl, ?_⟩⟩
      · refine ex _ (fun m e => ?_) (fun m e => ?_)
        · have := hlo' m e; omega
        · have := hwd m e; omega
      have lk17 := lk16.same s17
      have g17 := (g14.trans g16).same s17
      -- downwards
      dsimp only [tNext]
      show tSeq (tAsg _ _) _ _ _ _
      refine mid (fun σ H' => ∃ wd : Int, 0 ≤ wd ∧ (∀ m, lo = some m → m ≤ here - wd) ∧ σ = [some (.ref a), some (.ref pe), some (.int (0 + (i : Nat))), some (.int f), some (.ref l), some vr, some (.ref hd), some (.str (dD b rs).shown), some (.int (0 + (kk : Nat))), some (.ref fa), some (.int t), some (optI lo), some (optI hi'), some (.int here), some (.int wd), s15] ∧ H' = H17) (fun R hR => ?_) ?_
      · refine ⟨_, rfl, rfl, _, rfl, ?_⟩
        cases e : lo with
        | none =>
          rw [e] at hR
          exact ite2 (fun _ => ⟨_, _, rfl, rfl, cpow10 (by decide) (by decide), hR _ _ ⟨_, t30, fun m e => (by cases e), rfl, rfl⟩⟩) (fun c => absurd rfl c)
        | some m =>
          rw [e] at hR
          have := hlo' m e
          exact ite2 (fun c => by cases c) (fun _ => ⟨_, rfl, _, rfl, _, _, rfl, rfl, hR _ _ ⟨here - m, by omega, fun m' e' => by cases e'; omega, rfl, rfl⟩⟩)
      rintro σ H18 ⟨wd2, wd20, hwd2, rfl, rfl⟩
      refine ⟨_, rfl, _, rfl, _, rfl, _, rfl, pe, 60, _, rfl, by decide, g17.pen, by omega, fun r' H19 z0' nr' g19 => ?_⟩
      have hm2 : (0 : Int) < wd2 + 1 := by omega
      have q1 := Int.emod_nonneg r' (show wd2 + 1 ≠ 0 by omega)
      have q2 := Int.emod_lt_of_pos r' hm2
      have q3 : Nb 320 (r' % (wd2 + 1)) := (nr'.le q1 (emod_le_self z0' hm2)).mono (by unfold fbits; decide)
      have lk19 := lk17.go g17.pen g19
      refine ⟨_, rfl, _, _, rfl, rfl, _, _, rfl, rfl, hm2, _, _, rfl, rfl, hd, t, here - r' % (wd2 + 1), rs, 700, rfl, lk19.recs, by omega, by decide, sz700, nt.mono (by decide), ((nh.mono (show 252 + 66 ≤ 320 by decide)).sub q3).mono (by decide), ?_, fun H20 s20 => ⟨true, rfl, ?_⟩⟩
      · refine ex _ (fun m e => ?_) (fun m e => ?_)
        · have := hwd2 m e; omega
        · have := hhi' m e; omega
      exact ⟨_, _, _, _, _, _, _, _, rfl, ((g17.trans g19).same s20).more (by omega), lk19.same s20⟩
    · rintro σ H6 ⟨s8, s9, s10, s11, s12, s13, s14, s15, rfl, g6, lk6⟩
      refine ⟨_, rfl, hd, dD b rs, rfl, dp_b lk6.hd lk6.rv, d1, d2, d3, d4, _, rfl, rfl, false, ?_, ?_⟩
      · exact congrArg V.bl (by rw [decide_eq_true rfl]; rfl)
      · exact ⟨_, _, _, _, _, _, _, _, _, _, _, _, _, _, rfl, g6.more (by omega)⟩
  · rintro σ H2 ⟨s2, s3, s4, s5, s6, s7, s8, s9, s10, s11, s12, s13, s14, s15, rfl, g2⟩
    exact k H2
end
end K67

set_option Elab.async false
set_option linter.all false
set_option maxRecDepth 100000
set_option maxHeartbeats 4000000
namespace K67
open PySem PySem.Spec PyProof.Rows L2
/-! ### the law called by the claim's own caller: no text is being shown there, which repr of a list wants to know -/
/-- what the law's def must do, entered by the caller: its body runs -/
def Runs (P : Program) (w : World) (K : PySem.W.Frag) (mg : Str → Option Value) (base : Heap) (k : Nat) (f : Addr) (qual : Str) (sc : Scope) (body : List Stmt) (cdv : Value) (N : List Str) (sp : Sp) : Prop :=
  ∀ (s : Shared) (H : Hp) (vs : List V) (Q : VK), Room k (callerA.deeper (envOfC qual sc s.heap.objs.size f cdv)) → (callerA.deeper (envOfC qual sc s.heap.objs.size f cdv)).guards = some [] → sp vs H Q (fun _ _ _ => False) →
    ∃ t, PSs (cxOf CX0 P w K mg base N qual sc f cdv callerA [] s H (fun _ _ _ => False)).nox body t ∧ t { nx := fun _ H' => Q .non H', rt := Q } (start N vs) H
theorem guards_deeper (env : Env) : (callerA.deeper env).guards = some [] := rfl
/-- the call of a def by the caller, from its body -/
theorem enter_run {P : Program} {w : World} {K : PySem.W.Frag} {mg : Str → Option Value} {base : Heap} {k : Nat} {f : Addr} {name qual : Str} {params : Arguments} {body : List Stmt} {sc : Scope} {kV doc pm cdv ct oc : Value} {an od : Option Addr} {osl : Array (Option Value)}
    {N ps : List Str} {sp : Sp} {s : Shared} {H : Hp} {us : List Value} {vs : List V} {Q : VK} (lk : K.lookup f = some ⟨oc, od, .func (PySem.W.fnOf name qual params body sc .none kV doc pm an cdv ct), osl⟩) (hcd : PySem.W.codeIn K cdv qual = true) (S : FnScope N ps sc)
    (hb : BindsTo s (PySem.W.fnOf name qual params body sc .none kV doc pm an cdv ct) ⟨us, []⟩ (ps.zip us)) (R : Runs P w K mg base k f qual sc body cdv N sp) (hr : Room (k + 1) callerA) (e0 : Env0 P w K mg base callerA [] s H) (r : Vals vs us) (hl : vs.length = ps.length) (h : sp vs H Q (fun _ _ _ => False)) :
    codeAny (model P w) callerA (.call (.ref f) ⟨us, []⟩) (fun x s' => ∃ u, x = .ok (.ret u) ∧ CE [] P w H s Q u s') s := by
  have inK : K.In s.heap := e0.mod.kin.keeps fun b o e => (e0.bs b o e).1
  have noLim : s.heap.NoLimit := e0.mod.nolimit.keeps fun b o e => (e0.bs b o e).1
  obtain ⟨t, ht, q⟩ := R s H vs Q (hr.deeper _) (guards_deeper _) h
  refine codeAny_call_function hr.depth (inK _ _ lk) rfl S.co S.gen rfl (PySem.W.codeRec_of inK hcd) (hb _ _ _ _ ?_)
  refine wpAny_newFunctionEnv_cells S.kind (fun y hy => (S.par y.1 (List.of_mem_zip hy).1).imp id fun z => ⟨z, PySem.W.cellsFrom_some _ _ _ (.inl z)⟩) fun env he s1 x => ?_
  subst he
  refine ⟨noLim.keeps x.toInCall.keep, codeAny_func ?_⟩
  have I : Inv (cxOf CX0 P w K mg base N qual sc f cdv callerA [] s H (fun _ _ _ => False)) [] (start N vs) H s1 := inv_start S hr.hd e0 hl r x
  refine wpAny_mono (ht.nox.run [] s1 (start N vs) H _ I q) (fun fl s' hs => ?_) fun e s' hs => wpAny_mono hs (fun _ _ z => False.elim z) fun _ _ z => False.elim z
  cases fl with
  | ret u =>
    obtain ⟨v, σ', H', J, rv, q⟩ := hs
    exact ⟨u, rfl, v, H', J.os, J.bare, J.base, J.hok, rv, q⟩
  | next =>
    obtain ⟨σ', H', J, q⟩ := hs
    exact ⟨_, rfl, .non, H', J.os, J.bare, J.base, J.hok, rfl, q⟩
  | brk =>
    obtain ⟨_, _, _, z⟩ := hs
    exact False.elim z
  | cont =>
    obtain ⟨_, _, _, z⟩ := hs
    exact False.elim z
/-- the heap that tracks the script alone (or nothing, where the script is the module's own) -/
def oneH (a : Addr) (vs : List Value) (ns : List Int) : Hp := fun b => if b = a then some (.frz { cls := .type "list", data := .seq vs.toArray } (.lst (ns.map V.int))) else none
theorem ints_vals : ∀ {vs : List Value} {ns : List Int}, IntsAre vs ns → Vals (ns.map V.int) vs
  | _, _, .nil => .nil
  | _, _, .cons n t h => .cons ⟨t, rfl⟩ (ints_vals h)
/-- a start for the law: a heap that tracks the script, a base, and what they tell -/
theorem law_start {P : Program} {w : World} {K : PySem.W.Frag} {mg mb : Str → Option Value} {a : Addr} {s : Shared} {vs : List Value} {ns : List Int} (KX : K.In s.heap) (hns : s.heap.Ns mainGlobals mg) (hb : s.heap.Ns builtinsNs mb) (hbb : ∀ x : Str, x ≠ "__name__" → mb x = bootBuiltins x)
    (hlim : s.heap.NoLimit) (hg : s.gens = #[]) (ha : s.heap.get? a = some { cls := .type "list", data := .seq vs.toArray }) (hi : IntsAre vs ns) (hl : ns.length ≤ sizeLine) :
    ∃ H : Hp, (∀ b, H b = none ∨ ∃ o xs, H b = some (.frz o (.lst xs))) ∧ SqL K H a (ns.map V.int) ∧ K.In (hidT s.heap H) ∧ (hidT s.heap H).Ns mainGlobals mg ∧ Env0 P w K mg (hidT s.heap H) callerA [] s H := by
  have rv := ints_vals hi
  have ln := hi.length
  have all : ∀ H : Hp, (∀ b u, H b = some u → b = a) → (∀ u, H a = some u → K.lookup a = none) → HOk P w H s.heap → K.In (hidT s.heap H) ∧ (hidT s.heap H).Ns mainGlobals mg ∧ Env0 P w K mg (hidT s.heap H) callerA [] s H := by
    intro H only free hok
    -- what stands still where H tracks nothing
    have still : ∀ {b : Addr} {o : Obj}, s.heap.get? b = some o → (∀ u, H b ≠ some u) → (hidT s.heap H).get? b = some o := fun {b o} e n => hidT_get e (by
      cases z : H b with
      | none => rfl
      | some u => exact absurd z (n u))
    have dict : ∀ {b : Addr} {m : Str → Option Value}, s.heap.Ns b m → (hidT s.heap H).Ns b m := by
      rintro b m ⟨o, es, ep, e, d, r⟩
      refine ⟨o, es, ep, still e fun u z => ?_, d, r⟩
      have := only b u z
      subst this
      rw [ha] at e
      cases e
      cases d
    have inK : K.In (hidT s.heap H) := fun b o e => still (KX b o e) fun u z => by
      have := only b u z
      subst this
      rw [free u z] at e
      cases e
    obtain ⟨mc, c1, c2⟩ := hlim
    refine ⟨inK, dict hns, ⟨rfl, ⟨inK, dict hns, ⟨mb, dict hb, hbb⟩, ⟨mc, dict c1, c2⟩⟩, fun b o e => of_hidT e, Nat.le_of_eq (hidT_size _ _), trivial, fun b z => (by cases z), hok, .of_eq hg⟩⟩
  cases hk : K.lookup a with
  | some o =>
    have e := KX a o hk
    rw [ha] at e
    cases e
    obtain ⟨z1, z2, z3⟩ := all (fun _ => none) (fun b u z => by cases z) (fun u z => by cases z) (fun b u z => by cases z)
    exact ⟨fun _ => none, fun _ => .inl rfl, .inr ⟨_, vs.toArray, _, hk, rfl, rfl, rfl, by rw [List.size_toArray, ln]; exact hl, by simpa using rv⟩, z1, z2, z3⟩
  | none =>
    have at_a : oneH a vs ns a = some (.frz { cls := .type "list", data := .seq vs.toArray } (.lst (ns.map V.int))) := if_pos rfl
    have off : ∀ b, b ≠ a → oneH a vs ns b = none := fun b n => if_neg n
    have only : ∀ b u, oneH a vs ns b = some u → b = a := fun b u z => by
      by_cases n : b = a
      · exact n
      · rw [off b n] at z; cases z
    have hok : HOk P w (oneH a vs ns) s.heap := fun b u z => by
      have := only b u z
      subst this
      rw [at_a] at z
      cases z
      exact ⟨ha, by rw [List.length_map]; exact hl, vs, _, rv, ha⟩
    obtain ⟨z1, z2, z3⟩ := all _ only (fun u z => hk) hok
    refine ⟨oneH a vs ns, fun b => ?_, .inl (.inr ⟨_, at_a⟩), z1, z2, z3⟩
    by_cases n : b = a
    · subst n; exact .inr ⟨_, _, at_a⟩
    · exact .inl (off b n)
/-- the law's row, from its body run by the caller -/
theorem law_row {l : PySem.W.OpenLaw} {n k : Nat} {q : Program} {loose : List Str} {XP : (Str → Option Value) → Heap → Prop} {YP : World → Heap → Prop} {d : DefRec} {K : Params → PySem.W.Frag} {sp : PySem.W.Frag → Sp} {x qual : Str} {N : List Str}
    (hn : l.most = some n) (hn2 : n ≤ sizeLine) (hdf : d.params.defaults = []) (hr : Room (k + 1) callerA) (hY : ∀ (w : World) (h : Heap), YP w h → (K w.params).In h)
    (F : ∀ (w : World) (mg : Str → Option Value) (fa : Addr) (h : Heap), (K w.params).In h → h.Ns mainGlobals mg → mg d.name = some (.ref fa) →
      ∃ (name : Str) (params : Arguments) (body : List Stmt) (sc : Scope) (kV doc pm cdv ct oc : Value) (an od : Option Addr) (osl : Array (Option Value)),
        (K w.params).lookup fa = some ⟨oc, od, .func (PySem.W.fnOf name qual params body sc .none kV doc pm an cdv ct), osl⟩ ∧ PySem.W.codeIn (K w.params) cdv qual = true ∧ FnScope N [x] sc ∧
        (∀ (s : Shared) (u : Value), BindsTo s (PySem.W.fnOf name qual params body sc .none kV doc pm an cdv ct) ⟨[u], []⟩ [(x, u)]) ∧
        ∀ base : Heap, (K w.params).In base → base.Ns mainGlobals mg → Runs l.prog w (K w.params) mg base k fa qual sc body cdv N (sp (K w.params)))
    (hsp : ∀ (K : PySem.W.Frag) (H : Hp) (a : Addr) (ns : List Int), ns.length ≤ n → SqL K H a (ns.map V.int) → sp K [.ref a] H (fun v _ => v = .bl true) fun _ _ _ => False) :
    PySem.W.WalkO q loose XP YP l.row.toRowW d [] (fun f vs => PySem.call f vs) := by
  refine Att.attach_call hn hdf fun w s0 s1 mg mb fa o pm cd doc a vs ns G Y ho hd hcd hmg hobj hints hlen hg => ?_
  have KX := hY w _ Y
  obtain ⟨name, params, body, sc, kV, doc', pm', cdv, ct, oc, an, od, osl, lk, hc, S, hb, R⟩ := F w mg fa _ KX G.T.g hmg
  obtain ⟨H, hO, hS, i1, i2, e0⟩ := law_start (P := l.prog) (w := w) KX G.T.g G.T.b G.T.builtins G.T.nolimit hg hobj hints (Nat.le_trans hlen hn2)
  refine codeAny_mono (enter_run (vs := [V.ref a]) (us := [Value.ref a]) lk hc S (hb s1 (.ref a)) (R _ i1 i2) hr e0 (.cons rfl .nil) rfl (hsp _ H a ns hlen hS)) fun r s' h => ?_
  obtain ⟨u, rfl, v, H', os, bare, un, hok', rv, q⟩ := h
  subst q
  obtain rfl : u = Value.bool true := rv
  refine ⟨rfl, OldK.of_keep fun b o e => ?_, os, bare⟩
  rcases hO b with z | ⟨ob, xs, z⟩
  · exact un.keep b o e z (fun y => by cases y) (by simp)
  · obtain ⟨e1, _⟩ := e0.hok b _ z
    obtain ⟨e2, _⟩ := hok' b _ (un.frzs b ob _ z)
    rw [e] at e1
    cases e1
    exact e2
end K67

set_option Elab.async false
set_option linter.all false
set_option maxRecDepth 100000
set_option maxHeartbeats 4000000
namespace K67
open PySem PySem.Spec PyProof.Rows L2
/-! ### the facts of the text (printed by gen_all.py) -/
abbrev BindsAll (x qual : Str) (st : Stmt) (ps : List Str) : Prop := ∀ (kV doc pm : Value) (an : Option Addr) (cdv ct : Value) (us : List Value), us.length = ps.length → bindArgs (PySem.W.fnOf x qual (defArgs st) (defBody st) (defScope st) .none kV doc pm an cdv ct) ⟨us, []⟩ = pure (ps.zip us)
section
variable {K : PySem.W.Frag} {h : Heap} {mg : Str → Option Value}
theorem df_of {x : Str} {st : Stmt} {ps : List Str} {f : Addr} {oc : Value} {od an : Option Addr} {osl : Array (Option Value)} {kV doc pm cdv ct : Value} (X : K.In h) (G : h.Ns mainGlobals mg) (b : BindsAll x x st ps) (a : PySem.W.nsIn K mainGlobals x = some (some (.ref f)))
    (l : K.lookup f = some ⟨oc, od, .func (PySem.W.fnOf x x (defArgs st) (defBody st) (defScope st) .none kV doc pm an cdv ct), osl⟩) (c : PySem.W.codeIn K cdv x = true) (k : PySem.W.keepIn K (.ref f) = true) : ∃ f fd, Df K mg x st ps f fd :=
  ⟨f, _, fun_mk l c k, PySem.W.mg_of X G a, (fun_mk l c k).binds b⟩
theorem dm_of {x qual : Str} {st : Stmt} {ps : List Str} {C f : Addr} {oc : Value} {od an : Option Addr} {osl : Array (Option Value)} {kV doc pm cdv ct : Value} (b : BindsAll x qual st ps) (a : PySem.W.findIn K (.ref C) x = some (some (.ref f))) (i : PySem.W.isFn K (.ref f) = true)
    (l : K.lookup f = some ⟨oc, od, .func (PySem.W.fnOf x qual (defArgs st) (defBody st) (defScope st) .none kV doc pm an cdv ct), osl⟩) (c : PySem.W.codeIn K cdv qual = true) (k : PySem.W.keepIn K (.ref f) = true) : ∃ f fd, Dm K C x qual st ps f fd :=
  ⟨f, _, fun_mk l c k, ⟨a, i, k⟩, (fun_mk l c k).binds b⟩
theorem di_of {x qual : Str} {st : Stmt} {ps : List Str} {C f : Addr} {oc : Value} {od an : Option Addr} {osl : Array (Option Value)} {kV doc pm cdv ct : Value} (X : K.In h) (G : h.Ns mainGlobals mg) (aC : PySem.W.nsIn K mainGlobals x = some (some (.ref C))) (b : BindsAll "__init__" qual st ps)
    (a : PySem.W.findIn K (.ref C) "__init__" = some (some (.ref f))) (i : PySem.W.isFn K (.ref f) = true) (l : K.lookup f = some ⟨oc, od, .func (PySem.W.fnOf "__init__" qual (defArgs st) (defBody st) (defScope st) .none kV doc pm an cdv ct), osl⟩) (c : PySem.W.codeIn K cdv qual = true) (k : PySem.W.keepIn K (.ref f) = true)
    (mk : PySem.W.makesIn K C = true) (kc : PySem.W.keepIn K (.ref C) = true) : ∃ f fd, Di K mg x C qual st ps f fd :=
  ⟨f, _, fun_mk l c k, ⟨mk, a, i, kc⟩, PySem.W.mg_of X G aC, (fun_mk l c k).binds b⟩
theorem np_of {C CL fI N : Addr} {oc : Value} {od an : Option Addr} {osl : Array (Option Value)} {kV doc pm cdv ct : Value} {nm q : Str} {bs bm : List Value} {sn : List Str} {sub : List Value} {ab : Bool} {col : Option Bool} {dd : Option Addr} {m0 m1 m2 m3 m5 : Option Value}
    (X : K.In h) (G : h.Ns mainGlobals mg) (b : BindsAll "__init__" "NotPossible.__init__" (inClass (top 5) 0) ["self", "value"]) (aC : PySem.W.nsIn K mainGlobals "NotPossible" = some (some (.ref C)))
    (xL : K.lookup C = some (excClassObj nm q C N bs bm true sn sub ab col dd m0 m1 m2 m3 m5 "ValueError.__new__")) (rf : PySem.HandSPX.refsVE bm = true) (sa : PySem.W.findIn K (.ref C) "__setattr__" = some (some (.builtin "object.__setattr__")))
    (ga : PySem.W.findIn K (.ref C) "__getattribute__" = some (some (.builtin "BaseException.__getattribute__"))) (gg : PySem.W.findIn K (.ref C) "__getattr__" = some none) (nv : PySem.W.findIn K (.ref C) "value" = some none)
    (a1 : PySem.W.findIn K (.ref C) "__init__" = some (some (.ref fI))) (t1 : PySem.W.typeIn K (.ref fI) = some (.type "function")) (l1 : K.lookup fI = some ⟨oc, od, .func (PySem.W.fnOf "__init__" "NotPossible.__init__" (defArgs (inClass (top 5) 0)) (defBody (inClass (top 5) 0)) (defScope (inClass (top 5) 0)) .none kV doc pm an cdv ct), osl⟩)
    (c1 : PySem.W.codeIn K cdv "NotPossible.__init__" = true) (k1 : PySem.W.keepIn K (.ref fI) = true) (kC : PySem.W.keepIn K (.ref C) = true) (eC : PySem.W.subIn K (.ref C) (.type "BaseException") = some true) (tC : PySem.W.typeIn K (.ref C) = some (.type "type")) (hC : PySem.W.hasDictIn K C = true)
    (iC : PySem.W.isClsIn K C = true) (sC : PySem.W.subIn K (.ref C) (.ref C) = some true) (aL : PySem.W.nsIn K mainGlobals "LeapfitError" = some (some (.ref CL))) (rd : PySem.W.readsIn K CL (.type "type") = true) (sg : PySem.W.specialIn K (.ref CL) "__getattribute__" = some (some (.builtin "type.__getattribute__")))
    (fc : PySem.W.findCls K (.ref CL) (.type "type") "__init__" = some (.val (.builtin "ValueError.__init__"))) (hca : PySem.W.findIn K (.ref C) "__class__" = some (some (.builtin "object.__class__"))) (hgt : PySem.W.specialIn K (.builtin "object.__class__") "__get__" = some (some (.builtin "getset_descriptor.__get__")))
    (htk : PySem.W.takesIn K (.builtin "object.__class__") = some true) (hm : PySem.W.mroIn K C (.type "object") = some true) (kit : PySem.W.subIn K (.ref C) (.type "ValueError") = some true) : ∃ C, NpTxt K mg C := by
  refine ⟨C, PySem.W.mg_of X G aC, ⟨⟨nm, q, N, bs, bm, sn, sub, ab, col, dd, m0, m1, m2, m3, m5, xL, rf⟩, sa, eC, tC, kC⟩, ⟨ga, gg, eC, hC⟩, nv, ⟨fI, a1, t1, _, fun_mk l1 c1 k1, (fun_mk l1 c1 k1).binds b⟩, ⟨CL, .type "type", PySem.W.mg_of X G aL, rd, sg, fc⟩, iC, hca, hgt, htk, hm, ?_, ?_⟩
  · show (if (Value.ref C == Value.type "ValueError") = true then some true else (if PySem.W.kitMeta "ValueError" = true then PySem.W.subIn K (.ref C) (.type "ValueError") else none)) = some true
    rw [if_neg (fun z => by cases beq_iff_eq.mp z), if_pos (by decide +kernel)]
    exact kit
  have e1 : (PySem.W.subIn K (.ref C) (.type "BaseException") == some true) = true := by rw [eC] <;> rfl
  have e2 : ((PySem.W.clsIn K C).isSome && PySem.W.typeIn K (.ref C) == some (.type "type")) = true := by
    have h2 : (PySem.W.clsIn K C).isSome = true := iC
    rw [h2, tC] <;> rfl
  show (if (PySem.W.subIn K (.ref C) (.type "BaseException") == some true) = true then (if ((PySem.W.clsIn K C).isSome && PySem.W.typeIn K (.ref C) == some (.type "type")) = true then PySem.W.subIn K (.ref C) (.ref C) else none) else none) = some true
  rw [if_pos e1, if_pos e2]
  exact sC
theorem txt_of {aB : Addr} {nB : Nat} {t t1 t2 : Tok} {oB : Option Addr} {slB : Array (Option Value)} (X : K.In h) (G : h.Ns mainGlobals mg)
    (z_isinstance : PySem.W.nsIn K mainGlobals "isinstance" = some none)
    (z_int : PySem.W.nsIn K mainGlobals "int" = some none)
    (z_bool : PySem.W.nsIn K mainGlobals "bool" = some none)
    (z_list : PySem.W.nsIn K mainGlobals "list" = some none)
    (z_tuple : PySem.W.nsIn K mainGlobals "tuple" = some none)
    (z_len : PySem.W.nsIn K mainGlobals "len" = some none)
    (z_all : PySem.W.nsIn K mainGlobals "all" = some none)
    (z_str : PySem.W.nsIn K mainGlobals "str" = some none)
    (z_enumerate : PySem.W.nsIn K mainGlobals "enumerate" = some none)
    (z_abs : PySem.W.nsIn K mainGlobals "abs" = some none)
    (z_max : PySem.W.nsIn K mainGlobals "max" = some none)
    (z_min : PySem.W.nsIn K mainGlobals "min" = some none)
    (z_sorted : PySem.W.nsIn K mainGlobals "sorted" = some none)
    (z_zip : PySem.W.nsIn K mainGlobals "zip" = some none)
    (z_range : PySem.W.nsIn K mainGlobals "range" = some none)
    (z_repr : PySem.W.nsIn K mainGlobals "repr" = some none)
    (z_verr : PySem.W.nsIn K mainGlobals "ValueError" = some none)
    (z_most : PySem.W.nsIn K mainGlobals "MOST_ITEMS" = some (some (.int 200 t))) (z_bounds : PySem.W.nsIn K mainGlobals "BOUNDS" = some (some (.ref aB))) (l_bounds : K.lookup aB = some ⟨.type "tuple", oB, .seq #[.str "at least" t1, .str "at most" t2] nB, slB⟩) : Txt K mg :=
  { isinstance := PySem.W.mg_none_of X G z_isinstance, int := PySem.W.mg_none_of X G z_int, bool := PySem.W.mg_none_of X G z_bool, list := PySem.W.mg_none_of X G z_list, tuple := PySem.W.mg_none_of X G z_tuple, len := PySem.W.mg_none_of X G z_len, all := PySem.W.mg_none_of X G z_all, str := PySem.W.mg_none_of X G z_str, enumerate := PySem.W.mg_none_of X G z_enumerate, abs := PySem.W.mg_none_of X G z_abs, max := PySem.W.mg_none_of X G z_max, min := PySem.W.mg_none_of X G z_min, sorted := PySem.W.mg_none_of X G z_sorted, zip := PySem.W.mg_none_of X G z_zip, range := PySem.W.mg_none_of X G z_range, repr := PySem.W.mg_none_of X G z_repr, verr := PySem.W.mg_none_of X G z_verr, most := ⟨t, PySem.W.mg_of X G z_most⟩, bounds := ⟨aB, _, nB, t1, t2, PySem.W.mg_of X G z_bounds, l_bounds, rfl, rfl⟩ }
end
theorem b11 : BindsAll "is_integer" "is_integer" (top 11) ["value"] := fun _ _ _ _ _ _ us hl => match us, hl with | [_], _ => rfl
theorem b12 : BindsAll "is_list" "is_list" (top 12) ["value"] := fun _ _ _ _ _ _ us hl => match us, hl with | [_], _ => rfl
theorem b13 : BindsAll "common_divisor" "common_divisor" (top 13) ["one", "other"] := fun _ _ _ _ _ _ us hl => match us, hl with | [_, _], _ => rfl
theorem b14 : BindsAll "is_reduced" "is_reduced" (top 14) ["p", "q"] := fun _ _ _ _ _ _ us hl => match us, hl with | [_, _], _ => rfl
theorem b15 : BindsAll "is_rate" "is_rate" (top 15) ["value"] := fun _ _ _ _ _ _ us hl => match us, hl with | [_], _ => rfl
theorem b16 : BindsAll "is_record" "is_record" (top 16) ["value"] := fun _ _ _ _ _ _ us hl => match us, hl with | [_], _ => rfl
theorem b17 : BindsAll "need_integer" "need_integer" (top 17) ["value"] := fun _ _ _ _ _ _ us hl => match us, hl with | [_], _ => rfl
theorem b18 : BindsAll "need_records" "need_records" (top 18) ["value"] := fun _ _ _ _ _ _ us hl => match us, hl with | [_], _ => rfl
theorem b20 : BindsAll "simplest_rate" "simplest_rate" (top 20) ["low", "high"] := fun _ _ _ _ _ _ us hl => match us, hl with | [_, _], _ => rfl
theorem b21 : BindsAll "simplest_between" "simplest_between" (top 21) ["low", "high"] := fun _ _ _ _ _ _ us hl => match us, hl with | [_, _], _ => rfl
theorem b23 : BindsAll "lowest_terms" "lowest_terms" (top 23) ["top", "bottom"] := fun _ _ _ _ _ _ us hl => match us, hl with | [_, _], _ => rfl
theorem b24 : BindsAll "is_less" "is_less" (top 24) ["one", "other"] := fun _ _ _ _ _ _ us hl => match us, hl with | [_, _], _ => rfl
theorem b26 : BindsAll "ends_of" "ends_of" (top 26) ["records"] := fun _ _ _ _ _ _ us hl => match us, hl with | [_], _ => rfl
theorem b27 : BindsAll "rates" "rates" (top 27) ["records"] := fun _ _ _ _ _ _ us hl => match us, hl with | [_], _ => rfl
theorem b28 : BindsAll "phase_range" "phase_range" (top 28) ["records", "rate"] := fun _ _ _ _ _ _ us hl => match us, hl with | [_, _], _ => rfl
theorem b29 : BindsAll "some_rule" "some_rule" (top 29) ["records"] := fun _ _ _ _ _ _ us hl => match us, hl with | [_], _ => rfl
theorem b32 : BindsAll "slope_between" "slope_between" (top 32) ["first", "second"] := fun _ _ _ _ _ _ us hl => match us, hl with | [_, _], _ => rfl
theorem b33 : BindsAll "is_steeper" "is_steeper" (top 33) ["first", "second"] := fun _ _ _ _ _ _ us hl => match us, hl with | [_, _], _ => rfl
theorem b34 : BindsAll "is_turn" "is_turn" (top 34) ["first", "second", "third", "sign"] := fun _ _ _ _ _ _ us hl => match us, hl with | [_, _, _, _], _ => rfl
theorem b35 : BindsAll "hull_of" "hull_of" (top 35) ["points", "sign"] := fun _ _ _ _ _ _ us hl => match us, hl with | [_, _], _ => rfl
theorem b36 : BindsAll "greatest_points" "greatest_points" (top 36) ["records"] := fun _ _ _ _ _ _ us hl => match us, hl with | [_], _ => rfl
theorem b37 : BindsAll "least_points" "least_points" (top 37) ["records"] := fun _ _ _ _ _ _ us hl => match us, hl with | [_], _ => rfl
theorem b38 : BindsAll "inner_pieces" "inner_pieces" (top 38) ["hull", "strict"] := fun _ _ _ _ _ _ us hl => match us, hl with | [_, _], _ => rfl
theorem b39 : BindsAll "greatest_pieces" "greatest_pieces" (top 39) ["records", "low", "high"] := fun _ _ _ _ _ _ us hl => match us, hl with | [_, _, _], _ => rfl
theorem b40 : BindsAll "least_pieces" "least_pieces" (top 40) ["records", "low", "high"] := fun _ _ _ _ _ _ us hl => match us, hl with | [_, _, _], _ => rfl
theorem b43 : BindsAll "count_records" "count_records" (top 43) ["time", "count"] := fun _ _ _ _ _ _ us hl => match us, hl with | [_, _], _ => rfl
theorem b45 : BindsAll "count_range" "count_range" (top 45) ["records", "time"] := fun _ _ _ _ _ _ us hl => match us, hl with | [_, _], _ => rfl
theorem b46 : BindsAll "is_between" "is_between" (top 46) ["least", "number", "greatest"] := fun _ _ _ _ _ _ us hl => match us, hl with | [_, _, _], _ => rfl
theorem b47 : BindsAll "witness" "witness" (top 47) ["records", "time", "count"] := fun _ _ _ _ _ _ us hl => match us, hl with | [_, _, _], _ => rfl
theorem b49 : BindsAll "_law_pen" "_law_pen" (top 49) ["_law_script"] := fun _ _ _ _ _ _ us hl => match us, hl with | [_], _ => rfl
theorem b50 : BindsAll "_law_draw" "_law_draw" (top 50) ["_law_pen_here", "_law_many"] := fun _ _ _ _ _ _ us hl => match us, hl with | [_, _], _ => rfl
theorem b51 : BindsAll "_law_pick" "_law_pick" (top 51) ["_law_pen_here", "_law_options"] := fun _ _ _ _ _ _ us hl => match us, hl with | [_, _], _ => rfl
theorem b52 : BindsAll "_law_natural" "_law_natural" (top 52) ["_law_pen_here", "_law_figures"] := fun _ _ _ _ _ _ us hl => match us, hl with | [_, _], _ => rfl
theorem b53 : BindsAll "_law_integer" "_law_integer" (top 53) ["_law_pen_here", "_law_figures"] := fun _ _ _ _ _ _ us hl => match us, hl with | [_, _], _ => rfl
theorem b54 : BindsAll "_law_gcd" "_law_gcd" (top 54) ["_law_one", "_law_two"] := fun _ _ _ _ _ _ us hl => match us, hl with | [_, _], _ => rfl
theorem b55 : BindsAll "_law_hidden" "_law_hidden" (top 55) ["_law_pen_here", "_law_figures"] := fun _ _ _ _ _ _ us hl => match us, hl with | [_, _], _ => rfl
theorem b56 : BindsAll "_law_count_at" "_law_count_at" (top 56) ["_law_rule", "_law_t"] := fun _ _ _ _ _ _ us hl => match us, hl with | [_, _], _ => rfl
theorem b57 : BindsAll "_law_records" "_law_records" (top 57) ["_law_pen_here", "_law_rule", "_law_most", "_law_figures"] := fun _ _ _ _ _ _ us hl => match us, hl with | [_, _, _, _], _ => rfl
theorem b58 : BindsAll "_law_loose" "_law_loose" (top 58) ["_law_pen_here", "_law_rule", "_law_many", "_law_figures"] := fun _ _ _ _ _ _ us hl => match us, hl with | [_, _, _, _], _ => rfl
theorem b59 : BindsAll "_law_far_records" "_law_far_records" (top 59) ["_law_pen_here", "_law_figures"] := fun _ _ _ _ _ _ us hl => match us, hl with | [_, _], _ => rfl
theorem b60 : BindsAll "_law_fits_all" "_law_fits_all" (top 60) ["_law_rule", "_law_records_here"] := fun _ _ _ _ _ _ us hl => match us, hl with | [_, _], _ => rfl
theorem b61 : BindsAll "_law_not_possible" "_law_not_possible" (top 61) ["_law_records_here", "_law_t", "_law_n"] := fun _ _ _ _ _ _ us hl => match us, hl with | [_, _, _], _ => rfl
theorem b62 : BindsAll "_law_is_witness" "_law_is_witness" (top 62) ["_law_records_here", "_law_t", "_law_n"] := fun _ _ _ _ _ _ us hl => match us, hl with | [_, _, _], _ => rfl
theorem b63 : BindsAll "_law_end_right" "_law_end_right" (top 63) ["_law_records_here", "_law_t", "_law_bound", "_law_sign"] := fun _ _ _ _ _ _ us hl => match us, hl with | [_, _, _, _], _ => rfl
theorem b64 : BindsAll "_law_handed" "_law_handed" (top 64) ["_law_pen_here", "_law_records_here"] := fun _ _ _ _ _ _ us hl => match us, hl with | [_, _], _ => rfl
theorem b65 : BindsAll "law" "law" (top 65) ["_law_script"] := fun _ _ _ _ _ _ us hl => match us, hl with | [_], _ => rfl
theorem b25_0 : BindsAll "__init__" "RateBounds.__init__" (inClass (top 25) 0) ["self", "records"] := fun _ _ _ _ _ _ us hl => match us, hl with | [_, _], _ => rfl
theorem b25_1 : BindsAll "tighten" "RateBounds.tighten" (inClass (top 25) 1) ["self", "pair", "one", "other"] := fun _ _ _ _ _ _ us hl => match us, hl with | [_, _, _, _], _ => rfl
theorem b25_2 : BindsAll "is_empty" "RateBounds.is_empty" (inClass (top 25) 2) ["self"] := fun _ _ _ _ _ _ us hl => match us, hl with | [_], _ => rfl
theorem b25_3 : BindsAll "ends" "RateBounds.ends" (inClass (top 25) 3) ["self"] := fun _ _ _ _ _ _ us hl => match us, hl with | [_], _ => rfl
theorem b31_0 : BindsAll "__init__" "Piece.__init__" (inClass (top 31) 0) ["self", "start", "stop", "point", "slope", "strict"] := fun _ _ _ _ _ _ us hl => match us, hl with | [_, _, _, _, _, _], _ => rfl
theorem b31_1 : BindsAll "covers" "Piece.covers" (inClass (top 31) 1) ["self", "time"] := fun _ _ _ _ _ _ us hl => match us, hl with | [_, _], _ => rfl
theorem b31_2 : BindsAll "bound_at" "Piece.bound_at" (inClass (top 31) 2) ["self", "time"] := fun _ _ _ _ _ _ us hl => match us, hl with | [_, _], _ => rfl
theorem b41_0 : BindsAll "__init__" "Envelope.__init__" (inClass (top 41) 0) ["self", "records"] := fun _ _ _ _ _ _ us hl => match us, hl with | [_, _], _ => rfl
theorem b41_1 : BindsAll "least" "Envelope.least" (inClass (top 41) 1) ["self", "time"] := fun _ _ _ _ _ _ us hl => match us, hl with | [_, _], _ => rfl
theorem b41_2 : BindsAll "greatest" "Envelope.greatest" (inClass (top 41) 2) ["self", "time"] := fun _ _ _ _ _ _ us hl => match us, hl with | [_, _], _ => rfl
theorem b5_0 : BindsAll "__init__" "NotPossible.__init__" (inClass (top 5) 0) ["self", "value"] := fun _ _ _ _ _ _ us hl => match us, hl with | [_, _], _ => rfl
section
variable {K : PySem.W.Frag} {h : Heap} {mg : Str → Option Value}
theorem rb_of {C f0 f1 f2 f3 : Addr} {od0 an0 od1 an1 od2 an2 od3 an3 : Option Addr} {sl0 sl1 sl2 sl3 : Array (Option Value)} {oc0 kV0 dc0 pm0 cd0 ct0 oc1 kV1 dc1 pm1 cd1 ct1 oc2 kV2 dc2 pm2 cd2 ct2 oc3 kV3 dc3 pm3 cd3 ct3 : Value} (X : K.In h) (G : h.Ns mainGlobals mg) (aC : PySem.W.nsIn K mainGlobals "RateBounds" = some (some (.ref C)))
    (a0 : PySem.W.findIn K (.ref C) "__init__" = some (some (.ref f0))) (i0 : PySem.W.isFn K (.ref f0) = true) (l0 : K.lookup f0 = some ⟨oc0, od0, .func (PySem.W.fnOf "__init__" "RateBounds.__init__" (defArgs (inClass (top 25) 0)) (defBody (inClass (top 25) 0)) (defScope (inClass (top 25) 0)) .none kV0 dc0 pm0 an0 cd0 ct0), sl0⟩) (c0 : PySem.W.codeIn K cd0 "RateBounds.__init__" = true) (k0 : PySem.W.keepIn K (.ref f0) = true)
    (a1 : PySem.W.findIn K (.ref C) "tighten" = some (some (.ref f1))) (i1 : PySem.W.isFn K (.ref f1) = true) (l1 : K.lookup f1 = some ⟨oc1, od1, .func (PySem.W.fnOf "tighten" "RateBounds.tighten" (defArgs (inClass (top 25) 1)) (defBody (inClass (top 25) 1)) (defScope (inClass (top 25) 1)) .none kV1 dc1 pm1 an1 cd1 ct1), sl1⟩) (c1 : PySem.W.codeIn K cd1 "RateBounds.tighten" = true) (k1 : PySem.W.keepIn K (.ref f1) = true)
    (a2 : PySem.W.findIn K (.ref C) "is_empty" = some (some (.ref f2))) (i2 : PySem.W.isFn K (.ref f2) = true) (l2 : K.lookup f2 = some ⟨oc2, od2, .func (PySem.W.fnOf "is_empty" "RateBounds.is_empty" (defArgs (inClass (top 25) 2)) (defBody (inClass (top 25) 2)) (defScope (inClass (top 25) 2)) .none kV2 dc2 pm2 an2 cd2 ct2), sl2⟩) (c2 : PySem.W.codeIn K cd2 "RateBounds.is_empty" = true) (k2 : PySem.W.keepIn K (.ref f2) = true)
    (a3 : PySem.W.findIn K (.ref C) "ends" = some (some (.ref f3))) (i3 : PySem.W.isFn K (.ref f3) = true) (l3 : K.lookup f3 = some ⟨oc3, od3, .func (PySem.W.fnOf "ends" "RateBounds.ends" (defArgs (inClass (top 25) 3)) (defBody (inClass (top 25) 3)) (defScope (inClass (top 25) 3)) .none kV3 dc3 pm3 an3 cd3 ct3), sl3⟩) (c3 : PySem.W.codeIn K cd3 "RateBounds.ends" = true) (k3 : PySem.W.keepIn K (.ref f3) = true)
    (pg : PySem.W.plainGet K C Str.empty = true) (hd : PySem.W.hasDictIn K C = true) (po : PySem.W.plainOver K C = true) (sa : PySem.W.findIn K (.ref C) "__setattr__" = some (some (.builtin "object.__setattr__"))) (mk : PySem.W.makesIn K C = true) (kc : PySem.W.keepIn K (.ref C) = true)
    (n0 : PySem.W.findIn K (.ref C) "low" = some none)
    (n1 : PySem.W.findIn K (.ref C) "low_pair" = some none)
    (n2 : PySem.W.findIn K (.ref C) "high" = some none)
    (n3 : PySem.W.findIn K (.ref C) "high_pair" = some none)
    (n4 : PySem.W.findIn K (.ref C) "clash" = some none)
    : ∃ C, RbC K C ∧ (∃ f fd, Di K mg "RateBounds" C "RateBounds.__init__" (inClass (top 25) 0) ["self", "records"] f fd) ∧ (∃ f fd, Dm K C "tighten" "RateBounds.tighten" (inClass (top 25) 1) ["self", "pair", "one", "other"] f fd) ∧ (∃ f fd, Dm K C "is_empty" "RateBounds.is_empty" (inClass (top 25) 2) ["self"] f fd) ∧ (∃ f fd, Dm K C "ends" "RateBounds.ends" (inClass (top 25) 3) ["self"] f fd) := ⟨C, ⟨⟨pg, hd, po, sa⟩, n0, n1, n2, n3, n4⟩, di_of X G aC b25_0 a0 i0 l0 c0 k0 mk kc, dm_of b25_1 a1 i1 l1 c1 k1, dm_of b25_2 a2 i2 l2 c2 k2, dm_of b25_3 a3 i3 l3 c3 k3⟩
end
section
variable {K : PySem.W.Frag} {h : Heap} {mg : Str → Option Value}
theorem pc_of {C f0 f1 f2 : Addr} {od0 an0 od1 an1 od2 an2 : Option Addr} {sl0 sl1 sl2 : Array (Option Value)} {oc0 kV0 dc0 pm0 cd0 ct0 oc1 kV1 dc1 pm1 cd1 ct1 oc2 kV2 dc2 pm2 cd2 ct2 : Value} (X : K.In h) (G : h.Ns mainGlobals mg) (aC : PySem.W.nsIn K mainGlobals "Piece" = some (some (.ref C)))
    (a0 : PySem.W.findIn K (.ref C) "__init__" = some (some (.ref f0))) (i0 : PySem.W.isFn K (.ref f0) = true) (l0 : K.lookup f0 = some ⟨oc0, od0, .func (PySem.W.fnOf "__init__" "Piece.__init__" (defArgs (inClass (top 31) 0)) (defBody (inClass (top 31) 0)) (defScope (inClass (top 31) 0)) .none kV0 dc0 pm0 an0 cd0 ct0), sl0⟩) (c0 : PySem.W.codeIn K cd0 "Piece.__init__" = true) (k0 : PySem.W.keepIn K (.ref f0) = true)
    (a1 : PySem.W.findIn K (.ref C) "covers" = some (some (.ref f1))) (i1 : PySem.W.isFn K (.ref f1) = true) (l1 : K.lookup f1 = some ⟨oc1, od1, .func (PySem.W.fnOf "covers" "Piece.covers" (defArgs (inClass (top 31) 1)) (defBody (inClass (top 31) 1)) (defScope (inClass (top 31) 1)) .none kV1 dc1 pm1 an1 cd1 ct1), sl1⟩) (c1 : PySem.W.codeIn K cd1 "Piece.covers" = true) (k1 : PySem.W.keepIn K (.ref f1) = true)
    (a2 : PySem.W.findIn K (.ref C) "bound_at" = some (some (.ref f2))) (i2 : PySem.W.isFn K (.ref f2) = true) (l2 : K.lookup f2 = some ⟨oc2, od2, .func (PySem.W.fnOf "bound_at" "Piece.bound_at" (defArgs (inClass (top 31) 2)) (defBody (inClass (top 31) 2)) (defScope (inClass (top 31) 2)) .none kV2 dc2 pm2 an2 cd2 ct2), sl2⟩) (c2 : PySem.W.codeIn K cd2 "Piece.bound_at" = true) (k2 : PySem.W.keepIn K (.ref f2) = true)
    (pg : PySem.W.plainGet K C Str.empty = true) (hd : PySem.W.hasDictIn K C = true) (po : PySem.W.plainOver K C = true) (sa : PySem.W.findIn K (.ref C) "__setattr__" = some (some (.builtin "object.__setattr__"))) (mk : PySem.W.makesIn K C = true) (kc : PySem.W.keepIn K (.ref C) = true)
    (n0 : PySem.W.findIn K (.ref C) "start" = some none)
    (n1 : PySem.W.findIn K (.ref C) "stop" = some none)
    (n2 : PySem.W.findIn K (.ref C) "time" = some none)
    (n3 : PySem.W.findIn K (.ref C) "value" = some none)
    (n4 : PySem.W.findIn K (.ref C) "rise" = some none)
    (n5 : PySem.W.findIn K (.ref C) "width" = some none)
    (n6 : PySem.W.findIn K (.ref C) "strict" = some none)
    : ∃ C, PcC K C ∧ (∃ f fd, Di K mg "Piece" C "Piece.__init__" (inClass (top 31) 0) ["self", "start", "stop", "point", "slope", "strict"] f fd) ∧ (∃ f fd, Dm K C "covers" "Piece.covers" (inClass (top 31) 1) ["self", "time"] f fd) ∧ (∃ f fd, Dm K C "bound_at" "Piece.bound_at" (inClass (top 31) 2) ["self", "time"] f fd) := ⟨C, ⟨⟨pg, hd, po, sa⟩, n0, n1, n2, n3, n4, n5, n6⟩, di_of X G aC b31_0 a0 i0 l0 c0 k0 mk kc, dm_of b31_1 a1 i1 l1 c1 k1, dm_of b31_2 a2 i2 l2 c2 k2⟩
end
section
variable {K : PySem.W.Frag} {h : Heap} {mg : Str → Option Value}
theorem ev_of {C f0 f1 f2 : Addr} {od0 an0 od1 an1 od2 an2 : Option Addr} {sl0 sl1 sl2 : Array (Option Value)} {oc0 kV0 dc0 pm0 cd0 ct0 oc1 kV1 dc1 pm1 cd1 ct1 oc2 kV2 dc2 pm2 cd2 ct2 : Value} (X : K.In h) (G : h.Ns mainGlobals mg) (aC : PySem.W.nsIn K mainGlobals "Envelope" = some (some (.ref C)))
    (a0 : PySem.W.findIn K (.ref C) "__init__" = some (some (.ref f0))) (i0 : PySem.W.isFn K (.ref f0) = true) (l0 : K.lookup f0 = some ⟨oc0, od0, .func (PySem.W.fnOf "__init__" "Envelope.__init__" (defArgs (inClass (top 41) 0)) (defBody (inClass (top 41) 0)) (defScope (inClass (top 41) 0)) .none kV0 dc0 pm0 an0 cd0 ct0), sl0⟩) (c0 : PySem.W.codeIn K cd0 "Envelope.__init__" = true) (k0 : PySem.W.keepIn K (.ref f0) = true)
    (a1 : PySem.W.findIn K (.ref C) "least" = some (some (.ref f1))) (i1 : PySem.W.isFn K (.ref f1) = true) (l1 : K.lookup f1 = some ⟨oc1, od1, .func (PySem.W.fnOf "least" "Envelope.least" (defArgs (inClass (top 41) 1)) (defBody (inClass (top 41) 1)) (defScope (inClass (top 41) 1)) .none kV1 dc1 pm1 an1 cd1 ct1), sl1⟩) (c1 : PySem.W.codeIn K cd1 "Envelope.least" = true) (k1 : PySem.W.keepIn K (.ref f1) = true)
    (a2 : PySem.W.findIn K (.ref C) "greatest" = some (some (.ref f2))) (i2 : PySem.W.isFn K (.ref f2) = true) (l2 : K.lookup f2 = some ⟨oc2, od2, .func (PySem.W.fnOf "greatest" "Envelope.greatest" (defArgs (inClass (top 41) 2)) (defBody (inClass (top 41) 2)) (defScope (inClass (top 41) 2)) .none kV2 dc2 pm2 an2 cd2 ct2), sl2⟩) (c2 : PySem.W.codeIn K cd2 "Envelope.greatest" = true) (k2 : PySem.W.keepIn K (.ref f2) = true)
    (pg : PySem.W.plainGet K C Str.empty = true) (hd : PySem.W.hasDictIn K C = true) (po : PySem.W.plainOver K C = true) (sa : PySem.W.findIn K (.ref C) "__setattr__" = some (some (.builtin "object.__setattr__"))) (mk : PySem.W.makesIn K C = true) (kc : PySem.W.keepIn K (.ref C) = true)
    (n0 : PySem.W.findIn K (.ref C) "low" = some none)
    (n1 : PySem.W.findIn K (.ref C) "high" = some none)
    (n2 : PySem.W.findIn K (.ref C) "lower" = some none)
    (n3 : PySem.W.findIn K (.ref C) "upper" = some none)
    (nE : PySem.W.findIn K (.ref C) "covers" = some none)
    : ∃ C, EvC K C ∧ (∃ f fd, Di K mg "Envelope" C "Envelope.__init__" (inClass (top 41) 0) ["self", "records"] f fd) ∧ (∃ f fd, Dm K C "least" "Envelope.least" (inClass (top 41) 1) ["self", "time"] f fd) ∧ (∃ f fd, Dm K C "greatest" "Envelope.greatest" (inClass (top 41) 2) ["self", "time"] f fd) ∧ PySem.W.findIn K (.ref C) "covers" = some none := ⟨C, ⟨⟨pg, hd, po, sa⟩, n0, n1, n2, n3⟩, di_of X G aC b41_0 a0 i0 l0 c0 k0 mk kc, dm_of b41_1 a1 i1 l1 c1 k1, dm_of b41_2 a2 i2 l2 c2 k2, nE⟩
end
theorem thenP {p q : Prop} (h : p) (n : p → q) : q := n h
structure Facts (K : PySem.W.Frag) (mg : Str → Option Value) : Prop where
  txt : Txt K mg
  d11 : ∃ f fd, Df K mg "is_integer" (top 11) ["value"] f fd
  d12 : ∃ f fd, Df K mg "is_list" (top 12) ["value"] f fd
  d13 : ∃ f fd, Df K mg "common_divisor" (top 13) ["one", "other"] f fd
  d14 : ∃ f fd, Df K mg "is_reduced" (top 14) ["p", "q"] f fd
  d15 : ∃ f fd, Df K mg "is_rate" (top 15) ["value"] f fd
  d16 : ∃ f fd, Df K mg "is_record" (top 16) ["value"] f fd
  d17 : ∃ f fd, Df K mg "need_integer" (top 17) ["value"] f fd
  d18 : ∃ f fd, Df K mg "need_records" (top 18) ["value"] f fd
  d20 : ∃ f fd, Df K mg "simplest_rate" (top 20) ["low", "high"] f fd
  d21 : ∃ f fd, Df K mg "simplest_between" (top 21) ["low", "high"] f fd
  d23 : ∃ f fd, Df K mg "lowest_terms" (top 23) ["top", "bottom"] f fd
  d24 : ∃ f fd, Df K mg "is_less" (top 24) ["one", "other"] f fd
  d26 : ∃ f fd, Df K mg "ends_of" (top 26) ["records"] f fd
  d27 : ∃ f fd, Df K mg "rates" (top 27) ["records"] f fd
  d28 : ∃ f fd, Df K mg "phase_range" (top 28) ["records", "rate"] f fd
  d29 : ∃ f fd, Df K mg "some_rule" (top 29) ["records"] f fd
  d32 : ∃ f fd, Df K mg "slope_between" (top 32) ["first", "second"] f fd
  d33 : ∃ f fd, Df K mg "is_steeper" (top 33) ["first", "second"] f fd
  d34 : ∃ f fd, Df K mg "is_turn" (top 34) ["first", "second", "third", "sign"] f fd
  d35 : ∃ f fd, Df K mg "hull_of" (top 35) ["points", "sign"] f fd
  d36 : ∃ f fd, Df K mg "greatest_points" (top 36) ["records"] f fd
  d37 : ∃ f fd, Df K mg "least_points" (top 37) ["records"] f fd
  d38 : ∃ f fd, Df K mg "inner_pieces" (top 38) ["hull", "strict"] f fd
  d39 : ∃ f fd, Df K mg "greatest_pieces" (top 39) ["records", "low", "high"] f fd
  d40 : ∃ f fd, Df K mg "least_pieces" (top 40) ["records", "low", "high"] f fd
  d43 : ∃ f fd, Df K mg "count_records" (top 43) ["time", "count"] f fd
  d45 : ∃ f fd, Df K mg "count_range" (top 45) ["records", "time"] f fd
  d46 : ∃ f fd, Df K mg "is_between" (top 46) ["least", "number", "greatest"] f fd
  d47 : ∃ f fd, Df K mg "witness" (top 47) ["records", "time", "count"] f fd
  d49 : ∃ f fd, Df K mg "_law_pen" (top 49) ["_law_script"] f fd
  d50 : ∃ f fd, Df K mg "_law_draw" (top 50) ["_law_pen_here", "_law_many"] f fd
  d51 : ∃ f fd, Df K mg "_law_pick" (top 51) ["_law_pen_here", "_law_options"] f fd
  d52 : ∃ f fd, Df K mg "_law_natural" (top 52) ["_law_pen_here", "_law_figures"] f fd
  d53 : ∃ f fd, Df K mg "_law_integer" (top 53) ["_law_pen_here", "_law_figures"] f fd
  d54 : ∃ f fd, Df K mg "_law_gcd" (top 54) ["_law_one", "_law_two"] f fd
  d55 : ∃ f fd, Df K mg "_law_hidden" (top 55) ["_law_pen_here", "_law_figures"] f fd
  d56 : ∃ f fd, Df K mg "_law_count_at" (top 56) ["_law_rule", "_law_t"] f fd
  d57 : ∃ f fd, Df K mg "_law_records" (top 57) ["_law_pen_here", "_law_rule", "_law_most", "_law_figures"] f fd
  d58 : ∃ f fd, Df K mg "_law_loose" (top 58) ["_law_pen_here", "_law_rule", "_law_many", "_law_figures"] f fd
  d59 : ∃ f fd, Df K mg "_law_far_records" (top 59) ["_law_pen_here", "_law_figures"] f fd
  d60 : ∃ f fd, Df K mg "_law_fits_all" (top 60) ["_law_rule", "_law_records_here"] f fd
  d61 : ∃ f fd, Df K mg "_law_not_possible" (top 61) ["_law_records_here", "_law_t", "_law_n"] f fd
  d62 : ∃ f fd, Df K mg "_law_is_witness" (top 62) ["_law_records_here", "_law_t", "_law_n"] f fd
  d63 : ∃ f fd, Df K mg "_law_end_right" (top 63) ["_law_records_here", "_law_t", "_law_bound", "_law_sign"] f fd
  d64 : ∃ f fd, Df K mg "_law_handed" (top 64) ["_law_pen_here", "_law_records_here"] f fd
  rb : ∃ C, RbC K C ∧ (∃ f fd, Di K mg "RateBounds" C "RateBounds.__init__" (inClass (top 25) 0) ["self", "records"] f fd) ∧ (∃ f fd, Dm K C "tighten" "RateBounds.tighten" (inClass (top 25) 1) ["self", "pair", "one", "other"] f fd) ∧ (∃ f fd, Dm K C "is_empty" "RateBounds.is_empty" (inClass (top 25) 2) ["self"] f fd) ∧ (∃ f fd, Dm K C "ends" "RateBounds.ends" (inClass (top 25) 3) ["self"] f fd)
  pc : ∃ C, PcC K C ∧ (∃ f fd, Di K mg "Piece" C "Piece.__init__" (inClass (top 31) 0) ["self", "start", "stop", "point", "slope", "strict"] f fd) ∧ (∃ f fd, Dm K C "covers" "Piece.covers" (inClass (top 31) 1) ["self", "time"] f fd) ∧ (∃ f fd, Dm K C "bound_at" "Piece.bound_at" (inClass (top 31) 2) ["self", "time"] f fd)
  ev : ∃ C, EvC K C ∧ (∃ f fd, Di K mg "Envelope" C "Envelope.__init__" (inClass (top 41) 0) ["self", "records"] f fd) ∧ (∃ f fd, Dm K C "least" "Envelope.least" (inClass (top 41) 1) ["self", "time"] f fd) ∧ (∃ f fd, Dm K C "greatest" "Envelope.greatest" (inClass (top 41) 2) ["self", "time"] f fd) ∧ PySem.W.findIn K (.ref C) "covers" = some none
  np : ∃ C, NpTxt K mg C
theorem law_all {P : Program} {w : World} {K : PySem.W.Frag} {mg : Str → Option Value} {base : Heap} {f : Addr} {cdv : Value} (F : Facts K mg) :
    Runs P w K mg base 11 f "law" (defScope (top 65)) (defBody (top 65)) cdv ["_law_script", "_law_pen_here", "_law_turn", "_law_figures", "_law_records_here_here", "_law_rule", "_law_handed_here", "_law_kept", "_law_k", "_law_far", "_law_t", "_law_least", "_law_most", "_law_here", "_law_wide", "_law_one"] (spLaw K) := by
  have T := F.txt
  obtain ⟨f11, e11, D11⟩ := F.d11
  obtain ⟨f12, e12, D12⟩ := F.d12
  obtain ⟨f13, e13, D13⟩ := F.d13
  obtain ⟨f14, e14, D14⟩ := F.d14
  obtain ⟨f15, e15, D15⟩ := F.d15
  obtain ⟨f16, e16, D16⟩ := F.d16
  obtain ⟨f17, e17, D17⟩ := F.d17
  obtain ⟨f18, e18, D18⟩ := F.d18
  obtain ⟨f20, e20, D20⟩ := F.d20
  obtain ⟨f21, e21, D21⟩ := F.d21
  obtain ⟨f23, e23, D23⟩ := F.d23
  obtain ⟨f24, e24, D24⟩ := F.d24
  obtain ⟨f26, e26, D26⟩ := F.d26
  obtain ⟨f27, e27, D27⟩ := F.d27
  obtain ⟨f28, e28, D28⟩ := F.d28
  obtain ⟨f29, e29, D29⟩ := F.d29
  obtain ⟨f32, e32, D32⟩ := F.d32
  obtain ⟨f33, e33, D33⟩ := F.d33
  obtain ⟨f34, e34, D34⟩ := F.d34
  obtain ⟨f35, e35, D35⟩ := F.d35
  obtain ⟨f36, e36, D36⟩ := F.d36
  obtain ⟨f37, e37, D37⟩ := F.d37
  obtain ⟨f38, e38, D38⟩ := F.d38
  obtain ⟨f39, e39, D39⟩ := F.d39
  obtain ⟨f40, e40, D40⟩ := F.d40
  obtain ⟨f43, e43, D43⟩ := F.d43
  obtain ⟨f45, e45, D45⟩ := F.d45
  obtain ⟨f46, e46, D46⟩ := F.d46
  obtain ⟨f47, e47, D47⟩ := F.d47
  obtain ⟨f49, e49, D49⟩ := F.d49
  obtain ⟨f50, e50, D50⟩ := F.d50
  obtain ⟨f51, e51, D51⟩ := F.d51
  obtain ⟨f52, e52, D52⟩ := F.d52
  obtain ⟨f53, e53, D53⟩ := F.d53
  obtain ⟨f54, e54, D54⟩ := F.d54
  obtain ⟨f55, e55, D55⟩ := F.d55
  obtain ⟨f56, e56, D56⟩ := F.d56
  obtain ⟨f57, e57, D57⟩ := F.d57
  obtain ⟨f58, e58, D58⟩ := F.d58
  obtain ⟨f59, e59, D59⟩ := F.d59
  obtain ⟨f60, e60, D60⟩ := F.d60
  obtain ⟨f61, e61, D61⟩ := F.d61
  obtain ⟨f62, e62, D62⟩ := F.d62
  obtain ⟨f63, e63, D63⟩ := F.d63
  obtain ⟨f64, e64, D64⟩ := F.d64
  obtain ⟨CR, TR, ⟨_, _, R0⟩, ⟨_, _, R1⟩, ⟨_, _, R2⟩, ⟨_, _, R3⟩⟩ := F.rb
  obtain ⟨CP, TP, ⟨_, _, P0⟩, ⟨_, _, P1⟩, ⟨_, _, P2⟩⟩ := F.pc
  obtain ⟨CE, TE, ⟨_, _, E0⟩, ⟨_, _, E1⟩, ⟨_, _, E2⟩, nE⟩ := F.ev
  obtain ⟨CN, TN⟩ := F.np
  have hcc : CP ≠ CE := fun z => by
    have h1 := P1.me.at_
    rw [z, nE] at h1
    cases h1
  have c11 := can_is_integer (P := P) (w := w) (mg := mg) (base := base) T D11
  have c12 := can_is_list (P := P) (w := w) (mg := mg) (base := base) T D12
  have c13 := can_common_divisor (P := P) (w := w) (mg := mg) (base := base) D13
  have c14 := can_is_reduced (P := P) (w := w) (mg := mg) (base := base) D14 c13
  have c15 := can_is_rate (P := P) (w := w) (mg := mg) (base := base) T D15 c11 c14
  have c16 := can_is_record (P := P) (w := w) (mg := mg) (base := base) T D16 c11
  have c17 := can_need_integer (P := P) (w := w) (mg := mg) (base := base) D17 c11
  have c18 := can_need_records (P := P) (w := w) (mg := mg) (base := base) T D18 c12 c16
  have c20 := can_simplest_rate (P := P) (w := w) (mg := mg) (base := base) D20
  have c21 := can_simplest_between (P := P) (w := w) (mg := mg) (base := base) D21 c15 c20
  have c23 := can_lowest_terms (P := P) (w := w) (mg := mg) (base := base) T D23 c13
  have c24 := can_is_less (P := P) (w := w) (mg := mg) (base := base) D24
  have r1 := can_tighten (P := P) (w := w) (mg := mg) (base := base) TR R1 c24
  have r0 := can_rbinit (P := P) (w := w) (mg := mg) (base := base) T TR R0 r1
  have r2 := can_is_empty (P := P) (w := w) (mg := mg) (base := base) TR R2 c24
  have r3 := can_ends (P := P) (w := w) (mg := mg) (base := base) TR R3 c23
  have c26 := can_ends_of (P := P) (w := w) (mg := mg) (base := base) TR D26 r0 r2 r3
  have c27 := can_rates (P := P) (w := w) (mg := mg) (base := base) D27 c18 c26
  have c28 := can_phase_range (P := P) (w := w) (mg := mg) (base := base) T D28
  have c29 := can_some_rule (P := P) (w := w) (mg := mg) (base := base) D29 c26 c21 c28
  have p0 := can_pcinit (P := P) (w := w) (mg := mg) (base := base) TP P0
  have p1 := can_covers (P := P) (w := w) (mg := mg) (base := base) TP P1
  have p2 := can_bound_at (P := P) (w := w) (mg := mg) (base := base) TP P2
  have c32 := can_slope (P := P) (w := w) (mg := mg) (base := base) D32
  have c33 := can_is_steeper (P := P) (w := w) (mg := mg) (base := base) D33
  have c34 := can_is_turn (P := P) (w := w) (mg := mg) (base := base) D34 c32 c33
  have c35 := can_hull_of (P := P) (w := w) (mg := mg) (base := base) T D35 c34
  have c36 := can_greatest_points (P := P) (w := w) (mg := mg) (base := base) T D36
  have c37 := can_least_points (P := P) (w := w) (mg := mg) (base := base) T D37
  have c38 := can_inner_pieces (P := P) (w := w) (mg := mg) (base := base) T TP D38 c32 p0
  have c39 := can_greatest_pieces (P := P) (w := w) (mg := mg) (base := base) T TP D39 c36 c35 c32 c33 c38 p0
  have c40 := can_least_pieces (P := P) (w := w) (mg := mg) (base := base) T TP D40 c37 c35 c32 c33 c38 p0
  have e0 := can_evinit (P := P) (w := w) (mg := mg) (base := base) TE hcc E0 c26 c40 c39
  have e1 := can_least (P := P) (w := w) (mg := mg) (base := base) TE TP E1 p1 p2
  have e2 := can_greatest (P := P) (w := w) (mg := mg) (base := base) TE TP E2 p1 p2
  have c43 := can_count_records (P := P) (w := w) (mg := mg) (base := base) D43 c17
  have c45 := can_count_range (P := P) (w := w) (mg := mg) (base := base) TE D45 c18 c17 e0 e1 e2
  have c46 := can_is_between (P := P) (w := w) (mg := mg) (base := base) D46
  have c47 := can_witness (P := P) (w := w) (mg := mg) (base := base) T TN D47 c18 c17 c45 c46 c29 c43
  have c49 := can_pen (P := P) (w := w) (mg := mg) (base := base) T D49
  have c50 := can_draw (P := P) (w := w) (mg := mg) (base := base) T D50
  have c51 := can_pick (P := P) (w := w) (mg := mg) (base := base) T D51 c50
  have c52 := can_natural (P := P) (w := w) (mg := mg) (base := base) T D52 c50
  have c53 := can_integer (P := P) (w := w) (mg := mg) (base := base) D53 c52 c51
  have c54 := can_lgcd (P := P) (w := w) (mg := mg) (base := base) T D54
  have c55 := can_hidden (P := P) (w := w) (mg := mg) (base := base) D55 c50 c52 c53 c54
  have c56 := can_count_at (P := P) (w := w) (mg := mg) (base := base) D56
  have c57 := can_records (P := P) (w := w) (mg := mg) (base := base) T D57 c50 c52 c53 c51 c56
  have c58 := can_loose (P := P) (w := w) (mg := mg) (base := base) T D58 c50 c53 c56
  have c59 := can_far (P := P) (w := w) (mg := mg) (base := base) D59 c50 c55 c58 c57 c51
  have c60 := can_fits_all (P := P) (w := w) (mg := mg) (base := base) T D60 c54 c56
  have c61 := can_not_possible (P := P) (w := w) (mg := mg) (base := base) T TN D61 c47
  have c62 := can_is_witness (P := P) (w := w) (mg := mg) (base := base) D62 c47 c60 c56
  have c63 := can_end_right (P := P) (w := w) (mg := mg) (base := base) T D63 c62 c61 c27
  have c64 := can_handed (P := P) (w := w) (mg := mg) (base := base) T D64 c50
  intro s H vs Q hr hg h
  exact law_walk T c49 c50 c51 c52 c53 c56 c59 c64 c45 c63 c62 hr hg h
theorem law_find {l : PySem.W.OpenLaw} {w : World} {K : PySem.W.Frag} {h : Heap} {mg : Str → Option Value} {fa f : Addr} {oc : Value} {od an : Option Addr} {osl : Array (Option Value)} {kV doc pm cdv ct : Value} (X : K.In h) (G : h.Ns mainGlobals mg) (hfa : mg "law" = some (.ref fa)) (FF : Facts K mg)
    (a : PySem.W.nsIn K mainGlobals "law" = some (some (.ref f))) (lk : K.lookup f = some ⟨oc, od, .func (PySem.W.fnOf "law" "law" (defArgs (top 65)) (defBody (top 65)) (defScope (top 65)) .none kV doc pm an cdv ct), osl⟩) (c : PySem.W.codeIn K cdv "law" = true) :
    ∃ (name : Str) (params : Arguments) (body : List Stmt) (sc : Scope) (kV doc pm cdv ct oc : Value) (an od : Option Addr) (osl : Array (Option Value)),
      K.lookup fa = some ⟨oc, od, .func (PySem.W.fnOf name "law" params body sc .none kV doc pm an cdv ct), osl⟩ ∧ PySem.W.codeIn K cdv "law" = true ∧ FnScope ["_law_script", "_law_pen_here", "_law_turn", "_law_figures", "_law_records_here_here", "_law_rule", "_law_handed_here", "_law_kept", "_law_k", "_law_far", "_law_t", "_law_least", "_law_most", "_law_here", "_law_wide", "_law_one"] ["_law_script"] sc ∧
      (∀ (s : Shared) (u : Value), BindsTo s (PySem.W.fnOf name "law" params body sc .none kV doc pm an cdv ct) ⟨[u], []⟩ [("_law_script", u)]) ∧
      ∀ base : Heap, K.In base → base.Ns mainGlobals mg → Runs l.prog w K mg base 11 fa "law" sc body cdv ["_law_script", "_law_pen_here", "_law_turn", "_law_figures", "_law_records_here_here", "_law_rule", "_law_handed_here", "_law_kept", "_law_k", "_law_far", "_law_t", "_law_least", "_law_most", "_law_here", "_law_wide", "_law_one"] (spLaw K) := by
  have e := hfa.symm.trans (PySem.W.mg_of X G a)
  cases e
  exact ⟨"law", defArgs (top 65), defBody (top 65), defScope (top 65), kV, doc, pm, cdv, ct, oc, an, od, osl, lk, c, sc65, fun s u => .of_eq (b65 kV doc pm an cdv ct [u] rfl), fun base _ _ => law_all FF⟩
end K67
open PySem PySem.W PyProof.Rows
set_option maxRecDepth 100000 in
set_option maxHeartbeats 0 in
theorem PySem.Challenge.cw_leapfit_k67_whole_counts_between_are_att_holds : PySem.Challenge.rw_leapfit_k67_whole_counts_between_are_att.Holds := by
  w_on; o_law; k_head; (case hw => w_witness2)
  k_fill
  refine K67.law_row (l := PySem.Challenge.rw_leapfit_k67_whole_counts_between_are_att) (n := 63) (k := 11) (sp := fun K => K67.spLaw K) (x := "_law_script") (qual := "law") (N := ["_law_script", "_law_pen_here", "_law_turn", "_law_figures", "_law_records_here_here", "_law_rule", "_law_handed_here", "_law_kept", "_law_k", "_law_far", "_law_t", "_law_least", "_law_most", "_law_here", "_law_wide", "_law_one"]) rfl (by decide) rfl ⟨rfl, by decide, by decide⟩ (fun w h Y => PySem.W.kIn_of Y) ?F (fun K H a ns hl hS => ⟨a, ns, rfl, hS, hl, fun _ => rfl⟩)
  case F =>
    intro w mg fa h KX G hmg
    refine' K67.thenP (K67.txt_of KX G ?z_isinstance_1 ?z_int_1 ?z_bool_1 ?z_list_1 ?z_tuple_1 ?z_len_1 ?z_all_1 ?z_str_1 ?z_enumerate_1 ?z_abs_1 ?z_max_1 ?z_min_1 ?z_sorted_1 ?z_zip_1 ?z_range_1 ?z_repr_1 ?z_verr_1 ?z_most_1 ?z_bounds_1 ?lB_1) ?nx_1
    (case z_isinstance_1 => k_is); (case z_int_1 => k_is); (case z_bool_1 => k_is); (case z_list_1 => k_is); (case z_tuple_1 => k_is); (case z_len_1 => k_is)
    (case z_all_1 => k_is); (case z_str_1 => k_is); (case z_enumerate_1 => k_is); (case z_abs_1 => k_is); (case z_max_1 => k_is); (case z_min_1 => k_is)
    (case z_sorted_1 => k_is); (case z_zip_1 => k_is); (case z_range_1 => k_is); (case z_repr_1 => k_is); (case z_verr_1 => k_is); (case z_most_1 => k_is)
    (case z_bounds_1 => k_is); (case lB_1 => k_is)
    intro t0
    refine' K67.thenP (K67.df_of KX G K67.b11 ?a_2 ?l_2 ?c_2 ?k_2) ?nx_2
    (case a_2 => k_is); (case l_2 => k_is); (case c_2 => k_is); (case k_2 => k_is)
    intro d11
    refine' K67.thenP (K67.df_of KX G K67.b12 ?a_3 ?l_3 ?c_3 ?k_3) ?nx_3
    (case a_3 => k_is); (case l_3 => k_is); (case c_3 => k_is); (case k_3 => k_is)
    intro d12
    refine' K67.thenP (K67.df_of KX G K67.b13 ?a_4 ?l_4 ?c_4 ?k_4) ?nx_4
    (case a_4 => k_is); (case l_4 => k_is); (case c_4 => k_is); (case k_4 => k_is)
    intro d13
    refine' K67.thenP (K67.df_of KX G K67.b14 ?a_5 ?l_5 ?c_5 ?k_5) ?nx_5
    (case a_5 => k_is); (case l_5 => k_is); (case c_5 => k_is); (case k_5 => k_is)
    intro d14
    refine' K67.thenP (K67.df_of KX G K67.b15 ?a_6 ?l_6 ?c_6 ?k_6) ?nx_6
    (case a_6 => k_is); (case l_6 => k_is); (case c_6 => k_is); (case k_6 => k_is)
    intro d15
    refine' K67.thenP (K67.df_of KX G K67.b16 ?a_7 ?l_7 ?c_7 ?k_7) ?nx_7
    (case a_7 => k_is); (case l_7 => k_is); (case c_7 => k_is); (case k_7 => k_is)
    intro d16
    refine' K67.thenP (K67.df_of KX G K67.b17 ?a_8 ?l_8 ?c_8 ?k_8) ?nx_8
    (case a_8 => k_is); (case l_8 => k_is); (case c_8 => k_is); (case k_8 => k_is)
    intro d17
    refine' K67.thenP (K67.df_of KX G K67.b18 ?a_9 ?l_9 ?c_9 ?k_9) ?nx_9
    (case a_9 => k_is); (case l_9 => k_is); (case c_9 => k_is); (case k_9 => k_is)
    intro d18
    refine' K67.thenP (K67.df_of KX G K67.b20 ?a_10 ?l_10 ?c_10 ?k_10) ?nx_10
    (case a_10 => k_is); (case l_10 => k_is); (case c_10 => k_is); (case k_10 => k_is)
    intro d20
    refine' K67.thenP (K67.df_of KX G K67.b21 ?a_11 ?l_11 ?c_11 ?k_11) ?nx_11
    (case a_11 => k_is); (case l_11 => k_is); (case c_11 => k_is); (case k_11 => k_is)
    intro d21
    refine' K67.thenP (K67.df_of KX G K67.b23 ?a_12 ?l_12 ?c_12 ?k_12) ?nx_12
    (case a_12 => k_is); (case l_12 => k_is); (case c_12 => k_is); (case k_12 => k_is)
    intro d23
    refine' K67.thenP (K67.df_of KX G K67.b24 ?a_13 ?l_13 ?c_13 ?k_13) ?nx_13
    (case a_13 => k_is); (case l_13 => k_is); (case c_13 => k_is); (case k_13 => k_is)
    intro d24
    refine' K67.thenP (K67.df_of KX G K67.b26 ?a_14 ?l_14 ?c_14 ?k_14) ?nx_14
    (case a_14 => k_is); (case l_14 => k_is); (case c_14 => k_is); (case k_14 => k_is)
    intro d26
    refine' K67.thenP (K67.df_of KX G K67.b27 ?a_15 ?l_15 ?c_15 ?k_15) ?nx_15
    (case a_15 => k_is); (case l_15 => k_is); (case c_15 => k_is); (case k_15 => k_is)
    intro d27
    refine' K67.thenP (K67.df_of KX G K67.b28 ?a_16 ?l_16 ?c_16 ?k_16) ?nx_16
    (case a_16 => k_is); (case l_16 => k_is); (case c_16 => k_is); (case k_16 => k_is)
    intro d28
    refine' K67.thenP (K67.df_of KX G K67.b29 ?a_17 ?l_17 ?c_17 ?k_17) ?nx_17
    (case a_17 => k_is); (case l_17 => k_is); (case c_17 => k_is); (case k_17 => k_is)
    intro d29
    refine' K67.thenP (K67.df_of KX G K67.b32 ?a_18 ?l_18 ?c_18 ?k_18) ?nx_18
    (case a_18 => k_is); (case l_18 => k_is); (case c_18 => k_is); (case k_18 => k_is)
    intro d32
    refine' K67.thenP (K67.df_of KX G K67.b33 ?a_19 ?l_19 ?c_19 ?k_19) ?nx_19
    (case a_19 => k_is); (case l_19 => k_is); (case c_19 => k_is); (case k_19 => k_is)
    intro d33
    refine' K67.thenP (K67.df_of KX G K67.b34 ?a_20 ?l_20 ?c_20 ?k_20) ?nx_20
    (case a_20 => k_is); (case l_20 => k_is); (case c_20 => k_is); (case k_20 => k_is)
    intro d34
    refine' K67.thenP (K67.df_of KX G K67.b35 ?a_21 ?l_21 ?c_21 ?k_21) ?nx_21
    (case a_21 => k_is); (case l_21 => k_is); (case c_21 => k_is); (case k_21 => k_is)
    intro d35
    refine' K67.thenP (K67.df_of KX G K67.b36 ?a_22 ?l_22 ?c_22 ?k_22) ?nx_22
    (case a_22 => k_is); (case l_22 => k_is); (case c_22 => k_is); (case k_22 => k_is)
    intro d36
    refine' K67.thenP (K67.df_of KX G K67.b37 ?a_23 ?l_23 ?c_23 ?k_23) ?nx_23
    (case a_23 => k_is); (case l_23 => k_is); (case c_23 => k_is); (case k_23 => k_is)
    intro d37
    refine' K67.thenP (K67.df_of KX G K67.b38 ?a_24 ?l_24 ?c_24 ?k_24) ?nx_24
    (case a_24 => k_is); (case l_24 => k_is); (case c_24 => k_is); (case k_24 => k_is)
    intro d38
    refine' K67.thenP (K67.df_of KX G K67.b39 ?a_25 ?l_25 ?c_25 ?k_25) ?nx_25
    (case a_25 => k_is); (case l_25 => k_is); (case c_25 => k_is); (case k_25 => k_is)
    intro d39
    refine' K67.thenP (K67.df_of KX G K67.b40 ?a_26 ?l_26 ?c_26 ?k_26) ?nx_26
    (case a_26 => k_is); (case l_26 => k_is); (case c_26 => k_is); (case k_26 => k_is)
    intro d40
    refine' K67.thenP (K67.df_of KX G K67.b43 ?a_27 ?l_27 ?c_27 ?k_27) ?nx_27
    (case a_27 => k_is); (case l_27 => k_is); (case c_27 => k_is); (case k_27 => k_is)
    intro d43
    refine' K67.thenP (K67.df_of KX G K67.b45 ?a_28 ?l_28 ?c_28 ?k_28) ?nx_28
    (case a_28 => k_is); (case l_28 => k_is); (case c_28 => k_is); (case k_28 => k_is)
    intro d45
    refine' K67.thenP (K67.df_of KX G K67.b46 ?a_29 ?l_29 ?c_29 ?k_29) ?nx_29
    (case a_29 => k_is); (case l_29 => k_is); (case c_29 => k_is); (case k_29 => k_is)
    intro d46
    refine' K67.thenP (K67.df_of KX G K67.b47 ?a_30 ?l_30 ?c_30 ?k_30) ?nx_30
    (case a_30 => k_is); (case l_30 => k_is); (case c_30 => k_is); (case k_30 => k_is)
    intro d47
    refine' K67.thenP (K67.df_of KX G K67.b49 ?a_31 ?l_31 ?c_31 ?k_31) ?nx_31
    (case a_31 => k_is); (case l_31 => k_is); (case c_31 => k_is); (case k_31 => k_is)
    intro d49
    refine' K67.thenP (K67.df_of KX G K67.b50 ?a_32 ?l_32 ?c_32 ?k_32) ?nx_32
    (case a_32 => k_is); (case l_32 => k_is); (case c_32 => k_is); (case k_32 => k_is)
    intro d50
    refine' K67.thenP (K67.df_of KX G K67.b51 ?a_33 ?l_33 ?c_33 ?k_33) ?nx_33
    (case a_33 => k_is); (case l_33 => k_is); (case c_33 => k_is); (case k_33 => k_is)
    intro d51
    refine' K67.thenP (K67.df_of KX G K67.b52 ?a_34 ?l_34 ?c_34 ?k_34) ?nx_34
    (case a_34 => k_is); (case l_34 => k_is); (case c_34 => k_is); (case k_34 => k_is)
    intro d52
    refine' K67.thenP (K67.df_of KX G K67.b53 ?a_35 ?l_35 ?c_35 ?k_35) ?nx_35
    (case a_35 => k_is); (case l_35 => k_is); (case c_35 => k_is); (case k_35 => k_is)
    intro d53
    refine' K67.thenP (K67.df_of KX G K67.b54 ?a_36 ?l_36 ?c_36 ?k_36) ?nx_36
    (case a_36 => k_is); (case l_36 => k_is); (case c_36 => k_is); (case k_36 => k_is)
    intro d54
    refine' K67.thenP (K67.df_of KX G K67.b55 ?a_37 ?l_37 ?c_37 ?k_37) ?nx_37
    (case a_37 => k_is); (case l_37 => k_is); (case c_37 => k_is); (case k_37 => k_is)
    intro d55
    refine' K67.thenP (K67.df_of KX G K67.b56 ?a_38 ?l_38 ?c_38 ?k_38) ?nx_38
    (case a_38 => k_is); (case l_38 => k_is); (case c_38 => k_is); (case k_38 => k_is)
    intro d56
    refine' K67.thenP (K67.df_of KX G K67.b57 ?a_39 ?l_39 ?c_39 ?k_39) ?nx_39
    (case a_39 => k_is); (case l_39 => k_is); (case c_39 => k_is); (case k_39 => k_is)
    intro d57
    refine' K67.thenP (K67.df_of KX G K67.b58 ?a_40 ?l_40 ?c_40 ?k_40) ?nx_40
    (case a_40 => k_is); (case l_40 => k_is); (case c_40 => k_is); (case k_40 => k_is)
    intro d58
    refine' K67.thenP (K67.df_of KX G K67.b59 ?a_41 ?l_41 ?c_41 ?k_41) ?nx_41
    (case a_41 => k_is); (case l_41 => k_is); (case c_41 => k_is); (case k_41 => k_is)
    intro d59
    refine' K67.thenP (K67.df_of KX G K67.b60 ?a_42 ?l_42 ?c_42 ?k_42) ?nx_42
    (case a_42 => k_is); (case l_42 => k_is); (case c_42 => k_is); (case k_42 => k_is)
    intro d60
    refine' K67.thenP (K67.df_of KX G K67.b61 ?a_43 ?l_43 ?c_43 ?k_43) ?nx_43
    (case a_43 => k_is); (case l_43 => k_is); (case c_43 => k_is); (case k_43 => k_is)
    intro d61
    refine' K67.thenP (K67.df_of KX G K67.b62 ?a_44 ?l_44 ?c_44 ?k_44) ?nx_44
    (case a_44 => k_is); (case l_44 => k_is); (case c_44 => k_is); (case k_44 => k_is)
    intro d62
    refine' K67.thenP (K67.df_of KX G K67.b63 ?a_45 ?l_45 ?c_45 ?k_45) ?nx_45
    (case a_45 => k_is); (case l_45 => k_is); (case c_45 => k_is); (case k_45 => k_is)
    intro d63
    refine' K67.thenP (K67.df_of KX G K67.b64 ?a_46 ?l_46 ?c_46 ?k_46) ?nx_46
    (case a_46 => k_is); (case l_46 => k_is); (case c_46 => k_is); (case k_46 => k_is)
    intro d64
    refine' K67.thenP (K67.rb_of KX G ?aC_47 ?a0_47 ?i0_47 ?l0_47 ?c0_47 ?k0_47 ?a1_47 ?i1_47 ?l1_47 ?c1_47 ?k1_47 ?a2_47 ?i2_47 ?l2_47 ?c2_47 ?k2_47 ?a3_47 ?i3_47 ?l3_47 ?c3_47 ?k3_47 ?pg_47 ?hd_47 ?po_47 ?sa_47 ?mk_47 ?kc_47 ?n0_47 ?n1_47 ?n2_47 ?n3_47 ?n4_47) ?nx_47
    (case aC_47 => k_is); (case a0_47 => k_is); (case i0_47 => k_is); (case l0_47 => k_is); (case c0_47 => k_is); (case k0_47 => k_is)
    (case a1_47 => k_is); (case i1_47 => k_is); (case l1_47 => k_is); (case c1_47 => k_is); (case k1_47 => k_is); (case a2_47 => k_is)
    (case i2_47 => k_is); (case l2_47 => k_is); (case c2_47 => k_is); (case k2_47 => k_is); (case a3_47 => k_is); (case i3_47 => k_is)
    (case l3_47 => k_is); (case c3_47 => k_is); (case k3_47 => k_is); (case pg_47 => k_is); (case hd_47 => k_is); (case po_47 => k_is)
    (case sa_47 => k_is); (case mk_47 => k_is); (case kc_47 => k_is); (case n0_47 => k_is); (case n1_47 => k_is); (case n2_47 => k_is)
    (case n3_47 => k_is); (case n4_47 => k_is)
    intro rb
    refine' K67.thenP (K67.pc_of KX G ?aC_48 ?a0_48 ?i0_48 ?l0_48 ?c0_48 ?k0_48 ?a1_48 ?i1_48 ?l1_48 ?c1_48 ?k1_48 ?a2_48 ?i2_48 ?l2_48 ?c2_48 ?k2_48 ?pg_48 ?hd_48 ?po_48 ?sa_48 ?mk_48 ?kc_48 ?n0_48 ?n1_48 ?n2_48 ?n3_48 ?n4_48 ?n5_48 ?n6_48) ?nx_48
    (case aC_48 => k_is); (case a0_48 => k_is); (case i0_48 => k_is); (case l0_48 => k_is); (case c0_48 => k_is); (case k0_48 => k_is)
    (case a1_48 => k_is); (case i1_48 => k_is); (case l1_48 => k_is); (case c1_48 => k_is); (case k1_48 => k_is); (case a2_48 => k_is)
    (case i2_48 => k_is); (case l2_48 => k_is); (case c2_48 => k_is); (case k2_48 => k_is); (case pg_48 => k_is); (case hd_48 => k_is)
    (case po_48 => k_is); (case sa_48 => k_is); (case mk_48 => k_is); (case kc_48 => k_is); (case n0_48 => k_is); (case n1_48 => k_is)
    (case n2_48 => k_is); (case n3_48 => k_is); (case n4_48 => k_is); (case n5_48 => k_is); (case n6_48 => k_is)
    intro pc
    refine' K67.thenP (K67.ev_of KX G ?aC_49 ?a0_49 ?i0_49 ?l0_49 ?c0_49 ?k0_49 ?a1_49 ?i1_49 ?l1_49 ?c1_49 ?k1_49 ?a2_49 ?i2_49 ?l2_49 ?c2_49 ?k2_49 ?pg_49 ?hd_49 ?po_49 ?sa_49 ?mk_49 ?kc_49 ?n0_49 ?n1_49 ?n2_49 ?n3_49 ?nE_49) ?nx_49
    (case aC_49 => k_is); (case a0_49 => k_is); (case i0_49 => k_is); (case l0_49 => k_is); (case c0_49 => k_is); (case k0_49 => k_is)
    (case a1_49 => k_is); (case i1_49 => k_is); (case l1_49 => k_is); (case c1_49 => k_is); (case k1_49 => k_is); (case a2_49 => k_is)
    (case i2_49 => k_is); (case l2_49 => k_is); (case c2_49 => k_is); (case k2_49 => k_is); (case pg_49 => k_is); (case hd_49 => k_is)
    (case po_49 => k_is); (case sa_49 => k_is); (case mk_49 => k_is); (case kc_49 => k_is); (case n0_49 => k_is); (case n1_49 => k_is)
    (case n2_49 => k_is); (case n3_49 => k_is); (case nE_49 => k_is)
    intro ev
    refine' K67.thenP (K67.np_of KX G K67.b5_0 ?aC_50 ?xL_50 ?rf_50 ?sa_50 ?ga_50 ?gg_50 ?nv_50 ?a1_50 ?t1_50 ?l1_50 ?c1_50 ?k1_50 ?kC_50 ?eC_50 ?tC_50 ?hC_50 ?iC_50 ?sC_50 ?aL_50 ?rd_50 ?sg_50 ?fc_50 ?hca_50 ?hgt_50 ?htk_50 ?hm_50 ?kit_50) ?nx_50
    (case aC_50 => k_is); (case xL_50 => k_is); (case rf_50 => decide +kernel); (case sa_50 => k_is); (case ga_50 => k_is); (case gg_50 => k_is)
    (case nv_50 => k_is); (case a1_50 => k_is); (case t1_50 => k_is); (case l1_50 => k_is); (case c1_50 => k_is); (case k1_50 => k_is)
    (case kC_50 => k_is); (case eC_50 => k_is); (case tC_50 => k_is); (case hC_50 => k_is); (case iC_50 => k_is); (case sC_50 => first | rfl | k_is)
    (case aL_50 => k_is); (case rd_50 => k_is); (case sg_50 => k_is); (case fc_50 => k_is); (case hca_50 => k_is); (case hgt_50 => k_is)
    (case htk_50 => k_is); (case hm_50 => k_is); (case kit_50 => k_is)
    intro np
    refine' K67.law_find KX G hmg { txt := t0, d11 := d11, d12 := d12, d13 := d13, d14 := d14, d15 := d15, d16 := d16, d17 := d17, d18 := d18, d20 := d20, d21 := d21, d23 := d23, d24 := d24, d26 := d26, d27 := d27, d28 := d28, d29 := d29, d32 := d32, d33 := d33, d34 := d34, d35 := d35, d36 := d36, d37 := d37, d38 := d38, d39 := d39, d40 := d40, d43 := d43, d45 := d45, d46 := d46, d47 := d47, d49 := d49, d50 := d50, d51 := d51, d52 := d52, d53 := d53, d54 := d54, d55 := d55, d56 := d56, d57 := d57, d58 := d58, d59 := d59, d60 := d60, d61 := d61, d62 := d62, d63 := d63, d64 := d64, rb := rb, pc := pc, ev := ev, np := np } ?aZ ?lZ ?cZ
    (case aZ => k_is); (case lZ => k_is); (case cZ => k_is)
