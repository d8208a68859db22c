import PyProof.Rows.All
import Wide.All
import OpenK.AllK
import Wide.FinOn
import HandS.ForMost
import HandS.Sort
import HandS.SortOrd
import HandS.SortRule
import HandS.SortInts
import HandS.IsInst
import HandS.Walk
import HandS.Style
import HandS.Conv
import HandS.TupLen
import HandS.Flow
import HandS.Codes
import HandS.Iter
import HandS.More
import KE.GoesEnum
import PyProof.DictValues
import PyProof.DictWalks
import PyProof.MinMaxWalk
import PySem.Challenge.RW_makeswood_k96_whole_no_way_is_better
set_option Elab.async false
set_option linter.all false
set_option maxRecDepth 100000
/-! The mathematics of the law: sets of numbers as bits, ways of parting, the least worst number. No program here. -/
namespace Mk

/-! ### bits -/
theorem sub_and_bit : ∀ (k x y : Nat), (x - (x &&& y)).testBit k = (x.testBit k && !y.testBit k)
  | 0, x, y => by
    have a := @Nat.and_mod_two_eq_one x y
    have b : (x &&& y) / 2 = x / 2 &&& y / 2 := Nat.and_div_two
    have l : (x / 2 &&& y / 2) ≤ x / 2 := Nat.and_le_left
    simp only [Nat.testBit_zero]
    by_cases hx : x % 2 = 1
    · by_cases hy : y % 2 = 1
      · have h : (x - (x &&& y)) % 2 = 0 := by
          have := a.mpr ⟨hx, hy⟩
          omega
        simp [hx, hy, h]
      · have h : (x - (x &&& y)) % 2 = 1 := by
          have : ¬ (x &&& y) % 2 = 1 := fun z => hy (a.mp z).2
          omega
        simp [hx, hy, h]
    · have h : (x - (x &&& y)) % 2 = 0 := by
        have : ¬ (x &&& y) % 2 = 1 := fun z => hx (a.mp z).1
        omega
      simp [hx, h]
  | k + 1, x, y => by
    have a := @Nat.and_mod_two_eq_one x y
    have b : (x &&& y) / 2 = x / 2 &&& y / 2 := Nat.and_div_two
    have l : (x / 2 &&& y / 2) ≤ x / 2 := Nat.and_le_left
    have e : (x - (x &&& y)) / 2 = x / 2 - (x / 2 &&& y / 2) := by
      by_cases hx : x % 2 = 1
      · omega
      · have : ¬ (x &&& y) % 2 = 1 := fun z => hx (a.mp z).1
        omega
    rw [Nat.testBit_succ, Nat.testBit_succ, Nat.testBit_succ, e]
    exact sub_and_bit k (x / 2) (y / 2)

theorem low_bit : ∀ (x : Nat), x ≠ 0 → ∃ k, x.testBit k = true ∧ ∀ j, j < k → x.testBit j = false
  | x, h => by
    by_cases o : x % 2 = 1
    · exact ⟨0, by simp [Nat.testBit_zero, o], fun j hj => absurd hj (Nat.not_lt_zero j)⟩
    · have h2 : x / 2 ≠ 0 := by omega
      have : x / 2 < x := by omega
      obtain ⟨k, h3, h4⟩ := low_bit (x / 2) h2
      refine ⟨k + 1, by rw [Nat.testBit_succ]; exact h3, fun j hj => ?_⟩
      cases j with
      | zero => simp [Nat.testBit_zero, o]
      | succ j =>
        rw [Nat.testBit_succ]
        exact h4 j (by omega)
termination_by x => x

theorem one_bit (x : Nat) (h : x ≠ 0) (e : x &&& (x - 1) = 0) : ∃ k, x = 2 ^ k := by
  induction x using Nat.strongRecOn with
  | _ x ih =>
    by_cases o : x % 2 = 1
    · refine ⟨0, ?_⟩
      by_cases h1 : x = 1
      · exact h1
      · exfalso
        have h2 : x / 2 ≠ 0 := by omega
        have b : (x &&& (x - 1)) / 2 = x / 2 &&& (x - 1) / 2 := Nat.and_div_two
        have c : (x - 1) / 2 = x / 2 := by omega
        rw [e, c, Nat.and_self] at b
        omega
    · have h2 : x / 2 ≠ 0 := by omega
      have b : (x &&& (x - 1)) / 2 = x / 2 &&& (x - 1) / 2 := Nat.and_div_two
      have c : (x - 1) / 2 = x / 2 - 1 := by omega
      rw [e, c] at b
      obtain ⟨k, hk⟩ := ih (x / 2) (by omega) h2 (by omega)
      refine ⟨k + 1, ?_⟩
      rw [Nat.pow_succ]
      omega

theorem pow_pred (k : Nat) : 2 ^ k &&& (2 ^ k - 1) = 0 := by
  rw [Nat.and_two_pow_sub_one_eq_mod]
  exact Nat.mod_self _

theorem pow_and (k y : Nat) : 2 ^ k &&& y = 0 ∨ 2 ^ k &&& y = 2 ^ k := by
  by_cases h : y.testBit k = true
  · refine .inr (Nat.eq_of_testBit_eq fun i => ?_)
    rw [Nat.testBit_and, Nat.testBit_two_pow]
    by_cases e : k = i
    · subst e
      simp [h]
    · simp [e]
  · refine .inl (Nat.eq_of_testBit_eq fun i => ?_)
    rw [Nat.testBit_and, Nat.testBit_two_pow]
    by_cases e : k = i
    · subst e
      simp [h]
    · simp [e]

/-! ### sets as rising lists -/
/-- the numbers of a set, those below n -/
def upTo (n b : Nat) : List Nat := (List.range n).filter fun k => b.testBit k
def tupOf (b : Nat) : List Nat := upTo 10 b
theorem upTo_succ (n b : Nat) : upTo (n + 1) b = upTo n b ++ (if b.testBit n = true then [n] else []) := by
  unfold upTo
  rw [List.range_succ, List.filter_append]
  by_cases h : b.testBit n = true
  · simp [h]
  · simp [h]
theorem upTo_more {n b : Nat} (h : b < 2 ^ n) : ∀ d, upTo (n + d) b = upTo n b
  | 0 => rfl
  | d + 1 => by
    rw [show n + (d + 1) = (n + d) + 1 from rfl, upTo_succ, upTo_more h d]
    have : b.testBit (n + d) = false := Nat.testBit_lt_two_pow (Nat.lt_of_lt_of_le h (Nat.pow_le_pow_right (by decide) (by omega)))
    simp [this]
theorem upTo_eq {n m b : Nat} (h : b < 2 ^ n) (h2 : b < 2 ^ m) : upTo n b = upTo m b := by
  by_cases l : n ≤ m
  · obtain ⟨d, rfl⟩ := Nat.exists_eq_add_of_le l
    exact (upTo_more h d).symm
  · obtain ⟨d, rfl⟩ := Nat.exists_eq_add_of_le (Nat.le_of_not_le l)
    exact upTo_more h2 d
theorem mem_upTo {n b k : Nat} : k ∈ upTo n b ↔ k < n ∧ b.testBit k = true := by
  unfold upTo
  rw [List.mem_filter, List.mem_range]
theorem upTo_len (n b : Nat) : (upTo n b).length ≤ n := by
  unfold upTo
  have := List.length_filter_le (fun k => b.testBit k) (List.range n)
  rw [List.length_range] at this
  exact this
theorem upTo_rise (n b : Nat) : (upTo n b).Pairwise (· < ·) := by
  unfold upTo
  exact List.Pairwise.filter _ List.pairwise_lt_range
theorem mem_tup {b k : Nat} (h : b < 1024) : k ∈ tupOf b ↔ b.testBit k = true := by
  unfold tupOf
  rw [mem_upTo]
  refine ⟨fun h => h.2, fun h2 => ⟨?_, h2⟩⟩
  by_cases hk : k < 10
  · exact hk
  · rw [Nat.testBit_lt_two_pow (Nat.lt_of_lt_of_le h (show 2 ^ 10 ≤ 2 ^ k from Nat.pow_le_pow_right (by decide) (by omega)))] at h2
    cases h2

/-- the set that a list of numbers is -/
def bitsOf (l : List Nat) : Nat := l.foldl (fun t k => t ||| 2 ^ k) 0
theorem fold_bit (l : List Nat) : ∀ (t j : Nat), (l.foldl (fun t k => t ||| 2 ^ k) t).testBit j = (t.testBit j || decide (j ∈ l)) := by
  induction l with
  | nil =>
    intro t j
    simp
  | cons a l ih =>
    intro t j
    rw [List.foldl_cons, ih, Nat.testBit_or, Nat.testBit_two_pow]
    by_cases e : a = j
    · subst e
      simp
    · have e2 : ¬ j = a := fun z => e z.symm
      simp [e, e2]
theorem bitsOf_bit (l : List Nat) (j : Nat) : (bitsOf l).testBit j = decide (j ∈ l) := by
  unfold bitsOf
  rw [fold_bit]
  simp
theorem bitsOf_tup {b : Nat} (h : b < 1024) : bitsOf (tupOf b) = b := by
  refine Nat.eq_of_testBit_eq fun j => ?_
  rw [bitsOf_bit]
  by_cases hj : b.testBit j = true
  · rw [hj]
    exact decide_eq_true ((mem_tup h).mpr hj)
  · have : ¬ j ∈ tupOf b := fun z => hj ((mem_tup h).mp z)
    rw [decide_eq_false this]
    cases e : b.testBit j with
    | true => exact absurd e hj
    | false => rfl
theorem tup_inj {a b : Nat} (ha : a < 1024) (hb : b < 1024) (e : tupOf a = tupOf b) : a = b := by
  rw [← bitsOf_tup ha, e, bitsOf_tup hb]
theorem upTo_sum (b : Nat) : ∀ n, ((upTo n b).map fun k => 2 ^ k).sum = b % 2 ^ n
  | 0 => by
    rw [Nat.pow_zero, Nat.mod_one]
    rfl
  | n + 1 => by
    rw [upTo_succ, List.map_append, List.sum_append, upTo_sum b n, Nat.mod_pow_succ]
    have e := Nat.testBit_eq_decide_div_mod_eq (x := b) (i := n)
    by_cases h : b / 2 ^ n % 2 = 1
    · rw [e, h]
      simp
    · have h0 : b / 2 ^ n % 2 = 0 := by omega
      rw [e, h0]
      simp
theorem tup_sum {b : Nat} (h : b < 1024) : ((tupOf b).map fun k => 2 ^ k).sum = b := by
  unfold tupOf
  rw [upTo_sum]
  exact Nat.mod_eq_of_lt h
/-- the part in a line, the rest -/
theorem tup_and {b : Nat} (l : Nat) : (tupOf b).filter (fun k => l.testBit k) = tupOf (b &&& l) := by
  unfold tupOf upTo
  rw [List.filter_filter]
  refine List.filter_congr fun k _ => ?_
  rw [Nat.testBit_and, Bool.and_comm]
theorem tup_rest {b : Nat} (l : Nat) : (tupOf b).filter (fun k => !l.testBit k) = tupOf (b - (b &&& l)) := by
  unfold tupOf upTo
  rw [List.filter_filter]
  refine List.filter_congr fun k _ => ?_
  rw [sub_and_bit, Bool.and_comm]
theorem tup_pow {k : Nat} (h : k < 10) : tupOf (2 ^ k) = [k] := by
  have h2 : 2 ^ k < 2 ^ (k + 1) := Nat.pow_lt_pow_right (by decide) (by omega)
  have h3 : 2 ^ k < 2 ^ 10 := Nat.pow_lt_pow_right (by decide) h
  have e : tupOf (2 ^ k) = upTo (k + 1) (2 ^ k) := upTo_eq h3 h2
  rw [e, upTo_succ]
  have e2 : upTo k (2 ^ k) = [] := by
    unfold upTo
    rw [List.filter_eq_nil_iff]
    intro j hj
    rw [List.mem_range] at hj
    rw [Nat.testBit_two_pow]
    have : ¬ k = j := by omega
    simp [this]
  rw [e2, Nat.testBit_two_pow]
  simp
theorem tup_ne {b : Nat} (h : b < 1024) (h0 : b ≠ 0) : tupOf b ≠ [] := fun e => by
  obtain ⟨k, hk, _⟩ := low_bit b h0
  have := (mem_tup h).mpr hk
  rw [e] at this
  cases this

/-! ### lines -/
def lineStep (found : List Nat) (some : List Nat) (l : Nat) : Nat := some.foldl (fun t e => t ||| found.getD e 0) l
def linesStep (found : List Nat) (some : List Nat) : List Nat := found ++ [lineStep found some (2 ^ found.length)]
def linesOf (es : List (List Nat)) : List Nat := es.foldl linesStep []
/-- elders told well: each is a lesser number -/
def Wf (es : List (List Nat)) : Prop := ∀ (k : Nat) (s : List Nat), es[k]? = some s → ∀ e ∈ s, e < k
/-- what is asked of lines: each number's line has it, and no greater one -/
def LinesOk (ls : List Nat) : Prop := ∀ (k l : Nat), ls[k]? = some l → l.testBit k = true ∧ l < 2 ^ (k + 1)

theorem lineStep_ok {found : List Nat} (hf : LinesOk found) : ∀ (s : List Nat) (l : Nat), (∀ e ∈ s, e < found.length) → l.testBit found.length = true → l < 2 ^ (found.length + 1) →
    (lineStep found s l).testBit found.length = true ∧ lineStep found s l < 2 ^ (found.length + 1)
  | [], l, _, h1, h2 => ⟨h1, h2⟩
  | e :: s, l, hs, h1, h2 => by
    have he : e < found.length := hs e List.mem_cons_self
    have hg := hf e _ (List.getElem?_eq_getElem he)
    have e1 : found.getD e 0 = found[e] := by rw [List.getD_eq_getElem?_getD, List.getElem?_eq_getElem he]; rfl
    have hlt : found.getD e 0 < 2 ^ (found.length + 1) := by
      rw [e1]
      exact Nat.lt_of_lt_of_le hg.2 (Nat.pow_le_pow_right (by decide) (by omega))
    exact lineStep_ok hf s (l ||| found.getD e 0) (fun x hx => hs x (List.mem_cons_of_mem _ hx)) (by rw [Nat.testBit_or, h1]; rfl) (Nat.or_lt_two_pow h2 hlt)
theorem linesStep_ok {found : List Nat} (hf : LinesOk found) {s : List Nat} (hs : ∀ e ∈ s, e < found.length) : LinesOk (linesStep found s) := by
  intro k l e
  unfold linesStep at e
  by_cases hk : k < found.length
  · rw [List.getElem?_append_left hk] at e
    exact hf k l e
  · have hk2 : k < (found ++ [lineStep found s (2 ^ found.length)]).length := by
      by_cases z : k < (found ++ [lineStep found s (2 ^ found.length)]).length
      · exact z
      · rw [List.getElem?_eq_none (Nat.le_of_not_lt z)] at e
        cases e
    rw [List.length_append, List.length_singleton] at hk2
    have ek : k = found.length := by omega
    subst ek
    rw [List.getElem?_append_right (Nat.le_refl _), Nat.sub_self] at e
    have e2 : lineStep found s (2 ^ found.length) = l := Option.some.inj e
    rw [← e2]
    exact lineStep_ok hf s _ hs (by rw [Nat.testBit_two_pow]; simp) (Nat.pow_lt_pow_right (by decide) (by omega))
theorem linesStep_len (found s : List Nat) : (linesStep found s).length = found.length + 1 := by
  unfold linesStep
  simp
theorem lines_take (es : List (List Nat)) (w : Wf es) : ∀ i, i ≤ es.length → LinesOk (linesOf (es.take i)) ∧ (linesOf (es.take i)).length = i
  | 0, _ => ⟨fun k l e => by
      rw [List.take_zero] at e
      exact absurd e (by simp [linesOf]), by rw [List.take_zero]; rfl⟩
  | i + 1, h => by
    obtain ⟨a, b⟩ := lines_take es w i (by omega)
    have hi : i < es.length := by omega
    have e : linesOf (es.take (i + 1)) = linesStep (linesOf (es.take i)) es[i] := by
      unfold linesOf
      rw [List.take_add_one, List.getElem?_eq_getElem hi, List.foldl_append]
      rfl
    rw [e]
    refine ⟨linesStep_ok a fun x hx => ?_, by rw [linesStep_len, b]⟩
    rw [b]
    exact w i _ (List.getElem?_eq_getElem hi) x hx
theorem lines_succ (es : List (List Nat)) {i : Nat} (hi : i < es.length) : linesOf (es.take (i + 1)) = linesStep (linesOf (es.take i)) es[i] := by
  unfold linesOf
  rw [List.take_add_one, List.getElem?_eq_getElem hi, List.foldl_append]
  rfl
theorem lines_ok {es : List (List Nat)} (w : Wf es) : LinesOk (linesOf es) ∧ (linesOf es).length = es.length := by
  have h := lines_take es w es.length (Nat.le_refl _)
  rw [List.take_length] at h
  exact h

/-! ### parting -/
abbrev Part := Nat × Nat × Nat
def part1 (ls : List Nat) (b k : Nat) : Option Part :=
  if b &&& ls.getD k 0 ≠ 0 ∧ b &&& ls.getD k 0 ≠ b then some (k, b &&& ls.getD k 0, b - (b &&& ls.getD k 0)) else none
def partsTo (ls : List Nat) (b i : Nat) : List Part := (List.range i).filterMap (part1 ls b)
def parting (ls : List Nat) (b : Nat) : List Part := partsTo ls b ls.length
theorem partsTo_succ (ls : List Nat) (b i : Nat) : partsTo ls b (i + 1) = partsTo ls b i ++ (part1 ls b i).toList := by
  unfold partsTo
  rw [List.range_succ, List.filterMap_append]
  cases e : part1 ls b i with
  | none => simp [e]
  | some p => simp [e]
theorem partsTo_len (ls : List Nat) (b : Nat) (i : Nat) : (partsTo ls b i).length ≤ i := by
  have h := List.length_filterMap_le (part1 ls b) (List.range i)
  rw [List.length_range] at h
  exact h
/-- what a parting number's row says -/
structure IsPart (ls : List Nat) (b : Nat) (p : Part) : Prop where
  at_ : p.1 < ls.length
  one : p.2.1 = b &&& ls.getD p.1 0
  rest : p.2.2 = b - p.2.1
  n0 : p.2.1 ≠ 0
  nb : p.2.1 ≠ b
theorem part1_is {ls : List Nat} {b k : Nat} {p : Part} (h : part1 ls b k = some p) : p.1 = k ∧ p.2.1 = b &&& ls.getD k 0 ∧ p.2.2 = b - p.2.1 ∧ p.2.1 ≠ 0 ∧ p.2.1 ≠ b := by
  unfold part1 at h
  by_cases c : b &&& ls.getD k 0 ≠ 0 ∧ b &&& ls.getD k 0 ≠ b
  · rw [if_pos c] at h
    have e := Option.some.inj h
    subst e
    exact ⟨rfl, rfl, rfl, c.1, c.2⟩
  · rw [if_neg c] at h
    cases h
theorem mem_parting {ls : List Nat} {b : Nat} {p : Part} : p ∈ parting ls b ↔ IsPart ls b p := by
  unfold parting partsTo
  rw [List.mem_filterMap]
  constructor
  · rintro ⟨k, hk, h⟩
    rw [List.mem_range] at hk
    obtain ⟨rfl, h2, h3, h4, h5⟩ := part1_is h
    exact ⟨hk, h2, h3, h4, h5⟩
  · rintro ⟨h1, h2, h3, h4, h5⟩
    refine ⟨p.1, List.mem_range.mpr h1, ?_⟩
    unfold part1
    rw [← h2, if_pos ⟨h4, h5⟩, ← h3]
theorem IsPart.lt {ls : List Nat} {b : Nat} {p : Part} (h : IsPart ls b p) : 0 < p.2.1 ∧ p.2.1 < b ∧ 0 < p.2.2 ∧ p.2.2 < b ∧ p.2.1 + p.2.2 = b := by
  have l : p.2.1 ≤ b := by
    rw [h.one]
    exact Nat.and_le_left
  have a := h.n0
  have c := h.nb
  have r := h.rest
  omega
/-- a set of one number is parted by none -/
theorem no_part {ls : List Nat} {b : Nat} (h0 : b ≠ 0) (h : b &&& (b - 1) = 0) : parting ls b = [] := by
  obtain ⟨k, rfl⟩ := one_bit b h0 h
  refine List.eq_nil_iff_forall_not_mem.mpr fun p hp => ?_
  have q := mem_parting.mp hp
  rcases pow_and k (ls.getD p.1 0) with e | e
  · exact q.n0 (q.one.trans e)
  · exact q.nb (q.one.trans e)
/-- another one is parted -/
theorem some_part {ls : List Nat} (hl : LinesOk ls) {b : Nat} (h0 : b ≠ 0) (hb : b < 2 ^ ls.length) (h : b &&& (b - 1) ≠ 0) : parting ls b ≠ [] := by
  obtain ⟨k, hk, low⟩ := low_bit b h0
  have kl : k < ls.length := by
    by_cases z : k < ls.length
    · exact z
    · rw [Nat.testBit_lt_two_pow (Nat.lt_of_lt_of_le hb (Nat.pow_le_pow_right (by decide) (Nat.le_of_not_lt z)))] at hk
      cases hk
  obtain ⟨l1, l2⟩ := hl k ls[k] (List.getElem?_eq_getElem kl)
  have eg : ls.getD k 0 = ls[k] := by rw [List.getD_eq_getElem?_getD, List.getElem?_eq_getElem kl]; rfl
  have e : b &&& ls.getD k 0 = 2 ^ k := by
    rw [eg]
    refine Nat.eq_of_testBit_eq fun j => ?_
    rw [Nat.testBit_and, Nat.testBit_two_pow]
    by_cases c : k = j
    · subst c
      simp [hk, l1]
    · by_cases d : j < k
      · simp [low j d, c]
      · have : ls[k].testBit j = false := Nat.testBit_lt_two_pow (Nat.lt_of_lt_of_le l2 (Nat.pow_le_pow_right (by decide) (by omega)))
        simp [this, c]
  intro z
  have m : ((k, 2 ^ k, b - 2 ^ k) : Part) ∈ parting ls b := mem_parting.mpr ⟨kl, e.symm, rfl, Nat.ne_of_gt (Nat.two_pow_pos k), fun w => h (by rw [← w]; exact pow_pred k)⟩
  rw [z] at m
  cases m

/-! ### the least worst number, and a trial -/
def bestStep (f : Nat → Nat) (best : Nat × Option Nat) (p : Part) : Nat × Option Nat :=
  if best.2 = none ∨ 1 + max (f p.2.1) (f p.2.2) < best.1 then (1 + max (f p.2.1) (f p.2.2), some p.1) else best
def bestOf (f : Nat → Nat) (l : List Part) : Nat × Option Nat := l.foldl (bestStep f) (0, none)
theorem bestOf_snoc (f : Nat → Nat) (l : List Part) (p : Part) : bestOf f (l ++ [p]) = bestStep f (bestOf f l) p := by
  unfold bestOf
  rw [List.foldl_append]
  rfl
theorem bestOf_congr {f g : Nat → Nat} : ∀ (l : List Part) (s : Nat × Option Nat), (∀ p ∈ l, f p.2.1 = g p.2.1 ∧ f p.2.2 = g p.2.2) → l.foldl (bestStep f) s = l.foldl (bestStep g) s
  | [], _, _ => rfl
  | p :: l, s, h => by
    obtain ⟨a, b⟩ := h p List.mem_cons_self
    simp only [List.foldl_cons]
    have e : bestStep f s p = bestStep g s p := by
      unfold bestStep
      rw [a, b]
    rw [e]
    exact bestOf_congr l _ fun q hq => h q (List.mem_cons_of_mem _ hq)
/-- what the best one of a list is -/
def BestIs (f : Nat → Nat) (l : List Part) (r : Nat × Option Nat) : Prop :=
  (l = [] ∧ r = (0, none)) ∨ ∃ p ∈ l, r = (1 + max (f p.2.1) (f p.2.2), some p.1) ∧ ∀ q ∈ l, r.1 ≤ 1 + max (f q.2.1) (f q.2.2)
theorem bestIs_step {f : Nat → Nat} {l : List Part} {r : Nat × Option Nat} (h : BestIs f l r) (p : Part) : BestIs f (l ++ [p]) (bestStep f r p) := by
  refine .inr ?_
  rcases h with ⟨e1, e2⟩ | ⟨q, hq, e, hle⟩
  · subst e1
    subst e2
    refine ⟨p, by simp, by simp [bestStep], ?_⟩
    intro q hq
    have : q = p := by simpa using hq
    subst this
    simp [bestStep]
  · unfold bestStep
    by_cases c : r.2 = none ∨ 1 + max (f p.2.1) (f p.2.2) < r.1
    · rw [if_pos c]
      have c2 : 1 + max (f p.2.1) (f p.2.2) < r.1 := by
        rcases c with c | c
        · rw [e] at c
          cases c
        · exact c
      refine ⟨p, by simp, rfl, fun x hx => ?_⟩
      rcases Iff.mp List.mem_append hx with hx | hx
      · exact Nat.le_trans (Nat.le_of_lt c2) (hle x hx)
      · have : x = p := by simpa using hx
        subst this
        exact Nat.le_refl _
    · rw [if_neg c]
      refine ⟨q, List.mem_append.mpr (.inl hq), e, fun x hx => ?_⟩
      rcases Iff.mp List.mem_append hx with hx | hx
      · exact hle x hx
      · have : x = p := by simpa using hx
        subst this
        exact Nat.le_of_not_lt fun z => c (.inr z)
theorem bestIs_fold (f : Nat → Nat) : ∀ (l m : List Part) (r : Nat × Option Nat), BestIs f m r → BestIs f (m ++ l) (l.foldl (bestStep f) r)
  | [], m, r, h => by
    rw [List.append_nil]
    exact h
  | p :: l, m, r, h => by
    have := bestIs_fold f l (m ++ [p]) (bestStep f r p) (bestIs_step h p)
    rw [List.append_assoc m [p] l] at this
    exact this
theorem bestOf_is (f : Nat → Nat) (l : List Part) : BestIs f l (bestOf f l) := by
  have h := bestIs_fold f l [] (0, none) (.inl ⟨rfl, rfl⟩)
  rw [List.nil_append] at h
  exact h

def B (ls : List Nat) (b : Nat) : Nat × Option Nat := bestOf (fun p => if _h : p < b then (B ls p).1 else 0) (parting ls b)
termination_by b
theorem B_eq (ls : List Nat) (b : Nat) : B ls b = bestOf (fun p => (B ls p).1) (parting ls b) := by
  rw [B]
  refine bestOf_congr _ _ fun p hp => ?_
  have h := (mem_parting.mp hp).lt
  refine ⟨?_, ?_⟩
  · show (if _h : p.2.1 < b then (B ls p.2.1).1 else 0) = _
    rw [dif_pos h.2.1]
  · show (if _h : p.2.2 < b then (B ls p.2.2).1 else 0) = _
    rw [dif_pos h.2.2.2.1]
theorem B_is (ls : List Nat) (b : Nat) : BestIs (fun p => (B ls p).1) (parting ls b) (B ls b) := by
  have h := bestOf_is (fun p => (B ls p).1) (parting ls b)
  rw [← B_eq] at h
  exact h
theorem B_none {ls : List Nat} {b : Nat} (h : parting ls b = []) : B ls b = (0, none) := by
  rcases B_is ls b with ⟨_, e⟩ | ⟨p, hp, _⟩
  · exact e
  · rw [h] at hp
    cases hp
theorem B_le {ls : List Nat} {b : Nat} {p : Part} (hp : p ∈ parting ls b) : (B ls b).1 ≤ 1 + max (B ls p.2.1).1 (B ls p.2.2).1 := by
  rcases B_is ls b with ⟨e, _⟩ | ⟨_, _, _, h⟩
  · rw [e] at hp
    cases hp
  · exact h p hp
theorem B_at {ls : List Nat} {b : Nat} (h : parting ls b ≠ []) : ∃ p, p ∈ parting ls b ∧ B ls b = (1 + max (B ls p.2.1).1 (B ls p.2.2).1, some p.1) := by
  rcases B_is ls b with ⟨e, _⟩ | ⟨p, hp, e, _⟩
  · exact absurd e h
  · exact ⟨p, hp, e⟩

/-! ### the book's way down -/
/-- the part in which the first bad one is -/
def side (ls : List Nat) (c k first : Nat) : Nat := if (ls.getD k 0).testBit first = true then c &&& ls.getD k 0 else c - (c &&& ls.getD k 0)
def D (ls : List Nat) (c first : Nat) : Nat :=
  match (B ls c).2 with
  | none => 0
  | some k => if _h : side ls c k first < c then 1 + D ls (side ls c k first) first else 0
termination_by c
theorem D_none {ls : List Nat} {c first : Nat} (h : (B ls c).2 = none) : D ls c first = 0 := by
  rw [D, h]
theorem D_some {ls : List Nat} {c first k : Nat} (h : (B ls c).2 = some k) (hl : side ls c k first < c) : D ls c first = 1 + D ls (side ls c k first) first := by
  rw [D, h]
  show (if _h : side ls c k first < c then 1 + D ls (side ls c k first) first else 0) = _
  rw [dif_pos hl]
theorem side_bit {ls : List Nat} {c k first : Nat} (h : c.testBit first = true) : (side ls c k first).testBit first = true := by
  unfold side
  by_cases e : (ls.getD k 0).testBit first = true
  · rw [if_pos e, Nat.testBit_and, h, e]
    rfl
  · rw [if_neg e, sub_and_bit, h]
    simp at e
    simp [e]
theorem side_or {ls : List Nat} {c first : Nat} {p : Part} (hp : p ∈ parting ls c) : side ls c p.1 first = p.2.1 ∨ side ls c p.1 first = p.2.2 := by
  have q := mem_parting.mp hp
  unfold side
  by_cases e : (ls.getD p.1 0).testBit first = true
  · rw [if_pos e]
    exact .inl q.one.symm
  · rw [if_neg e]
    exact .inr (by rw [q.rest, q.one])
theorem side_lt {ls : List Nat} {c first : Nat} {p : Part} (hp : p ∈ parting ls c) : 0 < side ls c p.1 first ∧ side ls c p.1 first < c := by
  have q := (mem_parting.mp hp).lt
  rcases side_or (first := first) hp with e | e <;> rw [e] <;> omega
theorem has_bit {b : Nat} (h : b ≠ 0) : ∃ k, b.testBit k = true := by
  obtain ⟨k, hk, _⟩ := low_bit b h
  exact ⟨k, hk⟩
/-- followed by its own trials the book takes no more than its number for any, and that many for some -/
theorem D_book (ls : List Nat) (c : Nat) (h0 : c ≠ 0) : (∀ first, c.testBit first = true → D ls c first ≤ (B ls c).1) ∧ ∃ first, c.testBit first = true ∧ D ls c first = (B ls c).1 := by
  induction c using Nat.strongRecOn with
  | _ c ih =>
    by_cases e : parting ls c = []
    · have b := B_none e
      have b2 : (B ls c).2 = none := by rw [b]
      refine ⟨fun first _ => by rw [D_none b2]; exact Nat.zero_le _, ?_⟩
      obtain ⟨k, hk⟩ := has_bit h0
      exact ⟨k, hk, by rw [D_none b2, b]⟩
    · obtain ⟨p, hp, b⟩ := B_at e
      have q := mem_parting.mp hp
      have l := q.lt
      have b2 : (B ls c).2 = some p.1 := by rw [b]
      have b1 : (B ls c).1 = 1 + max (B ls p.2.1).1 (B ls p.2.2).1 := by rw [b]
      obtain ⟨i1, f1, g1, d1⟩ := ih p.2.1 l.2.1 (by omega)
      obtain ⟨i2, f2, g2, d2⟩ := ih p.2.2 l.2.2.2.1 (by omega)
      have key : ∀ first, D ls c first = 1 + D ls (side ls c p.1 first) first := fun first => D_some b2 (side_lt hp).2
      refine ⟨fun first hf => ?_, ?_⟩
      · rw [key, b1]
        have sb := side_bit (ls := ls) (k := p.1) hf
        rcases side_or (first := first) hp with z | z
        · rw [z] at sb ⊢
          have := i1 first sb
          omega
        · rw [z] at sb ⊢
          have := i2 first sb
          omega
      · have c1 : ∀ first, p.2.1.testBit first = true → c.testBit first = true ∧ side ls c p.1 first = p.2.1 := fun first hf => by
          rw [q.one, Nat.testBit_and, Bool.and_eq_true] at hf
          refine ⟨hf.1, ?_⟩
          unfold side
          rw [if_pos hf.2, q.one]
        have c2 : ∀ first, p.2.2.testBit first = true → c.testBit first = true ∧ side ls c p.1 first = p.2.2 := fun first hf => by
          rw [q.rest, q.one, sub_and_bit, Bool.and_eq_true] at hf
          refine ⟨hf.1, ?_⟩
          have h2 := hf.2
          unfold side
          rw [if_neg (by intro z; rw [z] at h2; cases h2), q.rest, q.one]
        by_cases m : (B ls p.2.1).1 ≤ (B ls p.2.2).1
        · refine ⟨f2, (c2 f2 g2).1, ?_⟩
          rw [key, (c2 f2 g2).2, d2, b1]
          omega
        · refine ⟨f1, (c1 f1 g1).1, ?_⟩
          rw [key, (c1 f1 g1).2, d1, b1]
          omega

/-- the greatest of some -/
def maxOf (f : Nat → Nat) (l : List Nat) : Nat := l.foldl (fun t k => max t (f k)) 0
theorem maxOf_snoc (f : Nat → Nat) (l : List Nat) (k : Nat) : maxOf f (l ++ [k]) = max (maxOf f l) (f k) := by
  unfold maxOf
  rw [List.foldl_append]
  rfl
theorem foldmax_le (f : Nat → Nat) (m : Nat) : ∀ (l : List Nat) (t : Nat), t ≤ m → (∀ k ∈ l, f k ≤ m) → l.foldl (fun t k => max t (f k)) t ≤ m
  | [], _, h, _ => h
  | k :: l, t, h, hl => by
    rw [List.foldl_cons]
    have := hl k List.mem_cons_self
    exact foldmax_le f m l _ (by omega) fun x hx => hl x (List.mem_cons_of_mem _ hx)
theorem le_foldmax (f : Nat → Nat) : ∀ (l : List Nat) (t : Nat), t ≤ l.foldl (fun t k => max t (f k)) t ∧ ∀ k ∈ l, f k ≤ l.foldl (fun t k => max t (f k)) t
  | [], t => ⟨Nat.le_refl _, fun k hk => by cases hk⟩
  | a :: l, t => by
    rw [List.foldl_cons]
    obtain ⟨h1, h2⟩ := le_foldmax f l (max t (f a))
    refine ⟨by omega, fun k hk => ?_⟩
    rcases List.mem_cons.mp hk with e | hk
    · subst e
      omega
    · exact h2 k hk
theorem book_max (ls : List Nat) {c : Nat} (h0 : c ≠ 0) (h : c < 1024) : maxOf (D ls c) (tupOf c) = (B ls c).1 := by
  obtain ⟨a, k, hk, e⟩ := D_book ls c h0
  refine Nat.le_antisymm (foldmax_le _ _ _ _ (Nat.zero_le _) fun k hk => a k ((mem_tup h).mp hk)) ?_
  rw [← e]
  exact (le_foldmax (D ls c) (tupOf c) 0).2 k ((mem_tup h).mpr hk)

/-! ### any way of making trials -/
/-- the least that sets still waiting come to -/
def need (ls : List Nat) (w : List (Nat × Nat)) (worst : Nat) : Nat := w.foldl (fun t p => max t (p.2 + (B ls p.1).1)) worst
def size (w : List (Nat × Nat)) : Nat := (w.map fun p => 2 * p.1 - 1).sum
theorem need_snoc (ls : List Nat) (w : List (Nat × Nat)) (p : Nat × Nat) (worst : Nat) : need ls (w ++ [p]) worst = max (need ls w worst) (p.2 + (B ls p.1).1) := by
  unfold need
  rw [List.foldl_append]
  rfl
theorem need_max (ls : List Nat) : ∀ (w : List (Nat × Nat)) (t m : Nat), need ls w (max t m) = max (need ls w t) m
  | [], t, m => rfl
  | p :: w, t, m => by
    show need ls w (max (max t m) (p.2 + (B ls p.1).1)) = max (need ls w (max t (p.2 + (B ls p.1).1))) m
    rw [← need_max ls w, show max (max t m) (p.2 + (B ls p.1).1) = max (max t (p.2 + (B ls p.1).1)) m by omega]
theorem size_snoc (w : List (Nat × Nat)) (p : Nat × Nat) : size (w ++ [p]) = size w + (2 * p.1 - 1) := by
  unfold size
  rw [List.map_append, List.sum_append]
  simp
theorem size_len : ∀ (w : List (Nat × Nat)), (∀ p ∈ w, 0 < p.1) → w.length ≤ size w
  | [], _ => Nat.le_refl _
  | p :: w, h => by
    have a := size_len w fun q hq => h q (List.mem_cons_of_mem _ hq)
    have b := h p List.mem_cons_self
    unfold size at a ⊢
    rw [List.map_cons, List.sum_cons, List.length_cons]
    omega
/-- one set of one number is done -/
theorem need_one {ls : List Nat} {w : List (Nat × Nat)} {x m worst : Nat} (h0 : x ≠ 0) (h : x &&& (x - 1) = 0) : need ls w (max worst m) = need ls (w ++ [(x, m)]) worst := by
  rw [need_snoc, need_max, B_none (no_part h0 h)]
  rfl
/-- one set is parted -/
theorem need_part {ls : List Nat} {w : List (Nat × Nat)} {x m worst : Nat} {p : Part} (hp : p ∈ parting ls x) :
    need ls (w ++ [(x, m)]) worst ≤ need ls (w ++ [(p.2.1, m + 1), (p.2.2, m + 1)]) worst := by
  rw [show w ++ [(p.2.1, m + 1), (p.2.2, m + 1)] = (w ++ [(p.2.1, m + 1)]) ++ [(p.2.2, m + 1)] by simp, need_snoc, need_snoc, need_snoc]
  have := B_le hp
  show max (need ls w worst) (m + (B ls x).1) ≤ max (max (need ls w worst) (m + 1 + (B ls p.2.1).1)) (m + 1 + (B ls p.2.2).1)
  omega
theorem size_part {ls : List Nat} {w : List (Nat × Nat)} {x m : Nat} {p : Part} (hp : p ∈ parting ls x) : size (w ++ [(p.2.1, m + 1), (p.2.2, m + 1)]) + 1 = size (w ++ [(x, m)]) := by
  rw [show w ++ [(p.2.1, m + 1), (p.2.2, m + 1)] = (w ++ [(p.2.1, m + 1)]) ++ [(p.2.2, m + 1)] by simp, size_snoc, size_snoc, size_snoc]
  have := (mem_parting.mp hp).lt
  show size w + (2 * p.2.1 - 1) + (2 * p.2.2 - 1) + 1 = size w + (2 * x - 1)
  omega

/-! ### lists of unlike numbers -/
theorem few : ∀ (n : Nat) (l : List Nat), l.Nodup → (∀ x ∈ l, x < n) → l.length ≤ n
  | 0, l, _, h => by
    cases l with
    | nil => exact Nat.le_refl _
    | cons a l => exact absurd (h a List.mem_cons_self) (Nat.not_lt_zero _)
  | n + 1, l, nd, h => by
    by_cases m : n ∈ l
    · have a := few n (l.erase n) (nd.erase n) fun x hx => by
        have e := (List.Nodup.mem_erase_iff nd).mp hx
        have := h x e.2
        have := e.1
        omega
      have := List.length_erase_of_mem m
      omega
    · have a := few n l nd fun x hx => by
        have := h x hx
        have : x ≠ n := fun e => m (e ▸ hx)
        omega
      omega
end Mk
section
set_option maxHeartbeats 2500000
/-! Rules that the layer lacks: sorted of a dict of any length, the least of a dict's values, enumerate of a tuple. -/
namespace MkR
open PySem PySem.Spec PyProof.Rows L2
theorem lt_of_some {α : Type} {l : List α} {i : Nat} {x : α} (h : l[i]? = some x) : i < l.length := (List.getElem?_eq_some_iff.mp h).1
/-- two lists whose images are the same are of one length -/
theorem len_of_maps {α β γ : Type} {f : α → γ} {g : β → γ} {l : List α} {m : List β} (h : l.map f = m.map g) : l.length = m.length := by
  simpa using congrArg List.length h
section
variable {X : Cx}

/-! ### sorted(d), d a dict with int keys, any number of them -/
/-- what a walk of the keys has gathered are those ints -/
theorem gathered {ks : List Int} {vs : List (Key × Value)} {got : Array Value} (hk : vs.map (·.1) = ks.map Sum.inl) (hn : got.size = vs.length)
    (hg : ∀ (j : Nat) (v : Value), got[j]? = some v → ∃ k x, vs[j]? = some (k, x) ∧ keyIs k v = true) : IntsAre got.toList ks := by
  refine ints_each (by simp [hn, len_of_maps hk]) fun j v at_ => ?_
  obtain ⟨k, x, here, is⟩ := hg j v (by simpa using at_)
  have there : (ks.map Sum.inl)[j]? = some k := by simp [← hk, here]
  rw [List.getElem?_map, Option.map_eq_some_iff] at there
  obtain ⟨n, found, rfl⟩ := there
  obtain ⟨tok, shape⟩ := Value.isInt_shape (k := n) (v := v) is
  exact ⟨n, tok, found, shape⟩
def rSortedD : List V → Hp → VK → Prop := fun args H Q => ∃ (d : Addr) (kvs : List (Key × V)) (ks : List Int), args = [.ref d] ∧ Rd H d (.dK kvs) ∧ kvs.map (·.1) = ks.map Sum.inl ∧
  ∀ (out : List Int) (l : Addr), out.Perm ks → out.Pairwise (· ≤ ·) → H l = none → Q (.ref l) (upd H l (.lst (out.map V.int)))
theorem sortedDict (calm : X.calm = true) : CallR X (.builtin "sorted") rSortedD := by
  rintro pn S slots H args us Q I rel ⟨d, kvs, ks, rfl, rd, keys, want⟩
  rw [Vals.ref1 rel]
  obtain ⟨few, low, vs, kv, dict⟩ := dk_rd I.hok rd
  obtain ⟨ep, at_⟩ := dict.dictAt
  have hk : vs.map (·.1) = ks.map Sum.inl := (KV.keys kv).symm.trans keys
  have fits : vs.length ≤ sizeLine := Nat.le_trans (Nat.le_of_eq (Paired.length kv).symm) few
  refine (Calls.call_function_entry kind_sorted plain_sorted entry_sorted (args_sorted1 _) ?_ : _)
  unfold Builtin.«sorted»
  refine wpAny_bind (m := checkCount "sorted" 1 _ _) (wpAny_pure ?_)
  refine wpAny_bind (PySem.W.kdu_collect (PySem.W.kdl_dict (knd := mixKind X.prog X.w) low) (I.ok.hd calm) at_ fits fun heap tk got kept held => ?_)
  have areInts := gathered hk held.1 held.2
  have J : Inv X pn slots H { S with heap := heap, toks := tk } := I.kept kept
  have fits2 : got.toList.length ≤ sizeLine := by simpa [held.1] using fits
  refine wpAny_bind (wpAny_newList ?_ fits2)
  -- the list just laid is sorted in place
  have laid := Heap.get?_push_size heap (o := seqObj "list" got.toList.toArray 0) rfl
  refine wpAny_bind (wpAny_holding (wpAny_call_entry slot_list_sort ⟨_, laid, rfl⟩ entry_list_sort (SrtO.list_sort_ord SrtO.swo_int laid fits2 (fun two => SrtO.ints_sortable areInts two) fun out up same => ⟨_, rfl, ?_⟩) (args_list_sort _)))
  obtain ⟨outInts, perm, rising⟩ := SrtO.ints_out areInts up same
  obtain ⟨ep2, stands⟩ := sortedHeap_at (out := out.toArray) laid
  have short : ((out.map SrtO.iv).map V.int).length ≤ sizeLine := by
    rw [List.length_map, perm.length_eq, ← len_of_maps hk]
    exact fits
  have J2 : Inv X pn slots (upd H heap.objs.size (HO.lst ((out.map SrtO.iv).map V.int))) { S with heap := sortedHeap (heap.push (seqObj "list" got.toList.toArray 0)) heap.objs.size got.toList out.toArray, toks := tk } := by
    refine J.laid (fun c u here => ?_) (Nat.le_refl _) ⟨short, out, ep2, vals_of_ints outInts, stands⟩
    have lower := Heap.lt_size here
    rw [sortedHeap_old (Nat.ne_of_lt lower) (Nat.lt_of_lt_of_eq (Nat.lt_succ_of_lt lower) (size_push' ..).symm)]
    exact Heap.get?_push_of_some (seqObj "list" got.toList.toArray 0) here
  exact wpAny_pure ⟨_, rfl, V.ref heap.objs.size, _, J2, rfl, want _ _ perm rising (J.hok.fresh (Nat.le_refl _))⟩

/-! ### d.values(), the least of them -/
def valuesOb (d : Addr) : Obj := { cls := .type "dict_values", data := .fields #[.ref d] }
def viewV (p d : Addr) : HO := .ext fun heap => heap.get? p = some (valuesOb d)
def rValues : V → List V → Hp → VK → Prop := fun x args H Q => ∃ (d : Addr) (kvs : List (Key × V)), x = .ref d ∧ args = [] ∧ H d = some (.dK kvs) ∧ ∀ p, H p = none → Q (.ref p) (upd H p (viewV p d))
theorem mt_values : MtR X "dict.values" rValues := by
  rintro pn S slots H x args v us Q I rx rs ⟨d, kvs, rfl, rfl, dict, want⟩
  cases rx
  cases rs
  obtain ⟨_, low, vs, _, dd⟩ := dk_of I.hok dict
  have new := Heap.get?_push_size S.heap (o := valuesOb d) rfl
  have J : Inv X pn slots (upd H S.heap.objs.size (viewV S.heap.objs.size d)) { S with heap := S.heap.push (valuesOb d), toks := S.toks } :=
    I.laid (fun c u here => Heap.get?_push_of_some (valuesOb d) here) (Nat.le_refl _) ⟨new, ⟨_, new⟩, fun _ _ now keep => keep _ now⟩
  exact call_meetsIn F.slot_dict_values dd.typeIs F.entry_dict_values (F.args_dict_values_1 _) (meets_dict_values (mixKind X.prog X.w) d low) ⟨⟨vs, dd⟩, V.ref S.heap.objs.size, _, J, rfl, want _ (I.hok.fresh (Nat.le_refl _))⟩
def rMinV : List V → Hp → VK → Prop := fun args H Q => ∃ (p d : Addr) (kvs : List (Key × V)) (ns : List Int), args = [.ref p] ∧ H p = some (viewV p d) ∧ H d = some (.dK kvs) ∧ kvs.map (·.2) = ns.map V.int ∧ 0 < ns.length ∧
  ∀ m, m ∈ ns → (∀ n, n ∈ ns → m ≤ n) → Q (.int m) H
/-- the values of a dict of ints -/
theorem valued {kvs : List (Key × V)} {vs : List (Key × Value)} {ns : List Int} (kv : KV kvs vs) (hn : kvs.map (·.2) = ns.map V.int) {i : Nat} {v : Value} (h : ∃ k, vs[i]? = some (k, v)) : ∃ tok, v = Value.int (ns.getD i 0) tok := by
  obtain ⟨k, here⟩ := h
  have iv := lt_of_some here
  have ik : i < kvs.length := Nat.lt_of_lt_of_eq iv (Paired.length kv).symm
  have inn : i < ns.length := Nat.lt_of_lt_of_eq ik (len_of_maps hn)
  obtain ⟨u, there, ru⟩ := kv_get kv (List.getElem?_eq_getElem ik : kvs[i]? = some (kvs[i].1, kvs[i].2))
  have same : u = v := by
    have z := there.symm.trans here
    exact congrArg Prod.snd (Option.some.inj z)
  have isInt : kvs[i].2 = V.int ns[i] := by
    have z := congrArg (fun l : List V => l[i]?) hn
    simpa [ik, inn] using z
  have ru2 : RelV (V.int ns[i]) v := by
    rw [← isInt, ← same]
    exact ru
  obtain ⟨tok, shape⟩ := ru2
  exact ⟨tok, by rw [shape, List.getD_eq_getElem?_getD, List.getElem?_eq_getElem inn, Option.getD_some]⟩
theorem cr_minV (calm : X.calm = true) : CallR X (.builtin "min") rMinV := by
  rintro pn S slots H args us Q I rel ⟨p, d, kvs, ns, rfl, view, dict, hn, some_, want⟩
  rw [Vals.ref1 rel]
  obtain ⟨_, low, vs, kv, dd⟩ := dk_of I.hok dict
  obtain ⟨ep, at_⟩ := dd.dictAt
  have there : S.heap.get? p = some (valuesOb d) := (I.hok p (viewV p d) view).1
  have many : vs.length = ns.length := (Paired.length kv).symm.trans (len_of_maps hn)
  have lower : d < S.heap.objs.size := by
    obtain ⟨ob, _, stands, _⟩ := id at_
    exact Heap.lt_size stands
  have areInts : ∀ (i : Nat) (v : Value), (∃ k, vs[i]? = some (k, v)) → ∃ tok, v = Value.int (ns.getD i 0) tok := fun i v h => valued kv hn h
  have W := Walks.dictValues (knd := mixKind X.prog X.w) (prog := X.prog) (w := X.w) (A := X.A.in1) (I.ok.hd calm) S.heap.objs.size d (Nat.ne_of_lt lower) vs ep
  refine call_min_walk (wpAny_pyIter_values (knd := mixKind X.prog X.w) ⟨_, there, rfl, rfl⟩ at_ ?_)
  refine ⟨_, _, _, _, _, _, _, rfl, W, ⟨⟨_, Heap.get?_push_size _ rfl, rfl, rfl⟩, at_.keep fun c u here => Heap.get?_push_of_some _ here⟩, fun c hc => ?_, by omega, CmpOf.ints_lt (fun i => ns.getD i 0) areInts, fun v heap tk is keep => ?_⟩
  · -- the places that the walk looks at are there
    have size : (S.heap.push { cls := .type "dict_valueiterator", data := .fields #[.ref d, .int 0 0, .int vs.length 0, .int ep 0] }).objs.size = S.heap.objs.size + 1 := Heap.size_push ..
    show c < (S.heap.push { cls := .type "dict_valueiterator", data := .fields #[.ref d, .int 0 0, .int vs.length 0, .int ep 0] }).objs.size
    rw [size]
    cases hc with
    | head => exact Nat.lt_succ_self _
    | tail _ hc =>
      cases hc with
      | head => exact Nat.lt_succ_of_lt lower
      | tail _ hc => cases hc
  · obtain ⟨tok, rfl⟩ := areInts _ v is
    obtain ⟨bound, least⟩ := argBest_lt (fun i => ns.getD i 0) (vs.length - 1)
    have inn : argBest (fun i j => decide (ns.getD i 0 < ns.getD j 0)) (vs.length - 1) < ns.length := by omega
    have J : Inv X pn slots H { S with heap := heap, toks := tk } := I.kept fun c u here => keep c u (fun mem => by
      have z := Heap.lt_size here
      rw [List.mem_singleton.mp mem] at z
      exact Nat.lt_irrefl _ z) (Heap.get?_push_of_some _ here)
    refine ⟨V.int _, H, J, ⟨tok, rfl⟩, want _ ?_ fun n mem => ?_⟩
    · rw [List.getD_eq_getElem?_getD, List.getElem?_eq_getElem inn, Option.getD_some]
      exact List.getElem_mem inn
    · obtain ⟨i, hi, value⟩ := List.getElem_of_mem mem
      have z := least i (by omega)
      rw [show ns.getD i 0 = n by rw [List.getD_eq_getElem?_getD, List.getElem?_eq_getElem hi, value, Option.getD_some]] at z
      exact z
end

/-! ### enumerate of a tuple -/
/-- an enumerate object over the iterator at it, just made -/
def enumOb (it : Addr) : Obj := { cls := .type "enumerate", data := .fields #[.none, .bool false, .ref it, rawInt 0, .none, .none] }
theorem meets_enum1 {v : Value} {o : Obj} {G : Heap → Prop} (B : Begins v o G) :
    Meets (Builtin.«enumerate.__new__» ⟨[.type "enumerate", v], []⟩) (fun _ R S => G S.heap ∧ R (.ok (.ret (.ref (S.heap.push o).objs.size))) { S with heap := (S.heap.push o).push (enumOb S.heap.objs.size) }) := by
  refine .of_wp fun prog w A R S h => ?_
  obtain ⟨heap, g, drawn, tk, os⟩ := S
  obtain ⟨ok, want⟩ := h
  have sub := sub_enumerate
  have begin_ : ∀ {A' : Around} {E : Value → Shared → Prop} {Q : Value → Shared → Prop}, Q (.ref heap.objs.size) ⟨heap.push o, g, drawn, tk, os⟩ →
      wpAny (model prog w) A' (pyIter v) Q E ⟨heap, g, drawn, tk, os⟩ := fun q => B.iter prog w _ _ ⟨heap, g, drawn, tk, os⟩ _ ok q
  wp_walk using begin_
  refine wpAny_stack_any fun stack => wpAny_pure ?_
  split
  · rename_i c _ _ _ _ _
    cases c == Value.type "enumerate" <;> (wp_walk using begin_; exact ⟨_, rfl, want⟩)
  · (wp_walk using begin_; exact ⟨_, rfl, want⟩)
theorem enum_tuple {prog : Program} {w : World} {A : Around} {E : Value → Shared → Prop} {S : Shared} {a : Addr} {items : Array Value} {Q : Value → Shared → Prop} (tup : S.heap.IsTuple a items)
    (want : ∀ heap, IsEnum heap (S.heap.objs.size + 1) S.heap.objs.size 0 .none → heap.IsTupleIter S.heap.objs.size a 0 → (∀ c u, S.heap.get? c = some u → heap.get? c = some u) → Q (.ref (S.heap.objs.size + 1)) { S with heap := heap }) :
    wpAny (model prog w) A (call (.type "enumerate") [.ref a]) Q E S := by
  have B := begins_tuple a items
  refine callType_new F.called_enumerate (by decide) (F.typeCall_enumerate_1 _) (F.newCall_enumerate_1 _) (fun self => F.args_object_init_2 self _)
    F.entry_enumerate_new (meets_enum1 B) ⟨tup, ?_⟩
  generalize same : ({ cls := .type "tuple_iterator", data := .fields #[.ref a, .int 0 0] } : Obj) = o at B ⊢
  have size : (S.heap.push o).objs.size = S.heap.objs.size + 1 := by rw [Heap.size_push]
  show _ ∧ _
  rw [size]
  have stands : IsEnum ((S.heap.push o).push (enumOb S.heap.objs.size)) (S.heap.objs.size + 1) S.heap.objs.size 0 .none := by
    have z := Heap.get?_push_size (S.heap.push o) (o := enumOb S.heap.objs.size) rfl
    rw [size] at z
    exact z
  exact ⟨⟨_, stands, rfl⟩, want _ stands ⟨o, Heap.get?_push_of_some _ (Heap.get?_push_size _ B.free), by rw [← same], by rw [← same]; rfl⟩ fun c u here => Heap.get?_push_of_some (enumOb S.heap.objs.size) (Heap.get?_push_of_some o here)⟩

/-- the tuple at a, its items in new pairs behind their numbers -/
def ItE (K : PySem.W.Frag) (a : Addr) : It where
  go := fun i H => ∃ (xs : List V) (x : V), SqT K H a xs ∧ xs[i]? = some x
  yld := fun i H v H' => ∃ T x, v = .ref T ∧ H T = none ∧ H' = upd H T (.tup [.int (i : Nat), x]) ∧ ∀ xs, SqT K H a xs → xs[i]? = some x
  stop := fun i H => ∃ xs : List V, SqT K H a xs ∧ xs.length = i
/-- where such a walk stands: the enumerate object at e, the tuple's iterator at it -/
structure EnumSt (a e it : Addr) (i : Nat) (heap : Heap) : Prop where
  en : ∃ old, IsEnum heap e it ((i : Nat) : Int) old
  tt : heap.IsTupleIter it a i
  ei : e ≠ it
  ai : a ≠ it
  ae : a ≠ e
theorem two_of {c e it : Addr} {φ : Addr → Prop} (h : c ∈ [e, it]) (he : φ e) (hi : φ it) : φ c := by
  cases h with
  | head => exact he
  | tail _ h =>
    cases h with
    | head => exact hi
    | tail _ h => cases h
theorem turn_enumT {P : Program} {w : World} {K : PySem.W.Frag} {elts : List Expr} {kk : Nat} {tpos : Pos} (a e it : Addr) : Turn P w K (.Tuple elts kk tpos) (ItE K a) [e, it] e (EnumSt a e it) := by
  refine ⟨List.mem_cons_self, fun i heap st c hc => ?_, fun i heap heap' st k => ?_, ?_, ?_, fun A i S Q E st q => ?_⟩
  · obtain ⟨old, he⟩ := st.en
    obtain ⟨o, ho, _, hd⟩ := st.tt
    exact two_of (φ := fun c => ∃ o, heap.get? c = some o ∧ ∀ v, o.data ≠ .cell v) hc ⟨_, he, fun v z => nomatch z⟩ ⟨o, ho, fun v z => by simp [hd] at z⟩
  · obtain ⟨old, he⟩ := st.en
    exact ⟨⟨old, k e (by simp) _ he⟩, st.tt.at fun o here => k it (by simp) o here, st.ei, st.ai, st.ae⟩
  · intro Y hP hw hK calm i pn S slots H E I fp st go
    subst hP hw hK
    obtain ⟨⟨old, he⟩, hit, ei, ai, ae⟩ := st
    obtain ⟨xs, x, tup, item⟩ := go
    obtain ⟨its, vals, raw, few⟩ := Inv.tuple I tup
    obtain ⟨u, hu, ru⟩ := Vals.get vals item
    have le := Heap.lt_size he
    have li : it < S.heap.objs.size := Exists.elim hit fun _ z => Heap.lt_size z.1
    have lt : i < its.toArray.size := by simpa using lt_of_some hu
    have raw' : S.heap.IsTuple a its.toArray := raw
    have Dr := Draws.tuple (prog := Y.prog) (w := Y.w) (A := Y.A.in1) (I.ok.hd calm) it a ai its.toArray
    refine wpAny_pyNext_enum_itemD Dr he ⟨hit, raw'⟩ lt ei (by simp [ei, Ne.symm ae]) fun y h1 tk is out st1 pair size keep => ?_
    have ey : y = u := by
      have z : its.toArray[i]? = some y := is
      rw [List.getElem?_toArray, hu] at z
      exact (Option.some.inj z).symm
    subst ey
    refine ⟨_, rfl, wpAny_letOwnedTupleGo_enum (s := { S with heap := h1, toks := tk + 1 }) out fun h2 he2 but => ?_⟩
    have pair2 : h2.get? S.heap.objs.size = some { cls := .type "tuple", data := .seq #[.int i tk, y] } := Eq.trans (but.2 _ (Nat.ne_of_gt le)) pair
    have J : Inv Y pn slots (upd H S.heap.objs.size (.tup [.int (i : Nat), x])) { S with heap := h2, toks := tk + 1 } := by
      refine I.turnedNew (ch := [e, it]) (fun c ob n here => ?_) fp (Nat.le_refl _) ⟨by show 2 ≤ sizeLine; decide, [.int i tk, y], .cons ⟨_, rfl⟩ (.cons ru .nil), ⟨_, pair2, rfl, _, rfl⟩⟩
      have n1 : c ≠ e := fun z => n (by simp [z])
      have n2 : c ≠ it := fun z => n (by simp [z])
      exact (but.2 c n1).trans (keep c ob n1 n2 here)
    refine ⟨.ref S.heap.objs.size, _, J, rfl, ⟨_, x, rfl, I.hok.fresh (Nat.le_refl _), rfl, fun ys hy => (I.tuple_inj hy tup).symm ▸ item⟩, ⟨⟨y, ?_⟩, st1.1.at fun o here => (but.2 it (Ne.symm ei)).trans here, ei, ai, ae⟩, fun c hc => ?_⟩
    · rw [show (((i + 1 : Nat)) : Int) = (i : Int) + 1 from Int.natCast_succ i]
      exact he2
    · have lc : c < S.heap.objs.size := two_of (φ := fun c => c < S.heap.objs.size) hc le li
      exact (upd_ne (Nat.ne_of_lt lc)).trans (fp c hc).1
  · intro Y hP hw hK calm i pn S slots H E I fp st stop
    subst hP hw hK
    obtain ⟨⟨old, he⟩, hit, ei, ai, ae⟩ := st
    obtain ⟨xs, tup, many⟩ := stop
    obtain ⟨its, vals, raw, few⟩ := Inv.tuple I tup
    have raw' : S.heap.IsTuple a its.toArray := raw
    have at_end : its.toArray.size = i := by
      rw [List.size_toArray, ← Vals.length vals]
      exact many
    have Dr := Draws.tuple (prog := Y.prog) (w := Y.w) (A := Y.A.in1) (I.ok.hd calm) it a ai its.toArray
    rw [at_end] at Dr
    have free := fp it (by simp)
    exact wpAny_pyNext_enum_endD Dr he ⟨hit, raw'⟩ fun h1 ext => ⟨rfl, I.turned (t' := S.toks) ext free.1 free.2.1 free.2.2.2.1 free.2.2.2.2.1 free.2.2.2.2.2⟩
  · obtain ⟨old, he⟩ := st.en
    exact wpAny_pyIter_enum he q
def iEnumT (K : PySem.W.Frag) (ta : TA) : TI := fun slots H R => ta slots H fun vs H1 => ∃ a xs, vs = [.ref a] ∧ SqT K H1 a xs ∧ R (ItE K a) H1
theorem pi_enumT {X : Cx} {e : Expr} {ta : TA} {p pos tpos : Pos} {elts : List Expr} {kk : Nat} (gl : Gl X "enumerate") (no : X.mg "enumerate" = none) (arg : PA X [e] ta) (one : starEach [e] X.env = [(false, eval e X.env)] := by rfl) :
    PI X (.Tuple elts kk tpos) (.Call (.Name "enumerate" p) [e] [] pos) (iEnumT X.K ta) := by
  constructor
  intro pn S slots H R I h
  have arg' := arg.run pos pn S slots H _ I h
  refine Call_ (ld_blt I gl no boot_enumerate (callWith_type1 (thn arg' fun us S1 q => ?_) one rfl))
  obtain ⟨vs, H1, J, vals, a, xs, rfl, tup, want⟩ := q
  rw [Vals.ref1 vals]
  obtain ⟨its, rv, raw, few⟩ := Inv.tuple J tup
  have raw' : S1.heap.IsTuple a its.toArray := raw
  have la : a < S1.heap.objs.size := Exists.elim raw' fun _ z => Heap.lt_size z.1
  refine enum_tuple raw' fun heap he hit keep => wpAny_pyIter_enum he ?_
  have J2 : Inv X pn slots H1 { S1 with heap := heap, toks := S1.toks } := J.kept keep
  have fresh : ∀ c, S1.heap.objs.size ≤ c → FpOk X pn H1 c := fun c hc => J.fpOk hc (J.hok.fresh hc)
  exact ⟨S1.heap.objs.size + 1, [S1.heap.objs.size + 1, S1.heap.objs.size], _, _, H1, rfl, J2, turn_enumT a (S1.heap.objs.size + 1) S1.heap.objs.size, ⟨⟨.none, he⟩, hit, Nat.succ_ne_self _, Nat.ne_of_lt la, Nat.ne_of_lt (Nat.lt_succ_of_lt la)⟩,
    fun c hc => two_of (φ := FpOk X pn H1) hc (fresh _ (Nat.le_add_right _ _)) (fresh _ (Nat.le_refl _)), want⟩
theorem walk_enumT {K : PySem.W.Frag} {a : Addr} {xs : List V} : Walk (ItE K a) xs.length (fun H => SqT K H a xs) (YPair (fun i => some (.int (i : Nat))) (fun i => xs[i]?)) where
  goes := fun i H hi tup => ⟨xs, xs[i], tup, List.getElem?_eq_getElem hi⟩
  stops := fun H tup => ⟨xs, tup, rfl⟩
  yields := fun i H v H' _ tup y => by
    obtain ⟨T, x, ev, new, eH, item⟩ := y
    exact ⟨T, V.int (i : Nat), x, ev, new, eH, rfl, item xs tup⟩
end MkR

end
/-! The text by places: each def, its names by slot. Printed by gen_text.py. -/
namespace Mk
open PySem PySem.Spec PyProof.Rows L2
def topS (i : Nat) : Stmt := PySem.Challenge.pw_makeswood_k96_whole_no_way_is_better.main.body.getD i (.Pass ⟨0, 0, 0, 0⟩)
abbrev sLinesOf : Stmt := topS 1
/-- 0 elders, 1 found, 2 number, 3 some, 4 line, 5 elder -/
theorem scLinesOf : FnScope ["elders", "found", "number", "some", "line", "elder"] ["elders"] (defScope sLinesOf) := ⟨rfl, rfl, rfl, by decide +kernel, rfl, by decide +kernel, by decide +kernel⟩
abbrev sBitsOf : Stmt := topS 2
/-- 0 some, 1 total, 2 number -/
theorem scBitsOf : FnScope ["some", "total", "number"] ["some"] (defScope sBitsOf) := ⟨rfl, rfl, rfl, by decide +kernel, rfl, by decide +kernel, by decide +kernel⟩
abbrev sTupleOf : Stmt := topS 3
/-- 0 bits, 1 found, 2 number -/
theorem scTupleOf : FnScope ["bits", "found", "number"] ["bits"] (defScope sTupleOf) := ⟨rfl, rfl, rfl, by decide +kernel, rfl, by decide +kernel, by decide +kernel⟩
abbrev sParting : Stmt := topS 4
/-- 0 lines, 1 bits, 2 found, 3 number, 4 line, 5 one -/
theorem scParting : FnScope ["lines", "bits", "found", "number", "line", "one"] ["lines", "bits"] (defScope sParting) := ⟨rfl, rfl, rfl, by decide +kernel, rfl, by decide +kernel, by decide +kernel⟩
abbrev sSetsBeneath : Stmt := topS 5
/-- 0 lines, 1 bits, 2 found, 3 rows, 4 number, 5 one, 6 other, 7 part -/
theorem scSetsBeneath : FnScope ["lines", "bits", "found", "rows", "number", "one", "other", "part"] ["lines", "bits"] (defScope sSetsBeneath) := ⟨rfl, rfl, rfl, by decide +kernel, rfl, by decide +kernel, by decide +kernel⟩
abbrev sBestTrial : Stmt := topS 6
/-- 0 lines, 1 bits, 2 told, 3 best, 4 number, 5 one, 6 other, 7 worst -/
theorem scBestTrial : FnScope ["lines", "bits", "told", "best", "number", "one", "other", "worst"] ["lines", "bits", "told"] (defScope sBestTrial) := ⟨rfl, rfl, rfl, by decide +kernel, rfl, by decide +kernel, by decide +kernel⟩
abbrev sAllTrials : Stmt := topS 7
/-- 0 elders, 1 some, 2 lines, 3 told, 4 bits -/
theorem scAllTrials : FnScope ["elders", "some", "lines", "told", "bits"] ["elders", "some"] (defScope sAllTrials) := ⟨rfl, rfl, rfl, by decide +kernel, rfl, by decide +kernel, by decide +kernel⟩
abbrev sLeastWorst : Stmt := topS 8
/-- 0 elders, 1 some -/
theorem scLeastWorst : FnScope ["elders", "some"] ["elders", "some"] (defScope sLeastWorst) := ⟨rfl, rfl, rfl, by decide +kernel, rfl, by decide +kernel, by decide +kernel⟩
abbrev sBookOf : Stmt := topS 10
/-- 0 elders, 1 some, 2 told, 3 book, 4 bits -/
theorem scBookOf : FnScope ["elders", "some", "told", "book", "bits"] ["elders", "some"] (defScope sBookOf) := ⟨rfl, rfl, rfl, by decide +kernel, rfl, by decide +kernel, by decide +kernel⟩
abbrev sIsWhole : Stmt := topS 11
/-- 0 thing -/
theorem scIsWhole : FnScope ["thing"] ["thing"] (defScope sIsWhole) := ⟨rfl, rfl, rfl, by decide +kernel, rfl, by decide +kernel, by decide +kernel⟩
abbrev sIsSet : Stmt := topS 12
/-- 0 thing, 1 many, 2 k, 3 number -/
theorem scIsSet : FnScope ["thing", "many", "k", "number"] ["thing", "many"] (defScope sIsSet) := ⟨rfl, rfl, rfl, by decide +kernel, rfl, by decide +kernel, by decide +kernel⟩
abbrev sHoldsLine : Stmt := topS 13
/-- 0 lines, 1 told, 2 bits, 3 line, 4 worst, 5 number, 6 one, 7 other -/
theorem scHoldsLine : FnScope ["lines", "told", "bits", "line", "worst", "number", "one", "other"] ["lines", "told", "bits"] (defScope sHoldsLine) := ⟨rfl, rfl, rfl, by decide +kernel, rfl, by decide +kernel, by decide +kernel⟩
abbrev sIsBook : Stmt := topS 14
/-- 0 elders, 1 some, 2 thing, 3 lines, 4 told, 5 one, 6 bits -/
theorem scIsBook : FnScope ["elders", "some", "thing", "lines", "told", "one", "bits"] ["elders", "some", "thing"] (defScope sIsBook) := ⟨rfl, rfl, rfl, by decide +kernel, rfl, by decide +kernel, by decide +kernel⟩
abbrev sLawCellAt : Stmt := topS 16
/-- 0 _law_script, 1 _law_k -/
theorem scLawCellAt : FnScope ["_law_script", "_law_k"] ["_law_script", "_law_k"] (defScope sLawCellAt) := ⟨rfl, rfl, rfl, by decide +kernel, rfl, by decide +kernel, by decide +kernel⟩
abbrev sLawFeed : Stmt := topS 17
/-- 0 _law_cell, 1 _law_big, 2 _law_one, 3 _law_other, 4 _law_k -/
theorem scLawFeed : FnScope ["_law_cell", "_law_big", "_law_one", "_law_other", "_law_k"] ["_law_cell"] (defScope sLawFeed) := ⟨rfl, rfl, rfl, by decide +kernel, rfl, by decide +kernel, by decide +kernel⟩
abbrev sLawDigit : Stmt := topS 18
/-- 0 _law_feed_here, 1 _law_many, 2 _law_digit_here -/
theorem scLawDigit : FnScope ["_law_feed_here", "_law_many", "_law_digit_here"] ["_law_feed_here", "_law_many"] (defScope sLawDigit) := ⟨rfl, rfl, rfl, by decide +kernel, rfl, by decide +kernel, by decide +kernel⟩
abbrev sLawElders : Stmt := topS 19
/-- 0 _law_feed_here, 1 _law_many, 2 _law_dense, 3 _law_elders_here, 4 _law_number, 5 _law_some_here, 6 _law_other -/
theorem scLawElders : FnScope ["_law_feed_here", "_law_many", "_law_dense", "_law_elders_here", "_law_number", "_law_some_here", "_law_other"] ["_law_feed_here"] (defScope sLawElders) := ⟨rfl, rfl, rfl, by decide +kernel, rfl, by decide +kernel, by decide +kernel⟩
abbrev sLawSome : Stmt := topS 20
/-- 0 _law_feed_here, 1 _law_many, 2 _law_bits_here, 3 _law_number -/
theorem scLawSome : FnScope ["_law_feed_here", "_law_many", "_law_bits_here", "_law_number"] ["_law_feed_here", "_law_many"] (defScope sLawSome) := ⟨rfl, rfl, rfl, by decide +kernel, rfl, by decide +kernel, by decide +kernel⟩
abbrev sLawLines : Stmt := topS 21
/-- 0 _law_elders_here, 1 _law_lines_here, 2 _law_number, 3 _law_line, 4 _law_other -/
theorem scLawLines : FnScope ["_law_elders_here", "_law_lines_here", "_law_number", "_law_line", "_law_other"] ["_law_elders_here"] (defScope sLawLines) := ⟨rfl, rfl, rfl, by decide +kernel, rfl, by decide +kernel, by decide +kernel⟩
abbrev sLawBits : Stmt := topS 22
/-- 0 _law_some_here, 1 _law_number -/
theorem scLawBits : FnScope ["_law_some_here", "_law_number"] ["_law_some_here"] (defScope sLawBits) := ⟨rfl, rfl, rfl, by decide +kernel, rfl, by decide +kernel, by decide +kernel⟩
abbrev sLawChosen : Stmt := topS 23
/-- 0 _law_lines_here, 1 _law_bits_here, 2 _law_feed_here, 3 _law_some_here, 4 _law_line -/
theorem scLawChosen : FnScope ["_law_lines_here", "_law_bits_here", "_law_feed_here", "_law_some_here", "_law_line"] ["_law_lines_here", "_law_bits_here", "_law_feed_here"] (defScope sLawChosen) := ⟨rfl, rfl, rfl, by decide +kernel, rfl, by decide +kernel, by decide +kernel⟩
abbrev sLawWorstBy : Stmt := topS 24
/-- 0 _law_lines_here, 1 _law_bits_here, 2 _law_feed_here, 3 _law_way, 4 _law_waiting, 5 _law_worst, 6 _law_here, 7 _law_many, 8 _law_one -/
theorem scLawWorstBy : FnScope ["_law_lines_here", "_law_bits_here", "_law_feed_here", "_law_way", "_law_waiting", "_law_worst", "_law_here", "_law_many", "_law_one"] ["_law_lines_here", "_law_bits_here", "_law_feed_here", "_law_way"] (defScope sLawWorstBy) := ⟨rfl, rfl, rfl, by decide +kernel, rfl, by decide +kernel, by decide +kernel⟩
abbrev sLawByBook : Stmt := topS 25
/-- 0 _law_elders_here, 1 _law_lines_here, 2 _law_some_here, 3 _law_book, 4 _law_worst, 5 _law_first, 6 _law_left, 7 _law_many, 8 _law_line, 9 _law_bad, 10 _law_number -/
theorem scLawByBook : FnScope ["_law_elders_here", "_law_lines_here", "_law_some_here", "_law_book", "_law_worst", "_law_first", "_law_left", "_law_many", "_law_line", "_law_bad", "_law_number"] ["_law_elders_here", "_law_lines_here", "_law_some_here", "_law_book"] (defScope sLawByBook) := ⟨rfl, rfl, rfl, by decide +kernel, rfl, by decide +kernel, by decide +kernel⟩
abbrev sLaw : Stmt := topS 26
/-- 0 _law_script, 1 _law_elders_here, 2 _law_lines_here, 3 _law_some_here, 4 _law_least, 5 _law_book, 6 _law_cell -/
theorem scLaw : FnScope ["_law_script", "_law_elders_here", "_law_lines_here", "_law_some_here", "_law_least", "_law_book", "_law_cell"] ["_law_script"] (defScope sLaw) := ⟨rfl, rfl, rfl, by decide +kernel, rfl, by decide +kernel, by decide +kernel⟩
end Mk
/-! How things stand in the heap, the promise of each def. -/
namespace Mk
open PySem PySem.Spec PyProof.Rows L2
/-! ### a def under its name -/
def DefAt (K : PySem.W.Frag) (mg : Str → Option Value) (x : Str) (st : Stmt) (ps : List Str) : Prop :=
  ∃ f fd, Fun K x x st f fd ∧ mg x = some (.ref f) ∧ Binds K fd ps []
def Cal (P : Program) (w : World) (K : PySem.W.Frag) (mg : Str → Option Value) (base : Heap) (k : Nat) (x : Str) (ps : List Str) (sp : Sp) : Prop :=
  ∃ f fd, FnOk P w K mg base CX0 k f fd ps sp ∧ mg x = some (.ref f) ∧ PySem.W.keepIn K (.ref f) = true ∧ Binds K fd ps []
theorem cal_of {P : Program} {w : World} {K : PySem.W.Frag} {mg : Str → Option Value} {base : Heap} {k : Nat} {x : Str} {st : Stmt} {ps : List Str} {sp : Sp} (D : DefAt K mg x st ps)
    (h : ∀ f fd, Fun K x x st f fd → FnOk P w K mg base CX0 k f fd ps sp) : Cal P w K mg base k x ps sp := by
  obtain ⟨f, fd, F, m, b⟩ := D
  exact ⟨f, fd, h f fd F, m, F.kp, b⟩
theorem pe_cal {X : Cx} {k j : Nat} {x : Str} {ps : List Str} {sp : Sp} {p pos : Pos} {e : Expr} {es : List Expr} {t : TA} (c : Cal X.prog X.w X.K X.mg X.base k x ps sp) (hr : Room j X.A) (ha : PA X (e :: es) t) (hk : k ≤ j := by decide) (hg : Gl X x := by rfl)
    (hdb : (x == ("__debug__" : Str)) = false := by decide) (hpl : (backTo pos (starEach es X.env)).any (·.1) = false := by rfl)
    (he : starEach (e :: es) X.env = (false, eval e X.env) :: starEach es X.env := by rfl) :
    PE X (.Call (.Name x p) (e :: es) [] pos) (tCall sp [] E0 t) := by
  obtain ⟨f, fd, F, m, kp, b⟩ := c
  exact pe_call F (hr.mono hk) hg m kp b .nil pass0 ha hdb he hpl
/-- the built-in names are built in -/
structure Bi (mg : Str → Option Value) : Prop where
  enumerate : mg "enumerate" = none
  sorted : mg "sorted" = none
  max : mg "max" = none
  min : mg "min" = none
  isinstance : mg "isinstance" = none
  int : mg "int" = none
  bool : mg "bool" = none
  tuple : mg "tuple" = none
  dict : mg "dict" = none
  len : mg "len" = none
  range : mg "range" = none
  sum : mg "sum" = none

/-! ### how things stand -/
def nV (n : Nat) : V := .int (n : Int)
def nls (l : List Nat) : List V := l.map nV
def encO : Option Nat → V
  | none => .non
  | some k => nV k
def encB (b : Nat × Option Nat) : List V := [nV b.1, encO b.2]
/-- elders at p -/
def EldersAt (H : Hp) (p : Addr) (es : List (List Nat)) : Prop :=
  ∃ as : List Addr, H p = some (.tup (as.map V.ref)) ∧ as.length = es.length ∧ ∀ (j : Nat) (s : List Nat) (a : Addr), es[j]? = some s → as[j]? = some a → H a = some (.tup (nls s))
/-- rows of parting at p -/
def PartsAt (H : Hp) (p : Addr) (L : List Part) : Prop :=
  ∃ as : List Addr, H p = some (.lst (as.map V.ref)) ∧ as.length = L.length ∧ ∀ (j : Nat) (q : Part) (a : Addr), L[j]? = some q → as[j]? = some a → H a = some (.tup [nV q.1, nV q.2.1, nV q.2.2])
def ent (p : Nat × Addr) : Key × V := (Sum.inl (p.1 : Int), V.ref p.2)
def tkey (b : Nat) : List Key := (tupOf b).map fun (k : Nat) => Sum.inl (k : Int)
def entT (p : Nat × Addr) : List Key × V := (tkey p.1, V.ref p.2)
/-- what is told of each of some sets, by numbers; by tuples -/
def TellsAt (ls : List Nat) (H : Hp) (t : Addr) (M : List Nat) : Prop :=
  ∃ ps : List (Nat × Addr), ps.map (·.1) = M ∧ H t = some (.dK (ps.map ent)) ∧ ∀ p ∈ ps, H p.2 = some (.tup (encB (B ls p.1)))
def BookAt (ls : List Nat) (H : Hp) (t : Addr) (M : List Nat) : Prop :=
  ∃ ps : List (Nat × Addr), ps.map (·.1) = M ∧ H t = some (.dT (ps.map entT)) ∧ ∀ p ∈ ps, H p.2 = some (.tup (encB (B ls p.1)))
/-- a set and all beneath it, rising -/
structure Beneath (ls : List Nat) (b : Nat) (M : List Nat) : Prop where
  rise : M.Pairwise (· < ·)
  has : b ∈ M
  some_ : ∀ x ∈ M, 0 < x ∧ x ≤ b
  parts : ∀ x ∈ M, ∀ q ∈ parting ls x, q.2.1 ∈ M ∧ q.2.2 ∈ M
/-- all that was tracked, but what stands at f, is as it was -/
def But (f : Addr) (H H' : Hp) : Prop := ∀ c o, c ≠ f → H c = some o → H' c = some o

/-! ### the promises -/
def spLinesOf : Sp := fun vs H Q _ => ∃ (e : Addr) (es : List (List Nat)), vs = [.ref e] ∧ EldersAt H e es ∧ Wf es ∧ es.length ≤ 10 ∧
  ∀ H' p, Same H H' → H p = none → H' p = some (.lst (nls (linesOf es))) → Q (.ref p) H'
def spBitsOf : Sp := fun vs H Q _ => ∃ (a : Addr) (l : List Nat), vs = [.ref a] ∧ H a = some (.tup (nls l)) ∧ (∀ k ∈ l, k < 10) ∧ Q (nV (bitsOf l)) H
def spTupleOf : Sp := fun vs H Q _ => ∃ b : Nat, vs = [nV b] ∧ b < 1024 ∧ ∀ H' p, Same H H' → H p = none → H' p = some (.tup (nls (tupOf b))) → Q (.ref p) H'
def spParting : Sp := fun vs H Q _ => ∃ (l : Addr) (ls : List Nat) (b : Nat), vs = [.ref l, nV b] ∧ H l = some (.lst (nls ls)) ∧ ls.length ≤ 10 ∧
  ∀ H' p, Same H H' → H p = none → PartsAt H' p (parting ls b) → Q (.ref p) H'
def spSetsBeneath : Sp := fun vs H Q _ => ∃ (l : Addr) (ls : List Nat) (b : Nat), vs = [.ref l, nV b] ∧ H l = some (.lst (nls ls)) ∧ ls.length ≤ 10 ∧ 0 < b ∧ b < 1024 ∧
  ∀ H' p M, Same H H' → H p = none → H' p = some (.lst (nls M)) → Beneath ls b M → Q (.ref p) H'
def spBestTrial : Sp := fun vs H Q _ => ∃ (l t : Addr) (ls : List Nat) (b : Nat) (M : List Nat), vs = [.ref l, nV b, .ref t] ∧ H l = some (.lst (nls ls)) ∧ ls.length ≤ 10 ∧ TellsAt ls H t M ∧
  (∀ q ∈ parting ls b, q.2.1 ∈ M ∧ q.2.2 ∈ M) ∧ ∀ H' p, Same H H' → H p = none → H' p = some (.tup (encB (B ls b))) → Q (.ref p) H'
def spAllTrials : Sp := fun vs H Q _ => ∃ (e a : Addr) (es : List (List Nat)) (b : Nat), vs = [.ref e, .ref a] ∧ EldersAt H e es ∧ Wf es ∧ es.length ≤ 10 ∧ H a = some (.tup (nls (tupOf b))) ∧ 0 < b ∧ b < 1024 ∧
  ∀ H' t M, Same H H' → H t = none → TellsAt (linesOf es) H' t M → Beneath (linesOf es) b M → Q (.ref t) H'
def spLeastWorst : Sp := fun vs H Q _ => ∃ (e a : Addr) (es : List (List Nat)) (b : Nat), vs = [.ref e, .ref a] ∧ EldersAt H e es ∧ Wf es ∧ es.length ≤ 10 ∧ H a = some (.tup (nls (tupOf b))) ∧ 0 < b ∧ b < 1024 ∧
  ∀ H', Same H H' → Q (nV (B (linesOf es) b).1) H'
def spBookOf : Sp := fun vs H Q _ => ∃ (e a : Addr) (es : List (List Nat)) (b : Nat), vs = [.ref e, .ref a] ∧ EldersAt H e es ∧ Wf es ∧ es.length ≤ 10 ∧ H a = some (.tup (nls (tupOf b))) ∧ 0 < b ∧ b < 1024 ∧
  ∀ H' t M, Same H H' → H t = none → BookAt (linesOf es) H' t M → Beneath (linesOf es) b M → Q (.ref t) H'
def spIsWhole : Sp := fun vs H Q _ => ∃ i : Int, vs = [.int i] ∧ Q (.bl true) H
def spIsSet : Sp := fun vs H Q _ => ∃ (p : Addr) (l : List Nat) (n : Nat), vs = [.ref p, nV n] ∧ H p = some (.tup (nls l)) ∧ l ≠ [] ∧ l.length ≤ 10 ∧ l.Pairwise (· < ·) ∧ (∀ k ∈ l, k < n) ∧ ∀ H', Same H H' → Q (.bl true) H'
def spHoldsLine : Sp := fun vs H Q _ => ∃ (l t : Addr) (ls : List Nat) (b : Nat) (M : List Nat), vs = [.ref l, .ref t, nV b] ∧ H l = some (.lst (nls ls)) ∧ ls.length ≤ 10 ∧ LinesOk ls ∧ TellsAt ls H t M ∧ b ∈ M ∧ 0 < b ∧ b < 2 ^ ls.length ∧
  (∀ q ∈ parting ls b, q.2.1 ∈ M ∧ q.2.2 ∈ M) ∧ ∀ H', Same H H' → Q (.bl true) H'
def spIsBook : Sp := fun vs H Q _ => ∃ (e a t : Addr) (es : List (List Nat)) (b : Nat) (M : List Nat), vs = [.ref e, .ref a, .ref t] ∧ EldersAt H e es ∧ Wf es ∧ es.length ≤ 10 ∧ H a = some (.tup (nls (tupOf b))) ∧ b < 2 ^ es.length ∧
  BookAt (linesOf es) H t M ∧ Beneath (linesOf es) b M ∧ ∀ H', Same H H' → Q (.bl true) H'
def spCell (K : PySem.W.Frag) : Sp := fun vs H Q _ => ∃ (a : Addr) (ns : List Int) (k : Nat), vs = [.ref a, nV k] ∧ SqL K H a (ns.map V.int) ∧ ∀ i, Q (.int i) H
def spFeed : Sp := fun vs H Q _ => ∃ c : Int, vs = [.int c] ∧ ∀ H' p x y, Same H H' → H p = none → H' p = some (.lst [.int x, .int y]) → Q (.ref p) H'
def spDigit : Sp := fun vs H Q _ => ∃ (f : Addr) (x y : Int) (m : Nat), vs = [.ref f, nV m] ∧ H f = some (.lst [.int x, .int y]) ∧ 0 < m ∧ m < 1000000 ∧
  ∀ (r : Nat) (x' y' : Int), r < m → Q (nV r) (upd H f (.lst [.int x', .int y']))
def spElders : Sp := fun vs H Q _ => ∃ (f : Addr) (x y : Int), vs = [.ref f] ∧ H f = some (.lst [.int x, .int y]) ∧
  ∀ H' e es, But f H H' → EldersAt H' e es → Wf es → 1 ≤ es.length → es.length ≤ 10 → Q (.ref e) H'
def spSome : Sp := fun vs H Q _ => ∃ (f : Addr) (x y : Int) (m : Nat), vs = [.ref f, nV m] ∧ H f = some (.lst [.int x, .int y]) ∧ 1 ≤ m ∧ m ≤ 10 ∧
  ∀ H' p b, But f H H' → H' p = some (.tup (nls (tupOf b))) → 0 < b → b < 2 ^ m → Q (.ref p) H'
def spBits : Sp := fun vs H Q _ => ∃ (a : Addr) (b : Nat), vs = [.ref a] ∧ H a = some (.tup (nls (tupOf b))) ∧ b < 1024 ∧ ∀ H', Same H H' → Q (nV b) H'
def spChosen : Sp := fun vs H Q _ => ∃ (l f : Addr) (ls : List Nat) (b : Nat) (x y : Int), vs = [.ref l, nV b, .ref f] ∧ H l = some (.lst (nls ls)) ∧ ls.length ≤ 10 ∧ H f = some (.lst [.int x, .int y]) ∧ parting ls b ≠ [] ∧
  ∀ H' q x' y', But f H H' → H' f = some (.lst [.int x', .int y']) → q ∈ parting ls b → Q (nV (ls.getD q.1 0)) H'
def spWorstBy : Sp := fun vs H Q _ => ∃ (l f w : Addr) (ls : List Nat) (b : Nat) (x y : Int), vs = [.ref l, nV b, .ref f, .ref w] ∧ l ≠ f ∧ H l = some (.lst (nls ls)) ∧ ls.length ≤ 10 ∧ LinesOk ls ∧ H f = some (.lst [.int x, .int y]) ∧ H w = some (.dK []) ∧
  0 < b ∧ b < 2 ^ ls.length ∧ ∀ H' v, (∀ c o, c ≠ f → c ≠ w → H c = some o → H' c = some o) → (B ls b).1 ≤ v → Q (nV v) H'
def spByBook : Sp := fun vs H Q _ => ∃ (e l a t : Addr) (ls : List Nat) (b : Nat) (M : List Nat), vs = [.ref e, .ref l, .ref a, .ref t] ∧ H l = some (.lst (nls ls)) ∧ ls.length ≤ 10 ∧ LinesOk ls ∧ H a = some (.tup (nls (tupOf b))) ∧ 0 < b ∧ b < 2 ^ ls.length ∧
  BookAt ls H t M ∧ Beneath ls b M ∧ ∀ H', Same H H' → Q (nV (B ls b).1) H'
def spLaw (K : PySem.W.Frag) : Sp := fun vs H Q _ => ∃ (a : Addr) (ns : List Int), vs = [.ref a] ∧ SqL K H a (ns.map V.int) ∧ ns.length ≤ 63 ∧ ∀ H', Q (.bl true) H'

/-! ### heaps -/
theorem same_upd {H : Hp} {p : Addr} {o : HO} (h : H p = none) : Same H (upd H p o) := fun b x e => by
  rw [upd_ne (ne_of_none e h)]
  exact e
theorem Same.elders {H H' : Hp} (s : Same H H') {p : Addr} {es : List (List Nat)} (h : EldersAt H p es) : EldersAt H' p es := by
  obtain ⟨as, h1, h2, h3⟩ := h
  exact ⟨as, s _ _ h1, h2, fun j x a e1 e2 => s _ _ (h3 j x a e1 e2)⟩
theorem Same.parts {H H' : Hp} (s : Same H H') {p : Addr} {L : List Part} (h : PartsAt H p L) : PartsAt H' p L := by
  obtain ⟨as, h1, h2, h3⟩ := h
  exact ⟨as, s _ _ h1, h2, fun j x a e1 e2 => s _ _ (h3 j x a e1 e2)⟩
theorem Same.tells {H H' : Hp} (s : Same H H') {ls : List Nat} {p : Addr} {M : List Nat} (h : TellsAt ls H p M) : TellsAt ls H' p M := by
  obtain ⟨ps, h1, h2, h3⟩ := h
  exact ⟨ps, h1, s _ _ h2, fun q m => s _ _ (h3 q m)⟩
theorem Same.book {H H' : Hp} (s : Same H H') {ls : List Nat} {p : Addr} {M : List Nat} (h : BookAt ls H p M) : BookAt ls H' p M := by
  obtain ⟨ps, h1, h2, h3⟩ := h
  exact ⟨ps, h1, s _ _ h2, fun q m => s _ _ (h3 q m)⟩
theorem Same.but {H H' : Hp} (s : Same H H') (f : Addr) : But f H H' := fun c o _ e => s c o e
theorem But.trans {f : Addr} {H H1 H2 : Hp} (a : But f H H1) (b : But f H1 H2) : But f H H2 := fun c o n e => b c o n (a c o n e)
theorem but_upd {f : Addr} {H : Hp} {o : HO} : But f H (upd H f o) := fun c u n e => by
  rw [upd_ne n]
  exact e
theorem nls_get {l : List Nat} {i : Nat} {k : Nat} (h : l[i]? = some k) : (nls l)[i]? = some (nV k) := by
  unfold nls
  rw [List.getElem?_map, h]
  rfl
theorem nls_len (l : List Nat) : (nls l).length = l.length := by
  unfold nls
  rw [List.length_map]
theorem nls_at {l : List Nat} {i : Nat} {x : V} (h : (nls l)[i]? = some x) : ∃ k, l[i]? = some k ∧ x = nV k := by
  unfold nls at h
  rw [List.getElem?_map] at h
  obtain ⟨k, e, z⟩ := Option.map_eq_some_iff.mp h
  exact ⟨k, e, z.symm⟩
theorem nls_app (l m : List Nat) : nls (l ++ m) = nls l ++ nls m := by
  unfold nls
  rw [List.map_append]
theorem small10 {n : Nat} (h : n ≤ 10) : n ≤ sizeLine := Nat.le_trans h (by decide)
theorem small4k {n : Nat} (h : n ≤ 4000) : n < sizeLine := Nat.lt_of_le_of_lt h (by decide)
/-! ### bits of numbers that are not negative -/
theorem or_nn (a b : Nat) : Builtin.bitOr (a : Int) (b : Int) = ((a ||| b : Nat) : Int) := by
  rw [Bits.bitOr_pp (by omega) (by omega)]
  rfl
theorem and_nn (a b : Nat) : Builtin.bitAnd (a : Int) (b : Int) = ((a &&& b : Nat) : Int) := by
  rw [bitAnd_pp (by omega) (by omega)]
  rfl
theorem shl_nn (a b : Nat) : (a : Int) * 2 ^ ((b : Int).toNat) = ((a * 2 ^ b : Nat) : Int) := by
  rw [Int.toNat_natCast]
  push_cast
  rfl
theorem shr_nn (a b : Nat) : (a : Int) / 2 ^ ((b : Int).toNat) = ((a >>> b : Nat) : Int) := by
  rw [Int.toNat_natCast, Nat.shiftRight_eq_div_pow]
  push_cast
  rfl
end Mk
/-! The defs of trials.py that call none, and the law's lines. -/
namespace Mk
open PySem PySem.Spec PyProof.Rows L2 MkR
section
variable {P : Program} {w : World} {K : PySem.W.Frag} {mg : Str → Option Value} {base : Heap}

theorem bitsOf_snoc (l : List Nat) (k : Nat) : bitsOf (l ++ [k]) = bitsOf l ||| 2 ^ k := by
  unfold bitsOf
  rw [List.foldl_append]
  rfl
theorem one_shl (k : Nat) : (1 : Int) * 2 ^ ((k : Int).toNat) = ((2 ^ k : Nat) : Int) := by
  have h := shl_nn 1 k
  rw [Nat.one_mul] at h
  exact h
theorem ok_bits_of {f : Addr} {fd : FuncData} (F : Fun K "bits_of" "bits_of" sBitsOf f fd) : FnOk P w K mg base CX0 1 f fd ["some"] spBitsOf := by
  refine F.ok scBitsOf (fun vs H Q E h => ?_) (fun cdv A outer s H vs Q E hr h => ?_)
  · obtain ⟨a, l, rfl, _⟩ := h
    rfl
  · obtain ⟨a, l, rfl, ha, hk, q⟩ := h
    refine ⟨_, pss_cons (ps_set (i := 1) scBitsOf.nd rfl (.inl rfl) pe_int)
      (pss_cons (ps_for PassesOwn.never rfl (pi_tup (pv 0)) (pg_name (i := 2) scBitsOf.nd rfl (.inl rfl)) (pss_one (ps_set (i := 1) scBitsOf.nd rfl (.inl rfl) (pe_op op_or (pv 1) (pe_op op_shl pe_int (pv 2))))))
      (pss_one (ps_ret (pv 1)))), ?_⟩
    refine ⟨_, rfl, a, rfl, ⟨_, SqT.of ha⟩, for_tup (K := K) (a := a) (xs := nls l) (fun i σ H2 => ∃ v, σ = [some (.ref a), some (nV (bitsOf (l.take i))), v] ∧ H2 = H) ⟨none, rfl, rfl⟩ (fun i σ H2 _ ⟨_, _, e⟩ => by rw [e]; exact SqT.of ha) ?_ ?_⟩
    · rintro i x σ H2 hi ⟨v, rfl, rfl⟩
      obtain ⟨k, e, rfl⟩ := nls_at hi
      have hk10 := hk k (List.mem_of_getElem? e)
      refine ⟨_, rfl, _, rfl, _, _, rfl, rfl, ⟨by omega, by omega, by decide⟩, _, _, rfl, rfl, some (nV k), ?_, rfl⟩
      refine congrArg (fun z => [some (V.ref a), some z, some (nV k)]) ?_
      show V.int (Builtin.bitOr _ ((1 : Int) * 2 ^ ((k : Int).toNat))) = nV (bitsOf (l.take (i + 1)))
      rw [one_shl, or_nn, List.take_add_one, e]
      exact congrArg nV (bitsOf_snoc _ k).symm
    · rintro σ H2 ⟨v, rfl, rfl⟩
      refine ⟨_, rfl, ?_⟩
      rw [List.take_of_length_le (by rw [nls_len]; exact Nat.le_refl _)]
      exact q
end
end Mk
namespace Mk
open PySem PySem.Spec PyProof.Rows L2 MkR
section
variable {P : Program} {w : World} {K : PySem.W.Frag} {mg : Str → Option Value} {base : Heap}
theorem line_snoc (found s : List Nat) (l k : Nat) : lineStep found (s ++ [k]) l = lineStep found s l ||| found.getD k 0 := by
  unfold lineStep
  rw [List.foldl_append]
  rfl
theorem getD_at {l : List Nat} {k : Nat} (h : k < l.length) : l[k]? = some (l.getD k 0) := by
  rw [List.getD_eq_getElem?_getD, List.getElem?_eq_getElem h]
  rfl
theorem take_nls (l : List Nat) : l.take (nls l).length = l := List.take_of_length_le (by rw [nls_len]; exact Nat.le_refl _)
theorem ok_lines_of {f : Addr} {fd : FuncData} (F : Fun K "lines_of" "lines_of" sLinesOf f fd) (T : Bi mg) : FnOk P w K mg base CX0 1 f fd ["elders"] spLinesOf := by
  refine F.ok scLinesOf (fun vs H Q E h => ?_) (fun cdv A outer s H vs Q E hr h => ?_)
  · obtain ⟨e, es, rfl, _⟩ := h
    rfl
  · obtain ⟨e, es, rfl, ⟨as, he, hlen, hat⟩, wf, hl10, q⟩ := h
    refine ⟨_, pss_cons (ps_set (i := 1) scLinesOf.nd rfl (.inl rfl) (pe_lst pa_nil))
      (pss_cons (ps_for PassesOwn.never rfl (pi_enumT (by rfl) T.enumerate (pa_cons (pv 0) pa_nil)) (pg_tup rfl (pgs_cons (pg_name (i := 2) scLinesOf.nd rfl (.inl rfl)) (pgs_cons (pg_name (i := 3) scLinesOf.nd rfl (.inl rfl)) pgs_nil)))
        (pss_cons (ps_set (i := 4) scLinesOf.nd rfl (.inl rfl) (pe_op op_shl pe_int (pv 2)))
        (pss_cons (ps_for PassesOwn.never rfl (pi_tup (pv 3)) (pg_name (i := 5) scLinesOf.nd rfl (.inl rfl))
          (pss_one (ps_set (i := 4) scLinesOf.nd rfl (.inl rfl) (pe_op op_or (pv 4) (pe_ix ix_list (pv 1) (pv 5) (fun _ _ => rfl))))))
        (pss_one (ps_expr (pe_bm PySem.F.plainAttrs_list PySem.F.slot_list_append PySem.F.type_list_append mt_append (pv 1) (pa_cons (pv 4) pa_nil)))))))
      (pss_one (ps_ret (pv 1)))), ?_⟩
    refine ⟨Nat.zero_le _, fun o no => ?_⟩
    have s1 : Same H (upd H o (.lst [])) := same_upd no
    refine ⟨.ref e, rfl, e, as.map V.ref, rfl, SqT.of (s1 _ _ he), for_it (walk_enumT (K := K) (a := e) (xs := as.map V.ref))
      (fun i σ H3 => ∃ v2 v3 v4 v5, σ = [some (.ref e), some (.ref o), v2, v3, v4, v5] ∧ Same H H3 ∧ H3 o = some (.lst (nls (linesOf (es.take i)))))
      ⟨none, none, none, none, rfl, s1, upd_same⟩ (fun i σ H3 _ ⟨_, _, _, _, _, s3, _⟩ => SqT.of (s3 _ _ he)) ?_ ?_⟩
    · rintro i x σ H3 H4 hi ⟨v2, v3, v4, v5, rfl, s3, ho⟩ ⟨T1, x1, x2, rfl, nT, rfl, e1, e2⟩
      have ex1 : V.int (i : Nat) = x1 := Option.some.inj e1
      subst ex1
      rw [List.length_map] at hi
      have hie : i < es.length := by omega
      have ai : as[i]? = some as[i] := List.getElem?_eq_getElem hi
      have ei : es[i]? = some es[i] := List.getElem?_eq_getElem hie
      have ex2 : V.ref as[i] = x2 := by
        have e3 : (as.map V.ref)[i]? = some x2 := e2
        rw [List.getElem?_map, ai] at e3
        exact Option.some.inj e3
      subst ex2
      have s4 : Same H3 (upd H3 T1 (.tup [V.int (i : Nat), V.ref as[i]])) := same_upd nT
      have hs : H as[i] = some (.tup (nls es[i])) := hat i _ _ ei ai
      have hs4 := s4 _ _ (s3 _ _ hs)
      have ho4 := s4 _ _ ho
      have L := lines_take es wf i (by omega)
      refine ⟨T1, [V.int (i : Nat), V.ref as[i]], rfl, SqT.of upd_same, rfl, _, [V.ref as[i]], rfl, _, [], rfl, rfl, ?_⟩
      -- line = 1 << number
      refine ⟨_, rfl, _, _, rfl, rfl, ⟨by omega, by omega, by decide⟩, ?_⟩
      -- the elders' lines
      refine ⟨_, rfl, as[i], rfl, ⟨_, SqT.of hs4⟩, for_tup (K := K) (a := as[i]) (xs := nls es[i])
        (fun j σ H5 => ∃ v5, σ = [some (.ref e), some (.ref o), some (nV i), some (.ref as[i]), some (nV (lineStep (linesOf (es.take i)) (es[i].take j) (2 ^ i))), v5] ∧ H5 = upd H3 T1 (.tup [V.int (i : Nat), V.ref as[i]]))
        ⟨v5, ?_, rfl⟩ (fun j σ H5 _ ⟨_, _, z⟩ => by rw [z]; exact SqT.of hs4) ?_ ?_⟩
      · refine congrArg (fun z => [some (V.ref e), some (V.ref o), some (nV i), some (V.ref as[i]), some z, v5]) ?_
        exact congrArg V.int (one_shl i)
      · rintro j y σ H5 hj ⟨v5, rfl, rfl⟩
        obtain ⟨k, ek, rfl⟩ := nls_at hj
        have hk : k < i := wf i _ ei k (List.mem_of_getElem? ek)
        have hkl : k < (linesOf (es.take i)).length := by omega
        refine ⟨_, rfl, .ref o, rfl, nV k, rfl, o, _, (k : Int), _, rfl, rfl, SqL.of ho4, atI_nat (nls_get (getD_at hkl)), _, _, rfl, rfl, some (nV k), ?_, rfl⟩
        refine congrArg (fun z => [some (V.ref e), some (V.ref o), some (nV i), some (V.ref as[i]), some z, some (nV k)]) ?_
        show V.int (Builtin.bitOr _ _) = nV (lineStep (linesOf (es.take i)) (es[i].take (j + 1)) (2 ^ i))
        rw [or_nn, List.take_add_one, ek]
        exact congrArg nV (line_snoc _ _ _ k).symm
      · rintro σ H5 ⟨v5, rfl, rfl⟩
        refine ⟨.ref o, rfl, .inl ⟨rfl, _, .inl (.inl ho4)⟩, _, rfl, o, _, _, rfl, rfl, ho4, ?_, ?_⟩
        · rw [nls_len]
          exact small1000 (by omega)
        · refine ⟨_, _, _, _, rfl, fun b z eb => ?_, ?_⟩
          · rw [upd_ne (ne_of_none eb no)]
            exact s4 _ _ (s3 _ _ eb)
          · rw [upd_same, lines_succ es hie, take_nls]
            unfold linesStep
            rw [nls_app, L.2]
            rfl
    · rintro σ H3 ⟨v2, v3, v4, v5, rfl, s3, ho⟩
      rw [List.length_map, hlen, List.take_length] at ho
      exact ⟨.ref o, rfl, q H3 o s3 no ho⟩
end
end Mk
namespace Mk
open PySem PySem.Spec PyProof.Rows L2 MkR
section
variable {P : Program} {w : World} {K : PySem.W.Frag} {mg : Str → Option Value} {base : Heap}
theorem bit_int (b n : Nat) : Builtin.bitAnd ((b : Int) / 2 ^ ((n : Int).toNat)) 1 = ((b / 2 ^ n % 2 : Nat) : Int) := by
  rw [shr_nn, Nat.shiftRight_eq_div_pow]
  have h := and_nn (b / 2 ^ n) 1
  rw [Nat.and_one_is_mod] at h
  exact h
theorem bit_iff (b n : Nat) : V.int ((b / 2 ^ n % 2 : Nat) : Int) = V.int 1 ↔ b.testBit n = true := by
  rw [Nat.testBit_eq_decide_div_mod_eq, decide_eq_true_eq]
  constructor
  · intro h
    have := V.int.inj h
    omega
  · intro h
    rw [h]
    rfl
theorem ok_tuple_of {f : Addr} {fd : FuncData} (F : Fun K "tuple_of" "tuple_of" sTupleOf f fd) (T : Bi mg) : FnOk P w K mg base CX0 1 f fd ["bits"] spTupleOf := by
  refine F.ok scTupleOf (fun vs H Q E h => ?_) (fun cdv A outer s H vs Q E hr h => ?_)
  · obtain ⟨b, rfl, _⟩ := h
    rfl
  · obtain ⟨b, rfl, hb, q⟩ := h
    refine ⟨_, pss_cons (ps_set (i := 1) scTupleOf.nd rfl (.inl rfl) (pe_lst pa_nil))
      (pss_cons (ps_set (i := 2) scTupleOf.nd rfl (.inl rfl) pe_int)
      (pss_cons (ps_while PassesOwn.never (pt_cmpR op_gt (pe_op op_shr (pv 0) (pv 2)) pe_int (nomark _))
        (pss_cons (ps_if (pt_cmpR op_eq (pe_op op_and (pe_op op_shr (pv 0) (pv 2)) pe_int) pe_int (nomark _))
          (pss_one (ps_expr (pe_bm PySem.F.plainAttrs_list PySem.F.slot_list_append PySem.F.type_list_append mt_append (pv 1) (pa_cons (pv 2) pa_nil)))) pss_nil)
        (pss_one (ps_aug (i := 2) scTupleOf.nd rfl (.inl rfl) pe_int ip_add))))
      (pss_one (ps_ret (pe_callTy call_tuple_of (by rfl) T.tuple (by decide +kernel) (pa_cons (pv 1) pa_nil)))))), ?_⟩
    refine ⟨Nat.zero_le _, fun o no => ?_⟩
    have s1 : Same H (upd H o (.lst [])) := same_upd no
    refine ⟨fun m σ H3 => ∃ n, m = 20 - n ∧ n ≤ 10 ∧ σ = [some (nV b), some (.ref o), some (nV n)] ∧ Same H H3 ∧ H3 o = some (.lst (nls (upTo n b))),
      ⟨20, 0, rfl, by omega, rfl, s1, upd_same⟩, ?_⟩
    rintro m σ H3 ⟨n, rfl, hn, rfl, s3, ho⟩
    have hshr : ((b : Int) / 2 ^ ((n : Int).toNat)) = ((b / 2 ^ n : Nat) : Int) := by
      rw [shr_nn, Nat.shiftRight_eq_div_pow]
    refine ⟨_, rfl, _, rfl, _, _, rfl, rfl, by omega, _, _, rfl, rfl, _, rfl, ite2 (fun hb1 => ?_) (fun hb1 => ?_)⟩
    · have hpos : 0 < b / 2 ^ n := by
        have z := of_decide_eq_true hb1
        have z2 : (0 : Int) < (b : Int) / 2 ^ ((n : Int).toNat) := z
        rw [hshr] at z2
        omega
      have hn10 : n < 10 := by
        by_cases z : n < 10
        · exact z
        · have e : n = 10 := by omega
          subst e
          rw [Nat.div_eq_of_lt hb] at hpos
          omega
      have len := upTo_len n b
      refine ⟨fun σ' H' => σ' = [some (nV b), some (.ref o), some (nV (n + 1))] ∧ Same H H' ∧ H' o = some (.lst (nls (upTo (n + 1) b))), fun σ' H' ⟨e1, e2, e3⟩ => ⟨20 - (n + 1), by omega, n + 1, rfl, by omega, e1, e2, e3⟩, ?_⟩
      refine ⟨_, rfl, _, rfl, _, _, rfl, rfl, by omega, _, _, rfl, rfl, rfl, _, rfl, ite2 (fun hb2 => ?_) (fun hb2 => ?_)⟩
      · have z : V.int (Builtin.bitAnd ((b : Int) / 2 ^ ((n : Int).toNat)) 1) = V.int 1 := of_decide_eq_true hb2
        rw [bit_int, bit_iff] at z
        refine ⟨.ref o, rfl, .inl ⟨rfl, _, .inl (.inl ho)⟩, _, rfl, o, _, _, rfl, rfl, ho, ?_, ?_⟩
        · rw [nls_len]
          exact small1000 (by omega)
        · refine ⟨_, rfl, _, _, rfl, rfl, rfl, fun c u e => ?_, ?_⟩
          · rw [upd_ne (ne_of_none e no)]
            exact s3 _ _ e
          · rw [upd_same, upTo_succ, if_pos z, nls_app]
            rfl
      · have z : ¬ V.int (Builtin.bitAnd ((b : Int) / 2 ^ ((n : Int).toNat)) 1) = V.int 1 := fun z => hb2 (decide_eq_true z)
        rw [bit_int, bit_iff] at z
        refine ⟨_, rfl, _, _, rfl, rfl, rfl, s3, ?_⟩
        rw [upTo_succ, if_neg z, List.append_nil]
        exact ho
    · have hlt : b < 2 ^ n := by
        have z2 : ¬ (0 : Int) < (b : Int) / 2 ^ ((n : Int).toNat) := fun z => hb1 (decide_eq_true z)
        rw [hshr] at z2
        have z3 : b / 2 ^ n = 0 := by
          generalize b / 2 ^ n = d at z2 ⊢
          omega
        exact (Nat.div_eq_zero_iff_lt (Nat.two_pow_pos n)).mp z3
      refine ⟨.ref o, rfl, o, _, rfl, .inl ⟨SqL.of ho, fun l nl => ?_⟩⟩
      have s4 : Same H3 (upd H3 l (.tup (nls (upTo n b)))) := same_upd nl
      refine q _ l (s3.trans s4) (s3.free nl) ?_
      rw [upd_same]
      exact congrArg (fun z => some (HO.tup (nls z))) (upTo_eq hlt hb)
end
end Mk
namespace Mk
open PySem PySem.Spec PyProof.Rows L2 MkR
section
variable {P : Program} {w : World} {K : PySem.W.Frag} {mg : Str → Option Value} {base : Heap}
theorem nV_inj {a b : Nat} (h : nV a = nV b) : a = b := by
  have := V.int.inj h
  omega
theorem and_nV (a b : Nat) : V.int (Builtin.bitAnd (a : Int) (b : Int)) = nV (a &&& b) := congrArg V.int (and_nn a b)
theorem iteNS' {c A B : Prop} [Decidable c] (hc : ¬ c) (h : A) : if (!decide c) = true then A else B := by
  rw [decide_eq_false hc]
  exact iteT h
theorem ne_of_none' {H : Hp} {a b : Addr} {o : HO} (h : H a = none) (h' : H b = some o) : a ≠ b := (ne_of_none h' h).symm
theorem parts_step {ls : List Nat} {b i : Nat} {H H' : Hp} {o t : Addr} {q : Part} {as : List Addr} (hq : part1 ls b i = some q) (hlen : as.length = (partsTo ls b i).length)
    (hat : ∀ (j : Nat) (q : Part) (a : Addr), (partsTo ls b i)[j]? = some q → as[j]? = some a → H a = some (.tup [nV q.1, nV q.2.1, nV q.2.2])) (s : ∀ c xs, H c = some (.tup xs) → H' c = some (.tup xs)) (ht : H' t = some (.tup [nV q.1, nV q.2.1, nV q.2.2])) :
    (as ++ [t]).length = (partsTo ls b (i + 1)).length ∧ ∀ (j : Nat) (q : Part) (a : Addr), (partsTo ls b (i + 1))[j]? = some q → (as ++ [t])[j]? = some a → H' a = some (.tup [nV q.1, nV q.2.1, nV q.2.2]) := by
  rw [partsTo_succ, hq]
  refine ⟨by simp [hlen], fun j p a e1 e2 => ?_⟩
  by_cases hj : j < as.length
  · rw [List.getElem?_append_left hj] at e2
    rw [List.getElem?_append_left (by omega)] at e1
    exact s _ _ (hat j p a e1 e2)
  · have ej : j = as.length := by
      have := (List.getElem?_eq_some_iff.mp e2).1
      rw [List.length_append, List.length_singleton] at this
      omega
    subst ej
    rw [List.getElem?_append_right (Nat.le_refl _), Nat.sub_self] at e2
    rw [hlen, List.getElem?_append_right (Nat.le_refl _), Nat.sub_self] at e1
    have ea : t = a := Option.some.inj e2
    have ep : q = p := Option.some.inj e1
    rw [← ea, ← ep]
    exact ht
theorem ok_parting {f : Addr} {fd : FuncData} (F : Fun K "parting" "parting" sParting f fd) (T : Bi mg) : FnOk P w K mg base CX0 1 f fd ["lines", "bits"] spParting := by
  refine F.ok scParting (fun vs H Q E h => ?_) (fun cdv A outer s H vs Q E hr h => ?_)
  · obtain ⟨l, ls, b, rfl, _⟩ := h
    rfl
  · obtain ⟨l, ls, b, rfl, hl, hl10, q⟩ := h
    refine ⟨_, pss_cons (ps_set (i := 2) scParting.nd rfl (.inl rfl) (pe_lst pa_nil))
      (pss_cons (ps_for PassesOwn.never rfl (pi_enum (by rfl) T.enumerate (pa_cons (pv 0) pa_nil)) (pg_tup rfl (pgs_cons (pg_name (i := 3) scParting.nd rfl (.inl rfl)) (pgs_cons (pg_name (i := 4) scParting.nd rfl (.inl rfl)) pgs_nil)))
        (pss_cons (ps_set (i := 5) scParting.nd rfl (.inl rfl) (pe_op op_and (pv 1) (pv 4)))
        (pss_one (ps_if (PW.pt (pw_and (pt_cmpR op_ne (pv 5) pe_int (nomark _)) (pw_and1 (pt_cmpR op_ne (pv 5) (pv 1) (nomark _)))))
          (pss_one (ps_expr (pe_bm PySem.F.plainAttrs_list PySem.F.slot_list_append PySem.F.type_list_append mt_append (pv 2) (pa_cons (pe_tup (pa_cons (pv 3) (pa_cons (pv 5) (pa_cons (pe_op op_sub (pv 1) (pv 5)) pa_nil)))) pa_nil)))) pss_nil))))
      (pss_one (ps_ret (pv 2)))), ?_⟩
    refine ⟨Nat.zero_le _, fun o no => ?_⟩
    have s1 : Same H (upd H o (.lst [])) := same_upd no
    refine ⟨.ref l, rfl, l, nls ls, rfl, SqL.of (s1 _ _ hl), for_it (walk_enum (K := K) (a := l) (xs := nls ls))
      (fun i σ H3 => ∃ v3 v4 v5, σ = [some (.ref l), some (nV b), some (.ref o), v3, v4, v5] ∧ Same H H3 ∧ ∃ as : List Addr, H3 o = some (.lst (as.map V.ref)) ∧ as.length = (partsTo ls b i).length ∧
        ∀ (j : Nat) (q : Part) (a : Addr), (partsTo ls b i)[j]? = some q → as[j]? = some a → H3 a = some (.tup [nV q.1, nV q.2.1, nV q.2.2]))
      ⟨none, none, none, rfl, s1, [], upd_same, rfl, fun j q a e _ => by simp [partsTo] at e⟩ (fun i σ H3 _ ⟨_, _, _, _, s3, _⟩ => SqL.of (s3 _ _ hl)) ?_ ?_⟩
    · rintro i x σ H3 H4 hi ⟨v3, v4, v5, rfl, s3, as, ho, hlen, hat⟩ ⟨T1, x1, x2, rfl, nT, rfl, e1, e2⟩
      have ex1 : V.int (i : Nat) = x1 := Option.some.inj e1
      subst ex1
      rw [nls_len] at hi
      have ex2 : nV (ls.getD i 0) = x2 := by
        have e3 : (nls ls)[i]? = some x2 := e2
        rw [nls_get (getD_at hi)] at e3
        exact Option.some.inj e3
      subst ex2
      have s4 : Same H3 (upd H3 T1 (.tup [V.int (i : Nat), nV (ls.getD i 0)])) := same_upd nT
      have ho4 := s4 _ _ ho
      refine ⟨T1, [V.int (i : Nat), nV (ls.getD i 0)], rfl, SqT.of upd_same, rfl, _, [nV (ls.getD i 0)], rfl, _, [], rfl, rfl, ?_⟩
      -- one = bits & line
      refine ⟨_, rfl, _, rfl, _, _, rfl, rfl, ?_⟩
      refine ⟨_, rfl, rfl, _, rfl, ?_⟩
      show if (!decide (V.int (Builtin.bitAnd (b : Int) (ls.getD i 0 : Int)) = V.int 0)) = true then _ else _
      have done : ∀ σ', σ' = [some (V.ref l), some (nV b), some (V.ref o), some (V.int (i : Nat)), some (nV (ls.getD i 0)), some (V.int (Builtin.bitAnd (b : Int) (ls.getD i 0 : Int)))] → part1 ls b i = none →
          ∃ v3 v4 v5, σ' = [some (.ref l), some (nV b), some (.ref o), v3, v4, v5] ∧ Same H (upd H3 T1 (.tup [V.int (i : Nat), nV (ls.getD i 0)])) ∧ ∃ as : List Addr, (upd H3 T1 (.tup [V.int (i : Nat), nV (ls.getD i 0)])) o = some (.lst (as.map V.ref)) ∧ as.length = (partsTo ls b (i + 1)).length ∧
        ∀ (j : Nat) (q : Part) (a : Addr), (partsTo ls b (i + 1))[j]? = some q → as[j]? = some a → (upd H3 T1 (.tup [V.int (i : Nat), nV (ls.getD i 0)])) a = some (.tup [nV q.1, nV q.2.1, nV q.2.2]) := by
        intro σ' e hn
        rw [partsTo_succ, hn, Option.toList_none, List.append_nil]
        exact ⟨_, _, _, e, s3.trans s4, as, ho4, hlen, fun j q a h1 h2 => s4 _ _ (hat j q a h1 h2)⟩
      rw [and_nV]
      by_cases c1 : b &&& ls.getD i 0 = 0
      · rw [c1]
        refine iteNS rfl ?_
        refine iteF ?_
        exact done _ rfl (by unfold part1; rw [if_neg (fun z => z.1 c1)])
      · have d1 : ¬ nV (b &&& ls.getD i 0) = V.int 0 := fun z => c1 (nV_inj (b := 0) z)
        rw [decide_eq_false d1]
        refine iteT ?_
        refine ⟨_, rfl, _, rfl, rfl, _, rfl, ?_⟩
        by_cases c2 : b &&& ls.getD i 0 = b
        · refine iteNS (congrArg nV c2) ?_
          exact done _ rfl (by unfold part1; rw [if_neg (fun z => z.2 c2)])
        · refine iteNS' (fun z => c2 (nV_inj z)) ?_
          refine ⟨.ref o, rfl, .inl ⟨rfl, _, .inl (.inl ho4)⟩, _, rfl, _, rfl, _, rfl, _, rfl, _, _, rfl, rfl, (by show 3 ≤ sizeLine; decide), fun t nt => ?_⟩
          have s5 : Same (upd H3 T1 (.tup [V.int (i : Nat), nV (ls.getD i 0)])) (upd (upd H3 T1 (.tup [V.int (i : Nat), nV (ls.getD i 0)])) t (.tup [V.int (i : Nat), V.int (Builtin.bitAnd (b : Int) (ls.getD i 0 : Int)), V.int ((b : Int) - Builtin.bitAnd (b : Int) (ls.getD i 0 : Int))])) := same_upd nt
          have ho5 := s5 _ _ ho4
          have hto : t ≠ o := ne_of_none' nt ho4
          have hq : part1 ls b i = some (i, b &&& ls.getD i 0, b - (b &&& ls.getD i 0)) := by
            unfold part1
            rw [if_pos ⟨c1, c2⟩]
          have et : [V.int (i : Nat), V.int (Builtin.bitAnd (b : Int) (ls.getD i 0 : Int)), V.int ((b : Int) - Builtin.bitAnd (b : Int) (ls.getD i 0 : Int))] = [nV i, nV (b &&& ls.getD i 0), nV (b - (b &&& ls.getD i 0))] := by
            rw [and_nn]
            have l : (b &&& ls.getD i 0) ≤ b := Nat.and_le_left
            refine congrArg (fun z => [nV i, nV (b &&& ls.getD i 0), V.int z]) ?_
            omega
          have st := parts_step (H := H3) (H' := upd (upd (upd H3 T1 (.tup [V.int (i : Nat), nV (ls.getD i 0)])) t (.tup [V.int (i : Nat), V.int (Builtin.bitAnd (b : Int) (ls.getD i 0 : Int)), V.int ((b : Int) - Builtin.bitAnd (b : Int) (ls.getD i 0 : Int))])) o (.lst (as.map V.ref ++ [V.ref t])))
            (o := o) (t := t) hq hlen hat (fun c xs e => ?_) ?_
          · refine ⟨o, _, _, rfl, rfl, ho5, ?_, ?_⟩
            · rw [List.length_map, hlen]
              exact small1000 (by have := partsTo_len ls b i; omega)
            · refine ⟨_, _, _, rfl, fun c u e => ?_, as ++ [t], ?_, st.1, st.2⟩
              · rw [upd_ne (ne_of_none e no)]
                exact s5 _ _ (s4 _ _ (s3 _ _ e))
              · rw [upd_same, List.map_append]
                rfl
          · rw [upd_ne (ne_of e ho (by intro z; cases z))]
            exact s5 _ _ (s4 _ _ e)
          · rw [upd_ne hto, upd_same, et]
    · rintro σ H3 ⟨v3, v4, v5, rfl, s3, as, ho, hlen, hat⟩
      rw [nls_len] at hlen hat
      exact ⟨.ref o, rfl, q H3 o s3 no ⟨as, ho, hlen, hat⟩⟩
end
end Mk
namespace Mk
open PySem PySem.Spec PyProof.Rows L2 MkR
section
variable {P : Program} {w : World} {K : PySem.W.Frag} {mg : Str → Option Value} {base : Heap}
theorem ok_law_lines {f : Addr} {fd : FuncData} (F : Fun K "_law_lines" "_law_lines" sLawLines f fd) (T : Bi mg) : FnOk P w K mg base CX0 1 f fd ["_law_elders_here"] spLinesOf := by
  refine F.ok scLawLines (fun vs H Q E h => ?_) (fun cdv A outer s H vs Q E hr h => ?_)
  · obtain ⟨e, es, rfl, _⟩ := h
    rfl
  · obtain ⟨e, es, rfl, ⟨as, he, hlen, hat⟩, wf, hl10, q⟩ := h
    refine ⟨_, pss_cons (ps_set (i := 1) scLawLines.nd rfl (.inl rfl) (pe_lst pa_nil))
      (pss_cons (ps_for PassesOwn.never rfl (pi_range1 rfl T.range (pa_cons (pe_callB call_len_seq (by rfl) T.len PySem.boot_len (pa_cons (pv 0) pa_nil)) pa_nil)) (pg_name (i := 2) scLawLines.nd rfl (.inl rfl))
        (pss_cons (ps_set (i := 3) scLawLines.nd rfl (.inl rfl) (pe_op op_shl pe_int (pv 2)))
        (pss_cons (ps_for PassesOwn.never rfl (pi_tup (pe_ix ix_tup (pv 0) (pv 2) (fun _ _ => rfl))) (pg_name (i := 4) scLawLines.nd rfl (.inl rfl))
          (pss_one (ps_set (i := 3) scLawLines.nd rfl (.inl rfl) (pe_op op_or (pv 3) (pe_ix ix_list (pv 1) (pv 4) (fun _ _ => rfl))))))
        (pss_one (ps_expr (pe_bm PySem.F.plainAttrs_list PySem.F.slot_list_append PySem.F.type_list_append mt_append (pv 1) (pa_cons (pv 3) pa_nil)))))))
      (pss_one (ps_ret (pv 1)))), ?_⟩
    refine ⟨Nat.zero_le _, fun o no => ?_⟩
    have s1 : Same H (upd H o (.lst [])) := same_upd no
    refine ⟨.ref e, rfl, e, as.map V.ref, rfl, .inr (SqT.of (s1 _ _ he)), ((as.map V.ref).length : Int), rfl, by omega, by rw [List.length_map]; omega, for_range (lo := 0) (n := (as.map V.ref).length)
      (fun i σ H3 => ∃ v2 v3 v4, σ = [some (.ref e), some (.ref o), v2, v3, v4] ∧ Same H H3 ∧ H3 o = some (.lst (nls (linesOf (es.take i)))))
      ⟨none, none, none, rfl, s1, upd_same⟩ ?_ ?_⟩
    · rintro i σ H3 hi ⟨v2, v3, v4, rfl, s3, ho⟩
      rw [Int.zero_add]
      rw [List.length_map] at hi
      have hie : i < es.length := by omega
      have ai : as[i]? = some as[i] := List.getElem?_eq_getElem hi
      have ei : es[i]? = some es[i] := List.getElem?_eq_getElem hie
      have hs : H as[i] = some (.tup (nls es[i])) := hat i _ _ ei ai
      have hs3 := s3 _ _ hs
      have L := lines_take es wf i (by omega)
      have hix : (as.map V.ref)[i]? = some (V.ref as[i]) := by
        rw [List.getElem?_map, ai]
        rfl
      -- line = 1 << number
      refine ⟨_, rfl, _, _, rfl, rfl, ⟨by omega, by omega, by decide⟩, ?_⟩
      -- the elders' lines
      refine ⟨_, rfl, _, rfl, e, _, (i : Int), _, rfl, rfl, SqT.of (s3 _ _ he), atI_nat hix, as[i], rfl, ⟨_, SqT.of hs3⟩, for_tup (K := K) (a := as[i]) (xs := nls es[i])
        (fun j σ H5 => ∃ v4, σ = [some (.ref e), some (.ref o), some (nV i), some (nV (lineStep (linesOf (es.take i)) (es[i].take j) (2 ^ i))), v4] ∧ H5 = H3)
        ⟨v4, ?_, rfl⟩ (fun j σ H5 _ ⟨_, _, z⟩ => by rw [z]; exact SqT.of hs3) ?_ ?_⟩
      · refine congrArg (fun z => [some (V.ref e), some (V.ref o), some (nV i), some z, v4]) ?_
        exact congrArg V.int (one_shl i)
      · rintro j y σ H5 hj ⟨v4, rfl, rfl⟩
        obtain ⟨k, ek, rfl⟩ := nls_at hj
        have hk : k < i := wf i _ ei k (List.mem_of_getElem? ek)
        have hkl : k < (linesOf (es.take i)).length := by omega
        refine ⟨_, rfl, .ref o, rfl, nV k, rfl, o, _, (k : Int), _, rfl, rfl, SqL.of ho, atI_nat (nls_get (getD_at hkl)), _, _, rfl, rfl, some (nV k), ?_, rfl⟩
        refine congrArg (fun z => [some (V.ref e), some (V.ref o), some (nV i), some z, some (nV k)]) ?_
        show V.int (Builtin.bitOr _ _) = nV (lineStep (linesOf (es.take i)) (es[i].take (j + 1)) (2 ^ i))
        rw [or_nn, List.take_add_one, ek]
        exact congrArg nV (line_snoc _ _ _ k).symm
      · rintro σ H5 ⟨v4, rfl, rfl⟩
        refine ⟨.ref o, rfl, .inl ⟨rfl, _, .inl (.inl ho)⟩, _, rfl, o, _, _, rfl, rfl, ho, ?_, ?_⟩
        · rw [nls_len]
          exact small1000 (by omega)
        · refine ⟨_, _, _, rfl, fun b z eb => ?_, ?_⟩
          · rw [upd_ne (ne_of_none eb no)]
            exact s3 _ _ eb
          · rw [upd_same, lines_succ es hie, take_nls]
            unfold linesStep
            rw [nls_app, L.2]
            rfl
    · rintro σ H3 ⟨v2, v3, v4, rfl, s3, ho⟩
      rw [List.length_map, hlen, List.take_length] at ho
      exact ⟨.ref o, rfl, q H3 o s3 no ho⟩
/-- sum([1 << number for number in some]) -/
theorem ok_law_bits {f : Addr} {fd : FuncData} (F : Fun K "_law_bits" "_law_bits" sLawBits f fd) (T : Bi mg) : FnOk P w K mg base CX0 1 f fd ["_law_some_here"] spBits := by
  refine F.ok scLawBits (fun vs H Q E h => ?_) (fun cdv A outer s H vs Q E hr h => ?_)
  · obtain ⟨a, b, rfl, _⟩ := h
    rfl
  · obtain ⟨a, b, rfl, ha, hb, q⟩ := h
    refine ⟨_, pss_one (ps_ret (pe_callB (cr_sum rfl) (by rfl) T.sum (by decide +kernel) (pa_cons (pe_lc (own := [("_law_number", 1)]) (g := gName 1) (tt := tYes) rfl scLawBits.nd (pi_tup (pv 0))
      (blkOk_by (N := ["_law_some_here", "_law_number"]) (sc := defScope sLawBits) (by decide +kernel)) (fun _ _ _ _ _ => pg_name (i := 1) scLawBits.nd rfl (Or.inl rfl)) (fun _ _ _ _ _ => pts_nil) (fun _ _ _ _ _ => pe_op op_shl pe_int (pv 1))) pa_nil))), ?_⟩
    refine ⟨_, rfl, a, rfl, ⟨_, SqT.of ha⟩, fun D nD => ?_⟩
    have s1 : Same H (upd H D (.lst [])) := same_upd nD
    refine lc_tup (K := K) (a := a) (xs := nls (tupOf b)) (fun i H2 => Same H H2 ∧ H2 D = some (.lst (((tupOf b).take i).map fun k => nV (2 ^ k)))) ⟨s1, upd_same⟩ (fun i H2 _ ⟨s2, _⟩ => SqT.of (s2 _ _ ha)) ?_ ?_
    · rintro i x H2 hi ⟨s2, hD⟩
      obtain ⟨k, e, rfl⟩ := nls_at hi
      have hk10 : k < 10 := (mem_upTo.mp (List.mem_of_getElem? e)).1
      refine ⟨rfl, _, rfl, _, _, rfl, rfl, ⟨by omega, by omega, by decide⟩, _, hD, ?_, fun c u ec => ?_, ?_⟩
      · rw [List.length_map, List.length_take]
        have := upTo_len 10 b
        exact small1000 (by unfold tupOf; omega)
      · rw [upd_ne (ne_of_none ec nD)]
        exact s2 _ _ ec
      · rw [upd_same, List.take_add_one, e, List.map_append]
        refine congrArg (fun z => some (HO.lst (((tupOf b).take i).map (fun k => nV (2 ^ k)) ++ [z]))) ?_
        exact congrArg V.int (one_shl k)
    · rintro H2 ⟨s2, hD⟩
      rw [take_nls] at hD
      refine ⟨D, (tupOf b).map fun k => ((2 ^ k : Nat) : Int), rfl, SqL.of ?_, ?_⟩
      · rw [hD, List.map_map]
        rfl
      · have e : ((tupOf b).map fun k => ((2 ^ k : Nat) : Int)).sum = ((((tupOf b).map fun k => 2 ^ k).sum : Nat) : Int) := by
          generalize tupOf b = l
          induction l with
          | nil => rfl
          | cons x r ih =>
            rw [List.map_cons, List.map_cons, List.sum_cons, List.sum_cons, ih]
            omega
        rw [e, tup_sum hb]
        exact q H2 s2
end
end Mk
namespace Mk
open PySem PySem.Spec PyProof.Rows L2 MkR
section
variable {P : Program} {w : World} {K : PySem.W.Frag} {mg : Str → Option Value} {base : Heap}
theorem ok_law_cell {f : Addr} {fd : FuncData} (F : Fun K "_law_cell_at" "_law_cell_at" sLawCellAt f fd) (T : Bi mg) : FnOk P w K mg base CX0 1 f fd ["_law_script", "_law_k"] (spCell K) := by
  refine F.ok scLawCellAt (fun vs H Q E h => ?_) (fun cdv A outer s H vs Q E hr h => ?_)
  · obtain ⟨a, ns, k, rfl, _⟩ := h
    rfl
  · obtain ⟨a, ns, k, rfl, ha, q⟩ := h
    refine ⟨_, pss_cons (ps_if (pt_cmpR op_lt (pv 1) (pe_callB call_len_seq (by rfl) T.len PySem.boot_len (pa_cons (pv 0) pa_nil)) (nomark _)) (pss_one (ps_ret (pe_ix ix_list (pv 0) (pv 1) (fun _ _ => rfl)))) pss_nil)
      (pss_one (ps_ret pe_int)), ?_⟩
    refine ⟨_, rfl, .ref a, rfl, a, _, rfl, .inl ha, _, _, rfl, rfl, _, rfl, ite2 (fun hb => ?_) (fun hb => ?_)⟩
    · have z : (k : Int) < ((ns.map V.int).length : Int) := of_decide_eq_true hb
      rw [List.length_map] at z
      have hk : k < ns.length := by omega
      have g : (ns.map V.int)[k]? = some (V.int ns[k]) := by
        rw [List.getElem?_map, List.getElem?_eq_getElem hk]
        rfl
      exact ⟨.ref a, rfl, _, rfl, a, _, (k : Int), _, rfl, rfl, ha, atI_nat g, q _⟩
    · exact q _
theorem ok_law_digit {f : Addr} {fd : FuncData} (F : Fun K "_law_digit" "_law_digit" sLawDigit f fd) : FnOk P w K mg base CX0 1 f fd ["_law_feed_here", "_law_many"] spDigit := by
  refine F.ok scLawDigit (fun vs H Q E h => ?_) (fun cdv A outer s H vs Q E hr h => ?_)
  · obtain ⟨a, x, y, m, rfl, _⟩ := h
    rfl
  · obtain ⟨a, x, y, m, rfl, ha, hm, hm2, q⟩ := h
    refine ⟨_, pss_cons (ps_if (pt_cmpR op_eq (pe_ix ix_list (pv 0) pe_int (fun _ _ => rfl)) pe_int (nomark _))
        (pss_cons (ps_asg (pe_ix ix_list (pv 0) pe_int (fun _ _ => rfl)) (pg_sub (pv 0) pe_int set_list))
        (pss_one (ps_asg pe_int (pg_sub (pv 0) pe_int set_list)))) pss_nil)
      (pss_cons (ps_set (i := 2) scLawDigit.nd rfl (.inl rfl) (pe_op op_mod (pe_ix ix_list (pv 0) pe_int (fun _ _ => rfl)) (pv 1)))
      (pss_cons (ps_asg (pe_op op_fdiv (pe_ix ix_list (pv 0) pe_int (fun _ _ => rfl)) (pv 1)) (pg_sub (pv 0) pe_int set_list))
      (pss_one (ps_ret (pv 2))))), ?_⟩
    have fin : ∀ (x y : Int) (H1 : Hp), H1 a = some (.lst [.int x, .int y]) → (∀ o, upd H1 a o = upd H a o) → ∀ r : Int, r = x % (m : Int) → Q (.int r) (upd H1 a (.lst ([V.int x, V.int y].set 0 (.int (x / (m : Int)))))) := by
      intro x y H1 h1 hu r hr
      have h0 : 0 ≤ x % (m : Int) := Int.emod_nonneg _ (by omega)
      have hl : x % (m : Int) < m := Int.emod_lt_of_pos _ (by omega)
      have e : V.int r = nV (x % (m : Int)).toNat := by
        rw [hr]
        refine congrArg V.int ?_
        omega
      rw [e, hu]
      exact q _ _ _ (by omega)
    refine ⟨.ref a, rfl, a, _, 0, .int x, rfl, rfl, SqL.of ha, atI_nat (j := 0) rfl, rfl, _, rfl, ite2 (fun hb => ?_) (fun hb => ?_)⟩
    · have u1 : (upd H a (.lst ([V.int x, V.int y].set 0 (.int y)))) a = some (.lst [.int y, .int y]) := upd_same
      have u2 : (upd (upd H a (.lst ([V.int x, V.int y].set 0 (.int y)))) a (.lst ([V.int y, V.int y].set 1 (.int 0)))) a = some (.lst [.int y, .int 0]) := upd_same
      refine ⟨.ref a, rfl, a, _, 1, .int y, rfl, rfl, SqL.of ha, atI_nat (j := 1) rfl, .ref a, rfl, a, _, 0, 0, rfl, rfl, ha, rfl, ?_⟩
      refine ⟨.ref a, rfl, a, _, 1, 1, rfl, rfl, u1, rfl, ?_⟩
      refine ⟨.ref a, rfl, a, _, 0, .int y, rfl, rfl, SqL.of u2, atI_nat (j := 0) rfl, _, rfl, _, _, rfl, rfl, by omega, ?_⟩
      refine ⟨.ref a, rfl, a, _, 0, .int y, rfl, rfl, SqL.of u2, atI_nat (j := 0) rfl, _, rfl, _, _, rfl, rfl, ⟨by omega, by omega⟩, .ref a, rfl, a, _, 0, 0, rfl, rfl, u2, rfl, _, rfl, ?_⟩
      exact fin y 0 _ u2 (fun o => by rw [upd_upd, upd_upd]) _ rfl
    · refine ⟨.ref a, rfl, a, _, 0, .int x, rfl, rfl, SqL.of ha, atI_nat (j := 0) rfl, _, rfl, _, _, rfl, rfl, by omega, ?_⟩
      refine ⟨.ref a, rfl, a, _, 0, .int x, rfl, rfl, SqL.of ha, atI_nat (j := 0) rfl, _, rfl, _, _, rfl, rfl, ⟨by omega, by omega⟩, .ref a, rfl, a, _, 0, 0, rfl, rfl, ha, rfl, _, rfl, ?_⟩
      exact fin x y _ ha (fun _ => rfl) _ rfl
theorem ok_law_feed {f : Addr} {fd : FuncData} (F : Fun K "_law_feed" "_law_feed" sLawFeed f fd) (T : Bi mg) : FnOk P w K mg base CX0 1 f fd ["_law_cell"] spFeed := by
  refine F.ok scLawFeed (fun vs H Q E h => ?_) (fun cdv A outer s H vs Q E hr h => ?_)
  · obtain ⟨c, rfl, _⟩ := h
    rfl
  · obtain ⟨c, rfl, q⟩ := h
    refine ⟨_, pss_cons (ps_set (i := 1) scLawFeed.nd rfl (.inl rfl) pe_int)
      (pss_cons (ps_set (i := 2) scLawFeed.nd rfl (.inl rfl) (pe_op op_add (pe_op op_mod (pe_op op_fdiv (pv 0) pe_int) pe_int) pe_int))
      (pss_cons (ps_set (i := 3) scLawFeed.nd rfl (.inl rfl) (pe_op op_add (pe_op op_mod (pe_op op_fdiv (pv 0) pe_int) pe_int) pe_int))
      (pss_cons (ps_for PassesOwn.never rfl (pi_range1 rfl T.range (pa_cons pe_int pa_nil)) (pg_name (i := 4) scLawFeed.nd rfl (.inl rfl))
        (pss_cons (ps_set (i := 2) scLawFeed.nd rfl (.inl rfl) (pe_op op_mod (pe_op op_add (pe_op op_add (pe_op op_mul (pv 2) (pv 2)) (pe_op op_mul pe_int (pv 3))) (pv 4)) pe_int))
        (pss_cons (ps_set (i := 3) scLawFeed.nd rfl (.inl rfl) (pe_op op_mod (pe_op op_add (pe_op op_add (pe_op op_mul (pv 3) (pv 3)) (pe_op op_mul pe_int (pv 2))) pe_int) pe_int))
        (pss_one (ps_set (i := 1) scLawFeed.nd rfl (.inl rfl) (pe_op op_add (pe_op op_mul (pv 1) pe_int) (pv 3)))))))
      (pss_cons (ps_if (pt_cmpR op_eq (pe_op op_mod (pv 0) pe_int) pe_int (nomark _)) (pss_one (ps_ret (pe_lst (pa_cons (pe_op op_fdiv (pv 0) pe_int) (pa_cons (pv 1) pa_nil))))) pss_nil)
      (pss_one (ps_ret (pe_lst (pa_cons (pv 1) (pa_cons pe_int pa_nil))))))))), ?_⟩
    have m1 : ∀ x : Int, 0 ≤ x % 2147483647 ∧ x % 2147483647 < 2147483647 := fun x => ⟨Int.emod_nonneg _ (by decide), Int.emod_lt_of_pos _ (by decide)⟩
    have m2 : ∀ x : Int, 0 ≤ x % 2147483629 ∧ x % 2147483629 < 2147483629 := fun x => ⟨Int.emod_nonneg _ (by decide), Int.emod_lt_of_pos _ (by decide)⟩
    refine ⟨_, rfl, _, _, rfl, rfl, ⟨by decide, by decide⟩, _, _, rfl, rfl, (by show (0 : Int) < 2147483647; decide), _, _, rfl, rfl, ?_⟩
    refine ⟨_, rfl, _, _, rfl, rfl, ⟨by decide, by decide⟩, _, _, rfl, rfl, (by show (0 : Int) < 2147483629; decide), _, _, rfl, rfl, ?_⟩
    refine ⟨40, rfl, by decide, by decide, for_range (lo := 0) (n := 40) (fun i σ H2 => ∃ (big one other : Int) (v : Option V), σ = [some (.int c), some (.int big), some (.int one), some (.int other), v] ∧ H2 = H ∧ 0 ≤ one ∧ one < 3000000000 ∧ 0 ≤ other ∧ other < 3000000000)
      ⟨0, _, _, none, rfl, rfl, ?_, ?_, ?_, ?_⟩ ?_ ?_⟩
    · have := m1 (c / 2)
      show 0 ≤ c / 2 % 2147483647 + 11
      omega
    · have := m1 (c / 2)
      show c / 2 % 2147483647 + 11 < 3000000000
      omega
    · have := m2 (c / 3)
      show 0 ≤ c / 3 % 2147483629 + 7
      omega
    · have := m2 (c / 3)
      show c / 3 % 2147483629 + 7 < 3000000000
      omega
    · rintro i σ H2 hi ⟨big, one, other, v, rfl, rfl, o1, o2, t1, t2⟩
      refine ⟨_, rfl, _, rfl, _, _, rfl, rfl, .inl ⟨by omega, by omega⟩, _, rfl, _, _, rfl, rfl, .inl ⟨by decide, by decide⟩, _, _, rfl, rfl, _, rfl, _, _, rfl, rfl, _, _, rfl, rfl, (by show (0 : Int) < 2147483647; decide), ?_⟩
      have a1 := m1 (one * one + 48271 * other + (0 + (i : Int)))
      refine ⟨_, rfl, _, rfl, _, _, rfl, rfl, .inl ⟨by omega, by omega⟩, _, rfl, _, _, rfl, rfl, .inl ⟨by decide, by decide⟩, _, _, rfl, rfl, _, _, rfl, rfl, _, _, rfl, rfl, (by show (0 : Int) < 2147483629; decide), ?_⟩
      refine ⟨_, rfl, _, _, rfl, rfl, .inr ⟨by decide, by decide⟩, _, rfl, _, _, rfl, rfl, ?_⟩
      have a2 := m2 (other * other + 69621 * ((one * one + 48271 * other + (0 + (i : Int))) % 2147483647) + 1)
      refine ⟨_, _, _, _, rfl, rfl, a1.1, ?_, a2.1, ?_⟩
      · exact Int.lt_trans a1.2 (by decide)
      · exact Int.lt_trans a2.2 (by decide)
    · rintro σ H2 ⟨big, one, other, v, rfl, rfl, _⟩
      refine ⟨_, rfl, _, _, rfl, rfl, (by show (0 : Int) < 2; decide), rfl, _, rfl, ite2 (fun hb => ?_) (fun hb => ?_)⟩
      · refine ⟨_, rfl, _, _, rfl, rfl, ⟨by decide, by decide⟩, _, rfl, (by show 2 ≤ sizeLine; decide), fun l nl => ?_⟩
        exact q _ l _ _ (same_upd nl) nl upd_same
      · refine ⟨_, rfl, (by show 2 ≤ sizeLine; decide), fun l nl => ?_⟩
        exact q _ l _ _ (same_upd nl) nl upd_same
end
end Mk
namespace Mk
open PySem PySem.Spec PyProof.Rows L2 MkR
/-- the elders made so far -/
structure Made (H : Hp) (L : Addr) (as : List Addr) (es : List (List Nat)) : Prop where
  lst : H L = some (.lst (as.map V.ref))
  len : as.length = es.length
  at_ : ∀ (j : Nat) (s : List Nat) (c : Addr), es[j]? = some s → as[j]? = some c → H c = some (.tup (nls s))
theorem Made.keep {H H' : Hp} {L : Addr} {as : List Addr} {es : List (List Nat)} (m : Made H L as es) (k : ∀ c o, H c = some o → (∃ xs, o = .tup xs) ∨ c = L → H' c = some o) : Made H' L as es :=
  ⟨k _ _ m.lst (.inr rfl), m.len, fun j s c e1 e2 => k _ _ (m.at_ j s c e1 e2) (.inl ⟨_, rfl⟩)⟩
theorem Made.snoc {H H' : Hp} {L t : Addr} {as : List Addr} {es : List (List Nat)} {s : List Nat} (m : Made H L as es) (hl : H' L = some (.lst (as.map V.ref ++ [V.ref t]))) (ht : H' t = some (.tup (nls s)))
    (k : ∀ c xs, H c = some (.tup xs) → H' c = some (.tup xs)) : Made H' L (as ++ [t]) (es ++ [s]) := by
  refine ⟨by rw [hl, List.map_append]; rfl, by simp [m.len], fun j s' c e1 e2 => ?_⟩
  have hlen := m.len
  by_cases hj : j < as.length
  · rw [List.getElem?_append_left hj] at e2
    rw [List.getElem?_append_left (by omega)] at e1
    exact k _ _ (m.at_ j s' c e1 e2)
  · have ej : j = as.length := by
      have := (List.getElem?_eq_some_iff.mp e2).1
      rw [List.length_append, List.length_singleton] at this
      omega
    subst ej
    rw [List.getElem?_append_right (Nat.le_refl _), Nat.sub_self] at e2
    rw [hlen, List.getElem?_append_right (Nat.le_refl _), Nat.sub_self] at e1
    have ea : t = c := Option.some.inj e2
    have ep : s = s' := Option.some.inj e1
    rw [← ea, ← ep]
    exact ht
theorem wf_snoc {es : List (List Nat)} {s : List Nat} (h : Wf es) (hs : ∀ k ∈ s, k < es.length) : Wf (es ++ [s]) := by
  intro k s' e x hx
  by_cases hk : k < es.length
  · rw [List.getElem?_append_left hk] at e
    exact h k s' e x hx
  · have ek : k = es.length := by
      have := (List.getElem?_eq_some_iff.mp e).1
      rw [List.length_append, List.length_singleton] at this
      omega
    subst ek
    rw [List.getElem?_append_right (Nat.le_refl _), Nat.sub_self] at e
    have ep : s = s' := Option.some.inj e
    rw [← ep] at hx
    exact hs x hx
section
variable {P : Program} {w : World} {K : PySem.W.Frag} {mg : Str → Option Value} {base : Heap}
theorem ok_law_elders {f : Addr} {fd : FuncData} (F : Fun K "_law_elders" "_law_elders" sLawElders f fd) (T : Bi mg) (cD : Cal P w K mg base 1 "_law_digit" ["_law_feed_here", "_law_many"] spDigit) :
    FnOk P w K mg base CX0 2 f fd ["_law_feed_here"] spElders := by
  refine F.ok scLawElders (fun vs H Q E h => ?_) (fun cdv A outer s H vs Q E hr h => ?_)
  · obtain ⟨a, x, y, rfl, _⟩ := h
    rfl
  · obtain ⟨a, x, y, rfl, ha, q⟩ := h
    refine ⟨_, pss_cons (ps_set (i := 1) scLawElders.nd rfl (.inl rfl) (pe_op op_add pe_int (pe_cal cD hr (pa_cons (pv 0) (pa_cons pe_int pa_nil)))))
      (C8.pss_cut (ps_if (pt_cmpR op_eq (pe_cal cD hr (pa_cons (pv 0) (pa_cons pe_int pa_nil))) pe_int (nomark _)) (pss_one (ps_set (i := 1) scLawElders.nd rfl (.inl rfl) pe_int)) pss_nil)
      (pss_cons (ps_set (i := 2) scLawElders.nd rfl (.inl rfl) (pe_op op_add pe_int (pe_cal cD hr (pa_cons (pv 0) (pa_cons pe_int pa_nil)))))
      (pss_cons (ps_set (i := 3) scLawElders.nd rfl (.inl rfl) (pe_lst pa_nil))
      (pss_cons (ps_for PassesOwn.never rfl (pi_range1 rfl T.range (pa_cons (pv 1) pa_nil)) (pg_name (i := 4) scLawElders.nd rfl (.inl rfl))
        (pss_cons (ps_set (i := 5) scLawElders.nd rfl (.inl rfl) (pe_lst pa_nil))
        (C8.pss_cut (ps_for PassesOwn.never rfl (pi_range1 rfl T.range (pa_cons (pv 4) pa_nil)) (pg_name (i := 6) scLawElders.nd rfl (.inl rfl))
          (pss_one (ps_if (pt_cmpR op_eq (pe_cal cD hr (pa_cons (pv 0) (pa_cons (pe_op op_mul pe_int (pv 2)) pa_nil))) pe_int (nomark _))
            (pss_one (ps_expr (pe_bm PySem.F.plainAttrs_list PySem.F.slot_list_append PySem.F.type_list_append mt_append (pv 5) (pa_cons (pv 6) pa_nil)))) pss_nil)))
        (C8.pss_cut (ps_if (pt_cmpR op_eq (pe_cal cD hr (pa_cons (pv 0) (pa_cons pe_int pa_nil))) pe_int (nomark _)) (pss_one (ps_set (i := 5) scLawElders.nd rfl (.inl rfl) (pe_revL (pv 5)))) pss_nil)
        (pss_one (ps_expr (pe_bm PySem.F.plainAttrs_list PySem.F.slot_list_append PySem.F.type_list_append mt_append (pv 3) (pa_cons (pe_callTy call_tuple_of (by rfl) T.tuple (by decide +kernel) (pa_cons (pv 5) pa_nil)) pa_nil))))))))
      (pss_one (ps_ret (pe_callTy call_tuple_of (by rfl) T.tuple (by decide +kernel) (pa_cons (pv 3) pa_nil)))))))), ?_⟩
    -- many = 1 + digit(feed, 7)
    refine ⟨.ref a, rfl, a, x, y, 7, rfl, ha, by decide, by decide, fun r1 x1 y1 h1 => ⟨_, _, rfl, rfl, ?_⟩⟩
    -- if digit(feed, 16) == 5: many = 10
    refine ⟨fun σ H2 => ∃ (m : Nat) (x y : Int), σ = [some (.ref a), some (nV m), none, none, none, none, none] ∧ 1 ≤ m ∧ m ≤ 10 ∧ But a H H2 ∧ H2 a = some (.lst [.int x, .int y]), ?_, ?_⟩
    · refine ⟨.ref a, rfl, a, x1, y1, 16, rfl, upd_same, by decide, by decide, fun r2 x2 y2 h2 => ⟨rfl, _, rfl, ite2 (fun _ => ?_) (fun _ => ?_)⟩⟩
      · exact ⟨10, x2, y2, rfl, by omega, by omega, but_upd.trans but_upd, upd_same⟩
      · refine ⟨1 + r1, x2, y2, ?_, by omega, by omega, but_upd.trans but_upd, upd_same⟩
        refine congrArg (fun z => [some (V.ref a), some z, none, none, none, none, none]) ?_
        exact congrArg V.int (Int.natCast_add 1 r1).symm
    · rintro σ H2 ⟨m, x2, y2, rfl, m1, m10, b2, ha2⟩
      -- dense, elders_here
      refine ⟨.ref a, rfl, a, x2, y2, 3, rfl, ha2, by decide, by decide, fun r3 x3 y3 h3 => ⟨_, _, rfl, rfl, ?_⟩⟩
      refine ⟨Nat.zero_le _, fun L nL => ?_⟩
      have b3 : But a H (upd (upd H2 a (.lst [.int x3, .int y3])) L (.lst [])) := fun c o n e => by
        rw [upd_ne (ne_of_none (but_upd c o n (b2 c o n e)) nL)]
        exact but_upd c o n (b2 c o n e)
      have nLa : a ≠ L := ne_of_none upd_same nL
      have nLH : ∀ c o, c ≠ a → H c = some o → c ≠ L := fun c o n e z => by
        subst z
        rw [but_upd _ o n (b2 _ o n e)] at nL
        cases nL
      refine ⟨_, rfl, (m : Int), rfl, by omega, by omega, for_range (lo := 0) (n := m)
        (fun i σ H3 => ∃ (x y : Int) (v4 v5 v6 : Option V) (as : List Addr) (es : List (List Nat)), σ = [some (.ref a), some (nV m), some (.int (1 + (r3 : Int))), some (.ref L), v4, v5, v6] ∧ But a H H3 ∧ H3 a = some (.lst [.int x, .int y]) ∧
          Made H3 L as es ∧ es.length = i ∧ Wf es)
        ⟨x3, y3, none, none, none, [], [], rfl, b3, by rw [upd_ne nLa, upd_same], ⟨upd_same, rfl, fun j s c e _ => by simp at e⟩, rfl, fun k s e => by simp at e⟩ ?_ ?_⟩
      · rintro i σ H3 hi ⟨x4, y4, v4, v5, v6, as, es, rfl, b4, ha4, M4, el, wf⟩
        rw [Int.zero_add]
        -- some_here = []
        refine ⟨Nat.zero_le _, fun S nS => ?_⟩
        have nSa : a ≠ S := ne_of_none ha4 nS
        have nSL : L ≠ S := ne_of_none M4.lst nS
        refine ⟨fun σ H5 => ∃ (x y : Int) (v6 : Option V) (l : List Nat), σ = [some (.ref a), some (nV m), some (.int (1 + (r3 : Int))), some (.ref L), some (nV i), some (.ref S), v6] ∧ But a H H5 ∧ H5 a = some (.lst [.int x, .int y]) ∧
          Made H5 L as es ∧ H5 S = some (.lst (nls l)) ∧ l.length ≤ i ∧ ∀ k ∈ l, k < i, ?_, ?_⟩
        · refine ⟨_, rfl, (i : Int), rfl, by omega, by omega, for_range (lo := 0) (n := i)
            (fun j σ H5 => ∃ (x y : Int) (v6 : Option V) (l : List Nat), σ = [some (.ref a), some (nV m), some (.int (1 + (r3 : Int))), some (.ref L), some (nV i), some (.ref S), v6] ∧ But a H H5 ∧ H5 a = some (.lst [.int x, .int y]) ∧
              Made H5 L as es ∧ H5 S = some (.lst (nls l)) ∧ l.length ≤ j ∧ ∀ k ∈ l, k < i)
            ⟨x4, y4, v6, [], rfl, fun c o n e => ?_, by rw [upd_ne nSa]; exact ha4, M4.keep fun c o e _ => ?_, upd_same, Nat.le_refl _, fun k hk => by cases hk⟩ ?_ ?_⟩
          · rw [upd_ne (ne_of_none (b4 c o n e) nS)]
            exact b4 c o n e
          · rw [upd_ne (ne_of_none e nS)]
            exact e
          · rintro j σ H5 hj ⟨x5, y5, v6, l, rfl, b5, ha5, M5, hS5, hl, hk⟩
            rw [Int.zero_add]
            refine ⟨.ref a, rfl, _, rfl, _, _, rfl, rfl, .inl ⟨by omega, by omega⟩, a, x5, y5, 2 * (1 + r3), ?_, ha5, by omega, by omega, fun r6 x6 y6 h6 => ⟨rfl, _, rfl, ?_⟩⟩
            · show [V.ref a, V.int (2 * (1 + (r3 : Int)))] = [V.ref a, V.int (((2 * (1 + r3) : Nat)) : Int)]
              have : (2 * (1 + (r3 : Int))) = (((2 * (1 + r3) : Nat)) : Int) := by omega
              rw [this]
            · have hS6 : (upd H5 a (.lst [.int x6, .int y6])) S = some (.lst (nls l)) := by
                rw [upd_ne nSa.symm]
                exact hS5
              have M6 : Made (upd H5 a (.lst [.int x6, .int y6])) L as es := M5.keep fun c o e hc => by
                rw [upd_ne]
                · exact e
                · rcases hc with ⟨xs, rfl⟩ | rfl
                  · exact ne_of e ha5 (by intro z; cases z)
                  · exact nLa.symm
              refine ite2 (fun _ => ?_) (fun _ => ?_)
              · refine ⟨.ref S, rfl, .inl ⟨rfl, _, .inl (.inl hS6)⟩, _, rfl, S, _, _, rfl, rfl, hS6, ?_, ?_⟩
                · rw [nls_len]
                  exact small1000 (by omega)
                · refine ⟨x6, y6, _, l ++ [j], rfl, fun c o n e => ?_, ?_, ?_, ?_, ?_, ?_⟩
                  · have := b5 c o n e
                    rw [upd_ne (ne_of_none' ?_ (b4 c o n e)).symm]
                    · exact but_upd c o n this
                    · exact nS
                  · rw [upd_ne nSa, upd_same]
                  · refine M6.keep fun c o e hc => ?_
                    rw [upd_ne]
                    · exact e
                    · rcases hc with ⟨xs, rfl⟩ | rfl
                      · exact ne_of e hS6 (by intro z; cases z)
                      · exact nSL
                  · rw [upd_same, nls_app]
                    rfl
                  · rw [List.length_append, List.length_singleton]
                    omega
                  · intro k hk2
                    rcases List.mem_append.mp hk2 with z | z
                    · exact hk k z
                    · rw [Iff.mp List.mem_singleton z]
                      exact hj
              · exact ⟨x6, y6, _, l, rfl, b5.trans but_upd, upd_same, M6, hS6, by omega, hk⟩
          · rintro σ H5 ⟨x5, y5, v6, l, rfl, b5, ha5, M5, hS5, hl, hk⟩
            exact ⟨x5, y5, v6, l, rfl, b5, ha5, M5, hS5, hl, hk⟩
        · rintro σ H5 ⟨x5, y5, v6, l, rfl, b5, ha5, M5, hS5, hl, hk⟩
          -- if digit(feed, 2) == 1: some_here = some_here[::-1]
          refine ⟨fun σ H7 => ∃ (x y : Int) (S2 : Addr) (l2 : List Nat), σ = [some (.ref a), some (nV m), some (.int (1 + (r3 : Int))), some (.ref L), some (nV i), some (.ref S2), v6] ∧ But a H H7 ∧ H7 a = some (.lst [.int x, .int y]) ∧
            Made H7 L as es ∧ H7 S2 = some (.lst (nls l2)) ∧ ∀ k ∈ l2, k < i, ?_, ?_⟩
          · refine ⟨.ref a, rfl, a, x5, y5, 2, rfl, ha5, by decide, by decide, fun r6 x6 y6 h6 => ⟨rfl, _, rfl, ?_⟩⟩
            have hS6 : (upd H5 a (.lst [.int x6, .int y6])) S = some (.lst (nls l)) := by
              rw [upd_ne nSa.symm]
              exact hS5
            have M6 : Made (upd H5 a (.lst [.int x6, .int y6])) L as es := M5.keep fun c o e hc => by
              rw [upd_ne]
              · exact e
              · rcases hc with ⟨xs, rfl⟩ | rfl
                · exact ne_of e ha5 (by intro z; cases z)
                · exact nLa.symm
            refine ite2 (fun _ => ?_) (fun _ => ?_)
            · refine ⟨.ref S, rfl, S, _, rfl, SqL.of hS6, fun S2 nS2 => ?_⟩
              refine ⟨x6, y6, S2, l.reverse, rfl, fun c o n e => ?_, ?_, M6.keep fun c o e _ => ?_, ?_, fun k hk2 => hk k (List.mem_reverse.mp hk2)⟩
              · have z := but_upd (o := HO.lst [.int x6, .int y6]) c o n (b5 c o n e)
                rw [upd_ne (ne_of_none z nS2)]
                exact z
              · rw [upd_ne (ne_of_none upd_same nS2), upd_same]
              · rw [upd_ne (ne_of_none e nS2)]
                exact e
              · rw [upd_same]
                unfold nls
                rw [List.map_reverse]
            · exact ⟨x6, y6, S, l, rfl, b5.trans but_upd, upd_same, M6, hS6, hk⟩
          · rintro σ H7 ⟨x7, y7, S2, l2, rfl, b7, ha7, M7, hS7, hk7⟩
            -- elders_here.append(tuple(some_here))
            refine ⟨.ref L, rfl, .inl ⟨rfl, _, .inl (.inl M7.lst)⟩, .ref S2, rfl, S2, _, rfl, .inl ⟨SqL.of hS7, fun t nt => ?_⟩⟩
            have hL8 : (upd H7 t (.tup (nls l2))) L = some (.lst (as.map V.ref)) := by
              rw [upd_ne (ne_of_none M7.lst nt)]
              exact M7.lst
            have ntL : t ≠ L := ne_of_none' nt M7.lst
            refine ⟨L, _, _, rfl, rfl, hL8, ?_, ?_⟩
            · rw [List.length_map, M7.len, el]
              exact small1000 (by omega)
            · refine ⟨x7, y7, _, _, _, as ++ [t], es ++ [l2], rfl, fun c o n e => ?_, ?_, M7.snoc (s := l2) ?_ ?_ fun c xs e => ?_, ?_, wf_snoc wf (by rw [el]; exact hk7)⟩
              · have z := b7 c o n e
                rw [upd_ne (nLH c o n e), upd_ne (ne_of_none z nt)]
                exact z
              · rw [upd_ne nLa, upd_ne (ne_of_none ha7 nt)]
                exact ha7
              · rw [upd_same]
              · rw [upd_ne ntL, upd_same]
              · rw [upd_ne (ne_of e M7.lst (by intro z; cases z)), upd_ne (ne_of_none e nt)]
                exact e
              · rw [List.length_append, List.length_singleton, el]
      · rintro σ H3 ⟨x4, y4, v4, v5, v6, as, es, rfl, b4, ha4, M4, el, wf⟩
        refine ⟨.ref L, rfl, L, _, rfl, .inl ⟨SqL.of M4.lst, fun e ne => ?_⟩⟩
        refine q _ e es (fun c o n z => ?_) ⟨as, upd_same, M4.len, fun j s c e1 e2 => ?_⟩ wf (by omega) (by omega)
        · rw [upd_ne (ne_of_none (b4 c o n z) ne)]
          exact b4 c o n z
        · rw [upd_ne (ne_of_none (M4.at_ j s c e1 e2) ne)]
          exact M4.at_ j s c e1 e2
end
end Mk
namespace Mk
open PySem PySem.Spec PyProof.Rows L2 MkR
section
variable {P : Program} {w : World} {K : PySem.W.Frag} {mg : Str → Option Value} {base : Heap}
theorem bit_mod (b n : Nat) : ((b : Int) / 2 ^ ((n : Int).toNat)) % 2 = ((b / 2 ^ n % 2 : Nat) : Int) := by
  rw [shr_nn, Nat.shiftRight_eq_div_pow]
  generalize b / 2 ^ n = d
  omega
theorem shl_one (m : Nat) (h : 1 ≤ m) : (1 : Int) * 2 ^ ((m : Int).toNat) - 1 = ((2 ^ m - 1 : Nat) : Int) := by
  rw [one_shl]
  have := Nat.two_pow_pos m
  omega
theorem ok_law_some {f : Addr} {fd : FuncData} (F : Fun K "_law_some" "_law_some" sLawSome f fd) (T : Bi mg) (cD : Cal P w K mg base 1 "_law_digit" ["_law_feed_here", "_law_many"] spDigit) :
    FnOk P w K mg base CX0 2 f fd ["_law_feed_here", "_law_many"] spSome := by
  refine F.ok scLawSome (fun vs H Q E h => ?_) (fun cdv A outer s H vs Q E hr h => ?_)
  · obtain ⟨a, x, y, m, rfl, _⟩ := h
    rfl
  · obtain ⟨a, x, y, m, rfl, ha, m1, m10, q⟩ := h
    have hp : 2 ≤ 2 ^ m := by
      have := Nat.pow_le_pow_right (n := 2) (by decide) m1
      exact this
    have hp2 : 2 ^ m ≤ 1024 := Nat.pow_le_pow_right (n := 2) (j := 10) (by decide) m10
    refine ⟨_, pss_cons (ps_set (i := 2) scLawSome.nd rfl (.inr rfl) (pe_op op_add pe_int (pe_cal cD hr (pa_cons (pv 0) (pa_cons (pe_op op_sub (pe_op op_shl pe_int (pv 1)) pe_int) pa_nil)))))
      (C8.pss_cut (ps_if (pt_cmpR op_eq (pe_cal cD hr (pa_cons (pv 0) (pa_cons pe_int pa_nil))) pe_int (nomark _)) (pss_one (ps_set (i := 2) scLawSome.nd rfl (.inr rfl) (pe_op op_sub (pe_op op_shl pe_int (pv 1)) pe_int))) pss_nil)
      (pss_one (ps_ret (pe_callTy call_tuple_of (by rfl) T.tuple (by decide +kernel) (pa_cons (pe_lc (own := [("_law_number", 3)]) (g := gName 3) rfl scLawSome.nd (pi_range1 rfl T.range (pa_cons (pv 1) pa_nil))
        (blkOk_by (N := ["_law_feed_here", "_law_many", "_law_bits_here", "_law_number"]) (sc := defScope sLawSome) (by decide +kernel)) (fun _ _ _ _ _ => pg_name (i := 3) scLawSome.nd rfl (Or.inl rfl))
        (fun _ _ _ _ _ => pts_one (pt_cmpR op_eq (pe_op op_mod (pe_op op_shr (pv 2) (pv 3)) pe_int) pe_int (nomark _))) (fun _ _ _ _ _ => pv 3)) pa_nil))))), ?_⟩
    refine ⟨.ref a, rfl, _, rfl, _, _, rfl, rfl, ⟨by omega, by omega, by decide⟩, _, _, rfl, rfl, a, x, y, 2 ^ m - 1, ?_, ha, by omega, by omega, fun r1 x1 y1 h1 => ⟨_, _, rfl, rfl, ?_⟩⟩
    · exact congrArg (fun z => [V.ref a, V.int z]) (shl_one m m1)
    refine ⟨fun σ H2 => ∃ (b : Nat) (x y : Int), σ = [some (.ref a), some (nV m), some (nV b), none] ∧ 0 < b ∧ b < 2 ^ m ∧ But a H H2, ?_, ?_⟩
    · refine ⟨.ref a, rfl, a, x1, y1, 4, rfl, upd_same, by decide, by decide, fun r2 x2 y2 h2 => ⟨rfl, _, rfl, ite2 (fun _ => ?_) (fun _ => ?_)⟩⟩
      · refine ⟨_, rfl, _, _, rfl, rfl, ⟨by omega, by omega, by decide⟩, _, _, rfl, rfl, 2 ^ m - 1, x2, y2, ?_, by omega, by omega, but_upd.trans but_upd⟩
        refine congrArg (fun z => [some (V.ref a), some (nV m), some z, none]) ?_
        exact congrArg V.int (shl_one m m1)
      · refine ⟨1 + r1, x2, y2, ?_, by omega, by omega, but_upd.trans but_upd⟩
        refine congrArg (fun z => [some (V.ref a), some (nV m), some z, none]) ?_
        exact congrArg V.int (Int.natCast_add 1 r1).symm
    · rintro σ H2 ⟨b, x2, y2, rfl, b0, b1, b2⟩
      refine ⟨_, rfl, (m : Int), rfl, by omega, by omega, fun D nD => ?_⟩
      have s1 : Same H2 (upd H2 D (.lst [])) := same_upd nD
      refine lc_range (lo := 0) (n := m) (fun i H3 => Same H2 H3 ∧ H3 D = some (.lst (nls (upTo i b)))) ⟨s1, upd_same⟩ ?_ ?_
      · rintro i H3 hi ⟨s3, hD⟩
        rw [Int.zero_add]
        refine ⟨rfl, _, rfl, _, rfl, _, _, rfl, rfl, by omega, _, _, rfl, rfl, (by show (0 : Int) < 2; decide), rfl, _, rfl, ite2 (fun hb => ?_) (fun hb => ?_)⟩
        · have z : V.int (((b : Int) / 2 ^ ((i : Int).toNat)) % 2) = V.int 1 := of_decide_eq_true hb
          rw [bit_mod, bit_iff] at z
          refine ⟨_, rfl, _, hD, ?_, fun c u ec => ?_, ?_⟩
          · rw [nls_len]
            have := upTo_len i b
            exact small1000 (by omega)
          · rw [upd_ne (ne_of_none ec nD)]
            exact s3 _ _ ec
          · rw [upd_same, upTo_succ, if_pos z, nls_app]
            rfl
        · have z : ¬ V.int (((b : Int) / 2 ^ ((i : Int).toNat)) % 2) = V.int 1 := fun z => hb (decide_eq_true z)
          rw [bit_mod, bit_iff] at z
          refine ⟨s3, ?_⟩
          rw [upTo_succ, if_neg z, List.append_nil]
          exact hD
      · rintro H3 ⟨s3, hD⟩
        refine ⟨D, _, rfl, .inl ⟨SqL.of hD, fun l nl => ?_⟩⟩
        refine q _ l b (b2.trans (Same.but (s3.trans (same_upd nl)) a)) ?_ b0 b1
        rw [upd_same]
        exact congrArg (fun z => some (HO.tup (nls z))) (upTo_eq b1 (by omega))
theorem ok_law_chosen {f : Addr} {fd : FuncData} (F : Fun K "_law_chosen" "_law_chosen" sLawChosen f fd) (T : Bi mg) (cD : Cal P w K mg base 1 "_law_digit" ["_law_feed_here", "_law_many"] spDigit) :
    FnOk P w K mg base CX0 2 f fd ["_law_lines_here", "_law_bits_here", "_law_feed_here"] spChosen := by
  refine F.ok scLawChosen (fun vs H Q E h => ?_) (fun cdv A outer s H vs Q E hr h => ?_)
  · obtain ⟨l, a, ls, b, x, y, rfl, _⟩ := h
    rfl
  · obtain ⟨l, a, ls, b, x, y, rfl, hl, hl10, ha, hne, q⟩ := h
    refine ⟨_, pss_cons (ps_setLc (i := 3) (own := [("_law_line", 4)]) (g := gName 4) rfl scLawChosen.nd rfl rfl (sw_true rfl rfl rfl (by decide +kernel)) (pi_list (pv 0))
        (blkOk_by (N := ["_law_lines_here", "_law_bits_here", "_law_feed_here", "_law_some_here", "_law_line"]) (sc := defScope sLawChosen) (by decide +kernel)) (fun _ _ _ _ _ => pg_name (i := 4) scLawChosen.nd rfl (Or.inl rfl))
        (fun _ _ _ _ _ => pts_one (PW.pt (pw_and (pt_cmpR op_ne (pe_op op_and (pv 1) (pv 4)) pe_int (nomark _)) (pw_and1 (pt_cmpR op_ne (pe_op op_and (pv 1) (pv 4)) (pv 1) (nomark _)))))) (fun _ _ _ _ _ => pv 4))
      (pss_one (ps_ret (pe_ix ix_list (pv 3) (pe_cal cD hr (pa_cons (pv 2) (pa_cons (pe_callB call_len_seq (by rfl) T.len PySem.boot_len (pa_cons (pv 3) pa_nil)) pa_nil))) (fun _ _ => rfl)))), ?_⟩
    refine ⟨.ref l, rfl, l, rfl, ⟨_, SqL.of hl⟩, fun D nD => ?_⟩
    have s1 : Same H (upd H D (.lst [])) := same_upd nD
    refine lc_list (K := K) (a := l) (xs := nls ls) (fun i H2 => Same H H2 ∧ H2 D = some (.lst ((partsTo ls b i).map fun q => nV (ls.getD q.1 0)))) ⟨s1, upd_same⟩ (fun i H2 _ ⟨s2, _⟩ => SqL.of (s2 _ _ hl)) ?_ ?_
    · rintro i x0 H2 hi ⟨s2, hD⟩
      obtain ⟨k, e, rfl⟩ := nls_at hi
      have hil : i < ls.length := (List.getElem?_eq_some_iff.mp e).1
      have ek : k = ls.getD i 0 := by
        rw [getD_at hil] at e
        exact (Option.some.inj e).symm
      subst ek
      have no : part1 ls b i = none → Same H H2 ∧ H2 D = some (.lst ((partsTo ls b (i + 1)).map fun q => nV (ls.getD q.1 0))) := fun hn => by
        rw [partsTo_succ, hn, Option.toList_none, List.append_nil]
        exact ⟨s2, hD⟩
      refine ⟨rfl, _, rfl, _, rfl, _, _, rfl, rfl, rfl, _, rfl, ?_⟩
      show if (!decide (V.int (Builtin.bitAnd (b : Int) (ls.getD i 0 : Int)) = V.int 0)) = true then _ else _
      rw [and_nV]
      by_cases c1 : b &&& ls.getD i 0 = 0
      · rw [c1]
        refine iteNS rfl ?_
        exact no (by unfold part1; rw [if_neg (fun z => z.1 c1)])
      · have d1 : ¬ nV (b &&& ls.getD i 0) = V.int 0 := fun z => c1 (nV_inj (b := 0) z)
        refine iteNS' d1 ?_
        refine ⟨_, rfl, _, rfl, _, _, rfl, rfl, _, rfl, rfl, _, rfl, ?_⟩
        show if (!decide (V.int (Builtin.bitAnd (b : Int) (ls.getD i 0 : Int)) = nV b)) = true then _ else _
        rw [and_nV]
        by_cases c2 : b &&& ls.getD i 0 = b
        · refine iteNS (congrArg nV c2) ?_
          exact no (by unfold part1; rw [if_neg (fun z => z.2 c2)])
        · refine iteNS' (fun z => c2 (nV_inj z)) ?_
          have hq : part1 ls b i = some (i, b &&& ls.getD i 0, b - (b &&& ls.getD i 0)) := by
            unfold part1
            rw [if_pos ⟨c1, c2⟩]
          refine ⟨_, rfl, _, hD, ?_, fun c u ec => ?_, ?_⟩
          · rw [List.length_map]
            have := partsTo_len ls b i
            exact small1000 (by omega)
          · rw [upd_ne (ne_of_none ec nD)]
            exact s2 _ _ ec
          · rw [upd_same, partsTo_succ, hq, List.map_append]
            rfl
    · rintro H2 ⟨s2, hD⟩
      rw [nls_len] at hD
      have nDa : a ≠ D := ne_of_none ha nD
      have hlen : 0 < ((partsTo ls b ls.length).map fun q => nV (ls.getD q.1 0)).length := by
        rw [List.length_map]
        exact List.length_pos_iff.2 hne
      refine ⟨.ref D, rfl, .ref a, rfl, .ref D, rfl, D, _, rfl, .inl (SqL.of hD), a, x, y, _, rfl, s2 _ _ ha, hlen, ?_, fun r x' y' hr' => ?_⟩
      · rw [List.length_map]
        have := partsTo_len ls b ls.length
        omega
      · rw [List.length_map] at hr'
        have hr2 : r < (parting ls b).length := hr'
        have hD2 : (upd H2 a (.lst [.int x', .int y'])) D = some (.lst ((partsTo ls b ls.length).map fun q => nV (ls.getD q.1 0))) := by
          rw [upd_ne nDa.symm]
          exact hD
        have hix : ((partsTo ls b ls.length).map fun q => nV (ls.getD q.1 0))[r]? = some (nV (ls.getD (parting ls b)[r].1 0)) := by
          show ((parting ls b).map fun q => nV (ls.getD q.1 0))[r]? = _
          rw [List.getElem?_map, List.getElem?_eq_getElem hr2]
          rfl
        exact ⟨D, _, (r : Int), _, rfl, rfl, SqL.of hD2, atI_nat hix, q _ _ x' y' ((Same.but s2 a).trans but_upd) upd_same (List.getElem_mem hr2)⟩
end
end Mk
namespace Mk
open PySem PySem.Spec PyProof.Rows L2 MkR
/-! ### data that is compared -/
def dInts (l : List Nat) : List PyData := l.map fun (k : Nat) => PyData.int (k : Int)
theorem dp_ints {K : PySem.W.Frag} {H : Hp} : ∀ l : List Nat, DpAll K H (nls l) (dInts l)
  | [] => .nil
  | k :: l => .cons (.int _) (dp_ints l)
theorem lay_ints : ∀ l : List Nat, PyData.canLayAll0 (dInts l) = true
  | [] => rfl
  | k :: l => by
    show (PyData.canLay0 (PyData.int (k : Int)) && PyData.canLayAll0 (dInts l)) = true
    rw [lay_ints l]
    rfl
theorem depth_ints : ∀ l : List Nat, PyData.depthAll (dInts l) = 0
  | [] => rfl
  | k :: l => by
    show max (PyData.depth (PyData.int (k : Int))) (PyData.depthAll (dInts l)) = 0
    rw [depth_ints l]
    rfl
theorem shaped_list (l : List Nat) : SeqAt.shaped (.list (dInts l)) = true := by
  unfold SeqAt.shaped
  rw [Bool.and_eq_true]
  refine ⟨lay_ints l, decide_eq_true ?_⟩
  show PyData.depthAll (dInts l) + 1 ≤ 64
  rw [depth_ints]
  decide
theorem shaped_tup (l : List Nat) : SeqAt.shaped (.tuple (dInts l)) = true := by
  unfold SeqAt.shaped
  rw [Bool.and_eq_true]
  refine ⟨lay_ints l, decide_eq_true ?_⟩
  show PyData.depthAll (dInts l) + 1 ≤ 64
  rw [depth_ints]
  decide
theorem eqv_nil (k : Nat) (l : List Nat) : PyData.eqv (.list (dInts (l ++ [k]))) (.list []) = false := by
  cases l <;> rfl

/-! ### what is found beneath a set -/
def fkey (x : Nat) : Key × V := (Sum.inl (x : Int), V.bl true)
theorem find_F (F : List Nat) (y : Nat) : valV (F.map fkey) (Sum.inl (y : Int) : Key) = if y ∈ F then some (V.bl true) else none := by
  induction F with
  | nil => rfl
  | cons x F ih =>
    rw [List.map_cons]
    by_cases e : x = y
    · subst e
      rw [valV_pos (p := fkey x) (k := (Sum.inl (x : Int) : Key)) rfl, if_pos List.mem_cons_self]
      rfl
    · rw [valV_neg (p := fkey x) (k := (Sum.inl (y : Int) : Key)) (fun z : (Sum.inl (x : Int) : Key) = Sum.inl (y : Int) => e (by have := Sum.inl.inj z; omega)), ih]
      by_cases m : y ∈ F
      · rw [if_pos m, if_pos (List.mem_cons_of_mem _ m)]
      · rw [if_neg m, if_neg (fun z => by
          rcases Iff.mp List.mem_cons z with z | z
          · exact e z.symm
          · exact m z)]
/-- while the parts of x are looked at -/
structure Mid (ls : List Nat) (b x c : Nat) (F R : List Nat) : Prop where
  nd : F.Nodup
  has : b ∈ F
  rng : ∀ y ∈ F, 0 < y ∧ y ≤ b
  sub : ∀ y ∈ R, y ∈ F
  hx : x ∈ F
  cl : ∀ y ∈ F, y ∈ R ∨ y = x ∨ ∀ q ∈ parting ls y, q.2.1 ∈ F ∧ q.2.2 ∈ F
  sz : 2 * (b + 1 - F.length) + R.length ≤ c
theorem Mid.few {ls : List Nat} {b x c : Nat} {F R : List Nat} (m : Mid ls b x c F R) : F.length ≤ b + 1 := Mk.few (b + 1) F m.nd fun y hy => by
  have := (m.rng y hy).2
  omega
theorem Mid.add {ls : List Nat} {b x c y : Nat} {F R : List Nat} (m : Mid ls b x c F R) (hy : y ∉ F) (h0 : 0 < y) (hb : y ≤ b) : Mid ls b x c (F ++ [y]) (R ++ [y]) := by
  have nd : (F ++ [y]).Nodup := List.nodup_append.mpr ⟨m.nd, List.nodup_cons.mpr ⟨by simp, List.nodup_nil⟩, fun a ha z hz e => by
    rw [List.mem_singleton.mp hz] at e
    subst e
    exact hy ha⟩
  have rng : ∀ z ∈ F ++ [y], 0 < z ∧ z ≤ b := fun z hz => by
    rcases List.mem_append.mp hz with hz | hz
    · exact m.rng z hz
    · rw [List.mem_singleton.mp hz]
      exact ⟨h0, hb⟩
  have f := Mk.few (b + 1) (F ++ [y]) nd fun z hz => by
    have := (rng z hz).2
    omega
  rw [List.length_append, List.length_singleton] at f
  refine ⟨nd, List.mem_append.mpr (.inl m.has), rng, fun z hz => ?_, List.mem_append.mpr (.inl m.hx), fun z hz => ?_, ?_⟩
  · rcases List.mem_append.mp hz with hz | hz
    · exact List.mem_append.mpr (.inl (m.sub z hz))
    · exact List.mem_append.mpr (.inr hz)
  · rcases List.mem_append.mp hz with hz | hz
    · rcases m.cl z hz with h | h | h
      · exact .inl (List.mem_append.mpr (.inl h))
      · exact .inr (.inl h)
      · exact .inr (.inr fun q hq => ⟨List.mem_append.mpr (.inl (h q hq).1), List.mem_append.mpr (.inl (h q hq).2)⟩)
    · exact .inl (List.mem_append.mpr (.inr hz))
  · have := m.sz
    rw [List.length_append, List.length_append, List.length_singleton]
    omega
/-- between two turns of the while -/
structure Out (ls : List Nat) (b : Nat) (F R : List Nat) : Prop where
  nd : F.Nodup
  has : b ∈ F
  rng : ∀ y ∈ F, 0 < y ∧ y ≤ b
  sub : ∀ y ∈ R, y ∈ F
  cl : ∀ y ∈ F, y ∈ R ∨ ∀ q ∈ parting ls y, q.2.1 ∈ F ∧ q.2.2 ∈ F
theorem Out.mid {ls : List Nat} {b x : Nat} {F R : List Nat} (o : Out ls b F (R ++ [x])) : Mid ls b x (2 * (b + 1 - F.length) + R.length) F R := by
  refine ⟨o.nd, o.has, o.rng, fun y hy => o.sub y (List.mem_append.mpr (.inl hy)), o.sub x (List.mem_append.mpr (.inr List.mem_cons_self)), fun y hy => ?_, Nat.le_refl _⟩
  rcases o.cl y hy with h | h
  · rcases Iff.mp List.mem_append h with h | h
    · exact .inl h
    · exact .inr (.inl (List.mem_singleton.mp h))
  · exact .inr (.inr h)
theorem Mid.out {ls : List Nat} {b x c : Nat} {F R : List Nat} (m : Mid ls b x c F R) (d : ∀ q ∈ parting ls x, q.2.1 ∈ F ∧ q.2.2 ∈ F) : Out ls b F R := by
  refine ⟨m.nd, m.has, m.rng, m.sub, fun y hy => ?_⟩
  rcases m.cl y hy with h | h | h
  · exact .inl h
  · subst h
    exact .inr d
  · exact .inr h
/-- the sorted list of what was found -/
theorem sorted_nats {F : List Nat} (nd : F.Nodup) {ys : List Int} (p : ys.Perm (F.map fun (x : Nat) => (x : Int))) (s : ys.Pairwise (· ≤ ·)) : ∃ M : List Nat, ys.map V.int = nls M ∧ M.Perm F ∧ M.Pairwise (· < ·) := by
  have e : ys = (ys.map Int.toNat).map fun (x : Nat) => (x : Int) := by
    rw [List.map_map]
    refine (List.map_id' ys).symm.trans ?_
    refine List.map_congr_left fun y hy => ?_
    have hy2 := p.mem_iff.mp hy
    obtain ⟨x, _, e⟩ := List.mem_map.mp hy2
    show y = ((y.toNat : Nat) : Int)
    omega
  have pm : (ys.map Int.toNat).Perm F := by
    have q := p.map Int.toNat
    rw [List.map_map] at q
    have z : F.map (Int.toNat ∘ fun (x : Nat) => (x : Int)) = F := by
      refine Eq.trans (List.map_congr_left fun x _ => ?_) (List.map_id' F)
      show ((x : Nat) : Int).toNat = x
      omega
    rw [z] at q
    exact q
  refine ⟨ys.map Int.toNat, ?_, pm, ?_⟩
  · conv => lhs; rw [e]
    rw [List.map_map]
    rfl
  · have nd2 : (ys.map Int.toNat).Nodup := pm.nodup_iff.mpr nd
    have s2 : (ys.map Int.toNat).Pairwise (· ≤ ·) := List.pairwise_map.mpr (s.imp fun {a b} h => by omega)
    exact (List.pairwise_and_iff.mpr ⟨s2, nd2⟩).imp fun {a b} h => by
      have := h.1
      have := h.2
      omega
end Mk
namespace Mk
open PySem PySem.Spec PyProof.Rows L2 MkR
/-- all but what stands at f and r is as it was -/
def But2 (f r : Addr) (H H' : Hp) : Prop := ∀ c o, c ≠ f → c ≠ r → H c = some o → H' c = some o
section
variable {P : Program} {w : World} {K : PySem.W.Frag} {mg : Str → Option Value} {base : Heap}
theorem ok_sets_beneath {f : Addr} {fd : FuncData} (F0 : Fun K "sets_beneath" "sets_beneath" sSetsBeneath f fd) (T : Bi mg) (cP : Cal P w K mg base 1 "parting" ["lines", "bits"] spParting) :
    FnOk P w K mg base CX0 2 f fd ["lines", "bits"] spSetsBeneath := by
  refine F0.ok scSetsBeneath (fun vs H Q E h => ?_) (fun cdv A outer s H vs Q E hr h => ?_)
  · obtain ⟨l, ls, b, rfl, _⟩ := h
    rfl
  · obtain ⟨l, ls, b, rfl, hl, hl10, b0, b1, q⟩ := h
    have hu := hu_of hr
    refine ⟨_, pss_cons (ps_set (i := 2) scSetsBeneath.nd rfl (.inl rfl) (pe_disp (pps_cons (pv 1) pe_bl pps_nil) (by rfl) (by rfl) (fun z => by cases z) (by decide)))
      (pss_cons (ps_set (i := 3) scSetsBeneath.nd rfl (.inl rfl) (pe_lst (pa_cons (pv 1) pa_nil)))
      (pss_cons (ps_while PassesOwn.never (pt_cmpR (op_neD hr.units) (pv 3) (pe_lst pa_nil) (nomark _))
        (pss_one (ps_for PassesOwn.never rfl (pi_list (pe_cal cP hr (pa_cons (pv 0) (pa_cons (pe_bm0 PySem.F.plainAttrs_list PySem.F.slot_list_pop PySem.F.type_list_pop mt_pop (pv 3)) pa_nil))))
          (pg_tup rfl (pgs_cons (pg_name (i := 4) scSetsBeneath.nd rfl (.inl rfl)) (pgs_cons (pg_name (i := 5) scSetsBeneath.nd rfl (.inl rfl)) (pgs_cons (pg_name (i := 6) scSetsBeneath.nd rfl (.inl rfl)) pgs_nil))))
          (pss_one (ps_for PassesOwn.never rfl (pi_tup (pe_tup (pa_cons (pv 5) (pa_cons (pv 6) pa_nil)))) (pg_name (i := 7) scSetsBeneath.nd rfl (.inl rfl))
            (pss_one (ps_if (pt_cmp (pc_dnotin hu (pv 7) (pv 2)))
              (pss_cons (ps_dput hu (pv 2) (pv 7) pe_bl rfl)
              (pss_one (ps_expr (pe_bm PySem.F.plainAttrs_list PySem.F.slot_list_append PySem.F.type_list_append mt_append (pv 3) (pa_cons (pv 7) pa_nil))))) pss_nil)))))))
      (pss_one (ps_ret (pe_callB (sortedDict rfl) (by rfl) T.sorted (by decide +kernel) (pa_cons (pv 2) pa_nil)))))), ?_⟩
    -- found = {bits: True}
    refine fun d nd => ⟨_, rfl, upd_same, [fkey b], rfl, (by show 1 ≤ 15; decide), ?_⟩
    have e1 : upd (upd H d (.dK [])) d (.dK (mergeK [] [fkey b])) = upd H d (.dK ([b].map fkey)) := upd_upd
    rw [e1]
    have s1 : Same H (upd H d (.dK ([b].map fkey))) := same_upd nd
    -- rows = [bits]
    refine ⟨_, rfl, (by show 1 ≤ sizeLine; decide), fun r nr => ?_⟩
    have s2 : Same (upd H d (.dK ([b].map fkey))) (upd (upd H d (.dK ([b].map fkey))) r (.lst [nV b])) := same_upd nr
    have nrd : d ≠ r := ne_of_none upd_same nr
    have nrH : H r = none := s1.free nr
    refine ⟨fun m σ H3 => ∃ (F R : List Nat) (v4 v5 v6 v7 : Option V), m = 2 * (b + 1 - F.length) + R.length ∧ m ≤ 2 * b + 1 ∧ σ = [some (.ref l), some (nV b), some (.ref d), some (.ref r), v4, v5, v6, v7] ∧ Out ls b F R ∧ Same H H3 ∧ H3 d = some (.dK (F.map fkey)) ∧ H3 r = some (.lst (nls R)),
      ⟨_, [b], [b], none, none, none, none, rfl, by show 2 * (b + 1 - 1) + 1 ≤ 2 * b + 1; omega, rfl, ⟨by simp, by simp, fun y hy => by rw [List.mem_singleton.mp hy]; omega, fun y hy => hy, fun y hy => .inl hy⟩, s1.trans s2, by rw [upd_ne nrd, upd_same], upd_same⟩, ?_⟩
    rintro m σ H3 ⟨F, R, v4, v5, v6, v7, rfl, big, rfl, o, s3, hd3, hr3⟩
    -- while rows != []
    refine ⟨.ref r, rfl, Nat.zero_le _, fun z nz => ?_⟩
    have s4 : Same H3 (upd H3 z (.lst [])) := same_upd nz
    have hd4 := s4 _ _ hd3
    have hr4 := s4 _ _ hr3
    refine ⟨.list (dInts R), .list [], .lst (SqL.of hr4) (dp_ints R), .lst (SqL.of upd_same) .nil, shaped_list R, by decide, _, rfl, ?_⟩
    rcases List.eq_nil_or_concat R with rfl | ⟨R0, x, rfl⟩
    · -- sorted(found)
      refine iteF ?_
      refine ⟨.ref d, rfl, d, F.map fkey, F.map fun (x : Nat) => (x : Int), rfl, .inl hd4, by rw [List.map_map, List.map_map]; rfl, fun ys p pm pw np => ?_⟩
      obtain ⟨M, e, pM, sM⟩ := sorted_nats o.nd pm pw
      have s5 : Same (upd H3 z (.lst [])) (upd (upd H3 z (.lst [])) p (.lst (ys.map V.int))) := same_upd np
      have s6 := (s3.trans s4).trans s5
      refine q _ p M s6 ((s3.trans s4).free np) (by rw [upd_same, e]) ⟨sM, pM.mem_iff.mpr o.has, fun y hy => o.rng y (pM.mem_iff.mp hy), fun y hy p hp => ?_⟩
      rcases o.cl y (pM.mem_iff.mp hy) with h | h
      · cases h
      · exact ⟨pM.mem_iff.mpr (h p hp).1, pM.mem_iff.mpr (h p hp).2⟩
    · rw [List.concat_eq_append] at o hr4 big ⊢
      rw [List.length_append, List.length_singleton] at big
      rw [eqv_nil]
      refine iteT ?_
      have m0 := o.mid
      refine ⟨fun σ' H' => ∃ (F' R' : List Nat) (v4 v5 v6 v7 : Option V), 2 * (b + 1 - F'.length) + R'.length ≤ 2 * (b + 1 - F.length) + R0.length ∧ σ' = [some (.ref l), some (nV b), some (.ref d), some (.ref r), v4, v5, v6, v7] ∧ Out ls b F' R' ∧ Same H H' ∧ H' d = some (.dK (F'.map fkey)) ∧ H' r = some (.lst (nls R')),
        fun σ' H' ⟨F', R', v4, v5, v6, v7, h1, h2, h3, h4, h5, h6⟩ => ⟨_, ?_, F', R', v4, v5, v6, v7, rfl, by omega, h2, h3, h4, h5, h6⟩, ?_⟩
      · rw [List.length_append, List.length_singleton]
        omega
      -- parting(lines, rows.pop())
      have hx : (nls (R0 ++ [x]))[(nls (R0 ++ [x])).length - 1]? = some (nV x) := by
        rw [nls_len, List.length_append, List.length_singleton, Nat.add_sub_cancel]
        exact nls_get (by rw [List.getElem?_append_right (Nat.le_refl _), Nat.sub_self]; rfl)
      have edl : (nls (R0 ++ [x])).dropLast = nls R0 := by
        rw [nls_app]
        exact List.dropLast_concat
      have hl5 : (upd (upd H3 z (.lst [])) r (.lst (nls (R0 ++ [x])).dropLast)) l = some (.lst (nls ls)) := by
        rw [upd_ne (ne_of_none hl nrH)]
        exact s4 _ _ (s3 _ _ hl)
      refine ⟨.ref l, rfl, .ref r, rfl, .inl ⟨rfl, _, SqL.of hr4⟩, r, _, _, rfl, rfl, hr4, hx, l, ls, x, rfl, hl5, hl10, fun H6 p s6 np6 hp6 => ?_⟩
      have hr6 : H6 r = some (.lst (nls R0)) := s6 _ _ (by rw [upd_same, edl])
      have hd6 : H6 d = some (.dK (F.map fkey)) := s6 _ _ (by rw [upd_ne nrd]; exact hd4)
      have sH6 : Same H H6 := fun c u e => s6 _ _ (by rw [upd_ne (ne_of_none e nrH)]; exact s4 _ _ (s3 _ _ e))
      obtain ⟨as, hp, hlen, hat⟩ := hp6
      have npr : p ≠ r := ne_of_none' np6 upd_same
      have npd : p ≠ d := ne_of hp hd6 (by intro z; cases z)
      have pl := partsTo_len ls x ls.length
      refine ⟨p, rfl, ⟨_, SqL.of hp⟩, for_list (K := K) (a := p) (xs := as.map V.ref)
        (fun i σ H7 => ∃ (F' R' : List Nat) (v4 v5 v6 v7 : Option V), σ = [some (.ref l), some (nV b), some (.ref d), some (.ref r), v4, v5, v6, v7] ∧ Mid ls b x (2 * (b + 1 - F.length) + R0.length) F' R' ∧ But2 d r H6 H7 ∧ Same H H7 ∧ H7 d = some (.dK (F'.map fkey)) ∧ H7 r = some (.lst (nls R')) ∧
          ∀ (j : Nat) (q : Part), j < i → (parting ls x)[j]? = some q → q.2.1 ∈ F' ∧ q.2.2 ∈ F')
        ⟨F, R0, v4, v5, v6, v7, rfl, m0, fun c u _ _ e => e, sH6, hd6, hr6, fun j q hj => absurd hj (Nat.not_lt_zero _)⟩ (fun i σ H7 _ ⟨_, _, _, _, _, _, _, _, b7, _⟩ => SqL.of (b7 _ _ npd npr hp)) ?_ ?_⟩
      · rintro i y σ H7 hi ⟨F', R', v4, v5, v6, v7, rfl, m7, b7, s7, hd7, hr7, dn⟩
        rw [List.getElem?_map] at hi
        obtain ⟨a, ea, rfl⟩ := Option.map_eq_some_iff.mp hi
        have hia : i < as.length := (List.getElem?_eq_some_iff.mp ea).1
        have hip : i < (parting ls x).length := by omega
        have eq : (parting ls x)[i]? = some (parting ls x)[i] := List.getElem?_eq_getElem hip
        generalize (parting ls x)[i] = g at eq
        have isg := mem_parting.mp (List.mem_of_getElem? eq)
        have lt := isg.lt
        have xb := (m7.rng x m7.hx).2
        have ha6 := hat i g a eq ea
        have ha7 : H7 a = some (.tup [nV g.1, nV g.2.1, nV g.2.2]) := b7 _ _ (ne_of ha6 hd6 (by intro z; cases z)) (ne_of ha6 hr6 (by intro z; cases z)) ha6
        refine ⟨a, [nV g.1, nV g.2.1, nV g.2.2], rfl, SqT.of ha7, rfl, _, [nV g.2.1, nV g.2.2], rfl, _, [nV g.2.2], rfl, _, [], rfl, rfl, ?_⟩
        -- for part in (one, other)
        refine ⟨_, rfl, _, rfl, (by show 2 ≤ sizeLine; decide), fun t nt => ⟨t, rfl, ⟨_, SqT.of upd_same⟩, ?_⟩⟩
        have s8 : Same H7 (upd H7 t (.tup [nV g.2.1, nV g.2.2])) := same_upd nt
        have ntd : t ≠ d := ne_of_none' nt hd7
        have ntr : t ≠ r := ne_of_none' nt hr7
        refine for_tup (K := K) (a := t) (xs := [nV g.2.1, nV g.2.2])
          (fun j σ H9 => ∃ (F' R' : List Nat) (v7 : Option V), σ = [some (.ref l), some (nV b), some (.ref d), some (.ref r), some (nV g.1), some (nV g.2.1), some (nV g.2.2), v7] ∧ Mid ls b x (2 * (b + 1 - F.length) + R0.length) F' R' ∧ But2 d r H6 H9 ∧ Same H H9 ∧ H9 d = some (.dK (F'.map fkey)) ∧ H9 r = some (.lst (nls R')) ∧
            H9 t = some (.tup [nV g.2.1, nV g.2.2]) ∧ (∀ (j : Nat) (q : Part), j < i → (parting ls x)[j]? = some q → q.2.1 ∈ F' ∧ q.2.2 ∈ F') ∧ (1 ≤ j → g.2.1 ∈ F') ∧ (2 ≤ j → g.2.2 ∈ F'))
          ⟨F', R', v7, rfl, m7, fun c u n1 n2 e => s8 _ _ (b7 c u n1 n2 e), s7.trans s8, s8 _ _ hd7, s8 _ _ hr7, upd_same, dn, fun z => absurd z (by omega), fun z => absurd z (by omega)⟩
          (fun j σ H9 _ ⟨_, _, _, _, _, _, _, _, _, h, _⟩ => SqT.of h) ?_ ?_
        · rintro j y σ H9 hj ⟨F1, R1, v7, rfl, m9, b9, s9, hd9, hr9, ht9, dn9, j1, j2⟩
          -- y is the part's number
          obtain ⟨n, rfl, hn0, hnb, hn1, hn2⟩ : ∃ n : Nat, y = nV n ∧ 0 < n ∧ n ≤ b ∧ (1 ≤ j + 1 → g.2.1 ∈ F1 ∨ g.2.1 = n) ∧ (2 ≤ j + 1 → g.2.2 ∈ F1 ∨ g.2.2 = n) := by
            match j, hj, j1, j2 with
            | 0, hj, _, _ =>
              exact ⟨g.2.1, (Option.some.inj hj).symm, by omega, by omega, fun _ => .inr rfl, fun z => absurd z (by omega)⟩
            | 1, hj, j1, _ =>
              exact ⟨g.2.2, (Option.some.inj hj).symm, by omega, by omega, fun _ => .inl (j1 (by omega)), fun _ => .inr rfl⟩
            | j + 2, hj, _, _ =>
              have hj2 : ([] : List V)[j]? = some y := hj
              cases j <;> cases hj2
          refine ⟨_, rfl, _, rfl, d, _, rfl, DGet.k (k := Sum.inl (n : Int)) hd9, _, rfl, ?_⟩
          rw [find_F]
          by_cases mem : n ∈ F1
          · rw [if_pos mem]
            refine iteF ?_
            refine ⟨F1, R1, _, rfl, m9, b9, s9, hd9, hr9, ht9, dn9, fun z => ?_, fun z => ?_⟩
            · rcases hn1 z with h | h
              · exact h
              · rw [h]
                exact mem
            · rcases hn2 z with h | h
              · exact h
              · rw [h]
                exact mem
          · rw [if_neg mem]
            refine iteT ?_
            have m10 := m9.add mem hn0 hnb
            have fw := m9.few
            have fl : (F1.map fkey).length < sizeLine := by
              rw [List.length_map]
              exact small4k (by omega)
            have ep : putK (F1.map fkey) (Sum.inl (n : Int) : Key) (V.bl true) = (F1 ++ [n]).map fkey := by
              rw [putK_new _ (by rw [find_F, if_neg mem]), List.map_append]
              rfl
            refine ⟨.ref d, rfl, _, rfl, d, _, rfl, DPut.k (k := Sum.inl (n : Int)) hd9 fl, ?_⟩
            rw [ep]
            have hr10 : (upd H9 d (.dK ((F1 ++ [n]).map fkey))) r = some (.lst (nls R1)) := by
              rw [upd_ne nrd.symm]
              exact hr9
            refine ⟨.ref r, rfl, .inl ⟨rfl, _, SqL.of hr10⟩, _, rfl, r, _, _, rfl, rfl, hr10, ?_, ?_⟩
            · rw [nls_len]
              have := m9.sz
              exact small4k (by omega)
            · refine ⟨F1 ++ [n], R1 ++ [n], _, rfl, m10, fun c u n1 n2 e => ?_, fun c u e => ?_, ?_, ?_, ?_, fun j q hj hq => ?_, fun z => ?_, fun z => ?_⟩
              · rw [upd_ne n2, upd_ne n1]
                exact b9 c u n1 n2 e
              · rw [upd_ne (ne_of_none e nrH), upd_ne (ne_of_none e nd)]
                exact s9 c u e
              · rw [upd_ne nrd, upd_same]
              · rw [upd_same, nls_app]
                rfl
              · rw [upd_ne ntr, upd_ne ntd]
                exact ht9
              · have z := dn9 j q hj hq
                exact ⟨List.mem_append.mpr (.inl z.1), List.mem_append.mpr (.inl z.2)⟩
              · rcases hn1 z with h | h
                · exact List.mem_append.mpr (.inl h)
                · exact List.mem_append.mpr (.inr (by rw [h]; exact List.mem_cons_self))
              · rcases hn2 z with h | h
                · exact List.mem_append.mpr (.inl h)
                · exact List.mem_append.mpr (.inr (by rw [h]; exact List.mem_cons_self))
        · rintro σ H9 ⟨F1, R1, v7, rfl, m9, b9, s9, hd9, hr9, ht9, dn9, j1, j2⟩
          refine ⟨F1, R1, _, _, _, _, rfl, m9, b9, s9, hd9, hr9, fun j q hj hq => ?_⟩
          by_cases e : j < i
          · exact dn9 j q e hq
          · have ej : j = i := by omega
            subst ej
            have eg : g = q := Option.some.inj (eq.symm.trans hq)
            rw [← eg]
            exact ⟨j1 (by show 1 ≤ 2; decide), j2 (by show 2 ≤ 2; decide)⟩
      · rintro σ H7 ⟨F', R', v4, v5, v6, v7, rfl, m7, b7, s7, hd7, hr7, dn⟩
        refine ⟨F', R', v4, v5, v6, v7, m7.sz, rfl, m7.out fun q hq => ?_, s7, hd7, hr7⟩
        obtain ⟨j, hj, e⟩ := List.mem_iff_getElem.mp hq
        rw [List.length_map, hlen] at dn
        exact dn j q hj (by rw [List.getElem?_eq_getElem hj, e])
end
end Mk
namespace Mk
open PySem PySem.Spec PyProof.Rows L2 MkR
theorem tells_val : ∀ (ps : List (Nat × Addr)) (x : Nat), x ∈ ps.map (·.1) → ∃ a, (x, a) ∈ ps ∧ valV (ps.map ent) (Sum.inl (x : Int) : Key) = some (V.ref a)
  | [], x, h => by cases h
  | p :: ps, x, h => by
    by_cases e : p.1 = x
    · subst e
      exact ⟨p.2, List.mem_cons_self, valV_pos (p := ent p) (k := (Sum.inl (p.1 : Int) : Key)) rfl⟩
    · have h2 : x ∈ ps.map (·.1) := by
        rcases Iff.mp List.mem_cons h with z | z
        · exact absurd z.symm e
        · exact z
      obtain ⟨a, ha, hv⟩ := tells_val ps x h2
      refine ⟨a, List.mem_cons_of_mem _ ha, ?_⟩
      rw [List.map_cons, valV_neg (p := ent p) (k := (Sum.inl (x : Int) : Key)) (fun z : (Sum.inl (p.1 : Int) : Key) = Sum.inl (x : Int) => e (by have := Sum.inl.inj z; omega))]
      exact hv
theorem tells_get {ls : List Nat} {H : Hp} {t : Addr} {M : List Nat} (h : TellsAt ls H t M) {x : Nat} (hx : x ∈ M) : ∃ a, DGet H t (nV x) (some (.ref a)) ∧ H a = some (.tup (encB (B ls x))) := by
  obtain ⟨ps, rfl, h2, h3⟩ := h
  obtain ⟨a, ha, hv⟩ := tells_val ps x hx
  exact ⟨a, .inl ⟨_, Sum.inl (x : Int), .inl h2, rfl, hv.symm⟩, h3 _ ha⟩
theorem max_nn (a b : Nat) : (1 : Int) + (if (b : Int) > (a : Int) then (b : Int) else (a : Int)) = ((1 + max a b : Nat) : Int) := by
  by_cases h : b > a
  · rw [if_pos (by omega)]
    omega
  · rw [if_neg (by omega)]
    omega
theorem bestOf_succ (f : Nat → Nat) (L : List Part) {i : Nat} {q : Part} (h : L[i]? = some q) : bestOf f (L.take (i + 1)) = bestStep f (bestOf f (L.take i)) q := by
  rw [List.take_add_one, h]
  exact bestOf_snoc f _ q
section
variable {P : Program} {w : World} {K : PySem.W.Frag} {mg : Str → Option Value} {base : Heap}
theorem ok_best_trial {f : Addr} {fd : FuncData} (F : Fun K "best_trial" "best_trial" sBestTrial f fd) (T : Bi mg) (cP : Cal P w K mg base 1 "parting" ["lines", "bits"] spParting) :
    FnOk P w K mg base CX0 2 f fd ["lines", "bits", "told"] spBestTrial := by
  refine F.ok scBestTrial (fun vs H Q E h => ?_) (fun cdv A outer s H vs Q E hr h => ?_)
  · obtain ⟨l, t, ls, b, M, rfl, _⟩ := h
    rfl
  · obtain ⟨l, t, ls, b, M, rfl, hl, hl10, ht, hpt, q⟩ := h
    have hu := hu_of hr
    refine ⟨_, pss_cons (ps_set (i := 3) scBestTrial.nd rfl (.inl rfl) (pe_tup (pa_cons pe_int (pa_cons pe_non pa_nil))))
      (pss_cons (ps_for PassesOwn.never rfl (pi_list (pe_cal cP hr (pa_cons (pv 0) (pa_cons (pv 1) pa_nil))))
        (pg_tup rfl (pgs_cons (pg_name (i := 4) scBestTrial.nd rfl (.inl rfl)) (pgs_cons (pg_name (i := 5) scBestTrial.nd rfl (.inl rfl)) (pgs_cons (pg_name (i := 6) scBestTrial.nd rfl (.inl rfl)) pgs_nil))))
        (pss_cons (ps_set (i := 7) scBestTrial.nd rfl (.inl rfl) (pe_op op_add pe_int (pe_callB (call_max2 rfl) (by rfl) T.max (by decide +kernel)
          (pa_cons (pe_ix ix_tup (pe_dget hu (pv 2) (pv 5) (fun _ _ => rfl)) pe_int (fun _ _ => rfl)) (pa_cons (pe_ix ix_tup (pe_dget hu (pv 2) (pv 6) (fun _ _ => rfl)) pe_int (fun _ _ => rfl)) pa_nil)))))
        (pss_one (ps_if (PW.pt (pw_or (pt_cmpR op_isN (pe_ix ix_tup (pv 3) pe_int (fun _ _ => rfl)) pe_non (nomark _)) (pw_or1 (pt_cmpR op_lt (pv 7) (pe_ix ix_tup (pv 3) pe_int (fun _ _ => rfl)) (nomark _)))))
          (pss_one (ps_set (i := 3) scBestTrial.nd rfl (.inl rfl) (pe_tup (pa_cons (pv 7) (pa_cons (pv 4) pa_nil))))) pss_nil))))
      (pss_one (ps_ret (pv 3)))), ?_⟩
    refine ⟨(by show 2 ≤ sizeLine; decide), fun c nc => ?_⟩
    have s1 : Same H (upd H c (.tup [.int 0, .non])) := same_upd nc
    refine ⟨.ref l, rfl, _, rfl, l, ls, b, rfl, s1 _ _ hl, hl10, fun H2 p s2 np hp2 => ?_⟩
    obtain ⟨as, hp, hlen, hat⟩ := hp2
    have s12 := s1.trans s2
    refine ⟨p, rfl, ⟨_, SqL.of hp⟩, for_list (K := K) (a := p) (xs := as.map V.ref)
      (fun i σ H3 => ∃ (c : Addr) (v4 v5 v6 v7 : Option V), σ = [some (.ref l), some (nV b), some (.ref t), some (.ref c), v4, v5, v6, v7] ∧ Same H2 H3 ∧ H c = none ∧ H3 c = some (.tup (encB (bestOf (fun p => (B ls p).1) ((parting ls b).take i)))))
      ⟨c, none, none, none, none, rfl, fun _ _ e => e, nc, s2 _ _ upd_same⟩ (fun i σ H3 _ ⟨_, _, _, _, _, _, s3, _⟩ => SqL.of (s3 _ _ hp)) ?_ ?_⟩
    · rintro i y σ H3 hi ⟨c, v4, v5, v6, v7, rfl, s3, nc, hc⟩
      rw [List.getElem?_map] at hi
      obtain ⟨a, ea, rfl⟩ := Option.map_eq_some_iff.mp hi
      have hia : i < as.length := (List.getElem?_eq_some_iff.mp ea).1
      have hip : i < (parting ls b).length := by omega
      have eq : (parting ls b)[i]? = some (parting ls b)[i] := List.getElem?_eq_getElem hip
      generalize (parting ls b)[i] = g at eq
      have hg := List.mem_of_getElem? eq
      have ha3 := s3 _ _ (hat i g a eq ea)
      refine ⟨a, [nV g.1, nV g.2.1, nV g.2.2], rfl, SqT.of ha3, rfl, _, [nV g.2.1, nV g.2.2], rfl, _, [nV g.2.2], rfl, _, [], rfl, rfl, ?_⟩
      -- worst = 1 + max(..)
      have t3 := Same.tells (s12.trans s3) ht
      obtain ⟨a1, d1, h1⟩ := tells_get t3 (hpt g hg).1
      obtain ⟨a2, d2, h2⟩ := tells_get t3 (hpt g hg).2
      refine ⟨.ref t, rfl, _, rfl, t, _, rfl, d1, a1, _, 0, nV (B ls g.2.1).1, rfl, rfl, SqT.of h1, atI_nat (j := 0) rfl, .ref t, rfl, _, rfl, t, _, rfl, d2, a2, _, 0, nV (B ls g.2.2).1, rfl, rfl, SqT.of h2, atI_nat (j := 0) rfl, _, _, rfl, _, _, rfl, rfl, ?_⟩
      have ew : V.int ((1 : Int) + (if ((B ls g.2.2).1 : Int) > ((B ls g.2.1).1 : Int) then ((B ls g.2.2).1 : Int) else ((B ls g.2.1).1 : Int))) = nV (1 + max (B ls g.2.1).1 (B ls g.2.2).1) := congrArg V.int (max_nn _ _)
      have es := bestOf_succ (fun p => (B ls p).1) _ eq
      generalize bestOf (fun p => (B ls p).1) ((parting ls b).take i) = r at hc es
      -- the two ways
      have keepW : ¬ (r.2 = none ∨ 1 + max (B ls g.2.1).1 (B ls g.2.2).1 < r.1) → ∃ (c' : Addr) (v4 v5 v6 v7 : Option V), [some (V.ref l), some (nV b), some (V.ref t), some (V.ref c), some (nV g.1), some (nV g.2.1), some (nV g.2.2), some (V.int ((1 : Int) + (if ((B ls g.2.2).1 : Int) > ((B ls g.2.1).1 : Int) then ((B ls g.2.2).1 : Int) else ((B ls g.2.1).1 : Int))))] = [some (.ref l), some (nV b), some (.ref t), some (.ref c'), v4, v5, v6, v7] ∧ Same H2 H3 ∧ H c' = none ∧
          H3 c' = some (.tup (encB (bestOf (fun p => (B ls p).1) ((parting ls b).take (i + 1))))) := fun hn => by
        refine ⟨c, _, _, _, _, rfl, s3, nc, ?_⟩
        rw [es]
        unfold bestStep
        rw [if_neg hn]
        exact hc
      have newW : (r.2 = none ∨ 1 + max (B ls g.2.1).1 (B ls g.2.2).1 < r.1) → ∀ c', H3 c' = none → ∃ (c'' : Addr) (v4 v5 v6 v7 : Option V), [some (V.ref l), some (nV b), some (V.ref t), some (V.ref c'), some (nV g.1), some (nV g.2.1), some (nV g.2.2), some (V.int ((1 : Int) + (if ((B ls g.2.2).1 : Int) > ((B ls g.2.1).1 : Int) then ((B ls g.2.2).1 : Int) else ((B ls g.2.1).1 : Int))))] = [some (.ref l), some (nV b), some (.ref t), some (.ref c''), v4, v5, v6, v7] ∧
          Same H2 (upd H3 c' (.tup [V.int ((1 : Int) + (if ((B ls g.2.2).1 : Int) > ((B ls g.2.1).1 : Int) then ((B ls g.2.2).1 : Int) else ((B ls g.2.1).1 : Int))), nV g.1])) ∧ H c'' = none ∧
          (upd H3 c' (.tup [V.int ((1 : Int) + (if ((B ls g.2.2).1 : Int) > ((B ls g.2.1).1 : Int) then ((B ls g.2.2).1 : Int) else ((B ls g.2.1).1 : Int))), nV g.1])) c'' = some (.tup (encB (bestOf (fun p => (B ls p).1) ((parting ls b).take (i + 1))))) := fun hy c' nc' => by
        refine ⟨c', _, _, _, _, rfl, s3.trans (same_upd nc'), (s12.trans s3).free nc', ?_⟩
        rw [upd_same, es, ew]
        unfold bestStep
        rw [if_pos hy]
        rfl
      refine ⟨.ref c, rfl, c, _, 1, encO r.2, rfl, rfl, SqT.of hc, atI_nat (j := 1) rfl, rfl, _, rfl, ?_⟩
      cases er : r.2 with
      | none =>
        refine iteT ?_
        exact ⟨_, rfl, _, rfl, (by show 2 ≤ sizeLine; decide), fun c' nc' => newW (.inl er) c' nc'⟩
      | some k =>
        refine iteF ?_
        refine ⟨_, rfl, .ref c, rfl, c, _, 0, nV r.1, rfl, rfl, SqT.of hc, atI_nat (j := 0) rfl, _, _, rfl, rfl, _, rfl, ?_⟩
        rw [max_nn]
        refine ite2 (fun hb => ?_) (fun hb => ?_)
        · have hlt := of_decide_eq_true hb
          exact ⟨_, rfl, _, rfl, (by show 2 ≤ sizeLine; decide), fun c' nc' => newW (.inr (by omega)) c' nc'⟩
        · refine keepW fun z => ?_
          rcases z with z | z
          · rw [er] at z
            cases z
          · exact hb (decide_eq_true (by omega))
    · rintro σ H3 ⟨c, v4, v5, v6, v7, rfl, s3, nc, hc⟩
      rw [List.length_map, hlen] at hc
      have e : (parting ls b).take (partsTo ls b ls.length).length = parting ls b := List.take_length
      have e2 : (parting ls b).take (parting ls b).length = parting ls b := List.take_length
      rw [show bestOf (fun p => (B ls p).1) ((parting ls b).take (parting ls b).length) = B ls b by rw [e2, ← B_eq]] at hc
      exact ⟨.ref c, rfl, q H3 c (s12.trans s3) nc hc⟩
end
end Mk
namespace Mk
open PySem PySem.Spec PyProof.Rows L2 MkR
theorem lower_in {M : List Nat} (h : M.Pairwise (· < ·)) {i x y : Nat} (hx : M[i]? = some x) (hy : y ∈ M) (l : y < x) : y ∈ M.take i := by
  obtain ⟨j, hj, e⟩ := List.getElem_of_mem hy
  have hi := (List.getElem?_eq_some_iff.mp hx).1
  have ex : M[i] = x := (List.getElem?_eq_some_iff.mp hx).2
  have ji : j < i := by
    by_cases z : j < i
    · exact z
    · exfalso
      by_cases e2 : j = i
      · subst e2
        omega
      · have := List.pairwise_iff_getElem.mp h i j hi hj (by omega)
        omega
  rw [← e]
  exact List.mem_take_iff_getElem.mpr ⟨j, by omega, by simp⟩
theorem not_lower {M : List Nat} (h : M.Pairwise (· < ·)) {i x : Nat} (hx : M[i]? = some x) : x ∉ M.take i := fun m => by
  obtain ⟨j, hj, e⟩ := List.mem_take_iff_getElem.mp m
  have hi := (List.getElem?_eq_some_iff.mp hx).1
  have ex : M[i] = x := (List.getElem?_eq_some_iff.mp hx).2
  have := List.pairwise_iff_getElem.mp h j i (by omega) hi (by omega)
  omega
theorem tells_none : ∀ (ps : List (Nat × Addr)) (x : Nat), x ∉ ps.map (·.1) → valV (ps.map ent) (Sum.inl (x : Int) : Key) = none
  | [], x, _ => rfl
  | p :: ps, x, h => by
    have e : ¬ p.1 = x := fun e => h (by rw [← e]; exact List.mem_cons_self)
    rw [List.map_cons, valV_neg (p := ent p) (k := (Sum.inl (x : Int) : Key)) (fun z : (Sum.inl (p.1 : Int) : Key) = Sum.inl (x : Int) => e (by have := Sum.inl.inj z; omega))]
    exact tells_none ps x fun z => h (List.mem_cons_of_mem _ z)
section
variable {P : Program} {w : World} {K : PySem.W.Frag} {mg : Str → Option Value} {base : Heap}
theorem ok_all_trials {f : Addr} {fd : FuncData} (F : Fun K "all_trials" "all_trials" sAllTrials f fd) (cL : Cal P w K mg base 1 "lines_of" ["elders"] spLinesOf) (cB : Cal P w K mg base 1 "bits_of" ["some"] spBitsOf)
    (cS : Cal P w K mg base 2 "sets_beneath" ["lines", "bits"] spSetsBeneath) (cT : Cal P w K mg base 2 "best_trial" ["lines", "bits", "told"] spBestTrial) : FnOk P w K mg base CX0 3 f fd ["elders", "some"] spAllTrials := by
  refine F.ok scAllTrials (fun vs H Q E h => ?_) (fun cdv A outer s H vs Q E hr h => ?_)
  · obtain ⟨e, a, es, b, rfl, _⟩ := h
    rfl
  · obtain ⟨e, a, es, b, rfl, he, wf, h10, ha, b0, b1, q⟩ := h
    have hu := hu_of hr
    refine ⟨_, pss_cons (ps_set (i := 2) scAllTrials.nd rfl (.inl rfl) (pe_cal cL hr (pa_cons (pv 0) pa_nil)))
      (pss_cons (ps_set (i := 3) scAllTrials.nd rfl (.inl rfl) pe_dnewK)
      (pss_cons (ps_for PassesOwn.never rfl (pi_list (pe_cal cS hr (pa_cons (pv 2) (pa_cons (pe_cal cB hr (pa_cons (pv 1) pa_nil)) pa_nil)))) (pg_name (i := 4) scAllTrials.nd rfl (.inl rfl))
        (pss_one (ps_dput hu (pv 3) (pv 4) (pe_cal cT hr (pa_cons (pv 2) (pa_cons (pv 4) (pa_cons (pv 3) pa_nil)))) rfl)))
      (pss_one (ps_ret (pv 3))))), ?_⟩
    have hlen := (lines_ok wf).2
    refine ⟨.ref e, rfl, e, es, rfl, he, wf, h10, fun H1 l s1 nl hl => ?_⟩
    intro d nd
    have s2 : Same H1 (upd H1 d (.dK [])) := same_upd nd
    refine ⟨.ref l, rfl, .ref a, rfl, a, tupOf b, rfl, s2 _ _ (s1 _ _ ha), fun k hk => (mem_upTo.mp hk).1, ?_⟩
    rw [bitsOf_tup b1]
    refine ⟨l, linesOf es, b, rfl, s2 _ _ hl, by omega, b0, b1, fun H3 p M s3 np hp bn => ?_⟩
    have hd3 : H3 d = some (.dK []) := s3 _ _ upd_same
    have hl3 : H3 l = some (.lst (nls (linesOf es))) := s3 _ _ (s2 _ _ hl)
    have nld : l ≠ d := ne_of_none hl nd
    have npd : p ≠ d := ne_of_none' np upd_same
    have s13 := (s1.trans s2).trans s3
    have nH : H d = none := s1.free nd
    refine ⟨p, rfl, ⟨_, SqL.of hp⟩, for_list (K := K) (a := p) (xs := nls M)
      (fun i σ H4 => ∃ v4, σ = [some (.ref e), some (.ref a), some (.ref l), some (.ref d), v4] ∧ But d H3 H4 ∧ TellsAt (linesOf es) H4 d (M.take i))
      ⟨none, rfl, fun c u _ z => z, [], rfl, hd3, fun p hp => by cases hp⟩ (fun i σ H4 _ ⟨_, _, b4, _⟩ => SqL.of (b4 _ _ npd hp)) ?_ ?_⟩
    · rintro i y σ H4 hi ⟨v4, rfl, b4, t4⟩
      obtain ⟨x, ex, rfl⟩ := nls_at hi
      have hxM := List.mem_of_getElem? ex
      refine ⟨.ref l, rfl, _, rfl, .ref d, rfl, l, d, linesOf es, x, M.take i, rfl, b4 _ _ nld hl3, by omega, t4, fun g hg => ?_, fun H5 c s5 nc hc => ?_⟩
      · have lt := (mem_parting.mp hg).lt
        have pm := bn.parts x hxM g hg
        exact ⟨lower_in bn.rise ex pm.1 lt.2.1, lower_in bn.rise ex pm.2 lt.2.2.2.1⟩
      · obtain ⟨ps, e1, e2, e3⟩ := t4
        have hd5 := s5 _ _ e2
        have pl : (ps.map ent).length < sizeLine := by
          have z := congrArg List.length e1
          rw [List.length_map, List.length_take] at z
          have fw := few (b + 1) M (bn.rise.imp fun {a b} h => Nat.ne_of_lt h) fun y hy => by
            have := (bn.some_ y hy).2
            omega
          rw [List.length_map]
          exact small4k (by omega)
        refine ⟨.ref d, rfl, _, rfl, d, _, rfl, DPut.k (k := Sum.inl (x : Int)) hd5 pl, ?_⟩
        have ncd : c ≠ d := ne_of_none' nc e2
        have ep : putK (ps.map ent) (Sum.inl (x : Int) : Key) (V.ref c) = (ps ++ [(x, c)]).map ent := by
          rw [putK_new _ (tells_none ps x (by rw [e1]; exact not_lower bn.rise ex)), List.map_append]
          rfl
        rw [ep]
        refine ⟨_, rfl, fun c' u n z => ?_, ps ++ [(x, c)], ?_, upd_same, fun p' hp' => ?_⟩
        · rw [upd_ne n]
          exact s5 _ _ (b4 c' u n z)
        · rw [List.map_append, e1, List.take_add_one, ex]
          rfl
        · rcases List.mem_append.mp hp' with z | z
          · have h5 := s5 _ _ (e3 p' z)
            rw [upd_ne (ne_of h5 hd5 (by intro z; cases z))]
            exact h5
          · rw [Iff.mp List.mem_singleton z]
            rw [upd_ne ncd]
            exact hc
    · rintro σ H4 ⟨v4, rfl, b4, t4⟩
      rw [take_nls] at t4
      exact ⟨.ref d, rfl, q H4 d M (fun c u z => b4 c u (ne_of_none z nH) (s13 _ _ z)) nH t4 bn⟩
theorem ok_least_worst {f : Addr} {fd : FuncData} (F : Fun K "least_worst" "least_worst" sLeastWorst f fd) (cA : Cal P w K mg base 3 "all_trials" ["elders", "some"] spAllTrials) (cB : Cal P w K mg base 1 "bits_of" ["some"] spBitsOf) :
    FnOk P w K mg base CX0 4 f fd ["elders", "some"] spLeastWorst := by
  refine F.ok scLeastWorst (fun vs H Q E h => ?_) (fun cdv A outer s H vs Q E hr h => ?_)
  · obtain ⟨e, a, es, b, rfl, _⟩ := h
    rfl
  · obtain ⟨e, a, es, b, rfl, he, wf, h10, ha, b0, b1, q⟩ := h
    have hu := hu_of hr
    refine ⟨_, pss_one (ps_ret (pe_ix ix_tup (pe_dget hu (pe_cal cA hr (pa_cons (pv 0) (pa_cons (pv 1) pa_nil))) (pe_cal cB hr (pa_cons (pv 1) pa_nil)) (fun _ _ => rfl)) pe_int (fun _ _ => rfl))), ?_⟩
    refine ⟨.ref e, rfl, .ref a, rfl, e, a, es, b, rfl, he, wf, h10, ha, b0, b1, fun H1 t M s1 nt ht bn => ?_⟩
    refine ⟨.ref a, rfl, a, tupOf b, rfl, s1 _ _ ha, fun k hk => (mem_upTo.mp hk).1, ?_⟩
    rw [bitsOf_tup b1]
    obtain ⟨c, hg, hc⟩ := tells_get ht bn.has
    exact ⟨t, _, rfl, hg, c, _, 0, _, rfl, rfl, SqT.of hc, atI_nat (j := 0) rfl, q H1 s1⟩
end
end Mk
namespace Mk
open PySem PySem.Spec PyProof.Rows L2 MkR
theorem tkey_V (x : Nat) : (tkey x).map kV = nls (tupOf x) := by
  unfold tkey nls
  rw [List.map_map]
  rfl
theorem tkey_inj {x y : Nat} (hx : x < 1024) (hy : y < 1024) (h : tkey x = tkey y) : x = y := by
  refine tup_inj hx hy ?_
  have z := congrArg (List.map fun (k : Key) => match k with | .inl i => i.toNat | .inr _ => 0) h
  unfold tkey at z
  rw [List.map_map, List.map_map] at z
  have e : ∀ l : List Nat, l.map ((fun (k : Key) => match k with | .inl i => i.toNat | .inr _ => 0) ∘ fun (k : Nat) => (Sum.inl (k : Int) : Key)) = l := fun l =>
    (List.map_congr_left fun k _ => by show ((k : Nat) : Int).toNat = k; omega).trans (List.map_id' l)
  rw [e, e] at z
  exact z
theorem book_none : ∀ (ps : List (Nat × Addr)) (x : Nat), x < 1024 → (∀ y ∈ ps.map (·.1), y < 1024) → x ∉ ps.map (·.1) → valV (ps.map entT) (tkey x) = none
  | [], x, _, _, _ => rfl
  | p :: ps, x, hx, hs, h => by
    have e : ¬ p.1 = x := fun e => h (by rw [← e]; exact List.mem_cons_self)
    rw [List.map_cons, valV_neg (p := entT p) (k := tkey x) (fun z : tkey p.1 = tkey x => e (tkey_inj (hs _ List.mem_cons_self) hx z))]
    exact book_none ps x hx (fun y hy => hs y (List.mem_cons_of_mem _ hy)) fun z => h (List.mem_cons_of_mem _ z)
theorem book_val : ∀ (ps : List (Nat × Addr)) (x : Nat), x < 1024 → (∀ y ∈ ps.map (·.1), y < 1024) → x ∈ ps.map (·.1) → ∃ a, (x, a) ∈ ps ∧ valV (ps.map entT) (tkey x) = some (V.ref a)
  | [], x, _, _, h => by cases h
  | p :: ps, x, hx, hs, h => by
    by_cases e : p.1 = x
    · subst e
      exact ⟨p.2, List.mem_cons_self, valV_pos (p := entT p) (k := tkey p.1) rfl⟩
    · have h2 : x ∈ ps.map (·.1) := by
        rcases Iff.mp List.mem_cons h with z | z
        · exact absurd z.symm e
        · exact z
      obtain ⟨a, ha, hv⟩ := book_val ps x hx (fun y hy => hs y (List.mem_cons_of_mem _ hy)) h2
      refine ⟨a, List.mem_cons_of_mem _ ha, ?_⟩
      rw [List.map_cons, valV_neg (p := entT p) (k := tkey x) (fun z : tkey p.1 = tkey x => e (tkey_inj (hs _ List.mem_cons_self) hx z))]
      exact hv
section
variable {P : Program} {w : World} {K : PySem.W.Frag} {mg : Str → Option Value} {base : Heap}
theorem ok_book_of {f : Addr} {fd : FuncData} (F : Fun K "book_of" "book_of" sBookOf f fd) (cA : Cal P w K mg base 3 "all_trials" ["elders", "some"] spAllTrials) (cT : Cal P w K mg base 1 "tuple_of" ["bits"] spTupleOf) :
    FnOk P w K mg base CX0 4 f fd ["elders", "some"] spBookOf := by
  refine F.ok scBookOf (fun vs H Q E h => ?_) (fun cdv A outer s H vs Q E hr h => ?_)
  · obtain ⟨e, a, es, b, rfl, _⟩ := h
    rfl
  · obtain ⟨e, a, es, b, rfl, he, wf, h10, ha, b0, b1, q⟩ := h
    have hu := hu_of hr
    refine ⟨_, pss_cons (ps_set (i := 2) scBookOf.nd rfl (.inl rfl) (pe_cal cA hr (pa_cons (pv 0) (pa_cons (pv 1) pa_nil))))
      (pss_cons (ps_set (i := 3) scBookOf.nd rfl (.inl rfl) pe_dnewT)
      (pss_cons (ps_lock (ps_for PassesOwn.never rfl (pi_keys (pv 2)) (pg_name (i := 4) scBookOf.nd rfl (.inl rfl))
        (pss_one (ps_dput hu (pv 3) (pe_cal cT hr (pa_cons (pv 4) pa_nil)) (pe_dget hu (pv 2) (pv 4) (fun _ _ => rfl)) rfl))))
      (pss_one (ps_ret (pv 3))))), ?_⟩
    refine ⟨.ref e, rfl, .ref a, rfl, e, a, es, b, rfl, he, wf, h10, ha, b0, b1, fun H1 t M s1 nt ht bn => ?_⟩
    intro d nd
    have s2 : Same H1 (upd H1 d (.dT [])) := same_upd nd
    obtain ⟨ps, e1, e2, e3⟩ := ht
    have nH : H d = none := s1.free nd
    have ht2 := s2 _ _ e2
    have ntd : t ≠ d := ne_of_none e2 nd
    have M1024 : ∀ y ∈ M, y < 1024 := fun y hy => by
      have := (bn.some_ y hy).2
      omega
    have pl : ps.length ≤ 1100 := by
      have z := congrArg List.length e1
      rw [List.length_map] at z
      have fw := few (b + 1) M (bn.rise.imp fun {a b} h => Nat.ne_of_lt h) fun y hy => by
        have := (bn.some_ y hy).2
        omega
      omega
    refine ⟨t, _, ht2, True.intro, fun od => ?_⟩
    refine ⟨.ref t, rfl, t, od, rfl, .inl ⟨ps.map ent, upd_same, for_it (walk_keys (d := t) (o := od) (kvs := ps.map ent))
      (fun i σ H4 => ∃ v4, σ = [some (.ref e), some (.ref a), some (.ref t), some (.ref d), v4] ∧ (∀ c u, c ≠ t → c ≠ d → H1 c = some u → H4 c = some u) ∧ H4 t = some (.frz od (.dK (ps.map ent))) ∧ H4 d = some (.dT ((ps.take i).map entT)))
      ⟨none, rfl, fun c u n1 n2 z => by rw [upd_ne n1]; exact s2 _ _ z, upd_same, by rw [upd_ne ntd.symm, upd_same]; rfl⟩ (fun i σ H4 _ ⟨_, _, _, h, _⟩ => h) ?_ ?_⟩⟩
    · rintro i y σ H4 H5 hi ⟨v4, rfl, b4, t4, d4⟩ ⟨rfl, k, v, ek, rfl⟩
      rw [List.length_map] at hi
      have ep : ps[i]? = some ps[i] := List.getElem?_eq_getElem hi
      rw [List.getElem?_map, ep] at ek
      have ek2 : ent ps[i] = (k, v) := Option.some.inj ek
      have hm : ps[i] ∈ ps := List.getElem_mem hi
      generalize ps[i] = g at ep ek2 hm
      have k1 : (Sum.inl (g.1 : Int) : Key) = k := congrArg Prod.fst ek2
      subst k1
      have gM : g.1 ∈ M := by
        rw [← e1]
        exact List.mem_map.mpr ⟨g, hm, rfl⟩
      have g1024 := M1024 _ gM
      have exM : M[i]? = some g.1 := by
        rw [← e1, List.getElem?_map, ep]
        rfl
      have sub : ∀ z ∈ (ps.take i).map (·.1), z < 1024 := fun z hz => by
        rw [List.map_take, e1] at hz
        exact M1024 z (List.mem_of_mem_take hz)
      have ni : g.1 ∉ (ps.take i).map (·.1) := by
        rw [List.map_take, e1]
        exact not_lower bn.rise exM
      obtain ⟨a2, ha2, hv2⟩ := tells_val ps g.1 (by rw [e1]; exact gM)
      -- the dict's value at this key is the i-th
      have ea2 : a2 = g.2 := by
        obtain ⟨j, hj, ej⟩ := List.mem_iff_getElem.mp ha2
        have hj2 : M[j]? = some g.1 := by
          rw [← e1, List.getElem?_map, List.getElem?_eq_getElem hj, ej]
          rfl
        have hji : j = i := by
          by_cases z : j = i
          · exact z
          · exfalso
            have hjl := (List.getElem?_eq_some_iff.mp hj2).1
            have hil := (List.getElem?_eq_some_iff.mp exM).1
            have v1 := (List.getElem?_eq_some_iff.mp hj2).2
            have v2 := (List.getElem?_eq_some_iff.mp exM).2
            rcases Nat.lt_or_gt_of_ne z with z | z
            · have := List.pairwise_iff_getElem.mp bn.rise j i hjl hil z
              omega
            · have := List.pairwise_iff_getElem.mp bn.rise i j hil hjl z
              omega
        subst hji
        rw [List.getElem?_eq_getElem hj, ej] at ep
        exact congrArg Prod.snd (Option.some.inj ep)
      subst ea2
      refine ⟨.ref t, rfl, _, rfl, t, V.ref g.2, rfl, .inl ⟨_, Sum.inl (g.1 : Int), .inr ⟨od, t4⟩, rfl, hv2.symm⟩, ?_⟩
      refine ⟨.ref d, rfl, _, rfl, g.1, rfl, g1024, fun H6 c s6 nc hc => ?_⟩
      have d6 := s6 _ _ d4
      have pl2 : ((ps.take i).map entT).length < sizeLine := by
        rw [List.length_map, List.length_take]
        exact small4k (by omega)
      refine ⟨d, _, rfl, DPut.t (k := tkey g.1) d6 (by rw [tkey_V]; exact hc) pl2, ?_⟩
      have epk : putK ((ps.take i).map entT) (tkey g.1) (V.ref g.2) = (ps.take (i + 1)).map entT := by
        rw [putK_new _ (book_none _ _ g1024 sub ni), List.take_add_one, ep, List.map_append]
        rfl
      rw [epk]
      refine ⟨_, rfl, fun c' u n1 n2 z => ?_, ?_, upd_same⟩
      · rw [upd_ne n2]
        exact s6 _ _ (b4 c' u n1 n2 z)
      · rw [upd_ne ntd]
        exact s6 _ _ t4
    · rintro σ H4 ⟨v4, rfl, b4, t4, d4⟩
      rw [List.length_map, List.take_length] at d4
      refine ⟨t4, .ref d, rfl, q _ d M (fun c u z => ?_) nH ⟨ps, e1, ?_, fun p hp => ?_⟩ bn⟩
      · by_cases n1 : c = t
        · have z1 := s1 _ _ z
          rw [n1] at z1 ⊢
          rw [upd_same]
          exact e2.symm.trans z1
        · rw [upd_ne n1]
          exact b4 c u n1 (ne_of_none z nH) (s1 _ _ z)
      · rw [upd_ne ntd.symm]
        exact d4
      · have h := e3 p hp
        have n1 : p.2 ≠ t := ne_of h e2 (by intro z; cases z)
        rw [upd_ne n1]
        exact b4 _ _ n1 (ne_of_none h nd) h
end
end Mk
namespace Mk
open PySem PySem.Spec PyProof.Rows L2 MkR
theorem eqv_tnil {l : List Nat} (h : l ≠ []) : PyData.eqv (.tuple (dInts l)) (.tuple []) = false := by
  cases l with
  | nil => exact absurd rfl h
  | cons k l => rfl
section
variable {P : Program} {w : World} {K : PySem.W.Frag} {mg : Str → Option Value} {base : Heap}
theorem ok_is_whole {f : Addr} {fd : FuncData} (F : Fun K "is_whole" "is_whole" sIsWhole f fd) (T : Bi mg) : FnOk P w K mg base CX0 1 f fd ["thing"] spIsWhole := by
  refine F.ok scIsWhole (fun vs H Q E h => ?_) (fun cdv A outer s H vs Q E hr h => ?_)
  · obtain ⟨i, rfl, _⟩ := h
    rfl
  · obtain ⟨i, rfl, q⟩ := h
    refine ⟨_, pss_one (ps_ret (pe_and (pe_callB call_isi (by rfl) T.isinstance (by decide +kernel) (pa_cons (pv 0) (pa_cons (pe_bltn (by rfl) T.int (by decide +kernel) (v := .ty "int") rfl) pa_nil)))
      (pe_one (pe_not (pe_callB call_isi (by rfl) T.isinstance (by decide +kernel) (pa_cons (pv 0) (pa_cons (pe_bltn (by rfl) T.bool (by decide +kernel) (v := .ty "bool") rfl) pa_nil))))))), ?_⟩
    exact ⟨.int i, rfl, .int i, .ty "int", .type "int", .type "int", true, rfl, .ty "int", .base (.int i), kit_ty (by decide +kernel), true, rfl,
      .int i, rfl, .int i, .ty "bool", .type "int", .type "bool", false, rfl, .ty "bool", .base (.int i), kit_ty (by decide +kernel), false, rfl, q⟩
theorem ok_is_set {f : Addr} {fd : FuncData} (F : Fun K "is_set" "is_set" sIsSet f fd) (T : Bi mg) (cW : Cal P w K mg base 1 "is_whole" ["thing"] spIsWhole) : FnOk P w K mg base CX0 2 f fd ["thing", "many"] spIsSet := by
  refine F.ok scIsSet (fun vs H Q E h => ?_) (fun cdv A outer s H vs Q E hr h => ?_)
  · obtain ⟨p, l, n, rfl, _⟩ := h
    rfl
  · obtain ⟨p, l, n, rfl, hp, hne, h10, rise, hlt, q⟩ := h
    refine ⟨_, pss_cons (ps_if (PW.pt (pw_or (pt_not (pt_val (pe_callB call_isi (by rfl) T.isinstance (by decide +kernel) (pa_cons (pv 0) (pa_cons (pe_bltn (by rfl) T.tuple (by decide +kernel) (v := .ty "tuple") rfl) pa_nil)))))
        (pw_or1 (pt_cmpR (op_eqD hr.units) (pv 0) (pe_tup pa_nil) (nomark _))))) (pss_one (ps_ret pe_bl)) pss_nil)
      (pss_cons (ps_for PassesOwn.never rfl (pi_enumT (by rfl) T.enumerate (pa_cons (pv 0) pa_nil)) (pg_tup rfl (pgs_cons (pg_name (i := 2) scIsSet.nd rfl (.inl rfl)) (pgs_cons (pg_name (i := 3) scIsSet.nd rfl (.inl rfl)) pgs_nil)))
        (pss_one (ps_if (PW.pt (pw_or (pt_not (pt_val (pe_cal cW hr (pa_cons (pv 3) pa_nil)))) (pw_or (pt_not (pt_chain op_le op_lt pe_int (pv 3) (pv 1)))
          (pw_or1 (PW.pt (pw_and (pt_cmpR op_gt (pv 2) pe_int (nomark _)) (pw_and1 (pt_cmpR op_ge (pe_ix ix_tup (pv 0) (pe_op op_sub (pv 2) pe_int) (fun _ _ => rfl)) (pv 3) (nomark _)))))))))
          (pss_one (ps_ret pe_bl)) pss_nil)))
      (pss_one (ps_ret pe_bl))), ?_⟩
    refine ⟨.ref p, rfl, .ref p, .ty "tuple", .type "tuple", .type "tuple", true, rfl, .ty "tuple", .base (.tup hp), kit_ty (by decide +kernel), true, rfl, ?_⟩
    refine iteF ?_
    refine ⟨.ref p, rfl, Nat.zero_le _, fun z nz => ?_⟩
    have s1 : Same H (upd H z (.tup [])) := same_upd nz
    refine ⟨.tuple (dInts l), .tuple [], .tup (SqT.of (s1 _ _ hp)) (dp_ints l), .tup (SqT.of upd_same) .nil, shaped_tup l, by decide, _, rfl, ?_⟩
    rw [eqv_tnil hne]
    refine iteF ?_
    refine ⟨.ref p, rfl, p, nls l, rfl, SqT.of (s1 _ _ hp), for_it (walk_enumT (K := K) (a := p) (xs := nls l))
      (fun i σ H3 => ∃ v2 v3, σ = [some (.ref p), some (nV n), v2, v3] ∧ Same H H3) ⟨none, none, rfl, s1⟩ (fun i σ H3 _ ⟨_, _, _, s3⟩ => SqT.of (s3 _ _ hp)) ?_ ?_⟩
    · rintro i x σ H3 H4 hi ⟨v2, v3, rfl, s3⟩ ⟨T1, x1, x2, rfl, nT, rfl, e1, e2⟩
      have ex1 : V.int (i : Nat) = x1 := Option.some.inj e1
      subst ex1
      obtain ⟨k, ek, rfl⟩ := nls_at (show (nls l)[i]? = some x2 from e2)
      have hkn := hlt k (List.mem_of_getElem? ek)
      have s4 : Same H3 (upd H3 T1 (.tup [V.int (i : Nat), nV k])) := same_upd nT
      have hp4 := s4 _ _ (s3 _ _ hp)
      refine ⟨T1, [V.int (i : Nat), nV k], rfl, SqT.of upd_same, rfl, _, [nV k], rfl, _, [], rfl, rfl, ?_⟩
      refine ⟨_, rfl, (k : Int), rfl, true, rfl, ?_⟩
      refine iteF ?_
      refine ⟨_, rfl, _, _, rfl, rfl, true, congrArg V.bl (decide_eq_true (show (0 : Int) ≤ (k : Int) by omega)), _, rfl, _, _, rfl, rfl, true, congrArg V.bl (decide_eq_true (show (k : Int) < (n : Int) by omega)), ?_⟩
      refine iteF ?_
      refine ⟨_, rfl, _, _, rfl, rfl, _, rfl, ite2 (fun hb => ?_) (fun hb => ?_)⟩
      · have i0 : (i : Int) > 0 := of_decide_eq_true hb
        have hil := (List.getElem?_eq_some_iff.mp ek).1
        have e3 : l[i - 1]? = some l[i - 1] := List.getElem?_eq_getElem (by omega)
        have e4 : ((i : Int) - 1) = ((i - 1 : Nat) : Int) := by omega
        refine ⟨.ref p, rfl, _, rfl, _, _, rfl, rfl, p, _, ((i - 1 : Nat) : Int), nV l[i - 1], rfl, congrArg V.int e4, SqT.of hp4, atI_nat (nls_get e3), _, rfl, _, _, rfl, rfl, _, rfl, ?_⟩
        have lt2 : l[i - 1] < k := by
          have := List.pairwise_iff_getElem.mp rise (i - 1) i (by omega) hil (by omega)
          have e5 := (List.getElem?_eq_some_iff.mp ek).2
          omega
        refine ite2 (fun hb => ?_) (fun _ => ⟨_, _, rfl, s3.trans s4⟩)
        have z : (l[i - 1] : Int) ≥ (k : Int) := of_decide_eq_true hb
        omega
      · exact ⟨_, _, rfl, s3.trans s4⟩
    · rintro σ H3 ⟨v2, v3, rfl, s3⟩
      exact q H3 s3
end
end Mk
namespace Mk
open PySem PySem.Spec PyProof.Rows L2 MkR
/-! ### the numbers that part, each once -/
theorem partsTo_lt {ls : List Nat} {b i : Nat} {q : Part} (h : q ∈ partsTo ls b i) : q.1 < i := by
  unfold partsTo at h
  obtain ⟨k, hk, e⟩ := List.mem_filterMap.mp h
  rw [List.mem_range] at hk
  rw [(part1_is e).1]
  exact hk
theorem partsTo_rise (ls : List Nat) (b : Nat) : ∀ i, (partsTo ls b i).Pairwise fun p q => p.1 < q.1
  | 0 => List.Pairwise.nil
  | i + 1 => by
    rw [partsTo_succ]
    cases e : part1 ls b i with
    | none =>
      rw [Option.toList_none, List.append_nil]
      exact partsTo_rise ls b i
    | some q =>
      refine List.pairwise_append.mpr ⟨partsTo_rise ls b i, List.pairwise_cons.mpr ⟨fun _ h => (by cases h), List.Pairwise.nil⟩, fun p hp x hx => ?_⟩
      have ex : x = q := List.mem_singleton.mp hx
      subst ex
      rw [(part1_is e).1]
      exact partsTo_lt hp
def went (f : Nat → Nat) (q : Part) : Key × V := (Sum.inl (q.1 : Int), nV (1 + max (f q.2.1) (f q.2.2)))
theorem worst_none (f : Nat → Nat) : ∀ (L : List Part) (n : Nat), (∀ q ∈ L, q.1 ≠ n) → valV (L.map (went f)) (Sum.inl (n : Int) : Key) = none
  | [], n, _ => rfl
  | q :: L, n, h => by
    have e := h q List.mem_cons_self
    rw [List.map_cons, valV_neg (p := went f q) (k := (Sum.inl (n : Int) : Key)) (fun z : (Sum.inl (q.1 : Int) : Key) = Sum.inl (n : Int) => e (by have := Sum.inl.inj z; omega))]
    exact worst_none f L n fun x hx => h x (List.mem_cons_of_mem _ hx)
theorem worst_val (f : Nat → Nat) : ∀ (L : List Part), (L.Pairwise fun p q => p.1 < q.1) → ∀ p ∈ L, valV (L.map (went f)) (Sum.inl (p.1 : Int) : Key) = some (nV (1 + max (f p.2.1) (f p.2.2)))
  | [], _, p, h => by cases h
  | q :: L, s, p, h => by
    rcases Iff.mp List.mem_cons h with e | h
    · subst e
      exact valV_pos (p := went f p) (k := (Sum.inl (p.1 : Int) : Key)) rfl
    · have lt := (List.pairwise_cons.mp s).1 p h
      rw [List.map_cons, valV_neg (p := went f q) (k := (Sum.inl (p.1 : Int) : Key)) (fun z : (Sum.inl (q.1 : Int) : Key) = Sum.inl (p.1 : Int) => absurd (Sum.inl.inj z) (by omega))]
      exact worst_val f L (List.pairwise_cons.mp s).2 p h
section
variable {P : Program} {w : World} {K : PySem.W.Frag} {mg : Str → Option Value} {base : Heap}
theorem ok_holds_line {f : Addr} {fd : FuncData} (F : Fun K "holds_line" "holds_line" sHoldsLine f fd) (T : Bi mg) (cW : Cal P w K mg base 1 "is_whole" ["thing"] spIsWhole) (cP : Cal P w K mg base 1 "parting" ["lines", "bits"] spParting) :
    FnOk P w K mg base CX0 2 f fd ["lines", "told", "bits"] spHoldsLine := by
  refine F.ok scHoldsLine (fun vs H Q E h => ?_) (fun cdv A outer s H vs Q E hr h => ?_)
  · obtain ⟨l, t, ls, b, M, rfl, _⟩ := h
    rfl
  · obtain ⟨l, t, ls, b, M, rfl, hl, hl10, lok, ht, bM, b0, bl, hpt, q⟩ := h
    have hu := hu_of hr
    refine ⟨_, pss_cons (ps_set (i := 3) scHoldsLine.nd rfl (.inl rfl) (pe_dget hu (pv 1) (pv 2) (fun _ _ => rfl)))
      (pss_cons (ps_if (PW.pt (pw_or (pt_not (pt_val (pe_callB call_isi (by rfl) T.isinstance (by decide +kernel) (pa_cons (pv 3) (pa_cons (pe_bltn (by rfl) T.tuple (by decide +kernel) (v := .ty "tuple") rfl) pa_nil)))))
        (pw_or (pt_cmpR op_ne (pe_callB call_len_seq (by rfl) T.len PySem.boot_len (pa_cons (pv 3) pa_nil)) pe_int (nomark _)) (pw_or1 (pt_not (pt_val (pe_cal cW hr (pa_cons (pe_ix ix_tup (pv 3) pe_int (fun _ _ => rfl)) pa_nil)))))))) (pss_one (ps_ret pe_bl)) pss_nil)
      (pss_cons (ps_if (pt_cmpR op_eq (pe_op op_and (pv 2) (pe_op op_sub (pv 2) pe_int)) pe_int (nomark _))
        (pss_one (ps_ret (pe_and (pe_cmpR op_eq (pe_ix ix_tup (pv 3) pe_int (fun _ _ => rfl)) pe_int (nomark _)) (pe_one (pe_cmpR op_isN (pe_ix ix_tup (pv 3) pe_int (fun _ _ => rfl)) pe_non (nomark _)))))) pss_nil)
      (pss_cons (ps_set (i := 4) scHoldsLine.nd rfl (.inl rfl) pe_dnewK)
      (pss_cons (ps_for PassesOwn.never rfl (pi_list (pe_cal cP hr (pa_cons (pv 0) (pa_cons (pv 2) pa_nil))))
        (pg_tup rfl (pgs_cons (pg_name (i := 5) scHoldsLine.nd rfl (.inl rfl)) (pgs_cons (pg_name (i := 6) scHoldsLine.nd rfl (.inl rfl)) (pgs_cons (pg_name (i := 7) scHoldsLine.nd rfl (.inl rfl)) pgs_nil))))
        (pss_cons (ps_if (PW.pt (pw_or (pt_cmp (pc_dnotin hu (pv 6) (pv 1))) (pw_or1 (pt_cmp (pc_dnotin hu (pv 7) (pv 1)))))) (pss_one (ps_ret pe_bl)) pss_nil)
        (pss_one (ps_dput hu (pv 4) (pv 5) (pe_op op_add pe_int (pe_callB (call_max2 rfl) (by rfl) T.max (by decide +kernel)
          (pa_cons (pe_ix ix_tup (pe_dget hu (pv 1) (pv 6) (fun _ _ => rfl)) pe_int (fun _ _ => rfl)) (pa_cons (pe_ix ix_tup (pe_dget hu (pv 1) (pv 7) (fun _ _ => rfl)) pe_int (fun _ _ => rfl)) pa_nil)))) rfl))))
      (pss_cons (ps_if (PW.pt (pw_or (pt_not (pt_val (pe_cal cW hr (pa_cons (pe_ix ix_tup (pv 3) pe_int (fun _ _ => rfl)) pa_nil)))) (pw_or1 (pt_cmp (pc_dnotin hu (pe_ix ix_tup (pv 3) pe_int (fun _ _ => rfl)) (pv 4)))))) (pss_one (ps_ret pe_bl)) pss_nil)
      (pss_one (ps_ret (pe_and (pe_cmpR op_eq (pe_ix ix_tup (pv 3) pe_int (fun _ _ => rfl)) (pe_dget hu (pv 4) (pe_ix ix_tup (pv 3) pe_int (fun _ _ => rfl)) (fun _ _ => rfl)) (nomark _))
        (pe_one (pe_cmpR op_eq (pe_ix ix_tup (pv 3) pe_int (fun _ _ => rfl)) (pe_callB (cr_minV rfl) (by rfl) T.min (by decide +kernel) (pa_cons (pe_bm0 PySem.F.plainAttrs_dict PySem.F.slot_dict_values PySem.F.type_dict_values mt_values (pv 4)) pa_nil)) (nomark _))))))))))), ?_⟩
    -- line = told[bits]
    obtain ⟨c, dg, hc⟩ := tells_get ht bM
    refine ⟨.ref t, rfl, _, rfl, t, _, rfl, dg, ?_⟩
    refine ⟨.ref c, rfl, .ref c, .ty "tuple", .type "tuple", .type "tuple", true, rfl, .ty "tuple", .base (.tup hc), kit_ty (by decide +kernel), true, rfl, ?_⟩
    refine iteF ?_
    refine ⟨.ref c, rfl, c, _, rfl, .inr (SqT.of hc), rfl, _, rfl, iteNS rfl ?_⟩
    refine ⟨.ref c, rfl, c, _, 0, nV (B ls b).1, rfl, rfl, SqT.of hc, atI_nat (j := 0) rfl, _, rfl, true, rfl, ?_⟩
    refine iteF ?_
    -- a set of one number
    have e1 : ((b : Int) - 1) = ((b - 1 : Nat) : Int) := by omega
    refine ⟨_, rfl, _, rfl, _, _, rfl, rfl, _, _, rfl, rfl, rfl, _, rfl, ?_⟩
    show if decide (V.int (Builtin.bitAnd (b : Int) ((b : Int) - 1)) = V.int 0) = true then _ else _
    rw [e1, and_nV]
    by_cases one : b &&& (b - 1) = 0
    · rw [one]
      have eb := B_none (no_part (ls := ls) (Nat.ne_of_gt b0) one)
      rw [eb] at hc
      refine ite2 (fun _ => ?_) (fun z => absurd (decide_eq_true rfl) z)
      exact ⟨.ref c, rfl, c, _, 0, nV 0, rfl, rfl, SqT.of hc, atI_nat (j := 0) rfl, rfl, true, rfl, .ref c, rfl, c, _, 1, .non, rfl, rfl, SqT.of hc, atI_nat (j := 1) rfl, rfl, q H (fun _ _ e => e)⟩
    · refine ite2 (fun z => absurd (nV_inj (b := 0) (of_decide_eq_true z)) one) (fun _ => ?_)
      have pne := some_part lok (Nat.ne_of_gt b0) bl one
      -- worst = {}
      intro d nd
      have s1 : Same H (upd H d (.dK [])) := same_upd nd
      refine ⟨.ref l, rfl, _, rfl, l, ls, b, rfl, s1 _ _ hl, hl10, fun H2 p s2 np hp2 => ?_⟩
      obtain ⟨as, hp, hlen, hat⟩ := hp2
      have npd : p ≠ d := ne_of_none' np upd_same
      have hd2 : H2 d = some (.dK []) := s2 _ _ upd_same
      have s12 := s1.trans s2
      have pl : (parting ls b).length ≤ ls.length := partsTo_len ls b ls.length
      refine ⟨p, rfl, ⟨_, SqL.of hp⟩, for_list (K := K) (a := p) (xs := as.map V.ref)
        (fun i σ H3 => ∃ (v5 v6 v7 : Option V), σ = [some (.ref l), some (.ref t), some (nV b), some (.ref c), some (.ref d), v5, v6, v7] ∧ But d H2 H3 ∧ Same H H3 ∧ H3 d = some (.dK (((parting ls b).take i).map (went fun p => (B ls p).1))))
        ⟨none, none, none, rfl, fun _ _ _ e => e, s12, hd2⟩ (fun i σ H3 _ ⟨_, _, _, _, b3, _⟩ => SqL.of (b3 _ _ npd hp)) ?_ ?_⟩
      · rintro i y σ H3 hi ⟨v5, v6, v7, rfl, b3, s3, hd3⟩
        rw [List.getElem?_map] at hi
        obtain ⟨a, ea, rfl⟩ := Option.map_eq_some_iff.mp hi
        have hia : i < as.length := (List.getElem?_eq_some_iff.mp ea).1
        have hip : i < (parting ls b).length := by omega
        have eq : (parting ls b)[i]? = some (parting ls b)[i] := List.getElem?_eq_getElem hip
        have prev : ∀ x ∈ (parting ls b).take i, x.1 < (parting ls b)[i].1 := fun x hx => by
          obtain ⟨j, hj, e⟩ := List.mem_take_iff_getElem.mp hx
          rw [← e]
          exact List.pairwise_iff_getElem.mp (partsTo_rise ls b ls.length) j i (by show j < (parting ls b).length; omega) hip (by omega)
        generalize (parting ls b)[i] = g at eq prev
        have hg := List.mem_of_getElem? eq
        have h2 := hat i g a eq ea
        have ha3 := b3 _ _ (ne_of h2 hd2 (by intro z; cases z)) h2
        refine ⟨a, [nV g.1, nV g.2.1, nV g.2.2], rfl, SqT.of ha3, rfl, _, [nV g.2.1, nV g.2.2], rfl, _, [nV g.2.2], rfl, _, [], rfl, rfl, ?_⟩
        have t3 := Same.tells s3 ht
        obtain ⟨a1, d1, h1⟩ := tells_get t3 (hpt g hg).1
        obtain ⟨a2, d2, h2⟩ := tells_get t3 (hpt g hg).2
        refine ⟨_, rfl, .ref t, rfl, t, _, rfl, d1, _, rfl, ?_⟩
        refine iteF ?_
        refine ⟨_, rfl, .ref t, rfl, t, _, rfl, d2, _, rfl, ?_⟩
        refine iteF ?_
        refine ⟨.ref t, rfl, _, rfl, t, _, rfl, d1, a1, _, 0, nV (B ls g.2.1).1, rfl, rfl, SqT.of h1, atI_nat (j := 0) rfl, .ref t, rfl, _, rfl, t, _, rfl, d2, a2, _, 0, nV (B ls g.2.2).1, rfl, rfl, SqT.of h2, atI_nat (j := 0) rfl, _, _, rfl, _, _, rfl, rfl, ?_⟩
        refine ⟨.ref d, rfl, _, rfl, d, _, rfl, DPut.k (k := Sum.inl (g.1 : Int)) hd3 ?_, ?_⟩
        · rw [List.length_map, List.length_take]
          exact small4k (by omega)
        · have ep : putK (((parting ls b).take i).map (went fun p => (B ls p).1)) (Sum.inl (g.1 : Int) : Key) (V.int ((1 : Int) + (if ((B ls g.2.2).1 : Int) > ((B ls g.2.1).1 : Int) then ((B ls g.2.2).1 : Int) else ((B ls g.2.1).1 : Int)))) = ((parting ls b).take (i + 1)).map (went fun p => (B ls p).1) := by
            rw [max_nn, putK_new _ (worst_none _ _ _ fun x hx => Nat.ne_of_lt (prev x hx)), List.take_add_one, eq, List.map_append]
            rfl
          refine ⟨_, _, _, rfl, fun c' u n z => ?_, fun c' u z => ?_, ?_⟩
          · rw [upd_ne n]
            exact b3 c' u n z
          · rw [upd_ne (ne_of_none z nd)]
            exact s3 c' u z
          · rw [upd_same]
            exact congrArg (fun z => some (HO.dK z)) ep
      · rintro σ H3 ⟨v5, v6, v7, rfl, b3, s3, hd3⟩
        rw [List.length_map, hlen, show (parting ls b).take (parting ls b).length = parting ls b from List.take_length] at hd3
        obtain ⟨g, hg, eb⟩ := B_at pne
        have hle : ∀ x ∈ parting ls b, (B ls b).1 ≤ 1 + max (B ls x.2.1).1 (B ls x.2.2).1 := fun x hx => B_le hx
        have eb1 : (B ls b).1 = 1 + max (B ls g.2.1).1 (B ls g.2.2).1 := by rw [eb]
        have hc3 := s3 _ _ hc
        have hc3' : H3 c = some (.tup [nV (B ls b).1, nV g.1]) := by
          rw [hc3, eb]
          rfl
        have vg := worst_val (fun p => (B ls p).1) (parting ls b) (partsTo_rise ls b ls.length) g hg
        have dg3 : DGet H3 d (nV g.1) (some (nV (1 + max (B ls g.2.1).1 (B ls g.2.2).1))) := .inl ⟨_, Sum.inl (g.1 : Int), .inl hd3, rfl, vg.symm⟩
        refine ⟨.ref c, rfl, c, _, 1, nV g.1, rfl, rfl, SqT.of hc3', atI_nat (j := 1) rfl, _, rfl, true, rfl, ?_⟩
        refine iteF ?_
        refine ⟨.ref c, rfl, c, _, 1, nV g.1, rfl, rfl, SqT.of hc3', atI_nat (j := 1) rfl, .ref d, rfl, d, _, rfl, dg3, _, rfl, ?_⟩
        refine iteF ?_
        refine ⟨.ref c, rfl, c, _, 0, nV (B ls b).1, rfl, rfl, SqT.of hc3', atI_nat (j := 0) rfl, .ref d, rfl, .ref c, rfl, c, _, 1, nV g.1, rfl, rfl, SqT.of hc3', atI_nat (j := 1) rfl, d, _, rfl, dg3, rfl, true, congrArg V.bl (decide_eq_true (congrArg nV eb1)), ?_⟩
        refine ⟨.ref c, rfl, c, _, 0, nV (B ls b).1, rfl, rfl, SqT.of hc3', atI_nat (j := 0) rfl, .ref d, rfl, .inr (.inr (.inl ⟨rfl, .inl ⟨_, hd3⟩⟩)), d, _, rfl, rfl, hd3, fun v nv => ?_⟩
        have s4 : Same H3 (upd H3 v (viewV v d)) := same_upd nv
        refine ⟨v, d, _, (parting ls b).map fun x => ((1 + max (B ls x.2.1).1 (B ls x.2.2).1 : Nat) : Int), rfl, upd_same, s4 _ _ hd3, ?_, ?_, fun m hm hmin => ?_⟩
        · rw [List.map_map, List.map_map]
          rfl
        · rw [List.length_map]
          exact List.length_pos_iff.mpr pne
        · obtain ⟨x, hx, ex⟩ := List.mem_map.mp hm
          have l1 := hmin _ (List.mem_map.mpr ⟨g, hg, rfl⟩)
          have l2 := hle x hx
          have em : m = ((B ls b).1 : Int) := by
            have ex2 : ((1 + max (B ls x.2.1).1 (B ls x.2.2).1 : Nat) : Int) = m := ex
            have l3 : m ≤ ((1 + max (B ls g.2.1).1 (B ls g.2.2).1 : Nat) : Int) := l1
            omega
          subst em
          refine ⟨rfl, ?_⟩
          show Q (V.bl (decide (nV (B ls b).1 = V.int ((B ls b).1 : Int)))) _
          rw [decide_eq_true (show nV (B ls b).1 = V.int ((B ls b).1 : Int) from rfl)]
          exact q _ (s3.trans s4)
end
end Mk
namespace Mk
open PySem PySem.Spec PyProof.Rows L2 MkR
theorem entry_at {M : List Nat} (rise : M.Pairwise (· < ·)) {ps : List (Nat × Addr)} (e1 : ps.map (·.1) = M) {i : Nat} {g : Nat × Addr} {a : Addr} (ep : ps[i]? = some g) (ha : (g.1, a) ∈ ps) : a = g.2 := by
  obtain ⟨j, hj, ej⟩ := List.mem_iff_getElem.mp ha
  have exM : M[i]? = some g.1 := by
    rw [← e1, List.getElem?_map, ep]
    rfl
  have hj2 : M[j]? = some g.1 := by
    rw [← e1, List.getElem?_map, List.getElem?_eq_getElem hj, ej]
    rfl
  have hji : j = i := by
    by_cases z : j = i
    · exact z
    · exfalso
      have hjl := (List.getElem?_eq_some_iff.mp hj2).1
      have hil := (List.getElem?_eq_some_iff.mp exM).1
      have v1 := (List.getElem?_eq_some_iff.mp hj2).2
      have v2 := (List.getElem?_eq_some_iff.mp exM).2
      rcases Nat.lt_or_gt_of_ne z with z | z
      · have := List.pairwise_iff_getElem.mp rise j i hjl hil z
        omega
      · have := List.pairwise_iff_getElem.mp rise i j hil hjl z
        omega
  subst hji
  rw [List.getElem?_eq_getElem hj, ej] at ep
  exact congrArg Prod.snd (Option.some.inj ep)
theorem tup_lt {x n : Nat} (hx : x < 2 ^ n) {k : Nat} (h : k ∈ tupOf x) : k < n := by
  have hb := (mem_upTo.mp h).2
  by_cases z : k < n
  · exact z
  · rw [Nat.testBit_lt_two_pow (Nat.lt_of_lt_of_le hx (Nat.pow_le_pow_right (by decide) (Nat.le_of_not_lt z)))] at hb
    cases hb
section
variable {P : Program} {w : World} {K : PySem.W.Frag} {mg : Str → Option Value} {base : Heap}
theorem ok_is_book {f : Addr} {fd : FuncData} (F : Fun K "is_book" "is_book" sIsBook f fd) (T : Bi mg) (cL : Cal P w K mg base 1 "lines_of" ["elders"] spLinesOf) (cB : Cal P w K mg base 1 "bits_of" ["some"] spBitsOf)
    (cS : Cal P w K mg base 2 "is_set" ["thing", "many"] spIsSet) (cH : Cal P w K mg base 2 "holds_line" ["lines", "told", "bits"] spHoldsLine) : FnOk P w K mg base CX0 3 f fd ["elders", "some", "thing"] spIsBook := by
  refine F.ok scIsBook (fun vs H Q E h => ?_) (fun cdv A outer s H vs Q E hr h => ?_)
  · obtain ⟨e, a, t, es, b, M, rfl, _⟩ := h
    rfl
  · obtain ⟨e, a, t, es, b, M, rfl, he, wf, h10, ha, bl, ht, bn, q⟩ := h
    have hu := hu_of hr
    refine ⟨_, pss_cons (ps_if (PW.pt (pw_or (pt_not (pt_val (pe_callB call_isi (by rfl) T.isinstance (by decide +kernel) (pa_cons (pv 2) (pa_cons (pe_bltn (by rfl) T.dict (by decide +kernel) (v := .ty "dict") rfl) pa_nil)))))
        (pw_or1 (pt_cmp (pc_dnotin hu (pv 1) (pv 2)))))) (pss_one (ps_ret pe_bl)) pss_nil)
      (pss_cons (ps_set (i := 3) scIsBook.nd rfl (.inl rfl) (pe_cal cL hr (pa_cons (pv 0) pa_nil)))
      (pss_cons (ps_set (i := 4) scIsBook.nd rfl (.inl rfl) pe_dnewK)
      (pss_cons (ps_lock (ps_for PassesOwn.never rfl (pi_keys (pv 2)) (pg_name (i := 5) scIsBook.nd rfl (.inl rfl))
        (pss_cons (ps_if (pt_not (pt_val (pe_cal cS hr (pa_cons (pv 5) (pa_cons (pe_callB call_len_seq (by rfl) T.len PySem.boot_len (pa_cons (pv 3) pa_nil)) pa_nil))))) (pss_one (ps_ret pe_bl)) pss_nil)
        (pss_one (ps_dput hu (pv 4) (pe_cal cB hr (pa_cons (pv 5) pa_nil)) (pe_dget hu (pv 2) (pv 5) (fun _ _ => rfl)) rfl)))))
      (pss_cons (ps_for PassesOwn.never rfl (pi_list (pe_callB (sortedDict rfl) (by rfl) T.sorted (by decide +kernel) (pa_cons (pv 4) pa_nil))) (pg_name (i := 6) scIsBook.nd rfl (.inl rfl))
        (pss_one (ps_if (pt_not (pt_val (pe_cal cH hr (pa_cons (pv 3) (pa_cons (pv 4) (pa_cons (pv 6) pa_nil)))))) (pss_one (ps_ret pe_bl)) pss_nil)))
      (pss_one (ps_ret pe_bl)))))), ?_⟩
    obtain ⟨ps, e1, e2, e3⟩ := ht
    have hlen := (lines_ok wf).2
    have lok := (lines_ok wf).1
    have p10 : 2 ^ es.length ≤ 1024 := Nat.pow_le_pow_right (n := 2) (j := 10) (by decide) h10
    have Mb : ∀ y ∈ M, 0 < y ∧ y < 2 ^ es.length := fun y hy => by
      have := bn.some_ y hy
      omega
    have M1024 : ∀ y ∈ M, y < 1024 := fun y hy => by
      have := (Mb y hy).2
      omega
    have pl : ps.length ≤ 1100 := by
      have z := congrArg List.length e1
      rw [List.length_map] at z
      have fw := few (b + 1) M (bn.rise.imp fun {a b} h => Nat.ne_of_lt h) fun y hy => by
        have := (bn.some_ y hy).2
        omega
      omega
    obtain ⟨c0, hc0, hv0⟩ := book_val ps b (by omega) (by rw [e1]; exact M1024) (by rw [e1]; exact bn.has)
    refine ⟨.ref t, rfl, .ref t, .ty "dict", .type "dict", .type "dict", true, rfl, .ty "dict", .base (.dT e2), kit_ty (by decide +kernel), true, rfl, ?_⟩
    refine iteF ?_
    refine ⟨.ref a, rfl, .ref t, rfl, t, _, rfl, DGet.t (k := tkey b) e2 (by rw [tkey_V]; exact ha), _, rfl, ?_⟩
    rw [hv0]
    refine iteF ?_
    -- lines, told
    refine ⟨.ref e, rfl, e, es, rfl, he, wf, h10, fun H1 l s1 nl hl => ?_⟩
    intro d nd
    have s2 : Same H1 (upd H1 d (.dK [])) := same_upd nd
    have s12 := s1.trans s2
    have nH : H d = none := s1.free nd
    have ht2 := s12 _ _ e2
    have ntd : t ≠ d := ne_of_none e2 nH
    have nld : l ≠ d := ne_of_none hl nd
    have nlt : l ≠ t := ne_of hl (s1 _ _ e2) (by intro z; cases z)
    refine ⟨t, _, ht2, True.intro, fun od => ?_⟩
    refine ⟨.ref t, rfl, t, od, rfl, .inr ⟨ps.map entT, upd_same, for_it (walk_keysT (d := t) (o := od) (kvs := ps.map entT))
      (fun i σ H4 => ∃ v5, σ = [some (.ref e), some (.ref a), some (.ref t), some (.ref l), some (.ref d), v5, none] ∧ (∀ c u, c ≠ t → c ≠ d → H1 c = some u → H4 c = some u) ∧ H4 t = some (.frz od (.dT (ps.map entT))) ∧ H4 d = some (.dK ((ps.take i).map ent)))
      ⟨none, rfl, fun c u n1 n2 z => by rw [upd_ne n1]; exact s2 _ _ z, upd_same, by rw [upd_ne ntd.symm, upd_same]; rfl⟩ (fun i σ H4 _ ⟨_, _, _, h, _⟩ => h) ?_ ?_⟩⟩
    · rintro i y σ H4 H5 hi ⟨v5, rfl, b4, t4, d4⟩ ⟨rfl, k, v, o, ek, rfl, ho⟩
      rw [List.length_map] at hi
      have ep : ps[i]? = some ps[i] := List.getElem?_eq_getElem hi
      rw [List.getElem?_map, ep] at ek
      have ek2 : entT ps[i] = (k, v) := Option.some.inj ek
      have hm : ps[i] ∈ ps := List.getElem_mem hi
      generalize ps[i] = g at ep ek2 hm
      have k1 : tkey g.1 = k := congrArg Prod.fst ek2
      subst k1
      have gM : g.1 ∈ M := by
        rw [← e1]
        exact List.mem_map.mpr ⟨g, hm, rfl⟩
      have g1024 := M1024 _ gM
      have gb := Mb _ gM
      have exM : M[i]? = some g.1 := by
        rw [← e1, List.getElem?_map, ep]
        rfl
      have ni : g.1 ∉ (ps.take i).map (·.1) := by
        rw [List.map_take, e1]
        exact not_lower bn.rise exM
      obtain ⟨a2, ha2, hv2⟩ := book_val ps g.1 g1024 (by rw [e1]; exact M1024) (by rw [e1]; exact gM)
      have ea2 := entry_at bn.rise e1 ep ha2
      subst ea2
      have ho2 : H5 o = some (.tup (nls (tupOf g.1))) := by
        rw [← tkey_V]
        exact ho
      have hl4 : H5 l = some (.lst (nls (linesOf es))) := b4 _ _ nlt nld hl
      -- is_set(one, len(lines))
      refine ⟨.ref o, rfl, .ref l, rfl, l, _, rfl, .inl (SqL.of hl4), o, tupOf g.1, (nls (linesOf es)).length, rfl, ho2, tup_ne g1024 (Nat.ne_of_gt gb.1), upTo_len 10 g.1, upTo_rise 10 g.1, fun k hk => ?_, fun H6 s6 => ⟨true, rfl, ?_⟩⟩
      · rw [nls_len, hlen]
        exact tup_lt gb.2 hk
      · refine iteF ?_
        have t6 := s6 _ _ t4
        have d6 := s6 _ _ d4
        have o6 := s6 _ _ ho
        refine ⟨.ref t, rfl, _, rfl, t, V.ref g.2, rfl, .inr ⟨_, tkey g.1, o, .inr ⟨od, t6⟩, rfl, o6, hv2.symm⟩, .ref d, rfl, _, rfl, o, tupOf g.1, rfl, s6 _ _ ho2, fun k hk => (mem_upTo.mp hk).1, ?_⟩
        rw [bitsOf_tup g1024]
        refine ⟨d, _, rfl, DPut.k (k := Sum.inl (g.1 : Int)) d6 ?_, ?_⟩
        · rw [List.length_map, List.length_take]
          exact small4k (by omega)
        · have epk : putK ((ps.take i).map ent) (Sum.inl (g.1 : Int) : Key) (V.ref g.2) = (ps.take (i + 1)).map ent := by
            rw [putK_new _ (tells_none _ _ ni), List.take_add_one, ep, List.map_append]
            rfl
          rw [epk]
          refine ⟨_, rfl, fun c' u n1 n2 z => ?_, ?_, upd_same⟩
          · rw [upd_ne n2]
            exact s6 _ _ (b4 c' u n1 n2 z)
          · rw [upd_ne ntd]
            exact t6
    · rintro σ H4 ⟨v5, rfl, b4, t4, d4⟩
      rw [List.length_map, List.take_length] at d4
      refine ⟨t4, ?_⟩
      have sf : Same H (upd H4 t (.dT (ps.map entT))) := fun c u z => by
        by_cases n1 : c = t
        · rw [n1] at z ⊢
          rw [upd_same]
          exact e2.symm.trans z
        · rw [upd_ne n1]
          exact b4 c u n1 (ne_of_none z nH) (s1 _ _ z)
      have d7 : (upd H4 t (.dT (ps.map entT))) d = some (.dK (ps.map ent)) := by
        rw [upd_ne ntd.symm]
        exact d4
      have l7 : (upd H4 t (.dT (ps.map entT))) l = some (.lst (nls (linesOf es))) := by
        rw [upd_ne nlt]
        exact b4 _ _ nlt nld hl
      refine ⟨.ref d, rfl, d, ps.map ent, M.map fun (x : Nat) => (x : Int), rfl, .inl d7, by rw [← e1, List.map_map, List.map_map, List.map_map]; rfl, fun ys p pm pw np => ?_⟩
      obtain ⟨M2, eM, pM, sM⟩ := sorted_nats (bn.rise.imp fun {a b} h => Nat.ne_of_lt h) pm pw
      rw [eM]
      have s8 : Same (upd H4 t (.dT (ps.map entT))) (upd (upd H4 t (.dT (ps.map entT))) p (.lst (nls M2))) := same_upd np
      have sf8 := sf.trans s8
      have hd8 := s8 _ _ d7
      have hl8 := s8 _ _ l7
      have t8 : TellsAt (linesOf es) (upd (upd H4 t (.dT (ps.map entT))) p (.lst (nls M2))) d M := ⟨ps, e1, hd8, fun x hx => sf8 _ _ (e3 x hx)⟩
      refine ⟨p, rfl, ⟨_, SqL.of upd_same⟩, for_list (K := K) (a := p) (xs := nls M2)
        (fun i σ H9 => ∃ v5 v6, σ = [some (.ref e), some (.ref a), some (.ref t), some (.ref l), some (.ref d), v5, v6] ∧ Same (upd (upd H4 t (.dT (ps.map entT))) p (.lst (nls M2))) H9)
        ⟨_, _, rfl, fun _ _ z => z⟩ (fun i σ H9 _ ⟨_, _, _, s9⟩ => SqL.of (s9 _ _ upd_same)) ?_ ?_⟩
      · rintro i y σ H9 hi ⟨v5, v6, rfl, s9⟩
        obtain ⟨x, ex, rfl⟩ := nls_at hi
        have xM : x ∈ M := pM.mem_iff.mp (List.mem_of_getElem? ex)
        refine ⟨.ref l, rfl, .ref d, rfl, _, rfl, l, d, linesOf es, x, M, rfl, s9 _ _ hl8, by omega, lok, Same.tells s9 t8, xM, (Mb x xM).1, by rw [hlen]; exact (Mb x xM).2, bn.parts x xM, fun H10 s10 => ⟨true, rfl, ?_⟩⟩
        refine iteF ?_
        exact ⟨_, _, rfl, s9.trans s10⟩
      · rintro σ H9 ⟨v5, v6, rfl, s9⟩
        exact q H9 (sf8.trans s9)
end
end Mk
namespace Mk
open PySem PySem.Spec PyProof.Rows L2 MkR
/-! ### the sets that wait -/
abbrev Wt := Addr × Nat × Nat
def wref (p : Wt) : V := .ref p.1
def WtAt (H : Hp) (ws : List Wt) : Prop := ∀ p ∈ ws, H p.1 = some (.tup [nV p.2.1, nV p.2.2])
def dWt (p : Wt) : PyData := .tuple [.int (p.2.1 : Int), .int (p.2.2 : Int)]
theorem dp_wt {K : PySem.W.Frag} {H : Hp} : ∀ ws : List Wt, WtAt H ws → DpAll K H (ws.map wref) (ws.map dWt)
  | [], _ => .nil
  | p :: ws, h => .cons (.tup (SqT.of (h p List.mem_cons_self)) (.cons (.int _) (.cons (.int _) .nil))) (dp_wt ws fun q hq => h q (List.mem_cons_of_mem _ hq))
theorem lay_wt : ∀ ws : List Wt, PyData.canLayAll0 (ws.map dWt) = true
  | [] => rfl
  | p :: ws => by
    show (PyData.canLay0 (dWt p) && PyData.canLayAll0 (ws.map dWt)) = true
    rw [lay_wt ws]
    rfl
theorem depth_wt : ∀ ws : List Wt, PyData.depthAll (ws.map dWt) ≤ 1
  | [] => Nat.zero_le _
  | p :: ws => by
    have h := depth_wt ws
    show max (PyData.depth (dWt p)) (PyData.depthAll (ws.map dWt)) ≤ 1
    have e : PyData.depth (dWt p) = 1 := rfl
    omega
theorem shaped_wt (ws : List Wt) : SeqAt.shaped (.list (ws.map dWt)) = true := by
  unfold SeqAt.shaped
  rw [Bool.and_eq_true]
  refine ⟨lay_wt ws, decide_eq_true ?_⟩
  show PyData.depthAll (ws.map dWt) + 1 ≤ 64
  have := depth_wt ws
  omega
theorem eqv_wt (p : Wt) (ws : List Wt) : PyData.eqv (.list ((ws ++ [p]).map dWt)) (.list []) = false := by
  cases ws <;> rfl
/-- every set that has its trial is parted by it -/
def WayOk (ls : List Nat) (kvs : List (Key × V)) : Prop := ∀ (x : Nat) (v : V), valV kvs (Sum.inl (x : Int) : Key) = some v → ∃ q, q ∈ parting ls x ∧ v = nV (ls.getD q.1 0)
theorem WayOk.put {ls : List Nat} {kvs : List (Key × V)} (h : WayOk ls kvs) {x : Nat} {q : Part} (hq : q ∈ parting ls x) : WayOk ls (putK kvs (Sum.inl (x : Int) : Key) (nV (ls.getD q.1 0))) := by
  intro y v e
  rw [valV_put] at e
  by_cases z : (Sum.inl (y : Int) : Key) = Sum.inl (x : Int)
  · rw [if_pos z] at e
    have exy : y = x := by
      have := Sum.inl.inj z
      omega
    subst exy
    exact ⟨q, hq, (Option.some.inj e).symm⟩
  · rw [if_neg z] at e
    exact h y v e
theorem max_nn2 (a b : Nat) : (if (b : Int) > (a : Int) then (b : Int) else (a : Int)) = ((max a b : Nat) : Int) := by
  by_cases h : b > a
  · rw [if_pos (by omega)]
    omega
  · rw [if_neg (by omega)]
    omega
section
variable {P : Program} {w : World} {K : PySem.W.Frag} {mg : Str → Option Value} {base : Heap}
theorem ok_law_worst_by {f : Addr} {fd : FuncData} (F : Fun K "_law_worst_by" "_law_worst_by" sLawWorstBy f fd) (T : Bi mg) (cC : Cal P w K mg base 2 "_law_chosen" ["_law_lines_here", "_law_bits_here", "_law_feed_here"] spChosen) :
    FnOk P w K mg base CX0 3 f fd ["_law_lines_here", "_law_bits_here", "_law_feed_here", "_law_way"] spWorstBy := by
  refine F.ok scLawWorstBy (fun vs H Q E h => ?_) (fun cdv A outer s H vs Q E hr h => ?_)
  · obtain ⟨l, f, w, ls, b, x, y, rfl, _⟩ := h
    rfl
  · obtain ⟨l, f, y0, ls, b, x, y, rfl, nlf, hl, hl10, lok, hf, hw, b0, bl, q⟩ := h
    have hu := hu_of hr
    refine ⟨_, pss_cons (ps_set (i := 4) scLawWorstBy.nd rfl (.inl rfl) (pe_lst (pa_cons (pe_tup (pa_cons (pv 1) (pa_cons pe_int pa_nil))) pa_nil)))
      (pss_cons (ps_set (i := 5) scLawWorstBy.nd rfl (.inl rfl) pe_int)
      (pss_cons (ps_while PassesOwn.never (pt_cmpR (op_neD hr.units) (pv 4) (pe_lst pa_nil) (nomark _))
        (pss_cons (ps_asg (pe_bm0 PySem.F.plainAttrs_list PySem.F.slot_list_pop PySem.F.type_list_pop mt_pop (pv 4)) (pg_tup rfl (pgs_cons (pg_name (i := 6) scLawWorstBy.nd rfl (.inl rfl)) (pgs_cons (pg_name (i := 7) scLawWorstBy.nd rfl (.inl rfl)) pgs_nil))))
        (pss_one (ps_if (pt_cmpR op_eq (pe_op op_and (pv 6) (pe_op op_sub (pv 6) pe_int)) pe_int (nomark _))
          (pss_one (ps_set (i := 5) scLawWorstBy.nd rfl (.inl rfl) (pe_callB (call_max2 rfl) (by rfl) T.max (by decide +kernel) (pa_cons (pv 5) (pa_cons (pv 7) pa_nil)))))
          (C8.pss_cut (ps_if (pt_cmp (pc_dnotin hu (pv 6) (pv 3))) (pss_one (ps_dput hu (pv 3) (pv 6) (pe_cal cC hr (pa_cons (pv 0) (pa_cons (pv 6) (pa_cons (pv 2) pa_nil)))) rfl)) pss_nil)
          (pss_cons (ps_set (i := 8) scLawWorstBy.nd rfl (.inl rfl) (pe_op op_and (pv 6) (pe_dget hu (pv 3) (pv 6) (fun _ _ => rfl))))
          (pss_one (ps_set (i := 4) scLawWorstBy.nd rfl (.inl rfl) (pe_op op_cat (pv 4) (pe_lst (pa_cons (pe_tup (pa_cons (pv 8) (pa_cons (pe_op op_add (pv 7) pe_int) pa_nil))) (pa_cons (pe_tup (pa_cons (pe_op op_sub (pv 6) (pv 8)) (pa_cons (pe_op op_add (pv 7) pe_int) pa_nil))) pa_nil))))))))))))
      (pss_one (ps_ret (pv 5))))), ?_⟩
    have b1024 : b < 1024 := Nat.lt_of_lt_of_le bl (Nat.pow_le_pow_right (n := 2) (j := 10) (by decide) hl10)
    have nfw : f ≠ y0 := ne_of hf hw (by intro z; cases z)
    refine ⟨_, rfl, (by show 2 ≤ sizeLine; decide), fun t0 nt0 => ⟨(by show 1 ≤ sizeLine; decide), fun r0 nr0 => ?_⟩⟩
    have s0 : Same H (upd H t0 (.tup [nV b, .int 0])) := same_upd nt0
    have s1 : Same (upd H t0 (.tup [nV b, .int 0])) (upd (upd H t0 (.tup [nV b, .int 0])) r0 (.lst [V.ref t0])) := same_upd nr0
    have s01 := s0.trans s1
    refine ⟨fun m σ H3 => ∃ (ws : List Wt) (worst : Nat) (kvs : List (Key × V)) (x y : Int) (r : Addr) (v6 v7 v8 : Option V), m = size (ws.map (·.2)) ∧ σ = [some (.ref l), some (nV b), some (.ref f), some (.ref y0), some (.ref r), some (nV worst), v6, v7, v8] ∧
      H3 r = some (.lst (ws.map wref)) ∧ r ≠ f ∧ H r = none ∧ WtAt H3 ws ∧ (∀ p ∈ ws, 0 < p.2.1 ∧ p.2.1 < 2 ^ ls.length) ∧ H3 f = some (.lst [.int x, .int y]) ∧ H3 y0 = some (.dK kvs) ∧ WayOk ls kvs ∧ kvs.length + size (ws.map (·.2)) ≤ 2 * b ∧
      (B ls b).1 ≤ need ls (ws.map (·.2)) worst ∧ (∀ c o, c ≠ f → c ≠ y0 → H c = some o → H3 c = some o),
      ⟨_, [(t0, b, 0)], 0, [], x, y, r0, none, none, none, rfl, rfl, upd_same, (ne_of_none (s0 _ _ hf) nr0).symm, s0.free nr0, fun p hp => ?_, fun p hp => ?_, s01 _ _ hf, s01 _ _ hw, (fun x v e => by cases e), ?_, ?_, fun c o _ _ z => s01 _ _ z⟩, ?_⟩
    · rw [List.mem_singleton.mp hp, upd_ne (ne_of_none upd_same nr0), upd_same]
      rfl
    · rw [Iff.mp List.mem_singleton hp]
      exact ⟨b0, bl⟩
    · show 0 + (2 * b - 1 + 0) ≤ 2 * b
      omega
    · show (B ls b).1 ≤ max 0 (0 + (B ls b).1)
      omega
    rintro m σ H3 ⟨ws, worst, kvs, x, y, r, v6, v7, v8, rfl, rfl, hr3, nrf, nrH, wt, rng, hf3, hw3, way, big, nd, k3⟩
    -- while waiting != []
    refine ⟨.ref r, rfl, Nat.zero_le _, fun z nz => ?_⟩
    have s4 : Same H3 (upd H3 z (.lst [])) := same_upd nz
    have hr4 := s4 _ _ hr3
    have hf4 := s4 _ _ hf3
    have hw4 := s4 _ _ hw3
    have wt4 : WtAt (upd H3 z (.lst [])) ws := fun p hp => s4 _ _ (wt p hp)
    have k4 : ∀ c o, c ≠ f → c ≠ y0 → H c = some o → (upd H3 z (.lst [])) c = some o := fun c o n1 n2 e => s4 _ _ (k3 c o n1 n2 e)
    refine ⟨.list (ws.map dWt), .list [], .lst (SqL.of hr4) (dp_wt ws wt4), .lst (SqL.of upd_same) .nil, shaped_wt ws, by decide, _, rfl, ?_⟩
    rcases List.eq_nil_or_concat ws with rfl | ⟨ws0, p, rfl⟩
    · refine iteF ?_
      exact ⟨_, rfl, q _ worst k4 nd⟩
    rw [List.concat_eq_append] at hr4 wt4 rng big nd ⊢
    rw [eqv_wt]
    refine iteT ?_
    have em : (ws0 ++ [p]).map (·.2) = ws0.map (·.2) ++ [p.2] := by
      rw [List.map_append]
      rfl
    rw [em] at big nd
    have hp := rng p (List.mem_append.mpr (.inr List.mem_cons_self))
    have rng0 : ∀ x ∈ ws0, 0 < x.2.1 ∧ x.2.1 < 2 ^ ls.length := fun x hx => rng x (List.mem_append.mpr (.inl hx))
    have szp : size (ws0.map (·.2)) < size ((ws0.map (·.2)) ++ [p.2]) := by
      rw [size_snoc]
      omega
    -- what each turn leads to
    refine ⟨fun σ' H' => ∃ (ws' : List Wt) (worst : Nat) (kvs : List (Key × V)) (x y : Int) (r : Addr) (v6 v7 v8 : Option V), size (ws'.map (·.2)) < size ((ws0.map (·.2)) ++ [p.2]) ∧ σ' = [some (.ref l), some (nV b), some (.ref f), some (.ref y0), some (.ref r), some (nV worst), v6, v7, v8] ∧
      H' r = some (.lst (ws'.map wref)) ∧ r ≠ f ∧ H r = none ∧ WtAt H' ws' ∧ (∀ p ∈ ws', 0 < p.2.1 ∧ p.2.1 < 2 ^ ls.length) ∧ H' f = some (.lst [.int x, .int y]) ∧ H' y0 = some (.dK kvs) ∧ WayOk ls kvs ∧ kvs.length + size (ws'.map (·.2)) ≤ 2 * b ∧
      (B ls b).1 ≤ need ls (ws'.map (·.2)) worst ∧ (∀ c o, c ≠ f → c ≠ y0 → H c = some o → H' c = some o),
      fun σ' H' ⟨ws', worst, kvs, x, y, r, v6, v7, v8, h1, h2⟩ => ⟨_, by rw [em]; exact h1, ws', worst, kvs, x, y, r, v6, v7, v8, rfl, h2⟩, ?_⟩
    -- here, many = waiting.pop()
    have hx : ((ws0 ++ [p]).map wref)[((ws0 ++ [p]).map wref).length - 1]? = some (V.ref p.1) := by
      rw [List.map_append, List.length_append, List.map_singleton, List.length_singleton, Nat.add_sub_cancel, List.getElem?_append_right (Nat.le_refl _), Nat.sub_self]
      rfl
    have edl : ((ws0 ++ [p]).map wref).dropLast = ws0.map wref := by
      rw [List.map_append]
      exact List.dropLast_concat
    refine ⟨.ref r, rfl, .inl ⟨rfl, _, SqL.of hr4⟩, r, _, _, rfl, rfl, hr4, hx, ?_⟩
    rw [edl]
    have hpt := wt4 p (List.mem_append.mpr (.inr List.mem_cons_self))
    have npr : p.1 ≠ r := ne_of hpt hr4 (by intro z; cases z)
    have nyr : y0 ≠ r := ne_of hw4 hr4 (by intro z; cases z)
    have hr5 : (upd (upd H3 z (.lst [])) r (.lst (ws0.map wref))) r = some (.lst (ws0.map wref)) := upd_same
    have hf5 : (upd (upd H3 z (.lst [])) r (.lst (ws0.map wref))) f = some (.lst [.int x, .int y]) := by
      rw [upd_ne nrf.symm]
      exact hf4
    have hw5 : (upd (upd H3 z (.lst [])) r (.lst (ws0.map wref))) y0 = some (.dK kvs) := by
      rw [upd_ne nyr]
      exact hw4
    have wt5 : WtAt (upd (upd H3 z (.lst [])) r (.lst (ws0.map wref))) ws0 := fun c hc => by
      have h := wt4 c (List.mem_append.mpr (.inl hc))
      rw [upd_ne (ne_of h hr4 (by intro z; cases z))]
      exact h
    have hl5 : (upd (upd H3 z (.lst [])) r (.lst (ws0.map wref))) p.1 = some (.tup [nV p.2.1, nV p.2.2]) := by
      rw [upd_ne npr]
      exact hpt
    refine ⟨p.1, [nV p.2.1, nV p.2.2], rfl, SqT.of hl5, rfl, _, [nV p.2.2], rfl, _, [], rfl, rfl, ?_⟩
    -- if here & here - 1 == 0
    have e1 : ((p.2.1 : Int) - 1) = ((p.2.1 - 1 : Nat) : Int) := by omega
    have k5 : ∀ c o, c ≠ f → c ≠ y0 → H c = some o → (upd (upd H3 z (.lst [])) r (.lst (ws0.map wref))) c = some o := fun c o n1 n2 e => by
      rw [upd_ne (ne_of_none e nrH)]
      exact k4 c o n1 n2 e
    refine ⟨_, rfl, _, rfl, _, _, rfl, rfl, _, _, rfl, rfl, rfl, _, rfl, ?_⟩
    show if decide (V.int (Builtin.bitAnd (p.2.1 : Int) ((p.2.1 : Int) - 1)) = V.int 0) = true then _ else _
    rw [e1, and_nV]
    by_cases one : p.2.1 &&& (p.2.1 - 1) = 0
    · rw [one]
      refine ite2 (fun _ => ?_) (fun z => absurd (decide_eq_true rfl) z)
      refine ⟨_, rfl, _, rfl, _, _, rfl, ws0, max worst p.2.2, kvs, x, y, r, some (nV p.2.1), some (nV p.2.2), v8, szp, ?_, hr5, nrf, nrH, wt5, rng0, hf5, hw5, way, by omega, ?_, k5⟩
      · refine congrArg (fun z => [some (V.ref l), some (nV b), some (V.ref f), some (V.ref y0), some (V.ref r), some z, some (nV p.2.1), some (nV p.2.2), v8]) ?_
        exact congrArg V.int (max_nn2 worst p.2.2)
      · rw [need_one (Nat.ne_of_gt hp.1) one]
        exact nd
    · refine ite2 (fun z => absurd (nV_inj (b := 0) (of_decide_eq_true z)) one) (fun _ => ?_)
      have pne := some_part lok (Nat.ne_of_gt hp.1) hp.2 one
      generalize hH5 : (upd (upd H3 z (.lst [])) r (.lst (ws0.map wref))) = H5 at hr5 hf5 hw5 wt5 k5 ⊢
      have nly : l ≠ y0 := ne_of hl hw (by intro z; cases z)
      have hl5' : H5 l = some (.lst (nls ls)) := k5 _ _ nlf nly hl
      -- the trial of this set
      refine ⟨fun σ H6 => ∃ (kvs' : List (Key × V)) (x y : Int) (g : Part), σ = [some (.ref l), some (nV b), some (.ref f), some (.ref y0), some (.ref r), some (nV worst), some (nV p.2.1), some (nV p.2.2), v8] ∧ g ∈ parting ls p.2.1 ∧ valV kvs' (Sum.inl (p.2.1 : Int) : Key) = some (nV (ls.getD g.1 0)) ∧
        H6 r = some (.lst (ws0.map wref)) ∧ WtAt H6 ws0 ∧ H6 f = some (.lst [.int x, .int y]) ∧ H6 y0 = some (.dK kvs') ∧ WayOk ls kvs' ∧ kvs'.length ≤ kvs.length + 1 ∧ (∀ c o, c ≠ f → c ≠ y0 → H c = some o → H6 c = some o), ?_, ?_⟩
      · refine ⟨_, rfl, .ref y0, rfl, y0, _, rfl, DGet.k (k := Sum.inl (p.2.1 : Int)) hw5, _, rfl, ?_⟩
        cases e : valV kvs (Sum.inl (p.2.1 : Int) : Key) with
        | some v =>
          refine iteF ?_
          obtain ⟨g, hg, rfl⟩ := way p.2.1 v e
          exact ⟨kvs, x, y, g, rfl, hg, e, hr5, wt5, hf5, hw5, way, Nat.le_succ _, k5⟩
        | none =>
          refine iteT ?_
          refine ⟨.ref l, rfl, _, rfl, .ref f, rfl, l, f, ls, p.2.1, x, y, rfl, hl5', hl10, hf5, pne, fun H6 g x' y' b6 hf6 hg => ?_⟩
          have hw6 := b6 _ _ nfw.symm hw5
          have hr6 := b6 _ _ nrf hr5
          have kl : kvs.length < sizeLine := small4k (by omega)
          refine ⟨.ref y0, rfl, _, rfl, y0, _, rfl, DPut.k (k := Sum.inl (p.2.1 : Int)) hw6 kl, ?_⟩
          refine ⟨_, x', y', g, rfl, hg, ?_, ?_, fun c hc => ?_, ?_, upd_same, way.put hg, ?_, fun c o n1 n2 e => ?_⟩
          · rw [valV_put, if_pos rfl]
          · rw [upd_ne nyr.symm]
            exact hr6
          · have h := wt5 c hc
            have n1 : c.1 ≠ f := ne_of h hf5 (by intro z; cases z)
            have n2 : c.1 ≠ y0 := ne_of h hw5 (by intro z; cases z)
            rw [upd_ne n2]
            exact b6 _ _ n1 h
          · rw [upd_ne nfw]
            exact hf6
          · rw [putK_new _ e, List.length_append]
            exact Nat.le_refl _
          · rw [upd_ne n2]
            exact b6 _ _ n1 (k5 c o n1 n2 e)
      · rintro σ H6 ⟨kvs', x', y', g, rfl, hg, vg, hr6, wt6, hf6, hw6, way6, len6, k6⟩
        have ig := mem_parting.mp hg
        have lt := ig.lt
        -- one = here & way[here]
        refine ⟨_, rfl, .ref y0, rfl, _, rfl, y0, _, rfl, .inl ⟨_, Sum.inl (p.2.1 : Int), .inl hw6, rfl, vg.symm⟩, _, _, rfl, rfl, ?_⟩
        have eo : V.int (Builtin.bitAnd (p.2.1 : Int) (ls.getD g.1 0 : Int)) = nV g.2.1 := by
          rw [and_nV, ig.one]
        have er : V.int ((p.2.1 : Int) - Builtin.bitAnd (p.2.1 : Int) (ls.getD g.1 0 : Int)) = nV g.2.2 := by
          have := V.int.inj eo
          rw [this]
          refine congrArg V.int ?_
          omega
        have em1 : V.int ((p.2.2 : Int) + 1) = nV (p.2.2 + 1) := congrArg V.int (by omega)
        refine ⟨.ref r, rfl, _, rfl, _, rfl, _, _, rfl, rfl, (by show 2 ≤ sizeLine; decide), fun t1 nt1 => ?_⟩
        refine ⟨_, rfl, _, rfl, _, _, rfl, rfl, _, rfl, _, _, rfl, rfl, (by show 2 ≤ sizeLine; decide), fun t2 nt2 => ⟨(by show 2 ≤ sizeLine; decide), fun l2 nl2 => ?_⟩⟩
        have s7 := same_upd (o := .tup [V.int (Builtin.bitAnd (p.2.1 : Int) (ls.getD g.1 0 : Int)), V.int ((p.2.2 : Int) + 1)]) nt1
        have s8 := same_upd (o := .tup [V.int ((p.2.1 : Int) - Builtin.bitAnd (p.2.1 : Int) (ls.getD g.1 0 : Int)), V.int ((p.2.2 : Int) + 1)]) nt2
        have s9 := same_upd (o := .lst [V.ref t1, V.ref t2]) nl2
        have s69 := (s7.trans s8).trans s9
        have szl := size_len (ws0.map (·.2)) fun c hc => by
          obtain ⟨d, hd, e⟩ := List.mem_map.mp hc
          rw [← e]
          exact (rng0 d hd).1
        rw [List.length_map] at szl
        refine ⟨r, l2, _, _, rfl, rfl, s69 _ _ hr6, upd_same, ?_, fun pw npw => ?_⟩
        · rw [List.length_map]
          show ws0.length + 2 ≤ sizeLine
          exact Nat.le_of_lt (small4k (by omega))
        · have s10 := same_upd (o := .lst (ws0.map wref ++ [V.ref t1, V.ref t2])) npw
          have s610 := s69.trans s10
          have sp := size_part (w := ws0.map (·.2)) (m := p.2.2) hg
          have np := need_part (w := ws0.map (·.2)) (m := p.2.2) (worst := worst) hg
          have emp : (ws0 ++ [(t1, g.2.1, p.2.2 + 1), (t2, g.2.2, p.2.2 + 1)]).map (·.2) = ws0.map (·.2) ++ [(g.2.1, p.2.2 + 1), (g.2.2, p.2.2 + 1)] := by
            rw [List.map_append]
            rfl
          refine ⟨ws0 ++ [(t1, g.2.1, p.2.2 + 1), (t2, g.2.2, p.2.2 + 1)], worst, kvs', x', y', pw, _, _, _, ?_, rfl, ?_, ?_, ?_, fun c hc => ?_, fun c hc => ?_, s610 _ _ hf6, s610 _ _ hw6, way6, ?_, ?_, fun c o n1 n2 e => s610 _ _ (k6 c o n1 n2 e)⟩
          · rw [emp]
            show size _ < size (ws0.map (·.2) ++ [(p.2.1, p.2.2)])
            omega
          · rw [upd_same, List.map_append]
            rfl
          · exact ne_of_none' npw (s69 _ _ hf6)
          · cases e : H pw with
            | none => rfl
            | some o =>
              exfalso
              have nf : pw ≠ f := ne_of_none' npw (s69 _ _ hf6)
              have ny : pw ≠ y0 := ne_of_none' npw (s69 _ _ hw6)
              have := s69 _ _ (k6 _ _ nf ny e)
              rw [npw] at this
              cases this
          · rcases List.mem_append.mp hc with h | h
            · exact s610 _ _ (wt6 c h)
            · have h1 : (upd H6 t1 (.tup [V.int (Builtin.bitAnd (p.2.1 : Int) (ls.getD g.1 0 : Int)), V.int ((p.2.2 : Int) + 1)])) t1 = some (.tup [nV g.2.1, nV (p.2.2 + 1)]) := by
                rw [upd_same, eo, em1]
              have h2 : (upd (upd H6 t1 (.tup [V.int (Builtin.bitAnd (p.2.1 : Int) (ls.getD g.1 0 : Int)), V.int ((p.2.2 : Int) + 1)])) t2 (.tup [V.int ((p.2.1 : Int) - Builtin.bitAnd (p.2.1 : Int) (ls.getD g.1 0 : Int)), V.int ((p.2.2 : Int) + 1)])) t2 = some (.tup [nV g.2.2, nV (p.2.2 + 1)]) := by
                rw [upd_same, er, em1]
              rcases List.mem_cons.mp h with h | h
              · rw [h]
                exact s10 _ _ (s9 _ _ (s8 _ _ h1))
              · rw [List.mem_singleton.mp h]
                exact s10 _ _ (s9 _ _ h2)
          · rcases List.mem_append.mp hc with h | h
            · exact rng0 c h
            · rcases List.mem_cons.mp h with h | h
              · rw [h]
                exact ⟨lt.1, Nat.lt_trans lt.2.1 hp.2⟩
              · rw [List.mem_singleton.mp h]
                exact ⟨lt.2.2.1, Nat.lt_trans lt.2.2.2.1 hp.2⟩
          · rw [emp]
            have big2 : kvs.length + size (ws0.map (·.2) ++ [(p.2.1, p.2.2)]) ≤ 2 * b := big
            omega
          · rw [emp]
            exact Nat.le_trans nd np
end
end Mk
namespace Mk
open PySem PySem.Spec PyProof.Rows L2 MkR
theorem one_of_len {c k : Nat} (hc : c < 1024) (hk : c.testBit k = true) (h : (tupOf c).length ≤ 1) : tupOf c = [k] ∧ c &&& (c - 1) = 0 := by
  have m := (mem_tup hc).mpr hk
  have e : tupOf c = [k] := by
    match htc : tupOf c, h, m with
    | [], _, m => cases m
    | [x], _, m => rw [List.mem_singleton.mp m]
    | x :: y :: r, h, _ => simp at h
  refine ⟨e, ?_⟩
  have ec : c = 2 ^ k := by
    rw [← bitsOf_tup hc, e]
    unfold bitsOf
    show 0 ||| 2 ^ k = 2 ^ k
    exact Nat.zero_or _
  rw [ec]
  exact pow_pred k
theorem many_of_len {c n : Nat} (hn : n ≤ 10) (hc : c < 2 ^ n) (h0 : c ≠ 0) (h : 1 < (tupOf c).length) : c &&& (c - 1) ≠ 0 := fun e => by
  obtain ⟨k, rfl⟩ := one_bit c h0 e
  have hk : k < 10 := by
    have : k < n := (Nat.pow_lt_pow_iff_right (by decide)).mp hc
    omega
  rw [tup_pow hk] at h
  simp at h
/-- the numbers whose bit in a line is so -/
def atBit (ln bd : Nat) (k : Nat) : Bool := decide (ln / 2 ^ k % 2 = bd)
theorem atBit_side (ls : List Nat) (c k first : Nat) : (tupOf c).filter (atBit (ls.getD k 0) ((ls.getD k 0) / 2 ^ first % 2)) = tupOf (side ls c k first) := by
  unfold side
  have hb := Nat.testBit_eq_decide_div_mod_eq (x := ls.getD k 0) (i := first)
  by_cases e : (ls.getD k 0).testBit first = true
  · rw [if_pos e, ← tup_and]
    rw [e] at hb
    have h1 : (ls.getD k 0) / 2 ^ first % 2 = 1 := of_decide_eq_true hb.symm
    refine List.filter_congr fun x mem => ?_
    unfold atBit
    rw [h1, Nat.testBit_eq_decide_div_mod_eq]
  · rw [if_neg e, ← tup_rest]
    have h1 : (ls.getD k 0) / 2 ^ first % 2 = 0 := by
      have : ¬ (ls.getD k 0) / 2 ^ first % 2 = 1 := fun z => e (by rw [hb, decide_eq_true z])
      omega
    refine List.filter_congr fun x mem => ?_
    unfold atBit
    rw [h1, Nat.testBit_eq_decide_div_mod_eq]
    by_cases z : (ls.getD k 0) / 2 ^ x % 2 = 1
    · have : ¬ (ls.getD k 0) / 2 ^ x % 2 = 0 := by omega
      rw [decide_eq_true z, decide_eq_false this]
      rfl
    · have : (ls.getD k 0) / 2 ^ x % 2 = 0 := by omega
      rw [decide_eq_false z, decide_eq_true this]
      rfl
section
variable {P : Program} {w : World} {K : PySem.W.Frag} {mg : Str → Option Value} {base : Heap}
theorem ok_law_by_book {f : Addr} {fd : FuncData} (F : Fun K "_law_by_book" "_law_by_book" sLawByBook f fd) (T : Bi mg) : FnOk P w K mg base CX0 1 f fd ["_law_elders_here", "_law_lines_here", "_law_some_here", "_law_book"] spByBook := by
  refine F.ok scLawByBook (fun vs H Q E h => ?_) (fun cdv A outer s H vs Q E hr h => ?_)
  · obtain ⟨e, l, a, t, ls, b, M, rfl, _⟩ := h
    rfl
  · obtain ⟨e, l, a, t, ls, b, M, rfl, hl, hl10, lok, ha, b0, bl, ht, bn, q⟩ := h
    have hu := hu_of hr
    refine ⟨_, pss_cons (ps_set (i := 4) scLawByBook.nd rfl (.inl rfl) pe_int)
      (pss_cons (ps_for PassesOwn.never rfl (pi_tup (pv 2)) (pg_name (i := 5) scLawByBook.nd rfl (.inl rfl))
        (pss_cons (ps_set (i := 6) scLawByBook.nd rfl (.inl rfl) (pv 2))
        (pss_cons (ps_set (i := 7) scLawByBook.nd rfl (.inl rfl) pe_int)
        (pss_cons (ps_while PassesOwn.never (pt_cmpR op_gt (pe_callB call_len_seq (by rfl) T.len PySem.boot_len (pa_cons (pv 6) pa_nil)) pe_int (nomark _))
          (pss_cons (ps_set (i := 8) scLawByBook.nd rfl (.inr rfl) (pe_ix ix_list (pv 1) (pe_ix ix_tup (pe_dget hu (pv 3) (pv 6) (fun _ _ => rfl)) pe_int (fun _ _ => rfl)) (fun _ _ => rfl)))
          (pss_cons (ps_set (i := 9) scLawByBook.nd rfl (.inr rfl) (pe_op op_mod (pe_op op_shr (pv 8) (pv 5)) pe_int))
          (pss_cons (ps_set (i := 6) scLawByBook.nd rfl (.inl rfl) (pe_callTy call_tuple_of (by rfl) T.tuple (by decide +kernel) (pa_cons (pe_lc (own := [("_law_number", 10)]) (g := gName 10) rfl scLawByBook.nd (pi_tup (pv 6))
            (blkOk_by (N := ["_law_elders_here", "_law_lines_here", "_law_some_here", "_law_book", "_law_worst", "_law_first", "_law_left", "_law_many", "_law_line", "_law_bad", "_law_number"]) (sc := defScope sLawByBook) (by decide +kernel))
            (fun _ _ _ _ _ => pg_name (i := 10) scLawByBook.nd rfl (Or.inl rfl)) (fun _ _ _ _ _ => pts_one (pt_cmpR op_eq (pe_op op_mod (pe_op op_shr (pv 8) (pv 10)) pe_int) (pv 9) (nomark _))) (fun _ _ _ _ _ => pv 10)) pa_nil)))
          (pss_one (ps_set (i := 7) scLawByBook.nd rfl (.inl rfl) (pe_op op_add (pv 7) pe_int)))))))
        (pss_cons (ps_if (pt_cmpR (op_neD hr.units) (pv 6) (pe_tup (pa_cons (pv 5) pa_nil)) (nomark _)) (pss_one (ps_ret (pe_un un_neg pe_int))) pss_nil)
        (pss_one (ps_set (i := 4) scLawByBook.nd rfl (.inl rfl) (pe_callB (call_max2 rfl) (by rfl) T.max (by decide +kernel) (pa_cons (pv 4) (pa_cons (pv 7) pa_nil))))))))))
      (pss_one (ps_ret (pv 4)))), ?_⟩
    have p10 : 2 ^ ls.length ≤ 1024 := Nat.pow_le_pow_right (n := 2) (j := 10) (by decide) hl10
    have b1024 : b < 1024 := by omega
    have Mb : ∀ y ∈ M, 0 < y ∧ y < 2 ^ ls.length := fun y hy => by
      have := bn.some_ y hy
      omega
    have M1024 : ∀ y ∈ M, y < 1024 := fun y hy => by
      have := (Mb y hy).2
      omega
    obtain ⟨ps, e1, e2, e3⟩ := ht
    refine ⟨.ref a, rfl, a, rfl, ⟨_, SqT.of ha⟩, for_tup (K := K) (a := a) (xs := nls (tupOf b))
      (fun i σ H3 => ∃ v5 v6 v7 v8 v9 v10, σ = [some (.ref e), some (.ref l), some (.ref a), some (.ref t), some (nV (maxOf (D ls b) ((tupOf b).take i))), v5, v6, v7, v8, v9, v10] ∧ Same H H3)
      ⟨none, none, none, none, none, none, rfl, fun _ _ z => z⟩ (fun i σ H3 _ ⟨_, _, _, _, _, _, _, s3⟩ => SqT.of (s3 _ _ ha)) ?_ ?_⟩
    · rintro i y σ H3 hi ⟨v5, v6, v7, v8, v9, v10, rfl, s3⟩
      obtain ⟨first, ef, rfl⟩ := nls_at hi
      have hbit : b.testBit first = true := (mem_tup b1024).mp (List.mem_of_getElem? ef)
      refine ⟨.ref a, rfl, ?_⟩
      -- while len(left) > 1
      refine ⟨fun m σ H4 => ∃ (c : Nat) (lf : Addr) (many : Nat) (v8 v9 v10 : Option V), m = c ∧ σ = [some (.ref e), some (.ref l), some (.ref a), some (.ref t), some (nV (maxOf (D ls b) ((tupOf b).take i))), some (nV first), some (.ref lf), some (nV many), v8, v9, v10] ∧
        H4 lf = some (.tup (nls (tupOf c))) ∧ c ∈ M ∧ c.testBit first = true ∧ many + D ls c first = D ls b first ∧ Same H H4,
        ⟨b, b, a, 0, v8, v9, v10, rfl, rfl, s3 _ _ ha, bn.has, hbit, Nat.zero_add _, s3⟩, ?_⟩
      rintro m σ H4 ⟨c, lf, many, v8, v9, v10, em, rfl, hlf, cM, cbit, hD, s4⟩
      have cb := Mb c cM
      have c1024 := M1024 c cM
      refine ⟨.ref lf, rfl, lf, _, rfl, .inr (SqT.of hlf), _, _, rfl, rfl, _, rfl, ite2 (fun hb => ?_) (fun hb => ?_)⟩
      · have hlen : 1 < (tupOf c).length := by
          have z : ((nls (tupOf c)).length : Int) > 1 := of_decide_eq_true hb
          rw [nls_len] at z
          omega
        have pne := some_part lok (Nat.ne_of_gt cb.1) cb.2 (many_of_len hl10 cb.2 (Nat.ne_of_gt cb.1) hlen)
        obtain ⟨g, hg, eB⟩ := B_at pne
        have ig := mem_parting.mp hg
        have eB2 : (B ls c).2 = some g.1 := by rw [eB]
        refine ⟨fun σ' H' => ∃ (lf : Addr) (v8 v9 v10 : Option V), σ' = [some (.ref e), some (.ref l), some (.ref a), some (.ref t), some (nV (maxOf (D ls b) ((tupOf b).take i))), some (nV first), some (.ref lf), some (nV (many + 1)), v8, v9, v10] ∧
          H' lf = some (.tup (nls (tupOf (side ls c g.1 first)))) ∧ Same H H',
          fun σ' H' ⟨lf, v8, v9, v10, h1, h2, h3⟩ => ⟨side ls c g.1 first, by rw [em]; exact (side_lt hg).2, side ls c g.1 first, lf, many + 1, v8, v9, v10, rfl, h1, h2, ?_, side_bit cbit, ?_, h3⟩, ?_⟩
        · have pm := bn.parts c cM g hg
          rcases side_or (first := first) hg with z | z
          · rw [z]
            exact pm.1
          · rw [z]
            exact pm.2
        · rw [← hD, D_some eB2 (side_lt hg).2]
          omega
        -- line, bad
        obtain ⟨a2, ha2, hv2⟩ := book_val ps c c1024 (by rw [e1]; exact M1024) (by rw [e1]; exact cM)
        have hb4 := s4 _ _ (e3 _ ha2)
        have hb4' : H4 a2 = some (.tup [nV (B ls c).1, nV g.1]) := by
          have z : H4 a2 = some (.tup (encB (B ls c))) := hb4
          rw [z, eB]
          rfl
        refine ⟨.ref l, rfl, .ref t, rfl, .ref lf, rfl, t, V.ref a2, rfl, .inr ⟨_, tkey c, lf, .inl (s4 _ _ e2), rfl, by rw [tkey_V]; exact hlf, hv2.symm⟩, a2, _, 1, nV g.1, rfl, rfl, SqT.of hb4', atI_nat (j := 1) rfl, l, _, (g.1 : Int), nV (ls.getD g.1 0), rfl, rfl, SqL.of (s4 _ _ hl), atI_nat (nls_get (getD_at ig.at_)), ?_⟩
        refine ⟨_, rfl, _, rfl, _, _, rfl, rfl, by omega, _, _, rfl, rfl, (by show (0 : Int) < 2; decide), ?_⟩
        have eside := atBit_side ls c g.1 first
        generalize ls.getD g.1 0 = ln at eside ⊢
        have ebd : ((ln : Int) / 2 ^ ((first : Int).toNat)) % 2 = ((ln / 2 ^ first % 2 : Nat) : Int) := bit_mod ln first
        -- left
        refine ⟨.ref lf, rfl, lf, rfl, ⟨_, SqT.of hlf⟩, fun D0 nD => ?_⟩
        have s5 : Same H4 (upd H4 D0 (.lst [])) := same_upd nD
        refine lc_tup (K := K) (a := lf) (xs := nls (tupOf c)) (fun j H5 => Same H4 H5 ∧ H5 D0 = some (.lst (nls (((tupOf c).take j).filter (atBit ln (ln / 2 ^ first % 2)))))) ⟨s5, upd_same⟩ (fun j H5 _ ⟨h, _⟩ => SqT.of (h _ _ hlf)) ?_ ?_
        · rintro j y H5 hj ⟨s5, hD5⟩
          obtain ⟨k, ek, rfl⟩ := nls_at hj
          have hk10 : k < 10 := (mem_upTo.mp (List.mem_of_getElem? ek)).1
          refine ⟨rfl, _, rfl, _, rfl, _, _, rfl, rfl, by omega, _, _, rfl, rfl, (by show (0 : Int) < 2; decide), _, rfl, rfl, _, rfl, ?_⟩
          show if decide (V.int (((ln : Int) / 2 ^ ((k : Int).toNat)) % 2) = V.int (((ln : Int) / 2 ^ ((first : Int).toNat)) % 2)) = true then _ else _
          rw [bit_mod, bit_mod]
          have step : ((tupOf c).take (j + 1)).filter (atBit ln (ln / 2 ^ first % 2)) = ((tupOf c).take j).filter (atBit ln (ln / 2 ^ first % 2)) ++ (if atBit ln (ln / 2 ^ first % 2) k = true then [k] else []) := by
            rw [List.take_add_one, ek, List.filter_append]
            by_cases z : atBit ln (ln / 2 ^ first % 2) k = true
            · simp [z]
            · simp [z]
          refine ite2 (fun hb => ?_) (fun hb => ?_)
          · have z : atBit ln (ln / 2 ^ first % 2) k = true := decide_eq_true (nV_inj (of_decide_eq_true hb))
            refine ⟨_, rfl, _, hD5, ?_, fun c' u ec => ?_, ?_⟩
            · rw [nls_len]
              have l1 := List.length_filter_le (atBit ln (ln / 2 ^ first % 2)) ((tupOf c).take j)
              have l2 := upTo_len 10 c
              rw [List.length_take] at l1
              exact small1000 (by unfold tupOf at l1 ⊢; omega)
            · rw [upd_ne (ne_of_none ec nD)]
              exact s5 _ _ ec
            · rw [upd_same, step, if_pos z, nls_app]
              rfl
          · have z : ¬ atBit ln (ln / 2 ^ first % 2) k = true := fun z => hb (decide_eq_true (congrArg nV (of_decide_eq_true z)))
            refine ⟨s5, ?_⟩
            rw [step, if_neg z, List.append_nil]
            exact hD5
        · rintro H5 ⟨s5, hD5⟩
          rw [take_nls, eside] at hD5
          refine ⟨D0, _, rfl, .inl ⟨SqL.of hD5, fun t2 nt2 => ?_⟩⟩
          exact ⟨_, rfl, _, _, rfl, rfl, t2, _, _, _, rfl, upd_same, s4.trans (s5.trans (same_upd nt2))⟩
      · have hlen : (tupOf c).length ≤ 1 := by
          have z : ¬ ((nls (tupOf c)).length : Int) > 1 := fun z => hb (decide_eq_true z)
          rw [nls_len] at z
          omega
        obtain ⟨et, e0⟩ := one_of_len c1024 cbit hlen
        have eB := B_none (no_part (ls := ls) (Nat.ne_of_gt cb.1) e0)
        have eD : D ls c first = 0 := D_none (by rw [eB])
        rw [eD, Nat.add_zero] at hD
        rw [et] at hlf
        -- left != (first,)
        refine ⟨.ref lf, rfl, _, rfl, (by show 1 ≤ sizeLine; decide), fun t2 nt2 => ?_⟩
        have s5 : Same H4 (upd H4 t2 (.tup [nV first])) := same_upd nt2
        refine ⟨.tuple (dInts [first]), .tuple (dInts [first]), .tup (SqT.of (s5 _ _ hlf)) (dp_ints [first]), .tup (SqT.of upd_same) (dp_ints [first]), shaped_tup _, shaped_tup _, _, rfl, ?_⟩
        rw [SeqAt.eqv_refl (.tuple (dInts [first])) (lay_ints [first])]
        refine iteF ?_
        refine ⟨_, rfl, _, rfl, _, _, rfl, some (nV first), some (.ref lf), some (nV many), v8, v9, v10, ?_, s4.trans s5⟩
        refine congrArg (fun z => [some (V.ref e), some (V.ref l), some (V.ref a), some (V.ref t), some z, some (nV first), some (V.ref lf), some (nV many), v8, v9, v10]) ?_
        show V.int (if (many : Int) > (maxOf (D ls b) ((tupOf b).take i) : Int) then (many : Int) else (maxOf (D ls b) ((tupOf b).take i) : Int)) = nV (maxOf (D ls b) ((tupOf b).take (i + 1)))
        rw [max_nn2, List.take_add_one, ef, hD]
        exact congrArg nV (maxOf_snoc _ _ _).symm
    · rintro σ H3 ⟨v5, v6, v7, v8, v9, v10, rfl, s3⟩
      rw [take_nls, book_max ls (Nat.ne_of_gt b0) b1024]
      exact ⟨_, rfl, q H3 s3⟩
end
end Mk
namespace Mk
open PySem PySem.Spec PyProof.Rows L2 MkR
/-- the defs that the law reaches, as the top has left them -/
structure Defs (K : PySem.W.Frag) (mg : Str → Option Value) : Prop where
  dLinesOf : DefAt K mg "lines_of" sLinesOf ["elders"]
  dBitsOf : DefAt K mg "bits_of" sBitsOf ["some"]
  dTupleOf : DefAt K mg "tuple_of" sTupleOf ["bits"]
  dParting : DefAt K mg "parting" sParting ["lines", "bits"]
  dSetsBeneath : DefAt K mg "sets_beneath" sSetsBeneath ["lines", "bits"]
  dBestTrial : DefAt K mg "best_trial" sBestTrial ["lines", "bits", "told"]
  dAllTrials : DefAt K mg "all_trials" sAllTrials ["elders", "some"]
  dLeastWorst : DefAt K mg "least_worst" sLeastWorst ["elders", "some"]
  dBookOf : DefAt K mg "book_of" sBookOf ["elders", "some"]
  dIsWhole : DefAt K mg "is_whole" sIsWhole ["thing"]
  dIsSet : DefAt K mg "is_set" sIsSet ["thing", "many"]
  dHoldsLine : DefAt K mg "holds_line" sHoldsLine ["lines", "told", "bits"]
  dIsBook : DefAt K mg "is_book" sIsBook ["elders", "some", "thing"]
  dLawCellAt : DefAt K mg "_law_cell_at" sLawCellAt ["_law_script", "_law_k"]
  dLawFeed : DefAt K mg "_law_feed" sLawFeed ["_law_cell"]
  dLawDigit : DefAt K mg "_law_digit" sLawDigit ["_law_feed_here", "_law_many"]
  dLawElders : DefAt K mg "_law_elders" sLawElders ["_law_feed_here"]
  dLawSome : DefAt K mg "_law_some" sLawSome ["_law_feed_here", "_law_many"]
  dLawLines : DefAt K mg "_law_lines" sLawLines ["_law_elders_here"]
  dLawBits : DefAt K mg "_law_bits" sLawBits ["_law_some_here"]
  dLawChosen : DefAt K mg "_law_chosen" sLawChosen ["_law_lines_here", "_law_bits_here", "_law_feed_here"]
  dLawWorstBy : DefAt K mg "_law_worst_by" sLawWorstBy ["_law_lines_here", "_law_bits_here", "_law_feed_here", "_law_way"]
  dLawByBook : DefAt K mg "_law_by_book" sLawByBook ["_law_elders_here", "_law_lines_here", "_law_some_here", "_law_book"]
theorem But.elders {f : Addr} {H H' : Hp} {x y : V} (b : But f H H') (hf : H f = some (.lst [x, y])) {p : Addr} {es : List (List Nat)} (h : EldersAt H p es) : EldersAt H' p es := by
  obtain ⟨as, h1, h2, h3⟩ := h
  exact ⟨as, b _ _ (ne_of h1 hf (by intro z; cases z)) h1, h2, fun j s a e1 e2 => b _ _ (ne_of (h3 j s a e1 e2) hf (by intro z; cases z)) (h3 j s a e1 e2)⟩
theorem cut_ints (ns : List Int) (lo hi : Option Int) : ∃ ms : List Int, cutV (ns.map V.int) lo hi = ms.map V.int := by
  unfold cutV
  rw [← List.map_drop, ← List.map_take]
  exact ⟨_, rfl⟩
section
variable {P : Program} {w : World} {K : PySem.W.Frag} {mg : Str → Option Value} {base : Heap}
theorem ok_law {f : Addr} {fd : FuncData} (F : Fun K "law" "law" sLaw f fd) (D : Defs K mg) (T : Bi mg) : FnOk P w K mg base CX0 6 f fd ["_law_script"] (spLaw K) := by
  have cLines : Cal P w K mg base 1 "lines_of" ["elders"] spLinesOf := cal_of D.dLinesOf fun f fd F => ok_lines_of F T
  have cBits : Cal P w K mg base 1 "bits_of" ["some"] spBitsOf := cal_of D.dBitsOf fun f fd F => ok_bits_of F
  have cTup : Cal P w K mg base 1 "tuple_of" ["bits"] spTupleOf := cal_of D.dTupleOf fun f fd F => ok_tuple_of F T
  have cPart : Cal P w K mg base 1 "parting" ["lines", "bits"] spParting := cal_of D.dParting fun f fd F => ok_parting F T
  have cSets : Cal P w K mg base 2 "sets_beneath" ["lines", "bits"] spSetsBeneath := cal_of D.dSetsBeneath fun f fd F => ok_sets_beneath F T cPart
  have cBest : Cal P w K mg base 2 "best_trial" ["lines", "bits", "told"] spBestTrial := cal_of D.dBestTrial fun f fd F => ok_best_trial F T cPart
  have cAll : Cal P w K mg base 3 "all_trials" ["elders", "some"] spAllTrials := cal_of D.dAllTrials fun f fd F => ok_all_trials F cLines cBits cSets cBest
  have cLeast : Cal P w K mg base 4 "least_worst" ["elders", "some"] spLeastWorst := cal_of D.dLeastWorst fun f fd F => ok_least_worst F cAll cBits
  have cBook : Cal P w K mg base 4 "book_of" ["elders", "some"] spBookOf := cal_of D.dBookOf fun f fd F => ok_book_of F cAll cTup
  have cWhole : Cal P w K mg base 1 "is_whole" ["thing"] spIsWhole := cal_of D.dIsWhole fun f fd F => ok_is_whole F T
  have cSet : Cal P w K mg base 2 "is_set" ["thing", "many"] spIsSet := cal_of D.dIsSet fun f fd F => ok_is_set F T cWhole
  have cHolds : Cal P w K mg base 2 "holds_line" ["lines", "told", "bits"] spHoldsLine := cal_of D.dHoldsLine fun f fd F => ok_holds_line F T cWhole cPart
  have cIsBook : Cal P w K mg base 3 "is_book" ["elders", "some", "thing"] spIsBook := cal_of D.dIsBook fun f fd F => ok_is_book F T cLines cBits cSet cHolds
  have cCell : Cal P w K mg base 1 "_law_cell_at" ["_law_script", "_law_k"] (spCell K) := cal_of D.dLawCellAt fun f fd F => ok_law_cell F T
  have cFeed : Cal P w K mg base 1 "_law_feed" ["_law_cell"] spFeed := cal_of D.dLawFeed fun f fd F => ok_law_feed F T
  have cDigit : Cal P w K mg base 1 "_law_digit" ["_law_feed_here", "_law_many"] spDigit := cal_of D.dLawDigit fun f fd F => ok_law_digit F
  have cElders : Cal P w K mg base 2 "_law_elders" ["_law_feed_here"] spElders := cal_of D.dLawElders fun f fd F => ok_law_elders F T cDigit
  have cSome : Cal P w K mg base 2 "_law_some" ["_law_feed_here", "_law_many"] spSome := cal_of D.dLawSome fun f fd F => ok_law_some F T cDigit
  have cLLines : Cal P w K mg base 1 "_law_lines" ["_law_elders_here"] spLinesOf := cal_of D.dLawLines fun f fd F => ok_law_lines F T
  have cLBits : Cal P w K mg base 1 "_law_bits" ["_law_some_here"] spBits := cal_of D.dLawBits fun f fd F => ok_law_bits F T
  have cChosen : Cal P w K mg base 2 "_law_chosen" ["_law_lines_here", "_law_bits_here", "_law_feed_here"] spChosen := cal_of D.dLawChosen fun f fd F => ok_law_chosen F T cDigit
  have cWorst : Cal P w K mg base 3 "_law_worst_by" ["_law_lines_here", "_law_bits_here", "_law_feed_here", "_law_way"] spWorstBy := cal_of D.dLawWorstBy fun f fd F => ok_law_worst_by F T cChosen
  have cByBook : Cal P w K mg base 1 "_law_by_book" ["_law_elders_here", "_law_lines_here", "_law_some_here", "_law_book"] spByBook := cal_of D.dLawByBook fun f fd F => ok_law_by_book F T
  refine F.ok scLaw (fun vs H Q E h => ?_) (fun cdv A outer s H vs Q E hr h => ?_)
  · obtain ⟨a, ns, rfl, _⟩ := h
    rfl
  · obtain ⟨a, ns, rfl, hS, h63, q⟩ := h
    have hu := hu_of hr
    refine ⟨_, pss_cons (ps_set (i := 1) scLaw.nd rfl (.inl rfl) (pe_cal cElders hr (pa_cons (pe_cal cFeed hr (pa_cons (pe_cal cCell hr (pa_cons (pv 0) (pa_cons pe_int pa_nil))) pa_nil)) pa_nil)))
      (pss_cons (ps_set (i := 2) scLaw.nd rfl (.inl rfl) (pe_cal cLLines hr (pa_cons (pv 1) pa_nil)))
      (pss_cons (ps_set (i := 3) scLaw.nd rfl (.inl rfl) (pe_cal cSome hr (pa_cons (pe_cal cFeed hr (pa_cons (pe_cal cCell hr (pa_cons (pv 0) (pa_cons pe_int pa_nil))) pa_nil)) (pa_cons (pe_callB call_len_seq (by rfl) T.len PySem.boot_len (pa_cons (pv 1) pa_nil)) pa_nil))))
      (pss_cons (ps_set (i := 4) scLaw.nd rfl (.inl rfl) (pe_cal cLeast hr (pa_cons (pv 1) (pa_cons (pv 3) pa_nil))))
      (pss_cons (ps_set (i := 5) scLaw.nd rfl (.inl rfl) (pe_cal cBook hr (pa_cons (pv 1) (pa_cons (pv 3) pa_nil))))
      (pss_cons (ps_if (PW.pt (pw_or (pt_not (pt_val (pe_cal cIsBook hr (pa_cons (pv 1) (pa_cons (pv 3) (pa_cons (pv 5) pa_nil))))))
        (pw_or1 (pt_cmpR op_ne (pe_cal cByBook hr (pa_cons (pv 1) (pa_cons (pv 2) (pa_cons (pv 3) (pa_cons (pv 5) pa_nil))))) (pv 4) (nomark _))))) (pss_one (ps_ret pe_bl)) pss_nil)
      (pss_cons (ps_for PassesOwn.never rfl (pi_list (pe_slice sl_list (pv 0) (po_some pe_int) (po_some pe_int))) (pg_name (i := 6) scLaw.nd rfl (.inl rfl))
        (pss_one (ps_if (pt_cmpR op_lt (pe_cal cWorst hr (pa_cons (pv 2) (pa_cons (pe_cal cLBits hr (pa_cons (pv 3) pa_nil)) (pa_cons (pe_cal cFeed hr (pa_cons (pv 6) pa_nil)) (pa_cons pe_dnewK pa_nil))))) (pv 4) (nomark _)) (pss_one (ps_ret pe_bl)) pss_nil)))
      (pss_one (ps_ret (pe_cmpR op_eq (pe_ix ix_tup (pe_dget hu (pv 5) (pv 3) (fun _ _ => rfl)) pe_int (fun _ _ => rfl)) (pv 4) (nomark _)))))))))), ?_⟩
    -- elders
    refine ⟨.ref a, rfl, a, ns, 0, rfl, hS, fun i0 => ⟨i0, rfl, fun H1 f1 x1 y1 s1 nf1 hf1 => ⟨f1, x1, y1, rfl, hf1, fun H2 e es b2 he2 wf es1 es10 => ?_⟩⟩⟩
    have s2 : Same H H2 := fun c o z => b2 c o (ne_of_none z nf1) (s1 c o z)
    have hlen := (lines_ok wf).2
    have lok := (lines_ok wf).1
    -- lines
    refine ⟨.ref e, rfl, e, es, rfl, he2, wf, es10, fun H3 l s3 nl hl3 => ?_⟩
    have s23 := s2.trans s3
    have he3 := Same.elders s3 he2
    -- some
    refine ⟨.ref a, rfl, a, ns, 1, rfl, s23.seq hS, fun i1 => ⟨i1, rfl, fun H4 f4 x4 y4 s4 nf4 hf4 => ?_⟩⟩
    have he4 := Same.elders s4 he3
    obtain ⟨as, ha1, ha2, ha3⟩ := id he4
    refine ⟨.ref e, rfl, e, _, rfl, .inr (SqT.of ha1), f4, x4, y4, es.length, ?_, hf4, es1, es10, fun H5 sm b b5 hs5 b0 bl => ?_⟩
    · rw [List.length_map, ha2]
      rfl
    have p10 : 2 ^ es.length ≤ 1024 := Nat.pow_le_pow_right (n := 2) (j := 10) (by decide) es10
    have b1024 : b < 1024 := by omega
    have he5 := But.elders b5 hf4 he4
    have hl5 : H5 l = some (.lst (nls (linesOf es))) := b5 _ _ (ne_of_none hl3 nf4) (s4 _ _ hl3)
    have s5 : Same H H5 := fun c o z => b5 c o (ne_of_none (s23 c o z) nf4) (s4 c o (s23 c o z))
    -- least, book
    refine ⟨.ref e, rfl, .ref sm, rfl, e, sm, es, b, rfl, he5, wf, es10, hs5, b0, b1024, fun H6 s6 => ?_⟩
    have he6 := Same.elders s6 he5
    refine ⟨.ref e, rfl, .ref sm, rfl, e, sm, es, b, rfl, he6, wf, es10, s6 _ _ hs5, b0, b1024, fun H7 t M s7 nt ht bn => ?_⟩
    have he7 := Same.elders s7 he6
    have s57 := s6.trans s7
    -- the book is one; it is followed
    refine ⟨.ref e, rfl, .ref sm, rfl, .ref t, rfl, e, sm, t, es, b, M, rfl, he7, wf, es10, s57 _ _ hs5, bl, ht, bn, fun H8 s8 => ⟨true, rfl, ?_⟩⟩
    refine iteF ?_
    have s58 := s57.trans s8
    refine ⟨.ref e, rfl, .ref l, rfl, .ref sm, rfl, .ref t, rfl, e, l, sm, t, linesOf es, b, M, rfl, s58 _ _ hl5, by omega, lok, s58 _ _ hs5, b0, by rw [hlen]; exact bl, Same.book s8 ht, bn, fun H9 s9 => ?_⟩
    refine ⟨_, rfl, rfl, _, rfl, iteNS rfl ?_⟩
    have s59 := s58.trans s9
    have s09 := s5.trans s59
    have ht9 := Same.book (s8.trans s9) ht
    -- every other way
    obtain ⟨ms, ems⟩ := cut_ints ns (some 2) (some 63)
    refine ⟨.ref a, rfl, 2, rfl, 63, rfl, a, ns.map V.int, rfl, s09.seq hS, fun p np => ?_⟩
    rw [ems]
    have s10 : Same H9 (upd H9 p (.lst (ms.map V.int))) := same_upd np
    refine ⟨p, rfl, ⟨_, SqL.of upd_same⟩, for_list (K := K) (a := p) (xs := ms.map V.int)
      (fun i σ H11 => ∃ v6, σ = [some (.ref a), some (.ref e), some (.ref l), some (.ref sm), some (nV (B (linesOf es) b).1), some (.ref t), v6] ∧ Same (upd H9 p (.lst (ms.map V.int))) H11)
      ⟨none, rfl, fun _ _ z => z⟩ (fun i σ H11 _ ⟨_, _, s11⟩ => SqL.of (s11 _ _ upd_same)) ?_ ?_⟩
    · rintro i y σ H11 hi ⟨v6, rfl, s11⟩
      rw [List.getElem?_map] at hi
      obtain ⟨c, ec, rfl⟩ := Option.map_eq_some_iff.mp hi
      have s511 := (s59.trans s10).trans s11
      refine ⟨.ref l, rfl, .ref sm, rfl, sm, b, rfl, s511 _ _ hs5, b1024, fun H12 s12 => ?_⟩
      refine ⟨_, rfl, c, rfl, fun H13 f13 x13 y13 s13 nf13 hf13 => ?_⟩
      intro d nd
      have s14 : Same H13 (upd H13 d (.dK [])) := same_upd nd
      have s513 := (s511.trans s12).trans s13
      have hl13 := s513 _ _ hl5
      refine ⟨l, f13, d, linesOf es, b, x13, y13, rfl, ne_of_none ((s511.trans s12) _ _ hl5) nf13, s14 _ _ hl13, by omega, lok, s14 _ _ hf13, upd_same, b0, by rw [hlen]; exact bl, fun H15 v k15 hv => ?_⟩
      refine ⟨_, rfl, _, _, rfl, rfl, _, rfl, ite2 (fun hb => ?_) (fun _ => ?_)⟩
      · have z : (v : Int) < ((B (linesOf es) b).1 : Int) := of_decide_eq_true hb
        omega
      · refine ⟨_, rfl, fun c' o z => ?_⟩
        have z12 := s12 _ _ (s11 _ _ z)
        have z13 := s13 _ _ z12
        exact k15 c' o (ne_of_none z12 nf13) (ne_of_none z13 nd) (s14 _ _ z13)
    · rintro σ H11 ⟨v6, rfl, s11⟩
      have s911 := s10.trans s11
      obtain ⟨ps, e1, e2, e3⟩ := Same.book s911 ht9
      have M1024 : ∀ y ∈ M, y < 1024 := fun y hy => by
        have := (bn.some_ y hy).2
        omega
      obtain ⟨a2, ha2, hv2⟩ := book_val ps b b1024 (by rw [e1]; exact M1024) (by rw [e1]; exact bn.has)
      have hs11 := (s59.trans s911) _ _ hs5
      refine ⟨.ref t, rfl, .ref sm, rfl, t, V.ref a2, rfl, .inr ⟨_, tkey b, sm, .inl e2, rfl, by rw [tkey_V]; exact hs11, hv2.symm⟩, a2, _, 0, nV (B (linesOf es) b).1, rfl, rfl, SqT.of (e3 _ ha2), atI_nat (j := 0) rfl, _, rfl, rfl, ?_⟩
      show Q (V.bl (decide (nV (B (linesOf es) b).1 = nV (B (linesOf es) b).1))) _
      rw [decide_eq_true rfl]
      exact q _
end
end Mk
/-! What the top has written; the law. Printed by gen_head.py. -/
namespace Mk
open PySem PySem.Spec PyProof.Rows L2
theorem def_mk {K : PySem.W.Frag} {h : Heap} {mg : Str → Option Value} (X : K.In h) (G : h.Ns mainGlobals mg) {x : Str} {st : Stmt} {ps : List Str} {f : Addr} {od an : Option Addr} {sl : Array (Option Value)} {oc kV dc pm cd ct : Value}
    (a : PySem.W.nsIn K mainGlobals x = some (some (.ref f))) (l : K.lookup f = some ⟨oc, od, .func (PySem.W.fnOf x x (defArgs st) (defBody st) (defScope st) .none kV dc pm an cd ct), sl⟩) (c : PySem.W.codeIn K cd x = true) (k : PySem.W.keepIn K (.ref f) = true)
    (hb : ∀ (kV doc pm : Value) (an : Option Addr) (cdv ct : Value) (us : List Value), us.length = ps.length → bindArgs (PySem.W.fnOf x x (defArgs st) (defBody st) (defScope st) .none kV doc pm an cdv ct) ⟨us, []⟩ = pure (ps.zip us)) : DefAt K mg x st ps :=
  ⟨f, _, fun_mk l c k, PySem.W.mg_of X G a, (fun_mk l c k).binds hb⟩
theorem all_mk {l : PySem.W.OpenLaw} {w : World} {K : PySem.W.Frag} {h : Heap} {mg : Str → Option Value} {fa : Addr} (X : K.In h) (G : h.Ns mainGlobals mg) (hfa : mg "law" = some (.ref fa))
    {f1 : Addr} {od1 an1 : Option Addr} {sl1 : Array (Option Value)} {oc1 kV1 dc1 pm1 cd1 ct1 : Value}
    (a1 : PySem.W.nsIn K mainGlobals "lines_of" = some (some (.ref f1))) (l1 : K.lookup f1 = some ⟨oc1, od1, .func (PySem.W.fnOf "lines_of" "lines_of" (defArgs sLinesOf) (defBody sLinesOf) (defScope sLinesOf) .none kV1 dc1 pm1 an1 cd1 ct1), sl1⟩) (c1 : PySem.W.codeIn K cd1 "lines_of" = true) (k1 : PySem.W.keepIn K (.ref f1) = true)
    {f2 : Addr} {od2 an2 : Option Addr} {sl2 : Array (Option Value)} {oc2 kV2 dc2 pm2 cd2 ct2 : Value}
    (a2 : PySem.W.nsIn K mainGlobals "bits_of" = some (some (.ref f2))) (l2 : K.lookup f2 = some ⟨oc2, od2, .func (PySem.W.fnOf "bits_of" "bits_of" (defArgs sBitsOf) (defBody sBitsOf) (defScope sBitsOf) .none kV2 dc2 pm2 an2 cd2 ct2), sl2⟩) (c2 : PySem.W.codeIn K cd2 "bits_of" = true) (k2 : PySem.W.keepIn K (.ref f2) = true)
    {f3 : Addr} {od3 an3 : Option Addr} {sl3 : Array (Option Value)} {oc3 kV3 dc3 pm3 cd3 ct3 : Value}
    (a3 : PySem.W.nsIn K mainGlobals "tuple_of" = some (some (.ref f3))) (l3 : K.lookup f3 = some ⟨oc3, od3, .func (PySem.W.fnOf "tuple_of" "tuple_of" (defArgs sTupleOf) (defBody sTupleOf) (defScope sTupleOf) .none kV3 dc3 pm3 an3 cd3 ct3), sl3⟩) (c3 : PySem.W.codeIn K cd3 "tuple_of" = true) (k3 : PySem.W.keepIn K (.ref f3) = true)
    {f4 : Addr} {od4 an4 : Option Addr} {sl4 : Array (Option Value)} {oc4 kV4 dc4 pm4 cd4 ct4 : Value}
    (a4 : PySem.W.nsIn K mainGlobals "parting" = some (some (.ref f4))) (l4 : K.lookup f4 = some ⟨oc4, od4, .func (PySem.W.fnOf "parting" "parting" (defArgs sParting) (defBody sParting) (defScope sParting) .none kV4 dc4 pm4 an4 cd4 ct4), sl4⟩) (c4 : PySem.W.codeIn K cd4 "parting" = true) (k4 : PySem.W.keepIn K (.ref f4) = true)
    {f5 : Addr} {od5 an5 : Option Addr} {sl5 : Array (Option Value)} {oc5 kV5 dc5 pm5 cd5 ct5 : Value}
    (a5 : PySem.W.nsIn K mainGlobals "sets_beneath" = some (some (.ref f5))) (l5 : K.lookup f5 = some ⟨oc5, od5, .func (PySem.W.fnOf "sets_beneath" "sets_beneath" (defArgs sSetsBeneath) (defBody sSetsBeneath) (defScope sSetsBeneath) .none kV5 dc5 pm5 an5 cd5 ct5), sl5⟩) (c5 : PySem.W.codeIn K cd5 "sets_beneath" = true) (k5 : PySem.W.keepIn K (.ref f5) = true)
    {f6 : Addr} {od6 an6 : Option Addr} {sl6 : Array (Option Value)} {oc6 kV6 dc6 pm6 cd6 ct6 : Value}
    (a6 : PySem.W.nsIn K mainGlobals "best_trial" = some (some (.ref f6))) (l6 : K.lookup f6 = some ⟨oc6, od6, .func (PySem.W.fnOf "best_trial" "best_trial" (defArgs sBestTrial) (defBody sBestTrial) (defScope sBestTrial) .none kV6 dc6 pm6 an6 cd6 ct6), sl6⟩) (c6 : PySem.W.codeIn K cd6 "best_trial" = true) (k6 : PySem.W.keepIn K (.ref f6) = true)
    {f7 : Addr} {od7 an7 : Option Addr} {sl7 : Array (Option Value)} {oc7 kV7 dc7 pm7 cd7 ct7 : Value}
    (a7 : PySem.W.nsIn K mainGlobals "all_trials" = some (some (.ref f7))) (l7 : K.lookup f7 = some ⟨oc7, od7, .func (PySem.W.fnOf "all_trials" "all_trials" (defArgs sAllTrials) (defBody sAllTrials) (defScope sAllTrials) .none kV7 dc7 pm7 an7 cd7 ct7), sl7⟩) (c7 : PySem.W.codeIn K cd7 "all_trials" = true) (k7 : PySem.W.keepIn K (.ref f7) = true)
    {f8 : Addr} {od8 an8 : Option Addr} {sl8 : Array (Option Value)} {oc8 kV8 dc8 pm8 cd8 ct8 : Value}
    (a8 : PySem.W.nsIn K mainGlobals "least_worst" = some (some (.ref f8))) (l8 : K.lookup f8 = some ⟨oc8, od8, .func (PySem.W.fnOf "least_worst" "least_worst" (defArgs sLeastWorst) (defBody sLeastWorst) (defScope sLeastWorst) .none kV8 dc8 pm8 an8 cd8 ct8), sl8⟩) (c8 : PySem.W.codeIn K cd8 "least_worst" = true) (k8 : PySem.W.keepIn K (.ref f8) = true)
    {f9 : Addr} {od9 an9 : Option Addr} {sl9 : Array (Option Value)} {oc9 kV9 dc9 pm9 cd9 ct9 : Value}
    (a9 : PySem.W.nsIn K mainGlobals "book_of" = some (some (.ref f9))) (l9 : K.lookup f9 = some ⟨oc9, od9, .func (PySem.W.fnOf "book_of" "book_of" (defArgs sBookOf) (defBody sBookOf) (defScope sBookOf) .none kV9 dc9 pm9 an9 cd9 ct9), sl9⟩) (c9 : PySem.W.codeIn K cd9 "book_of" = true) (k9 : PySem.W.keepIn K (.ref f9) = true)
    {f10 : Addr} {od10 an10 : Option Addr} {sl10 : Array (Option Value)} {oc10 kV10 dc10 pm10 cd10 ct10 : Value}
    (a10 : PySem.W.nsIn K mainGlobals "is_whole" = some (some (.ref f10))) (l10 : K.lookup f10 = some ⟨oc10, od10, .func (PySem.W.fnOf "is_whole" "is_whole" (defArgs sIsWhole) (defBody sIsWhole) (defScope sIsWhole) .none kV10 dc10 pm10 an10 cd10 ct10), sl10⟩) (c10 : PySem.W.codeIn K cd10 "is_whole" = true) (k10 : PySem.W.keepIn K (.ref f10) = true)
    {f11 : Addr} {od11 an11 : Option Addr} {sl11 : Array (Option Value)} {oc11 kV11 dc11 pm11 cd11 ct11 : Value}
    (a11 : PySem.W.nsIn K mainGlobals "is_set" = some (some (.ref f11))) (l11 : K.lookup f11 = some ⟨oc11, od11, .func (PySem.W.fnOf "is_set" "is_set" (defArgs sIsSet) (defBody sIsSet) (defScope sIsSet) .none kV11 dc11 pm11 an11 cd11 ct11), sl11⟩) (c11 : PySem.W.codeIn K cd11 "is_set" = true) (k11 : PySem.W.keepIn K (.ref f11) = true)
    {f12 : Addr} {od12 an12 : Option Addr} {sl12 : Array (Option Value)} {oc12 kV12 dc12 pm12 cd12 ct12 : Value}
    (a12 : PySem.W.nsIn K mainGlobals "holds_line" = some (some (.ref f12))) (l12 : K.lookup f12 = some ⟨oc12, od12, .func (PySem.W.fnOf "holds_line" "holds_line" (defArgs sHoldsLine) (defBody sHoldsLine) (defScope sHoldsLine) .none kV12 dc12 pm12 an12 cd12 ct12), sl12⟩) (c12 : PySem.W.codeIn K cd12 "holds_line" = true) (k12 : PySem.W.keepIn K (.ref f12) = true)
    {f13 : Addr} {od13 an13 : Option Addr} {sl13 : Array (Option Value)} {oc13 kV13 dc13 pm13 cd13 ct13 : Value}
    (a13 : PySem.W.nsIn K mainGlobals "is_book" = some (some (.ref f13))) (l13 : K.lookup f13 = some ⟨oc13, od13, .func (PySem.W.fnOf "is_book" "is_book" (defArgs sIsBook) (defBody sIsBook) (defScope sIsBook) .none kV13 dc13 pm13 an13 cd13 ct13), sl13⟩) (c13 : PySem.W.codeIn K cd13 "is_book" = true) (k13 : PySem.W.keepIn K (.ref f13) = true)
    {f14 : Addr} {od14 an14 : Option Addr} {sl14 : Array (Option Value)} {oc14 kV14 dc14 pm14 cd14 ct14 : Value}
    (a14 : PySem.W.nsIn K mainGlobals "_law_cell_at" = some (some (.ref f14))) (l14 : K.lookup f14 = some ⟨oc14, od14, .func (PySem.W.fnOf "_law_cell_at" "_law_cell_at" (defArgs sLawCellAt) (defBody sLawCellAt) (defScope sLawCellAt) .none kV14 dc14 pm14 an14 cd14 ct14), sl14⟩) (c14 : PySem.W.codeIn K cd14 "_law_cell_at" = true) (k14 : PySem.W.keepIn K (.ref f14) = true)
    {f15 : Addr} {od15 an15 : Option Addr} {sl15 : Array (Option Value)} {oc15 kV15 dc15 pm15 cd15 ct15 : Value}
    (a15 : PySem.W.nsIn K mainGlobals "_law_feed" = some (some (.ref f15))) (l15 : K.lookup f15 = some ⟨oc15, od15, .func (PySem.W.fnOf "_law_feed" "_law_feed" (defArgs sLawFeed) (defBody sLawFeed) (defScope sLawFeed) .none kV15 dc15 pm15 an15 cd15 ct15), sl15⟩) (c15 : PySem.W.codeIn K cd15 "_law_feed" = true) (k15 : PySem.W.keepIn K (.ref f15) = true)
    {f16 : Addr} {od16 an16 : Option Addr} {sl16 : Array (Option Value)} {oc16 kV16 dc16 pm16 cd16 ct16 : Value}
    (a16 : PySem.W.nsIn K mainGlobals "_law_digit" = some (some (.ref f16))) (l16 : K.lookup f16 = some ⟨oc16, od16, .func (PySem.W.fnOf "_law_digit" "_law_digit" (defArgs sLawDigit) (defBody sLawDigit) (defScope sLawDigit) .none kV16 dc16 pm16 an16 cd16 ct16), sl16⟩) (c16 : PySem.W.codeIn K cd16 "_law_digit" = true) (k16 : PySem.W.keepIn K (.ref f16) = true)
    {f17 : Addr} {od17 an17 : Option Addr} {sl17 : Array (Option Value)} {oc17 kV17 dc17 pm17 cd17 ct17 : Value}
    (a17 : PySem.W.nsIn K mainGlobals "_law_elders" = some (some (.ref f17))) (l17 : K.lookup f17 = some ⟨oc17, od17, .func (PySem.W.fnOf "_law_elders" "_law_elders" (defArgs sLawElders) (defBody sLawElders) (defScope sLawElders) .none kV17 dc17 pm17 an17 cd17 ct17), sl17⟩) (c17 : PySem.W.codeIn K cd17 "_law_elders" = true) (k17 : PySem.W.keepIn K (.ref f17) = true)
    {f18 : Addr} {od18 an18 : Option Addr} {sl18 : Array (Option Value)} {oc18 kV18 dc18 pm18 cd18 ct18 : Value}
    (a18 : PySem.W.nsIn K mainGlobals "_law_some" = some (some (.ref f18))) (l18 : K.lookup f18 = some ⟨oc18, od18, .func (PySem.W.fnOf "_law_some" "_law_some" (defArgs sLawSome) (defBody sLawSome) (defScope sLawSome) .none kV18 dc18 pm18 an18 cd18 ct18), sl18⟩) (c18 : PySem.W.codeIn K cd18 "_law_some" = true) (k18 : PySem.W.keepIn K (.ref f18) = true)
    {f19 : Addr} {od19 an19 : Option Addr} {sl19 : Array (Option Value)} {oc19 kV19 dc19 pm19 cd19 ct19 : Value}
    (a19 : PySem.W.nsIn K mainGlobals "_law_lines" = some (some (.ref f19))) (l19 : K.lookup f19 = some ⟨oc19, od19, .func (PySem.W.fnOf "_law_lines" "_law_lines" (defArgs sLawLines) (defBody sLawLines) (defScope sLawLines) .none kV19 dc19 pm19 an19 cd19 ct19), sl19⟩) (c19 : PySem.W.codeIn K cd19 "_law_lines" = true) (k19 : PySem.W.keepIn K (.ref f19) = true)
    {f20 : Addr} {od20 an20 : Option Addr} {sl20 : Array (Option Value)} {oc20 kV20 dc20 pm20 cd20 ct20 : Value}
    (a20 : PySem.W.nsIn K mainGlobals "_law_bits" = some (some (.ref f20))) (l20 : K.lookup f20 = some ⟨oc20, od20, .func (PySem.W.fnOf "_law_bits" "_law_bits" (defArgs sLawBits) (defBody sLawBits) (defScope sLawBits) .none kV20 dc20 pm20 an20 cd20 ct20), sl20⟩) (c20 : PySem.W.codeIn K cd20 "_law_bits" = true) (k20 : PySem.W.keepIn K (.ref f20) = true)
    {f21 : Addr} {od21 an21 : Option Addr} {sl21 : Array (Option Value)} {oc21 kV21 dc21 pm21 cd21 ct21 : Value}
    (a21 : PySem.W.nsIn K mainGlobals "_law_chosen" = some (some (.ref f21))) (l21 : K.lookup f21 = some ⟨oc21, od21, .func (PySem.W.fnOf "_law_chosen" "_law_chosen" (defArgs sLawChosen) (defBody sLawChosen) (defScope sLawChosen) .none kV21 dc21 pm21 an21 cd21 ct21), sl21⟩) (c21 : PySem.W.codeIn K cd21 "_law_chosen" = true) (k21 : PySem.W.keepIn K (.ref f21) = true)
    {f22 : Addr} {od22 an22 : Option Addr} {sl22 : Array (Option Value)} {oc22 kV22 dc22 pm22 cd22 ct22 : Value}
    (a22 : PySem.W.nsIn K mainGlobals "_law_worst_by" = some (some (.ref f22))) (l22 : K.lookup f22 = some ⟨oc22, od22, .func (PySem.W.fnOf "_law_worst_by" "_law_worst_by" (defArgs sLawWorstBy) (defBody sLawWorstBy) (defScope sLawWorstBy) .none kV22 dc22 pm22 an22 cd22 ct22), sl22⟩) (c22 : PySem.W.codeIn K cd22 "_law_worst_by" = true) (k22 : PySem.W.keepIn K (.ref f22) = true)
    {f23 : Addr} {od23 an23 : Option Addr} {sl23 : Array (Option Value)} {oc23 kV23 dc23 pm23 cd23 ct23 : Value}
    (a23 : PySem.W.nsIn K mainGlobals "_law_by_book" = some (some (.ref f23))) (l23 : K.lookup f23 = some ⟨oc23, od23, .func (PySem.W.fnOf "_law_by_book" "_law_by_book" (defArgs sLawByBook) (defBody sLawByBook) (defScope sLawByBook) .none kV23 dc23 pm23 an23 cd23 ct23), sl23⟩) (c23 : PySem.W.codeIn K cd23 "_law_by_book" = true) (k23 : PySem.W.keepIn K (.ref f23) = true)
    {f24 : Addr} {od24 an24 : Option Addr} {sl24 : Array (Option Value)} {oc24 kV24 dc24 pm24 cd24 ct24 : Value}
    (a24 : PySem.W.nsIn K mainGlobals "law" = some (some (.ref f24))) (l24 : K.lookup f24 = some ⟨oc24, od24, .func (PySem.W.fnOf "law" "law" (defArgs sLaw) (defBody sLaw) (defScope sLaw) .none kV24 dc24 pm24 an24 cd24 ct24), sl24⟩) (c24 : PySem.W.codeIn K cd24 "law" = true) (k24 : PySem.W.keepIn K (.ref f24) = true)
    (z1 : PySem.W.nsIn K mainGlobals "enumerate" = some none)
    (z2 : PySem.W.nsIn K mainGlobals "sorted" = some none)
    (z3 : PySem.W.nsIn K mainGlobals "max" = some none)
    (z4 : PySem.W.nsIn K mainGlobals "min" = some none)
    (z5 : PySem.W.nsIn K mainGlobals "isinstance" = some none)
    (z6 : PySem.W.nsIn K mainGlobals "int" = some none)
    (z7 : PySem.W.nsIn K mainGlobals "bool" = some none)
    (z8 : PySem.W.nsIn K mainGlobals "tuple" = some none)
    (z9 : PySem.W.nsIn K mainGlobals "dict" = some none)
    (z10 : PySem.W.nsIn K mainGlobals "len" = some none)
    (z11 : PySem.W.nsIn K mainGlobals "range" = some none)
    (z12 : PySem.W.nsIn K mainGlobals "sum" = some none)
    : ∃ fd : FuncData, (∀ (s : Shared) (v : Value), BindsTo s fd ⟨[v], []⟩ [("_law_script", v)]) ∧ ∀ base : Heap, K.In base → base.Ns mainGlobals mg → FnOk l.prog w K mg base CX0 6 fa fd ["_law_script"] (spLaw K) := by
  have e := hfa.symm.trans (PySem.W.mg_of X G a24)
  cases e
  have T : Bi mg := ⟨PySem.W.mg_none_of X G z1, PySem.W.mg_none_of X G z2, PySem.W.mg_none_of X G z3, PySem.W.mg_none_of X G z4, PySem.W.mg_none_of X G z5, PySem.W.mg_none_of X G z6, PySem.W.mg_none_of X G z7, PySem.W.mg_none_of X G z8, PySem.W.mg_none_of X G z9, PySem.W.mg_none_of X G z10, PySem.W.mg_none_of X G z11, PySem.W.mg_none_of X G z12⟩
  have D : Defs K mg := ⟨def_mk X G a1 l1 c1 k1 (fun _ _ _ _ _ _ us hl => match us, hl with | [_], _ => rfl),
    def_mk X G a2 l2 c2 k2 (fun _ _ _ _ _ _ us hl => match us, hl with | [_], _ => rfl),
    def_mk X G a3 l3 c3 k3 (fun _ _ _ _ _ _ us hl => match us, hl with | [_], _ => rfl),
    def_mk X G a4 l4 c4 k4 (fun _ _ _ _ _ _ us hl => match us, hl with | [_, _], _ => rfl),
    def_mk X G a5 l5 c5 k5 (fun _ _ _ _ _ _ us hl => match us, hl with | [_, _], _ => rfl),
    def_mk X G a6 l6 c6 k6 (fun _ _ _ _ _ _ us hl => match us, hl with | [_, _, _], _ => rfl),
    def_mk X G a7 l7 c7 k7 (fun _ _ _ _ _ _ us hl => match us, hl with | [_, _], _ => rfl),
    def_mk X G a8 l8 c8 k8 (fun _ _ _ _ _ _ us hl => match us, hl with | [_, _], _ => rfl),
    def_mk X G a9 l9 c9 k9 (fun _ _ _ _ _ _ us hl => match us, hl with | [_, _], _ => rfl),
    def_mk X G a10 l10 c10 k10 (fun _ _ _ _ _ _ us hl => match us, hl with | [_], _ => rfl),
    def_mk X G a11 l11 c11 k11 (fun _ _ _ _ _ _ us hl => match us, hl with | [_, _], _ => rfl),
    def_mk X G a12 l12 c12 k12 (fun _ _ _ _ _ _ us hl => match us, hl with | [_, _, _], _ => rfl),
    def_mk X G a13 l13 c13 k13 (fun _ _ _ _ _ _ us hl => match us, hl with | [_, _, _], _ => rfl),
    def_mk X G a14 l14 c14 k14 (fun _ _ _ _ _ _ us hl => match us, hl with | [_, _], _ => rfl),
    def_mk X G a15 l15 c15 k15 (fun _ _ _ _ _ _ us hl => match us, hl with | [_], _ => rfl),
    def_mk X G a16 l16 c16 k16 (fun _ _ _ _ _ _ us hl => match us, hl with | [_, _], _ => rfl),
    def_mk X G a17 l17 c17 k17 (fun _ _ _ _ _ _ us hl => match us, hl with | [_], _ => rfl),
    def_mk X G a18 l18 c18 k18 (fun _ _ _ _ _ _ us hl => match us, hl with | [_, _], _ => rfl),
    def_mk X G a19 l19 c19 k19 (fun _ _ _ _ _ _ us hl => match us, hl with | [_], _ => rfl),
    def_mk X G a20 l20 c20 k20 (fun _ _ _ _ _ _ us hl => match us, hl with | [_], _ => rfl),
    def_mk X G a21 l21 c21 k21 (fun _ _ _ _ _ _ us hl => match us, hl with | [_, _, _], _ => rfl),
    def_mk X G a22 l22 c22 k22 (fun _ _ _ _ _ _ us hl => match us, hl with | [_, _, _, _], _ => rfl),
    def_mk X G a23 l23 c23 k23 (fun _ _ _ _ _ _ us hl => match us, hl with | [_, _, _, _], _ => rfl)⟩
  exact ⟨PySem.W.fnOf "law" "law" (defArgs sLaw) (defBody sLaw) (defScope sLaw) .none kV24 dc24 pm24 an24 cd24 ct24, fun s v => .of_eq rfl, fun base _ _ => ok_law (fun_mk l24 c24 k24) D T⟩
end Mk
open PySem PySem.W PyProof.Rows
set_option maxRecDepth 100000 in
set_option maxHeartbeats 0 in
theorem PySem.Challenge.cw_makeswood_k96_whole_no_way_is_better_holds : PySem.Challenge.rw_makeswood_k96_whole_no_way_is_better.Holds := by
  w_on; o_law; k_head; (case hw => w_witness2)
  k_fill
  refine L2.walk_of (l := PySem.Challenge.rw_makeswood_k96_whole_no_way_is_better) (n := 63) (k := 6) (x := "_law_script") (CX := fun _ => L2.CX0) (sp := fun w => Mk.spLaw _) rfl (by decide) rfl ⟨rfl, by decide, by decide⟩ (fun w h Y => PySem.W.kIn_of Y) ?F (fun _ _ a ns hl _ hS => ⟨a, ns, rfl, hS, hl, fun _ => rfl⟩) (fun _ _ _ _ _ h => h)
  case F =>
    intro w mg fa h KX G hmg
    refine' Mk.all_mk KX G hmg ?a1 ?l1 ?c1 ?k1 ?a2 ?l2 ?c2 ?k2 ?a3 ?l3 ?c3 ?k3 ?a4 ?l4 ?c4 ?k4 ?a5 ?l5 ?c5 ?k5 ?a6 ?l6 ?c6 ?k6 ?a7 ?l7 ?c7 ?k7 ?a8 ?l8 ?c8 ?k8 ?a9 ?l9 ?c9 ?k9 ?a10 ?l10 ?c10 ?k10 ?a11 ?l11 ?c11 ?k11 ?a12 ?l12 ?c12 ?k12 ?a13 ?l13 ?c13 ?k13 ?a14 ?l14 ?c14 ?k14 ?a15 ?l15 ?c15 ?k15 ?a16 ?l16 ?c16 ?k16 ?a17 ?l17 ?c17 ?k17 ?a18 ?l18 ?c18 ?k18 ?a19 ?l19 ?c19 ?k19 ?a20 ?l20 ?c20 ?k20 ?a21 ?l21 ?c21 ?k21 ?a22 ?l22 ?c22 ?k22 ?a23 ?l23 ?c23 ?k23 ?a24 ?l24 ?c24 ?k24 ?z1 ?z2 ?z3 ?z4 ?z5 ?z6 ?z7 ?z8 ?z9 ?z10 ?z11 ?z12
    (case a1 => k_is); (case l1 => k_is); (case c1 => k_is); (case k1 => k_is); (case a2 => k_is); (case l2 => k_is)
    (case c2 => k_is); (case k2 => k_is); (case a3 => k_is); (case l3 => k_is); (case c3 => k_is); (case k3 => k_is)
    (case a4 => k_is); (case l4 => k_is); (case c4 => k_is); (case k4 => k_is); (case a5 => k_is); (case l5 => k_is)
    (case c5 => k_is); (case k5 => k_is); (case a6 => k_is); (case l6 => k_is); (case c6 => k_is); (case k6 => k_is)
    (case a7 => k_is); (case l7 => k_is); (case c7 => k_is); (case k7 => k_is); (case a8 => k_is); (case l8 => k_is)
    (case c8 => k_is); (case k8 => k_is); (case a9 => k_is); (case l9 => k_is); (case c9 => k_is); (case k9 => k_is)
    (case a10 => k_is); (case l10 => k_is); (case c10 => k_is); (case k10 => k_is); (case a11 => k_is); (case l11 => k_is)
    (case c11 => k_is); (case k11 => k_is); (case a12 => k_is); (case l12 => k_is); (case c12 => k_is); (case k12 => k_is)
    (case a13 => k_is); (case l13 => k_is); (case c13 => k_is); (case k13 => k_is); (case a14 => k_is); (case l14 => k_is)
    (case c14 => k_is); (case k14 => k_is); (case a15 => k_is); (case l15 => k_is); (case c15 => k_is); (case k15 => k_is)
    (case a16 => k_is); (case l16 => k_is); (case c16 => k_is); (case k16 => k_is); (case a17 => k_is); (case l17 => k_is)
    (case c17 => k_is); (case k17 => k_is); (case a18 => k_is); (case l18 => k_is); (case c18 => k_is); (case k18 => k_is)
    (case a19 => k_is); (case l19 => k_is); (case c19 => k_is); (case k19 => k_is); (case a20 => k_is); (case l20 => k_is)
    (case c20 => k_is); (case k20 => k_is); (case a21 => k_is); (case l21 => k_is); (case c21 => k_is); (case k21 => k_is)
    (case a22 => k_is); (case l22 => k_is); (case c22 => k_is); (case k22 => k_is); (case a23 => k_is); (case l23 => k_is)
    (case c23 => k_is); (case k23 => k_is); (case a24 => k_is); (case l24 => k_is); (case c24 => k_is); (case k24 => k_is)
    (case z1 => k_is); (case z2 => k_is); (case z3 => k_is); (case z4 => k_is); (case z5 => k_is); (case z6 => k_is)
    (case z7 => k_is); (case z8 => k_is); (case z9 => k_is); (case z10 => k_is); (case z11 => k_is); (case z12 => k_is)
#print axioms PySem.Challenge.cw_makeswood_k96_whole_no_way_is_better_holds
