import PyProof.Rows.All
import Wide.All
import OpenK.AllK
import Wide.FinOn
import HandS.ForMost
import HandS.ForExc
import HandS.Defaults
import HandS.HeadHook1
import HandS.HeadHook2
import HandS.IsInst
import HandS.Style
import HandS.ExcInit
import HandS.ClsMeth
import HandS.ExcIs
import HandS.SortKw
import HandS.IterVal
import HandS.Strs
import KE.DatumOrd
import KE.GoesEnum
import HandS.OwnEq
import KE.KOwnIter
import HandS.Walk
import HandS.Star
import KE.KIndexOf
import KE.KStateDown
import HandS.Head0
import HandS.Head1
import HandS.Head2
import HandS.HeadEnd
import PySem.Challenge.RW_usualdays_k14_whole_keeping
set_option Elab.async false
set_option linter.all false
set_option maxRecDepth 100000
set_option maxHeartbeats 0
/-! The plain mathematics of the law: day sets as numbers, layers, what keeping means. -/
namespace K14
open PySem PyProof.Rows

/-! ### day sets -/
def days (n m : Nat) : List Nat := (List.range n).filter fun d => m.testBit d
def diff (a b : Nat) : Nat := a - (a &&& b)

theorem and_le_left' (a b : Nat) : a &&& b ≤ a := Nat.and_le_left
theorem bitAnd_nat (a b : Nat) : Builtin.bitAnd (a : Int) (b : Int) = ((a &&& b : Nat) : Int) := by
  rw [bitAnd_pp (by omega) (by omega), Int.toNat_natCast, Int.toNat_natCast]
theorem bitAndNot_nat (a b : Nat) : Builtin.bitAnd (a : Int) (Builtin.bitNot (b : Int)) = ((diff a b : Nat) : Int) := by
  rw [bitAnd_not, bitAnd_nat]
  unfold diff
  have := and_le_left' a b
  omega
theorem bitOr_nat (a b : Nat) : Builtin.bitOr (a : Int) (b : Int) = ((a ||| b : Nat) : Int) := by
  have h := Bits.bitOr_pp (x := (a : Int)) (y := (b : Int)) (by omega) (by omega)
  rw [h, Int.toNat_natCast, Int.toNat_natCast]
theorem or_add_and (a b : Nat) : (a ||| b) + (a &&& b) = a + b := by
  have h := bitOr_and (a : Int) (b : Int)
  rw [bitOr_nat, bitAnd_nat] at h
  omega
/-- the bits of a that b has not -/
def dif2 (a b : Nat) : Nat := Nat.bitwise (fun x y => x && !y) a b
theorem testBit_dif2 (a b i : Nat) : (dif2 a b).testBit i = (a.testBit i && !b.testBit i) := by
  unfold dif2
  rw [Nat.testBit_bitwise (by rfl)]
theorem diff_eq (a b : Nat) : diff a b = dif2 a b := by
  have e1 : (a &&& b) ||| dif2 a b = a := by
    apply Nat.eq_of_testBit_eq
    intro i
    rw [Nat.testBit_or, Nat.testBit_and, testBit_dif2]
    cases a.testBit i <;> cases b.testBit i <;> rfl
  have e2 : (a &&& b) &&& dif2 a b = 0 := by
    apply Nat.eq_of_testBit_eq
    intro i
    rw [Nat.testBit_and, Nat.testBit_and, testBit_dif2, Nat.zero_testBit]
    cases a.testBit i <;> cases b.testBit i <;> rfl
  have e3 := or_add_and (a &&& b) (dif2 a b)
  rw [e1, e2] at e3
  unfold diff
  omega
theorem testBit_diff (a b i : Nat) : (diff a b).testBit i = (a.testBit i && !b.testBit i) := by
  rw [diff_eq, testBit_dif2]
theorem diff_le (a b : Nat) : diff a b ≤ a := by
  unfold diff
  omega
theorem testBit_of_lt {m n d : Nat} (h : m < 2 ^ n) (hd : n ≤ d) : m.testBit d = false :=
  Nat.testBit_lt_two_pow (Nat.lt_of_lt_of_le h (Nat.pow_le_pow_right (by decide) hd))
theorem days_succ (n m : Nat) : days (n + 1) m = if m.testBit n then days n m ++ [n] else days n m := by
  unfold days
  rw [List.range_succ, List.filter_append]
  cases h : m.testBit n with
  | true => simp [List.filter_cons, h]
  | false => simp [List.filter_cons, h]
theorem days_stable {n m : Nat} : ∀ {k : Nat}, m < 2 ^ n → days (n + k) m = days n m
  | 0, _ => rfl
  | k + 1, h => by
    rw [show n + (k + 1) = (n + k) + 1 by omega, days_succ, testBit_of_lt h (by omega), days_stable h]
    rfl
theorem days_any {n k m : Nat} (h : m < 2 ^ n) (hk : n ≤ k) : days k m = days n m := by
  rw [show k = n + (k - n) by omega]
  exact days_stable h
theorem mem_days {n m d : Nat} : d ∈ days n m ↔ d < n ∧ m.testBit d = true := by
  unfold days
  rw [List.mem_filter, List.mem_range]
theorem days_length (n m : Nat) : (days n m).length ≤ n := by
  have h := List.length_filter_le (fun d => m.testBit d) (List.range n)
  rw [List.length_range] at h
  exact h
/-- a shift that leaves nothing -/
theorem shr_zero {m d : Nat} (h : m / 2 ^ d = 0) : m < 2 ^ d := by
  have hp : 0 < 2 ^ d := Nat.two_pow_pos d
  rcases Nat.lt_or_ge m (2 ^ d) with q | q
  · exact q
  · have := Nat.div_pos q hp
    omega
theorem shr_int (m d : Nat) : (m : Int) / 2 ^ ((d : Nat) : Int).toNat = ((m / 2 ^ d : Nat) : Int) := by
  rw [Int.toNat_natCast, Int.natCast_ediv, Int.natCast_pow]
  rfl
theorem bit_int (m d : Nat) : Builtin.bitAnd ((m : Int) / 2 ^ ((d : Nat) : Int).toNat) 1 = if m.testBit d then 1 else 0 := by
  rw [shr_int, show (1 : Int) = ((1 : Nat) : Int) from rfl, bitAnd_nat]
  have e : (m / 2 ^ d) &&& 1 = if m.testBit d then 1 else 0 := by
    rw [Nat.and_one_is_mod, Nat.testBit_eq_decide_div_mod_eq]
    by_cases h : m / 2 ^ d % 2 = 1
    · rw [h]; simp
    · have : m / 2 ^ d % 2 = 0 := by omega
      rw [this]; simp
  rw [e]
  cases m.testBit d <;> rfl
/-- the sum of the powers of some days, as a number -/
def powSum (l : List Nat) : Nat := (l.map fun d => 2 ^ d).sum
theorem powSum_append (l : List Nat) (d : Nat) : powSum (l ++ [d]) = powSum l + 2 ^ d := by
  unfold powSum
  rw [List.map_append, List.sum_append]
  simp
/-- some days of the first n -/
theorem powSum_lt (p : Nat → Bool) : ∀ n, powSum ((List.range n).filter p) < 2 ^ n
  | 0 => by simp [powSum]
  | n + 1 => by
    have ih := powSum_lt p n
    rw [List.range_succ, List.filter_append, Nat.pow_succ]
    cases h : p n with
    | true =>
      rw [show ([n].filter p) = [n] by simp [h], powSum_append]
      omega
    | false =>
      rw [show ([n].filter p) = [] by simp [h], List.append_nil]
      omega
theorem powSum_testBit (p : Nat → Bool) : ∀ n i, (powSum ((List.range n).filter p)).testBit i = (decide (i < n) && p i)
  | 0, i => by simp [powSum]
  | n + 1, i => by
    have ih := powSum_testBit p n i
    have hl := powSum_lt p n
    rw [List.range_succ, List.filter_append]
    cases h : p n with
    | true =>
      rw [show ([n].filter p) = [n] by simp [h], powSum_append, Nat.add_comm]
      rcases Nat.lt_trichotomy i n with q | q | q
      · rw [Nat.testBit_two_pow_add_gt q, ih]
        simp [q, show i < n + 1 by omega]
      · subst q
        rw [Nat.testBit_two_pow_add_eq, testBit_of_lt hl (Nat.le_refl _)]
        simp [h]
      · have : (2 ^ n + powSum ((List.range n).filter p)) < 2 ^ (n + 1) := by rw [Nat.pow_succ]; omega
        rw [testBit_of_lt this (by omega)]
        simp [show ¬ i < n + 1 by omega]
    | false =>
      rw [show ([n].filter p) = [] by simp [h], List.append_nil, ih]
      rcases Nat.lt_trichotomy i n with q | q | q
      · simp [q, show i < n + 1 by omega]
      · subst q
        simp [h]
      · simp [show ¬ i < n + 1 by omega, show ¬ i < n by omega]

/-! ### layers of days -/
def pick (ls : List Int) (m : Nat) : List Int := (days ls.length m).map fun d => ls.getD d 0
def IsMin (xs : List Int) (a : Int) : Prop := a ∈ xs ∧ ∀ y, y ∈ xs → a ≤ y
theorem IsMin.uniq {xs : List Int} {a b : Int} (h : IsMin xs a) (k : IsMin xs b) : a = b := by
  have h1 := h.2 b k.1
  have h2 := k.2 a h.1
  omega
theorem exists_min : ∀ {xs : List Int}, xs ≠ [] → ∃ a, IsMin xs a
  | [], h => absurd rfl h
  | [x], _ => ⟨x, by simp, fun y hy => by simp at hy; omega⟩
  | x :: y :: r, _ => by
    obtain ⟨a, h1, h2⟩ := exists_min (xs := y :: r) (by simp)
    by_cases q : x ≤ a
    · refine ⟨x, by simp, fun z hz => ?_⟩
      rcases List.mem_cons.mp hz with e | e
      · omega
      · have := h2 z e
        omega
    · refine ⟨a, List.mem_cons_of_mem _ h1, fun z hz => ?_⟩
      rcases List.mem_cons.mp hz with e | e
      · omega
      · exact h2 z e
theorem mem_pick {ls : List Int} {m : Nat} {x : Int} : x ∈ pick ls m ↔ ∃ d, d < ls.length ∧ m.testBit d = true ∧ ls.getD d 0 = x := by
  unfold pick
  rw [List.mem_map]
  constructor
  · rintro ⟨d, h, e⟩
    obtain ⟨h1, h2⟩ := mem_days.mp h
    exact ⟨d, h1, h2, e⟩
  · rintro ⟨d, h1, h2, e⟩
    exact ⟨d, mem_days.mpr ⟨h1, h2⟩, e⟩
theorem pick_nil_iff {ls : List Int} {m : Nat} : pick ls m = [] ↔ days ls.length m = [] := by
  unfold pick
  exact List.map_eq_nil_iff
def lowN (w t : Nat) (u : Bool) : Nat := if u then w &&& t else diff w t
def highN (w t : Nat) (u : Bool) : Nat := if u then diff w t else w &&& t
def stepI (u : Bool) : Int := if u then 1 else 0
/-- what keeping means -/
def keepsB (ls : List Int) (w t : Nat) (u : Bool) : Bool := (pick ls (highN w t u)).all fun y => (pick ls (lowN w t u)).any fun x => decide (x + stepI u ≤ y)
section
variable {ls : List Int} {w t : Nat} {u : Bool}
theorem keeps_iff : keepsB ls w t u = true ↔ ∀ y, y ∈ pick ls (highN w t u) → ∃ x, x ∈ pick ls (lowN w t u) ∧ x + stepI u ≤ y := by
  unfold keepsB
  simp only [List.all_eq_true, List.any_eq_true, decide_eq_true_eq]
theorem keeps_nil (h : pick ls (highN w t u) = []) : keepsB ls w t u = true := by
  unfold keepsB
  rw [h]
  rfl
theorem keeps_low (h : pick ls (highN w t u) ≠ []) (k : pick ls (lowN w t u) = []) : keepsB ls w t u = false := by
  unfold keepsB
  rw [k]
  cases e : pick ls (highN w t u) with
  | nil => exact absurd e h
  | cons a r => rfl
theorem keeps_min {a b : Int} (h : IsMin (pick ls (highN w t u)) b) (k : IsMin (pick ls (lowN w t u)) a) : keepsB ls w t u = decide (a + stepI u ≤ b) := by
  rw [Bool.eq_iff_iff, keeps_iff, decide_eq_true_eq]
  constructor
  · intro q
    obtain ⟨x, hx, hl⟩ := q b h.1
    have := k.2 x hx
    omega
  · intro q y hy
    have := h.2 y hy
    exact ⟨a, k.1, by omega⟩
theorem testBit_low (d : Nat) : (lowN w t u).testBit d = (w.testBit d && (t.testBit d == u)) := by
  unfold lowN
  cases u with
  | true => simp only [if_true]; rw [Nat.testBit_and]; cases w.testBit d <;> cases t.testBit d <;> rfl
  | false => simp only [Bool.false_eq_true, if_false]; rw [testBit_diff]; cases w.testBit d <;> cases t.testBit d <;> rfl
theorem testBit_high (d : Nat) : (highN w t u).testBit d = (w.testBit d && (t.testBit d != u)) := by
  unfold highN
  cases u with
  | true => simp only [if_true]; rw [testBit_diff]; cases w.testBit d <;> cases t.testBit d <;> rfl
  | false => simp only [Bool.false_eq_true, if_false]; rw [Nat.testBit_and]; cases w.testBit d <;> cases t.testBit d <;> rfl
theorem low_not : lowN w t (!u) = highN w t u := by cases u <;> rfl
theorem high_not : highN w t (!u) = lowN w t u := by cases u <;> rfl
theorem exists_day {n : Nat} (h0 : 0 < w) (hn : w < 2 ^ n) : ∃ d, d < n ∧ w.testBit d = true := by
  obtain ⟨d, hd⟩ := Nat.exists_testBit_of_ne_zero (x := w) (by omega)
  refine ⟨d, ?_, hd⟩
  rcases Nat.lt_or_ge d n with q | q
  · exact q
  · rw [testBit_of_lt hn q] at hd
    cases hd
theorem pick_where_ne (h0 : 0 < w) (hn : w < 2 ^ ls.length) : pick ls w ≠ [] := by
  obtain ⟨d, h1, h2⟩ := exists_day h0 hn
  intro e
  have : ls.getD d 0 ∈ pick ls w := mem_pick.mpr ⟨d, h1, h2, rfl⟩
  rw [e] at this
  cases this
/-- exactly one of a saying and its contrary is kept -/
theorem keeps_contrary (h0 : 0 < w) (hn : w < 2 ^ ls.length) : keepsB ls w t (!u) = !keepsB ls w t u := by
  obtain ⟨d, h1, h2⟩ := exists_day h0 hn
  by_cases hh : pick ls (highN w t u) = []
  · rw [keeps_nil hh]
    have hl : pick ls (lowN w t u) ≠ [] := fun e => by
      rcases hb : (t.testBit d == u) with _ | _
      · have : ls.getD d 0 ∈ pick ls (highN w t u) := mem_pick.mpr ⟨d, h1, by rw [testBit_high, h2]; simp only [bne, hb]; rfl, rfl⟩
        rw [hh] at this
        cases this
      · have : ls.getD d 0 ∈ pick ls (lowN w t u) := mem_pick.mpr ⟨d, h1, by rw [testBit_low, h2, hb]; rfl, rfl⟩
        rw [e] at this
        cases this
    exact keeps_low (u := !u) (by rw [high_not]; exact hl) (by rw [low_not]; exact hh)
  · by_cases hl : pick ls (lowN w t u) = []
    · rw [keeps_low hh hl]
      exact keeps_nil (u := !u) (by rw [high_not]; exact hl)
    · obtain ⟨a, ha⟩ := exists_min hl
      obtain ⟨b, hb⟩ := exists_min hh
      rw [keeps_min hb ha, keeps_min (u := !u) (a := b) (b := a) (by rw [high_not]; exact ha) (by rw [low_not]; exact hb)]
      cases u with
      | true =>
        show decide (b + 0 ≤ a) = !decide (a + 1 ≤ b)
        by_cases q : a + 1 ≤ b
        · rw [decide_eq_true q, decide_eq_false (by omega)]; rfl
        · rw [decide_eq_false q, decide_eq_true (by omega)]; rfl
      | false =>
        show decide (b + 1 ≤ a) = !decide (a + 0 ≤ b)
        by_cases q : a + 0 ≤ b
        · rw [decide_eq_true q, decide_eq_false (by omega)]; rfl
        · rw [decide_eq_false q, decide_eq_true (by omega)]; rfl
/-- usually is kept exactly if the normal days are in then -/
theorem keeps_normal {a : Int} (ha : IsMin (pick ls w) a) : keepsB ls w t true = true ↔ ∀ d, d < ls.length → w.testBit d = true → ls.getD d 0 = a → t.testBit d = true := by
  rw [keeps_iff]
  constructor
  · intro h d h1 h2 h3
    cases ht : t.testBit d with
    | true => rfl
    | false =>
      obtain ⟨x, hx, hl⟩ := h (ls.getD d 0) (mem_pick.mpr ⟨d, h1, by rw [testBit_high, h2, ht]; rfl, rfl⟩)
      obtain ⟨d', k1, k2, k3⟩ := mem_pick.mp hx
      rw [testBit_low] at k2
      have k4 : w.testBit d' = true := by
        cases q : w.testBit d' with
        | true => rfl
        | false => rw [q] at k2; cases k2
      have := ha.2 x (mem_pick.mpr ⟨d', k1, k4, k3⟩)
      simp only [stepI, if_true] at hl
      omega
  · intro h y hy
    obtain ⟨d, h1, h2, h3⟩ := mem_pick.mp hy
    obtain ⟨e, k1, k2, k3⟩ := mem_pick.mp ha.1
    refine ⟨a, mem_pick.mpr ⟨e, k1, by rw [testBit_low, k2, h e k1 k2 k3]; rfl, k3⟩, ?_⟩
    rw [testBit_high] at h2
    have h4 : w.testBit d = true := by
      cases q : w.testBit d with
      | true => rfl
      | false => rw [q] at h2; cases h2
    have h5 : t.testBit d = false := by
      cases q : t.testBit d with
      | false => rfl
      | true => rw [h4, q] at h2; cases h2
    have h6 := ha.2 y (mem_pick.mpr ⟨d, h1, h4, h3⟩)
    have h7 : y ≠ a := fun z => by
      have := h d h1 h4 (by rw [h3, z])
      rw [h5] at this
      cases this
    simp only [stepI, if_true]
    omega
end
/-- the normal days, as a number -/
def normalDays (ls : List Int) (w : Nat) (a : Int) : List Nat := (List.range ls.length).filter fun d => w.testBit d && decide (ls.getD d 0 = a)
theorem normal_test {ls : List Int} {w t : Nat} {a : Int} (ha : IsMin (pick ls w) a) :
    decide (Builtin.bitAnd ((powSum (normalDays ls w a) : Nat) : Int) (Builtin.bitNot (t : Int)) = 0) = keepsB ls w t true := by
  rw [bitAndNot_nat, Bool.eq_iff_iff, decide_eq_true_eq, keeps_normal ha]
  have key : ∀ i, (diff (powSum (normalDays ls w a)) t).testBit i = ((decide (i < ls.length) && (w.testBit i && decide (ls.getD i 0 = a))) && !t.testBit i) := fun i => by
    rw [testBit_diff]
    unfold normalDays
    rw [powSum_testBit]
  constructor
  · intro h d h1 h2 h3
    have e : diff (powSum (normalDays ls w a)) t = 0 := by omega
    have k := key d
    rw [e, Nat.zero_testBit, h2] at k
    simp only [h1, decide_true, Bool.true_and, h3] at k
    cases ht : t.testBit d with
    | true => rfl
    | false => rw [ht] at k; cases k
  · intro h
    have e : diff (powSum (normalDays ls w a)) t = 0 := by
      apply Nat.eq_of_testBit_eq
      intro i
      rw [key, Nat.zero_testBit]
      by_cases h1 : i < ls.length
      · cases h2 : w.testBit i with
        | false => simp
        | true =>
          by_cases h3 : ls.getD i 0 = a
          · rw [h i h1 h2 h3]; simp
          · have : decide (ls.getD i 0 = a) = false := decide_eq_false h3
            rw [this]; simp
      · simp [h1]
    rw [e]
    rfl
end K14

/-! The text by places, the data on the heap, the promises. -/
namespace K14
open PySem PySem.Spec PyProof.Rows L2

/-! ### the text by places -/
def top (i : Nat) : Stmt := PySem.Challenge.pw_usualdays_k14_whole_keeping.main.body.getD i (.Pass ⟨0, 0, 0, 0⟩)
abbrev sDays : Stmt := top 2
abbrev sOD : Stmt := inClass (top 11) 0
abbrev sWhole : Stmt := top 14
abbrev sChecked : Stmt := top 18
abbrev sCheck : Stmt := top 19
abbrev sFnk : Stmt := top 21
abbrev sOrdI : Stmt := inClass (top 22) 0
abbrev sOrdC : Stmt := inClass (top 22) 6
abbrev sLeast : Stmt := inClass (top 22) 10
abbrev sNormal : Stmt := inClass (top 22) 11
abbrev sKeeps : Stmt := inClass (top 22) 14
abbrev sKeepsAll : Stmt := inClass (top 22) 15
abbrev sFault : Stmt := top 28
abbrev sMarksI : Stmt := inClass (top 29) 0
abbrev sSayI : Stmt := inClass (top 33) 0
abbrev sContrary : Stmt := inClass (top 33) 3
abbrev sBookI : Stmt := inClass (top 36) 0
abbrev sBookIt : Stmt := inClass (top 36) 3
abbrev sLBag : Stmt := top 38
abbrev sLTake : Stmt := top 39
abbrev sLOf : Stmt := top 40
abbrev sLLayers : Stmt := top 41
abbrev sLSides : Stmt := top 42
abbrev sLKeeps : Stmt := top 43
abbrev sLToward : Stmt := top 44
abbrev sLAny : Stmt := top 45
abbrev sLMarks : Stmt := top 46
abbrev sLSaid : Stmt := top 47
abbrev sLFlag : Stmt := top 48
abbrev sLFirst : Stmt := top 49
abbrev sLAnswers : Stmt := top 50
abbrev sLRefused : Stmt := top 51
abbrev sLLong : Stmt := top 52
abbrev sLaw : Stmt := top 53
abbrev FnP (K : PySem.W.Frag) (x qual : Str) (st : Stmt) (f : Addr) (fd : FuncData) : Prop := FunD K x qual (defArgs st) (defBody st) (defScope st) [] [] f fd

/-! ### the classes, where they stand -/
structure Cl where
  O : Addr
  M : Addr
  S : Addr
  B : Addr
  E : Addr
  D : Addr

/-! ### the data -/
/-- a saying -/
structure Sy where
  w : Nat
  t : Nat
  u : Bool
def Sy.not (s : Sy) : Sy := ⟨s.w, s.t, !s.u⟩
def Sy.keep (ls : List Int) (s : Sy) : Bool := keepsB ls s.w s.t s.u
/-- all its days are of the first n -/
def Sy.fits (n : Nat) (s : Sy) : Prop := (s.w ||| s.t) < 2 ^ n
/-- it may be made -/
def Sy.ok (s : Sy) : Prop := 1 ≤ s.w ∧ s.w ≤ 65535 ∧ s.t ≤ 65535
instance (n : Nat) (s : Sy) : Decidable (s.fits n) := inferInstanceAs (Decidable (_ < _))
def ofl (t : Addr) : List (Str × V) := putF "layers" (.ref t) []
def sfl (s : Sy) : List (Str × V) :=
  putF "step" (.int (stepI s.u)) (putF "high" (.int (highN s.w s.t s.u : Nat)) (putF "low" (.int (lowN s.w s.t s.u : Nat)) (putF "broken" (.int (diff s.w s.t : Nat)) (putF "confirm" (.int (s.w &&& s.t : Nat))
    (putF "usual" (.bl s.u) (putF "then" (.int (s.t : Nat)) (putF "where" (.int (s.w : Nat)) [])))))))
def bfl (m t : Addr) : List (Str × V) := putF "sayings" (.ref t) (putF "marks" (.ref m) [])
def mfl (t : Addr) (k n : Int) (a : Int) : List (Str × V) := putF "all_days" (.int a) (putF "days" (.int n) (putF "count" (.int k) (putF "names" (.ref t) [])))
theorem lk_pos (f : Str) (v : V) (fs : List (Str × V)) : (putF f v fs).lookup f = some v := by rw [lookup_putF, if_pos rfl]
theorem lk_neg {f g : Str} (h : ¬ g = f) (v : V) (fs : List (Str × V)) : (putF f v fs).lookup g = fs.lookup g := by rw [lookup_putF, if_neg h]
theorem ofl_layers (t : Addr) : (ofl t).lookup ("layers" : Str) = some (V.ref t) := lk_pos _ _ _
theorem ofl_no (t : Addr) {m : Str} (h : ¬ m = "layers") : (ofl t).lookup m = none := by unfold ofl; rw [lk_neg h]; rfl
theorem sfl_where (s : Sy) : (sfl s).lookup ("where" : Str) = some (V.int (s.w : Nat)) := by
  unfold sfl
  rw [lk_neg (by decide +kernel), lk_neg (by decide +kernel), lk_neg (by decide +kernel), lk_neg (by decide +kernel), lk_neg (by decide +kernel), lk_neg (by decide +kernel), lk_neg (by decide +kernel), lk_pos]
theorem sfl_then (s : Sy) : (sfl s).lookup ("then" : Str) = some (V.int (s.t : Nat)) := by
  unfold sfl
  rw [lk_neg (by decide +kernel), lk_neg (by decide +kernel), lk_neg (by decide +kernel), lk_neg (by decide +kernel), lk_neg (by decide +kernel), lk_neg (by decide +kernel), lk_pos]
theorem sfl_usual (s : Sy) : (sfl s).lookup ("usual" : Str) = some (V.bl s.u) := by
  unfold sfl
  rw [lk_neg (by decide +kernel), lk_neg (by decide +kernel), lk_neg (by decide +kernel), lk_neg (by decide +kernel), lk_neg (by decide +kernel), lk_pos]
theorem sfl_low (s : Sy) : (sfl s).lookup ("low" : Str) = some (V.int (lowN s.w s.t s.u : Nat)) := by
  unfold sfl
  rw [lk_neg (by decide +kernel), lk_neg (by decide +kernel), lk_pos]
theorem sfl_high (s : Sy) : (sfl s).lookup ("high" : Str) = some (V.int (highN s.w s.t s.u : Nat)) := by
  unfold sfl
  rw [lk_neg (by decide +kernel), lk_pos]
theorem sfl_step (s : Sy) : (sfl s).lookup ("step" : Str) = some (V.int (stepI s.u)) := lk_pos _ _ _
theorem sfl_contrary (s : Sy) : (sfl s).lookup ("contrary" : Str) = none := by
  unfold sfl
  rw [lk_neg (by decide +kernel), lk_neg (by decide +kernel), lk_neg (by decide +kernel), lk_neg (by decide +kernel), lk_neg (by decide +kernel), lk_neg (by decide +kernel), lk_neg (by decide +kernel), lk_neg (by decide +kernel)]
  rfl
theorem bfl_sayings (m t : Addr) : (bfl m t).lookup ("sayings" : Str) = some (V.ref t) := lk_pos _ _ _
theorem mfl_all (t : Addr) (k n a : Int) : (mfl t k n a).lookup ("all_days" : Str) = some (V.int a) := lk_pos _ _ _

/-- the layers of an order that may be made -/
structure Lay (ls : List Int) : Prop where
  len : ls.length = 2 ∨ ls.length = 4 ∨ ls.length = 8 ∨ ls.length = 16
  rng : ∀ x, x ∈ ls → 0 ≤ x ∧ x ≤ 10 ^ 30
  zero : (0 : Int) ∈ ls
theorem Lay.le {ls : List Int} (h : Lay ls) : ls.length ≤ 16 := by have := h.len; omega
theorem Lay.pos {ls : List Int} (h : Lay ls) : 2 ≤ ls.length := by have := h.len; omega
def OrdAt (c : Cl) (H : Hp) (p : Addr) (ls : List Int) : Prop := ∃ dx t, H p = some (.ins c.O dx (ofl t)) ∧ H t = some (.tup (ls.map V.int))
def SayAt (c : Cl) (H : Hp) (p : Addr) (s : Sy) : Prop := ∃ dx, H p = some (.ins c.S dx (sfl s))
def TupAt (H : Hp) (p : Addr) (s : Sy) : Prop := H p = some (.tup [.int (s.w : Nat), .int (s.t : Nat), .bl s.u])
def All2 (P : Addr → Sy → Prop) (as : List Addr) (ss : List Sy) : Prop := as.length = ss.length ∧ ∀ (i : Nat) a s, as[i]? = some a → ss[i]? = some s → P a s
def BookAt (c : Cl) (H : Hp) (b : Addr) (as : List Addr) : Prop := ∃ dx m t, H b = some (.ins c.B dx (bfl m t)) ∧ H t = some (.tup (as.map V.ref))
/-- marks with n days -/
def MarksAt (c : Cl) (H : Hp) (p : Addr) (n : Nat) : Prop := ∃ dx t k d, H p = some (.ins c.M dx (mfl t k d ((2 ^ n - 1 : Nat) : Int)))
/-- a list of ints -/
def IntsAt (H : Hp) (p : Addr) (ls : List Int) : Prop := H p = some (.lst (ls.map V.int))
def BagAt (H : Hp) (b : Addr) : Prop := ∃ x y z : Int, H b = some (.lst [.int x, .int y, .int z])
/-- all but the thing at b stands as it was -/
def But (b : Addr) (H H' : Hp) : Prop := ∀ a o, a ≠ b → H a = some o → H' a = some o
theorem But.refl (b : Addr) (H : Hp) : But b H H := fun _ _ _ h => h
theorem But.trans {b : Addr} {H H1 H2 : Hp} (x : But b H H1) (y : But b H1 H2) : But b H H2 := fun a o n h => y a o n (x a o n h)
theorem But.same {b : Addr} {H H1 H2 : Hp} (x : But b H H1) (y : Same H1 H2) : But b H H2 := fun a o n h => y a o (x a o n h)
theorem Same.but {b : Addr} {H H1 : Hp} (y : Same H H1) : But b H H1 := fun a o _ h => y a o h
theorem same_upd {H : Hp} {p : Addr} {o : HO} (h : H p = none) : Same H (upd H p o) := fun b x e => by
  rw [upd_ne (ne_of_none e h)]
  exact e
theorem but_upd {H : Hp} {p : Addr} {o : HO} : But p H (upd H p o) := fun b x n e => by
  rw [upd_ne n]
  exact e
/-- Same with a new thing at p that was not there -/
theorem Same.of_but {p : Addr} {H H1 : Hp} (y : But p H H1) (n : H p = none) : Same H H1 := fun a o h => y a o (ne_of_none h n) h
theorem But.free {b : Addr} {H H1 : Hp} (y : But b H H1) {p : Addr} (h : H1 p = none) (n : p ≠ b) : H p = none := by
  cases q : H p with
  | none => rfl
  | some o =>
    rw [y p o n q] at h
    cases h
theorem OrdAt.same {c : Cl} {H H1 : Hp} {p : Addr} {ls : List Int} (h : OrdAt c H p ls) (s : Same H H1) : OrdAt c H1 p ls := by
  obtain ⟨dx, t, h1, h2⟩ := h
  exact ⟨dx, t, s _ _ h1, s _ _ h2⟩
theorem SayAt.same {c : Cl} {H H1 : Hp} {p : Addr} {y : Sy} (h : SayAt c H p y) (s : Same H H1) : SayAt c H1 p y := by
  obtain ⟨dx, h1⟩ := h
  exact ⟨dx, s _ _ h1⟩
theorem TupAt.same {H H1 : Hp} {p : Addr} {y : Sy} (h : TupAt H p y) (s : Same H H1) : TupAt H1 p y := s _ _ h
theorem BookAt.same {c : Cl} {H H1 : Hp} {p : Addr} {as : List Addr} (h : BookAt c H p as) (s : Same H H1) : BookAt c H1 p as := by
  obtain ⟨dx, m, t, h1, h2⟩ := h
  exact ⟨dx, m, t, s _ _ h1, s _ _ h2⟩
theorem MarksAt.same {c : Cl} {H H1 : Hp} {p : Addr} {n : Nat} (h : MarksAt c H p n) (s : Same H H1) : MarksAt c H1 p n := by
  obtain ⟨dx, t, k, d, h1⟩ := h
  exact ⟨dx, t, k, d, s _ _ h1⟩
theorem BagAt.same {H H1 : Hp} {p : Addr} (h : BagAt H p) (s : Same H H1) : BagAt H1 p := by
  obtain ⟨x, y, z, h1⟩ := h
  exact ⟨x, y, z, s _ _ h1⟩
theorem OrdAt.but {c : Cl} {H H1 : Hp} {p b : Addr} {ls : List Int} (h : OrdAt c H p ls) (hb : BagAt H b) (s : But b H H1) : OrdAt c H1 p ls := by
  obtain ⟨dx, t, h1, h2⟩ := h
  obtain ⟨x, y, z, h3⟩ := hb
  exact ⟨dx, t, s _ _ (ne_of h1 h3 (fun q => nomatch q)) h1, s _ _ (ne_of h2 h3 (fun q => nomatch q)) h2⟩
theorem TupAt.but {H H1 : Hp} {p b : Addr} {y : Sy} (h : TupAt H p y) (hb : BagAt H b) (s : But b H H1) : TupAt H1 p y := by
  obtain ⟨_, _, _, h3⟩ := hb
  exact s _ _ (ne_of h h3 (fun q => nomatch q)) h
theorem All2.imp {P R : Addr → Sy → Prop} {as : List Addr} {ss : List Sy} (h : All2 P as ss) (f : ∀ a s, P a s → R a s) : All2 R as ss := ⟨h.1, fun i a s e1 e2 => f a s (h.2 i a s e1 e2)⟩
theorem All2.nil {P : Addr → Sy → Prop} : All2 P [] [] := ⟨rfl, fun i a s e => by simp at e⟩
theorem All2.snoc {P : Addr → Sy → Prop} {as : List Addr} {ss : List Sy} {a : Addr} {s : Sy} (h : All2 P as ss) (k : P a s) : All2 P (as ++ [a]) (ss ++ [s]) := by
  refine ⟨by rw [List.length_append, List.length_append, h.1]; rfl, fun i b r e1 e2 => ?_⟩
  rcases Nat.lt_or_ge i as.length with q | q
  · rw [List.getElem?_append_left q] at e1
    rw [List.getElem?_append_left (by rw [← h.1]; exact q)] at e2
    exact h.2 i b r e1 e2
  · rw [List.getElem?_append_right q] at e1
    rw [List.getElem?_append_right (by rw [← h.1]; exact q)] at e2
    rw [h.1] at e1
    cases hj : i - ss.length with
    | zero =>
      rw [hj] at e1 e2
      have x1 : a = b := Option.some.inj e1
      have x2 : s = r := Option.some.inj e2
      rw [← x1, ← x2]
      exact k
    | succ j =>
      rw [hj] at e1
      simp at e1
/-- what may be handed in as sayings: a list, a tuple, a book -/
def Says (c : Cl) (H : Hp) (v : V) (as : List Addr) : Prop := ∃ p, v = .ref p ∧ (H p = some (.lst (as.map V.ref)) ∨ H p = some (.tup (as.map V.ref)) ∨ BookAt c H p as)
theorem Says.same {c : Cl} {H H1 : Hp} {v : V} {as : List Addr} (h : Says c H v as) (s : Same H H1) : Says c H1 v as := by
  obtain ⟨p, e, h⟩ := h
  refine ⟨p, e, ?_⟩
  rcases h with h | h | h
  · exact .inl (s _ _ h)
  · exact .inr (.inl (s _ _ h))
  · exact .inr (.inr (h.same s))
/-- the number of the first that is not kept -/
def firstIx (ls : List Int) : List Sy → Option Nat
  | [] => none
  | s :: r => if s.keep ls then (firstIx ls r).map (· + 1) else some 0
def firstV (ls : List Int) (ss : List Sy) : V := match firstIx ls ss with
  | none => .non
  | some i => .int (i : Nat)
theorem firstIx_none {ls : List Int} : ∀ {ss : List Sy}, (∀ s, s ∈ ss → s.keep ls = true) → firstIx ls ss = none
  | [], _ => rfl
  | s :: r, h => by
    unfold firstIx
    rw [if_pos (h s List.mem_cons_self), firstIx_none fun x hx => h x (List.mem_cons_of_mem _ hx)]
    rfl
theorem firstIx_some {ls : List Int} : ∀ {ss : List Sy} {i : Nat} {s : Sy}, ss[i]? = some s → s.keep ls = false → (∀ (j : Nat) r, j < i → ss[j]? = some r → r.keep ls = true) → firstIx ls ss = some i
  | [], i, s, e, _, _ => by simp at e
  | x :: r, 0, s, e, h, _ => by
    have q : x = s := Option.some.inj e
    subst q
    unfold firstIx
    rw [h]
    rfl
  | x :: r, i + 1, s, e, h, k => by
    unfold firstIx
    rw [if_pos (k 0 x (Nat.succ_pos _) rfl), firstIx_some (ss := r) (i := i) e h fun j q hj ej => k (j + 1) q (Nat.succ_lt_succ hj) ej]
    rfl
theorem firstIx_iff {ls : List Int} : ∀ {ss : List Sy}, firstIx ls ss = none ↔ ∀ s, s ∈ ss → s.keep ls = true
  | [] => by simp [firstIx]
  | x :: r => by
    unfold firstIx
    by_cases h : x.keep ls = true
    · rw [if_pos h]
      rw [Option.map_eq_none_iff, firstIx_iff (ss := r)]
      simp [h]
    · rw [if_neg h]
      simp [h]
/-- the least of some layers, or None -/
def LeastV (xs : List Int) (v : V) : Prop := (xs = [] ∧ v = .non) ∨ ∃ a, IsMin xs a ∧ v = .int a

/-! ### the promises -/
def spDays : Sp := fun vs H Q _ => ∃ m n : Nat, vs = [.int (m : Nat)] ∧ m < 2 ^ n ∧ n ≤ 16 ∧ ∀ p H', Same H H' → H p = none → H' p = some (.tup ((days n m).map fun d => V.int (d : Nat))) → Q (.ref p) H'
def spWhole : Sp := fun vs H Q _ => ∃ x lo hi : Int, vs = [.int x, .int lo, .int hi] ∧ Q (.bl (decide (lo ≤ x) && decide (x ≤ hi))) H
def spChecked : Sp := fun vs H Q _ => ∃ p ls, vs = [.ref p] ∧ IntsAt H p ls ∧ Lay ls ∧ ∀ t H', Same H H' → H t = none → H' t = some (.tup (ls.map V.int)) → Q (.ref t) H'
def spCheck (c : Cl) : Sp := fun vs H Q E => ∃ o ls, ∃ m : Nat, vs = [.ref o, .int (m : Nat)] ∧ OrdAt c H o ls ∧ ls.length ≤ 16 ∧ (m < 2 ^ ls.length → Q .non H) ∧ (¬ m < 2 ^ ls.length → ∀ H', Same H H' → E (.ref c.E) none H')
/-- first_not_kept, and the call of an order -/
def spFnk (c : Cl) : Sp := fun vs H Q E => ∃ o v ls as ss, vs = [.ref o, v] ∧ OrdAt c H o ls ∧ Lay ls ∧ Says c H v as ∧ All2 (SayAt c H) as ss ∧ ss.length ≤ 1000 ∧ (∀ s, s ∈ ss → s.ok) ∧
  ((∀ s, s ∈ ss → s.fits ls.length) → ∀ H', Same H H' → Q (firstV ls ss) H') ∧ ((∃ s, s ∈ ss ∧ ¬ s.fits ls.length) → ∀ H', Same H H' → E (.ref c.E) none H')
def spAll (c : Cl) : Sp := fun vs H Q E => ∃ o v ls as ss, vs = [.ref o, v] ∧ OrdAt c H o ls ∧ Lay ls ∧ Says c H v as ∧ All2 (SayAt c H) as ss ∧ ss.length ≤ 1000 ∧ (∀ s, s ∈ ss → s.ok) ∧
  ((∀ s, s ∈ ss → s.fits ls.length) → ∀ H', Same H H' → Q (.bl (firstIx ls ss).isNone) H') ∧ ((∃ s, s ∈ ss ∧ ¬ s.fits ls.length) → ∀ H', Same H H' → E (.ref c.E) none H')
def spOrdI (c : Cl) : Sp := fun vs H Q _ => ∃ p dx l ls, vs = [.ref p, .ref l] ∧ H p = some (.ins c.O dx []) ∧ IntsAt H l ls ∧ Lay ls ∧ ∀ H', OrdAt c H' p ls → But p H H' → Q .non H'
def spLeast (c : Cl) : Sp := fun vs H Q _ => ∃ o ls, ∃ m : Nat, vs = [.ref o, .int (m : Nat)] ∧ OrdAt c H o ls ∧ ls.length ≤ 16 ∧ m < 2 ^ ls.length ∧ ∀ v H', Same H H' → LeastV (pick ls m) v → Q v H'
def spNormal (c : Cl) : Sp := fun vs H Q _ => ∃ o ls, ∃ m : Nat, vs = [.ref o, .int (m : Nat)] ∧ OrdAt c H o ls ∧ ls.length ≤ 16 ∧ m < 2 ^ ls.length ∧ 1 ≤ m ∧ ∀ a H', Same H H' → IsMin (pick ls m) a → Q (.int (powSum (normalDays ls m a) : Nat)) H'
def spKeeps (c : Cl) : Sp := fun vs H Q E => ∃ o p ls s, vs = [.ref o, .ref p] ∧ OrdAt c H o ls ∧ ls.length ≤ 16 ∧ SayAt c H p s ∧ (s.fits ls.length → ∀ H', Same H H' → Q (.bl (s.keep ls)) H') ∧ (¬ s.fits ls.length → ∀ H', Same H H' → E (.ref c.E) none H')
def abcd : List Str := ["a", "b", "c", "d"]
def spFault : Sp := fun vs H Q _ => ∃ z, vs = [.str z] ∧ z ∈ abcd ∧ Q .non H
def spMarksI (c : Cl) : Sp := fun vs H Q _ => ∃ p dx l k, vs = [.ref p, .ref l] ∧ H p = some (.ins c.M dx []) ∧ H l = some (.lst ((abcd.take k).map V.str)) ∧ 1 ≤ k ∧ k ≤ 4 ∧ ∀ H', MarksAt c H' p (2 ^ k) → But p H H' → Q .non H'
def spSayI (c : Cl) : Sp := fun vs H Q _ => ∃ p dx s, vs = [.ref p, .int ((Sy.w s : Nat) : Int), .int ((Sy.t s : Nat) : Int), .bl (Sy.u s)] ∧ s.ok ∧ H p = some (.ins c.S dx []) ∧ ∀ H', SayAt c H' p s → But p H H' → Q .non H'
def spContrary (c : Cl) : Sp := fun vs H Q _ => ∃ p s, vs = [.ref p] ∧ SayAt c H p s ∧ s.ok ∧ ∀ q H', Same H H' → SayAt c H' q s.not → Q (.ref q) H'
def spBookI (c : Cl) : Sp := fun vs H Q _ => ∃ p dx m l n as ss, vs = [.ref p, .ref m, .ref l] ∧ H p = some (.ins c.B dx []) ∧ MarksAt c H m n ∧ H l = some (.lst (as.map V.ref)) ∧ All2 (SayAt c H) as ss ∧ ss.length ≤ 12 ∧ (∀ s, s ∈ ss → s.fits n) ∧
  ∀ H', BookAt c H' p as → But p H H' → Q .non H'
def spTake : Sp := fun vs H Q _ => ∃ b, ∃ m : Int, vs = [.ref b, .int m] ∧ BagAt H b ∧ 0 < m ∧ m < 1073741824 ∧ ∀ (d : Int) H', 0 ≤ d → d < m → BagAt H' b → But b H H' → Q (.int d) H'
def spOf (K : PySem.W.Frag) : Sp := fun vs H Q _ => ∃ b p xs, vs = [.ref b, .ref p] ∧ BagAt H b ∧ p ≠ b ∧ SqL K H p xs ∧ 0 < xs.length ∧ xs.length < 1000000 ∧ ∀ (j : Nat) v H', xs[j]? = some v → BagAt H' b → But b H H' → Q v H'
def spBag (K : PySem.W.Frag) : Sp := fun vs H Q _ => ∃ (a : Addr) (ns : List Int) (k : Int), vs = [.ref a, .int k] ∧ SqL K H a (ns.map V.int) ∧ ns.length ≤ 63 ∧ 0 ≤ k ∧ ∀ b H', H b = none → BagAt H' b → Same H H' → Q (.ref b) H'
def spLayers : Sp := fun vs H Q _ => ∃ b, ∃ n : Nat, vs = [.ref b, .int (n : Nat)] ∧ BagAt H b ∧ (n = 2 ∨ n = 4 ∨ n = 8 ∨ n = 16) ∧ ∀ p ls H', Lay ls → ls.length = n → IntsAt H' p ls → H p = none → BagAt H' b → But b H H' → Q (.ref p) H'
def spSides : Sp := fun vs H Q _ => ∃ p s, vs = [.ref p] ∧ TupAt H p s ∧ ∀ q, H q = none → Q (.ref q) (upd H q (.tup [.int (lowN s.w s.t s.u : Nat), .int (highN s.w s.t s.u : Nat)]))
def spLKeeps : Sp := fun vs H Q _ => ∃ l p ls s, vs = [.ref l, .ref p] ∧ IntsAt H l ls ∧ ls.length ≤ 16 ∧ TupAt H p s ∧ ∀ H', Same H H' → Q (.bl (s.keep ls)) H'
/-- a drawn saying -/
structure Drawn (n : Nat) (s : Sy) : Prop where
  pos : 1 ≤ s.w
  w : s.w < 2 ^ n
  t : s.t < 2 ^ n
def spToward : Sp := fun vs H Q _ => ∃ b l ls, vs = [.ref b, .ref l] ∧ BagAt H b ∧ IntsAt H l ls ∧ Lay ls ∧ ∀ p s H', Drawn ls.length s → s.keep ls = true → TupAt H' p s → H p = none → BagAt H' b → But b H H' → Q (.ref p) H'
def spAny : Sp := fun vs H Q _ => ∃ b, ∃ n : Nat, vs = [.ref b, .int (n : Nat)] ∧ BagAt H b ∧ 1 ≤ n ∧ n ≤ 16 ∧ ∀ p s H', Drawn n s → TupAt H' p s → H p = none → BagAt H' b → But b H H' → Q (.ref p) H'
def spLMarks (c : Cl) : Sp := fun vs H Q _ => ∃ n : Nat, vs = [.int (n : Nat)] ∧ (n = 2 ∨ n = 4 ∨ n = 8 ∨ n = 16) ∧ ∀ p H', MarksAt c H' p n → Same H H' → Q (.ref p) H'
def spSaid (c : Cl) : Sp := fun vs H Q _ => ∃ l as ss, vs = [.ref l] ∧ H l = some (.lst (as.map V.ref)) ∧ All2 (TupAt H) as ss ∧ ss.length ≤ 100 ∧ (∀ s, s ∈ ss → s.ok) ∧
  ∀ p bs H', H' p = some (.lst (bs.map V.ref)) → H p = none → All2 (SayAt c H') bs ss → Same H H' → Q (.ref p) H'
def spFlag : Sp := fun vs H Q _ => ∃ a b : Bool, vs = [.bl a, .bl b] ∧ Q (.bl (decide (a = b))) H
def spFirst : Sp := fun vs H Q _ => ∃ l p ls as ss, vs = [.ref l, .ref p] ∧ IntsAt H l ls ∧ ls.length ≤ 16 ∧ H p = some (.lst (as.map V.ref)) ∧ All2 (TupAt H) as ss ∧ ss.length ≤ 100 ∧ ∀ H', Same H H' → Q (firstV ls ss) H'
def spAnswers (c : Cl) : Sp := fun vs H Q _ => ∃ o l p ls as ss, vs = [.ref o, .ref l, .ref p] ∧ OrdAt c H o ls ∧ Lay ls ∧ IntsAt H l ls ∧ H p = some (.lst (as.map V.ref)) ∧ All2 (TupAt H) as ss ∧ ss.length ≤ 8 ∧ (∀ s, s ∈ ss → Drawn ls.length s) ∧
  ∀ H', Same H H' → Q (.bl true) H'
/-- what is refused: one saying (how 2), some sayings (how 0, 1) -/
def spRefused (c : Cl) : Sp := fun vs H Q _ => ∃ o v ls, ∃ i : Int, vs = [.ref o, v, .int i] ∧ OrdAt c H o ls ∧ Lay ls ∧
  ((i = 2 ∧ ∃ p s, v = .ref p ∧ SayAt c H p s ∧ ¬ s.fits ls.length) ∨ ((i = 0 ∨ i = 1) ∧ ∃ as ss, Says c H v as ∧ All2 (SayAt c H) as ss ∧ ss.length ≤ 1000 ∧ (∀ s, s ∈ ss → s.ok) ∧ ∃ s, s ∈ ss ∧ ¬ s.fits ls.length)) ∧ ∀ H', Same H H' → Q (.bl true) H'
def spLong (c : Cl) : Sp := fun vs H Q _ => ∃ b o l ls, vs = [.ref b, .ref o, .ref l] ∧ BagAt H b ∧ OrdAt c H o ls ∧ IntsAt H l ls ∧ Lay ls ∧ ∀ H', BagAt H' b → But b H H' → Q (.bl true) H'
def spLaw (K : PySem.W.Frag) : Sp := fun vs H Q _ => ∃ (a : Addr) (ns : List Int), vs = [.ref a] ∧ SqL K H a (ns.map V.int) ∧ ns.length ≤ 63 ∧ ∀ H', Q (.bl true) H'

/-! ### callees -/
/-- a def of the module: it stands at its name and keeps its promise -/
def GFn (P : Program) (w : World) (K : PySem.W.Frag) (mg : Str → Option Value) (base : Heap) (CX : CXT) (k : Nat) (x : Str) (ps : List Str) (sp : Sp) : Prop :=
  ∃ f fd, FnOk P w K mg base CX k f fd ps sp ∧ mg x = some (.ref f) ∧ PySem.W.keepIn K (.ref f) = true ∧ Binds K fd ps []
/-- a method of the class at C -/
def MFn (P : Program) (w : World) (K : PySem.W.Frag) (mg : Str → Option Value) (base : Heap) (CX : CXT) (k : Nat) (C : Addr) (m : Str) (ps : List Str) (sp : Sp) : Prop :=
  ∃ f fd, FnOk P w K mg base CX k f fd ps sp ∧ Meth K C m f ∧ Binds K fd ps []
/-- a class by its name, its __init__ -/
def CFn (P : Program) (w : World) (K : PySem.W.Frag) (mg : Str → Option Value) (base : Heap) (CX : CXT) (k : Nat) (x : Str) (C : Addr) (ps : List Str) (sp : Sp) : Prop :=
  ∃ f fd, FnOk P w K mg base CX k f fd ps sp ∧ Mk K C f ∧ mg x = some (.ref C) ∧ Binds K fd ps []
/-- what the top has written of the classes, and the built-in names that stand -/
structure Txt (K : PySem.W.Frag) (mg : Str → Option Value) (c : Cl) : Prop where
  clO : Cls K c.O
  clM : Cls K c.M
  clS : Cls K c.S
  clB : Cls K c.B
  naO : ∀ f, f ∈ (["layers"] : List Str) → NoAttr K c.O f
  naM : ∀ f, f ∈ (["names", "count", "days", "all_days"] : List Str) → NoAttr K c.M f
  naS : ∀ f, f ∈ (["where", "then", "usual", "confirm", "broken", "low", "high", "step"] : List Str) → NoAttr K c.S f
  naB : ∀ f, f ∈ (["marks", "sayings"] : List Str) → NoAttr K c.B f
  free : ∀ x, x ∈ (["isinstance", "len", "min", "sum", "abs", "enumerate", "zip", "range", "iter", "int", "bool", "str", "list", "tuple"] : List Str) → mg x = none
theorem Txt.fr {K : PySem.W.Frag} {mg : Str → Option Value} {c : Cl} (T : Txt K mg c) (x : Str) (h : x ∈ (["isinstance", "len", "min", "sum", "abs", "enumerate", "zip", "range", "iter", "int", "bool", "str", "list", "tuple"] : List Str) := by decide +kernel) : mg x = none := T.free x h
end K14

namespace K14
open PySem PySem.Spec PyProof.Rows L2
/-! small helpers for readings -/
theorem iteNN {c A B : Prop} [Decidable c] (hc : ¬ c) (h : A) : if (!decide c) = true then A else B := by
  rw [decide_eq_false hc]
  exact iteT h
theorem iteP {c A B : Prop} [Decidable c] (hc : c) (h : A) : if decide c = true then A else B := by
  rw [decide_eq_true hc]
  exact iteT h
theorem iteQ {c A B : Prop} [Decidable c] (hc : ¬ c) (h : B) : if decide c = true then A else B := by
  rw [decide_eq_false hc]
  exact iteF h
theorem iteB {b : Bool} {A B : Prop} (hb : b = true) (h : A) : if b = true then A else B := by
  rw [if_pos hb]
  exact h
theorem iteC {b : Bool} {A B : Prop} (hb : b = false) (h : B) : if b = true then A else B := by
  rw [hb]
  exact iteF h
end K14

namespace K14
open PySem PySem.Spec PyProof.Rows L2
def keptWords : List Str := ["and", "any", "marks", "need", "never", "not", "or", "usually", "where"]
def lettersS : Str := "abcdefghijklmnopqrstuvwxyz"
/-- the constants of the modules -/
structure Cons (K : PySem.W.Frag) (mg : Str → Option Value) : Prop where
  counts : ∃ a, mg "COUNTS" = some (.ref a) ∧ ∀ H, SqT K H a [.int 2, .int 4, .int 8, .int 16]
  highest : ∃ t, mg "HIGHEST" = some (.int (10 ^ 30) t)
  letters : ∃ t, mg "LETTERS" = some (.str lettersS t)
  words : ∃ a, mg "KEPT_WORDS" = some (.ref a) ∧ ∀ H, SqT K H a (keptWords.map V.str)
  marks : ∃ t, mg "MOST_MARKS" = some (.int 4 t)
  name : ∃ t, mg "LONGEST_NAME" = some (.int 8 t)
  bits : ∃ t, mg "ALL_BITS" = some (.int 65535 t)
  says : ∃ t, mg "MOST_SAYINGS" = some (.int 12 t)
/-- an own class as isinstance asks it -/
structure IsT (K : PySem.W.Frag) (C : Addr) : Prop where
  ha : PySem.W.findIn K (.ref C) "__class__" = some (some (.builtin "object.__class__"))
  hn : PySem.W.specialIn K (.builtin "object.__class__") "__get__" = some (some (.builtin "getset_descriptor.__get__"))
  ht : PySem.W.takesIn K (.builtin "object.__class__") = some true
  hm : PySem.W.mroIn K C (.type "object") = some true
  kit : PySem.W.kitOne K (.ref C) (.ref C) = some true
end K14

namespace K14
open PySem PySem.Spec PyProof.Rows L2
section
variable {P : Program} {w : World} {K : PySem.W.Frag} {mg : Str → Option Value} {base : Heap} {c : Cl}
/-! is_whole -/
theorem scWhole : FnScope ["thing", "low", "high"] ["thing", "low", "high"] (defScope sWhole) := ⟨rfl, rfl, rfl, by decide +kernel, rfl, by decide +kernel, by decide +kernel⟩
theorem ok_whole {f : Addr} {fd : FuncData} (F : FnP K "is_whole" "is_whole" sWhole f fd) (T : Txt K mg c) : FnOk P w K mg base CX0 1 f fd ["thing", "low", "high"] spWhole := by
  refine F.ok scWhole (fun vs H Q E h => ?_) (fun cdv A outer s H vs Q E hr h => ?_)
  · obtain ⟨x, lo, hi, rfl, _⟩ := h
    rfl
  · obtain ⟨x, lo, hi, rfl, k⟩ := h
    refine ⟨_, PSs.nox (pss_one (ps_ret (pe_and (pe_callB call_isi (by rfl) (T.fr "isinstance") (by decide +kernel) (pa_cons (pv 0) (pa_cons (pe_bltn (v := .ty "int") (by rfl) (T.fr "int") (by decide +kernel) rfl) pa_nil)))
      (pe_and (pe_not (pe_callB call_isi (by rfl) (T.fr "isinstance") (by decide +kernel) (pa_cons (pv 0) (pa_cons (pe_bltn (v := .ty "bool") (by rfl) (T.fr "bool") (by decide +kernel) rfl) pa_nil))))
      (pe_one (pe_chain op_le op_le (pv 1) (pv 0) (pv 2))))))), ?_⟩
    refine ⟨_, rfl, _, _, _, _, true, rfl, .ty _, .base (.int _), kit_ty (by decide +kernel), _, rfl, iteT ?_⟩
    refine ⟨_, rfl, _, _, _, _, false, rfl, .ty _, .base (.int _), kit_ty (by decide +kernel), _, rfl, _, rfl, iteT ?_⟩
    refine ⟨_, rfl, _, rfl, _, _, rfl, rfl, _, rfl, ?_⟩
    by_cases q : lo ≤ x
    · rw [decide_eq_true q] at k ⊢
      exact iteT ⟨_, rfl, _, _, rfl, rfl, k⟩
    · rw [decide_eq_false q] at k ⊢
      exact iteF k
/-! _law_flag -/
theorem scFlag : FnScope ["_law_thing", "_law_due"] ["_law_thing", "_law_due"] (defScope sLFlag) := ⟨rfl, rfl, rfl, by decide +kernel, rfl, by decide +kernel, by decide +kernel⟩
theorem ok_flag {f : Addr} {fd : FuncData} (F : FnP K "_law_flag" "_law_flag" sLFlag f fd) : FnOk P w K mg base CX0 1 f fd ["_law_thing", "_law_due"] spFlag := by
  refine F.ok scFlag (fun vs H Q E h => ?_) (fun cdv A outer s H vs Q E hr h => ?_)
  · obtain ⟨x, y, rfl, _⟩ := h
    rfl
  · obtain ⟨x, y, rfl, k⟩ := h
    refine ⟨_, PSs.nox (pss_one (ps_ret (pe_ifExp (pt_val (pv 1)) (pe_cmpR op_isBl (pv 0) pe_bl (nomark _)) (pe_cmpR op_isBl (pv 0) pe_bl (nomark _))))), ?_⟩
    refine ⟨_, rfl, _, rfl, ?_⟩
    cases y with
    | true => exact iteT ⟨_, rfl, _, _, rfl, rfl, k⟩
    | false => exact iteF ⟨_, rfl, _, _, rfl, rfl, k⟩
/-! days_in -/
theorem scDays : FnScope ["day_set", "found", "day"] ["day_set"] (defScope sDays) := ⟨rfl, rfl, rfl, by decide +kernel, rfl, by decide +kernel, by decide +kernel⟩
theorem ok_days {f : Addr} {fd : FuncData} (F : FnP K "days_in" "days_in" sDays f fd) (T : Txt K mg c) : FnOk P w K mg base CX0 1 f fd ["day_set"] spDays := by
  refine F.ok scDays (fun vs H Q E h => ?_) (fun cdv A outer s H vs Q E hr h => ?_)
  · obtain ⟨m, n, rfl, _⟩ := h
    rfl
  · obtain ⟨m, n, rfl, hm, hn, k⟩ := h
    refine ⟨_, PSs.nox (pss_cons (ps_set (i := 1) scDays.nd rfl (.inl rfl) (pe_lst pa_nil))
      (pss_cons (ps_set (i := 2) scDays.nd rfl (.inl rfl) pe_int)
      (pss_cons (ps_while PassesOwn.never (pt_truth (pe_op op_shr (pv 0) (pv 2)) (by intro _; rfl))
        (pss_cons (ps_if (pt_truth (pe_op op_and (pe_op op_shr (pv 0) (pv 2)) pe_int) (by intro _; rfl))
          (pss_one (ps_expr (pe_bm PySem.F.plainAttrs_list PySem.F.slot_list_append PySem.F.type_list_append mt_append (pv 1) (pa_cons (pv 2) pa_nil)))) pss_nil)
        (pss_one (ps_aug (i := 2) scDays.nd rfl (.inl rfl) pe_int ip_add))))
      (pss_one (ps_ret (pe_callTy call_tuple_of (by rfl) (T.fr "tuple") (by decide +kernel) (pa_cons (pv 1) pa_nil))))))), ?_⟩
    refine ⟨Nat.zero_le _, fun l hl => ?_⟩
    -- the loop: found holds the days below day
    refine ⟨fun r σ H1 => ∃ d : Nat, r = n - d ∧ d ≤ n ∧ σ = [some (.int (m : Nat)), some (.ref l), some (.int (d : Nat))] ∧ H1 = upd H l (.lst ((days d m).map fun x => V.int (x : Nat))),
      ⟨n, 0, rfl, Nat.zero_le _, rfl, rfl⟩, ?_⟩
    rintro r σ H1 ⟨d, rfl, hd, rfl, rfl⟩
    refine ⟨_, rfl, _, rfl, _, _, rfl, rfl, Int.natCast_nonneg _, _, rfl, ?_⟩
    have es : (m : Int) / 2 ^ ((d : Nat) : Int).toNat = ((m / 2 ^ d : Nat) : Int) := shr_int m d
    rw [es]
    by_cases hz : m / 2 ^ d = 0
    · -- nothing is left
      have e0 : ((((m / 2 ^ d : Nat) : Int)) != 0) = false := by rw [hz]; rfl
      rw [e0]
      refine iteF ?_
      have hlt := shr_zero hz
      have ed : days d m = days n m := (days_any hlt hd).symm
      refine ⟨_, rfl, l, _, rfl, .inl ⟨SqL.of upd_same, fun p hp => ?_⟩⟩
      have hpH : H p = none := (same_upd hl).free hp
      refine k p _ ((same_upd hl).trans (same_upd hp)) hpH ?_
      rw [upd_same, ed]
    · have e0 : ((((m / 2 ^ d : Nat) : Int)) != 0) = true := by
        rw [bne_iff_ne]
        omega
      rw [e0]
      refine iteT ?_
      have hdn : d < n := by
        rcases Nat.lt_or_ge d n with q | q
        · exact q
        · have h1 : m < 2 ^ d := Nat.lt_of_lt_of_le hm (Nat.pow_le_pow_right (by decide) q)
          exact absurd (Nat.div_eq_of_lt h1) hz
      refine ⟨fun σ' H' => σ' = [some (.int (m : Nat)), some (.ref l), some (.int ((d + 1 : Nat) : Int))] ∧ H' = upd H l (.lst ((days (d + 1) m).map fun x => V.int (x : Nat))), ?_, ?_⟩
      · rintro σ' H' ⟨rfl, rfl⟩
        exact ⟨n - (d + 1), by omega, d + 1, rfl, hdn, rfl, rfl⟩
      · refine ⟨_, rfl, _, rfl, _, _, rfl, rfl, Int.natCast_nonneg _, _, _, rfl, rfl, _, rfl, ?_⟩
        rw [bit_int, days_succ]
        cases hb : m.testBit d with
        | true =>
          refine iteT ⟨_, rfl, .inl ⟨rfl, _, SqL.of upd_same⟩, _, rfl, l, _, _, rfl, rfl, upd_same, ?_, ?_⟩
          · rw [List.length_map]
            exact small1000 (by have := days_length d m; omega)
          · refine ⟨_, rfl, _, _, rfl, rfl, rfl, ?_⟩
            rw [upd_upd, if_pos rfl, List.map_append]
            rfl
        | false =>
          refine iteF ⟨_, rfl, _, _, rfl, rfl, rfl, ?_⟩
          rw [if_neg Bool.false_ne_true]
end
end K14

namespace K14
open PySem PySem.Spec PyProof.Rows L2
section
variable {P : Program} {w : World} {K : PySem.W.Frag} {mg : Str → Option Value} {base : Heap} {c : Cl}
/-! _law_take -/
theorem scTake : FnScope ["_law_bag_here", "_law_many", "_law_digit"] ["_law_bag_here", "_law_many"] (defScope sLTake) := ⟨rfl, rfl, rfl, by decide +kernel, rfl, by decide +kernel, by decide +kernel⟩
theorem ok_take {f : Addr} {fd : FuncData} (F : FnP K "_law_take" "_law_take" sLTake f fd) (T : Txt K mg c) : FnOk P w K mg base CX0 1 f fd ["_law_bag_here", "_law_many"] spTake := by
  refine F.ok scTake (fun vs H Q E h => ?_) (fun cdv A outer s H vs Q E hr h => ?_)
  · obtain ⟨b, m, rfl, _⟩ := h
    rfl
  · obtain ⟨b, m, rfl, ⟨x, y, z, hb⟩, hm0, hm1, k⟩ := h
    refine ⟨_, PSs.nox (pss_cons (ps_if (pt_cmpR op_gt (pe_ix ix_list (pv 0) pe_int (fun _ _ => rfl)) pe_int (nomark _))
        (pss_cons (ps_set (i := 2) scTake.nd rfl (.inl rfl) (pe_op op_mod (pe_callTy call_int1 (by rfl) (T.fr "int") (by decide +kernel) (pa_cons (pe_ix ix_list (pv 0) pe_int (fun _ _ => rfl)) pa_nil)) (pv 1)))
        (pss_cons (ps_asg (pe_op op_fdiv (pe_ix ix_list (pv 0) pe_int (fun _ _ => rfl)) (pv 1)) (pg_sub (pv 0) pe_int set_list))
        (pss_one (ps_ret (pv 2))))) pss_nil)
      (pss_cons (ps_asg (pe_op op_add (pe_ix ix_list (pv 0) pe_int (fun _ _ => rfl)) pe_int) (pg_sub (pv 0) pe_int set_list))
      (pss_cons (ps_asg (pe_op op_mod (pe_callTy call_int1 (by rfl) (T.fr "int") (by decide +kernel) (pa_cons (pe_op op_add (pe_op op_add (pe_op op_mul (pe_ix ix_list (pv 0) pe_int (fun _ _ => rfl)) pe_int) (pe_op op_mul pe_int (pe_ix ix_list (pv 0) pe_int (fun _ _ => rfl)))) pe_int) pa_nil)) pe_int) (pg_sub (pv 0) pe_int set_list))
      (pss_one (ps_ret (pe_op op_mod (pe_op op_fdiv (pe_op op_mod (pe_callTy call_int1 (by rfl) (T.fr "int") (by decide +kernel) (pa_cons (pe_op op_mul (pe_ix ix_list (pv 0) pe_int (fun _ _ => rfl)) pe_int) pa_nil)) pe_int) pe_int) (pv 1))))))), ?_⟩
    refine ⟨_, rfl, b, _, _, _, rfl, rfl, SqL.of hb, at_of (j := 0) rfl rfl, _, _, rfl, rfl, _, rfl, ?_⟩
    refine ite2 (fun _ => ?_) (fun _ => ?_)
    · refine ⟨_, rfl, b, _, _, _, rfl, rfl, SqL.of hb, at_of (j := 0) rfl rfl, .inl ⟨_, rfl, _, rfl, _, _, rfl, rfl, hm0, ?_⟩⟩
      refine ⟨_, rfl, b, _, _, _, rfl, rfl, SqL.of hb, at_of (j := 0) rfl rfl, _, rfl, _, _, rfl, rfl, ⟨hm0, hm1⟩, ?_⟩
      refine ⟨_, rfl, b, _, _, 0, rfl, rfl, hb, rfl, ?_⟩
      exact ⟨_, rfl, k _ _ (Int.emod_nonneg _ (by omega)) (Int.emod_lt_of_pos _ hm0) ⟨_, _, _, upd_same⟩ but_upd⟩
    · refine ⟨_, rfl, b, _, _, _, rfl, rfl, SqL.of hb, at_of (j := 2) rfl rfl, _, _, rfl, rfl, ?_⟩
      refine ⟨_, rfl, b, _, _, 2, rfl, rfl, hb, rfl, ?_⟩
      refine ⟨_, rfl, b, _, _, _, rfl, rfl, SqL.of upd_same, at_of (j := 1) rfl rfl, _, _, rfl, rfl, .inr ⟨by decide, by decide⟩, ?_⟩
      refine ⟨_, rfl, b, _, _, _, rfl, rfl, SqL.of upd_same, at_of (j := 2) rfl rfl, _, _, rfl, rfl, .inl ⟨by decide, by decide⟩, _, _, rfl, rfl, _, _, rfl, rfl, .inl ⟨_, rfl, _, _, rfl, rfl, (by show (0 : Int) < 2147483399; decide), ?_⟩⟩
      refine ⟨_, rfl, b, _, _, 1, rfl, rfl, upd_same, rfl, ?_⟩
      rw [upd_upd]
      refine ⟨_, rfl, b, _, _, _, rfl, rfl, SqL.of upd_same, at_of (j := 1) rfl rfl, _, _, rfl, rfl, .inr ⟨by decide, by decide⟩, .inl ⟨_, rfl, _, _, rfl, rfl, (by show (0 : Int) < 2147483647; decide), _, _, rfl, rfl, ⟨by decide, by decide⟩, ?_⟩⟩
      refine ⟨_, rfl, _, _, rfl, rfl, hm0, ?_⟩
      exact k _ _ (Int.emod_nonneg _ (by omega)) (Int.emod_lt_of_pos _ hm0) ⟨_, _, _, upd_same⟩ but_upd
/-! _law_of -/
theorem scOf : FnScope ["_law_bag_here", "_law_some"] ["_law_bag_here", "_law_some"] (defScope sLOf) := ⟨rfl, rfl, rfl, by decide +kernel, rfl, by decide +kernel, by decide +kernel⟩
theorem seq_but {H H1 : Hp} {b p : Addr} {xs : List V} (h : SqL K H p xs) (y : But b H H1) (n : p ≠ b) : SqL K H1 p xs := by
  rcases h with (h | ⟨o, h⟩) | h
  · exact .inl (.inl (y _ _ n h))
  · exact .inl (.inr ⟨o, y _ _ n h⟩)
  · exact .inr h
theorem ok_of {f : Addr} {fd : FuncData} (F : FnP K "_law_of" "_law_of" sLOf f fd) (T : Txt K mg c) (G : GFn P w K mg base CX0 1 "_law_take" ["_law_bag_here", "_law_many"] spTake) :
    FnOk P w K mg base CX0 2 f fd ["_law_bag_here", "_law_some"] (spOf K) := by
  obtain ⟨ft, fdt, Gt, gt, kt, bt⟩ := G
  refine F.ok scOf (fun vs H Q E h => ?_) (fun cdv A outer s H vs Q E hr h => ?_)
  · obtain ⟨b, p, xs, rfl, _⟩ := h
    rfl
  · obtain ⟨b, p, xs, rfl, hb, hne, hp, h0, h1, k⟩ := h
    refine ⟨_, PSs.nox (pss_one (ps_ret (pe_ix ix_list (pv 1) (pe_call Gt hr rfl gt kt bt .nil pass0 (pa_cons (pv 0) (pa_cons (pe_callB call_len_seq (by rfl) (T.fr "len") PySem.boot_len (pa_cons (pv 1) pa_nil)) pa_nil))) (fun _ _ => rfl)))), ?_⟩
    refine ⟨_, rfl, _, rfl, _, rfl, p, _, rfl, .inl hp, ?_⟩
    refine ⟨b, _, rfl, hb, by omega, by omega, fun d H' hd0 hd1 hb' ha' => ?_⟩
    obtain ⟨j, rfl⟩ : ∃ j : Nat, d = (j : Int) := ⟨d.toNat, by omega⟩
    have hj : j < xs.length := by omega
    have hv : xs[j]? = some xs[j] := List.getElem?_eq_getElem hj
    exact ⟨p, xs, _, _, rfl, rfl, seq_but hp ha' hne, at_of (j := j) rfl hv, k j _ H' hv hb' ha'⟩
/-! _law_sides -/
theorem scSides : FnScope ["_law_saying", "_law_where", "_law_then", "_law_usual"] ["_law_saying"] (defScope sLSides) := ⟨rfl, rfl, rfl, by decide +kernel, rfl, by decide +kernel, by decide +kernel⟩
theorem ok_sides {f : Addr} {fd : FuncData} (F : FnP K "_law_sides" "_law_sides" sLSides f fd) : FnOk P w K mg base CX0 1 f fd ["_law_saying"] spSides := by
  refine F.ok scSides (fun vs H Q E h => ?_) (fun cdv A outer s H vs Q E hr h => ?_)
  · obtain ⟨p, y, rfl, _⟩ := h
    rfl
  · obtain ⟨p, y, rfl, hp, k⟩ := h
    obtain ⟨yw, yt, yu⟩ := y
    refine ⟨_, PSs.nox (pss_cons (ps_asg (pv 0) (pg_tup rfl (pgs_cons (pg_name (i := 1) scSides.nd rfl (.inl rfl)) (pgs_cons (pg_name (i := 2) scSides.nd rfl (.inl rfl)) (pgs_cons (pg_name (i := 3) scSides.nd rfl (.inl rfl)) pgs_nil)))))
      (pss_cons (ps_if (pt_val (pv 3)) (pss_one (ps_ret (pe_tup (pa_cons (pe_op op_and (pv 1) (pv 2)) (pa_cons (pe_op op_and (pv 1) (pe_un un_inv (pv 2))) pa_nil))))) pss_nil)
      (pss_one (ps_ret (pe_tup (pa_cons (pe_op op_and (pv 1) (pe_un un_inv (pv 2))) (pa_cons (pe_op op_and (pv 1) (pv 2)) pa_nil))))))), ?_⟩
    refine ⟨_, rfl, p, _, rfl, SqT.of hp, rfl, _, _, rfl, _, _, rfl, _, _, rfl, rfl, ?_⟩
    refine ⟨_, rfl, _, rfl, ?_⟩
    cases yu with
    | true =>
      refine iteT ⟨_, rfl, _, rfl, _, _, rfl, rfl, _, rfl, _, rfl, _, rfl, _, _, rfl, rfl, (by show 2 ≤ sizeLine; decide), fun q hq => ?_⟩
      dsimp only
      rw [bitAnd_nat, bitAndNot_nat]
      exact k q hq
    | false =>
      refine iteF ⟨_, rfl, _, rfl, _, rfl, _, _, rfl, rfl, _, rfl, _, rfl, _, _, rfl, rfl, (by show 2 ≤ sizeLine; decide), fun q hq => ?_⟩
      dsimp only
      rw [bitAnd_nat, bitAndNot_nat]
      exact k q hq
/-! _law_any -/
theorem scAny : FnScope ["_law_bag_here", "_law_days", "_law_every"] ["_law_bag_here", "_law_days"] (defScope sLAny) := ⟨rfl, rfl, rfl, by decide +kernel, rfl, by decide +kernel, by decide +kernel⟩
theorem two_pow_bd {n : Nat} (h : n ≤ 16) : 2 ^ n ≤ 65536 := by
  have := Nat.pow_le_pow_right (n := 2) (by decide) h
  omega
theorem two_pow_ge {n : Nat} (h : 1 ≤ n) : 2 ≤ 2 ^ n := by
  have := Nat.pow_le_pow_right (n := 2) (by decide) h
  omega
theorem ok_any {f : Addr} {fd : FuncData} (F : FnP K "_law_any" "_law_any" sLAny f fd) (G : GFn P w K mg base CX0 1 "_law_take" ["_law_bag_here", "_law_many"] spTake) :
    FnOk P w K mg base CX0 2 f fd ["_law_bag_here", "_law_days"] spAny := by
  obtain ⟨ft, fdt, Gt, gt, kt, bt⟩ := G
  refine F.ok scAny (fun vs H Q E h => ?_) (fun cdv A outer s H vs Q E hr h => ?_)
  · obtain ⟨b, n, rfl, _⟩ := h
    rfl
  · obtain ⟨b, n, rfl, hb, h1, h16, k⟩ := h
    refine ⟨_, PSs.nox (pss_cons (ps_set (i := 2) scAny.nd rfl (.inl rfl) (pe_op op_shl pe_int (pv 1)))
      (pss_one (ps_ret (pe_tup (pa_cons (pe_op op_add pe_int (pe_call Gt hr rfl gt kt bt .nil pass0 (pa_cons (pv 0) (pa_cons (pe_op op_sub (pv 2) pe_int) pa_nil))))
        (pa_cons (pe_call Gt hr rfl gt kt bt .nil pass0 (pa_cons (pv 0) (pa_cons (pv 2) pa_nil)))
        (pa_cons (pe_cmpR op_gt (pe_call Gt hr rfl gt kt bt .nil pass0 (pa_cons (pv 0) (pa_cons pe_int pa_nil))) pe_int (nomark _)) pa_nil))))))), ?_⟩
    have l1 := two_pow_bd h16
    have l2 := two_pow_ge h1
    refine ⟨_, rfl, _, _, rfl, rfl, ⟨by omega, by omega, by decide⟩, ?_⟩
    have e2 : (1 : Int) * 2 ^ ((n : Nat) : Int).toNat = ((2 ^ n : Nat) : Int) := by
      rw [Int.toNat_natCast, Int.one_mul, Int.natCast_pow]
      rfl
    dsimp only
    rw [e2]
    refine ⟨_, rfl, _, rfl, _, _, rfl, rfl, b, _, rfl, hb, by omega, by omega, fun d1 H1 p1 q1 hb1 s1 => ⟨_, _, rfl, rfl, ?_⟩⟩
    refine ⟨_, rfl, _, rfl, b, _, rfl, hb1, by omega, by omega, fun d2 H2 p2 q2 hb2 s2 => ?_⟩
    refine ⟨_, rfl, b, _, rfl, hb2, by decide, by decide, fun d3 H3 p3 q3 hb3 s3 => ⟨_, _, rfl, rfl, (by show 3 ≤ sizeLine; decide), fun p hp => ?_⟩⟩
    obtain ⟨n1, rfl⟩ : ∃ j : Nat, d1 = (j : Int) := ⟨d1.toNat, by omega⟩
    obtain ⟨n2, rfl⟩ : ∃ j : Nat, d2 = (j : Int) := ⟨d2.toNat, by omega⟩
    have hpb : p ≠ b := by
      obtain ⟨_, _, _, hb3'⟩ := hb3
      exact (ne_of_none hb3' hp).symm
    have s13 := (s1.trans s2).trans s3
    refine k p ⟨1 + n1, n2, decide (0 < d3)⟩ _ ⟨by show 1 ≤ 1 + n1; omega, by show 1 + n1 < 2 ^ n; omega, by show n2 < 2 ^ n; omega⟩ ?_ (s13.free hp hpb) (hb3.same (same_upd hp)) (s13.same (same_upd hp))
    show upd H3 p _ p = some _
    rw [upd_same]
    have e1 : (1 : Int) + (n1 : Int) = ((1 + n1 : Nat) : Int) := by omega
    dsimp only
    rw [e1]
end
end K14

namespace K14
open PySem PySem.Spec PyProof.Rows L2
/-! OtherDays: its making, its raising; check_days -/
/-- what the top has written of the errors -/
structure ErrT (K : PySem.W.Frag) (mg : Str → Option Value) (c : Cl) : Prop where
  oex : OexC K c.E
  gE : mg "OtherDays" = some (.ref c.E)
  gD : mg "DaysError" = some (.ref c.D)
  rd : ClX.CRead K c.D (.type "type")
  fi : PySem.W.findCls K (.ref c.D) (.type "type") "__init__" = some (.val (.builtin "ValueError.__init__"))
  exm : PySem.W.exmOne K (.ref c.E) (.ref c.D) = some true
  exc : ExcC K c.E
  kit : PySem.W.kitOne K (.ref c.E) (.ref c.E) = some true
section
variable {X : Cx} {o e : Expr} {es : List Expr} {to te : TE} {ta : TA} {f : Str} {p p' p1 p2 pos : Pos} {c : Cl}
theorem pe_dinit {pl : Sem Bool} (T : ErrT X.K X.mg c) (hg : Gl X "DaysError") (ha : PA X (e :: es) ta)
    (hc : eval (.Call (.Attribute (.Name "DaysError" p1) "__init__" p2) (e :: es) [] pos) X.env = (do
      let ov ← eval (.Name "DaysError" p1) X.env
      standAt p2.atName
      let (f, first) ← holding [ov] (getMethod ov "__init__" pl)
      callWith pos f first (backTo pos (starEach (e :: es) X.env)) (backToKw pos (keywordEach [] X.env))) := by rfl)
    (he : starEach (e :: es) X.env = (false, eval e X.env) :: starEach es X.env := by rfl) (hpl : (backTo pos (starEach es X.env)).any (·.1) = false := by rfl) :
    PE X (.Call (.Attribute (.Name "DaysError" p1) "__init__" p2) (e :: es) [] pos) (tVeI X.K ta) := by
  refine ⟨fun pins s σ H Q I h => ?_⟩
  refine PySem.W.methodCall_KW (ld_glob I hg T.gD ?_ (by decide +kernel)) hc
  refine PySem.W.method_cls I.kIn T.rd.ga (PySem.W.cls_value I.kIn T.rd.rd T.fi (by decide +kernel) ?_)
  show wpAny _ _ (callWith pos (Value.builtin "ValueError.__init__") [] (backTo pos (starEach (e :: es) X.env)) []) _ _ _
  refine PyProof.Rows.callWith_method1 (thn (ha.run pos pins _ σ H _ (I.tok _) h) fun us s1 ⟨vs, H1, I1, r1, a, C, ws, ev, hl, T', ea, q⟩ => ?_) he hpl
  subst ev
  cases r1 with
  | @cons _ u0 _ ur ra rw' =>
    obtain rfl : u0 = Value.ref a := ra
    have hlen : ur.length ≤ sizeLine := by
      rw [← Paired.length rw', sizeLine_eq]
      omega
    exact oinit_ok T' I1 ea hlen fun s' J => ⟨.non, H1, J, rfl, q⟩
/-- the end of C() where no field was stored: the exception is let go, it has no dict -/
theorem mk_endN {pins : List (Addr × Obj)} {σ : L2.St} {H1 H2 : Hp} {Q : XK} {hp hp2 h2 : Heap} {g1 g2 : Array GenState} {d1 d2 : PySem.Drawn} {t1 t2 : Nat} {os1 os2 : OsState} {a C : Addr} (T : Raises X (.ref C)) (I1 : Inv X pins σ H1 ⟨hp, g1, d1, t1, os1⟩)
    (ha : hp.objs.size ≤ a) (k : ∀ b o, hp.get? b = some o → hp2.get? b = some o) (un : Un (frs X.stack) [] (upd H1 a (exo a C none)) H2 hp2 h2) (hok : HOk X.prog X.w H2 h2) (ho : os2 = os1) (hb : AllBare g2)
    (ea : H2 a = some (exo a C none)) (q : Q (.ref C) none (del H2 a)) : MkP X pins σ Q (.ref a) ⟨h2, g2, d2, t2, os2⟩ := by
  obtain ⟨t0, hoe⟩ := exo_at hok ea
  have hn : H1 a = none := I1.hok.fresh ha
  obtain ⟨G, g1', g2'⟩ := restrict h2 fun b => decide (b ≠ a)
  have gk : ∀ b, b ≠ a → G.get? b = h2.get? b := fun b hb => g1' b (decide_eq_true hb)
  have ge : G.get? a = none := g2' a (by simp)
  have nha : ∀ {b : Addr} {o : Obj}, hp.get? b = some o → b ≠ a := fun {b o} z => Nat.ne_of_lt (Nat.lt_of_lt_of_le (Heap.lt_size z) ha)
  have up : ∀ {b : Addr}, b ≠ a → H1 b = none → upd H1 a (exo a C none) b = none := fun {b} hb n => by rw [upd_ne hb]; exact n
  have U : Un (frs X.stack) [] H1 (del H2 a) hp G := {
    keep := fun b o z n hf hx => by
      rw [gk b (nha z)]
      exact un.keep b o (k b o z) (up (nha z) n) hf hx
    slot := fun b o z n hf hx => by
      rw [gk b (nha z)]
      exact un.slot b o (k b o z) (up (nha z) n) hf hx
    free := fun b o z n hx => by
      rw [del_ne (nha z)]
      exact un.free b o (k b o z) (up (nha z) n) hx
    there := fun b o z hx => by
      rw [gk b (nha z)]
      exact un.there b o (k b o z) hx
    tups := fun b xs z => by
      rw [del_ne (ne_of_none z hn)]
      exact un.tups b xs (by rw [upd_ne (ne_of_none z hn)]; exact z)
    frzs := fun b o v z => by
      rw [del_ne (ne_of_none z hn)]
      exact un.frzs b o v (by rw [upd_ne (ne_of_none z hn)]; exact z)
    tbls := fun b ps z => by
      rw [del_ne (ne_of_none z hn)]
      exact un.tbls b ps (by rw [upd_ne (ne_of_none z hn)]; exact z) }
  have hok3 : HOk X.prog X.w (del H2 a) G := fun b o z => by
    have hba : b ≠ a := fun e => by
      rw [e, del_same] at z
      cases z
    rw [del_ne hba] at z
    have noa : ∀ {c : Addr}, H2 c = some (.own b) → c ≠ a := fun {c} hc => at_ne ea hc exo_own
    exact (hok b o z).stay (fun c v hc y => by
        have hca : c ≠ a := by
          rcases hc with hc | hc
          · rw [hc]
            exact hba
          · exact noa hc
        rw [gk c hca]
        exact y)
      (fun c hc => by rw [del_ne (noa hc)]; exact hc) (fun c xs hc => by rw [del_ne (at_ne ea hc exo_tup)]; exact hc)
  have J : Inv X pins σ (del H2 a) ⟨G, g2, d2, t2, os2⟩ := I1.call' (ch := []) ho U hok3 hb (fun b z => absurd z (by simp))
  refine ⟨a, _, _, ⟨G, g2, d2, t2, os2⟩, _, .ref C, none, rfl, J, fun b o z => ?_, ge, hoe, ⟨rfl, rfl⟩, rfl, rfl, del_same, rfl, hb, T, q⟩
  by_cases hba : b = a
  · rw [hba, ge] at z
    cases z
  · exact (gk b hba).symm.trans z
/-- C(), C's own __init__ keeping sp and storing nothing -/
def tMkN (C : Addr) (sp : Sp) : L2.St → Hp → XK → Prop := fun _ H Q => ∀ a, H a = none → sp [.ref a] (upd H a (exo a C none)) (fun v H2 => v = .non ∧ H2 a = some (exo a C none) ∧ Q (.ref C) none (del H2 a)) (fun _ _ _ => False)
theorem pmk_oex0 {CX : CXT} {x : Str} {C fI : Addr} {k : Nat} {fd : FuncData} {ps : List Str} {sp : Sp} (T : OexC X.K C) (iC : PySem.W.findIn X.K (.ref C) "__init__" = some (some (.ref fI))) (tI : PySem.W.typeIn X.K (.ref fI) = some (.type "function"))
    (F1 : FnOk X.prog X.w X.K X.mg X.base CX k fI fd ps sp) (hr : Room (k + 1) X.A) (hb : Binds X.K fd ps []) (hx : Passes CX X (fun _ _ _ => False)) (hg : Gl X x) (hm : X.mg x = some (.ref C))
    (hdb : (x == ("__debug__" : Str)) = false := by decide) :
    PMk X (.Call (.Name x p) [] [] pos) (tMkN C sp) := by
  intro pins s σ H Q I h
  obtain ⟨nm, q, N, bs, bm, sn, sub, ab, col, dd, k0, k1, k2, k3, k5, hC, hbm⟩ := T.cls
  refine wpAny_Call_Name_kw (ld_glob I hg hm ?_ hdb)
  refine PySem.W.callWith_K0 I.kIn T.kC ?_
  show wpAny _ _ (call (.ref C) []) _ _ _
  obtain ⟨hp, g, dr, tk, os⟩ := s
  have hsz : hp.objs.size ≤ hp.objs.size + 1 := Nat.le_succ _
  have hn : H (hp.objs.size + 1) = none := I.hok.fresh hsz
  have hq := h (hp.objs.size + 1) hn
  have kk : ∀ b o, hp.get? b = some o → ((hp.push (PySem.W.kdv_tup [])).push (PySem.HandSPX.excO C hp.objs.size)).get? b = some o := fun b o e => Heap.get?_push_of_some _ (Heap.get?_push_of_some _ e)
  have hget : ((hp.push (PySem.W.kdv_tup [])).push (PySem.HandSPX.excO C hp.objs.size)).get? (hp.objs.size + 1) = some (PySem.HandSPX.excO C hp.objs.size) := by heap_get
  have I2 : Inv X pins σ (upd H (hp.objs.size + 1) (exo (hp.objs.size + 1) C none)) ⟨(hp.push (PySem.W.kdv_tup [])).push (PySem.HandSPX.excO C hp.objs.size), g, dr, tk, os⟩ :=
    I.laid (t' := tk) (a := hp.objs.size + 1) (o := exo (hp.objs.size + 1) C none) (h' := (hp.push (PySem.W.kdv_tup [])).push (PySem.HandSPX.excO C hp.objs.size)) kk hsz (exo_ok hget)
  have r2 : Vals [V.ref (hp.objs.size + 1)] [Value.ref (hp.objs.size + 1)] := .cons rfl .nil
  have hl : ([Value.ref (hp.objs.size + 1)] ++ ([] : List Value)).length = ps.length := by
    have e := F1.len _ _ _ _ hq
    exact e
  refine wpAny_call (PySem.HandSPX.call_own F.excBase_ValueError (fun Y => PySem.HandSPX.refsVE_contains Y bm hbm) (I.kIn _ _ hC) (PySem.W.looks_findIn I.kIn iC) (fun self => PySem.W.bind_fn I.kIn self tI) (Nat.zero_le _)
    (codeAny_mono (F1.run _ X.stack _ _ ⟨[Value.ref (hp.objs.size + 1)], []⟩ [Value.ref (hp.objs.size + 1)] _ _ (fun _ _ _ => False) (hr.make C [] []) (I2.env0.make C [] []) (hb _ [Value.ref (hp.objs.size + 1)] I2.kIn hl) r2 hq) fun r s' hq' => ?_))
  cases r with
  | error er => exact hx pins σ _ _ er s' I2 hq'
  | ok fl =>
    cases fl with
    | ret u =>
      obtain ⟨v, H2, os2, bare2, un2, hok2, rv, ev, ea, q2⟩ := hq'
      subst ev
      obtain ⟨h2, g2, d2, t2, os'⟩ := s'
      exact ⟨rv, mk_endN (raises_own T.exC T.tyC) I hsz kk un2 hok2 os2 bare2 ea q2⟩
    | next => exact False.elim hq'
    | brk => exact False.elim hq'
    | cont => exact False.elim hq'
/-- isinstance of the error that the suite holds -/
theorem call_isE2 {a D : Addr} {oe : Obj} {cls : Value} {d : Option Addr} {pn : List (Addr × Obj)} (C : ExcC X.K D) (hz : Zc cls d oe) (hf : ∃ vs, oe.data = .fields vs) :
    CallR (X.suite a ((a, oe) :: pn)) (.builtin "isinstance") (fun xs H Q => cls = .ref D ∧ d = none ∧ rIsE X.K D a xs H Q) := by
  intro pins s σ H xs us Q I r h
  obtain ⟨e1, e2, h⟩ := h
  subst e1 e2
  exact call_isE C hz hf pins s σ H xs us Q I r h
end
section
variable {P : Program} {w : World} {K : PySem.W.Frag} {mg : Str → Option Value} {base : Heap} {c : Cl}
/-- OtherDays.__init__ -/
def spOD (c : Cl) : Sp := fun vs H Q _ => ∃ a, vs = [.ref a] ∧ H a = some (exo a c.E none) ∧ Q .non H
theorem scOD : FnScope ["self"] ["self"] (defScope sOD) := ⟨rfl, rfl, rfl, by decide +kernel, rfl, by decide +kernel, by decide +kernel⟩
theorem ok_od {f : Addr} {fd : FuncData} (F : FnP K "__init__" "OtherDays.__init__" sOD f fd) (T : ErrT K mg c) : FnOk P w K mg base CX0 1 f fd ["self"] (spOD c) := by
  refine F.ok scOD (fun vs H Q E h => ?_) (fun cdv A outer s H vs Q E hr h => ?_)
  · obtain ⟨a, rfl, _⟩ := h
    rfl
  · obtain ⟨a, rfl, ha, k⟩ := h
    refine ⟨_, PSs.nox (pss_one (ps_expr (pe_dinit T (by rfl) (pa_cons (pv 0) (pa_cons pe_str pa_nil))))), ?_⟩
    exact ⟨_, rfl, a, c.E, _, rfl, (by show 1 ≤ 1000; decide), T.oex, ha, k⟩
/-- check_days -/
theorem scCheck : FnScope ["order", "days"] ["order", "days"] (defScope sCheck) := ⟨rfl, rfl, rfl, by decide +kernel, rfl, by decide +kernel, by decide +kernel⟩
theorem ok_check {f fI : Addr} {fd fdI : FuncData} (F : FnP K "check_days" "check_days" sCheck f fd) (T : Txt K mg c) (R : ErrT K mg c) (FI : FnP K "__init__" "OtherDays.__init__" sOD fI fdI) (bI : Binds K fdI ["self"] [])
    (iE : PySem.W.findIn K (.ref c.E) "__init__" = some (some (.ref fI))) (tE : PySem.W.typeIn K (.ref fI) = some (.type "function")) : FnOk P w K mg base (L2.CX P w) 3 f fd ["order", "days"] (spCheck c) := by
  have GI : FnOk P w K mg base CX0 1 fI fdI ["self"] (spOD c) := ok_od FI R
  refine F.ok scCheck (fun vs H Q E h => ?_) (fun cdv A outer s H vs Q E hr h => ?_)
  · obtain ⟨o, ls, m, rfl, _⟩ := h
    rfl
  · obtain ⟨o, ls, m, rfl, ⟨dx, t, ho, ht⟩, hl, kL, kR⟩ := h
    refine ⟨_, pss_one (ps_if (pt_cmpR op_ne (pe_op op_shr (pv 1) (pe_callB call_len_seq (by rfl) (T.fr "len") PySem.boot_len (pa_cons (pe_fld (pv 0) rfl) pa_nil))) pe_int (nomark _))
      (pss_one (ps_raise rfl (takes_of rfl rfl rfl rfl) (pmk_oex0 R.oex iE tE GI hr bI pass0 (by rfl) R.gE))) pss_nil), ?_⟩
    refine ⟨_, rfl, _, rfl, o, c.O, dx, _, _, rfl, ho, T.clO, T.naO _ (by decide +kernel), ofl_layers t, t, _, rfl, .inr (SqT.of ht), ?_⟩
    refine ⟨_, _, rfl, rfl, Int.natCast_nonneg _, rfl, _, rfl, ?_⟩
    have es : (m : Int) / 2 ^ (((ls.map V.int).length : Nat) : Int).toNat = ((m / 2 ^ ls.length : Nat) : Int) := by rw [List.length_map]; exact shr_int m ls.length
    by_cases q : m < 2 ^ ls.length
    · refine iteNS ?_ (kL q)
      show V.int ((m : Int) / 2 ^ (((ls.map V.int).length : Nat) : Int).toNat) = V.int 0
      rw [es, Nat.div_eq_of_lt q]
      rfl
    · refine iteNN ?_ fun a ha => ⟨a, rfl, upd_same, rfl, upd_same, kR q _ fun b x e => ?_⟩
      · show ¬ V.int ((m : Int) / 2 ^ (((ls.map V.int).length : Nat) : Int).toNat) = V.int 0
        rw [es]
        intro z
        injection z with z
        have := shr_zero (m := m) (d := ls.length) (by omega)
        exact q this
      · rw [del_ne (ne_of_none e ha), upd_ne (ne_of_none e ha)]
        exact e
end
end K14

namespace K14
open PySem PySem.Spec PyProof.Rows L2
/-! ### min of a tuple; min with a default -/
theorem foldMin : ∀ (ys : List Int) (x : Int), IsMin (x :: ys) (ys.foldl (fun a y => if PySem.W.DatumOrd.lt y a = true then y else a) x)
  | [], x => ⟨List.mem_cons_self, fun y hy => by
      show x ≤ y
      simp at hy
      omega⟩
  | y :: r, x => by
    obtain ⟨m, hm⟩ : ∃ m, m = (if PySem.W.DatumOrd.lt y x = true then y else x) := ⟨_, rfl⟩
    have e : PySem.W.DatumOrd.lt y x = decide (y < x) := rfl
    obtain ⟨h1, h2⟩ := foldMin r m
    have bx : m ≤ x ∧ m ≤ y ∧ (m = x ∨ m = y) := by
      rw [hm, e]
      by_cases q : y < x
      · rw [if_pos (by simpa using q)]; omega
      · rw [if_neg (by simpa using q)]; omega
    rw [List.foldl_cons, ← hm]
    refine ⟨?_, fun z hz => ?_⟩
    · rcases List.mem_cons.mp h1 with q | q
      · rw [q]
        rcases bx.2.2 with z | z
        · rw [z]; exact List.mem_cons_self
        · rw [z]; exact List.mem_cons_of_mem _ List.mem_cons_self
      · exact List.mem_cons_of_mem _ (List.mem_cons_of_mem _ q)
    · have h3 := h2 m List.mem_cons_self
      rcases List.mem_cons.mp hz with q | q
      · omega
      · rcases List.mem_cons.mp q with q | q
        · omega
        · exact h2 z (List.mem_cons_of_mem _ q)
theorem isMin_of (x : Int) (xs : List Int) : IsMin (x :: xs) (PySem.W.minOf x xs) := foldMin xs x
section
variable {X : Cx}
def rMinT (K : PySem.W.Frag) : List V → Hp → VK → Prop := fun vs H Q => ∃ (a : Addr) (ns : List Int), vs = [V.ref a] ∧ SqT K H a (ns.map V.int) ∧ ns ≠ [] ∧ ∀ m, IsMin ns m → Q (.int m) H
theorem cr_minT (hc : X.calm = true) (hu : X.A.units + 64 < cLine) : CallR X (.builtin "min") (rMinT X.K) := by
  intro pins s σ H vs us Q I r h
  obtain ⟨a, ns, rfl, hs, hne, q⟩ := h
  obtain ⟨its, rv, ht, _⟩ := I.tuple hs
  rw [Vals.ref1 r]
  cases ns with
  | nil => exact absurd rfl hne
  | cons n ns =>
    refine PySem.W.min_tuple_datum (α := Int) (I.ok.hd hc) (show s.heap.IsTuple a its.toArray from ht) (PySem.W.HoldAll.of_ints (Vals.ints (by simpa using rv))) (by show X.A.units + 1 + 0 < cLine; omega) fun i v h' tk hi hv hk => ?_
    obtain ⟨t, rfl⟩ := PySem.W.int_of_holds hv
    exact ⟨.int _, H, I.kept hk, ⟨_, rfl⟩, q _ (isMin_of n ns)⟩
/-- min(xs, default=None) -/
def rMinD (K : PySem.W.Frag) : List V → List V → Hp → VK → Prop := fun vs zs H Q => ∃ (a : Addr) (ns : List Int), vs = [V.ref a] ∧ zs = [.non] ∧ SqL K H a (ns.map V.int) ∧ ∀ v, LeastV ns v → Q v H
theorem cr_minD (hc : X.calm = true) (hu : X.A.units + 64 < cLine) : CallRK X (.builtin "min") ["default"] (rMinD X.K) := by
  intro pins s σ H vs zs us ws Q I r rz h
  obtain ⟨a, ns, rfl, rfl, hs, q⟩ := h
  obtain ⟨its, rv, ht, _⟩ := I.list hs
  rw [Vals.ref1 r]
  cases rz with
  | cons r0 rn =>
    cases rn
    cases r0
    refine PySem.W.min_list_datum_default (α := Int) (xs := ns) (I.ok.hd hc) ht.isList (PySem.W.HoldAll.of_ints (Vals.ints (by simpa using rv))) (by show X.A.units + 1 + 0 < cLine; omega) (fun e h' tk hk => ?_) fun y ys i v h' tk e hi hv hk => ?_
    · exact ⟨.non, H, I.kept hk, rfl, q _ (.inl ⟨e, rfl⟩)⟩
    · obtain ⟨t, rfl⟩ := PySem.W.int_of_holds hv
      subst e
      exact ⟨.int _, H, I.kept hk, ⟨_, rfl⟩, q _ (.inr ⟨_, isMin_of y ys, rfl⟩)⟩
end
/-! ### enumerate(t), t a tuple -/
def IteT (K : PySem.W.Frag) (a : Addr) : It :=
  ⟨fun i H => ∃ (xs : List V) (x : V), SqT K H a xs ∧ xs[i]? = some x, fun i H v H' => ∃ T x, v = .ref T ∧ H T = none ∧ H' = upd H T (.tup [.int (i : Nat), x]) ∧ ∀ xs, SqT K H a xs → xs[i]? = some x, fun i H => ∃ xs : List V, SqT K H a xs ∧ xs.length ≤ i⟩
theorem tup_not_enum {h : Heap} {a e it : Addr} {i : Int} {old : Value} {xs : Array Value} (p : IsTup h a xs) (q : IsEnum h e it i old) : e ≠ a := fun z => by
  obtain ⟨o, ho, hc, _⟩ := p
  have q' : h.get? a = _ := z ▸ q
  rw [ho] at q'
  have q2 := Option.some.inj q'
  rw [q2] at hc
  have hc2 : Value.type "enumerate" = Value.type "tuple" := hc
  exact absurd hc2 (by decide)
theorem tup_not_iter {h : Heap} {a it t : Addr} {i : Nat} {xs : Array Value} (p : IsTup h a xs) (q : h.IsTupleIter it t i) : a ≠ it := fun z => by
  obtain ⟨o, ho, hc, _⟩ := p
  obtain ⟨o2, ho2, hc2, _⟩ := q
  rw [z, ho2] at ho
  cases ho
  rw [hc2] at hc
  exact absurd hc (by decide)
theorem enum_tup_end {prog : Program} {w : World} {A : Around} {E : Value → Shared → Prop} {s : Shared} {e it t : Addr} {i : Nat} {items : Array Value} {old : Value} {Q : Option Value → Shared → Prop} (hh : A.handled = none)
    (he : IsEnum s.heap e it ((i : Nat) : Int) old) (hit : s.heap.IsTupleIter it t i) (ht : s.heap.IsTuple t items) (hn : items.size ≤ i) (hQ : ∀ h', Heap.ExtBut it s.heap h' → Q none { s with heap := h' }) :
    wpAny (model prog w) A (pyNext (.ref e)) Q E s := by
  have D : Draws prog w A.in1 it [it, t] i (fun _ _ => True) (fun j h => j = i ∧ h.IsTupleIter it t i ∧ h.IsTuple t items) :=
    { live := fun _ _ st => let ⟨o, ho, _⟩ := st.2.1; ⟨o, ho⟩
      frame := fun _ _ _ st hk => ⟨st.1, st.2.1.at fun o q => hk it List.mem_cons_self o q, by
        obtain ⟨o, ho, r⟩ := st.2.2
        exact ⟨o, hk t (List.mem_cons_of_mem _ List.mem_cons_self) o ho, r⟩⟩
      item := fun j s Q E hj st hQ => absurd hj (by rw [st.1]; exact Nat.lt_irrefl _)
      done := fun s Q E st hE => wpAny_nextOf_tuple_end hh st.2.1 st.2.2 (Array.getElem?_eq_none hn) hE }
  exact wpAny_pyNext_enum_endD D he ⟨rfl, hit, ht⟩ hQ
theorem turn_enumT {P : Program} {w : World} {K : PySem.W.Frag} {elts : List Expr} {kk : Nat} {tpos : Pos} (a e it : Addr) :
    Turn P w K (.Tuple elts kk tpos) (IteT K a) [e, it] e (fun i h => (∃ old, IsEnum h e it ((i : Nat) : Int) old) ∧ h.IsTupleIter it a i ∧ e ≠ it) where
  mem := List.mem_cons_self
  obj := fun i h st b hb => by
    obtain ⟨⟨old, he⟩, ⟨o, ho, hc, hd⟩, _⟩ := st
    rcases List.mem_cons.mp hb with z | z
    · subst z
      exact ⟨_, he, fun v q => nomatch q⟩
    · have z := List.mem_singleton.mp z
      subst z
      exact ⟨o, ho, fun v q => by rw [hd] at q; cases q⟩
  keep := fun i h h' st k => by
    obtain ⟨⟨old, he⟩, hi, hne⟩ := st
    exact ⟨⟨old, k e List.mem_cons_self _ he⟩, hi.at fun o q => k it (List.mem_cons_of_mem _ List.mem_cons_self) o q, hne⟩
  item := by
    intro X hP hw hK hc i pins s σ H E I hf st hg
    subst hP hw hK
    obtain ⟨⟨old, he⟩, hit, hne⟩ := st
    obtain ⟨xs, x, hq, hx⟩ := hg
    obtain ⟨its, rv, p, hz⟩ := I.tuple hq
    obtain ⟨u, hu, ru⟩ := rv.get hx
    have h1 : e < s.heap.objs.size := Heap.lt_size he
    have h2 : it < s.heap.objs.size := by obtain ⟨_, q, _⟩ := hit; exact Heap.lt_size q
    have n1 := tup_not_enum p he
    have n2 := tup_not_iter p hit
    have pT : s.heap.IsTuple a its.toArray := p
    have hlt : i < its.toArray.size := by
      rw [List.size_toArray]
      exact (List.getElem?_eq_some_iff.mp hu).1
    refine wpAny_pyNext_enum_itemD (Draws.tuple (prog := X.prog) (w := X.w) (A := X.A.in1) (I.ok.hd hc) it a n2 its.toArray) he ⟨hit, pT⟩ hlt hne (by simp [hne, n1]) fun y h' tk hy ho st' hT hsz hk => ?_
    have ey : y = u := by
      have hy' : its.toArray[i]? = some y := hy
      rw [List.getElem?_toArray, hu] at hy'
      exact (Option.some.inj hy').symm
    subst ey
    refine ⟨_, rfl, wpAny_letOwnedTupleGo_enum (s := { s with heap := h', toks := tk + 1 }) ho fun h2' he' sb => ?_⟩
    have hT2 : h2'.get? s.heap.objs.size = some { cls := .type "tuple", data := .seq #[.int i tk, y] } := (sb.2 _ (Nat.ne_of_gt h1)).trans hT
    have new : ObjOk X.prog X.w (upd H s.heap.objs.size (.tup [.int (i : Nat), x])) h2' s.heap.objs.size (.tup [.int (i : Nat), x]) :=
      ⟨by show 2 ≤ sizeLine; decide, [.int i tk, y], .cons ⟨_, rfl⟩ (.cons ru .nil), ⟨_, hT2, rfl, _, rfl⟩⟩
    have I1 : Inv X pins σ (upd H s.heap.objs.size (.tup [.int (i : Nat), x])) { s with heap := h2', toks := tk + 1 } :=
      I.turnedNew (ch := [e, it]) (fun b ob hb q => by
        have b1 : b ≠ e := fun z => hb (by simp [z])
        have b2 : b ≠ it := fun z => hb (by simp [z])
        exact (sb.2 b b1).trans (hk b ob b1 b2 q)) hf (Nat.le_refl _) new
    refine ⟨.ref s.heap.objs.size, _, I1, rfl, ⟨_, x, rfl, I.hok.fresh (Nat.le_refl _), rfl, fun ys hy => by rw [I.tuple_inj hy hq]; exact hx⟩, ⟨⟨y, ?_⟩, st'.1.at fun o q => (sb.2 it (Ne.symm hne)).trans q, hne⟩, fun b hb => ?_⟩
    · have e1 : ((i + 1 : Nat) : Int) = (i : Int) + 1 := by omega
      rw [e1]
      exact he'
    · have hb' : b < s.heap.objs.size := by
        rcases List.mem_cons.mp hb with z | z
        · rw [z]; exact h1
        · rw [List.mem_singleton.mp z]; exact h2
      rw [upd_ne (Nat.ne_of_lt hb')]
      exact (hf b hb).1
  done := by
    intro X hP hw hK hc i pins s σ H E I hf st hg
    subst hP hw hK
    obtain ⟨⟨old, he⟩, hit, hne⟩ := st
    obtain ⟨xs, hq, hx⟩ := hg
    obtain ⟨its, rv, p, hz⟩ := I.tuple hq
    have pT : s.heap.IsTuple a its.toArray := p
    obtain ⟨f0, f1, f2, f3, f4, f5⟩ := hf it (List.mem_cons_of_mem _ List.mem_cons_self)
    refine enum_tup_end (I.ok.hd hc) he hit pT (by rw [List.size_toArray, ← rv.length]; exact hx) fun h' eb => ⟨rfl, I.turned (t' := s.toks) (fun b o hb q => eb b o hb q) f0 f1 f3 f4 f5⟩
  self := fun A i s Q E st h => let ⟨⟨_, he⟩, _⟩ := st; wpAny_pyIter_enum he h
/-- enumerate(v), v by what iter(v) comes to -/
abbrev enumO (it : Addr) : Obj := { cls := .type "enumerate", data := .fields #[.none, .bool false, .ref it, rawInt 0, .none, .none] }
section
variable {prog : Program} {w : World} {A : Around} {E : Value → Shared → Prop} {s : Shared}
theorem enum_new_any {v : Value} {R : Result → Shared → Prop}
    (hit : wpAny (model prog w) A.in1 (pyIter v) (fun u s' => ∃ it, u = .ref it ∧ R (.ok (.ret (.ref s'.heap.objs.size))) { s' with heap := s'.heap.push (enumO it) }) (fun e s' => R (.error e) s') s) :
    wpAny (model prog w) A.in1 (Builtin.«enumerate.__new__» ⟨[.type "enumerate", v], []⟩) (fun fin s' => match fin with | .done f => R (.ok f) s' | .again c' => c'.quiet = true ∧ codeAny (model prog w) A c' R s') (fun e s' => R (.error e) s') s := by
  have hsub := sub_enumerate
  obtain ⟨hp, g, d, tk, os⟩ := s
  have q1 : ∀ {Q : Value → Shared → Prop}, (∀ u s', (∃ it, u = .ref it ∧ R (.ok (.ret (.ref s'.heap.objs.size))) { s' with heap := s'.heap.push (enumO it) }) → Q u s') →
      wpAny (model prog w) A.in1 (pyIter v) Q (fun e s' => R (.error e) s') ⟨hp, g, d, tk, os⟩ := fun {Q} hQ => wpAny_mono hit hQ fun _ _ z => z
  have q2 : ∀ (u : Value) (s' : Shared), (∃ it, u = .ref it ∧ R (.ok (.ret (.ref s'.heap.objs.size))) { s' with heap := s'.heap.push (enumO it) }) →
      wpAny (model prog w) A.in1 (Builtin.SmallTypes.newRecord (.type "enumerate") (Builtin.SmallTypes.ownedTupleFields ++ [u, rawInt 0, .none, .none]) >>= fun r => ret r)
        (fun fin s' => match fin with | .done f => R (.ok f) s' | .again c' => c'.quiet = true ∧ codeAny (model prog w) A c' R s') (fun e s' => R (.error e) s') s' := by
    rintro u s' ⟨it, rfl, h⟩
    obtain ⟨hp2, g2, d2, tk2, os2⟩ := s'
    wp_walk
    exact h
  wp_walk
  refine wpAny_stack_any fun st => wpAny_pure ?_
  split
  · rename_i c _ _ _ _ _
    cases (c == Value.type "enumerate")
    · wp_walk using q1
      exact q2
    · wp_walk using q1
      exact q2
  · wp_walk using q1
    exact q2
theorem call_enum_any {v : Value} {Q : Value → Shared → Prop}
    (hit : wpAny (model prog w) A.in1.in1 (pyIter v) (fun u s' => ∃ it, u = .ref it ∧ Q (.ref s'.heap.objs.size) { s' with heap := s'.heap.push (enumO it) }) E s) :
    wpAny (model prog w) A (call (.type "enumerate") [v]) Q E s := by
  refine callType_codes (Q₁ := fun obj s₁ => s₁.TypeIs obj "enumerate" ∧ Q obj s₁) F.called_enumerate (F.typeCall_enumerate_1 v) F.entry_object_init
    (codeAny_call_builtin F.called_enumerate.plain F.entry_enumerate_new (wpAny_of_eq (F.newCall_enumerate_1 v) (enum_new_any ?_))) fun obj s₁ hq => ⟨hq.1, F.args_object_init_2 obj v, ?_⟩
  · refine wpAny_mono hit (fun u s' ⟨it, e, q⟩ => ⟨it, e, ⟨_, Heap.get?_push_size _ rfl, rfl⟩, q⟩) fun _ _ z => z
  · exact object_init_meets F.called_enumerate.init.lookup F.called_enumerate.made (by decide) prog w A.in1 _ s₁ ⟨hq.1, rfl, hq.2⟩
end
/-- for i, x in enumerate(t), t a tuple -/
def iEnumT (K : PySem.W.Frag) (ta : TA) : TI := fun σ H R => ta σ H fun vs H1 => ∃ a xs, vs = [.ref a] ∧ SqT K H1 a xs ∧ R (IteT K a) H1
theorem pi_enumT {X : Cx} {e : Expr} {ta : TA} {p pos tpos : Pos} {elts : List Expr} {kk : Nat} (hg : Gl X "enumerate") (hm : X.mg "enumerate" = none) (ha : PA X [e] ta) (hs : starEach [e] X.env = [(false, eval e X.env)] := by rfl) :
    PI X (.Tuple elts kk tpos) (.Call (.Name "enumerate" p) [e] [] pos) (iEnumT X.K ta) := by
  refine ⟨fun pins s σ H R I h => ?_⟩
  refine Call_ (ld_blt I hg hm boot_enumerate (PyProof.Rows.callWith_type1 (thn (ha.run pos pins s σ H _ I h) fun us s1 ⟨vs, H1, I1, r1, a, xs, ex, hq, q⟩ => ?_) hs rfl))
  subst ex
  obtain ⟨u, rfl, ru⟩ := vals1 r1
  cases ru
  obtain ⟨its, rv, pt, hz⟩ := I1.tuple hq
  refine call_enum_any (wpAny_pyIter_tuple (show s1.heap.IsTuple a its.toArray from pt) ⟨_, rfl, ?_⟩)
  have k1 : ∀ b o, s1.heap.get? b = some o → ((s1.heap.push { cls := .type "tuple_iterator", data := .fields #[.ref a, .int 0 0] }).push (enumO s1.heap.objs.size)).get? b = some o := fun b o z => Heap.get?_push_of_some _ (Heap.get?_push_of_some _ z)
  have I2 : Inv X pins σ H1 { s1 with heap := (s1.heap.push { cls := .type "tuple_iterator", data := .fields #[.ref a, .int 0 0] }).push (enumO s1.heap.objs.size) } := I1.kept (t' := s1.toks) k1
  have sz : (s1.heap.push { cls := .type "tuple_iterator", data := .fields #[.ref a, .int 0 0] }).objs.size = s1.heap.objs.size + 1 := Heap.size_push ..
  refine wpAny_pyIter_enum (i := 0) (it := s1.heap.objs.size) (old := .none) (Heap.get?_push_size _ rfl) ?_
  refine ⟨_, [(s1.heap.push { cls := .type "tuple_iterator", data := .fields #[.ref a, .int 0 0] }).objs.size, s1.heap.objs.size], _, _, H1, rfl, I2, turn_enumT a _ s1.heap.objs.size, ⟨⟨.none, Heap.get?_push_size _ rfl⟩, ⟨_, Heap.get?_push_of_some _ (Heap.get?_push_size _ rfl), rfl, rfl⟩, ?_⟩, fun b hb => ?_, q⟩
  · rw [sz]
    exact Nat.succ_ne_self _
  · have hle : s1.heap.objs.size ≤ b := by
      rcases List.mem_cons.mp hb with z | z
      · rw [z, sz]; exact Nat.le_succ _
      · rw [List.mem_singleton.mp z]; exact Nat.le_refl _
    exact I1.fpOk hle (I1.hok.fresh hle)
end K14

namespace K14
open PySem PySem.Spec PyProof.Rows L2
/-! a book, walked -/
/-- at it: the iterator of the tuple at t, at its beginning -/
def ItT (t it : Addr) : HO := .ext fun h => h.IsTupleIter it t 0
theorem itT_ok {P : Program} {w : World} {H : Hp} {h : Heap} {t it : Addr} (q : h.IsTupleIter it t 0) : ObjOk P w H h it (ItT t it) :=
  ⟨q, let ⟨o, ho, _⟩ := q; ⟨o, ho⟩, fun _ _ z k => z.at fun o e => k o e⟩
theorem itT_get {X : Cx} {pins : List (Addr × Obj)} {σ : L2.St} {H : Hp} {s : Shared} {t it : Addr} (I : Inv X pins σ H s) (h : H it = some (ItT t it)) : s.heap.IsTupleIter it t 0 := by
  have x : ObjOk X.prog X.w H s.heap it (.ext fun h => h.IsTupleIter it t 0) := I.hok it _ h
  exact x.1
def rIterT (K : PySem.W.Frag) (n : Nat) : List V → Hp → VK → Prop := fun xs H Q => ∃ (t : Addr) (zs : List V), xs = [.ref t] ∧ SqT K H t zs ∧ ∀ it, H it = Option.none → n ≤ it → Q (.ref it) (upd H it (ItT t it))
section
variable {X : Cx}
theorem cr_iterT : CallR X (.builtin "iter") (rIterT X.K X.s_0.heap.objs.size) := by
  intro pins s σ H xs us Q I r h
  obtain ⟨t, zs, rfl, hq, q⟩ := h
  obtain ⟨u, rfl, ru⟩ := vals1 r
  cases ru
  obtain ⟨its, rv, pt, hz⟩ := I.tuple hq
  refine Calls.call_function_entry (by decide +kernel) (by decide +kernel) PySem.W.kdk_entry_iter (PySem.W.kdk_args_iter _) ?_
  unfold Builtin.«iter»
  refine wpAny_bind (m := someArgs "iter" 1 2 _) (wpAny_of_eq (a := [Value.ref t]) (by first | rfl | kernel_rfl!) ?_)
  show wpAny _ _ (pyIter (.ref t) >>= _) _ _ _
  refine wpAny_bind (wpAny_pyIter_tuple (show s.heap.IsTuple t its.toArray from pt) (wpAny_pure ⟨_, rfl, ?_⟩))
  exact ⟨.ref s.heap.objs.size, _, I.laid (t' := s.toks) (fun b o e => Heap.get?_push_of_some _ e) (Nat.le_refl _) (itT_ok ⟨_, Heap.get?_push_size _ rfl, rfl, rfl⟩), rfl, q _ (I.hok.fresh (Nat.le_refl _)) I.sz⟩
end
section
variable {P : Program} {w : World} {K : PySem.W.Frag} {mg : Str → Option Value} {base : Heap} {c : Cl}
theorem scBookIt : FnScope ["self"] ["self"] (defScope sBookIt) := ⟨rfl, rfl, rfl, by decide +kernel, rfl, by decide +kernel, by decide +kernel⟩
/-- Book.__iter__ runs: a new iterator, behind all that stood -/
theorem book_code {f b : Addr} {fd : FuncData} {A : Around} {outer : List Env} {s : Shared} {H : Hp} {as : List Addr} (F : FnP K "__iter__" "Book.__iter__" sBookIt f fd) (T : Txt K mg c) (hr : Room 1 A) (e0 : Env0 P w K mg base A outer s H) (hb : BookAt c H b as) :
    codeAny (model P w) A (.call (.ref f) ⟨[.ref b], []⟩) (CR CX0 outer P w H s (fun v H' => ∃ it t, v = .ref it ∧ H it = none ∧ s.heap.objs.size ≤ it ∧ H t = some (.tup (as.map V.ref)) ∧ H' = upd H it (ItT t it)) E0) s := by
  have bA := FunD.bindsA (ps := ["self"]) F fun _ _ _ _ _ _ us hl => match us, hl with | [_], _ => rfl
  obtain ⟨oc, od, dV, kV, doc, pm, an, cdv, ct, osl, rfl, lk, hcd, _, _⟩ := F.ex
  obtain ⟨dx, m, t, h1, h2⟩ := hb
  have KX : K.In s.heap := e0.mod.kin.keeps fun b o e => (e0.bs b o e).1
  have hkind : ∀ y ∈ (["self"] : List Str).zip [Value.ref b], (defScope sBookIt).names.lookup y.1 = some .local ∨ ((defScope sBookIt).names.lookup y.1 = some .cell ∧ ((cellsFrom (s.heap.objs.size + 1) (defScope sBookIt).names []).lookup y.1).isSome = true) := fun y hy => by
    rcases scBookIt.par y.1 (List.of_mem_zip hy).1 with q | q
    · exact .inl q
    · exact .inr ⟨q, PySem.W.cellsFrom_some _ _ _ (.inl q)⟩
  refine codeAny_call_function hr.depth (KX _ _ lk) rfl scBookIt.co scBookIt.gen rfl (PySem.W.codeRec_of KX hcd) (bA s [.ref b] rfl _ _ _ _ ?_)
  refine wpAny_newFunctionEnv_cells scBookIt.kind hkind fun env he s1 x => ?_
  subst he
  have lim : s.heap.NoLimit := e0.mod.nolimit.keeps fun b o e => (e0.bs b o e).1
  refine ⟨lim.keeps x.toInCall.keep, codeAny_func ?_⟩
  have r : Vals [V.ref b] [Value.ref b] := .cons rfl .nil
  have I : Inv (cxOf CX0 P w K mg base ["self"] "Book.__iter__" (defScope sBookIt) f cdv A outer s H E0) [] (start ["self"] [V.ref b]) H s1 := inv_start scBookIt hr.hd e0 rfl r x
  have body : PSs (cxOf CX0 P w K mg base ["self"] "Book.__iter__" (defScope sBookIt) f cdv A outer s H E0) (defBody sBookIt) _ :=
    pss_one (ps_ret (pe_callB cr_iterT (by rfl) (T.fr "iter") (by decide +kernel) (pa_cons (pe_fld (pv 0) rfl) pa_nil)))
  refine wpAny_mono (body.run [] s1 _ H { nx := fun _ _ => False, rt := fun v H' => ∃ it t, v = .ref it ∧ H it = none ∧ s.heap.objs.size ≤ it ∧ H t = some (.tup (as.map V.ref)) ∧ H' = upd H it (ItT t it) } I ?_) (fun fl s' hs => ?_) fun e s' hs => hs
  · exact ⟨_, rfl, b, c.B, dx, _, _, rfl, h1, T.clB, T.naB _ (by decide +kernel), bfl_sayings m t, t, _, rfl, SqT.of h2, fun it hit hn => ⟨it, t, rfl, hit, hn, h2, rfl⟩⟩
  · cases fl with
    | ret u =>
      obtain ⟨v, σ', H', J, rv, q⟩ := hs
      exact ⟨v, H', J.os, J.bare, J.base, J.hok, rv, q⟩
    | next =>
      obtain ⟨_, _, _, q⟩ := hs
      exact False.elim q
    | brk =>
      obtain ⟨_, _, _, q⟩ := hs
      exact False.elim q
    | cont =>
      obtain ⟨_, _, _, q⟩ := hs
      exact False.elim q
end
/-- what the walk asks of the class of books: its __iter__ -/
structure BkT (K : PySem.W.Frag) (mg : Str → Option Value) (c : Cl) : Prop where
  ex : ∃ f fd, FnP K "__iter__" "Book.__iter__" sBookIt f fd ∧ PySem.W.findIn K (.ref c.B) "__iter__" = some (some (.ref f)) ∧ PySem.W.isFn K (.ref f) = true
section
variable {X : Cx} {c : Cl} {pins : List (Addr × Obj)} {σ : L2.St} {H : Hp} {s : Shared} {b : Addr} {as : List Addr} {A1 : Around}
theorem book_iter (T : Txt X.K X.mg c) (B : BkT X.K X.mg c) (sb : Sub X 1 A1) (I : Inv X pins σ H s) (hb : BookAt c H b as) :
    wpAny (model X.prog X.w) A1 (pyIter (.ref b)) (fun u s' => ∃ it t, u = .ref it ∧ H it = none ∧ X.s_0.heap.objs.size ≤ it ∧ H t = some (.tup (as.map V.ref)) ∧ Inv X pins σ (upd H it (ItT t it)) s') X.xe s := by
  obtain ⟨f, fd, F, hf, hi⟩ := B.ex
  obtain ⟨dx, m, t, h1, h2⟩ := id hb
  obtain ⟨mA, J, _⟩ := ins_get I.hok h1
  obtain ⟨od, J, _⟩ := J.look
  obtain ⟨m0, fr⟩ := I.fr
  refine PySem.W.owit_iter fr I.ok.mod.kin J hf hi ?_
  have e0 : Env0 X.prog X.w X.K X.mg X.base A1 X.stack s H := by
    have e := I.env0
    exact ⟨by rw [sb.fr]; exact e.frames, e.mod, e.bs, e.bsz, e.funs, e.frf, e.hok, e.bare⟩
  refine wpAny_call (codeAny_mono (book_code F T sb.room e0 hb) fun r s' hq => ?_)
  cases r with
  | error e => exact False.elim hq
  | ok fl =>
    cases fl with
    | ret u =>
      obtain ⟨v, H', I', rv, it, t', ev, hit, hn, ht, eH⟩ := I.after hq
      subst ev
      rw [eH] at I'
      cases rv
      have st := itT_get I' upd_same
      unfold PySem.W.OwitIt
      refine wpAny_specialOf (name := Str.ofString "__next__") st.typeIs PySem.F.slot_tuple_iterator_next.lookup ?_
      exact ⟨it, t', rfl, hit, Nat.le_trans I.sz hn, ht, I'⟩
    | next => exact False.elim hq
    | brk => exact False.elim hq
    | cont => exact False.elim hq
/-- for x in e, e a book -/
def iBook (K : PySem.W.Frag) (c : Cl) (te : TE) : TI := fun σ H R => te σ H fun x H1 => ∃ b as, x = .ref b ∧ BookAt c H1 b as ∧ ∀ t, H1 t = some (.tup (as.map V.ref)) → R (Itt K t) H1
theorem pi_book {tg e : Expr} {te : TE} (T : Txt X.K X.mg c) (B : BkT X.K X.mg c) (hr : Room 1 X.A) (he : PE X e te) : PI X tg e (iBook X.K c te) := by
  refine ⟨fun pins s σ H R I h => ?_⟩
  refine thn (he.run pins s σ H _ I h) fun v s1 ⟨x, H1, I1, r1, b, as, ex, hb, q⟩ => ?_
  subst ex
  cases r1
  refine wpAny_mono (book_iter T B ⟨hr, rfl⟩ I1 hb) (fun u s2 hu => ?_) fun _ _ z => z
  obtain ⟨it, t, rfl, hit, hn, ht, I2⟩ := hu
  have st := itT_get I2 upd_same
  have I3 := ItX.inv_drop I2 (φ := fun h => h.IsTupleIter it t 0) upd_same
  have fp := ItX.inv_fp I2 upd_same hn
  have eH : ItX.dropH (upd H1 it (ItT t it)) it = H1 := ItX.dropH_upd hit
  rw [eH] at I3 fp
  refine ⟨it, [it], _, _, H1, rfl, I3, turn_tuple t it, st, fun y hy => ?_, q t ht⟩
  rw [List.mem_singleton.mp hy]
  exact fp
/-- for i, x in enumerate(e), e a book -/
def iEnumB (K : PySem.W.Frag) (c : Cl) (ta : TA) : TI := fun σ H R => ta σ H fun vs H1 => ∃ b as, vs = [.ref b] ∧ BookAt c H1 b as ∧ ∀ t, H1 t = some (.tup (as.map V.ref)) → R (IteT K t) H1
theorem pi_enumB {e : Expr} {ta : TA} {p pos tpos : Pos} {elts : List Expr} {kk : Nat} (T : Txt X.K X.mg c) (B : BkT X.K X.mg c) (hr : Room 3 X.A) (hg : Gl X "enumerate") (hm : X.mg "enumerate" = none) (ha : PA X [e] ta)
    (hs : starEach [e] X.env = [(false, eval e X.env)] := by rfl) : PI X (.Tuple elts kk tpos) (.Call (.Name "enumerate" p) [e] [] pos) (iEnumB X.K c ta) := by
  refine ⟨fun pins s σ H R I h => ?_⟩
  refine Call_ (ld_blt I hg hm boot_enumerate (PyProof.Rows.callWith_type1 (thn (ha.run pos pins s σ H _ I h) fun us s1 ⟨vs, H1, I1, r1, b, as, ex, hb, q⟩ => ?_) hs rfl))
  subst ex
  obtain ⟨u, rfl, ru⟩ := vals1 r1
  cases ru
  have sb : Sub X 1 X.A.in1.in1 := Sub.in1 (Sub.in1 (⟨hr, rfl⟩ : Sub X 3 X.A))
  refine call_enum_any (wpAny_mono (book_iter T B sb I1 hb) (fun u s2 hu => ?_) fun _ _ z => z)
  obtain ⟨it, t, rfl, hit, hn, ht, I2⟩ := hu
  refine ⟨it, rfl, ?_⟩
  have st := itT_get I2 upd_same
  have lt2 : it < s2.heap.objs.size := by obtain ⟨_, z, _⟩ := st; exact Heap.lt_size z
  have k1 : ∀ y o, s2.heap.get? y = some o → (s2.heap.push (enumO it)).get? y = some o := fun y o z => Heap.get?_push_of_some _ z
  have I2' : Inv X pins σ (upd H1 it (ItT t it)) { s2 with heap := s2.heap.push (enumO it) } := I2.kept (t' := s2.toks) k1
  have I3 := ItX.inv_drop I2' (φ := fun h => h.IsTupleIter it t 0) upd_same
  have fp := ItX.inv_fp I2' upd_same hn
  have eH : ItX.dropH (upd H1 it (ItT t it)) it = H1 := ItX.dropH_upd hit
  rw [eH] at I3 fp
  have nsz : H1 s2.heap.objs.size = none := by
    have z := I2.hok.fresh (Nat.le_refl _)
    rw [upd_ne (Nat.ne_of_gt lt2)] at z
    exact z
  refine wpAny_pyIter_enum (i := 0) (it := it) (old := .none) (Heap.get?_push_size _ rfl) ?_
  refine ⟨s2.heap.objs.size, [s2.heap.objs.size, it], _, _, H1, rfl, I3, turn_enumT t s2.heap.objs.size it, ⟨⟨.none, Heap.get?_push_size _ rfl⟩, st.at fun o z => k1 _ o z, Nat.ne_of_gt lt2⟩, fun y hy => ?_, q t ht⟩
  rcases List.mem_cons.mp hy with z | z
  · rw [z]
    exact I2.fpOk (Nat.le_refl _) nsz
  · rw [List.mem_singleton.mp z]
    exact fp
end
end K14

namespace K14
open PySem PySem.Spec PyProof.Rows L2
section
variable {P : Program} {w : World} {K : PySem.W.Frag} {mg : Str → Option Value} {base : Heap} {c : Cl}
/-! checked_layers -/
theorem scChecked : FnScope ["layers", "layer"] ["layers"] (defScope sChecked) := ⟨rfl, rfl, rfl, by decide +kernel, rfl, by decide +kernel, by decide +kernel⟩
theorem int_at {ls : List Int} {i : Nat} {y : V} (h : (ls.map V.int)[i]? = some y) : ∃ z, ls[i]? = some z ∧ y = .int z := by
  rw [List.getElem?_map] at h
  cases e : ls[i]? with
  | none =>
    rw [e] at h
    cases h
  | some z =>
    rw [e] at h
    exact ⟨z, rfl, (Option.some.inj h).symm⟩
theorem ok_checked {f : Addr} {fd : FuncData} (F : FnP K "checked_layers" "checked_layers" sChecked f fd) (T : Txt K mg c) (N : Cons K mg) (G : GFn P w K mg base CX0 1 "is_whole" ["thing", "low", "high"] spWhole) :
    FnOk P w K mg base CX0 2 f fd ["layers"] spChecked := by
  obtain ⟨fg, fdg, Gg, gg, kg, bg⟩ := G
  obtain ⟨ac, hc, qc⟩ := N.counts
  obtain ⟨th, hh⟩ := N.highest
  refine F.ok scChecked (fun vs H Q E h => ?_) (fun cdv A outer s H vs Q E hr h => ?_)
  · obtain ⟨p, ls, rfl, _⟩ := h
    rfl
  · obtain ⟨p, ls, rfl, hp, L, k⟩ := h
    refine ⟨_, PSs.nox (pss_cons (ps_if (PW.pt (pw_or (pt_not (pt_val (pe_callB call_isiT (by rfl) (T.fr "isinstance") (by decide +kernel) (pa_cons (pv 0) (pa_cons (pe_tup (pa_cons (pe_bltn (v := .ty "list") (by rfl) (T.fr "list") (by decide +kernel) rfl) (pa_cons (pe_bltn (v := .ty "tuple") (by rfl) (T.fr "tuple") (by decide +kernel) rfl) pa_nil))) pa_nil)))))
        (pw_or1 (pt_cmpR op_notIn_seq (pe_callB call_len_seq (by rfl) (T.fr "len") PySem.boot_len (pa_cons (pv 0) pa_nil)) (pe_glob (v := .ref ac) (by rfl) hc rfl) (by rfl))))) (pss_one ps_never) pss_nil)
      (pss_cons (ps_for PassesOwn.never rfl (pi_list (pv 0)) (pg_name (i := 1) scChecked.nd rfl (.inl rfl))
        (pss_one (ps_if (pt_not (pt_val (pe_call Gg hr rfl gg kg bg .nil pass0 (pa_cons (pv 1) (pa_cons pe_int (pa_cons (pe_glob (v := .int (10 ^ 30)) (by rfl) hh ⟨_, rfl⟩) pa_nil)))))) (pss_one ps_never) pss_nil)))
      (pss_one (ps_ret (pe_callTy call_tuple_of (by rfl) (T.fr "tuple") (by decide +kernel) (pa_cons (pv 0) pa_nil)))))), ?_⟩
    refine ⟨_, rfl, (by show 2 ≤ sizeLine; decide), fun tp ht => ?_⟩
    have s1 : Same H (upd H tp (.tup [.ty "list", .ty "tuple"])) := same_upd ht
    have hp1 : IntsAt (upd H tp (.tup [.ty "list", .ty "tuple"])) p ls := s1 _ _ hp
    refine ⟨_, tp, _, _, [.type "list", .type "tuple"], true, rfl, upd_same, .cons (.ty _) (.cons (.ty _) .nil), .base (.lst hp1), kitAny_cons (kit_ty (b := "list") (r := true) (by decide +kernel)) (fun z => nomatch z) (fun _ => rfl), true, rfl, iteF ?_⟩
    have hin : inV (.int ((ls.map V.int).length : Nat)) [.int 2, .int 4, .int 8, .int 16] = true := by
      rw [List.length_map]
      rcases L.len with q | q | q | q <;> rw [q] <;> rfl
    refine ⟨_, rfl, p, _, rfl, .inl (SqL.of hp1), ac, _, rfl, .inr (qc _), rfl, rfl, _, rfl, ?_⟩
    refine iteC (by rw [if_pos rfl, hin]; rfl) ?_
    refine ⟨_, rfl, p, rfl, ⟨_, SqL.of hp1⟩, for_list (K := K) (a := p) (xs := ls.map V.int) (fun i σ H1 => ∃ v, σ = [some (.ref p), v] ∧ H1 = upd H tp (.tup [.ty "list", .ty "tuple"])) ⟨_, rfl, rfl⟩ (fun i σ H1 _ ⟨_, _, e⟩ => by rw [e]; exact SqL.of hp1) ?_ ?_⟩
    · rintro i y σ H1 hi ⟨v, rfl, rfl⟩
      obtain ⟨z, hz, rfl⟩ := int_at hi
      obtain ⟨z0, z1⟩ := L.rng z (List.mem_of_getElem? hz)
      refine ⟨_, rfl, z, 0, 10 ^ 30, rfl, ?_⟩
      rw [decide_eq_true z0, decide_eq_true z1]
      exact ⟨true, rfl, iteF ⟨_, rfl, rfl⟩⟩
    · rintro σ H1 ⟨v, rfl, rfl⟩
      refine ⟨_, rfl, p, _, rfl, .inl ⟨SqL.of hp1, fun t hpt => ?_⟩⟩
      exact k t _ (s1.trans (same_upd hpt)) (s1.free hpt) upd_same
/-! Order.__init__ -/
theorem scOrdI : FnScope ["self", "layers"] ["self", "layers"] (defScope sOrdI) := ⟨rfl, rfl, rfl, by decide +kernel, rfl, by decide +kernel, by decide +kernel⟩
theorem ok_ordI {f : Addr} {fd : FuncData} (F : FnP K "__init__" "Order.__init__" sOrdI f fd) (T : Txt K mg c) (G : GFn P w K mg base CX0 2 "checked_layers" ["layers"] spChecked) :
    FnOk P w K mg base CX0 3 f fd ["self", "layers"] (spOrdI c) := by
  obtain ⟨fg, fdg, Gg, gg, kg, bg⟩ := G
  refine F.ok scOrdI (fun vs H Q E h => ?_) (fun cdv A outer s H vs Q E hr h => ?_)
  · obtain ⟨p, dx, l, ls, rfl, _⟩ := h
    rfl
  · obtain ⟨p, dx, l, ls, rfl, hp, hl, L, k⟩ := h
    refine ⟨_, PSs.nox (pss_cons (ps_fld (pv 0) (pe_call Gg hr rfl gg kg bg .nil pass0 (pa_cons (pv 1) pa_nil)) rfl)
      (pss_one (ps_if (pt_cmpR op_gt (pe_callB (cr_minT rfl hr.units) (by rfl) (T.fr "min") (by decide +kernel) (pa_cons (pe_fld (pv 0) rfl) pa_nil)) pe_int (nomark _)) (pss_one ps_never) pss_nil))), ?_⟩
    refine ⟨_, rfl, l, ls, rfl, hl, L, fun t H1 s1 ht ht1 => ?_⟩
    have npt : p ≠ t := ne_of_none hp ht
    have hp1 := s1 _ _ hp
    refine ⟨_, rfl, p, c.O, dx, [], rfl, hp1, T.clO, T.naO _ (by decide +kernel), (by show 0 < 1000; decide), ?_⟩
    have ht2 : (upd H1 p (.ins c.O dx (ofl t))) t = some (.tup (ls.map V.int)) := by
      rw [upd_ne npt.symm]
      exact ht1
    refine ⟨_, rfl, p, c.O, dx, _, _, rfl, upd_same, T.clO, T.naO _ (by decide +kernel), ofl_layers t, t, ls, rfl, SqT.of ht2, (fun e => by have := L.pos; rw [e] at this; exact absurd this (by decide)), fun m hm => ?_⟩
    refine ⟨_, _, rfl, rfl, _, rfl, iteQ ?_ ?_⟩
    · have := hm.2 0 L.zero
      show ¬ (0 : Int) < m
      omega
    · exact k _ ⟨dx, t, upd_same, ht2⟩ fun b o n e => by rw [upd_ne n]; exact s1 _ _ e
/-! Order.least -/
theorem scLeast : FnScope ["self", "days", "day"] ["self", "days"] (defScope sLeast) := ⟨rfl, rfl, rfl, by decide +kernel, rfl, by decide +kernel, by decide +kernel⟩
theorem nat_at {ds : List Nat} {i : Nat} {y : V} (h : (ds.map fun d => V.int (d : Nat))[i]? = some y) : ∃ z, ds[i]? = some z ∧ y = .int (z : Nat) := by
  rw [List.getElem?_map] at h
  cases e : ds[i]? with
  | none =>
    rw [e] at h
    cases h
  | some z =>
    rw [e] at h
    exact ⟨z, rfl, (Option.some.inj h).symm⟩
theorem take_more {α : Type} {l : List α} {i : Nat} {x : α} (h : l[i]? = some x) : l.take (i + 1) = l.take i ++ [x] := by
  rw [List.take_add_one, h]
  rfl
theorem ok_least {f : Addr} {fd : FuncData} (F : FnP K "least" "Order.least" sLeast f fd) (T : Txt K mg c) (GC : GFn P w K mg base (L2.CX P w) 3 "check_days" ["order", "days"] (spCheck c))
    (GD : GFn P w K mg base CX0 1 "days_in" ["day_set"] spDays) : FnOk P w K mg base CX0 4 f fd ["self", "days"] (spLeast c) := by
  obtain ⟨fg, fdg, Gg, gg, kg, bg⟩ := GC
  obtain ⟨fh, fdh, Gh, gh, kh, bh⟩ := GD
  refine F.ok scLeast (fun vs H Q E h => ?_) (fun cdv A outer s H vs Q E hr h => ?_)
  · obtain ⟨o, ls, m, rfl, _⟩ := h
    rfl
  · obtain ⟨o, ls, m, rfl, hO, hl, hm, k⟩ := h
    obtain ⟨dx, t, ho, ht⟩ := id hO
    have hr1 : Room 1 _ := hr.mono (by decide)
    refine ⟨_, PSs.nox (pss_cons (ps_expr (pe_call Gg hr rfl gg kg bg .nil passL (pa_cons (pv 0) (pa_cons (pv 1) pa_nil))))
      (pss_one (ps_ret (pe_callBK (cr_minD rfl hr.units) (by rfl) (T.fr "min") (by decide +kernel)
        (pa_cons (pe_lc (own := [("day", 2)]) (g := gName 2) (tt := tYes) (te := tOp (rIxT K) (tFld K (tVar 0) "layers") (tVar 2)) rfl scLeast.nd (pi_tup (pe_call Gh hr1 rfl gh kh bh .nil pass0 (pa_cons (pv 1) pa_nil)))
          (blkOk_by (N := ["self", "days", "day"]) (sc := defScope sLeast) (by decide +kernel)) (fun _ _ _ _ _ => pg_name (i := 2) scLeast.nd rfl (.inl rfl)) (fun _ _ _ _ _ => pts_nil)
          (fun _ _ _ _ _ => by exact (pe_ix ix_tup (pe_fld (pv 0) rfl) (pv 2) (fun _ _ => rfl)))) pa_nil) (pk_cons pe_non pk_nil))))), ?_⟩
    refine ⟨_, rfl, _, rfl, o, ls, m, rfl, hO, hl, fun _ => ?_, fun z => absurd hm z⟩
    refine ⟨_, rfl, m, ls.length, rfl, hm, hl, fun p H1 s1 hp hp1 => ?_⟩
    refine ⟨p, rfl, ⟨_, SqT.of hp1⟩, fun D hD => ?_⟩
    have nDp : p ≠ D := ne_of_none hp1 hD
    refine lc_tup (K := K) (a := p) (xs := (days ls.length m).map fun d => V.int (d : Nat)) (fun i H2 => Same H1 H2 ∧ H2 D = some (.lst (((days ls.length m).take i).map fun d => V.int (ls.getD d 0)))) ⟨same_upd hD, by rw [upd_same]; rfl⟩
      (fun i H2 _ ⟨s2, _⟩ => SqT.of (s2 _ _ hp1)) ?_ ?_
    · rintro i x H2 hx ⟨s2, hD2⟩
      obtain ⟨d, hd, rfl⟩ := nat_at hx
      obtain ⟨hd1, hd2⟩ := mem_days.mp (List.mem_of_getElem? hd)
      refine ⟨rfl, ?_⟩
      have ha : (ls.map V.int)[d]? = some (.int (ls.getD d 0)) := by
        rw [List.getElem?_map, List.getElem?_eq_getElem hd1, List.getD_eq_getElem?_getD, List.getElem?_eq_getElem hd1]
        rfl
      refine ⟨_, rfl, o, c.O, dx, _, _, rfl, s2 _ _ (s1 _ _ ho), T.clO, T.naO _ (by decide +kernel), ofl_layers t, _, rfl, t, _, _, _, rfl, rfl, SqT.of (s2 _ _ (s1 _ _ ht)), at_of (j := d) rfl ha, _, hD2, ?_, ?_, ?_⟩
      · rw [List.length_map, List.length_take]
        exact small1000 (by have := days_length ls.length m; omega)
      · exact fun b x e => by
          have nb : b ≠ D := ne_of_none e hD
          rw [upd_ne nb]
          exact s2 _ _ e
      · rw [upd_same, take_more hd, List.map_append]
        rfl
    · rintro H2 ⟨s2, hD2⟩
      rw [List.length_map, List.take_length] at hD2
      refine ⟨D, pick ls m, rfl, rfl, SqL.of ?_, fun v hv => k v H2 (s1.trans s2) hv⟩
      rw [hD2]
      unfold pick
      rw [List.map_map]
      rfl
end
end K14

namespace K14
open PySem PySem.Spec PyProof.Rows L2
theorem sum_pow (l : List Nat) : (l.map fun d => ((2 ^ d : Nat) : Int)).sum = ((powSum l : Nat) : Int) := by
  unfold powSum
  induction l with
  | nil => rfl
  | cons d r ih =>
    rw [List.map_cons, List.map_cons, List.sum_cons, List.sum_cons, ih]
    omega
theorem days_filter (ls : List Int) (m : Nat) (a : Int) : ((days ls.length m).filter fun d => decide (ls.getD d 0 = a)) = normalDays ls m a := by
  unfold days normalDays
  rw [List.filter_filter]
  congr 1
  funext d
  exact Bool.and_comm _ _
section
variable {P : Program} {w : World} {K : PySem.W.Frag} {mg : Str → Option Value} {base : Heap} {c : Cl}
/-! Order.normal -/
theorem scNormal : FnScope ["self", "days", "lowest", "day"] ["self", "days"] (defScope sNormal) := ⟨rfl, rfl, rfl, by decide +kernel, rfl, by decide +kernel, by decide +kernel⟩
theorem ok_normal {f : Addr} {fd : FuncData} (F : FnP K "normal" "Order.normal" sNormal f fd) (T : Txt K mg c) (GL : MFn P w K mg base CX0 4 c.O "least" ["self", "days"] (spLeast c))
    (GD : GFn P w K mg base CX0 1 "days_in" ["day_set"] spDays) : FnOk P w K mg base CX0 5 f fd ["self", "days"] (spNormal c) := by
  obtain ⟨fg, fdg, Gg, mg1, bg⟩ := GL
  obtain ⟨fh, fdh, Gh, gh, kh, bh⟩ := GD
  refine F.ok scNormal (fun vs H Q E h => ?_) (fun cdv A outer s H vs Q E hr h => ?_)
  · obtain ⟨o, ls, m, rfl, _⟩ := h
    rfl
  · obtain ⟨o, ls, m, rfl, hO, hl, hm, hm1, k⟩ := h
    obtain ⟨dx, t, ho, ht⟩ := id hO
    have hr1 : Room 1 _ := hr.mono (by decide)
    refine ⟨_, PSs.nox (pss_cons (ps_set (i := 2) scNormal.nd rfl (.inr rfl) (pe_meth (pv 0) T.clO mg1 Gg hr bg .nil pass0 (pa_cons (pv 1) pa_nil)))
      (pss_one (ps_ret (pe_callB (cr_sum rfl) (by rfl) (T.fr "sum") (by decide +kernel)
        (pa_cons (pe_lc (own := [("day", 3)]) (g := gName 3) (tt := tTest (tOp rEq (tOp (rIxT K) (tFld K (tVar 0) "layers") (tVar 3)) (tVar 2))) rfl scNormal.nd (pi_tup (pe_call Gh hr1 rfl gh kh bh .nil pass0 (pa_cons (pv 1) pa_nil)))
          (blkOk_by (N := ["self", "days", "lowest", "day"]) (sc := defScope sNormal) (by decide +kernel)) (fun _ _ _ _ _ => pg_name (i := 3) scNormal.nd rfl (.inl rfl))
          (fun _ _ _ _ _ => by exact (pts_one (pt_cmpR op_eq (pe_ix ix_tup (pe_fld (pv 0) rfl) (pv 3) (fun _ _ => rfl)) (pv 2) (nomark _))))
          (fun _ _ _ _ _ => pe_op op_shl pe_int (pv 3))) pa_nil))))), ?_⟩
    refine ⟨_, rfl, o, dx, _, rfl, ho, ofl_no t (by decide +kernel), _, rfl, o, ls, m, rfl, hO, hl, hm, fun v H0 s0 hv => ?_⟩
    have hne : pick ls m ≠ [] := pick_where_ne (by omega) hm
    rcases hv with ⟨e, _⟩ | ⟨a, ha, rfl⟩
    · exact absurd e hne
    · refine ⟨_, rfl, m, ls.length, rfl, hm, hl, fun p H1 s1 hp hp1 => ?_⟩
      refine ⟨p, rfl, ⟨_, SqT.of hp1⟩, fun D hD => ?_⟩
      have nDp : p ≠ D := ne_of_none hp1 hD
      refine lc_tup (K := K) (a := p) (xs := (days ls.length m).map fun d => V.int (d : Nat)) (fun i H2 => Same H1 H2 ∧ H2 D = some (.lst ((((days ls.length m).take i).filter fun d => decide (ls.getD d 0 = a)).map fun d => V.int ((2 ^ d : Nat) : Int)))) ⟨same_upd hD, by rw [upd_same]; rfl⟩
        (fun i H2 _ ⟨s2, _⟩ => SqT.of (s2 _ _ hp1)) ?_ ?_
      · rintro i x H2 hx ⟨s2, hD2⟩
        obtain ⟨d, hd, rfl⟩ := nat_at hx
        obtain ⟨hd1, hd2⟩ := mem_days.mp (List.mem_of_getElem? hd)
        have hai : (ls.map V.int)[d]? = some (.int (ls.getD d 0)) := by
          rw [List.getElem?_map, List.getElem?_eq_getElem hd1, List.getD_eq_getElem?_getD, List.getElem?_eq_getElem hd1]
          rfl
        have h16 : d ≤ 16 := by omega
        refine ⟨rfl, _, rfl, o, c.O, dx, _, _, rfl, s2 _ _ (s1 _ _ (s0 _ _ ho)), T.clO, T.naO _ (by decide +kernel), ofl_layers t, _, rfl, t, _, _, _, rfl, rfl, SqT.of (s2 _ _ (s1 _ _ (s0 _ _ ht))), at_of (j := d) rfl hai, _, rfl, rfl, _, rfl, ?_⟩
        rw [take_more hd, List.filter_append]
        by_cases q : ls.getD d 0 = a
        · refine iteP (by rw [q]) ?_
          refine ⟨_, rfl, _, _, rfl, rfl, ⟨Int.natCast_nonneg _, by omega, by decide⟩, _, hD2, ?_, ?_, ?_⟩
          · rw [List.length_map]
            refine small1000 ?_
            have l1 := List.length_filter_le (fun d => decide (ls.getD d 0 = a)) ((days ls.length m).take i)
            have l2 := days_length ls.length m
            rw [List.length_take] at l1
            omega
          · exact fun b x e => by
              have nb : b ≠ D := ne_of_none e hD
              rw [upd_ne nb]
              exact s2 _ _ e
          · rw [upd_same, List.filter_cons_of_pos (by simpa using q), List.filter_nil, List.map_append]
            have e2 : (1 : Int) * 2 ^ ((d : Nat) : Int).toNat = ((2 ^ d : Nat) : Int) := by
              rw [Int.toNat_natCast, Int.one_mul, Int.natCast_pow]
              rfl
            dsimp only
            rw [e2]
            rfl
        · refine iteQ (fun z => q (by injection z)) ⟨s2, ?_⟩
          rw [List.filter_cons_of_neg (by simpa using q), List.filter_nil, List.append_nil]
          exact hD2
      · rintro H2 ⟨s2, hD2⟩
        rw [List.length_map, List.take_length, days_filter] at hD2
        refine ⟨D, (normalDays ls m a).map fun d => ((2 ^ d : Nat) : Int), rfl, SqL.of ?_, ?_⟩
        · rw [hD2, List.map_map]
          rfl
        · rw [sum_pow]
          exact k a H2 ((s0.trans s1).trans s2) ha
/-! Order.keeps -/
theorem scKeeps : FnScope ["self", "saying", "lowest", "above"] ["self", "saying"] (defScope sKeeps) := ⟨rfl, rfl, rfl, by decide +kernel, rfl, by decide +kernel, by decide +kernel⟩
theorem low_le (w t : Nat) (u : Bool) : lowN w t u ≤ w := by
  unfold lowN
  cases u with
  | true => exact and_le_left' w t
  | false => exact diff_le w t
theorem high_le (w t : Nat) (u : Bool) : highN w t u ≤ w := by
  unfold highN
  cases u with
  | true => exact diff_le w t
  | false => exact and_le_left' w t
theorem fits_w {n : Nat} {s : Sy} (h : s.fits n) : s.w < 2 ^ n := Nat.lt_of_le_of_lt Nat.left_le_or h
theorem fits_t {n : Nat} {s : Sy} (h : s.fits n) : s.t < 2 ^ n := Nat.lt_of_le_of_lt Nat.right_le_or h
theorem ok_keeps {f : Addr} {fd : FuncData} (F : FnP K "keeps" "Order.keeps" sKeeps f fd) (T : Txt K mg c) (GC : GFn P w K mg base (L2.CX P w) 3 "check_days" ["order", "days"] (spCheck c))
    (GL : MFn P w K mg base CX0 4 c.O "least" ["self", "days"] (spLeast c)) : FnOk P w K mg base (L2.CX P w) 5 f fd ["self", "saying"] (spKeeps c) := by
  obtain ⟨fg, fdg, Gg, gg, kg, bg⟩ := GC
  obtain ⟨fh, fdh, Gh, mh, bh⟩ := GL
  refine F.ok scKeeps (fun vs H Q E h => ?_) (fun cdv A outer s H vs Q E hr h => ?_)
  · obtain ⟨o, p, ls, y, rfl, _⟩ := h
    rfl
  · obtain ⟨o, p, ls, y, rfl, hO, hl, hS, kL, kR⟩ := h
    obtain ⟨dx, t, ho, ht⟩ := id hO
    obtain ⟨dy, hp⟩ := id hS
    have hr3 : Room 3 _ := hr.mono (by decide)
    refine ⟨_, pss_cons (ps_expr (pe_call Gg hr3 rfl gg kg bg .nil (passes_call (takes_of rfl rfl rfl rfl) (fun _ _ _ _ z => z)) (pa_cons (pv 0) (pa_cons (pe_op op_or (pe_fld (pv 1) rfl) (pe_fld (pv 1) rfl)) pa_nil))))
      (pss_cons (ps_par (i := 2) (j := 3) (by rfl) scKeeps.nd rfl rfl (by decide) rfl rfl (pa_cons (pe_meth (pv 0) T.clO mh Gh hr bh .nil pass0 (pa_cons (pe_fld (pv 1) rfl) pa_nil)) (pa_cons (pe_meth (pv 0) T.clO mh Gh hr bh .nil pass0 (pa_cons (pe_fld (pv 1) rfl) pa_nil)) pa_nil)) (by rfl))
      (pss_cons (ps_if (pt_cmp (pc_isN (pv 3))) (pss_one (ps_ret pe_bl)) pss_nil)
      (pss_one (ps_ret (pe_and (pe_cmp (pc_notN (pv 2))) (pe_one (pe_cmpR op_ge (pv 3) (pe_op op_add (pv 2) (pe_fld (pv 1) rfl)) (nomark _)))))))), ?_⟩
    refine ⟨_, rfl, _, rfl, p, c.S, dy, _, _, rfl, hp, T.clS, T.naS _ (by decide +kernel), sfl_where y, _, rfl, p, c.S, dy, _, _, rfl, hp, T.clS, T.naS _ (by decide +kernel), sfl_then y, _, _, rfl, rfl, ?_⟩
    refine ⟨o, ls, y.w ||| y.t, by show [V.ref o, V.int (Builtin.bitOr _ _)] = _; rw [bitOr_nat], hO, hl, fun hf => ?_, fun hf => kR hf⟩
    have hw := fits_w (n := ls.length) (s := y) hf
    refine ⟨_, rfl, o, dx, _, rfl, ho, ofl_no t (by decide +kernel), _, rfl, p, c.S, dy, _, _, rfl, hp, T.clS, T.naS _ (by decide +kernel), sfl_low y, o, ls, _, rfl, hO, hl, Nat.lt_of_le_of_lt (low_le _ _ _) hw, fun v1 H1 s1 hv1 => ?_⟩
    refine ⟨_, rfl, o, dx, _, rfl, s1 _ _ ho, ofl_no t (by decide +kernel), _, rfl, p, c.S, dy, _, _, rfl, s1 _ _ hp, T.clS, T.naS _ (by decide +kernel), sfl_high y, o, ls, _, rfl, hO.same s1, hl, Nat.lt_of_le_of_lt (high_le _ _ _) hw, fun v2 H2 s2 hv2 => ?_⟩
    refine ⟨v1, v2, rfl, _, rfl, _, rfl, ?_⟩
    have s12 := s1.trans s2
    rcases hv2 with ⟨e2, rfl⟩ | ⟨b, hb, rfl⟩
    · refine iteP rfl ?_
      have z := kL hf H2 s12
      rw [show y.keep ls = true from keeps_nil e2] at z
      exact z
    · refine iteQ (fun z => nomatch z) ⟨_, rfl, _, rfl, ?_⟩
      have hne : pick ls (highN y.w y.t y.u) ≠ [] := fun z => by
        have := hb.1
        rw [z] at this
        cases this
      rcases hv1 with ⟨e1, rfl⟩ | ⟨a, ha, rfl⟩
      · have z := kL hf H2 s12
        rw [show y.keep ls = false from keeps_low hne e1] at z
        exact iteC rfl z
      · refine iteB rfl ⟨_, rfl, _, rfl, _, rfl, p, c.S, dy, _, _, rfl, s12 _ _ hp, T.clS, T.naS _ (by decide +kernel), sfl_step y, _, _, rfl, rfl, _, _, rfl, rfl, ?_⟩
        have z := kL hf H2 s12
        rw [show y.keep ls = decide (a + stepI y.u ≤ b) from keeps_min hb ha] at z
        exact z
end
end K14

namespace K14
open PySem PySem.Spec PyProof.Rows L2
theorem walk_enumT {K : PySem.W.Frag} {a : Addr} {xs : List V} : Walk (IteT K a) xs.length (fun H => SqT K H a xs) (YPair (fun i => some (.int (i : Nat))) (fun i => xs[i]?)) := by
  refine ⟨fun i _ hi q => ⟨xs, xs[i], q, by simp [hi]⟩, fun _ q => ⟨xs, q, Nat.le_refl _⟩, fun i H v H' _ q y => ?_⟩
  obtain ⟨T, x, h1, h2, h3, h4⟩ := y
  exact ⟨T, .int (i : Nat), x, h1, h2, h3, rfl, h4 xs q⟩
/-- what is walked, from a heap on: the items xs -/
def Wk (wi : TI) (v : V) (H : Hp) (n : Nat) (Y : Nat → Hp → V → Hp → Prop) : Prop := ∀ (σ : L2.St) (H1 : Hp) (R : It → Hp → Prop), Same H H1 → σ[1]? = some (some v) → (∀ J, Walk J n (fun H2 => Same H1 H2) Y → R J H1) → wi σ H1 R
theorem ref_at {as : List Addr} {i : Nat} {y : V} (h : (as.map V.ref)[i]? = some y) : ∃ z, as[i]? = some z ∧ y = .ref z := by
  rw [List.getElem?_map] at h
  cases e : as[i]? with
  | none =>
    rw [e] at h
    cases h
  | some z =>
    rw [e] at h
    exact ⟨z, rfl, (Option.some.inj h).symm⟩
section
variable {P : Program} {w : World} {K : PySem.W.Frag} {mg : Str → Option Value} {base : Heap} {c : Cl}
theorem scFnk : FnScope ["order", "sayings", "saying", "number"] ["order", "sayings"] (defScope sFnk) := ⟨rfl, rfl, rfl, by decide +kernel, rfl, by decide +kernel, by decide +kernel⟩
/-- the body's reading, whatever walks -/
def tFnk (c : Cl) (K : PySem.W.Frag) (E : XK) (w1 w2 : TI) : TS :=
  tSeq (tFor w1 (gName 2) (tDrop (tCall (spCheck c) [] E (tCons (tVar 0) (tCons (tOp (rI0 fun i j => .int (Builtin.bitOr i j)) (tFld K (tVar 2) "where") (tFld K (tVar 2) "then")) tNil)))))
    (tSeq (tFor w2 (gTup K 2 (gCons (gName 3) (gCons (gName 2) gNil))) (tIfS (tNot (tB (tMeth c.O "keeps" (spKeeps c) [] E (tVar 0) (tCons (tVar 2) tNil)))) (tRet (tVar 3)) tNext)) (tRet (tC .non)))
theorem fnk_reading {H : Hp} {Q : VK} {E : XK} {o : Addr} {v : V} {ls : List Int} {as : List Addr} {ss : List Sy} {w1 w2 : TI} (T : Txt K mg c) (hO : OrdAt c H o ls) (L : Lay ls) (hA : All2 (SayAt c H) as ss)
    (h1 : Wk w1 v H as.length (YAt (as.map V.ref))) (h2 : Wk w2 v H as.length (YPair (fun i => some (.int (i : Nat))) (fun i => (as.map V.ref)[i]?)))
    (kL : (∀ s, s ∈ ss → s.fits ls.length) → ∀ H', Same H H' → Q (firstV ls ss) H') (kR : (∃ s, s ∈ ss ∧ ¬ s.fits ls.length) → ∀ H', Same H H' → E (.ref c.E) none H') :
    tFnk c K E w1 w2 { nx := fun _ H' => Q .non H', rt := Q } (start ["order", "sayings", "saying", "number"] [.ref o, v]) H := by
  have sAt : ∀ (i : Nat) a, as[i]? = some a → ∃ s, ss[i]? = some s ∧ SayAt c H a s := fun i a e => by
    have hi : i < as.length := (List.getElem?_eq_some_iff.mp e).1
    have hj : i < ss.length := by rw [← hA.1]; exact hi
    exact ⟨ss[i], List.getElem?_eq_getElem hj, hA.2 i a _ e (List.getElem?_eq_getElem hj)⟩
  refine h1 _ H _ (Same.refl H) rfl fun J1 W1 => ?_
  refine for_it W1 (fun i σ H1 => (∃ x, σ = [some (.ref o), some v, x, none]) ∧ Same H H1 ∧ ∀ (j : Nat) s, j < i → ss[j]? = some s → s.fits ls.length) ⟨⟨_, rfl⟩, Same.refl H, fun j s hj => absurd hj (Nat.not_lt_zero j)⟩ (fun i σ H1 _ p => p.2.1) ?_ ?_
  · rintro i x σ H1 H1' hi ⟨⟨x0, rfl⟩, s1, hf⟩ ⟨rfl, hx⟩
    obtain ⟨a, ha, rfl⟩ := ref_at hx
    obtain ⟨y, hy, dy, hp⟩ := sAt i a ha
    have hp1 := s1 _ _ hp
    refine ⟨_, rfl, _, rfl, a, c.S, dy, _, _, rfl, hp1, T.clS, T.naS _ (by decide +kernel), sfl_where y, _, rfl, a, c.S, dy, _, _, rfl, hp1, T.clS, T.naS _ (by decide +kernel), sfl_then y, _, _, rfl, rfl, ?_⟩
    refine ⟨o, ls, y.w ||| y.t, by show [V.ref o, V.int (Builtin.bitOr _ _)] = _; rw [bitOr_nat], hO.same s1, L.le, fun hf' => ?_, fun hf' H2 s2 => kR ⟨y, List.mem_of_getElem? hy, hf'⟩ H2 (s1.trans s2)⟩
    refine ⟨⟨_, rfl⟩, s1, fun j s hj e => ?_⟩
    rcases Nat.lt_succ_iff_lt_or_eq.mp hj with q | q
    · exact hf j s q e
    · rw [q, hy] at e
      have e := Option.some.inj e
      rw [← e]
      exact hf'
  · rintro σ H1 ⟨⟨x0, rfl⟩, s1, hf⟩
    have fits : ∀ s, s ∈ ss → s.fits ls.length := fun s hs => by
      obtain ⟨j, hj, e⟩ := List.mem_iff_getElem.mp hs
      exact hf j s (by rw [hA.1]; exact hj) (by rw [List.getElem?_eq_getElem hj, e])
    refine h2 _ H1 _ s1 rfl fun J2 W2 => ?_
    refine for_it W2 (fun i σ H2 => (∃ x n, σ = [some (.ref o), some v, x, n]) ∧ Same H1 H2 ∧ ∀ (j : Nat) s, j < i → ss[j]? = some s → s.keep ls = true) ⟨⟨_, _, rfl⟩, Same.refl H1, fun j s hj => absurd hj (Nat.not_lt_zero j)⟩ (fun i σ H2 _ p => p.2.1) ?_ ?_
    · rintro i x σ H2 H2' hi ⟨⟨x0, n0, rfl⟩, s2, hk⟩ ⟨T0, x1, x2, rfl, nT, rfl, e1, e2⟩
      have e1' : x1 = .int (i : Nat) := (Option.some.inj e1).symm
      subst e1'
      obtain ⟨a, ha, rfl⟩ := ref_at e2
      obtain ⟨y, hy, hS⟩ := sAt i a ha
      have s3 := s2.trans (same_upd (o := .tup [.int (i : Nat), .ref a]) nT)
      have s13 := s1.trans s3
      refine ⟨T0, _, rfl, SqT.of upd_same, rfl, _, _, rfl, _, _, rfl, rfl, ?_⟩
      obtain ⟨dx, t, ho, ht⟩ := id hO
      refine ⟨_, rfl, o, dx, _, rfl, s13 _ _ ho, ofl_no t (by decide +kernel), _, rfl, o, a, ls, y, rfl, hO.same s13, L.le, hS.same s13, fun _ H3 s4 => ⟨_, rfl, ?_⟩, fun z => absurd (fits y (List.mem_of_getElem? hy)) z⟩
      cases hb : y.keep ls with
      | true =>
        refine iteF ⟨⟨_, _, rfl⟩, s3.trans s4, fun j s hj e => ?_⟩
        rcases Nat.lt_succ_iff_lt_or_eq.mp hj with q | q
        · exact hk j s q e
        · rw [q, hy] at e
          have e := Option.some.inj e
          rw [← e]
          exact hb
      | false =>
        refine iteT ⟨_, rfl, ?_⟩
        have z := kL fits H3 (s13.trans s4)
        unfold firstV at z
        rw [firstIx_some hy hb hk] at z
        exact z
    · rintro σ H2 ⟨⟨x0, n0, rfl⟩, s2, hk⟩
      have z := kL fits H2 (s1.trans s2)
      unfold firstV at z
      rw [firstIx_none fun s hs => by
        obtain ⟨j, hj, e⟩ := List.mem_iff_getElem.mp hs
        exact hk j s (by rw [hA.1]; exact hj) (by rw [List.getElem?_eq_getElem hj, e])] at z
      exact z
theorem ok_fnk {f : Addr} {fd : FuncData} (F : FnP K "first_not_kept" "first_not_kept" sFnk f fd) (T : Txt K mg c) (B : BkT K mg c) (GC : GFn P w K mg base (L2.CX P w) 3 "check_days" ["order", "days"] (spCheck c))
    (GK : MFn P w K mg base (L2.CX P w) 5 c.O "keeps" ["self", "saying"] (spKeeps c)) : FnOk P w K mg base (L2.CX P w) 6 f fd ["order", "sayings"] (spFnk c) := by
  obtain ⟨fg, fdg, Gg, gg, kg, bg⟩ := GC
  obtain ⟨fh, fdh, Gh, mh, bh⟩ := GK
  refine F.ok scFnk (fun vs H Q E h => ?_) (fun cdv A outer s H vs Q E hr h => ?_)
  · obtain ⟨o, v, ls, as, ss, rfl, _⟩ := h
    rfl
  · obtain ⟨o, v, ls, as, ss, rfl, hO, L, hS, hA, hz, hok, kL, kR⟩ := h
    have hr3 : Room 3 _ := hr.mono (by decide)
    have hr1 : Room 1 _ := hr.mono (by decide)
    have body : ∀ {w1 w2 : TI} (X : Cx) (hX : X = cxOf (L2.CX P w) P w K mg base ["order", "sayings", "saying", "number"] "first_not_kept" (defScope sFnk) f cdv A outer s H E),
        (∀ {tg : Expr} {p : Pos}, PI X tg (.Name "sayings" p) w1) → (∀ {elts : List Expr} {kk : Nat} {tpos p p' pos : Pos}, PI X (.Tuple elts kk tpos) (.Call (.Name "enumerate" p) [.Name "sayings" p'] [] pos) w2) → PSs X (defBody sFnk) (tFnk c K E w1 w2) := by
      intro w1 w2 X hX p1 p2
      subst hX
      exact pss_cons (ps_for (passes_of rfl) rfl p1 (pg_name (i := 2) scFnk.nd rfl (.inl rfl))
          (pss_one (ps_expr (pe_call Gg hr3 rfl gg kg bg .nil (passes_call (takes_of rfl rfl rfl rfl) (fun _ _ _ _ z => z)) (pa_cons (pv 0) (pa_cons (pe_op op_or (pe_fld (pv 2) rfl) (pe_fld (pv 2) rfl)) pa_nil))))))
        (pss_cons (ps_for (passes_of rfl) rfl p2 (pg_tup rfl (pgs_cons (pg_name (i := 3) scFnk.nd rfl (.inl rfl)) (pgs_cons (pg_name (i := 2) scFnk.nd rfl (.inl rfl)) pgs_nil)))
          (pss_one (ps_if (pt_not (pt_val (pe_meth (pv 0) T.clO mh Gh hr bh .nil (passes_call (takes_of rfl rfl rfl rfl) (fun _ _ _ _ z => z)) (pa_cons (pv 2) pa_nil)))) (pss_one (ps_ret (pv 3))) pss_nil)))
        (pss_one (ps_ret pe_non)))
    obtain ⟨p, ev, hS⟩ := hS
    subst ev
    have hlen : as.length = (as.map V.ref).length := (List.length_map ..).symm
    rcases hS with hp | hp | hp
    · refine ⟨_, body _ rfl (pi_list (pv 1)) (pi_enum (by rfl) (T.fr "enumerate") (pa_cons (pv 1) pa_nil)), fnk_reading T hO L hA ?_ ?_ kL kR⟩
      · intro σ H1 R s1 e1 k
        refine ⟨_, e1, p, rfl, ⟨_, SqL.of (s1 _ _ hp)⟩, k _ ?_⟩
        rw [hlen]
        exact walk_list.mono (fun H2 s2 => SqL.of (s2 _ _ (s1 _ _ hp))) fun _ _ _ _ _ _ y => y
      · intro σ H1 R s1 e1 k
        refine ⟨_, e1, p, _, rfl, SqL.of (s1 _ _ hp), k _ ?_⟩
        rw [hlen]
        exact walk_enum.mono (fun H2 s2 => SqL.of (s2 _ _ (s1 _ _ hp))) fun _ _ _ _ _ _ y => y
    · refine ⟨_, body _ rfl (pi_tup (pv 1)) (pi_enumT (by rfl) (T.fr "enumerate") (pa_cons (pv 1) pa_nil)), fnk_reading T hO L hA ?_ ?_ kL kR⟩
      · intro σ H1 R s1 e1 k
        refine ⟨_, e1, p, rfl, ⟨_, SqT.of (s1 _ _ hp)⟩, k _ ?_⟩
        rw [hlen]
        exact walk_tup.mono (fun H2 s2 => SqT.of (s2 _ _ (s1 _ _ hp))) fun _ _ _ _ _ _ y => y
      · intro σ H1 R s1 e1 k
        refine ⟨_, e1, p, _, rfl, SqT.of (s1 _ _ hp), k _ ?_⟩
        rw [hlen]
        exact walk_enumT.mono (fun H2 s2 => SqT.of (s2 _ _ (s1 _ _ hp))) fun _ _ _ _ _ _ y => y
    · refine ⟨_, body _ rfl (pi_book T B hr1 (pv 1)) (pi_enumB T B hr3 (by rfl) (T.fr "enumerate") (pa_cons (pv 1) pa_nil)), fnk_reading T hO L hA ?_ ?_ kL kR⟩
      · intro σ H1 R s1 e1 k
        refine ⟨_, e1, p, _, rfl, hp.same s1, fun t ht => k _ ?_⟩
        rw [hlen]
        exact walk_tup.mono (fun H2 s2 => SqT.of (s2 _ _ ht)) fun _ _ _ _ _ _ y => y
      · intro σ H1 R s1 e1 k
        refine ⟨_, e1, p, _, rfl, hp.same s1, fun t ht => k _ ?_⟩
        rw [hlen]
        exact walk_enumT.mono (fun H2 s2 => SqT.of (s2 _ _ ht)) fun _ _ _ _ _ _ y => y
/-! Order.__call__, Order.keeps_all -/
theorem scOrdC : FnScope ["self", "sayings"] ["self", "sayings"] (defScope sOrdC) := ⟨rfl, rfl, rfl, by decide +kernel, rfl, by decide +kernel, by decide +kernel⟩
theorem ok_ordC {f : Addr} {fd : FuncData} (F : FnP K "__call__" "Order.__call__" sOrdC f fd) (G : GFn P w K mg base (L2.CX P w) 6 "first_not_kept" ["order", "sayings"] (spFnk c)) : FnOk P w K mg base (L2.CX P w) 7 f fd ["self", "sayings"] (spFnk c) := by
  obtain ⟨fg, fdg, Gg, gg, kg, bg⟩ := G
  refine F.ok scOrdC (fun vs H Q E h => ?_) (fun cdv A outer s H vs Q E hr h => ?_)
  · obtain ⟨o, v, ls, as, ss, rfl, _⟩ := h
    rfl
  · obtain ⟨o, v, ls, as, ss, rfl, h⟩ := h
    refine ⟨_, pss_one (ps_ret (pe_call Gg hr rfl gg kg bg .nil (passes_call (takes_of rfl rfl rfl rfl) (fun _ _ _ _ z => z)) (pa_cons (pv 0) (pa_cons (pv 1) pa_nil)))), ?_⟩
    exact ⟨_, rfl, _, rfl, o, v, ls, as, ss, rfl, h⟩
theorem scKeepsAll : FnScope ["self", "sayings"] ["self", "sayings"] (defScope sKeepsAll) := ⟨rfl, rfl, rfl, by decide +kernel, rfl, by decide +kernel, by decide +kernel⟩
theorem ok_keepsAll {f : Addr} {fd : FuncData} (F : FnP K "keeps_all" "Order.keeps_all" sKeepsAll f fd) (G : GFn P w K mg base (L2.CX P w) 6 "first_not_kept" ["order", "sayings"] (spFnk c)) : FnOk P w K mg base (L2.CX P w) 7 f fd ["self", "sayings"] (spAll c) := by
  obtain ⟨fg, fdg, Gg, gg, kg, bg⟩ := G
  refine F.ok scKeepsAll (fun vs H Q E h => ?_) (fun cdv A outer s H vs Q E hr h => ?_)
  · obtain ⟨o, v, ls, as, ss, rfl, _⟩ := h
    rfl
  · obtain ⟨o, v, ls, as, ss, rfl, hO, L, hS, hA, hz, hok, kL, kR⟩ := h
    refine ⟨_, pss_one (ps_ret (pe_cmp (pc_isN (pe_call Gg hr rfl gg kg bg .nil (passes_call (takes_of rfl rfl rfl rfl) (fun _ _ _ _ z => z)) (pa_cons (pv 0) (pa_cons (pv 1) pa_nil)))))), ?_⟩
    refine ⟨_, rfl, _, rfl, o, v, ls, as, ss, rfl, hO, L, hS, hA, hz, hok, fun hf H' s' => ?_, kR⟩
    have z := kL hf H' s'
    have e : decide (firstV ls ss = V.non) = (firstIx ls ss).isNone := by
      unfold firstV
      cases firstIx ls ss with
      | none => rfl
      | some i => exact decide_eq_false fun q => nomatch q
    show Q (.bl (decide (firstV ls ss = V.non))) H'
    rw [e]
    exact z
end
end K14

namespace K14
open PySem PySem.Spec PyProof.Rows L2
section
variable {P : Program} {w : World} {K : PySem.W.Frag} {mg : Str → Option Value} {base : Heap} {c : Cl}
theorem abcd_facts {z : Str} (h : z ∈ abcd) : z.length = 1 ∧ z.cps.size = 1 ∧ (∀ (i x : Nat), z.cps[i]? = some x → x ∈ lettersS.cps.toList) ∧ inV (.str z) (keptWords.map V.str) = false := by
  have one : ∀ (a : Nat), a ∈ lettersS.cps.toList → ∀ (i x : Nat), (#[a] : Array Nat)[i]? = some x → x ∈ lettersS.cps.toList := fun a ha i x e => by
    cases i with
    | zero =>
      have : a = x := by simpa using e
      rw [← this]
      exact ha
    | succ i => simp at e
  rcases List.mem_cons.mp h with rfl | h
  · exact ⟨by decide +kernel, by decide +kernel, one _ (by decide +kernel), by decide +kernel⟩
  rcases List.mem_cons.mp h with rfl | h
  · exact ⟨by decide +kernel, by decide +kernel, one _ (by decide +kernel), by decide +kernel⟩
  rcases List.mem_cons.mp h with rfl | h
  · exact ⟨by decide +kernel, by decide +kernel, one _ (by decide +kernel), by decide +kernel⟩
  rcases List.mem_cons.mp h with rfl | h
  · exact ⟨by decide +kernel, by decide +kernel, one _ (by decide +kernel), by decide +kernel⟩
  cases h
/-! name_fault -/
theorem scFault : FnScope ["thing", "character"] ["thing"] (defScope sFault) := ⟨rfl, rfl, rfl, by decide +kernel, rfl, by decide +kernel, by decide +kernel⟩
theorem ok_fault {f : Addr} {fd : FuncData} (F : FnP K "name_fault" "name_fault" sFault f fd) (T : Txt K mg c) (N : Cons K mg) : FnOk P w K mg base CX0 1 f fd ["thing"] spFault := by
  obtain ⟨tn, hn⟩ := N.name
  obtain ⟨tl, hl⟩ := N.letters
  obtain ⟨aw, hw, qw⟩ := N.words
  refine F.ok scFault (fun vs H Q E h => ?_) (fun cdv A outer s H vs Q E hr h => ?_)
  · obtain ⟨z, rfl, _⟩ := h
    rfl
  · obtain ⟨z, rfl, hz, k⟩ := h
    obtain ⟨z1, z2, z3, z4⟩ := abcd_facts hz
    refine ⟨_, PSs.nox (pss_cons (ps_if (PW.pt (pw_or (pt_not (pt_val (pe_callB call_isi (by rfl) (T.fr "isinstance") (by decide +kernel) (pa_cons (pv 0) (pa_cons (pe_bltn (v := .ty "str") (by rfl) (T.fr "str") (by decide +kernel) rfl) pa_nil)))))
        (pw_or1 (pt_not (pt_chain op_le op_le pe_int (pe_callB call_len_str (by rfl) (T.fr "len") PySem.boot_len (pa_cons (pv 0) pa_nil)) (pe_glob (v := .int 8) (by rfl) hn ⟨_, rfl⟩)))))) (pss_one ps_never) pss_nil)
      (pss_cons (ps_for PassesOwn.never rfl (pi_str (pv 0)) (pg_name (i := 1) scFault.nd rfl (.inl rfl))
        (pss_one (ps_if (pt_cmpR op_notIn_sign (pv 1) (pe_glob (v := .str lettersS) (by rfl) hl ⟨_, rfl⟩) (by rfl)) (pss_one ps_never) pss_nil)))
      (pss_one (ps_ret (pe_ifExp (pt_cmpR op_in_seq (pv 0) (pe_glob (v := .ref aw) (by rfl) hw rfl) (by rfl)) pe_str pe_non))))), ?_⟩
    refine ⟨_, rfl, _, _, _, _, true, rfl, .ty _, .base (.str _), kit_ty (by decide +kernel), _, rfl, iteF ?_⟩
    refine ⟨_, rfl, z, rfl, by rw [z1]; show 1 ≤ sizeLine; decide, _, _, rfl, rfl, _, rfl, ?_⟩
    rw [z1]
    refine iteP (by decide) ⟨_, _, rfl, rfl, _, rfl, ?_⟩
    refine iteC (by decide) ?_
    refine ⟨_, rfl, z, rfl, for_it walk_str (fun i σ H1 => ∃ v, σ = [some (.str z), v] ∧ H1 = H) ⟨_, rfl, rfl⟩ (fun _ _ _ _ _ => trivial) ?_ ?_⟩
    · rintro i y σ H1 H1' hi ⟨v, rfl, rfl⟩ ⟨rfl, x, hx, rfl⟩
      refine ⟨_, rfl, x, lettersS, rfl, rfl, _, rfl, ?_⟩
      refine iteC ?_ ⟨_, rfl, rfl⟩
      rw [decide_eq_true (z3 i x hx)]
      rfl
    · rintro σ H1 ⟨v, rfl, rfl⟩
      refine ⟨_, rfl, aw, _, rfl, .inr (qw _), rfl, by decide +kernel, _, rfl, ?_⟩
      rw [if_neg (by decide : ¬ (false = true)), z4]
      exact k
end
end K14

namespace K14
open PySem PySem.Spec PyProof.Rows L2
theorem pfl {f : Str} {v : V} {fs : List (Str × V)} {n : Nat} (h : fs.length ≤ n) : (putF f v fs).length ≤ n + 1 := Nat.le_trans (length_putF f v fs) (Nat.succ_le_succ h)
theorem pf0 : ([] : List (Str × V)).length ≤ 0 := Nat.le_refl _
theorem same_make {H H' : Hp} {x dx C : Addr} (nx : H x = none) (nd : H dx = none) (y : But x (upd (upd H dx (.own x)) x (.ins C dx [])) H') : Same H H' := fun b o e => y b o (ne_of_none e nx) (by
  rw [upd_ne (ne_of_none e nx), upd_ne (ne_of_none e nd)]
  exact e)
theorem abcd_at {k i : Nat} {y : V} (h : ((abcd.take k).map V.str)[i]? = some y) : ∃ z, y = .str z ∧ z ∈ abcd ∧ inV (.str z) ((abcd.take i).map V.str) = false ∧ (abcd.take (i + 1)).map V.str = (abcd.take i).map V.str ++ [y] ∧ i < 4 := by
  have hi : i < ((abcd.take k).map V.str).length := (List.getElem?_eq_some_iff.mp h).1
  rw [List.length_map, List.length_take] at hi
  have hk : i < k := by omega
  have h4 : i < 4 := by
    have : abcd.length = 4 := rfl
    omega
  rw [List.getElem?_map, List.getElem?_take_of_lt hk] at h
  have hc : i = 0 ∨ i = 1 ∨ i = 2 ∨ i = 3 := by omega
  rcases hc with rfl | rfl | rfl | rfl
  · exact ⟨"a", (Option.some.inj h).symm, by decide +kernel, by decide +kernel, by rw [← Option.some.inj h]; rfl, h4⟩
  · exact ⟨"b", (Option.some.inj h).symm, by decide +kernel, by decide +kernel, by rw [← Option.some.inj h]; rfl, h4⟩
  · exact ⟨"c", (Option.some.inj h).symm, by decide +kernel, by decide +kernel, by rw [← Option.some.inj h]; rfl, h4⟩
  · exact ⟨"d", (Option.some.inj h).symm, by decide +kernel, by decide +kernel, by rw [← Option.some.inj h]; rfl, h4⟩
theorem flat_str (l : List Str) : (l.map V.str).all flatV = true := by
  induction l with
  | nil => rfl
  | cons a r ih => rw [List.map_cons, List.all_cons, ih]; rfl
section
variable {P : Program} {w : World} {K : PySem.W.Frag} {mg : Str → Option Value} {base : Heap} {c : Cl}
/-! Marks.__init__ -/
theorem scMarksI : FnScope ["self", "names", "kept", "index", "name", "fault"] ["self", "names"] (defScope sMarksI) := ⟨rfl, rfl, rfl, by decide +kernel, rfl, by decide +kernel, by decide +kernel⟩
theorem ok_marksI {f : Addr} {fd : FuncData} (F : FnP K "__init__" "Marks.__init__" sMarksI f fd) (T : Txt K mg c) (N : Cons K mg) (G : GFn P w K mg base CX0 1 "name_fault" ["thing"] spFault) :
    FnOk P w K mg base CX0 2 f fd ["self", "names"] (spMarksI c) := by
  obtain ⟨fg, fdg, Gg, gg, kg, bg⟩ := G
  obtain ⟨tm, hm⟩ := N.marks
  refine F.ok scMarksI (fun vs H Q E h => ?_) (fun cdv A outer s H vs Q E hr h => ?_)
  · obtain ⟨p, dx, l, k, rfl, _⟩ := h
    rfl
  · obtain ⟨p, dx, l, k, rfl, hp, hl, k1, k4, kQ⟩ := h
    have lenK : (abcd.take k).length = k := by
      rw [List.length_take]
      have : abcd.length = 4 := rfl
      omega
    refine ⟨_, PSs.nox (pss_cons (ps_if (PW.pt (pw_or (pt_not (pt_val (pe_callB call_isiT (by rfl) (T.fr "isinstance") (by decide +kernel) (pa_cons (pv 1) (pa_cons (pe_tup (pa_cons (pe_bltn (v := .ty "list") (by rfl) (T.fr "list") (by decide +kernel) rfl) (pa_cons (pe_bltn (v := .ty "tuple") (by rfl) (T.fr "tuple") (by decide +kernel) rfl) pa_nil))) pa_nil)))))
        (pw_or1 (pt_not (pt_chain op_le op_le pe_int (pe_callB call_len_seq (by rfl) (T.fr "len") PySem.boot_len (pa_cons (pv 1) pa_nil)) (pe_glob (v := .int 4) (by rfl) hm ⟨_, rfl⟩)))))) (pss_one ps_never) pss_nil)
      (pss_cons (ps_set (i := 2) scMarksI.nd rfl (.inl rfl) (pe_lst pa_nil))
      (pss_cons (ps_for PassesOwn.never rfl (pi_enum (by rfl) (T.fr "enumerate") (pa_cons (pv 1) pa_nil)) (pg_tup rfl (pgs_cons (pg_name (i := 3) scMarksI.nd rfl (.inl rfl)) (pgs_cons (pg_name (i := 4) scMarksI.nd rfl (.inl rfl)) pgs_nil)))
        (pss_cons (ps_set (i := 5) scMarksI.nd rfl (.inl rfl) (pe_call Gg hr rfl gg kg bg .nil pass0 (pa_cons (pv 4) pa_nil)))
        (pss_cons (ps_if (PW.pt (pw_and (pt_cmp (pc_isN (pv 5))) (pw_and1 (pt_cmpR op_in_seq (pv 4) (pv 2) (by rfl))))) (pss_one ps_never) pss_nil)
        (pss_cons (ps_if (pt_cmp (pc_notN (pv 5))) (pss_one ps_never) pss_nil)
        (pss_one (ps_expr (pe_bm PySem.F.plainAttrs_list PySem.F.slot_list_append PySem.F.type_list_append mt_append (pv 2) (pa_cons (pv 4) pa_nil))))))))
      (pss_cons (ps_fld (pv 0) (pe_callTy call_tuple_of (by rfl) (T.fr "tuple") (by decide +kernel) (pa_cons (pv 2) pa_nil)) rfl)
      (pss_cons (ps_fld (pv 0) (pe_callB call_len_seq (by rfl) (T.fr "len") PySem.boot_len (pa_cons (pv 2) pa_nil)) rfl)
      (pss_cons (ps_fld (pv 0) (pe_op op_shl pe_int (pe_callB call_len_seq (by rfl) (T.fr "len") PySem.boot_len (pa_cons (pv 2) pa_nil))) rfl)
      (pss_one (ps_fld (pv 0) (pe_op op_sub (pe_op op_shl pe_int (pe_fld (pv 0) rfl)) pe_int) rfl)))))))), ?_⟩
    refine ⟨_, rfl, (by show 2 ≤ sizeLine; decide), fun tp ht => ?_⟩
    have s1 : Same H (upd H tp (.tup [.ty "list", .ty "tuple"])) := same_upd ht
    have hl1 := s1 _ _ hl
    refine ⟨_, tp, _, _, [.type "list", .type "tuple"], true, rfl, upd_same, .cons (.ty _) (.cons (.ty _) .nil), .base (.lst hl1), kitAny_cons (kit_ty (b := "list") (r := true) (by decide +kernel)) (fun z => nomatch z) (fun _ => rfl), true, rfl, iteF ?_⟩
    refine ⟨_, rfl, l, _, rfl, .inl (SqL.of hl1), _, _, rfl, rfl, _, rfl, ?_⟩
    rw [List.length_map, lenK]
    refine iteP (by omega) ⟨_, _, rfl, rfl, _, rfl, ?_⟩
    refine iteC (by rw [decide_eq_true (by omega : (k : Int) ≤ 4)]; rfl) ?_
    refine ⟨Nat.zero_le _, fun d hd => ?_⟩
    have s2 : Same H (upd (upd H tp (.tup [.ty "list", .ty "tuple"])) d (.lst [])) := s1.trans (same_upd hd)
    refine ⟨_, rfl, l, _, rfl, SqL.of (s2 _ _ hl), ?_⟩
    have nl : l ≠ d := ne_of_none hl1 hd
    have np : p ≠ d := ne_of_none (s1 _ _ hp) hd
    have hdl : H d = none := by
      cases q : H d with
      | none => rfl
      | some o =>
        rw [s1 _ _ q] at hd
        cases hd
    refine for_it walk_enum (fun i σ H1 => (∃ x y z, σ = [some (.ref p), some (.ref l), some (.ref d), x, y, z]) ∧ Same H H1 ∧ H1 d = some (.lst ((abcd.take i).map V.str))) ⟨⟨_, _, _, rfl⟩, s2, upd_same⟩ (fun i σ H1 _ q => SqL.of (q.2.1 _ _ hl)) ?_ ?_
    · rintro i x σ H1 H1' hi ⟨⟨x0, y0, z0, rfl⟩, s3, hd3⟩ ⟨T0, x1, x2, rfl, nT, rfl, e1, e2⟩
      have e1' : x1 = .int (i : Nat) := (Option.some.inj e1).symm
      subst e1'
      obtain ⟨z, rfl, z1, z2, z3, z4⟩ := abcd_at e2
      have s4 : Same H1 (upd H1 T0 (.tup [.int (i : Nat), .str z])) := same_upd nT
      have hd4 := s4 _ _ hd3
      refine ⟨T0, _, rfl, SqT.of upd_same, rfl, _, _, rfl, _, _, rfl, rfl, ?_⟩
      refine ⟨_, rfl, z, rfl, z1, ?_⟩
      refine ⟨_, rfl, _, rfl, iteP rfl ⟨_, rfl, _, rfl, d, _, rfl, .inl (SqL.of hd4), rfl, flat_str _, _, rfl, ?_⟩⟩
      refine iteC (by rw [if_neg (by decide : ¬ (false = true)), z2]) ?_
      refine ⟨_, rfl, _, rfl, iteC rfl ?_⟩
      refine ⟨_, rfl, .inl ⟨rfl, _, SqL.of hd4⟩, _, rfl, d, _, _, rfl, rfl, hd4, ?_, ?_⟩
      · rw [List.length_map, List.length_take]
        exact small1000 (by omega)
      · refine ⟨⟨_, _, _, rfl⟩, fun b o e => ?_, by rw [upd_same, z3]⟩
        rw [upd_ne (ne_of_none e hdl)]
        exact s4 _ _ (s3 _ _ e)
    · rintro σ H1 ⟨⟨x0, y0, z0, rfl⟩, s3, hd3⟩
      rw [List.length_map, lenK] at hd3
      refine ⟨_, rfl, d, _, rfl, .inl ⟨SqL.of hd3, fun t ht => ?_⟩⟩
      have s4 : Same H1 (upd H1 t (.tup ((abcd.take k).map V.str))) := same_upd ht
      have s34 := s3.trans s4
      have npt : p ≠ t := ne_of_none (s3 _ _ hp) ht
      have ndt : d ≠ t := ne_of_none hd3 ht
      have dd : ∀ (o : HO) , (upd (upd H1 t (.tup ((abcd.take k).map V.str))) p o) d = some (.lst ((abcd.take k).map V.str)) := fun o => by
        rw [upd_ne np.symm]
        exact s4 _ _ hd3
      refine ⟨_, rfl, p, c.M, dx, [], rfl, s34 _ _ hp, T.clM, T.naM _ (by decide +kernel), (by show 0 < 1000; decide), ?_⟩
      refine ⟨_, rfl, d, _, rfl, .inl (SqL.of (dd _)), _, rfl, p, c.M, dx, _, rfl, upd_same, T.clM, T.naM _ (by decide +kernel), Nat.lt_of_le_of_lt (pfl pf0) (by decide), ?_⟩
      rw [upd_upd]
      refine ⟨_, rfl, d, _, rfl, .inl (SqL.of (dd _)), _, _, rfl, rfl, ⟨Int.natCast_nonneg _, ?_, by decide⟩, _, rfl, p, c.M, dx, _, rfl, upd_same, T.clM, T.naM _ (by decide +kernel), Nat.lt_of_le_of_lt (pfl (pfl pf0)) (by decide), ?_⟩
      · rw [List.length_map, lenK]
        omega
      rw [upd_upd]
      refine ⟨_, rfl, p, c.M, dx, _, _, rfl, upd_same, T.clM, T.naM _ (by decide +kernel), lk_pos _ _ _, _, _, rfl, rfl, ?_⟩
      rw [List.length_map, lenK]
      have e2 : (1 : Int) * 2 ^ ((k : Nat) : Int).toNat = ((2 ^ k : Nat) : Int) := by
        rw [Int.toNat_natCast, Int.one_mul, Int.natCast_pow]
        rfl
      rw [e2]
      have l2 : 2 ^ k ≤ 16 := by
        have := Nat.pow_le_pow_right (n := 2) (by decide) k4
        exact this
      refine ⟨⟨Int.natCast_nonneg _, by omega, by decide⟩, _, _, rfl, rfl, ?_⟩
      have e3 : (1 : Int) * 2 ^ (((2 ^ k : Nat) : Int).toNat) - 1 = ((2 ^ (2 ^ k) - 1 : Nat) : Int) := by
        rw [Int.toNat_natCast, Int.one_mul]
        have := Nat.pos_of_ne_zero (n := 2 ^ (2 ^ k)) (by have := Nat.pow_pos (n := 2 ^ k) (show 0 < 2 by decide); omega)
        rw [Int.natCast_sub (by omega), Int.natCast_pow]
        rfl
      dsimp only
      rw [e3]
      refine ⟨_, rfl, p, c.M, dx, _, rfl, upd_same, T.clM, T.naM _ (by decide +kernel), Nat.lt_of_le_of_lt (pfl (pfl (pfl pf0))) (by decide), ?_⟩
      rw [upd_upd]
      refine kQ _ ⟨dx, t, k, _, by rw [upd_same]; rfl⟩ fun b o n e => ?_
      rw [upd_ne n]
      exact s34 _ _ e
/-! Saying.__init__ -/
theorem scSayI : FnScope ["self", "where", "then", "usual"] ["self", "where", "then", "usual"] (defScope sSayI) := ⟨rfl, rfl, rfl, by decide +kernel, rfl, by decide +kernel, by decide +kernel⟩
theorem ok_sayI {f : Addr} {fd : FuncData} (F : FunD K "__init__" "Saying.__init__" (defArgs sSayI) (defBody sSayI) (defScope sSayI) [.bl true] [] f fd) (T : Txt K mg c) (N : Cons K mg) (G : GFn P w K mg base CX0 1 "is_whole" ["thing", "low", "high"] spWhole) :
    FnOk P w K mg base CX0 2 f fd ["self", "where", "then", "usual"] (spSayI c) := by
  obtain ⟨fg, fdg, Gg, gg, kg, bg⟩ := G
  obtain ⟨tb, hb⟩ := N.bits
  refine F.ok scSayI (fun vs H Q E h => ?_) (fun cdv A outer s H vs Q E hr h => ?_)
  · obtain ⟨p, dx, y, rfl, _⟩ := h
    rfl
  · obtain ⟨p, dx, ⟨yw, yt, yu⟩, rfl, ⟨h1, h2, h3⟩, hp, k⟩ := h
    have h1 : 1 ≤ yw := h1
    have h2 : yw ≤ 65535 := h2
    have h3 : yt ≤ 65535 := h3
    refine ⟨_, PSs.nox (pss_cons (ps_if (pt_not (pt_val (pe_call Gg hr rfl gg kg bg .nil pass0 (pa_cons (pv 1) (pa_cons pe_int (pa_cons (pe_glob (v := .int 65535) (by rfl) hb ⟨_, rfl⟩) pa_nil)))))) (pss_one ps_never) pss_nil)
      (pss_cons (ps_if (pt_not (pt_val (pe_call Gg hr rfl gg kg bg .nil pass0 (pa_cons (pv 2) (pa_cons pe_int (pa_cons (pe_glob (v := .int 65535) (by rfl) hb ⟨_, rfl⟩) pa_nil)))))) (pss_one ps_never) pss_nil)
      (pss_cons (ps_if (pt_not (pt_val (pe_callB call_isi (by rfl) (T.fr "isinstance") (by decide +kernel) (pa_cons (pv 3) (pa_cons (pe_bltn (v := .ty "bool") (by rfl) (T.fr "bool") (by decide +kernel) rfl) pa_nil))))) (pss_one ps_never) pss_nil)
      (pss_cons (ps_fld (pv 0) (pv 1) rfl)
      (pss_cons (ps_fld (pv 0) (pv 2) rfl)
      (pss_cons (ps_fld (pv 0) (pv 3) rfl)
      (pss_cons (ps_fld (pv 0) (pe_op op_and (pv 1) (pv 2)) rfl)
      (pss_cons (ps_fld (pv 0) (pe_op op_and (pv 1) (pe_un un_inv (pv 2))) rfl)
      (pss_cons (ps_fld (pv 0) (pe_ifExp (pt_val (pv 3)) (pe_fld (pv 0) rfl) (pe_fld (pv 0) rfl)) rfl)
      (pss_cons (ps_fld (pv 0) (pe_ifExp (pt_val (pv 3)) (pe_fld (pv 0) rfl) (pe_fld (pv 0) rfl)) rfl)
      (pss_one (ps_fld (pv 0) (pe_ifExp (pt_val (pv 3)) pe_int pe_int) rfl)))))))))))), ?_⟩
    refine ⟨_, rfl, _, _, _, rfl, ?_⟩
    rw [decide_eq_true (show (1 : Int) ≤ (yw : Int) by omega), decide_eq_true (show (yw : Int) ≤ 65535 by omega)]
    refine ⟨_, rfl, iteF ⟨_, rfl, _, _, _, rfl, ?_⟩⟩
    rw [decide_eq_true (show (0 : Int) ≤ (yt : Int) by omega), decide_eq_true (show (yt : Int) ≤ 65535 by omega)]
    refine ⟨_, rfl, iteF ⟨_, rfl, _, _, _, _, true, rfl, .ty _, .base (.bl _), kit_ty (by decide +kernel), _, rfl, iteF ?_⟩⟩
    refine ⟨_, rfl, _, rfl, p, c.S, dx, _, rfl, hp, T.clS, T.naS _ (by decide +kernel), Nat.lt_of_le_of_lt pf0 (by decide), ?_⟩
    refine ⟨_, rfl, _, rfl, p, c.S, dx, _, rfl, upd_same, T.clS, T.naS _ (by decide +kernel), Nat.lt_of_le_of_lt (pfl pf0) (by decide), ?_⟩
    refine ⟨_, rfl, _, rfl, p, c.S, dx, _, rfl, upd_same, T.clS, T.naS _ (by decide +kernel), Nat.lt_of_le_of_lt (pfl (pfl pf0)) (by decide), ?_⟩
    rw [upd_upd, upd_upd]
    refine ⟨_, rfl, _, rfl, _, _, rfl, rfl, ?_⟩
    dsimp only
    rw [bitAnd_nat]
    refine ⟨_, rfl, p, c.S, dx, _, rfl, upd_same, T.clS, T.naS _ (by decide +kernel), Nat.lt_of_le_of_lt (pfl (pfl (pfl pf0))) (by decide), ?_⟩
    rw [upd_upd]
    refine ⟨_, rfl, _, rfl, _, rfl, _, _, rfl, rfl, ?_⟩
    dsimp only
    rw [bitAndNot_nat]
    refine ⟨_, rfl, p, c.S, dx, _, rfl, upd_same, T.clS, T.naS _ (by decide +kernel), Nat.lt_of_le_of_lt (pfl (pfl (pfl (pfl pf0)))) (by decide), ?_⟩
    rw [upd_upd]
    cases yu with
    | true =>
      refine ⟨_, rfl, _, rfl, iteT ⟨_, rfl, p, c.S, dx, _, _, rfl, upd_same, T.clS, T.naS _ (by decide +kernel), by rw [lk_neg (by decide +kernel), lk_pos], _, rfl, p, c.S, dx, _, rfl, upd_same, T.clS, T.naS _ (by decide +kernel), Nat.lt_of_le_of_lt (pfl (pfl (pfl (pfl (pfl pf0))))) (by decide), ?_⟩⟩
      rw [upd_upd]
      refine ⟨_, rfl, _, rfl, iteT ⟨_, rfl, p, c.S, dx, _, _, rfl, upd_same, T.clS, T.naS _ (by decide +kernel), by rw [lk_neg (by decide +kernel), lk_pos], _, rfl, p, c.S, dx, _, rfl, upd_same, T.clS, T.naS _ (by decide +kernel), Nat.lt_of_le_of_lt (pfl (pfl (pfl (pfl (pfl (pfl pf0)))))) (by decide), ?_⟩⟩
      rw [upd_upd]
      refine ⟨_, rfl, _, rfl, iteT ⟨_, rfl, p, c.S, dx, _, rfl, upd_same, T.clS, T.naS _ (by decide +kernel), Nat.lt_of_le_of_lt (pfl (pfl (pfl (pfl (pfl (pfl (pfl pf0))))))) (by decide), ?_⟩⟩
      rw [upd_upd]
      exact k _ ⟨dx, upd_same⟩ but_upd
    | false =>
      refine ⟨_, rfl, _, rfl, iteF ⟨_, rfl, p, c.S, dx, _, _, rfl, upd_same, T.clS, T.naS _ (by decide +kernel), lk_pos _ _ _, _, rfl, p, c.S, dx, _, rfl, upd_same, T.clS, T.naS _ (by decide +kernel), Nat.lt_of_le_of_lt (pfl (pfl (pfl (pfl (pfl pf0))))) (by decide), ?_⟩⟩
      rw [upd_upd]
      refine ⟨_, rfl, _, rfl, iteF ⟨_, rfl, p, c.S, dx, _, _, rfl, upd_same, T.clS, T.naS _ (by decide +kernel), by rw [lk_neg (by decide +kernel), lk_neg (by decide +kernel), lk_pos], _, rfl, p, c.S, dx, _, rfl, upd_same, T.clS, T.naS _ (by decide +kernel), Nat.lt_of_le_of_lt (pfl (pfl (pfl (pfl (pfl (pfl pf0)))))) (by decide), ?_⟩⟩
      rw [upd_upd]
      refine ⟨_, rfl, _, rfl, iteF ⟨_, rfl, p, c.S, dx, _, rfl, upd_same, T.clS, T.naS _ (by decide +kernel), Nat.lt_of_le_of_lt (pfl (pfl (pfl (pfl (pfl (pfl (pfl pf0))))))) (by decide), ?_⟩⟩
      rw [upd_upd]
      exact k _ ⟨dx, upd_same⟩ but_upd
/-! Saying.contrary -/
theorem scContrary : FnScope ["self"] ["self"] (defScope sContrary) := ⟨rfl, rfl, rfl, by decide +kernel, rfl, by decide +kernel, by decide +kernel⟩
theorem ok_contrary {f : Addr} {fd : FuncData} (F : FnP K "contrary" "Saying.contrary" sContrary f fd) (T : Txt K mg c) (G : CFn P w K mg base CX0 2 "Saying" c.S ["self", "where", "then", "usual"] (spSayI c)) :
    FnOk P w K mg base CX0 4 f fd ["self"] (spContrary c) := by
  obtain ⟨fg, fdg, Gg, Mg, gg, bg⟩ := G
  refine F.ok scContrary (fun vs H Q E h => ?_) (fun cdv A outer s H vs Q E hr h => ?_)
  · obtain ⟨p, y, rfl, _⟩ := h
    rfl
  · obtain ⟨p, y, rfl, ⟨dy, hp⟩, hok, k⟩ := h
    refine ⟨_, PSs.nox (pss_one (ps_ret (pe_make Mg Gg hr (by rfl) gg bg .nil pass0 (pa_cons (pe_fld (pv 0) rfl) (pa_cons (pe_fld (pv 0) rfl) (pa_cons (pe_not (pe_fld (pv 0) rfl)) pa_nil)))))), ?_⟩
    refine ⟨_, rfl, p, c.S, dy, _, _, rfl, hp, T.clS, T.naS _ (by decide +kernel), sfl_where y, _, rfl, p, c.S, dy, _, _, rfl, hp, T.clS, T.naS _ (by decide +kernel), sfl_then y, _, rfl, p, c.S, dy, _, _, rfl, hp, T.clS, T.naS _ (by decide +kernel), sfl_usual y, _, rfl, fun x dx nx nd hne => ?_⟩
    exact ⟨x, dx, y.not, rfl, hok, upd_same, fun H' hS hB => ⟨rfl, k x H' (same_make nx nd hB) hS⟩⟩
/-! Book.__init__ -/
theorem scBookI : FnScope ["self", "marks", "sayings", "number", "saying"] ["self", "marks", "sayings"] (defScope sBookI) := ⟨rfl, rfl, rfl, by decide +kernel, rfl, by decide +kernel, by decide +kernel⟩
theorem ok_bookI {f : Addr} {fd : FuncData} (F : FnP K "__init__" "Book.__init__" sBookI f fd) (T : Txt K mg c) (N : Cons K mg) (IM : IsT K c.M) (IS : IsT K c.S) (gM : mg "Marks" = some (.ref c.M)) (gS : mg "Saying" = some (.ref c.S)) :
    FnOk P w K mg base CX0 2 f fd ["self", "marks", "sayings"] (spBookI c) := by
  obtain ⟨ts, hs⟩ := N.says
  refine F.ok scBookI (fun vs H Q E h => ?_) (fun cdv A outer s H vs Q E hr h => ?_)
  · obtain ⟨p, dx, m, l, n, as, ss, rfl, _⟩ := h
    rfl
  · obtain ⟨p, dx, m, l, n, as, ss, rfl, hp, ⟨dm, tm, km, em, hM⟩, hl, hA, h12, hf, k⟩ := h
    refine ⟨_, PSs.nox (pss_cons (ps_if (pt_not (pt_val (pe_callB call_isi (by rfl) (T.fr "isinstance") (by decide +kernel) (pa_cons (pv 1) (pa_cons (pe_glob (v := .ref c.M) (by rfl) gM rfl) pa_nil))))) (pss_one ps_never) pss_nil)
      (pss_cons (ps_if (PW.pt (pw_or (pt_not (pt_val (pe_callB call_isiT (by rfl) (T.fr "isinstance") (by decide +kernel) (pa_cons (pv 2) (pa_cons (pe_tup (pa_cons (pe_bltn (v := .ty "list") (by rfl) (T.fr "list") (by decide +kernel) rfl) (pa_cons (pe_bltn (v := .ty "tuple") (by rfl) (T.fr "tuple") (by decide +kernel) rfl) pa_nil))) pa_nil)))))
        (pw_or1 (pt_cmpR op_gt (pe_callB call_len_seq (by rfl) (T.fr "len") PySem.boot_len (pa_cons (pv 2) pa_nil)) (pe_glob (v := .int 12) (by rfl) hs ⟨_, rfl⟩) (nomark _))))) (pss_one ps_never) pss_nil)
      (pss_cons (ps_for PassesOwn.never rfl (pi_enum (by rfl) (T.fr "enumerate") (pa_cons (pv 2) pa_nil)) (pg_tup rfl (pgs_cons (pg_name (i := 3) scBookI.nd rfl (.inl rfl)) (pgs_cons (pg_name (i := 4) scBookI.nd rfl (.inl rfl)) pgs_nil)))
        (pss_cons (ps_if (pt_not (pt_val (pe_callB call_isi (by rfl) (T.fr "isinstance") (by decide +kernel) (pa_cons (pv 4) (pa_cons (pe_glob (v := .ref c.S) (by rfl) gS rfl) pa_nil))))) (pss_one ps_never) pss_nil)
        (pss_one (ps_if (pt_cmpR op_gt (pe_op op_or (pe_fld (pv 4) rfl) (pe_fld (pv 4) rfl)) (pe_fld (pv 1) rfl) (nomark _)) (pss_one ps_never) pss_nil))))
      (pss_cons (ps_fld (pv 0) (pv 1) rfl)
      (pss_one (ps_fld (pv 0) (pe_callTy call_tuple_of (by rfl) (T.fr "tuple") (by decide +kernel) (pa_cons (pv 2) pa_nil)) rfl)))))), ?_⟩
    refine ⟨_, rfl, _, _, _, _, true, rfl, .own _, .base (.ins hM T.clM IM.ha IM.hn IM.ht IM.hm), IM.kit, _, rfl, iteF ?_⟩
    refine ⟨_, rfl, (by show 2 ≤ sizeLine; decide), fun tp ht => ?_⟩
    have s1 : Same H (upd H tp (.tup [.ty "list", .ty "tuple"])) := same_upd ht
    have hl1 := s1 _ _ hl
    refine ⟨_, tp, _, _, [.type "list", .type "tuple"], true, rfl, upd_same, .cons (.ty _) (.cons (.ty _) .nil), .base (.lst hl1), kitAny_cons (kit_ty (b := "list") (r := true) (by decide +kernel)) (fun z => nomatch z) (fun _ => rfl), true, rfl, iteF ?_⟩
    refine ⟨_, rfl, l, _, rfl, .inl (SqL.of hl1), _, _, rfl, rfl, _, rfl, iteQ (by rw [List.length_map, hA.1]; show ¬ (12 : Int) < _; omega) ?_⟩
    refine ⟨_, rfl, l, _, rfl, SqL.of hl1, ?_⟩
    refine for_it walk_enum (fun i σ H1 => (∃ x y, σ = [some (.ref p), some (.ref m), some (.ref l), x, y]) ∧ Same H H1) ⟨⟨_, _, rfl⟩, s1⟩ (fun i σ H1 _ q => SqL.of (q.2 _ _ hl)) ?_ ?_
    · rintro i x σ H1 H1' hi ⟨⟨x0, y0, rfl⟩, s3⟩ ⟨T0, x1, x2, rfl, nT, rfl, e1, e2⟩
      have e1' : x1 = .int (i : Nat) := (Option.some.inj e1).symm
      subst e1'
      have e2 : (as.map V.ref)[i]? = some x2 := e2
      rw [List.getElem?_map] at e2
      have hia : i < as.length := by rw [List.length_map] at hi; exact hi
      have his : i < ss.length := by rw [← hA.1]; exact hia
      have e2' : V.ref as[i] = x2 := by
        rw [List.getElem?_eq_getElem hia] at e2
        exact Option.some.inj e2
      subst e2'
      obtain ⟨dy, hy⟩ := hA.2 i _ _ (List.getElem?_eq_getElem hia) (List.getElem?_eq_getElem his)
      have s4 := s3.trans (same_upd (o := .tup [.int (i : Nat), .ref as[i]]) nT)
      have hy4 := s4 _ _ hy
      refine ⟨T0, _, rfl, SqT.of upd_same, rfl, _, _, rfl, _, _, rfl, rfl, ?_⟩
      refine ⟨_, rfl, _, _, _, _, true, rfl, .own _, .base (.ins hy4 T.clS IS.ha IS.hn IS.ht IS.hm), IS.kit, _, rfl, iteF ?_⟩
      refine ⟨_, rfl, _, c.S, dy, _, _, rfl, hy4, T.clS, T.naS _ (by decide +kernel), sfl_where _, _, rfl, _, c.S, dy, _, _, rfl, hy4, T.clS, T.naS _ (by decide +kernel), sfl_then _, _, _, rfl, rfl, ?_⟩
      refine ⟨_, rfl, m, c.M, dm, _, _, rfl, s4 _ _ hM, T.clM, T.naM _ (by decide +kernel), mfl_all _ _ _ _, _, _, rfl, rfl, _, rfl, iteQ ?_ ⟨⟨_, _, rfl⟩, s4⟩⟩
      have hq : (ss[i].w ||| ss[i].t) < 2 ^ n := hf ss[i] (List.getElem_mem _)
      rw [bitOr_nat]
      show ¬ ((2 ^ n - 1 : Nat) : Int) < ((_ : Nat) : Int)
      omega
    · rintro σ H1 ⟨⟨x0, y0, rfl⟩, s3⟩
      refine ⟨_, rfl, _, rfl, p, c.B, dx, [], rfl, s3 _ _ hp, T.clB, T.naB _ (by decide +kernel), Nat.lt_of_le_of_lt pf0 (by decide), ?_⟩
      have hl4 : (upd H1 p (.ins c.B dx (putF "marks" (.ref m) []))) l = some (.lst (as.map V.ref)) := by
        rw [upd_ne (ne_of (s3 _ _ hl) (s3 _ _ hp) (fun q => nomatch q))]
        exact s3 _ _ hl
      refine ⟨_, rfl, l, _, rfl, .inl ⟨SqL.of hl4, fun t ht => ?_⟩⟩
      have npt : p ≠ t := ne_of_none upd_same ht
      refine ⟨_, rfl, p, c.B, dx, _, rfl, by rw [upd_ne npt]; exact upd_same, T.clB, T.naB _ (by decide +kernel), Nat.lt_of_le_of_lt (pfl pf0) (by decide), ?_⟩
      refine k _ ⟨dx, m, t, upd_same, by rw [upd_ne npt.symm]; exact upd_same⟩ fun b o n e => ?_
      have e1 := s3 _ _ e
      have e4 : (upd H1 p (.ins c.B dx (putF "marks" (.ref m) []))) b = some o := by
        rw [upd_ne n]
        exact e1
      rw [upd_ne n, upd_ne (ne_of_none e4 ht)]
      exact e4
end
end K14

namespace K14
open PySem PySem.Spec PyProof.Rows L2
theorem cutV_int {ns : List Int} {lo hi : Option Int} {i : Nat} {y : V} (h : (cutV (ns.map V.int) lo hi)[i]? = some y) : ∃ z, y = .int z := by
  have m := List.mem_of_getElem? h
  unfold cutV at m
  have m2 := List.mem_of_mem_drop (List.mem_of_mem_take m)
  obtain ⟨z, _, e⟩ := List.mem_map.mp m2
  exact ⟨z, e.symm⟩
theorem same_seq {K : PySem.W.Frag} {H H1 : Hp} {p : Addr} {xs : List V} (h : SqL K H p xs) (s : Same H H1) : SqL K H1 p xs := by
  rcases h with (h | ⟨o, h⟩) | h
  · exact .inl (.inl (s _ _ h))
  · exact .inl (.inr ⟨o, s _ _ h⟩)
  · exact .inr h
section
variable {P : Program} {w : World} {K : PySem.W.Frag} {mg : Str → Option Value} {base : Heap} {c : Cl}
/-! _law_bag -/
theorem scBag : FnScope ["_law_script", "_law_at", "_law_cell", "_law_seed", "_law_place", "_law_each"] ["_law_script", "_law_at"] (defScope sLBag) := ⟨rfl, rfl, rfl, by decide +kernel, rfl, by decide +kernel, by decide +kernel⟩
theorem ok_bag {f : Addr} {fd : FuncData} (F : FnP K "_law_bag" "_law_bag" sLBag f fd) (T : Txt K mg c) : FnOk P w K mg base CX0 1 f fd ["_law_script", "_law_at"] (spBag K) := by
  refine F.ok scBag (fun vs H Q E h => ?_) (fun cdv A outer s H vs Q E hr h => ?_)
  · obtain ⟨a, ns, k, rfl, _⟩ := h
    rfl
  · obtain ⟨a, ns, k, rfl, hs, h63, h0, kQ⟩ := h
    obtain ⟨kn, rfl⟩ : ∃ j : Nat, k = (j : Int) := ⟨k.toNat, by omega⟩
    refine ⟨_, PSs.nox (pss_cons (ps_set (i := 2) scBag.nd rfl (.inl rfl) (pe_ifExp (pt_cmpR op_lt (pv 1) (pe_callB call_len_seq (by rfl) (T.fr "len") PySem.boot_len (pa_cons (pv 0) pa_nil)) (nomark _))
        (pe_callB call_abs (by rfl) (T.fr "abs") (by decide +kernel) (pa_cons (pe_ix ix_list (pv 0) (pv 1) (fun _ _ => rfl)) pa_nil)) pe_int))
      (pss_cons (ps_set (i := 3) scBag.nd rfl (.inl rfl) (pe_op op_add pe_int (pe_op op_mul pe_int (pv 1))))
      (pss_cons (ps_for PassesOwn.never rfl (pi_enum (by rfl) (T.fr "enumerate") (pa_cons (pe_slice sl_list (pv 0) po_none (po_some pe_int)) pa_nil)) (pg_tup rfl (pgs_cons (pg_name (i := 4) scBag.nd rfl (.inl rfl)) (pgs_cons (pg_name (i := 5) scBag.nd rfl (.inl rfl)) pgs_nil)))
        (pss_one (ps_set (i := 3) scBag.nd rfl (.inl rfl) (pe_op op_mod (pe_callTy call_int1 (by rfl) (T.fr "int") (by decide +kernel) (pa_cons (pe_op op_add (pe_op op_add (pe_op op_add (pe_op op_mul (pv 3) pe_int) (pe_op op_mod (pe_callTy call_int1 (by rfl) (T.fr "int") (by decide +kernel) (pa_cons (pv 5) pa_nil)) pe_int)) (pe_op op_mul pe_int (pv 4))) pe_int) pa_nil)) pe_int))))
      (pss_one (ps_ret (pe_lst (pa_cons (pe_ifExp (pt_cmpR op_ge (pv 2) (pe_op op_pow pe_int pe_int) (nomark _)) (pv 2) pe_int) (pa_cons (pv 3) (pa_cons pe_int pa_nil))))))))), ?_⟩
    refine ⟨_, rfl, _, rfl, a, _, rfl, .inl hs, _, _, rfl, rfl, _, rfl, ite2 (fun q => ?_) (fun q => ?_)⟩
    · have q : (kn : Int) < (((ns.map V.int).length : Nat) : Int) := of_decide_eq_true q
      rw [List.length_map] at q
      have hj : kn < ns.length := by omega
      have hv : (ns.map V.int)[kn]? = some (.int ns[kn]) := by rw [List.getElem?_map, List.getElem?_eq_getElem hj]; rfl
      refine ⟨_, rfl, _, rfl, a, _, _, _, rfl, rfl, hs, at_of (j := kn) rfl hv, _, rfl, ?_⟩
      refine ⟨_, rfl, _, _, rfl, rfl, .inl ⟨by decide, by decide⟩, _, _, rfl, rfl, ?_⟩
      refine ⟨_, rfl, 63, rfl, a, _, rfl, hs, fun p hp => ⟨p, _, rfl, SqL.of upd_same, ?_⟩⟩
      refine for_it walk_enum (fun i σ H1 => (∃ cell sd x y, σ = [some (.ref a), some (.int (kn : Nat)), some (.int cell), some (.int sd), x, y]) ∧ Same H H1 ∧ H1 p = some (.lst (cutV (ns.map V.int) none (some 63)))) ⟨⟨_, _, _, _, rfl⟩, same_upd hp, upd_same⟩ (fun i σ H1 _ q => SqL.of q.2.2) ?_ ?_
      · rintro i x σ H1 H1' hi ⟨⟨cell, sd, x0, y0, rfl⟩, s3, hp3⟩ ⟨T0, x1, x2, rfl, nT, rfl, e1, e2⟩
        have e1' : x1 = .int (i : Nat) := (Option.some.inj e1).symm
        subst e1'
        obtain ⟨z, rfl⟩ := cutV_int e2
        have s4 := s3.trans (same_upd (o := .tup [.int (i : Nat), .int z]) nT)
        refine ⟨T0, _, rfl, SqT.of upd_same, rfl, _, _, rfl, _, _, rfl, rfl, ?_⟩
        refine ⟨_, rfl, _, _, rfl, rfl, .inr ⟨by decide, by decide⟩, _, rfl, .inl ⟨_, rfl, _, _, rfl, rfl, (by show (0 : Int) < 2147483629; decide), _, _, rfl, rfl, ?_⟩⟩
        refine ⟨_, rfl, _, _, rfl, rfl, .inl ⟨by decide, by decide⟩, _, _, rfl, rfl, _, _, rfl, rfl, .inl ⟨_, rfl, _, _, rfl, rfl, (by show (0 : Int) < 2147483587; decide), ?_⟩⟩
        refine ⟨⟨_, _, _, _, rfl⟩, s4, ?_⟩
        rw [upd_ne (ne_of_none hp3 nT)]
        exact hp3
      · rintro σ H1 ⟨⟨cell, sd, x0, y0, rfl⟩, s3, hp3⟩
        refine ⟨_, rfl, _, _, rfl, rfl, ⟨by decide, by decide, by decide⟩, _, _, rfl, rfl, _, rfl, ite2 (fun _ => ?_) (fun _ => ?_)⟩
        · refine ⟨_, rfl, _, rfl, (by show 3 ≤ sizeLine; decide), fun b hb => ?_⟩
          exact kQ b _ (s3.free hb) ⟨_, _, _, upd_same⟩ (s3.trans (same_upd hb))
        · refine ⟨_, rfl, (by show 3 ≤ sizeLine; decide), fun b hb => ?_⟩
          exact kQ b _ (s3.free hb) ⟨_, _, _, upd_same⟩ (s3.trans (same_upd hb))
    · refine ⟨_, rfl, _, _, rfl, rfl, .inl ⟨by decide, by decide⟩, _, _, rfl, rfl, ?_⟩
      refine ⟨_, rfl, 63, rfl, a, _, rfl, hs, fun p hp => ⟨p, _, rfl, SqL.of upd_same, ?_⟩⟩
      refine for_it walk_enum (fun i σ H1 => (∃ cell sd x y, σ = [some (.ref a), some (.int (kn : Nat)), some (.int cell), some (.int sd), x, y]) ∧ Same H H1 ∧ H1 p = some (.lst (cutV (ns.map V.int) none (some 63)))) ⟨⟨_, _, _, _, rfl⟩, same_upd hp, upd_same⟩ (fun i σ H1 _ q => SqL.of q.2.2) ?_ ?_
      · rintro i x σ H1 H1' hi ⟨⟨cell, sd, x0, y0, rfl⟩, s3, hp3⟩ ⟨T0, x1, x2, rfl, nT, rfl, e1, e2⟩
        have e1' : x1 = .int (i : Nat) := (Option.some.inj e1).symm
        subst e1'
        obtain ⟨z, rfl⟩ := cutV_int e2
        have s4 := s3.trans (same_upd (o := .tup [.int (i : Nat), .int z]) nT)
        refine ⟨T0, _, rfl, SqT.of upd_same, rfl, _, _, rfl, _, _, rfl, rfl, ?_⟩
        refine ⟨_, rfl, _, _, rfl, rfl, .inr ⟨by decide, by decide⟩, _, rfl, .inl ⟨_, rfl, _, _, rfl, rfl, (by show (0 : Int) < 2147483629; decide), _, _, rfl, rfl, ?_⟩⟩
        refine ⟨_, rfl, _, _, rfl, rfl, .inl ⟨by decide, by decide⟩, _, _, rfl, rfl, _, _, rfl, rfl, .inl ⟨_, rfl, _, _, rfl, rfl, (by show (0 : Int) < 2147483587; decide), ?_⟩⟩
        refine ⟨⟨_, _, _, _, rfl⟩, s4, ?_⟩
        rw [upd_ne (ne_of_none hp3 nT)]
        exact hp3
      · rintro σ H1 ⟨⟨cell, sd, x0, y0, rfl⟩, s3, hp3⟩
        refine ⟨_, rfl, _, _, rfl, rfl, ⟨by decide, by decide, by decide⟩, _, _, rfl, rfl, _, rfl, ite2 (fun _ => ?_) (fun _ => ?_)⟩
        · refine ⟨_, rfl, _, rfl, (by show 3 ≤ sizeLine; decide), fun b hb => ?_⟩
          exact kQ b _ (s3.free hb) ⟨_, _, _, upd_same⟩ (s3.trans (same_upd hb))
        · refine ⟨_, rfl, (by show 3 ≤ sizeLine; decide), fun b hb => ?_⟩
          exact kQ b _ (s3.free hb) ⟨_, _, _, upd_same⟩ (s3.trans (same_upd hb))
end
end K14

namespace K14
open PySem PySem.Spec PyProof.Rows L2
theorem BagAt.ne_new {H : Hp} {b p : Addr} (h : BagAt H b) (n : H p = none) : p ≠ b := by
  obtain ⟨_, _, _, h⟩ := h
  exact (ne_of_none h n).symm
theorem BagAt.ne_lst {H : Hp} {b p : Addr} {o : HO} (h : BagAt H b) (q : H p = some o) (n : ∀ x y z, o ≠ .lst [.int x, .int y, .int z]) : p ≠ b := by
  obtain ⟨x, y, z, h⟩ := h
  intro e
  rw [e, h] at q
  exact n x y z (Option.some.inj q).symm
theorem BagAt.upd {H : Hp} {b p : Addr} {o : HO} (h : BagAt H b) (n : p ≠ b) : BagAt (upd H p o) b := by
  obtain ⟨x, y, z, h⟩ := h
  exact ⟨x, y, z, by rw [upd_ne n.symm]; exact h⟩
theorem But.upd {H H1 : Hp} {b p : Addr} {o : HO} (h : But b H H1) (n : H p = none) : But b H (upd H1 p o) := fun a x nb e => by
  rw [upd_ne (ne_of_none e n)]
  exact h a x nb e
/-- the layers that the law draws: first small ones, one of them 0 -/
structure Small (ys : List Int) (n : Nat) : Prop where
  len : ys.length = n
  rng : ∀ x, x ∈ ys → 0 ≤ x ∧ x ≤ 3
  zero : (0 : Int) ∈ ys
theorem ten30 : (10 : Int) ^ 30 = 1000000000000000000000000000000 := by decide +kernel
theorem Small.lay {ys : List Int} {n : Nat} (h : Small ys n) (hn : n = 2 ∨ n = 4 ∨ n = 8 ∨ n = 16) : Lay ys := by
  refine ⟨by rw [h.len]; exact hn, fun x hx => ⟨(h.rng x hx).1, ?_⟩, h.zero⟩
  have := (h.rng x hx).2
  have e := ten30
  omega
theorem small_sub {xs : List Int} {a : Int} {n : Nat} (hl : xs.length = n) (hr : ∀ x, x ∈ xs → 0 ≤ x ∧ x ≤ 3) (h1 : a ∈ xs) (h2 : ∀ y, y ∈ xs → a ≤ y) : Small (xs.map fun x => x - a) n := by
  refine ⟨by rw [List.length_map]; exact hl, fun x hx => ?_, List.mem_map.mpr ⟨a, h1, Int.sub_self a⟩⟩
  obtain ⟨y, hy, rfl⟩ := List.mem_map.mp hx
  have y1 := hr y hy
  have a1 := hr a h1
  have y2 := h2 y hy
  omega
theorem lay_places {ys : List Int} {n : Nat} {pl : List Int} (h : Small ys n) (hn : n = 2 ∨ n = 4 ∨ n = 8 ∨ n = 16) (p0 : pl[0]? = some 0) (hp : ∀ x, x ∈ pl → 0 ≤ x ∧ x ≤ 10 ^ 30) : Lay (ys.map fun y => pl.getD y.toNat 0) := by
  refine ⟨by rw [List.length_map, h.len]; exact hn, fun x hx => ?_, List.mem_map.mpr ⟨0, h.zero, ?_⟩⟩
  · obtain ⟨y, hy, rfl⟩ := List.mem_map.mp hx
    rw [List.getD_eq_getElem?_getD]
    cases e : pl[y.toNat]? with
    | none => exact ⟨Int.le_refl _, by show (0 : Int) ≤ 10 ^ 30; decide +kernel⟩
    | some z => exact hp z (List.mem_of_getElem? e)
  · rw [List.getD_eq_getElem?_getD]
    show (pl[0]?).getD 0 = 0
    rw [p0]
    rfl
section
variable {P : Program} {w : World} {K : PySem.W.Frag} {mg : Str → Option Value} {base : Heap} {c : Cl}
/-! _law_layers -/
theorem scLayers : FnScope ["_law_bag_here", "_law_days", "_law_top", "_law_layers_here", "_law_k", "_law_lowest", "_law_layer", "_law_one", "_law_two", "_law_places"] ["_law_bag_here", "_law_days"] (defScope sLLayers) := ⟨rfl, rfl, rfl, by decide +kernel, rfl, by decide +kernel, by decide +kernel⟩
abbrev nLayers : List Str := ["_law_bag_here", "_law_days", "_law_top", "_law_layers_here", "_law_k", "_law_lowest", "_law_layer", "_law_one", "_law_two", "_law_places"]
theorem ok_layers {f : Addr} {fd : FuncData} (F : FnP K "_law_layers" "_law_layers" sLLayers f fd) (T : Txt K mg c) (G : GFn P w K mg base CX0 1 "_law_take" ["_law_bag_here", "_law_many"] spTake)
    (GO : GFn P w K mg base CX0 2 "_law_of" ["_law_bag_here", "_law_some"] (spOf K)) : FnOk P w K mg base CX0 3 f fd ["_law_bag_here", "_law_days"] spLayers := by
  obtain ⟨ft, fdt, Gt, gt, kt, bt⟩ := G
  obtain ⟨fo, fdo, Go, go, ko, bo⟩ := GO
  refine F.ok scLayers (fun vs H Q E h => ?_) (fun cdv A outer s H vs Q E hr h => ?_)
  · obtain ⟨b, n, rfl, _⟩ := h
    rfl
  · obtain ⟨b, n, rfl, hb, hn, k⟩ := h
    have hr1 : Room 1 _ := hr.mono (by decide)
    have hn16 : n ≤ 16 := by omega
    refine ⟨_, PSs.nox (pss_cons (ps_set (i := 2) scLayers.nd rfl (.inr rfl) (pe_call Go hr rfl go ko bo .nil pass0 (pa_cons (pv 0) (pa_cons (pe_lst (pa_cons pe_int (pa_cons pe_int (pa_cons pe_int (pa_cons pe_int (pa_cons pe_int pa_nil)))))) pa_nil))))
      (pss_cons (ps_setLc (i := 3) (own := [("_law_k", 4)]) (g := gName 4) (tt := tYes) rfl scLayers.nd rfl rfl (sw_true rfl rfl rfl (by decide +kernel)) (pi_range1 (by rfl) (T.fr "range") (pa_cons (pv 1) pa_nil))
        (blkOk_by (N := nLayers) (sc := defScope sLLayers) (by decide +kernel)) (fun _ _ _ _ _ => pg_name (i := 4) scLayers.nd rfl (.inl rfl)) (fun _ _ _ _ _ => pts_nil)
        (fun _ _ _ _ _ => pe_call Gt hr1 rfl gt kt bt .nil pass0 (pa_cons (pv 0) (pa_cons (pe_op op_add (pv 2) pe_int) pa_nil))))
      (pss_cons (ps_set (i := 5) scLayers.nd rfl (.inr rfl) (pe_callB (cr_min rfl) (by rfl) (T.fr "min") (by decide +kernel) (pa_cons (pv 3) pa_nil)))
      (pss_cons (ps_setLc (i := 3) (own := [("_law_layer", 6)]) (g := gName 6) (tt := tYes) rfl scLayers.nd rfl rfl (sw_true rfl rfl rfl (by decide +kernel)) (pi_list (pv 3))
        (blkOk_by (N := nLayers) (sc := defScope sLLayers) (by decide +kernel)) (fun _ _ _ _ _ => pg_name (i := 6) scLayers.nd rfl (.inl rfl)) (fun _ _ _ _ _ => pts_nil)
        (fun _ _ _ _ _ => pe_op op_sub (pv 6) (pv 5)))
      (pss_cons (ps_if (pt_cmpR op_gt (pe_call Gt hr1 rfl gt kt bt .nil pass0 (pa_cons (pv 0) (pa_cons pe_int pa_nil))) pe_int (nomark _)) (pss_one (ps_ret (pv 3))) pss_nil)
      (pss_cons (ps_set (i := 7) scLayers.nd rfl (.inl rfl) (pe_op op_add pe_int (pe_call Gt hr1 rfl gt kt bt .nil pass0 (pa_cons (pv 0) (pa_cons (pe_op op_pow pe_int pe_int) pa_nil)))))
      (pss_cons (ps_set (i := 8) scLayers.nd rfl (.inl rfl) (pe_op op_add (pe_op op_add (pv 7) pe_int) (pe_call Gt hr1 rfl gt kt bt .nil pass0 (pa_cons (pv 0) (pa_cons (pe_op op_pow pe_int pe_int) pa_nil)))))
      (pss_cons (ps_set (i := 9) scLayers.nd rfl (.inr rfl) (pe_lst (pa_cons pe_int (pa_cons (pv 7) (pa_cons (pv 8) (pa_cons (pe_call Go hr rfl go ko bo .nil pass0 (pa_cons (pv 0) (pa_cons (pe_lst (pa_cons (pe_op op_add (pv 8) pe_int) (pa_cons (pe_op op_pow pe_int pe_int) pa_nil))) pa_nil))) pa_nil))))))
      (pss_one (ps_ret (pe_lc (own := [("_law_layer", 6)]) (g := gName 6) (tt := tYes) (te := tOp (rIxL K) (tVar 9) (tVar 6)) rfl scLayers.nd (pi_list (pv 3))
        (blkOk_by (N := nLayers) (sc := defScope sLLayers) (by decide +kernel)) (fun _ _ _ _ _ => pg_name (i := 6) scLayers.nd rfl (.inl rfl)) (fun _ _ _ _ _ => pts_nil)
        (fun _ _ _ _ _ => by exact (pe_ix ix_list (pv 9) (pv 6) (fun _ _ => rfl)))))))))))))), ?_⟩
    refine ⟨_, rfl, (by show 5 ≤ sizeLine; decide), fun l0 hl0 => ?_⟩
    have nl0 := hb.ne_new hl0
    refine ⟨b, l0, _, rfl, hb.upd nl0, nl0, SqL.of upd_same, by decide, by decide, fun j v H1 hj hb1 s1 => ?_⟩
    have s1 : But b H H1 := (Same.but (same_upd hl0)).trans s1
    obtain ⟨tp, ht0, ht1, rfl⟩ : ∃ t : Int, 1 ≤ t ∧ t ≤ 3 ∧ v = .int t := by
      have m := List.mem_of_getElem? hj
      rcases List.mem_cons.mp m with rfl | m
      · exact ⟨1, by decide, by decide, rfl⟩
      rcases List.mem_cons.mp m with rfl | m
      · exact ⟨2, by decide, by decide, rfl⟩
      rcases List.mem_cons.mp m with rfl | m
      · exact ⟨2, by decide, by decide, rfl⟩
      rcases List.mem_cons.mp m with rfl | m
      · exact ⟨3, by decide, by decide, rfl⟩
      rcases List.mem_cons.mp m with rfl | m
      · exact ⟨3, by decide, by decide, rfl⟩
      cases m
    refine ⟨_, rfl, n, rfl, by omega, by omega, fun D hD => ?_⟩
    have nD := hb1.ne_new hD
    have hDH : H D = none := s1.free hD nD
    refine lc_range (lo := 0) (n := (n : Int).toNat) (fun i H2 => But b H H2 ∧ BagAt H2 b ∧ ∃ xs : List Int, xs.length = i ∧ (∀ x, x ∈ xs → 0 ≤ x ∧ x ≤ 3) ∧ H2 D = some (.lst (xs.map V.int))) ⟨s1.upd hDH, hb1.upd nD, [], rfl, (fun x hx => by cases hx), upd_same⟩ ?_ ?_
    · rintro i H2 hi ⟨s2, hb2, xs, hx1, hx2, hD2⟩
      refine ⟨rfl, _, rfl, _, rfl, _, _, rfl, rfl, b, _, rfl, hb2, by omega, by omega, fun d H3 d0 d1 hb3 s3 => ?_⟩
      refine ⟨_, s3 _ _ nD hD2, ?_, (s2.trans s3).upd hDH, hb3.upd nD, xs ++ [d], by rw [List.length_append, hx1]; rfl, ?_, by rw [upd_same, List.map_append]; rfl⟩
      · rw [List.length_map, hx1]
        exact small1000 (by omega)
      · intro x hx
        rcases List.mem_append.mp hx with q | q
        · exact hx2 x q
        · rw [List.mem_singleton.mp q]
          omega
    · rintro H2 ⟨s2, hb2, xs, hx1, hx2, hD2⟩
      have hx1 : xs.length = n := by rw [hx1]; omega
      refine ⟨_, rfl, D, xs, rfl, SqL.of hD2, by omega, fun a ha1 ha2 => ?_⟩
      have sm := small_sub hx1 hx2 ha1 ha2
      refine ⟨_, rfl, D, rfl, ⟨_, SqL.of hD2⟩, fun L hL => ?_⟩
      have nL := hb2.ne_new hL
      have hLH : H L = none := s2.free hL nL
      have hDL : D ≠ L := ne_of_none hD2 hL
      refine lc_list (K := K) (a := D) (xs := xs.map V.int) (fun i H3 => But b H H3 ∧ BagAt H3 b ∧ H3 D = some (.lst (xs.map V.int)) ∧ H3 L = some (.lst ((xs.take i).map fun x => V.int (x - a)))) ⟨s2.upd hLH, hb2.upd nL, by rw [upd_ne hDL]; exact hD2, by rw [upd_same]; rfl⟩ (fun i H3 _ q => SqL.of q.2.2.1) ?_ ?_
      · rintro i x H3 hx ⟨s3, hb3, hD3, hL3⟩
        obtain ⟨z, hz, rfl⟩ := int_at hx
        refine ⟨rfl, _, rfl, _, rfl, _, _, rfl, rfl, _, hL3, ?_, s3.upd hLH, hb3.upd nL, by rw [upd_ne hDL]; exact hD3, by rw [upd_same, take_more hz, List.map_append]; rfl⟩
        rw [List.length_map, List.length_take]
        exact small1000 (by omega)
      · rintro H3 ⟨s3, hb3, hD3, hL3⟩
        rw [List.length_map, List.take_length] at hL3
        have eL : (xs.map fun x => V.int (x - a)) = (xs.map fun x => x - a).map V.int := by rw [List.map_map]; rfl
        rw [eL] at hL3
        obtain ⟨ys, hys⟩ : ∃ ys, ys = xs.map fun x => x - a := ⟨_, rfl⟩
        rw [← hys] at hL3 sm
        refine ⟨_, rfl, b, _, rfl, hb3, by decide, by decide, fun d H4 d0 d1 hb4 s4 => ⟨_, _, rfl, rfl, _, rfl, ite2 (fun _ => ?_) (fun _ => ?_)⟩⟩
        · exact ⟨_, rfl, k L ys H4 (sm.lay hn) sm.len (s4 _ _ nL hL3) hLH hb4 (s3.trans s4)⟩
        · have hL4 := s4 _ _ nL hL3
          have s4 := s3.trans s4
          refine ⟨_, rfl, _, _, rfl, rfl, ⟨by decide, by decide, by decide⟩, b, _, rfl, hb4, (by show (0 : Int) < 10 ^ 6; decide), (by show (10 : Int) ^ 6 < 1073741824; decide), fun e1 H5 e10 e11 hb5 s5 => ⟨_, _, rfl, rfl, ?_⟩⟩
          have hL5 := s5 _ _ nL hL4
          have s5 := s4.trans s5
          have e11 : e1 < 1000000 := e11
          refine ⟨_, rfl, _, _, rfl, rfl, _, rfl, _, _, rfl, rfl, ⟨by decide, by decide, by decide⟩, b, _, rfl, hb5, (by show (0 : Int) < 10 ^ 6; decide), (by show (10 : Int) ^ 6 < 1073741824; decide), fun e2 H6 e20 e21 hb6 s6 => ⟨_, _, rfl, rfl, ?_⟩⟩
          have hL6 := s6 _ _ nL hL5
          have s6 := s5.trans s6
          have e21 : e2 < 1000000 := e21
          refine ⟨_, rfl, _, rfl, _, rfl, _, rfl, _, _, rfl, rfl, _, _, rfl, rfl, ⟨by decide, by decide, by decide⟩, (by show 2 ≤ sizeLine; decide), fun l1 hl1 => ?_⟩
          have nl1 := hb6.ne_new hl1
          refine ⟨b, l1, _, rfl, hb6.upd nl1, nl1, SqL.of upd_same, (by show 0 < 2; decide), (by show 2 < 1000000; decide), fun j2 v2 H7 hj2 hb7 s7 => ?_⟩
          have hl1H : H l1 = none := s6.free hl1 nl1
          have hL7 := s7 _ _ nL (by rw [upd_ne (ne_of_none hL6 hl1)]; exact hL6)
          have s7 : But b H H7 := (s6.upd hl1H).trans s7
          obtain ⟨p3, p30, p31, rfl⟩ : ∃ t : Int, 0 ≤ t ∧ t ≤ 10 ^ 30 ∧ v2 = .int t := by
            have m := List.mem_of_getElem? hj2
            rcases List.mem_cons.mp m with rfl | m
            · have e : (10 : Int) ^ 30 = 1000000000000000000000000000000 := by decide +kernel
              exact ⟨_, by omega, by omega, rfl⟩
            rcases List.mem_cons.mp m with rfl | m
            · exact ⟨10 ^ 30, by decide +kernel, Int.le_refl _, rfl⟩
            cases m
          refine ⟨(by show 4 ≤ sizeLine; decide), fun l2 hl2 => ?_⟩
          have nl2 := hb7.ne_new hl2
          have hl2H : H l2 = none := s7.free hl2 nl2
          have s8 : But b H (upd H7 l2 (.lst [.int 0, .int (1 + e1), .int (1 + e1 + 1 + e2), .int p3])) := s7.upd hl2H
          have hb8 : BagAt (upd H7 l2 (.lst [.int 0, .int (1 + e1), .int (1 + e1 + 1 + e2), .int p3])) b := hb7.upd nl2
          have hL8 : (upd H7 l2 (.lst [.int 0, .int (1 + e1), .int (1 + e1 + 1 + e2), .int p3])) L = some (.lst (ys.map V.int)) := by
            rw [upd_ne (ne_of_none hL7 hl2)]
            exact hL7
          refine ⟨_, rfl, L, rfl, ⟨_, SqL.of hL8⟩, fun M hM => ?_⟩
          have nM := hb8.ne_new hM
          have hMH : H M = none := s8.free hM nM
          have hLM : L ≠ M := ne_of_none hL8 hM
          have h2M : l2 ≠ M := ne_of_none upd_same hM
          obtain ⟨pl, hpl⟩ : ∃ pl : List Int, pl = [0, 1 + e1, 1 + e1 + 1 + e2, p3] := ⟨_, rfl⟩
          refine lc_list (K := K) (a := L) (xs := ys.map V.int) (fun i H3 => But b H H3 ∧ BagAt H3 b ∧ H3 L = some (.lst (ys.map V.int)) ∧ H3 l2 = some (.lst (pl.map V.int)) ∧ H3 M = some (.lst ((ys.take i).map fun y => V.int (pl.getD y.toNat 0))))
            ⟨s8.upd hMH, hb8.upd nM, by rw [upd_ne hLM]; exact hL8, by rw [upd_ne h2M, upd_same, hpl]; rfl, by rw [upd_same]; rfl⟩ (fun i H3 _ q => SqL.of q.2.2.1) ?_ ?_
          · rintro i x H3 hx ⟨s3, hb3, hL3, h23, hM3⟩
            obtain ⟨z, hz, rfl⟩ := int_at hx
            obtain ⟨z0, z1⟩ := sm.rng z (List.mem_of_getElem? hz)
            obtain ⟨zn, rfl⟩ : ∃ j : Nat, z = (j : Int) := ⟨z.toNat, by omega⟩
            have hzl : zn < pl.length := by rw [hpl]; show zn < 4; omega
            have hv : (pl.map V.int)[zn]? = some (.int (pl.getD zn 0)) := by
              rw [List.getElem?_map, List.getElem?_eq_getElem hzl, List.getD_eq_getElem?_getD, List.getElem?_eq_getElem hzl]
              rfl
            refine ⟨rfl, _, rfl, _, rfl, l2, _, _, _, rfl, rfl, SqL.of h23, at_of (j := zn) rfl hv, _, hM3, ?_, s3.upd hMH, hb3.upd nM, by rw [upd_ne hLM]; exact hL3, by rw [upd_ne h2M]; exact h23, by rw [upd_same, take_more hz, List.map_append]; rfl⟩
            rw [List.length_map, List.length_take, sm.len]
            exact small1000 (by omega)
          · rintro H3 ⟨s3, hb3, hL3, h23, hM3⟩
            rw [List.length_map, List.take_length] at hM3
            have eM : (ys.map fun y => V.int (pl.getD y.toNat 0)) = (ys.map fun y => pl.getD y.toNat 0).map V.int := by rw [List.map_map]; rfl
            rw [eM] at hM3
            refine k M _ H3 (lay_places sm hn (by rw [hpl]; rfl) ?_) (by rw [List.length_map, sm.len]) hM3 hMH hb3 s3
            intro x hx
            have e : (10 : Int) ^ 30 = 1000000000000000000000000000000 := by decide +kernel
            rw [hpl] at hx
            rcases List.mem_cons.mp hx with rfl | hx
            · omega
            rcases List.mem_cons.mp hx with rfl | hx
            · omega
            rcases List.mem_cons.mp hx with rfl | hx
            · omega
            rcases List.mem_cons.mp hx with rfl | hx
            · omega
            cases hx
end
end K14

namespace K14
open PySem PySem.Spec PyProof.Rows L2
/-- a comprehension over enumerate(layers): what is made of the days that a test finds -/
theorem lc_enumF {K : PySem.W.Frag} {a D : Addr} {ls : List Int} {p q : Nat} {tt : TT} {te : TE} {vs : List Nat} {σ : L2.St} {H1 : Hp} {Qd : Hp → Prop} (t : Nat → Bool) (r : Nat → V) (hl : IntsAt H1 a ls) (hD : H1 D = none) (h16 : ls.length ≤ 16)
    (hw : ∀ x y : Option V, wipe (((wipe σ vs).set p x).set q y) vs = wipe σ vs)
    (ht : ∀ (i : Nat) (H2 : Hp) (Q : Bool → Hp → Prop), i < ls.length → Same H1 H2 → Q (t i) H2 → tt (((wipe σ vs).set p (some (.int (i : Nat)))).set q (some (.int (ls.getD i 0)))) H2 Q)
    (he : ∀ (i : Nat) (H2 : Hp) (Q : VK), i < ls.length → t i = true → Same H1 H2 → Q (r i) H2 → te (((wipe σ vs).set p (some (.int (i : Nat)))).set q (some (.int (ls.getD i 0)))) H2 Q)
    (hd : ∀ H2, Same H1 H2 → H2 D = some (.lst (((List.range ls.length).filter t).map r)) → Qd H2) :
    ∃ W : Nat → Nat → Hp → Prop, (∃ m, W 0 m (upd H1 D (.lst []))) ∧ ∀ i m H, W i m H →
      ((Ite K a).stop i H ∧ Qd H) ∨ ((Ite K a).go i H ∧ ∃ Nx : Hp → Prop, (∀ H', Nx H' → ∃ m', m' < m ∧ W (i + 1) m' H') ∧ ∀ x H', (Ite K a).yld i H x H' → gTup K 2 (gCons (gName p) (gCons (gName q) gNil)) x (wipe σ vs) H' fun σ2 H2 => wipe σ2 vs = wipe σ vs ∧ tt σ2 H2 fun b H3 =>
        if b = true then te σ2 H3 fun y H4 => ∃ acc, H4 D = some (.lst acc) ∧ acc.length < sizeLine ∧ Nx (upd H4 D (.lst (acc ++ [y]))) else Nx H3) := by
  have hlen : (ls.map V.int).length = ls.length := List.length_map ..
  refine lc_it (walk_enum (xs := ls.map V.int)) (fun i H2 => Same H1 H2 ∧ H2 D = some (.lst (((List.range i).filter t).map r))) ⟨same_upd hD, by rw [upd_same]; rfl⟩ (fun i H2 _ q => SqL.of (q.1 _ _ hl)) ?_ ?_
  · rintro i x H2 H2' hi ⟨s2, hD2⟩ ⟨T0, x1, x2, rfl, nT, rfl, e1, e2⟩
    have e1' : x1 = .int (i : Nat) := (Option.some.inj e1).symm
    subst e1'
    obtain ⟨z, hz, rfl⟩ := int_at e2
    have hi : i < ls.length := by rw [hlen] at hi; exact hi
    have hz : ls.getD i 0 = z := by rw [List.getD_eq_getElem?_getD, hz]; rfl
    subst hz
    have nTD : T0 ≠ D := (ne_of_none hD2 nT).symm
    have s3 := s2.trans (same_upd (o := .tup [.int (i : Nat), .int (ls.getD i 0)]) nT)
    have hD3 : (upd H2 T0 (.tup [.int (i : Nat), .int (ls.getD i 0)])) D = some (.lst (((List.range i).filter t).map r)) := by
      rw [upd_ne nTD.symm]
      exact hD2
    refine ⟨T0, _, rfl, SqT.of upd_same, rfl, _, _, rfl, _, _, rfl, rfl, hw _ _, ht i _ _ hi s3 ?_⟩
    cases hb : t i with
    | true =>
      refine iteT (he i _ _ hi hb s3 ⟨_, hD3, ?_, ?_, ?_⟩)
      · rw [List.length_map]
        refine small1000 ?_
        have l1 := List.length_filter_le t (List.range i)
        rw [List.length_range] at l1
        omega
      · exact fun b x e => by
          rw [upd_ne (ne_of_none e hD)]
          exact s3 _ _ e
      · rw [upd_same, List.range_succ, List.filter_append, List.filter_cons_of_pos hb, List.filter_nil, List.map_append]
        rfl
    | false =>
      refine iteF ⟨s3, ?_⟩
      rw [List.range_succ, List.filter_append, List.filter_cons_of_neg (by rw [hb]; decide), List.filter_nil, List.append_nil]
      exact hD3
  · rintro H2 ⟨s2, hD2⟩
    rw [hlen] at hD2
    exact hd H2 s2 hD2
theorem bit_dec (m d : Nat) : decide (V.int (Builtin.bitAnd ((m : Int) / 2 ^ ((d : Nat) : Int).toNat) 1) = V.int 1) = m.testBit d := by
  rw [bit_int]
  cases m.testBit d with
  | true => exact decide_eq_true rfl
  | false => exact decide_eq_false fun z => by injection z with z; exact absurd z (by decide)
theorem dp_ints {K : PySem.W.Frag} {H : Hp} : ∀ ns : List Int, DpAll K H (ns.map V.int) (ns.map PyData.int)
  | [] => .nil
  | n :: r => .cons (.int n) (dp_ints r)
theorem lay_ints : ∀ ns : List Int, PyData.canLayAll0 (ns.map PyData.int) = true ∧ PyData.depthAll (ns.map PyData.int) = 0
  | [] => ⟨rfl, rfl⟩
  | n :: r => by
    obtain ⟨h1, h2⟩ := lay_ints r
    rw [List.map_cons]
    unfold PyData.canLayAll0 PyData.depthAll
    rw [h1, h2]
    exact ⟨rfl, rfl⟩
theorem shaped_l (ns : List Int) : SeqAt.shaped (.list (ns.map PyData.int)) = true := by
  unfold SeqAt.shaped PyData.canLay0 PyData.depth
  rw [(lay_ints ns).1, (lay_ints ns).2]
  rfl
theorem shaped_t (ns : List Int) : SeqAt.shaped (.tuple (ns.map PyData.int)) = true := by
  unfold SeqAt.shaped PyData.canLay0 PyData.depth
  rw [(lay_ints ns).1, (lay_ints ns).2]
  rfl
theorem eqv_nil (ns : List Int) : PyData.eqv (.list (ns.map PyData.int)) (.list []) = ns.isEmpty := by
  unfold PyData.eqv
  cases ns <;> rfl
theorem eqv_all : ∀ ns : List Int, PyData.eqvAll (ns.map PyData.int) (ns.map PyData.int) = true
  | [] => rfl
  | n :: r => by
    rw [List.map_cons]
    unfold PyData.eqvAll
    rw [eqv_all r]
    unfold PyData.eqv
    simp
theorem eqv_tup (ns : List Int) : PyData.eqv (.tuple (ns.map PyData.int)) (.tuple (ns.map PyData.int)) = true := by
  unfold PyData.eqv
  exact eqv_all ns
theorem pick_int (ls : List Int) (m : Nat) : ((List.range ls.length).filter fun d => m.testBit d).map (fun d => V.int (ls.getD d 0)) = (pick ls m).map V.int := by
  unfold pick days
  rw [List.map_map]
  rfl
theorem isEmpty_false {xs : List Int} (h : xs ≠ []) : xs.isEmpty = false := by
  cases xs with
  | nil => exact absurd rfl h
  | cons a r => rfl
section
variable {P : Program} {w : World} {K : PySem.W.Frag} {mg : Str → Option Value} {base : Heap} {c : Cl}
/-! _law_keeps -/
abbrev nKeeps : List Str := ["_law_layers_here", "_law_saying", "_law_low", "_law_high", "_law_lows", "_law_highs", "_law_day", "_law_layer"]
theorem scLKeeps : FnScope nKeeps ["_law_layers_here", "_law_saying"] (defScope sLKeeps) := ⟨rfl, rfl, rfl, by decide +kernel, rfl, by decide +kernel, by decide +kernel⟩
theorem ok_lkeeps {f : Addr} {fd : FuncData} (F : FnP K "_law_keeps" "_law_keeps" sLKeeps f fd) (T : Txt K mg c) (G : GFn P w K mg base CX0 1 "_law_sides" ["_law_saying"] spSides) : FnOk P w K mg base CX0 2 f fd ["_law_layers_here", "_law_saying"] spLKeeps := by
  obtain ⟨fg, fdg, Gg, gg, kg, bg⟩ := G
  refine F.ok scLKeeps (fun vs H Q E h => ?_) (fun cdv A outer s H vs Q E hr h => ?_)
  · obtain ⟨l, p, ls, y, rfl, _⟩ := h
    rfl
  · obtain ⟨l, p, ls, y, rfl, hl, h16, hp, k⟩ := h
    refine ⟨_, PSs.nox (pss_cons (ps_asg (pe_call Gg hr rfl gg kg bg .nil pass0 (pa_cons (pv 1) pa_nil)) (pg_tup rfl (pgs_cons (pg_name (i := 2) scLKeeps.nd rfl (.inr rfl)) (pgs_cons (pg_name (i := 3) scLKeeps.nd rfl (.inr rfl)) pgs_nil))))
      (pss_cons (ps_setLc (i := 4) (own := [("_law_day", 6), ("_law_layer", 7)]) (g := gTup K 2 (gCons (gName 6) (gCons (gName 7) gNil))) rfl scLKeeps.nd rfl rfl (sw_true rfl rfl rfl (by decide +kernel)) (pi_enum (by rfl) (T.fr "enumerate") (pa_cons (pv 0) pa_nil))
        (blkOk_by (N := nKeeps) (sc := defScope sLKeeps) (by decide +kernel)) (fun _ _ _ _ _ => by exact (pg_tup rfl (pgs_cons (pg_name (i := 6) scLKeeps.nd rfl (.inl rfl)) (pgs_cons (pg_name (i := 7) scLKeeps.nd rfl (.inl rfl)) pgs_nil))))
        (fun _ _ _ _ _ => pts_one (pt_cmpR op_eq (pe_op op_and (pe_op op_shr (pv 2) (pv 6)) pe_int) pe_int (nomark _))) (fun _ _ _ _ _ => pv 7))
      (pss_cons (ps_setLc (i := 5) (own := [("_law_day", 6), ("_law_layer", 7)]) (g := gTup K 2 (gCons (gName 6) (gCons (gName 7) gNil))) rfl scLKeeps.nd rfl rfl (sw_true rfl rfl rfl (by decide +kernel)) (pi_enum (by rfl) (T.fr "enumerate") (pa_cons (pv 0) pa_nil))
        (blkOk_by (N := nKeeps) (sc := defScope sLKeeps) (by decide +kernel)) (fun _ _ _ _ _ => by exact (pg_tup rfl (pgs_cons (pg_name (i := 6) scLKeeps.nd rfl (.inl rfl)) (pgs_cons (pg_name (i := 7) scLKeeps.nd rfl (.inl rfl)) pgs_nil))))
        (fun _ _ _ _ _ => pts_one (pt_cmpR op_eq (pe_op op_and (pe_op op_shr (pv 3) (pv 6)) pe_int) pe_int (nomark _))) (fun _ _ _ _ _ => pv 7))
      (pss_cons (ps_if (pt_cmpR (op_eqD hr.units) (pv 5) (pe_lst pa_nil) (nomark _)) (pss_one (ps_ret pe_bl)) pss_nil)
      (pss_one (ps_ret (pe_and (pe_cmpR (op_neD hr.units) (pv 4) (pe_lst pa_nil) (nomark _))
        (pe_one (pe_cmpR op_ge (pe_callB (cr_min rfl) (by rfl) (T.fr "min") (by decide +kernel) (pa_cons (pv 5) pa_nil))
          (pe_op op_add (pe_callB (cr_min rfl) (by rfl) (T.fr "min") (by decide +kernel) (pa_cons (pv 4) pa_nil)) (pe_ifExp (pt_val (pe_ix ix_tup (pv 1) pe_int (fun _ _ => rfl))) pe_int pe_int)) (nomark _)))))))))), ?_⟩
    refine ⟨_, rfl, p, y, rfl, hp, fun q hq => ?_⟩
    have s1 : Same H (upd H q (.tup [.int (lowN y.w y.t y.u : Nat), .int (highN y.w y.t y.u : Nat)])) := same_upd hq
    refine ⟨q, _, rfl, SqT.of upd_same, rfl, _, _, rfl, _, _, rfl, rfl, ?_⟩
    refine ⟨_, rfl, l, _, rfl, SqL.of (s1 _ _ hl), fun D hD => ?_⟩
    refine lc_enumF (fun d => (lowN y.w y.t y.u).testBit d) (fun d => V.int (ls.getD d 0)) (s1 _ _ hl) hD h16 (fun _ _ => rfl) ?_ ?_ ?_
    · intro i H2 Q' hi s2 q2
      refine ⟨_, rfl, _, rfl, _, _, rfl, rfl, Int.natCast_nonneg _, _, _, rfl, rfl, rfl, _, rfl, ?_⟩
      rw [bit_dec]
      exact q2
    · exact fun i H2 Q' hi _ s2 q2 => ⟨_, rfl, q2⟩
    intro H2 s2 hD2
    rw [pick_int] at hD2
    have s12 := s1.trans s2
    refine ⟨_, rfl, l, _, rfl, SqL.of (s12 _ _ hl), fun D' hD' => ?_⟩
    refine lc_enumF (fun d => (highN y.w y.t y.u).testBit d) (fun d => V.int (ls.getD d 0)) (s12 _ _ hl) hD' h16 (fun _ _ => rfl) ?_ ?_ ?_
    · intro i H2 Q' hi s2 q2
      refine ⟨_, rfl, _, rfl, _, _, rfl, rfl, Int.natCast_nonneg _, _, _, rfl, rfl, rfl, _, rfl, ?_⟩
      rw [bit_dec]
      exact q2
    · exact fun i H2 Q' hi _ s2 q2 => ⟨_, rfl, q2⟩
    intro H3 s3 hD3
    rw [pick_int] at hD3
    have s13 := s12.trans s3
    have hDa := s3 _ _ hD2
    refine ⟨_, rfl, Nat.zero_le _, fun e1 he1 => ?_⟩
    have s4 := s13.trans (same_upd (o := .lst []) he1)
    have hD4 : (upd H3 e1 (.lst [])) D' = some (.lst ((pick ls (highN y.w y.t y.u)).map V.int)) := by
      rw [upd_ne (ne_of_none hD3 he1)]
      exact hD3
    have hDb : (upd H3 e1 (.lst [])) D = some (.lst ((pick ls (lowN y.w y.t y.u)).map V.int)) := by
      rw [upd_ne (ne_of_none hDa he1)]
      exact hDa
    refine ⟨_, _, .lst (SqL.of hD4) (dp_ints _), .lst (SqL.of upd_same) .nil, shaped_l _, shaped_l [], _, rfl, ?_⟩
    rw [eqv_nil]
    by_cases hh : pick ls (highN y.w y.t y.u) = []
    · refine iteB (by rw [hh]; rfl) ?_
      have z := k _ s4
      rw [show y.keep ls = true from keeps_nil hh] at z
      exact z
    · refine iteC (isEmpty_false hh) ⟨_, rfl, Nat.zero_le _, fun e2 he2 => ?_⟩
      have s5 := s4.trans (same_upd (o := .lst []) he2)
      have hD5 : (upd (upd H3 e1 (.lst [])) e2 (.lst [])) D' = some (.lst ((pick ls (highN y.w y.t y.u)).map V.int)) := by
        rw [upd_ne (ne_of_none hD4 he2)]
        exact hD4
      have hDc : (upd (upd H3 e1 (.lst [])) e2 (.lst [])) D = some (.lst ((pick ls (lowN y.w y.t y.u)).map V.int)) := by
        rw [upd_ne (ne_of_none hDb he2)]
        exact hDb
      refine ⟨_, _, .lst (SqL.of hDc) (dp_ints _), .lst (SqL.of upd_same) .nil, shaped_l _, shaped_l [], _, rfl, ?_⟩
      rw [eqv_nil]
      by_cases hw : pick ls (lowN y.w y.t y.u) = []
      · refine iteC (by rw [hw]; rfl) ?_
        have z := k _ s5
        rw [show y.keep ls = false from keeps_low hh hw] at z
        exact z
      · refine iteB (by rw [isEmpty_false hw]; rfl) ?_
        refine ⟨_, rfl, D', _, rfl, SqL.of hD5, List.length_pos_iff.mpr hh, fun b hb1 hb2 => ?_⟩
        refine ⟨_, rfl, D, _, rfl, SqL.of hDc, List.length_pos_iff.mpr hw, fun a ha1 ha2 => ?_⟩
        have z := k _ s5
        rw [show y.keep ls = decide (a + stepI y.u ≤ b) from keeps_min ⟨hb1, hb2⟩ ⟨ha1, ha2⟩] at z
        refine ⟨_, rfl, p, _, _, _, rfl, rfl, SqT.of (s5 _ _ hp), at_of (j := 2) rfl rfl, _, rfl, ?_⟩
        cases hu : y.u with
        | true =>
          rw [hu] at z
          exact iteT ⟨_, _, rfl, rfl, _, _, rfl, rfl, z⟩
        | false =>
          rw [hu] at z
          exact iteF ⟨_, _, rfl, rfl, _, _, rfl, rfl, z⟩
end
end K14

namespace K14
open PySem PySem.Spec PyProof.Rows L2
theorem pss_imp {X : Cx} {ss : List Stmt} {t t' : TS} (h : PSs X ss t) (i : ∀ D σ H, t' D σ H → t D σ H) : PSs X ss t' := ⟨fun pins s σ H D I q => h.run pins s σ H D I (i D σ H q)⟩
theorem bag_ne {H : Hp} {b l : Addr} {ls : List Int} (hb : BagAt H b) (hl : IntsAt H l ls) (L : Lay ls) : l ≠ b :=
  hb.ne_lst hl fun x y z e => by
    have e2 : ls.map V.int = [.int x, .int y, .int z] := HO.lst.inj e
    have e3 : ls.length = 3 := by rw [← List.length_map (f := V.int), e2]; rfl
    have := L.len
    omega
theorem one_shl (d : Nat) : (1 : Int) * 2 ^ ((d : Nat) : Int).toNat = ((2 ^ d : Nat) : Int) := by
  rw [Int.toNat_natCast, Int.one_mul, Int.natCast_pow]
  rfl
/-- an unusual saying whose one normal day is out of then -/
theorem keeps_exc {ls : List Int} {w t d : Nat} {a : Int} (ha : IsMin (pick ls w) a) (h1 : d < ls.length) (h2 : w.testBit d = true) (h3 : ls.getD d 0 = a) (ht : t.testBit d = false) : keepsB ls w t false = true := by
  rw [keeps_iff]
  intro y hy
  obtain ⟨e, k1, k2, k3⟩ := mem_pick.mp hy
  rw [testBit_high] at k2
  have h4 : w.testBit e = true := by
    cases q : w.testBit e with
    | true => rfl
    | false => rw [q] at k2; cases k2
  refine ⟨a, mem_pick.mpr ⟨d, h1, by rw [testBit_low, h2, ht]; rfl, h3⟩, ?_⟩
  have := ha.2 y (mem_pick.mpr ⟨e, k1, h4, k3⟩)
  show a + 0 ≤ y
  omega
theorem mem_normal {ls : List Int} {w d : Nat} {a : Int} : d ∈ normalDays ls w a ↔ d < ls.length ∧ w.testBit d = true ∧ ls.getD d 0 = a := by
  unfold normalDays
  rw [List.mem_filter, List.mem_range, Bool.and_eq_true, decide_eq_true_eq]
theorem normal_ne {ls : List Int} {w : Nat} {a : Int} (ha : IsMin (pick ls w) a) : 0 < (normalDays ls w a).length := by
  obtain ⟨d, h1, h2, h3⟩ := mem_pick.mp ha.1
  exact List.length_pos_of_mem (mem_normal.mpr ⟨h1, h2, h3⟩)
theorem normal_le (ls : List Int) (w : Nat) (a : Int) : (normalDays ls w a).length ≤ ls.length := by
  have h := List.length_filter_le (fun d => w.testBit d && decide (ls.getD d 0 = a)) (List.range ls.length)
  rw [List.length_range] at h
  exact h
theorem powSum_pos {p : Nat → Bool} {n d : Nat} (h : d < n) (hp : p d = true) : 1 ≤ powSum ((List.range n).filter p) := by
  rcases Nat.eq_zero_or_pos (powSum ((List.range n).filter p)) with q | q
  · have z := powSum_testBit p n d
    rw [q, Nat.zero_testBit, hp, decide_eq_true h] at z
    cases z
  · exact q
section
variable {P : Program} {w : World} {K : PySem.W.Frag} {mg : Str → Option Value} {base : Heap} {c : Cl}
abbrev nToward : List Str := ["_law_bag_here", "_law_layers_here", "_law_every", "_law_where", "_law_base", "_law_lowest", "_law_normal", "_law_then", "_law_day", "_law_layer"]
theorem scToward : FnScope nToward ["_law_bag_here", "_law_layers_here"] (defScope sLToward) := ⟨rfl, rfl, rfl, by decide +kernel, rfl, by decide +kernel, by decide +kernel⟩
theorem ok_toward {f : Addr} {fd : FuncData} (F : FnP K "_law_toward" "_law_toward" sLToward f fd) (T : Txt K mg c) (G : GFn P w K mg base CX0 1 "_law_take" ["_law_bag_here", "_law_many"] spTake)
    (GO : GFn P w K mg base CX0 2 "_law_of" ["_law_bag_here", "_law_some"] (spOf K)) : FnOk P w K mg base CX0 3 f fd ["_law_bag_here", "_law_layers_here"] spToward := by
  obtain ⟨ft, fdt, Gt, gt, kt, bt⟩ := G
  obtain ⟨fo, fdo, Go, go, ko, bo⟩ := GO
  refine F.ok scToward (fun vs H Q E h => ?_) (fun cdv A outer s H vs Q E hr h => ?_)
  · obtain ⟨b, l, ls, rfl, _⟩ := h
    rfl
  · obtain ⟨b, l, ls, rfl, hb, hl, L, k⟩ := h
    have hr1 : Room 1 _ := hr.mono (by decide)
    have h16 := L.le
    have hnb := bag_ne hb hl L
    have l1 := two_pow_bd h16
    have l2 := two_pow_ge (show 1 ≤ ls.length by have := L.pos; omega)
    refine ⟨_, PSs.nox (pss_cons (ps_set (i := 2) scToward.nd rfl (.inl rfl) (pe_op op_shl pe_int (pe_callB call_len_seq (by rfl) (T.fr "len") PySem.boot_len (pa_cons (pv 1) pa_nil))))
      (pss_cons (ps_set (i := 3) scToward.nd rfl (.inr rfl) (pe_op op_add pe_int (pe_call Gt hr1 rfl gt kt bt .nil pass0 (pa_cons (pv 0) (pa_cons (pe_op op_sub (pv 2) pe_int) pa_nil)))))
      (pss_cons (ps_if (pt_cmpR op_eq (pe_call Gt hr1 rfl gt kt bt .nil pass0 (pa_cons (pv 0) (pa_cons pe_int pa_nil))) pe_int (nomark _))
        (pss_cons (ps_set (i := 4) scToward.nd rfl (.inr rfl) (pe_call Go hr rfl go ko bo .nil pass0 (pa_cons (pv 0) (pa_cons (pv 1) pa_nil))))
        (pss_one (ps_set (i := 3) scToward.nd rfl (.inr rfl) (pe_callB (cr_sum rfl) (by rfl) (T.fr "sum") (by decide +kernel) (pa_cons (pe_lc (own := [("_law_day", 8), ("_law_layer", 9)]) (g := gTup K 2 (gCons (gName 8) (gCons (gName 9) gNil))) rfl scToward.nd (pi_enum (by rfl) (T.fr "enumerate") (pa_cons (pv 1) pa_nil))
          (blkOk_by (N := nToward) (sc := defScope sLToward) (by decide +kernel)) (fun _ _ _ _ _ => by exact (pg_tup rfl (pgs_cons (pg_name (i := 8) scToward.nd rfl (.inl rfl)) (pgs_cons (pg_name (i := 9) scToward.nd rfl (.inl rfl)) pgs_nil))))
          (fun _ _ _ _ _ => pts_one (pt_cmpR op_ge (pv 9) (pv 4) (nomark _))) (fun _ _ _ _ _ => pe_op op_shl pe_int (pv 8))) pa_nil))))) pss_nil)
      (pss_imp (t' := fun D σ H' => ∃ (wn : Nat) (v4 : Option V), σ = [some (.ref b), some (.ref l), some (.int ((2 ^ ls.length : Nat) : Int)), some (.int (wn : Nat)), v4, none, none, none, none, none] ∧ 1 ≤ wn ∧ wn < 2 ^ ls.length ∧ But b H H' ∧ BagAt H' b ∧ D.rt = Q)
      (pss_cons (ps_set (i := 5) scToward.nd rfl (.inr rfl) (pe_callB (cr_min rfl) (by rfl) (T.fr "min") (by decide +kernel) (pa_cons (pe_lc (own := [("_law_day", 8), ("_law_layer", 9)]) (g := gTup K 2 (gCons (gName 8) (gCons (gName 9) gNil))) rfl scToward.nd (pi_enum (by rfl) (T.fr "enumerate") (pa_cons (pv 1) pa_nil))
          (blkOk_by (N := nToward) (sc := defScope sLToward) (by decide +kernel)) (fun _ _ _ _ _ => by exact (pg_tup rfl (pgs_cons (pg_name (i := 8) scToward.nd rfl (.inl rfl)) (pgs_cons (pg_name (i := 9) scToward.nd rfl (.inl rfl)) pgs_nil))))
          (fun _ _ _ _ _ => pts_one (pt_cmpR op_eq (pe_op op_and (pe_op op_shr (pv 3) (pv 8)) pe_int) pe_int (nomark _))) (fun _ _ _ _ _ => pv 9)) pa_nil)))
      (pss_cons (ps_setLc (i := 6) (own := [("_law_day", 8), ("_law_layer", 9)]) (g := gTup K 2 (gCons (gName 8) (gCons (gName 9) gNil))) rfl scToward.nd rfl rfl (sw_true rfl rfl rfl (by decide +kernel)) (pi_enum (by rfl) (T.fr "enumerate") (pa_cons (pv 1) pa_nil))
        (blkOk_by (N := nToward) (sc := defScope sLToward) (by decide +kernel)) (fun _ _ _ _ _ => by exact (pg_tup rfl (pgs_cons (pg_name (i := 8) scToward.nd rfl (.inl rfl)) (pgs_cons (pg_name (i := 9) scToward.nd rfl (.inl rfl)) pgs_nil))))
        (fun _ _ _ _ _ => pts_one (PW.pt (pw_and (pt_cmpR op_eq (pe_op op_and (pe_op op_shr (pv 3) (pv 8)) pe_int) pe_int (nomark _)) (pw_and1 (pt_cmpR op_eq (pv 9) (pv 5) (nomark _)))))) (fun _ _ _ _ _ => pv 8))
      (pss_cons (ps_set (i := 7) scToward.nd rfl (.inl rfl) (pe_op op_and (pe_call Gt hr1 rfl gt kt bt .nil pass0 (pa_cons (pv 0) (pa_cons (pv 2) pa_nil))) (pe_call Gt hr1 rfl gt kt bt .nil pass0 (pa_cons (pv 0) (pa_cons (pv 2) pa_nil)))))
      (pss_cons (ps_if (pt_cmpR op_gt (pe_call Gt hr1 rfl gt kt bt .nil pass0 (pa_cons (pv 0) (pa_cons pe_int pa_nil))) pe_int (nomark _))
        (pss_cons (ps_for PassesOwn.never rfl (pi_list (pv 6)) (pg_name (i := 8) scToward.nd rfl (.inl rfl)) (pss_one (ps_set (i := 7) scToward.nd rfl (.inl rfl) (pe_op op_or (pv 7) (pe_op op_shl pe_int (pv 8))))))
        (pss_one (ps_ret (pe_tup (pa_cons (pv 3) (pa_cons (pv 7) (pa_cons pe_bl pa_nil))))))) pss_nil)
      (pss_cons (ps_set (i := 7) scToward.nd rfl (.inl rfl) (pe_op op_or (pv 7) (pe_call Gt hr1 rfl gt kt bt .nil pass0 (pa_cons (pv 0) (pa_cons (pv 2) pa_nil)))))
      (pss_one (ps_ret (pe_tup (pa_cons (pv 3) (pa_cons (pe_op op_and (pv 7) (pe_un un_inv (pe_op op_shl pe_int (pe_call Go hr rfl go ko bo .nil pass0 (pa_cons (pv 0) (pa_cons (pv 6) pa_nil)))))) (pa_cons pe_bl pa_nil)))))))))))
      (fun D σ H' hh => ?_))))), ?_⟩
    · obtain ⟨wn, v4, rfl, hw1, hw2, s1, hb1, eQ⟩ := hh
      have hl1 := s1 _ _ hnb hl
      refine ⟨_, rfl, l, _, rfl, SqL.of hl1, fun d1 hd1 => ?_⟩
      have nd1 := hb1.ne_new hd1
      refine lc_enumF (fun d => wn.testBit d) (fun d => V.int (ls.getD d 0)) hl1 hd1 h16 (fun _ _ => rfl) ?_ ?_ ?_
      · intro i H2 Q' hi s2 q2
        refine ⟨_, rfl, _, rfl, _, _, rfl, rfl, Int.natCast_nonneg _, _, _, rfl, rfl, rfl, _, rfl, ?_⟩
        rw [bit_dec]
        exact q2
      · exact fun i H2 Q' hi _ s2 q2 => ⟨_, rfl, q2⟩
      intro H2 s2 hD2
      rw [pick_int] at hD2
      refine ⟨d1, _, rfl, SqL.of hD2, List.length_pos_iff.mpr (pick_where_ne hw1 hw2), fun a ha1 ha2 => ?_⟩
      have ha : IsMin (pick ls wn) a := ⟨ha1, ha2⟩
      have s12 : But b H H2 := s1.same s2
      have hb2 := hb1.same s2
      have hl2 := s2 _ _ hl1
      refine ⟨_, rfl, l, _, rfl, SqL.of hl2, fun N hN => ?_⟩
      refine lc_enumF (fun d => wn.testBit d && decide (ls.getD d 0 = a)) (fun d => V.int (d : Nat)) hl2 hN h16 (fun _ _ => rfl) ?_ ?_ ?_
      · intro i H3 Q' hi s3 q2
        refine ⟨_, rfl, _, rfl, _, _, rfl, rfl, Int.natCast_nonneg _, _, _, rfl, rfl, rfl, _, rfl, ?_⟩
        rw [bit_dec]
        cases hbit : wn.testBit i with
        | false =>
          refine iteF ?_
          rw [hbit] at q2
          exact q2
        | true =>
          refine iteT ⟨_, rfl, _, rfl, rfl, _, rfl, ?_⟩
          rw [hbit, Bool.true_and] at q2
          by_cases qa : ls.getD i 0 = a
          · rw [decide_eq_true qa] at q2
            rw [decide_eq_true (by rw [qa] : V.int (ls.getD i 0) = V.int a)]
            exact q2
          · rw [decide_eq_false qa] at q2
            rw [decide_eq_false (fun z => qa (by injection z) : ¬ V.int (ls.getD i 0) = V.int a)]
            exact q2
      · exact fun i H2 Q' hi _ s2 q2 => ⟨_, rfl, q2⟩
      intro H3 s3 hN3
      have hN3 : H3 N = some (.lst ((normalDays ls wn a).map fun d => V.int (d : Nat))) := hN3
      have s13 : But b H H3 := s12.same s3
      have hb3 := hb2.same s3
      have nN : N ≠ b := hb2.ne_new hN
      refine ⟨_, rfl, _, rfl, b, _, rfl, hb3, by omega, by omega, fun t1 H4 p1 q1 hb4 s4 => ?_⟩
      refine ⟨_, rfl, _, rfl, b, _, rfl, hb4, by omega, by omega, fun t2 H5 p2 q2 hb5 s5 => ?_⟩
      have hN5 := s5 _ _ nN (s4 _ _ nN hN3)
      have s15 := (s13.trans s4).trans s5
      obtain ⟨n1, rfl⟩ : ∃ j : Nat, t1 = (j : Int) := ⟨t1.toNat, by omega⟩
      obtain ⟨n2, rfl⟩ : ∃ j : Nat, t2 = (j : Int) := ⟨t2.toNat, by omega⟩
      refine ⟨_, _, rfl, rfl, ?_⟩
      dsimp only
      rw [bitAnd_nat]
      have ht : (n1 &&& n2) < 2 ^ ls.length := by
        have := and_le_left' n1 n2
        omega
      refine ⟨_, rfl, b, _, rfl, hb5, by decide, by decide, fun t3 H6 p3 q3 hb6 s6 => ⟨_, _, rfl, rfl, _, rfl, ite2 (fun _ => ?_) (fun _ => ?_)⟩⟩
      · have hN6 := s6 _ _ nN hN5
        have s16 := s15.trans s6
        refine ⟨_, rfl, N, rfl, ⟨_, SqL.of hN6⟩, for_list (K := K) (a := N) (xs := (normalDays ls wn a).map fun d => V.int (d : Nat)) (fun i σ H7 => (∃ (tn : Nat) (x : Option V), σ = [some (.ref b), some (.ref l), some (.int ((2 ^ ls.length : Nat) : Int)), some (.int (wn : Nat)), v4, some (.int a), some (.ref N), some (.int (tn : Nat)), x, none] ∧ tn < 2 ^ ls.length ∧ ∀ d, d ∈ (normalDays ls wn a).take i → tn.testBit d = true) ∧ H7 = H6)
          ⟨⟨n1 &&& n2, _, rfl, ht, fun d hd => by cases hd⟩, rfl⟩ (fun i σ H7 _ q => by rw [q.2]; exact SqL.of hN6) ?_ ?_⟩
        · rintro i y σ H7 hi ⟨⟨tn, x, rfl, htn, hbits⟩, rfl⟩
          obtain ⟨d, hd, rfl⟩ := nat_at hi
          have hdl := (mem_normal.mp (List.mem_of_getElem? hd)).1
          refine ⟨_, rfl, _, rfl, _, _, rfl, rfl, ⟨Int.natCast_nonneg _, by omega, by decide⟩, _, _, rfl, rfl, ?_⟩
          dsimp only
          rw [one_shl, bitOr_nat]
          refine ⟨⟨tn ||| 2 ^ d, _, rfl, Nat.or_lt_two_pow htn (Nat.pow_lt_pow_right (by decide) hdl), fun e he => ?_⟩, rfl⟩
          rw [Nat.testBit_or]
          rw [take_more hd] at he
          rcases List.mem_append.mp he with q | q
          · rw [hbits e q]
            rfl
          · rw [List.mem_singleton.mp q, Nat.testBit_two_pow_self]
            exact Bool.or_true _
        · rintro σ H7 ⟨⟨tn, x, rfl, htn, hbits⟩, rfl⟩
          rw [List.length_map, List.take_length] at hbits
          refine ⟨_, rfl, _, rfl, (by show 3 ≤ sizeLine; decide), fun p hp => ?_⟩
          show D.rt _ _
          rw [eQ]
          have np := hb6.ne_new hp
          refine k p ⟨wn, tn, true⟩ _ ⟨hw1, hw2, htn⟩ ((keeps_normal ha).mpr fun d e1 e2 e3 => hbits d (mem_normal.mpr ⟨e1, e2, e3⟩)) ?_ (s16.free hp np) (hb6.same (same_upd hp)) (s16.same (same_upd hp))
          exact upd_same
      · have hN6 := s6 _ _ nN hN5
        have s16 := s15.trans s6
        refine ⟨_, rfl, _, rfl, _, rfl, b, _, rfl, hb6, by omega, by omega, fun t4 H7 p4 q4 hb7 s7 => ⟨_, _, rfl, rfl, ?_⟩⟩
        have hN7 := s7 _ _ nN hN6
        have s17 := s16.trans s7
        obtain ⟨n4, rfl⟩ : ∃ j : Nat, t4 = (j : Int) := ⟨t4.toNat, by omega⟩
        dsimp only
        rw [bitOr_nat]
        have ht4 : ((n1 &&& n2) ||| n4) < 2 ^ ls.length := Nat.or_lt_two_pow ht (by omega)
        refine ⟨_, rfl, _, rfl, _, rfl, _, rfl, b, N, _, rfl, hb7, nN, SqL.of hN7, by rw [List.length_map]; exact normal_ne ha, by rw [List.length_map]; have := normal_le ls wn a; omega, fun j v H8 hj hb8 s8 => ?_⟩
        obtain ⟨d, hd, rfl⟩ := nat_at hj
        obtain ⟨e1, e2, e3⟩ := mem_normal.mp (List.mem_of_getElem? hd)
        have s18 := s17.trans s8
        refine ⟨_, _, rfl, rfl, ⟨Int.natCast_nonneg _, by omega, by decide⟩, _, rfl, _, _, rfl, rfl, (by show 3 ≤ sizeLine; decide), fun p hp => ?_⟩
        show D.rt _ _
        rw [eQ]
        have np := hb8.ne_new hp
        refine k p ⟨wn, diff ((n1 &&& n2) ||| n4) (2 ^ d), false⟩ _ ⟨hw1, hw2, Nat.lt_of_le_of_lt (diff_le _ _) ht4⟩ (keeps_exc ha e1 e2 e3 (by rw [testBit_diff, Nat.testBit_two_pow_self]; exact Bool.and_false _)) ?_ (s18.free hp np) (hb8.same (same_upd hp)) (s18.same (same_upd hp))
        show upd H8 p _ p = _
        rw [upd_same, one_shl]
        dsimp only
        rw [bitAndNot_nat]
    · refine ⟨_, rfl, l, _, rfl, .inl (SqL.of hl), _, _, rfl, rfl, ⟨Int.natCast_nonneg _, by rw [List.length_map]; omega, by decide⟩, ?_⟩
      dsimp only
      rw [List.length_map, one_shl]
      refine ⟨_, rfl, _, rfl, _, _, rfl, rfl, b, _, rfl, hb, by omega, by omega, fun d1 H1 p1 q1 hb1 s1 => ⟨_, _, rfl, rfl, ?_⟩⟩
      obtain ⟨n1, rfl⟩ : ∃ j : Nat, d1 = (j : Int) := ⟨d1.toNat, by omega⟩
      dsimp only
      have ew : (1 : Int) + ((n1 : Nat) : Int) = ((1 + n1 : Nat) : Int) := by omega
      rw [ew]
      refine ⟨_, rfl, b, _, rfl, hb1, by decide, by decide, fun d2 H2 p2 q2 hb2 s2 => ⟨rfl, _, rfl, ite2 (fun _ => ?_) (fun _ => ?_)⟩⟩
      · have hl2 := s2 _ _ hnb (s1 _ _ hnb hl)
        refine ⟨_, rfl, _, rfl, b, l, _, rfl, hb2, hnb, SqL.of hl2, by rw [List.length_map]; have := L.pos; omega, by rw [List.length_map]; omega, fun j v H3 hj hb3 s3 => ?_⟩
        obtain ⟨z, hz, rfl⟩ := int_at hj
        have hl3 := s3 _ _ hnb hl2
        have s13 := (s1.trans s2).trans s3
        refine ⟨_, rfl, l, _, rfl, SqL.of hl3, fun D hD => ?_⟩
        refine lc_enumF (fun d => decide (z ≤ ls.getD d 0)) (fun d => V.int ((2 ^ d : Nat) : Int)) hl3 hD h16 (fun _ _ => rfl) ?_ ?_ ?_
        · intro i H4 Q' hi s4 q4
          exact ⟨_, rfl, _, rfl, _, _, rfl, rfl, _, rfl, q4⟩
        · intro i H4 Q' hi _ s4 q4
          refine ⟨_, rfl, _, _, rfl, rfl, ⟨Int.natCast_nonneg _, by omega, by decide⟩, ?_⟩
          dsimp only
          rw [one_shl]
          exact q4
        intro H4 s4 hD4
        have e4 : ((List.range ls.length).filter fun d => decide (z ≤ ls.getD d 0)).map (fun d => V.int ((2 ^ d : Nat) : Int)) = (((List.range ls.length).filter fun d => decide (z ≤ ls.getD d 0)).map fun d => ((2 ^ d : Nat) : Int)).map V.int := by rw [List.map_map]; rfl
        rw [e4] at hD4
        refine ⟨D, _, rfl, SqL.of hD4, ?_⟩
        rw [sum_pow]
        have hj3 : j < ls.length := (List.getElem?_eq_some_iff.mp hz).1
        have hz3 : ls.getD j 0 = z := by rw [List.getD_eq_getElem?_getD, hz]; rfl
        exact ⟨_, _, rfl, powSum_pos hj3 (decide_eq_true (by rw [hz3]; exact Int.le_refl _)), powSum_lt _ _, s13.same s4, hb3.same s4, rfl⟩
      · exact ⟨1 + n1, _, rfl, by omega, by omega, s1.trans s2, hb2, rfl⟩
end
end K14

namespace K14
open PySem PySem.Spec PyProof.Rows L2
theorem ref_at2 {as : List Addr} {i : Nat} {y : V} (h : (as.map V.ref)[i]? = some y) : ∃ z, as[i]? = some z ∧ y = .ref z := by
  rw [List.getElem?_map] at h
  cases e : as[i]? with
  | none =>
    rw [e] at h
    cases h
  | some z =>
    rw [e] at h
    exact ⟨z, rfl, (Option.some.inj h).symm⟩
theorem All2.at {Pr : Addr → Sy → Prop} {as : List Addr} {ss : List Sy} (h : All2 Pr as ss) {i : Nat} {a : Addr} (e : as[i]? = some a) : ∃ s, ss[i]? = some s ∧ Pr a s := by
  have hi : i < as.length := (List.getElem?_eq_some_iff.mp e).1
  have hj : i < ss.length := by rw [← h.1]; exact hi
  exact ⟨ss[i], List.getElem?_eq_getElem hj, h.2 i a _ e (List.getElem?_eq_getElem hj)⟩
section
variable {X : Cx}
theorem mt_tindex : MtR X "tuple.index" (fun x xs H Q => ∃ (p : Addr) (ns : List Int) (k : Int), x = .ref p ∧ xs = [.int k] ∧ SqT X.K H p (ns.map V.int) ∧ k ∈ ns ∧ Q (.int (ns.idxOf k : Nat)) H) := by
  intro pins s σ H x xs v us Q I rx rs h
  obtain ⟨p, ns, k, rfl, rfl, hq, hk, q⟩ := h
  cases rx
  obtain ⟨u, rfl, t, rfl⟩ := vals1 rs
  obtain ⟨its, r, pl, hz⟩ := I.tuple hq
  exact PySem.SeqAt.tuple_index_ints pl (Vals.ints (by simpa using r)) hk ⟨.int _, H, I.tok _, ⟨_, rfl⟩, q⟩
/-- (a, ..).index(e), all ints: the tuple is made where it is asked -/
def tTupIx (t ta : TA) : TE := fun σ H Q => t σ H fun xs H1 => xs.length ≤ sizeLine ∧ ∀ p, H1 p = none → ta σ (upd H1 p (.tup xs)) fun ys H2 => ∃ (ns : List Int) (k : Int), xs = ns.map V.int ∧ ys = [.int k] ∧ H2 p = some (.tup xs) ∧ k ∈ ns ∧ Q (.int (ns.idxOf k : Nat)) H2
theorem pe_tupIx {es : List Expr} {e : Expr} {x1 : Nat} {pos apos cpos : Pos} {t ta : TA} (hd : PA X es t) (ha : PA X [e] ta)
    (hbase : attributeBase (.Tuple es x1 pos) "index" X.env (eval (.Tuple es x1 pos) X.env) = eval (.Tuple es x1 pos) X.env := by rfl)
    (hfew : ((backTo cpos (starEach [e] X.env)).all (fun x => !x.1) && (backToKw cpos (keywordEach [] X.env)).all (fun x => x.1.isSome)
      && decide (([e] : List Expr).length + ([] : List Keyword).length + (if ([] : List Keyword).isEmpty then 0 else 1) < 30)) = true := by rfl)
    (hline : (apos.endLine == cpos.line) = true := by rfl) (hs : starEach [e] X.env = (false, eval e X.env) :: starEach [] X.env := by rfl) (hplain : (backTo cpos (starEach [] X.env)).any (·.1) = false := by rfl) :
    PE X (.Call (.Attribute (.Tuple es x1 pos) "index" apos) [e] [] cpos) (tTupIx t ta) := by
  refine ⟨fun pins s σ H Q I h => ?_⟩
  refine wpAny_Call_method_late hbase hfew hline rfl (wpAny_Tuple_spliced (thn (hd.run pos pins s σ H _ I h) fun us s1 ⟨xs, H1, I1, r, z, q⟩ => ⟨by rw [← r.length]; exact z, ?_⟩))
  have hf : H1 s1.heap.objs.size = none := I1.hok.fresh (Nat.le_refl _)
  have I2 := I1.laid (t' := s1.toks) (a := s1.heap.objs.size) (o := .tup xs) (h' := s1.heap.push { cls := .type "tuple", data := .seq us.toArray 0 }) (fun b u e => Heap.get?_push_of_some _ e) (Nat.le_refl _) (show ObjOk X.prog X.w _ _ _ (.tup xs) from ⟨z, us, r, ⟨_, Heap.get?_push_size _ rfl, rfl, _, rfl⟩⟩)
  refine ⟨"tuple", "tuple.index", PySem.F.plainAttrs_tuple, PySem.F.slot_tuple_index, PySem.F.type_tuple_index, ⟨_, Heap.get?_push_size _ rfl, rfl⟩, fun a e => by cases e; exact ⟨_, Heap.get?_push_size _ rfl, rfl⟩, ?_⟩
  have hA := ha.run cpos pins _ σ _ _ I2 (q _ hf)
  rw [hs] at hA ⊢
  refine Calls.callWith_builtin (by show (false || (backTo cpos (starEach [] X.env)).any (·.1)) = false; rw [hplain] <;> rfl) (Calls.evalArgs_plain ?_)
  refine thn hA fun us' s2 ⟨ys, H2, I3, r2, ns, k, ex, ey, hp, hk, q2⟩ => ?_
  subst ex ey
  exact mt_tindex pins s2 σ H2 (.ref s1.heap.objs.size) _ _ _ Q I3 rfl r2 ⟨_, ns, k, rfl, rfl, SqT.of hp, hk, q2⟩
end
section
variable {P : Program} {w : World} {K : PySem.W.Frag} {mg : Str → Option Value} {base : Heap} {c : Cl}
/-! _law_marks -/
theorem scLMarks : FnScope ["_law_days"] ["_law_days"] (defScope sLMarks) := ⟨rfl, rfl, rfl, by decide +kernel, rfl, by decide +kernel, by decide +kernel⟩
theorem ok_lmarks {f : Addr} {fd : FuncData} (F : FnP K "_law_marks" "_law_marks" sLMarks f fd) (T : Txt K mg c) (G : CFn P w K mg base CX0 2 "Marks" c.M ["self", "names"] (spMarksI c)) : FnOk P w K mg base CX0 4 f fd ["_law_days"] (spLMarks c) := by
  obtain ⟨fg, fdg, Gg, Mg, gg, bg⟩ := G
  refine F.ok scLMarks (fun vs H Q E h => ?_) (fun cdv A outer s H vs Q E hr h => ?_)
  · obtain ⟨n, rfl, _⟩ := h
    rfl
  · obtain ⟨n, rfl, hn, k⟩ := h
    refine ⟨_, PSs.nox (pss_one (ps_ret (pe_make Mg Gg hr (by rfl) gg bg .nil pass0 (pa_cons (pe_slice sl_list (pe_lst (pa_cons pe_str (pa_cons pe_str (pa_cons pe_str (pa_cons pe_str pa_nil)))))
      po_none (po_some (pe_op op_add (pe_tupIx (pa_cons pe_int (pa_cons pe_int (pa_cons pe_int (pa_cons pe_int pa_nil)))) (pa_cons (pv 0) pa_nil)) pe_int))) pa_nil)))), ?_⟩
    refine ⟨(by show 4 ≤ sizeLine; decide), fun l0 hl0 => ?_⟩
    refine ⟨(by show 4 ≤ sizeLine; decide), fun t0 ht0 => ?_⟩
    have hs1 := same_upd (o := .lst (abcd.map V.str)) hl0
    have s2 := hs1.trans (same_upd (o := .tup [.int 2, .int 4, .int 8, .int 16]) ht0)
    have nt : l0 ≠ t0 := ne_of_none upd_same ht0
    obtain ⟨kn, hk1, hk4, hk2, hki, hmem⟩ : ∃ kn : Nat, 1 ≤ kn ∧ kn ≤ 4 ∧ n = 2 ^ kn ∧ ([2, 4, 8, 16] : List Int).idxOf (n : Int) + 1 = kn ∧ (n : Int) ∈ ([2, 4, 8, 16] : List Int) := by
      rcases hn with rfl | rfl | rfl | rfl
      · exact ⟨1, by decide, by decide, by decide, by decide, by decide⟩
      · exact ⟨2, by decide, by decide, by decide, by decide, by decide⟩
      · exact ⟨3, by decide, by decide, by decide, by decide, by decide⟩
      · exact ⟨4, by decide, by decide, by decide, by decide, by decide⟩
    refine ⟨_, rfl, [2, 4, 8, 16], n, rfl, rfl, upd_same, hmem, _, _, rfl, rfl, _, rfl, ?_⟩
    refine ⟨l0, abcd.map V.str, rfl, SqL.of (by rw [upd_ne nt]; exact upd_same), fun l1 hl1 => ?_⟩
    have s3 := s2.trans (same_upd (o := .lst (cutV (abcd.map V.str) none (some (([2, 4, 8, 16] : List Int).idxOf (n : Int) + 1 : Int)))) hl1)
    intro x dx nx nd hne
    have ec : cutV (abcd.map V.str) none (some ((([2, 4, 8, 16] : List Int).idxOf (n : Int) : Nat) + 1 : Int)) = (abcd.take kn).map V.str := by
      rw [show ((([2, 4, 8, 16] : List Int).idxOf (n : Int) : Nat) + 1 : Int) = ((kn : Nat) : Int) by omega]
      unfold cutV
      rw [HT.sIx_nat, HT.sIx_none, List.drop_zero, Nat.sub_zero, Nat.min_eq_left (by rw [List.length_map]; exact hk4), List.map_take]
    have nl1x : l1 ≠ x := ne_of_none upd_same nx
    have nl1d : l1 ≠ dx := ne_of_none upd_same nd
    refine ⟨x, dx, l1, kn, rfl, upd_same, ?_, hk1, hk4, fun H' hM hB => ⟨rfl, k x H' (by rw [hk2]; exact hM) (s3.trans (same_make nx nd hB))⟩⟩
    rw [upd_ne nl1x, upd_ne nl1d, ← ec]
    exact upd_same
end
end K14

namespace K14
open PySem PySem.Spec PyProof.Rows L2
section
variable {P : Program} {w : World} {K : PySem.W.Frag} {mg : Str → Option Value} {base : Heap} {c : Cl}
/-! _law_said -/
abbrev nSaid : List Str := ["_law_sayings", "_law_where", "_law_then", "_law_usual"]
theorem scSaid : FnScope nSaid ["_law_sayings"] (defScope sLSaid) := ⟨rfl, rfl, rfl, by decide +kernel, rfl, by decide +kernel, by decide +kernel⟩
theorem ok_said {f : Addr} {fd : FuncData} (F : FnP K "_law_said" "_law_said" sLSaid f fd) (T : Txt K mg c) (G : CFn P w K mg base CX0 2 "Saying" c.S ["self", "where", "then", "usual"] (spSayI c)) : FnOk P w K mg base CX0 4 f fd ["_law_sayings"] (spSaid c) := by
  obtain ⟨fg, fdg, Gg, Mg, gg, bg⟩ := G
  refine F.ok scSaid (fun vs H Q E h => ?_) (fun cdv A outer s H vs Q E hr h => ?_)
  · obtain ⟨l, as, ss, rfl, _⟩ := h
    rfl
  · obtain ⟨l, as, ss, rfl, hl, hA, h100, hok, k⟩ := h
    refine ⟨_, PSs.nox (pss_one (ps_ret (pe_lc (own := [("_law_where", 1), ("_law_then", 2), ("_law_usual", 3)]) (g := gTup K 3 (gCons (gName 1) (gCons (gName 2) (gCons (gName 3) gNil)))) (tt := tYes) rfl scSaid.nd (pi_list (pv 0))
        (blkOk_by (N := nSaid) (sc := defScope sLSaid) (by decide +kernel)) (fun _ _ _ _ _ => by exact (pg_tup rfl (pgs_cons (pg_name (i := 1) scSaid.nd rfl (.inl rfl)) (pgs_cons (pg_name (i := 2) scSaid.nd rfl (.inl rfl)) (pgs_cons (pg_name (i := 3) scSaid.nd rfl (.inl rfl)) pgs_nil))))) (fun _ _ _ _ _ => pts_nil)
        (fun _ _ _ _ _ => pe_make Mg Gg hr (by rfl) gg bg .nil pass0 (pa_cons (pv 1) (pa_cons (pv 2) (pa_cons (pv 3) pa_nil))))))), ?_⟩
    refine ⟨_, rfl, l, rfl, ⟨_, SqL.of hl⟩, fun D hD => ?_⟩
    refine lc_list (K := K) (a := l) (xs := as.map V.ref) (fun i H2 => Same H H2 ∧ ∃ bs, H2 D = some (.lst (bs.map V.ref)) ∧ All2 (SayAt c H2) bs (ss.take i)) ⟨same_upd hD, [], upd_same, .nil⟩ (fun i H2 _ q => SqL.of (q.1 _ _ hl)) ?_ ?_
    · rintro i y H2 hy ⟨s2, bs, hD2, hB⟩
      obtain ⟨a, ha, rfl⟩ := ref_at2 hy
      obtain ⟨sy, hs, hT⟩ := hA.at ha
      have hT2 := hT.same s2
      have hi : i < ss.length := (List.getElem?_eq_some_iff.mp hs).1
      refine ⟨a, _, rfl, SqT.of hT2, rfl, _, _, rfl, _, _, rfl, _, _, rfl, rfl, rfl, _, rfl, _, rfl, _, rfl, fun x dx nx nd hne => ?_⟩
      refine ⟨x, dx, sy, rfl, hok sy (List.mem_of_getElem? hs), upd_same, fun H' hS hBut => ⟨rfl, ?_⟩⟩
      have s3 := same_make nx nd hBut
      refine ⟨_, s3 _ _ hD2, ?_, ?_, bs ++ [x], by rw [upd_same, List.map_append]; rfl, ?_⟩
      · rw [List.length_map, hB.1, List.length_take]
        exact small1000 (by omega)
      · exact fun b o e => by
          rw [upd_ne (ne_of_none e hD)]
          exact s3 _ _ (s2 _ _ e)
      · rw [take_more hs]
        have hkeep : ∀ z q, SayAt c H' z q → SayAt c (upd H' D (.lst (bs.map V.ref ++ [V.ref x]))) z q := fun z q ⟨dz, hz⟩ => ⟨dz, by
          rw [upd_ne (ne_of hz (s3 _ _ hD2) fun q => nomatch q)]
          exact hz⟩
        exact (All2.imp hB fun z q h => hkeep z q (h.same s3)).snoc (hkeep _ _ hS)
    · rintro H2 ⟨s2, bs, hD2, hB⟩
      rw [List.length_map, hA.1, List.take_length] at hB
      exact k D bs H2 hD2 hD hB s2
/-! _law_first -/
abbrev nFirst : List Str := ["_law_layers_here", "_law_sayings", "_law_number", "_law_saying"]
theorem scFirst : FnScope nFirst ["_law_layers_here", "_law_sayings"] (defScope sLFirst) := ⟨rfl, rfl, rfl, by decide +kernel, rfl, by decide +kernel, by decide +kernel⟩
theorem ok_first {f : Addr} {fd : FuncData} (F : FnP K "_law_first" "_law_first" sLFirst f fd) (T : Txt K mg c) (G : GFn P w K mg base CX0 2 "_law_keeps" ["_law_layers_here", "_law_saying"] spLKeeps) :
    FnOk P w K mg base CX0 3 f fd ["_law_layers_here", "_law_sayings"] spFirst := by
  obtain ⟨fg, fdg, Gg, gg, kg, bg⟩ := G
  refine F.ok scFirst (fun vs H Q E h => ?_) (fun cdv A outer s H vs Q E hr h => ?_)
  · obtain ⟨l, p, ls, as, ss, rfl, _⟩ := h
    rfl
  · obtain ⟨l, p, ls, as, ss, rfl, hl, h16, hp, hA, h100, k⟩ := h
    refine ⟨_, PSs.nox (pss_cons (ps_for PassesOwn.never rfl (pi_enum (by rfl) (T.fr "enumerate") (pa_cons (pv 1) pa_nil)) (pg_tup rfl (pgs_cons (pg_name (i := 2) scFirst.nd rfl (.inl rfl)) (pgs_cons (pg_name (i := 3) scFirst.nd rfl (.inl rfl)) pgs_nil)))
        (pss_one (ps_if (pt_not (pt_val (pe_call Gg hr rfl gg kg bg .nil pass0 (pa_cons (pv 0) (pa_cons (pv 3) pa_nil))))) (pss_one (ps_ret (pv 2))) pss_nil)))
      (pss_one (ps_ret pe_non))), ?_⟩
    refine ⟨_, rfl, p, _, rfl, SqL.of hp, ?_⟩
    refine for_it walk_enum (fun i σ H1 => (∃ x y, σ = [some (.ref l), some (.ref p), x, y]) ∧ Same H H1 ∧ ∀ (j : Nat) s, j < i → ss[j]? = some s → s.keep ls = true) ⟨⟨_, _, rfl⟩, Same.refl H, fun j s hj => absurd hj (Nat.not_lt_zero j)⟩ (fun i σ H1 _ q => SqL.of (q.2.1 _ _ hp)) ?_ ?_
    · rintro i x σ H1 H1' hi ⟨⟨x0, y0, rfl⟩, s1, hk⟩ ⟨T0, x1, x2, rfl, nT, rfl, e1, e2⟩
      have e1' : x1 = .int (i : Nat) := (Option.some.inj e1).symm
      subst e1'
      obtain ⟨a, ha, rfl⟩ := ref_at2 e2
      obtain ⟨sy, hs, hT⟩ := hA.at ha
      have s2 := s1.trans (same_upd (o := .tup [.int (i : Nat), .ref a]) nT)
      refine ⟨T0, _, rfl, SqT.of upd_same, rfl, _, _, rfl, _, _, rfl, rfl, ?_⟩
      refine ⟨_, rfl, _, rfl, l, a, ls, sy, rfl, s2 _ _ hl, h16, hT.same s2, fun H' s' => ⟨_, rfl, ?_⟩⟩
      have s3 := s2.trans s'
      cases hb : sy.keep ls with
      | true =>
        refine iteF ⟨⟨_, _, rfl⟩, s3, fun j r hj e => ?_⟩
        rcases Nat.lt_succ_iff_lt_or_eq.mp hj with q | q
        · exact hk j r q e
        · rw [q, hs] at e
          have e := Option.some.inj e
          rw [← e]
          exact hb
      | false =>
        refine iteT ⟨_, rfl, ?_⟩
        have z := k H' s3
        unfold firstV at z
        rw [firstIx_some hs hb hk] at z
        exact z
    · rintro σ H1 ⟨⟨x0, y0, rfl⟩, s1, hk⟩
      have z := k H1 s1
      unfold firstV at z
      rw [firstIx_none fun s hs => by
        obtain ⟨j, hj, e⟩ := List.mem_iff_getElem.mp hs
        exact hk j s (by rw [List.length_map, hA.1]; exact hj) (by rw [List.getElem?_eq_getElem hj, e])] at z
      exact z
end
end K14

namespace K14
open PySem PySem.Spec PyProof.Rows L2
theorem Drawn.fits {n : Nat} {s : Sy} (h : Drawn n s) : s.fits n := Nat.or_lt_two_pow h.w h.t
theorem Drawn.ok {n : Nat} {s : Sy} (h : Drawn n s) (hn : n ≤ 16) : s.ok := by
  have := two_pow_bd hn
  have h1 := h.pos
  have h2 := h.w
  have h3 := h.t
  exact ⟨h1, by omega, by omega⟩
theorem Drawn.contrary {ls : List Int} {s : Sy} (h : Drawn ls.length s) : s.not.keep ls = !s.keep ls := keeps_contrary (ls := ls) (w := s.w) (t := s.t) (u := s.u) h.pos h.w
theorem first_kind (ls : List Int) (ss : List Sy) : firstV ls ss = .non ∨ ∃ i : Int, firstV ls ss = .int i := by
  unfold firstV
  cases firstIx ls ss with
  | none => exact .inl rfl
  | some i => exact .inr ⟨_, rfl⟩
theorem first_none (ls : List Int) (ss : List Sy) : decide (firstV ls ss = V.non) = (firstIx ls ss).isNone := by
  unfold firstV
  cases firstIx ls ss with
  | none => rfl
  | some i => exact decide_eq_false fun q => nomatch q
theorem first_scal (ls : List Int) (ss : List Sy) : scal (firstV ls ss) (firstV ls ss) = true := by
  rcases first_kind ls ss with q | ⟨i, q⟩ <;> rw [q] <;> rfl
theorem first_ty (K : PySem.W.Frag) (H : Hp) (ls : List Int) (ss : List Sy) : ∃ t, TyX K H (firstV ls ss) t ∧ PySem.W.kitOne K t (.type "bool") = some false := by
  rcases first_kind ls ss with q | ⟨i, q⟩
  · rw [q]
    exact ⟨_, .base .non, kit_ty (by decide +kernel)⟩
  · rw [q]
    exact ⟨_, .base (.int i), kit_ty (by decide +kernel)⟩
theorem dec_vi {i j : Int} : decide (V.int i = V.int j) = decide (i = j) := by
  by_cases q : i = j
  · rw [q, decide_eq_true rfl, decide_eq_true rfl]
  · rw [decide_eq_false q, decide_eq_false fun z => q (by injection z)]
theorem dec_vb {i j : Bool} : decide (V.bl i = V.bl j) = decide (i = j) := by
  cases i <;> cases j <;> rfl
/-- the instances of the class at C are called by g -/
def OFn (P : Program) (w : World) (K : PySem.W.Frag) (mg : Str → Option Value) (base : Heap) (CX : CXT) (k : Nat) (C : Addr) (ps : List Str) (sp : Sp) : Prop :=
  ∃ g fd, FnOk P w K mg base CX k g fd ps sp ∧ StX.CallO K C g ∧ Binds K fd ps []
theorem fnR_of {P : Program} {w : World} {K : PySem.W.Frag} {mg : Str → Option Value} {base : Heap} {CX : CXT} {k : Nat} {g : Addr} {fd : FuncData} {ps : List Str} {sp : Sp} (F : FnOk P w K mg base CX k g fd ps sp) (hb : Binds K fd ps []) : FnR P w K mg base CX k g sp :=
  (F.raw hb .nil).imp fun vs H Q E h => by rw [List.append_nil]; exact h
section
variable {P : Program} {w : World} {K : PySem.W.Frag} {mg : Str → Option Value} {base : Heap} {c : Cl}
abbrev nAnswers : List Str := ["_law_order", "_law_layers_here", "_law_sayings", "_law_said_here", "_law_due", "_law_things", "_law_told", "_law_saying", "_law_thing", "_law_kept", "_law_where", "_law_then", "_law_usual"]
theorem scAnswers : FnScope nAnswers ["_law_order", "_law_layers_here", "_law_sayings"] (defScope sLAnswers) := ⟨rfl, rfl, rfl, by decide +kernel, rfl, by decide +kernel, by decide +kernel⟩
theorem ok_answers {f : Addr} {fd : FuncData} (F : FnP K "_law_answers" "_law_answers" sLAnswers f fd) (T : Txt K mg c)
    (GS : GFn P w K mg base CX0 4 "_law_said" ["_law_sayings"] (spSaid c)) (GF : GFn P w K mg base CX0 3 "_law_first" ["_law_layers_here", "_law_sayings"] spFirst)
    (GB : CFn P w K mg base CX0 2 "Book" c.B ["self", "marks", "sayings"] (spBookI c)) (GM : GFn P w K mg base CX0 4 "_law_marks" ["_law_days"] (spLMarks c))
    (GC : OFn P w K mg base (L2.CX P w) 7 c.O ["self", "sayings"] (spFnk c)) (GA : MFn P w K mg base (L2.CX P w) 7 c.O "keeps_all" ["self", "sayings"] (spAll c)) (GK : MFn P w K mg base (L2.CX P w) 5 c.O "keeps" ["self", "saying"] (spKeeps c))
    (GN : MFn P w K mg base CX0 5 c.O "normal" ["self", "days"] (spNormal c)) (GX : MFn P w K mg base CX0 4 c.S "contrary" ["self"] (spContrary c)) (GL : GFn P w K mg base CX0 2 "_law_keeps" ["_law_layers_here", "_law_saying"] spLKeeps)
    (GG : GFn P w K mg base CX0 1 "_law_flag" ["_law_thing", "_law_due"] spFlag) : FnOk P w K mg base CX0 8 f fd ["_law_order", "_law_layers_here", "_law_sayings"] (spAnswers c) := by
  obtain ⟨f1, d1, G1, g1, k1, b1⟩ := GS
  obtain ⟨f2, d2, G2, g2, k2, b2⟩ := GF
  obtain ⟨f3, d3, G3, m3, g3, b3⟩ := GB
  obtain ⟨f4, d4, G4, g4, k4, b4⟩ := GM
  obtain ⟨f5, d5, G5, c5, b5⟩ := GC
  obtain ⟨f6, d6, G6, m6, b6⟩ := GA
  obtain ⟨f7, d7, G7, m7, b7⟩ := GK
  obtain ⟨f8, d8, G8, m8, b8⟩ := GN
  obtain ⟨f9, d9, G9, m9, b9⟩ := GX
  obtain ⟨f10, d10, G10, g10, k10, b10⟩ := GL
  obtain ⟨f11, d11, G11, g11, k11, b11⟩ := GG
  refine F.ok scAnswers (fun vs H Q E h => ?_) (fun cdv A outer s H vs Q E hr h => ?_)
  · obtain ⟨o, l, p, ls, as, ss, rfl, _⟩ := h
    rfl
  · obtain ⟨o, l, p, ls, as, ss, rfl, hO, L, hl, hp, hA, h8, hd, k⟩ := h
    have r1 : Room 1 _ := hr.mono (by decide)
    have r2 : Room 2 _ := hr.mono (by decide)
    have r3 : Room 3 _ := hr.mono (by decide)
    have r4 : Room 4 _ := hr.mono (by decide)
    have r5 : Room 5 _ := hr.mono (by decide)
    have h16 := L.le
    have hf : ∀ s, s ∈ ss → s.fits ls.length := fun s hs => (hd s hs).fits
    have hok : ∀ s, s ∈ ss → s.ok := fun s hs => (hd s hs).ok h16
    obtain ⟨dxo, to, ho, hto⟩ := id hO
    refine ⟨_, PSs.nox (pss_cons (ps_par (i := 3) (j := 4) (by rfl) scAnswers.nd rfl rfl (by decide) rfl rfl (pa_cons (pe_call G1 r4 rfl g1 k1 b1 .nil pass0 (pa_cons (pv 2) pa_nil)) (pa_cons (pe_call G2 r3 rfl g2 k2 b2 .nil pass0 (pa_cons (pv 1) (pa_cons (pv 2) pa_nil))) pa_nil)) (by rfl))
      (pss_cons (ps_for PassesOwn.never rfl (pi_tup (pe_tup (pa_cons (pv 3) (pa_cons (pe_callTy call_tuple_of (by rfl) (T.fr "tuple") (by decide +kernel) (pa_cons (pv 3) pa_nil))
          (pa_cons (pe_make m3 G3 r3 (by rfl) g3 b3 .nil pass0 (pa_cons (pe_call G4 r4 rfl g4 k4 b4 .nil pass0 (pa_cons (pe_callB call_len_seq (by rfl) (T.fr "len") PySem.boot_len (pa_cons (pv 1) pa_nil)) pa_nil)) (pa_cons (pv 3) pa_nil))) pa_nil))))) (pg_name (i := 5) scAnswers.nd rfl (.inl rfl))
        (pss_cons (ps_set (i := 6) scAnswers.nd rfl (.inl rfl) (StX.pe_callO (pv 0) c5 (fnR_of G5 b5) hr passL (pa_cons (pv 5) pa_nil)))
        (pss_one (ps_if (PW.pt (pw_or (pt_cmpR op_ne (pv 6) (pv 4) (nomark _)) (pw_or (pt_val (pe_callB call_isi (by rfl) (T.fr "isinstance") (by decide +kernel) (pa_cons (pv 6) (pa_cons (pe_bltn (v := .ty "bool") (by rfl) (T.fr "bool") (by decide +kernel) rfl) pa_nil))))
          (pw_or1 (pt_not (pt_val (pe_call G11 r1 rfl g11 k11 b11 .nil pass0 (pa_cons (pe_meth (pv 0) T.clO m6 G6 hr b6 .nil passL (pa_cons (pv 5) pa_nil)) (pa_cons (pe_cmp (pc_isN (pv 4))) pa_nil))))))))) (pss_one (ps_ret pe_bl)) pss_nil))))
      (pss_cons (ps_for PassesOwn.never rfl (pi_zip (by rfl) (T.fr "zip") (pa_cons (pv 2) (pa_cons (pv 3) pa_nil))) (pg_tup rfl (pgs_cons (pg_name (i := 7) scAnswers.nd rfl (.inl rfl)) (pgs_cons (pg_name (i := 8) scAnswers.nd rfl (.inl rfl)) pgs_nil)))
        (pss_cons (ps_set (i := 9) scAnswers.nd rfl (.inl rfl) (pe_call G10 r2 rfl g10 k10 b10 .nil pass0 (pa_cons (pv 1) (pa_cons (pv 7) pa_nil))))
        (pss_cons (ps_if (PW.pt (pw_or (pt_not (pt_val (pe_call G11 r1 rfl g11 k11 b11 .nil pass0 (pa_cons (pe_meth (pv 0) T.clO m7 G7 r5 b7 .nil passL (pa_cons (pv 8) pa_nil)) (pa_cons (pv 9) pa_nil)))))
          (pw_or1 (pt_not (pt_val (pe_call G11 r1 rfl g11 k11 b11 .nil pass0 (pa_cons (pe_meth (pv 0) T.clO m7 G7 r5 b7 .nil passL (pa_cons (pe_meth0 (pv 8) T.clS m9 G9 r4 b9 .nil pass0) pa_nil)) (pa_cons (pe_not (pv 9)) pa_nil)))))))) (pss_one (ps_ret pe_bl)) pss_nil)
        (pss_cons (ps_asg (pv 7) (pg_tup rfl (pgs_cons (pg_name (i := 10) scAnswers.nd rfl (.inl rfl)) (pgs_cons (pg_name (i := 11) scAnswers.nd rfl (.inl rfl)) (pgs_cons (pg_name (i := 12) scAnswers.nd rfl (.inl rfl)) pgs_nil)))))
        (pss_one (ps_if (PW.pt (pw_and (pt_val (pv 12)) (pw_and1 (pt_cmpR op_ne (pe_cmpR op_eq (pe_op op_and (pe_meth (pv 0) T.clO m8 G8 r5 b8 .nil pass0 (pa_cons (pv 10) pa_nil)) (pe_un un_inv (pv 11))) pe_int (nomark _)) (pv 9) (nomark _))))) (pss_one (ps_ret pe_bl)) pss_nil))))))
      (pss_one (ps_ret pe_bl))))), ?_⟩
    refine ⟨_, rfl, p, as, ss, rfl, hp, hA, by omega, hok, fun S bs H1 hS1 hSn hB1 s1 => ?_⟩
    refine ⟨_, rfl, _, rfl, l, p, ls, as, ss, rfl, s1 _ _ hl, h16, s1 _ _ hp, All2.imp hA fun a y h => h.same s1, by omega, fun H2 s2 => ⟨_, _, rfl, ?_⟩⟩
    have s12 := s1.trans s2
    have hS2 := s2 _ _ hS1
    refine ⟨_, rfl, _, rfl, S, _, rfl, .inl ⟨SqL.of hS2, fun tq htq => ?_⟩⟩
    have s3 : Same H2 (upd H2 tq (.tup (bs.map V.ref))) := same_upd htq
    have s13 := s12.trans s3
    refine ⟨_, rfl, l, _, rfl, .inl (SqL.of (s13 _ _ hl)), ls.length, (by rw [List.length_map]; rfl), L.len, fun mk H3 hmk s4 => ?_⟩
    have s14 := s13.trans s4
    have s24 := s3.trans s4
    have hS3 := s24 _ _ hS2
    refine ⟨_, rfl, fun x dx nx nd hne => ?_⟩
    have nSx : ∀ {q : Addr} {ob : HO}, H3 q = some ob → (upd (upd H3 dx (.own x)) x (.ins c.B dx [])) q = some ob := fun {q ob} e => by
      rw [upd_ne (ne_of_none e nx), upd_ne (ne_of_none e nd)]
      exact e
    have sx : Same H3 (upd (upd H3 dx (.own x)) x (.ins c.B dx [])) := fun q ob e => nSx e
    refine ⟨x, dx, mk, S, ls.length, bs, ss, rfl, upd_same, hmk.same sx, nSx hS3, All2.imp hB1 fun a y h => ((h.same s2).same s24).same sx, by omega, hf, fun H4 hBk hBut => ⟨rfl, ?_⟩⟩
    have s5 := same_make nx nd hBut
    have s15 := s14.trans s5
    have s25 := s24.trans s5
    refine ⟨(by show 3 ≤ sizeLine; decide), fun tt htt => ?_⟩
    have s6 : Same H4 (upd H4 tt (.tup [.ref S, .ref tq, .ref x])) := same_upd htt
    have s16 := s15.trans s6
    have s26 := s25.trans s6
    have sayAll : ∀ H5, Same (upd H4 tt (.tup [.ref S, .ref tq, .ref x])) H5 → All2 (SayAt c H5) bs ss := fun H5 s7 => All2.imp hB1 fun a y h => (h.same s2).same (s26.trans s7)
    have says : ∀ (i : Nat) y, ([.ref S, .ref tq, .ref x] : List V)[i]? = some y → Says c (upd H4 tt (.tup [.ref S, .ref tq, .ref x])) y bs := fun i y e => by
      have m := List.mem_of_getElem? e
      rcases List.mem_cons.mp m with rfl | m
      · exact ⟨S, rfl, .inl (s26 _ _ hS2)⟩
      rcases List.mem_cons.mp m with rfl | m
      · exact ⟨tq, rfl, .inr (.inl (s6 _ _ (s5 _ _ (s4 _ _ upd_same))))⟩
      rcases List.mem_cons.mp m with rfl | m
      · exact ⟨x, rfl, .inr (.inr (hBk.same s6))⟩
      cases m
    have noFit : ∀ {Pr : Prop}, (∃ s, s ∈ ss ∧ ¬ s.fits ls.length) → Pr := fun {Pr} ⟨s, hs, hn⟩ => absurd (hf s hs) hn
    refine ⟨tt, rfl, ⟨_, SqT.of upd_same⟩, for_it walk_tup (fun i σ H5 => (∃ a b, σ = [some (.ref o), some (.ref l), some (.ref p), some (.ref S), some (firstV ls ss), a, b, none, none, none, none, none, none]) ∧ Same (upd H4 tt (.tup [.ref S, .ref tq, .ref x])) H5) ⟨⟨_, _, rfl⟩, Same.refl _⟩ (fun i σ H5 _ q => SqT.of (q.2 _ _ upd_same)) ?_ ?_⟩
    · rintro i y σ H5 H5' hi ⟨⟨a0, b0, rfl⟩, s7⟩ ⟨rfl, hy⟩
      have hSy := says i y hy
      have s17 := s16.trans s7
      refine ⟨_, rfl, o, rfl, _, rfl, .inr ⟨dxo, _, s17 _ _ ho⟩, o, y, ls, bs, ss, rfl, hO.same s17, L, hSy.same s7, sayAll _ s7, by omega, hok, fun _ H6 s8 => ?_, fun z => noFit z⟩
      have s78 := s7.trans s8
      have s18 := s17.trans s8
      obtain ⟨ty, ht1, ht2⟩ := first_ty K H6 ls ss
      refine ⟨_, rfl, _, rfl, first_scal ls ss, _, rfl, iteC (by rw [decide_eq_true rfl]; rfl) ?_⟩
      refine ⟨_, rfl, _, _, ty, _, false, rfl, .ty _, ht1, ht2, _, rfl, iteF ?_⟩
      refine ⟨_, rfl, o, dxo, _, rfl, s18 _ _ ho, ofl_no to (by decide +kernel), _, rfl, o, y, ls, bs, ss, rfl, hO.same s18, L, hSy.same s78, sayAll _ s78, by omega, hok, fun _ H7 s9 => ?_, fun z => noFit z⟩
      refine ⟨_, rfl, _, _, rfl, _, rfl, iteC ?_ ⟨⟨_, _, rfl⟩, s78.trans s9⟩⟩
      rw [first_none, decide_eq_true rfl]
      rfl
    · rintro σ H5 ⟨⟨a0, b0, rfl⟩, s7⟩
      have s17 := s16.trans s7
      have s27 := s26.trans s7
      refine ⟨_, rfl, _, rfl, p, S, _, _, rfl, SqL.of (s17 _ _ hp), SqL.of (s27 _ _ hS2), ?_⟩
      have hlab : (as.map V.ref).length = min (as.map V.ref).length (bs.map V.ref).length := by rw [List.length_map, List.length_map, hA.1, hB1.1, Nat.min_self]
      refine for_it (walk_zip hlab) (fun i σ H6 => (∃ a b y0 y1 y2 y3 y4 y5, σ = [some (.ref o), some (.ref l), some (.ref p), some (.ref S), some (firstV ls ss), a, b, y0, y1, y2, y3, y4, y5]) ∧ Same H5 H6) ⟨⟨_, _, _, _, _, _, _, _, rfl⟩, Same.refl _⟩ (fun i σ H6 _ q => ⟨SqL.of (q.2 _ _ (s17 _ _ hp)), SqL.of (q.2 _ _ (s27 _ _ hS2))⟩) ?_ ?_
      · rintro i y σ H6 H6' hi ⟨⟨a1, b1', y0, y1, y2, y3, y4, y5, rfl⟩, s8⟩ ⟨T0, x1, x2, rfl, nT, rfl, e1, e2⟩
        obtain ⟨a, ha, rfl⟩ := ref_at2 e1
        obtain ⟨b, hb, rfl⟩ := ref_at2 e2
        obtain ⟨sy, hs, hT⟩ := hA.at ha
        have hSy := hB1.2 i b sy hb hs
        have hdr := hd sy (List.mem_of_getElem? hs)
        have s9 := s8.trans (same_upd (o := .tup [.ref a, .ref b]) nT)
        have s19 := s17.trans s9
        have hSy9 := (hSy.same s2).same (s27.trans s9)
        refine ⟨T0, _, rfl, SqT.of upd_same, rfl, _, _, rfl, _, _, rfl, rfl, ?_⟩
        refine ⟨_, rfl, _, rfl, l, a, ls, sy, rfl, s19 _ _ hl, h16, hT.same s19, fun H7 t1 => ?_⟩
        have s110 := s19.trans t1
        have s910 := s9.trans t1
        have hSy10 := hSy9.same t1
        refine ⟨_, rfl, o, dxo, _, rfl, s110 _ _ ho, ofl_no to (by decide +kernel), _, rfl, o, b, ls, sy, rfl, hO.same s110, h16, hSy10, fun _ H8 t2 => ?_, fun z => absurd hdr.fits z⟩
        have s111 := s110.trans t2
        have hSy11 := hSy10.same t2
        obtain ⟨dyb, hyb⟩ := id hSy11
        refine ⟨_, rfl, _, _, rfl, _, rfl, iteC (by rw [decide_eq_true rfl]; rfl) ?_⟩
        refine ⟨_, rfl, o, dxo, _, rfl, s111 _ _ ho, ofl_no to (by decide +kernel), _, rfl, b, dyb, _, rfl, hyb, sfl_contrary sy, b, sy, rfl, hSy11, hok sy (List.mem_of_getElem? hs), fun q H9 t3 hq => ?_⟩
        have s112 := s111.trans t3
        refine ⟨o, q, ls, sy.not, rfl, hO.same s112, h16, hq, fun _ H10 t4 => ?_, fun z => absurd hdr.fits z⟩
        have s113 := s112.trans t4
        refine ⟨_, rfl, _, rfl, _, _, rfl, _, rfl, iteC (by rw [hdr.contrary, decide_eq_true rfl]; rfl) ?_⟩
        have s913 := ((s910.trans t2).trans t3).trans t4
        refine ⟨_, rfl, a, _, rfl, SqT.of (hT.same s113), rfl, _, _, rfl, _, _, rfl, _, _, rfl, rfl, ?_⟩
        refine ⟨_, rfl, _, rfl, ?_⟩
        cases hu : sy.u with
        | false => exact iteF (iteF ⟨⟨_, _, _, _, _, _, _, _, rfl⟩, s913⟩)
        | true =>
          refine iteT ?_
          refine ⟨_, rfl, o, dxo, _, rfl, s113 _ _ ho, ofl_no to (by decide +kernel), _, rfl, o, ls, sy.w, rfl, hO.same s113, h16, hdr.w, hdr.pos, fun m H11 t5 hm => ?_⟩
          refine ⟨_, rfl, _, rfl, _, _, rfl, rfl, rfl, _, rfl, rfl, _, rfl, iteC ?_ ⟨⟨_, _, _, _, _, _, _, _, rfl⟩, s913.trans t5⟩⟩
          rw [dec_vi, normal_test hm, dec_vb]
          have e : sy.keep ls = keepsB ls sy.w sy.t true := by unfold Sy.keep; rw [hu]
          rw [e, decide_eq_true rfl]
          rfl
      · rintro σ H6 ⟨⟨a1, b1', y0, y1, y2, y3, y4, y5, rfl⟩, s8⟩
        exact k H6 (s17.trans s8)
end
end K14

namespace K14
open PySem PySem.Spec PyProof.Rows L2
/-- what a call lets out is wished of any slots, as many as there are -/
def EAny (n : Nat) (W : WX) : XK := fun cls d H => ∀ σ : L2.St, σ.length = n → W cls d σ H
theorem passAny {X : Cx} {W : WX} {n : Nat} (tk : Takes X W) (hn : X.N.length = n) : Passes (L2.CX X.prog X.w) X (EAny n W) := fun pins σ H s e s' I c => tk e s' (XE.of_call I (fun cls d H' h => h σ (by rw [I.len, hn])) c)
section
variable {P : Program} {w : World} {K : PySem.W.Frag} {mg : Str → Option Value} {base : Heap} {c : Cl}
abbrev nRefused : List Str := ["_law_order", "_law_thing", "_law_how", "_law_told", "e"]
theorem scRefused : FnScope nRefused ["_law_order", "_law_thing", "_law_how"] (defScope sLRefused) := ⟨rfl, rfl, rfl, by decide +kernel, rfl, by decide +kernel, by decide +kernel⟩
def tsRefused (c : Cl) (K : PySem.W.Frag) : Addr → Value → Option Addr → TS := fun a cls d => tRet (tCB (fun xs H Q => cls = .ref c.E ∧ d = none ∧ rIsE K c.E a xs H Q) (tCons (tVar 4) (tCons (tC (.ref c.E)) tNil)))
theorem ok_refused {f : Addr} {fd : FuncData} (F : FnP K "_law_refused" "_law_refused" sLRefused f fd) (T : Txt K mg c) (R : ErrT K mg c)
    (GC : OFn P w K mg base (L2.CX P w) 7 c.O ["self", "sayings"] (spFnk c)) (GA : MFn P w K mg base (L2.CX P w) 7 c.O "keeps_all" ["self", "sayings"] (spAll c)) (GK : MFn P w K mg base (L2.CX P w) 5 c.O "keeps" ["self", "saying"] (spKeeps c)) :
    FnOk P w K mg base CX0 8 f fd ["_law_order", "_law_thing", "_law_how"] (spRefused c) := by
  obtain ⟨f5, d5, G5, c5, b5⟩ := GC
  obtain ⟨f6, d6, G6, m6, b6⟩ := GA
  obtain ⟨f7, d7, G7, m7, b7⟩ := GK
  refine F.ok scRefused (fun vs H Q E h => ?_) (fun cdv A outer s H vs Q E hr h => ?_)
  · obtain ⟨o, v, ls, i, rfl, _⟩ := h
    rfl
  · obtain ⟨o, v, ls, i, rfl, hO, L, hc, k⟩ := h
    have r5 : Room 5 _ := hr.mono (by decide)
    obtain ⟨dxo, to, ho, hto⟩ := id hO
    refine ⟨_, PSs.nox (pss_cons (ps_try_as (i := 4) (c := .ref c.D) (ts := tsRefused c K)
        (tb := fun W => tIfS (tTest (tOp rEq (tVar 2) (tC (.int 0)))) (tAsg (StX.tCallO (cxOf CX0 P w K mg base nRefused "_law_refused" (defScope sLRefused) f cdv A outer s H E) c.O (spFnk c) (EAny 5 W) (tVar 0) (tCons (tVar 1) tNil)) (gName 3))
          (tIfS (tTest (tOp rEq (tVar 2) (tC (.int 1)))) (tAsg (tMeth c.O "keeps_all" (spAll c) [] (EAny 5 W) (tVar 0) (tCons (tVar 1) tNil)) (gName 3)) (tAsg (tMeth c.O "keeps" (spKeeps c) [] (EAny 5 W) (tVar 0) (tCons (tVar 1) tNil)) (gName 3))))
        rfl rfl scRefused.nd rfl rfl ⟨rfl, by decide, .inl R.gD⟩ takes0
        (fun W pn xe tk _ => pss_one (ps_if (pt_cmpR op_eq (pv 2) pe_int (nomark _)) (pss_one (ps_set (i := 3) scRefused.nd rfl (.inl rfl) (StX.pe_callO (pv 0) c5 (fnR_of G5 b5) hr (passAny tk rfl) (pa_cons (pv 1) pa_nil))))
          (pss_one (ps_if (pt_cmpR op_eq (pv 2) pe_int (nomark _)) (pss_one (ps_set (i := 3) scRefused.nd rfl (.inl rfl) (pe_meth (pv 0) T.clO m6 G6 hr b6 .nil (passAny tk rfl) (pa_cons (pv 1) pa_nil))))
            (pss_one (ps_set (i := 3) scRefused.nd rfl (.inl rfl) (pe_meth (pv 0) T.clO m7 G7 r5 b7 .nil (passAny tk rfl) (pa_cons (pv 1) pa_nil))))))))
        (fun a oe cls d pn hz hf => pss_one (ps_ret (pe_callB (call_isE2 R.exc hz hf) (by rfl) (T.fr "isinstance") (by decide +kernel) (pa_cons (pv 4) (pa_cons (pe_glob (v := .ref c.E) (by rfl) R.gE rfl) pa_nil))))))
      (pss_one (ps_ret pe_bl))), ?_⟩
    have suite : ∀ (W : WX) (D : Ends) (H' : Hp), Same H H' → D.rt = Q → EAny 5 (wAs K (.ref c.D) 4 (tsRefused c K) W D) (.ref c.E) none H' := fun W D H' s' eQ σ hσ => by
      refine ⟨true, R.exm, fun _ a ha => ⟨_, List.getElem?_set_self (by rw [hσ]; decide), rfl, rfl, .ref c.E, .ref c.E, true, rfl, fun u h => h, R.kit, ?_⟩, fun z => nomatch z⟩
      show D.rt _ _
      rw [eQ]
      exact k H' s'
    rcases hc with ⟨rfl, p, y, rfl, hS, hn⟩ | ⟨hi, as, ss, hv, hA, hz, hok, y, hy, hn⟩
    · refine ⟨_, rfl, rfl, _, rfl, iteQ (fun z => by injection z with z; exact absurd z (by decide)) ⟨_, rfl, rfl, _, rfl, iteQ (fun z => by injection z with z; exact absurd z (by decide)) ?_⟩⟩
      exact ⟨_, rfl, o, dxo, _, rfl, ho, ofl_no to (by decide +kernel), _, rfl, o, p, ls, y, rfl, hO, L.le, hS, fun z => absurd z hn, fun _ H' s' => suite _ _ H' s' rfl⟩
    · rcases hi with rfl | rfl
      · refine ⟨_, rfl, rfl, _, rfl, iteP rfl ?_⟩
        exact ⟨_, rfl, o, rfl, _, rfl, .inr ⟨dxo, _, ho⟩, o, v, ls, as, ss, rfl, hO, L, hv, hA, hz, hok, fun z => absurd (z y hy) hn, fun _ H' s' => suite _ _ H' s' rfl⟩
      · refine ⟨_, rfl, rfl, _, rfl, iteQ (fun z => by injection z with z; exact absurd z (by decide)) ⟨_, rfl, rfl, _, rfl, iteP rfl ?_⟩⟩
        exact ⟨_, rfl, o, dxo, _, rfl, ho, ofl_no to (by decide +kernel), _, rfl, o, v, ls, as, ss, rfl, hO, L, hv, hA, hz, hok, fun z => absurd (z y hy) hn, fun _ H' s' => suite _ _ H' s' rfl⟩
end
end K14

namespace K14
open PySem PySem.Spec PyProof.Rows L2
theorem All2.append {Pr : Addr → Sy → Prop} {as bs : List Addr} {ss ts : List Sy} (h : All2 Pr as ss) (k : All2 Pr bs ts) : All2 Pr (as ++ bs) (ss ++ ts) := by
  refine ⟨by rw [List.length_append, List.length_append, h.1, k.1], fun i a s e1 e2 => ?_⟩
  rcases Nat.lt_or_ge i as.length with q | q
  · rw [List.getElem?_append_left q] at e1
    rw [List.getElem?_append_left (by rw [← h.1]; exact q)] at e2
    exact h.2 i a s e1 e2
  · rw [List.getElem?_append_right q] at e1
    rw [List.getElem?_append_right (by rw [← h.1]; exact q), ← h.1] at e2
    exact k.2 _ a s e1 e2
theorem All2.rep {Pr : Addr → Sy → Prop} {as : List Addr} {ss : List Sy} (h : All2 Pr as ss) : ∀ n : Nat, All2 Pr (List.replicate n as).flatten (List.replicate n ss).flatten
  | 0 => .nil
  | n + 1 => by
    rw [List.replicate_succ, List.replicate_succ, List.flatten_cons, List.flatten_cons]
    exact h.append (All2.rep h n)
theorem rep_len {α : Type} (xs : List α) (n : Nat) : (List.replicate n xs).flatten.length = n * xs.length := by
  induction n with
  | zero => simp
  | succ n ih => rw [List.replicate_succ, List.flatten_cons, List.length_append, ih, Nat.add_mul]; omega
theorem rep_mem {α : Type} {xs : List α} {n : Nat} {x : α} (h : x ∈ (List.replicate n xs).flatten) : x ∈ xs := by
  obtain ⟨l, hl, hx⟩ := List.mem_flatten.mp h
  rw [(List.mem_replicate.mp hl).2] at hx
  exact hx
theorem rep_map (bs : List Addr) (n : Nat) : (List.replicate n (bs.map V.ref)).flatten = ((List.replicate n bs).flatten).map V.ref := by
  rw [List.map_flatten, List.map_replicate]
section
variable {P : Program} {w : World} {K : PySem.W.Frag} {mg : Str → Option Value} {base : Heap} {c : Cl}
abbrev nLong : List Str := ["_law_bag_here", "_law_order", "_law_layers_here", "_law_some", "_law_said_here", "_law_k"]
theorem scLong : FnScope nLong ["_law_bag_here", "_law_order", "_law_layers_here"] (defScope sLLong) := ⟨rfl, rfl, rfl, by decide +kernel, rfl, by decide +kernel, by decide +kernel⟩
theorem ok_long {f : Addr} {fd : FuncData} (F : FnP K "_law_long" "_law_long" sLLong f fd) (T : Txt K mg c)
    (GS : GFn P w K mg base CX0 4 "_law_said" ["_law_sayings"] (spSaid c)) (GT : GFn P w K mg base CX0 3 "_law_toward" ["_law_bag_here", "_law_layers_here"] spToward)
    (GC : OFn P w K mg base (L2.CX P w) 7 c.O ["self", "sayings"] (spFnk c)) (GA : MFn P w K mg base (L2.CX P w) 7 c.O "keeps_all" ["self", "sayings"] (spAll c))
    (GX : MFn P w K mg base CX0 4 c.S "contrary" ["self"] (spContrary c)) (GG : GFn P w K mg base CX0 1 "_law_flag" ["_law_thing", "_law_due"] spFlag) : FnOk P w K mg base CX0 8 f fd ["_law_bag_here", "_law_order", "_law_layers_here"] (spLong c) := by
  obtain ⟨f1, d1, G1, g1, k1, b1⟩ := GS
  obtain ⟨f2, d2, G2, g2, k2, b2⟩ := GT
  obtain ⟨f5, d5, G5, c5, b5⟩ := GC
  obtain ⟨f6, d6, G6, m6, b6⟩ := GA
  obtain ⟨f9, d9, G9, m9, b9⟩ := GX
  obtain ⟨f11, d11, G11, g11, k11, b11⟩ := GG
  refine F.ok scLong (fun vs H Q E h => ?_) (fun cdv A outer s H vs Q E hr h => ?_)
  · obtain ⟨b, o, l, ls, rfl, _⟩ := h
    rfl
  · obtain ⟨b, o, l, ls, rfl, hb, hO, hl, L, k⟩ := h
    have r1 : Room 1 _ := hr.mono (by decide)
    have r3 : Room 3 _ := hr.mono (by decide)
    have r4 : Room 4 _ := hr.mono (by decide)
    have h16 := L.le
    have hnb := bag_ne hb hl L
    refine ⟨_, PSs.nox (pss_cons (ps_set (i := 3) scLong.nd rfl (.inl rfl) (pe_call G1 r4 rfl g1 k1 b1 .nil pass0 (pa_cons (pe_lc (own := [("_law_k", 5)]) (g := gName 5) (tt := tYes) rfl scLong.nd (pi_range1 (by rfl) (T.fr "range") (pa_cons pe_int pa_nil))
        (blkOk_by (N := nLong) (sc := defScope sLLong) (by decide +kernel)) (fun _ _ _ _ _ => pg_name (i := 5) scLong.nd rfl (.inl rfl)) (fun _ _ _ _ _ => pts_nil)
        (fun _ _ _ _ _ => pe_call G2 r3 rfl g2 k2 b2 .nil pass0 (pa_cons (pv 0) (pa_cons (pv 2) pa_nil)))) pa_nil)))
      (pss_cons (ps_set (i := 4) scLong.nd rfl (.inl rfl) (pe_op op_cat (pe_op op_rep (pv 3) pe_int) (pe_lst (pa_cons (pe_meth0 (pe_ix ix_list (pv 3) pe_int (fun _ _ => rfl)) T.clS m9 G9 r4 b9 .nil pass0) pa_nil))))
      (pss_one (ps_ret (pe_and (pe_cmpR op_eq (StX.pe_callO (pv 1) c5 (fnR_of G5 b5) hr passL (pa_cons (pv 4) pa_nil)) pe_int (nomark _))
        (pe_one (pe_call G11 r1 rfl g11 k11 b11 .nil pass0 (pa_cons (pe_meth (pv 1) T.clO m6 G6 hr b6 .nil passL (pa_cons (pe_callTy call_tuple_of (by rfl) (T.fr "tuple") (by decide +kernel) (pa_cons (pv 4) pa_nil)) pa_nil)) (pa_cons pe_bl pa_nil))))))))), ?_⟩
    refine ⟨3, rfl, by decide, by decide, fun D hD => ?_⟩
    have nD := hb.ne_new hD
    refine lc_range (lo := 0) (n := 3) (fun i H2 => But b H H2 ∧ BagAt H2 b ∧ ∃ as ss, ss.length = i ∧ H2 D = some (.lst (as.map V.ref)) ∧ All2 (TupAt H2) as ss ∧ ∀ s, s ∈ ss → Drawn ls.length s ∧ s.keep ls = true) ⟨Same.but (same_upd hD), hb.upd nD, [], [], rfl, upd_same, .nil, fun s hs => by cases hs⟩ ?_ ?_
    · rintro i H2 hi ⟨s2, hb2, as, ss, h1, hD2, hA, hs⟩
      refine ⟨rfl, _, rfl, _, rfl, b, l, ls, rfl, hb2, s2 _ _ hnb hl, L, fun p y H3 hdr hkp hT hp hb3 s3 => ?_⟩
      have hD3 := s3 _ _ nD hD2
      have s13 := s2.trans s3
      have tupD : ∀ {a : Addr} {z : Sy}, TupAt H3 a z → TupAt (upd H3 D (.lst (as.map V.ref ++ [V.ref p]))) a z := fun {a z} h => by
        show upd H3 D _ a = _
        rw [upd_ne (ne_of h hD3 fun q => nomatch q)]
        exact h
      refine ⟨_, hD3, ?_, s13.upd hD, hb3.upd nD, as ++ [p], ss ++ [y], by rw [List.length_append, h1]; rfl, by rw [upd_same, List.map_append]; rfl, (All2.imp hA fun a z h => tupD (h.but hb2 s3)).snoc (tupD hT), fun z hz => ?_⟩
      · rw [List.length_map, hA.1, h1]
        exact small1000 (by omega)
      · rcases List.mem_append.mp hz with q | q
        · exact hs z q
        · rw [List.mem_singleton.mp q]
          exact ⟨hdr, hkp⟩
    · rintro H2 ⟨s2, hb2, as, ss, h1, hD2, hA, hs⟩
      have hok : ∀ s, s ∈ ss → s.ok := fun s h => (hs s h).1.ok h16
      refine ⟨D, as, ss, rfl, hD2, hA, by omega, hok, fun S bs H3 hS3 hSn hB s3 => ?_⟩
      have s13 := s2.same s3
      have hb3 := hb2.same s3
      have hO3 := hO.but hb s13
      refine ⟨_, rfl, S, 333, _, rfl, rfl, hS3, by decide, by decide, by rw [List.length_map, hB.1, h1]; exact Nat.le_of_lt (small1000 (by decide)), fun R hR => ?_⟩
      have s4 : Same H3 (upd H3 R (.lst (List.replicate (333 : Int).toNat (bs.map V.ref)).flatten)) := same_upd hR
      obtain ⟨s0, t0, eS⟩ : ∃ s0 t0, ss = s0 :: t0 := by
        cases ss with
        | nil => cases h1
        | cons a r => exact ⟨a, r, rfl⟩
      have h0 : s0 ∈ ss := by rw [eS]; exact List.mem_cons_self
      obtain ⟨b0, e0⟩ : ∃ b0, bs[0]? = some b0 := ⟨bs[0]'(by rw [hB.1, h1]; decide), List.getElem?_eq_getElem _⟩
      have hs0 := hB.2 0 b0 s0 e0 (by rw [eS]; rfl)
      obtain ⟨d0, hb0⟩ := id hs0
      refine ⟨_, rfl, S, _, _, _, rfl, rfl, SqL.of (s4 _ _ hS3), at_of (j := 0) rfl (by rw [List.getElem?_map, e0]; rfl), ?_⟩
      refine ⟨b0, d0, _, rfl, s4 _ _ hb0, sfl_contrary s0, b0, s0, rfl, hs0.same s4, hok s0 h0, fun q H4 s5 hq => ?_⟩
      refine ⟨(by show 1 ≤ sizeLine; decide), fun L1 hL1 => ?_⟩
      have s6 := s4.trans (s5.trans (same_upd (o := .lst [.ref q]) hL1))
      have s56 : Same (upd H3 R (.lst (List.replicate (333 : Int).toNat (bs.map V.ref)).flatten)) _ := s5.trans (same_upd (o := .lst [.ref q]) hL1)
      have hR6 := s56 _ _ upd_same
      have eR : (List.replicate (333 : Int).toNat (bs.map V.ref)).flatten = ((List.replicate 333 bs).flatten).map V.ref := rep_map bs 333
      have lenB : (List.replicate 333 bs).flatten.length = 999 := by rw [rep_len, hB.1, h1]
      have lenS : (List.replicate 333 ss).flatten.length = 999 := by rw [rep_len, h1]
      refine ⟨R, L1, _, _, rfl, rfl, hR6, upd_same, ?_, fun M hM => ?_⟩
      · rw [eR, List.length_map, lenB]
        exact Nat.le_of_lt (small1000 (by show 1000 ≤ 1000; decide))
      have s7 := s6.trans (same_upd (o := .lst ((List.replicate (333 : Int).toNat (bs.map V.ref)).flatten ++ [.ref q])) hM)
      have s17 := s13.same s7
      have hb7 := hb3.same s7
      have hM7 : (upd (upd H4 L1 (.lst [.ref q])) M (.lst ((List.replicate (333 : Int).toNat (bs.map V.ref)).flatten ++ [.ref q]))) M = some (.lst (((List.replicate 333 bs).flatten ++ [q]).map V.ref)) := by
        rw [upd_same, eR, List.map_append]
        rfl
      have hA7 : All2 (SayAt c (upd (upd H4 L1 (.lst [.ref q])) M (.lst ((List.replicate (333 : Int).toNat (bs.map V.ref)).flatten ++ [.ref q])))) ((List.replicate 333 bs).flatten ++ [q]) ((List.replicate 333 ss).flatten ++ [s0.not]) :=
        ((All2.imp hB fun a z h => h.same s7).rep 333).snoc ((hq.same (same_upd hL1)).same (same_upd hM))
      have all7 : ∀ s, s ∈ (List.replicate 333 ss).flatten ++ [s0.not] → s.ok ∧ s.fits ls.length := fun s h => by
        rcases List.mem_append.mp h with z | z
        · exact ⟨hok s (rep_mem z), (hs s (rep_mem z)).1.fits⟩
        · rw [List.mem_singleton.mp z]
          exact ⟨hok s0 h0, (hs s0 h0).1.fits⟩
      have hfirst : firstIx ls ((List.replicate 333 ss).flatten ++ [s0.not]) = some 999 := by
        refine firstIx_some (s := s0.not) ?_ ?_ ?_
        · rw [List.getElem?_append_right (by rw [lenS]; exact Nat.le_refl _), lenS]
          rfl
        · rw [(hs s0 h0).1.contrary, (hs s0 h0).2]
          rfl
        · intro j r hj e
          rw [List.getElem?_append_left (by rw [lenS]; exact hj)] at e
          exact (hs r (rep_mem (List.mem_of_getElem? e))).2
      have noFit : ∀ {Pr : Prop}, (∃ s, s ∈ (List.replicate 333 ss).flatten ++ [s0.not] ∧ ¬ s.fits ls.length) → Pr := fun {Pr} ⟨s, h, hn⟩ => absurd (all7 s h).2 hn
      have hO7 := hO3.same s7
      obtain ⟨dxo, to, ho7, hto⟩ := id hO7
      have len7 : ((List.replicate 333 ss).flatten ++ [s0.not]).length ≤ 1000 := by rw [List.length_append, lenS]; exact Nat.le_refl _
      refine ⟨_, rfl, o, rfl, _, rfl, .inr ⟨dxo, _, ho7⟩, o, .ref M, ls, _, _, rfl, hO7, L, ⟨M, rfl, .inl hM7⟩, hA7, len7, fun s h => (all7 s h).1, fun _ H8 s8 => ?_, fun z => noFit z⟩
      have s18 := s17.same s8
      have hM8 := s8 _ _ hM7
      unfold firstV
      rw [hfirst]
      refine ⟨rfl, _, rfl, iteP rfl ?_⟩
      refine ⟨_, rfl, o, dxo, _, rfl, s8 _ _ ho7, ofl_no to (by decide +kernel), _, rfl, M, _, rfl, .inl ⟨SqL.of hM8, fun t ht => ?_⟩⟩
      have s9 := s8.trans (same_upd (o := .tup (((List.replicate 333 bs).flatten ++ [q]).map V.ref)) ht)
      refine ⟨o, .ref t, ls, _, _, rfl, hO7.same s9, L, ⟨t, rfl, .inr (.inl upd_same)⟩, All2.imp hA7 fun a z h => h.same s9, len7, fun s h => (all7 s h).1, fun _ H9 s10 => ?_, fun z => noFit z⟩
      rw [hfirst]
      exact ⟨_, _, rfl, k H9 ((hb7.same s9).same s10) ((s17.same s9).same s10)⟩
end
end K14

namespace K14
open PySem PySem.Spec PyProof.Rows L2
theorem All2.take {Pr : Addr → Sy → Prop} {as : List Addr} {ss : List Sy} (h : All2 Pr as ss) (k : Nat) : All2 Pr (as.take k) (ss.take k) := by
  refine ⟨by rw [List.length_take, List.length_take, h.1], fun i a s e1 e2 => ?_⟩
  rw [List.getElem?_take] at e1 e2
  by_cases q : i < k
  · rw [if_pos q] at e1 e2
    exact h.2 i a s e1 e2
  · rw [if_neg q] at e1
    cases e1
theorem All2.drop {Pr : Addr → Sy → Prop} {as : List Addr} {ss : List Sy} (h : All2 Pr as ss) (k : Nat) : All2 Pr (as.drop k) (ss.drop k) := by
  refine ⟨by rw [List.length_drop, List.length_drop, h.1], fun i a s e1 e2 => ?_⟩
  rw [List.getElem?_drop] at e1 e2
  exact h.2 _ a s e1 e2
theorem All2.rev {Pr : Addr → Sy → Prop} {as : List Addr} {ss : List Sy} (h : All2 Pr as ss) : All2 Pr as.reverse ss.reverse := by
  refine ⟨by rw [List.length_reverse, List.length_reverse, h.1], fun i a s e1 e2 => ?_⟩
  have hi : i < as.length := by
    have := (List.getElem?_eq_some_iff.mp e1).1
    rw [List.length_reverse] at this
    exact this
  rw [List.getElem?_reverse hi] at e1
  rw [List.getElem?_reverse (by rw [← h.1]; exact hi), ← h.1] at e2
  exact h.2 _ a s e1 e2
/-- where the law stands behind the drawing -/
structure LawS (c : Cl) (σ : L2.St) (H : Hp) (b o o2 l l2 Y : Addr) (ls ls2 : List Int) (as : List Addr) (ss : List Sy) : Prop where
  s1 : σ[1]? = some (some (.ref b))
  s3 : σ[3]? = some (some (.ref l))
  s4 : σ[4]? = some (some (.ref l2))
  s5 : σ[5]? = some (some (.ref Y))
  s9 : σ[9]? = some (some (.ref o))
  s10 : σ[10]? = some (some (.ref o2))
  bag : BagAt H b
  ord : OrdAt c H o ls
  oth : OrdAt c H o2 ls2
  il : IntsAt H l ls
  il2 : IntsAt H l2 ls2
  hY : H Y = some (.lst (as.map V.ref))
  tups : All2 (TupAt H) as ss
  nY : Y ≠ b
  L : Lay ls
  L2 : Lay ls2
  len : ls2.length = ls.length
  h1 : 1 ≤ ss.length
  h8 : ss.length ≤ 8
  dr : ∀ s, s ∈ ss → Drawn ls.length s
theorem LawS.but {c : Cl} {σ : L2.St} {H H' : Hp} {b o o2 l l2 Y : Addr} {ls ls2 : List Int} {as : List Addr} {ss : List Sy} (h : LawS c σ H b o o2 l l2 Y ls ls2 as ss) (y : But b H H') (hb : BagAt H' b) : LawS c σ H' b o o2 l l2 Y ls ls2 as ss :=
  ⟨h.s1, h.s3, h.s4, h.s5, h.s9, h.s10, hb, h.ord.but h.bag y, h.oth.but h.bag y, y _ _ (bag_ne h.bag h.il h.L) h.il, y _ _ (bag_ne h.bag h.il2 h.L2) h.il2, y _ _ h.nY h.hY, All2.imp h.tups fun a s q => q.but h.bag y, h.nY, h.L, h.L2, h.len, h.h1, h.h8, h.dr⟩
theorem LawS.same {c : Cl} {σ : L2.St} {H H' : Hp} {b o o2 l l2 Y : Addr} {ls ls2 : List Int} {as : List Addr} {ss : List Sy} (h : LawS c σ H b o o2 l l2 Y ls ls2 as ss) (y : Same H H') : LawS c σ H' b o o2 l l2 Y ls ls2 as ss :=
  h.but (Same.but y) (h.bag.same y)
theorem LawS.slots {c : Cl} {σ σ' : L2.St} {H : Hp} {b o o2 l l2 Y : Addr} {ls ls2 : List Int} {as : List Addr} {ss : List Sy} (h : LawS c σ H b o o2 l l2 Y ls ls2 as ss)
    (s1 : σ'[1]? = some (some (.ref b))) (s3 : σ'[3]? = some (some (.ref l))) (s4 : σ'[4]? = some (some (.ref l2))) (s5 : σ'[5]? = some (some (.ref Y))) (s9 : σ'[9]? = some (some (.ref o))) (s10 : σ'[10]? = some (some (.ref o2))) : LawS c σ' H b o o2 l l2 Y ls ls2 as ss :=
  ⟨s1, s3, s4, s5, s9, s10, h.bag, h.ord, h.oth, h.il, h.il2, h.hY, h.tups, h.nY, h.L, h.L2, h.len, h.h1, h.h8, h.dr⟩
theorem seq_free {K : PySem.W.Frag} {H H1 : Hp} {a b : Addr} {xs : List V} (h : SqL K H a xs) (nb : H b = none) (y : But b H H1) : SqL K H1 a xs := by
  rcases h with (h | ⟨o, h⟩) | h
  · exact .inl (.inl (y _ _ (ne_of_none h nb) h))
  · exact .inl (.inr ⟨o, y _ _ (ne_of_none h nb) h⟩)
  · exact .inr h
theorem bad_fits {n d w t : Nat} {u : Bool} (h : n ≤ d) : ¬ (Sy.fits n ⟨w ||| 2 ^ d, t, u⟩) ∧ ¬ (Sy.fits n ⟨w, t ||| 2 ^ d, u⟩) := by
  have h1 : 2 ^ n ≤ 2 ^ d := Nat.pow_le_pow_right (by decide) h
  constructor
  · intro z
    have z : (w ||| 2 ^ d) ||| t < 2 ^ n := z
    have a1 : 2 ^ d ≤ w ||| 2 ^ d := Nat.right_le_or
    have a2 : w ||| 2 ^ d ≤ (w ||| 2 ^ d) ||| t := Nat.left_le_or
    omega
  · intro z
    have z : w ||| (t ||| 2 ^ d) < 2 ^ n := z
    have a1 : 2 ^ d ≤ t ||| 2 ^ d := Nat.right_le_or
    have a2 : t ||| 2 ^ d ≤ w ||| (t ||| 2 ^ d) := Nat.right_le_or
    omega
theorem or_top {n d w : Nat} (hn : n ≤ d) (hd : d ≤ 15) (hw : w < 2 ^ n) : w ||| 2 ^ d ≤ 65535 := by
  have a1 : w < 2 ^ 16 := Nat.lt_of_lt_of_le hw (Nat.pow_le_pow_right (by decide) (by omega))
  have a2 : 2 ^ d < 2 ^ 16 := Nat.pow_lt_pow_right (by decide) (by omega)
  have := Nat.or_lt_two_pow a1 a2
  omega
section
variable {P : Program} {w : World} {K : PySem.W.Frag} {mg : Str → Option Value} {base : Heap} {c : Cl}
abbrev nLaw : List Str := ["_law_script", "_law_bag_here", "_law_days", "_law_layers_here", "_law_others", "_law_sayings", "_law_k", "_law_kind", "_law_saying", "_law_order", "_law_other", "_law_where", "_law_then", "_law_usual", "_law_beyond", "_law_place", "_law_bad", "_law_said_here"]
theorem scLaw : FnScope nLaw ["_law_script"] (defScope sLaw) := ⟨rfl, rfl, rfl, by decide +kernel, rfl, by decide +kernel, by decide +kernel⟩
/-- a turn of the drawing, the saying drawn -/
def tDrawn : TS := fun D σ H => ∃ (b l Y p : Addr) (n : Nat) (y : Sy) (kd : Int) (xs : List V), σ[1]? = some (some (.ref b)) ∧ σ[5]? = some (some (.ref Y)) ∧ σ[7]? = some (some (.int kd)) ∧ σ[8]? = some (some (.ref p)) ∧ 8 < σ.length ∧ n ≤ 16 ∧ Drawn n y ∧ TupAt H p y ∧ BagAt H b ∧ Y ≠ b ∧
  H Y = some (.lst xs) ∧ xs.length ≤ 999 ∧ ∀ p' y' H', Drawn n y' → TupAt H' p' y' → BagAt H' b → But b H H' → D.nx (σ.set 8 (some (.ref p'))) (upd H' Y (.lst (xs ++ [.ref p'])))
def tAfter (c : Cl) (Q : VK) : TS := fun D σ H => ∃ b o o2 l l2 Y ls ls2 as ss, LawS c σ H b o o2 l l2 Y ls ls2 as ss ∧ D.rt = Q
theorem ok_law {f : Addr} {fd : FuncData} (F : FnP K "law" "law" sLaw f fd) (T : Txt K mg c)
    (Gb : GFn P w K mg base CX0 1 "_law_bag" ["_law_script", "_law_at"] (spBag K)) (Gt : GFn P w K mg base CX0 1 "_law_take" ["_law_bag_here", "_law_many"] spTake) (Go : GFn P w K mg base CX0 2 "_law_of" ["_law_bag_here", "_law_some"] (spOf K))
    (Gl : GFn P w K mg base CX0 3 "_law_layers" ["_law_bag_here", "_law_days"] spLayers) (Gw : GFn P w K mg base CX0 3 "_law_toward" ["_law_bag_here", "_law_layers_here"] spToward) (Gy : GFn P w K mg base CX0 2 "_law_any" ["_law_bag_here", "_law_days"] spAny)
    (GO : CFn P w K mg base CX0 3 "Order" c.O ["self", "layers"] (spOrdI c)) (Ga : GFn P w K mg base CX0 8 "_law_answers" ["_law_order", "_law_layers_here", "_law_sayings"] (spAnswers c))
    (GS : CFn P w K mg base CX0 2 "Saying" c.S ["self", "where", "then", "usual"] (spSayI c)) (Gs : GFn P w K mg base CX0 4 "_law_said" ["_law_sayings"] (spSaid c)) (Gr : GFn P w K mg base CX0 8 "_law_refused" ["_law_order", "_law_thing", "_law_how"] (spRefused c))
    (Gg : GFn P w K mg base CX0 8 "_law_long" ["_law_bag_here", "_law_order", "_law_layers_here"] (spLong c)) : FnOk P w K mg base CX0 9 f fd ["_law_script"] (spLaw K) := by
  obtain ⟨fb, db, Gb, gb, kb, bb⟩ := Gb
  obtain ⟨ft, dt, Gt, gt, kt, bt⟩ := Gt
  obtain ⟨fo, d_o, Go, go, ko, bo⟩ := Go
  obtain ⟨fl, dl, Gl, gl, kl, bl⟩ := Gl
  obtain ⟨fw, dw, Gw, gw, kw, bw⟩ := Gw
  obtain ⟨fy, dy, Gy, gy, ky, b_y⟩ := Gy
  obtain ⟨fO, dO, GO, mO, gO, bO⟩ := GO
  obtain ⟨fa, da, Ga, ga, ka, ba⟩ := Ga
  obtain ⟨fS, dS, GS, mS, gS, bS⟩ := GS
  obtain ⟨fs, ds, Gs, gs, ks, bs⟩ := Gs
  obtain ⟨fr, dr, Gr, gr, kr, br⟩ := Gr
  obtain ⟨fg, dg, Gg, gg, kg, bg⟩ := Gg
  refine F.ok scLaw (fun vs H Q E h => ?_) (fun cdv A outer s H vs Q E hr h => ?_)
  · obtain ⟨a, ns, rfl, _⟩ := h
    rfl
  · obtain ⟨a, ns, rfl, ha, h63, kQ⟩ := h
    have r1 : Room 1 _ := hr.mono (by decide)
    have r2 : Room 2 _ := hr.mono (by decide)
    have r3 : Room 3 _ := hr.mono (by decide)
    have r4 : Room 4 _ := hr.mono (by decide)
    refine ⟨_, PSs.nox (pss_cons (ps_set (i := 1) scLaw.nd rfl (.inl rfl) (pe_call Gb r1 rfl gb kb bb .nil pass0 (pa_cons (pv 0) (pa_cons pe_int pa_nil))))
      (pss_cons (ps_set (i := 2) scLaw.nd rfl (.inl rfl) (pe_call Go r2 rfl go ko bo .nil pass0 (pa_cons (pv 1) (pa_cons (pe_lst (pa_cons pe_int (pa_cons pe_int (pa_cons pe_int (pa_cons pe_int (pa_cons pe_int pa_nil)))))) pa_nil))))
      (pss_cons (ps_par (i := 3) (j := 4) (by rfl) scLaw.nd rfl rfl (by decide) rfl rfl (pa_cons (pe_call Gl r3 rfl gl kl bl .nil pass0 (pa_cons (pv 1) (pa_cons (pv 2) pa_nil))) (pa_cons (pe_call Gl r3 rfl gl kl bl .nil pass0 (pa_cons (pe_call Gb r1 rfl gb kb bb .nil pass0 (pa_cons (pv 0) (pa_cons pe_int pa_nil))) (pa_cons (pv 2) pa_nil))) pa_nil)) (by rfl))
      (pss_cons (ps_set (i := 5) scLaw.nd rfl (.inl rfl) (pe_lst pa_nil))
      (pss_cons (ps_for PassesOwn.never rfl (pi_range1 (by rfl) (T.fr "range") (pa_cons (pe_call Go r2 rfl go ko bo .nil pass0 (pa_cons (pv 1) (pa_cons (pe_lst (pa_cons pe_int (pa_cons pe_int (pa_cons pe_int (pa_cons pe_int pa_nil))))) pa_nil))) pa_nil)) (pg_name (i := 6) scLaw.nd rfl (.inl rfl))
        (pss_cons (ps_set (i := 7) scLaw.nd rfl (.inl rfl) (pe_call Gt r1 rfl gt kt bt .nil pass0 (pa_cons (pv 1) (pa_cons pe_int pa_nil))))
        (pss_cons (ps_set (i := 8) scLaw.nd rfl (.inl rfl) (pe_ifExp (pt_cmpR op_lt (pv 7) pe_int (nomark _)) (pe_call Gw r3 rfl gw kw bw .nil pass0 (pa_cons (pv 1) (pa_cons (pv 3) pa_nil))) (pe_call Gy r2 rfl gy ky b_y .nil pass0 (pa_cons (pv 1) (pa_cons (pv 2) pa_nil)))))
        (pss_imp (t' := tDrawn)
        (pss_cons (ps_if (pt_cmpR op_eq (pv 7) pe_int (nomark _)) (pss_one (ps_set (i := 8) scLaw.nd rfl (.inl rfl) (pe_tup (pa_cons (pe_ix ix_tup (pv 8) pe_int (fun _ _ => rfl)) (pa_cons (pe_call Go r2 rfl go ko bo .nil pass0 (pa_cons (pv 1) (pa_cons (pe_lst (pa_cons pe_int (pa_cons (pe_ix ix_tup (pv 8) pe_int (fun _ _ => rfl)) (pa_cons (pe_op op_and (pe_ix ix_tup (pv 8) pe_int (fun _ _ => rfl)) (pe_un un_inv (pe_ix ix_tup (pv 8) pe_int (fun _ _ => rfl)))) pa_nil)))) pa_nil)))
            (pa_cons (pe_ix ix_tup (pv 8) pe_int (fun _ _ => rfl)) pa_nil)))))) pss_nil)
        (pss_one (ps_expr (pe_bm PySem.F.plainAttrs_list PySem.F.slot_list_append PySem.F.type_list_append mt_append (pv 5) (pa_cons (pv 8) pa_nil)))))
        (fun D σ H' hh => ?_)))))
      (pss_cons (ps_par (i := 9) (j := 10) (by rfl) scLaw.nd rfl rfl (by decide) rfl rfl (pa_cons (pe_make mO GO r4 (by rfl) gO bO .nil pass0 (pa_cons (pv 3) pa_nil)) (pa_cons (pe_make mO GO r4 (by rfl) gO bO .nil pass0 (pa_cons (pv 4) pa_nil)) pa_nil)) (by rfl))
      (pss_cons (ps_if (PW.pt (pw_or (pt_not (pt_val (pe_call Ga hr rfl ga ka ba .nil pass0 (pa_cons (pv 9) (pa_cons (pv 3) (pa_cons (pv 5) pa_nil)))))) (pw_or1 (pt_not (pt_val (pe_call Ga hr rfl ga ka ba .nil pass0 (pa_cons (pv 10) (pa_cons (pv 4) (pa_cons (pv 5) pa_nil))))))))) (pss_one (ps_ret pe_bl)) pss_nil)
      (pss_cons (ps_if (PW.pt (pw_or (pt_not (pt_val (pe_call Ga hr rfl ga ka ba .nil pass0 (pa_cons (pv 9) (pa_cons (pv 3) (pa_cons (pe_revL (pv 5)) pa_nil)))))) (pw_or1 (pt_not (pt_val (pe_call Ga hr rfl ga ka ba .nil pass0 (pa_cons (pv 9) (pa_cons (pv 3) (pa_cons (pe_lst pa_nil) pa_nil))))))))) (pss_one (ps_ret pe_bl)) pss_nil)
      (pss_cons (ps_if (pt_cmpR op_lt (pv 2) pe_int (nomark _))
        (pss_cons (ps_asg (pe_call Go r2 rfl go ko bo .nil pass0 (pa_cons (pv 1) (pa_cons (pv 5) pa_nil))) (pg_tup rfl (pgs_cons (pg_name (i := 11) scLaw.nd rfl (.inl rfl)) (pgs_cons (pg_name (i := 12) scLaw.nd rfl (.inl rfl)) (pgs_cons (pg_name (i := 13) scLaw.nd rfl (.inl rfl)) pgs_nil)))))
        (pss_cons (ps_set (i := 14) scLaw.nd rfl (.inl rfl) (pe_op op_shl pe_int (pe_op op_add (pv 2) (pe_call Gt r1 rfl gt kt bt .nil pass0 (pa_cons (pv 1) (pa_cons (pe_op op_sub pe_int (pv 2)) pa_nil))))))
        (pss_cons (ps_set (i := 15) scLaw.nd rfl (.inl rfl) (pe_call Gt r1 rfl gt kt bt .nil pass0 (pa_cons (pv 1) (pa_cons (pe_op op_add (pe_callB call_len_seq (by rfl) (T.fr "len") PySem.boot_len (pa_cons (pv 5) pa_nil)) pe_int) pa_nil))))
        (pss_one (ps_for PassesOwn.never rfl (pi_tup (pe_tup (pa_cons (pe_make mS GS r3 (by rfl) gS bS .nil pass0 (pa_cons (pe_op op_or (pv 11) (pv 14)) (pa_cons (pv 12) (pa_cons (pv 13) pa_nil)))) (pa_cons (pe_make mS GS r3 (by rfl) gS bS .nil pass0 (pa_cons (pv 11) (pa_cons (pe_op op_or (pv 12) (pv 14)) (pa_cons (pv 13) pa_nil)))) pa_nil)))) (pg_name (i := 16) scLaw.nd rfl (.inl rfl))
          (pss_cons (ps_set (i := 17) scLaw.nd rfl (.inl rfl) (pe_call Gs r4 rfl gs ks bs .nil pass0 (pa_cons (pv 5) pa_nil)))
          (pss_cons (ps_expr (pe_bm PySem.F.plainAttrs_list PySem.F.slot_list_insert PySem.F.type_list_insert mt_insert (pv 17) (pa_cons (pv 15) (pa_cons (pv 16) pa_nil))))
          (pss_cons (ps_if (PW.pt (pw_or (pt_not (pt_val (pe_call Gr hr rfl gr kr br .nil pass0 (pa_cons (pv 9) (pa_cons (pv 16) (pa_cons pe_int pa_nil)))))) (pw_or (pt_not (pt_val (pe_call Gr hr rfl gr kr br .nil pass0 (pa_cons (pv 9) (pa_cons (pe_lst (pa_cons (pv 16) pa_nil)) (pa_cons pe_int pa_nil))))))
              (pw_or1 (pt_not (pt_val (pe_call Gr hr rfl gr kr br .nil pass0 (pa_cons (pv 9) (pa_cons (pe_tup (pa_cons (pv 16) pa_nil)) (pa_cons pe_int pa_nil)))))))))) (pss_one (ps_ret pe_bl)) pss_nil)
          (pss_one (ps_if (PW.pt (pw_or (pt_not (pt_val (pe_call Gr hr rfl gr kr br .nil pass0 (pa_cons (pv 9) (pa_cons (pv 17) (pa_cons pe_int pa_nil)))))) (pw_or1 (pt_not (pt_val (pe_call Gr hr rfl gr kr br .nil pass0 (pa_cons (pv 10) (pa_cons (pe_callTy call_tuple_of (by rfl) (T.fr "tuple") (by decide +kernel) (pa_cons (pv 17) pa_nil)) (pa_cons pe_int pa_nil))))))))) (pss_one (ps_ret pe_bl)) pss_nil)))))))))) pss_nil)
      (pss_imp (t' := tAfter c Q)
      (pss_cons (ps_if (PW.pt (pw_and (pt_cmpR op_eq (pe_call Gt r1 rfl gt kt bt .nil pass0 (pa_cons (pv 1) (pa_cons pe_int pa_nil))) pe_int (nomark _)) (pw_and1 (pt_not (pt_val (pe_call Gg hr rfl gg kg bg .nil pass0 (pa_cons (pv 1) (pa_cons (pv 9) (pa_cons (pv 3) pa_nil))))))))) (pss_one (ps_ret pe_bl)) pss_nil)
      (pss_imp (t' := tAfter c Q) (pss_one (ps_ret (pe_and (pe_call Ga hr rfl ga ka ba .nil pass0 (pa_cons (pv 10) (pa_cons (pv 4) (pa_cons (pv 5) pa_nil)))) (pe_one (pe_cmpR (op_eqD hr.units) (pe_fld (pv 9) rfl) (pe_callTy call_tuple_of (by rfl) (T.fr "tuple") (by decide +kernel) (pa_cons (pv 3) pa_nil)) (nomark _)))))) (fun D σ H' hh => ?_)))
      (fun D σ H' hh => ?_))))))))))), ?_⟩
    · -- a saying is drawn
      obtain ⟨b, l, Y, p, n, y, kd, xs, h1, h5, h7, h8, hlen, hn, hdr, hT, hb, hYb, hY, hxs, k⟩ := hh
      have l1 := two_pow_bd hn
      refine ⟨_, h7, rfl, _, rfl, ite2 (fun _ => ?_) (fun _ => ?_)⟩
      · refine ⟨_, h8, p, _, _, _, rfl, rfl, SqT.of hT, at_of (j := 0) rfl rfl, ?_⟩
        refine ⟨_, h1, _, h8, p, _, _, _, rfl, rfl, SqT.of hT, at_of (j := 0) rfl rfl, _, h8, p, _, _, _, rfl, rfl, SqT.of hT, at_of (j := 1) rfl rfl, _, h8, p, _, _, _, rfl, rfl, SqT.of hT, at_of (j := 0) rfl rfl, _, rfl, _, _, rfl, rfl, (by show 3 ≤ sizeLine; decide), fun q hq => ?_⟩
        have nq := hb.ne_new hq
        refine ⟨b, q, _, rfl, hb.upd nq, nq, SqL.of upd_same, (by show 0 < 3; decide), (by show 3 < 1000000; decide), fun j v H1 hj hb1 s1 => ?_⟩
        have s1' : But b H' H1 := (Same.but (same_upd hq)).trans s1
        obtain ⟨tn, htn, rfl⟩ : ∃ tn : Nat, tn < 2 ^ n ∧ v = .int (tn : Nat) := by
          have m := List.mem_of_getElem? hj
          rcases List.mem_cons.mp m with rfl | m
          · exact ⟨0, by have := hdr.w; omega, rfl⟩
          rcases List.mem_cons.mp m with rfl | m
          · exact ⟨y.w, hdr.w, rfl⟩
          rcases List.mem_cons.mp m with rfl | m
          · refine ⟨diff y.t y.w, Nat.lt_of_le_of_lt (diff_le _ _) hdr.t, ?_⟩
            dsimp only
            rw [bitAndNot_nat]
          cases m
        have hT1 := hT.but hb s1'
        have hY1 := s1' _ _ hYb hY
        refine ⟨_, h8, p, _, _, _, rfl, rfl, SqT.of hT1, at_of (j := 2) rfl rfl, (by show 3 ≤ sizeLine; decide), fun p' hp' => ?_⟩
        have np := hb1.ne_new hp'
        have hY2 : (upd H1 p' (.tup [.int (y.w : Nat), .int (tn : Nat), .bl y.u])) Y = some (.lst xs) := by
          rw [upd_ne (ne_of_none hY1 hp')]
          exact hY1
        refine ⟨V.ref Y, by rw [List.getElem?_set_ne (by decide)]; exact h5, .inl ⟨rfl, _, SqL.of hY2⟩, _, List.getElem?_set_self hlen, Y, _, _, rfl, rfl, hY2, small1000 (by omega), ?_⟩
        exact k p' ⟨y.w, tn, y.u⟩ _ ⟨hdr.pos, hdr.w, htn⟩ upd_same (hb1.same (same_upd hp')) (s1'.same (same_upd hp'))
      · refine ⟨_, h5, .inl ⟨rfl, _, SqL.of hY⟩, _, h8, Y, _, _, rfl, rfl, hY, small1000 (by omega), ?_⟩
        have z := k p y H' hdr hT hb (But.refl b H')
        have e : σ.set 8 (some (.ref p)) = σ := by
          apply List.ext_getElem?
          intro i
          rw [List.getElem?_set]
          by_cases q : 8 = i
          · subst q
            rw [if_pos rfl, if_pos hlen, h8]
          · rw [if_neg q]
        rw [e] at z
        exact z
    · -- the end
      obtain ⟨b, o, o2, l, l2, Y, ls, ls2, as, ss, S, eQ⟩ := hh
      obtain ⟨dxo, to, ho, hto⟩ := id S.ord
      refine ⟨_, S.s10, _, S.s4, _, S.s5, o2, l2, Y, ls2, as, ss, rfl, S.oth, S.L2, S.il2, S.hY, S.tups, S.h8, (fun s hs => by rw [S.len]; exact S.dr s hs), fun H1 s1 => ⟨_, rfl, iteT ?_⟩⟩
      have S1 := S.same s1
      refine ⟨_, S.s9, o, c.O, dxo, _, _, rfl, s1 _ _ ho, T.clO, T.naO _ (by decide +kernel), ofl_layers to, _, S.s3, l, _, rfl, .inl ⟨SqL.of S1.il, fun t ht => ?_⟩⟩
      refine ⟨_, _, .tup (SqT.of (show (upd H1 t _) to = some (.tup (ls.map V.int)) by rw [upd_ne (ne_of_none (s1 _ _ hto) ht)]; exact s1 _ _ hto)) (dp_ints ls), .tup (SqT.of upd_same) (dp_ints ls), shaped_t _, shaped_t _, ?_⟩
      rw [eqv_tup]
      show D.rt _ _
      rw [eQ]
      exact kQ _
    · -- the long book
      obtain ⟨b, o, o2, l, l2, Y, ls, ls2, as, ss, S, eQ⟩ := hh
      refine ⟨_, S.s1, b, _, rfl, S.bag, by decide, by decide, fun d H1 d0 d1 hb1 s1 => ⟨rfl, _, rfl, ite2 (fun _ => ?_) (fun _ => ?_)⟩⟩
      · have S1 := S.but s1 hb1
        exact ⟨_, S.s1, _, S.s9, _, S.s3, b, o, l, ls, rfl, S1.bag, S1.ord, S1.il, S1.L, fun H2 hb2 s2 => ⟨_, rfl, iteF ⟨b, o, o2, l, l2, Y, ls, ls2, as, ss, S1.but s2 hb2, eQ⟩⟩⟩
      · exact iteF ⟨b, o, o2, l, l2, Y, ls, ls2, as, ss, S.but s1 hb1, eQ⟩
    · refine ⟨_, rfl, a, ns, 0, rfl, ha, h63, Int.le_refl _, fun b H1 hbn hb1 s1 => ?_⟩
      refine ⟨_, rfl, (by show 5 ≤ sizeLine; decide), fun q0 hq0 => ?_⟩
      have nq0 := hb1.ne_new hq0
      refine ⟨b, q0, _, rfl, hb1.upd nq0, nq0, SqL.of upd_same, (by show 0 < 5; decide), (by show 5 < 1000000; decide), fun j v H2 hj hb2 s2 => ?_⟩
      have c2 : But b H H2 := (Same.but s1).trans ((Same.but (same_upd hq0)).trans s2)
      obtain ⟨n, hn, rfl⟩ : ∃ n : Nat, (n = 2 ∨ n = 4 ∨ n = 8 ∨ n = 16) ∧ v = .int (n : Nat) := by
        have m := List.mem_of_getElem? hj
        rcases List.mem_cons.mp m with rfl | m
        · exact ⟨2, by decide, rfl⟩
        rcases List.mem_cons.mp m with rfl | m
        · exact ⟨4, by decide, rfl⟩
        rcases List.mem_cons.mp m with rfl | m
        · exact ⟨4, by decide, rfl⟩
        rcases List.mem_cons.mp m with rfl | m
        · exact ⟨8, by decide, rfl⟩
        rcases List.mem_cons.mp m with rfl | m
        · exact ⟨16, by decide, rfl⟩
        cases m
      have hn16 : n ≤ 16 := by omega
      refine ⟨_, rfl, _, rfl, b, n, rfl, hb2, hn, fun l ls H3 L hlen hl hln hb3 s3 => ?_⟩
      have c3 := c2.trans s3
      refine ⟨_, rfl, a, ns, 1, rfl, seq_free ha hbn c3, h63, by decide, fun b' H4 hb'n hb'4 s4 => ?_⟩
      have hb4 := hb3.same s4
      have hl4 := s4 _ _ hl
      refine ⟨_, rfl, b', n, rfl, hb'4, hn, fun l2 ls2 H5 M2 hlen2 hl2 hl2n hb'5 s5 => ⟨_, _, rfl, ?_⟩⟩
      have nbb : b ≠ b' := by
        obtain ⟨_, _, _, z⟩ := hb3
        exact ne_of_none z hb'n
      have hb5 : BagAt H5 b := by
        obtain ⟨x, y, z, e⟩ := hb4
        exact ⟨x, y, z, s5 _ _ nbb e⟩
      have hl5 : IntsAt H5 l ls := s5 _ _ (ne_of_none hl hb'n) hl4
      refine ⟨Nat.zero_le _, fun Y hY => ?_⟩
      have nY := hb5.ne_new hY
      have nlY : l ≠ Y := ne_of_none hl5 hY
      have nl2Y : l2 ≠ Y := ne_of_none hl2 hY
      have hb6 : BagAt (upd H5 Y (.lst [])) b := hb5.upd nY
      have hl6 : IntsAt (upd H5 Y (.lst [])) l ls := by show upd H5 Y _ l = _; rw [upd_ne nlY]; exact hl5
      have hl26 : IntsAt (upd H5 Y (.lst [])) l2 ls2 := by show upd H5 Y _ l2 = _; rw [upd_ne nl2Y]; exact hl2
      refine ⟨_, rfl, (by show 4 ≤ sizeLine; decide), fun q1 hq1 => ?_⟩
      have nq1 := hb6.ne_new hq1
      refine ⟨b, q1, _, rfl, hb6.upd nq1, nq1, SqL.of upd_same, (by show 0 < 4; decide), (by show 4 < 1000000; decide), fun j2 v2 H7 hj2 hb7 s7 => ?_⟩
      have s7 : But b (upd H5 Y (.lst [])) H7 := (Same.but (same_upd hq1)).trans s7
      obtain ⟨m, hm1, hm8, rfl⟩ : ∃ m : Nat, 1 ≤ m ∧ m ≤ 8 ∧ v2 = .int (m : Nat) := by
        have e := List.mem_of_getElem? hj2
        rcases List.mem_cons.mp e with rfl | e
        · exact ⟨1, by decide, by decide, rfl⟩
        rcases List.mem_cons.mp e with rfl | e
        · exact ⟨3, by decide, by decide, rfl⟩
        rcases List.mem_cons.mp e with rfl | e
        · exact ⟨5, by decide, by decide, rfl⟩
        rcases List.mem_cons.mp e with rfl | e
        · exact ⟨8, by decide, by decide, rfl⟩
        cases e
      have hl7 : IntsAt H7 l ls := s7 _ _ (bag_ne hb6 hl6 L) hl6
      have hl27 : IntsAt H7 l2 ls2 := s7 _ _ (bag_ne hb6 hl26 M2) hl26
      have hY7 := s7 _ _ nY upd_same
      refine ⟨m, rfl, by omega, by omega, ?_⟩
      refine for_it (walk_range (lo := 0) (n := (m : Int).toNat)) (fun i σ H' => (∃ v6 v7 v8, σ = [some (.ref a), some (.ref b), some (.int (n : Nat)), some (.ref l), some (.ref l2), some (.ref Y), v6, v7, v8, none, none, none, none, none, none, none, none, none]) ∧ BagAt H' b ∧ IntsAt H' l ls ∧ IntsAt H' l2 ls2 ∧
        ∃ as ss, H' Y = some (.lst (as.map V.ref)) ∧ All2 (TupAt H') as ss ∧ ss.length = i ∧ ∀ s, s ∈ ss → Drawn n s) ⟨⟨_, _, _, rfl⟩, hb7, hl7, hl27, [], [], hY7, .nil, rfl, fun s hs => by cases hs⟩ (fun _ _ _ _ _ => trivial) ?_ ?_
      · rintro i x σ H8o H8 hi ⟨⟨v6, v7, v8, rfl⟩, hb8, hl8, hl28, as, ss, hY8, hA8, hlenS, hdS⟩ ⟨rfl, rfl⟩
        refine ⟨_, rfl, b, _, rfl, hb8, by decide, by decide, fun kd H9 k0 k1 hb9 s9 => ?_⟩
        have hl9 : IntsAt H9 l ls := s9 _ _ (bag_ne hb8 hl8 L) hl8
        have close : ∀ (p : Addr) (y : Sy) (H10 : Hp) (D : Ends) (v6 : Option V), Drawn n y → TupAt H10 p y → BagAt H10 b → But b H8 H10 →
            (∀ v6 v8 H', BagAt H' b → IntsAt H' l ls → IntsAt H' l2 ls2 → (∃ as ss, H' Y = some (.lst (as.map V.ref)) ∧ All2 (TupAt H') as ss ∧ ss.length = i + 1 ∧ ∀ s, s ∈ ss → Drawn n s) →
              D.nx [some (.ref a), some (.ref b), some (.int (n : Nat)), some (.ref l), some (.ref l2), some (.ref Y), v6, some (.int kd), v8, none, none, none, none, none, none, none, none, none] H') →
            tDrawn D [some (.ref a), some (.ref b), some (.int (n : Nat)), some (.ref l), some (.ref l2), some (.ref Y), v6, some (.int kd), some (.ref p), none, none, none, none, none, none, none, none, none] H10 := by
          intro p y H10 D v6 hdr hT hb10 s10 hD
          refine ⟨b, l, Y, p, n, y, kd, as.map V.ref, rfl, rfl, rfl, rfl, (by show 8 < 18; decide), hn16, hdr, hT, hb10, nY, s10 _ _ nY hY8, by rw [List.length_map, hA8.1]; omega, fun p' y' H' hdr' hT' hb' s' => ?_⟩
          have s8 := s10.trans s'
          have hY' := s8 _ _ nY hY8
          refine hD _ _ _ (hb'.upd nY) ?_ ?_ ⟨as ++ [p'], ss ++ [y'], by rw [upd_same, List.map_append]; rfl, ?_, by rw [List.length_append, hlenS]; rfl, fun s hs => ?_⟩
          · show upd H' Y _ l = _
            rw [upd_ne nlY]
            exact s8 _ _ (bag_ne hb8 hl8 L) hl8
          · show upd H' Y _ l2 = _
            rw [upd_ne nl2Y]
            exact s8 _ _ (bag_ne hb8 hl28 M2) hl28
          · have up : ∀ {z : Addr} {q : Sy}, TupAt H' z q → TupAt (upd H' Y (.lst (as.map V.ref ++ [.ref p']))) z q := fun {z q} h => by
              show upd H' Y _ z = _
              rw [upd_ne (ne_of h hY' fun w => nomatch w)]
              exact h
            exact (All2.imp hA8 fun z q h => up (h.but hb8 s8)).snoc (up hT')
          · rcases List.mem_append.mp hs with z | z
            · exact hdS s z
            · rw [List.mem_singleton.mp z]
              exact hdr'
        have fin : ∀ (D : Ends) v6 v8 H', BagAt H' b → IntsAt H' l ls → IntsAt H' l2 ls2 → (∃ as ss, H' Y = some (.lst (as.map V.ref)) ∧ All2 (TupAt H') as ss ∧ ss.length = i + 1 ∧ ∀ s, s ∈ ss → Drawn n s) →
            (fun (i : Nat) (σ : L2.St) (H' : Hp) => (∃ v6 v7 v8, σ = [some (.ref a), some (.ref b), some (.int (n : Nat)), some (.ref l), some (.ref l2), some (.ref Y), v6, v7, v8, none, none, none, none, none, none, none, none, none]) ∧ BagAt H' b ∧ IntsAt H' l ls ∧ IntsAt H' l2 ls2 ∧
        ∃ as ss, H' Y = some (.lst (as.map V.ref)) ∧ All2 (TupAt H') as ss ∧ ss.length = i ∧ ∀ s, s ∈ ss → Drawn n s) (i + 1) [some (.ref a), some (.ref b), some (.int (n : Nat)), some (.ref l), some (.ref l2), some (.ref Y), v6, some (.int kd), v8, none, none, none, none, none, none, none, none, none] H' := fun D v6 v8 H' e1 e2 e3 e4 => ⟨⟨_, _, _, rfl⟩, e1, e2, e3, e4⟩
        refine ⟨_, rfl, _, _, rfl, rfl, _, rfl, ite2 (fun _ => ?_) (fun _ => ?_)⟩
        · exact ⟨_, rfl, _, rfl, b, l, ls, rfl, hb9, hl9, L, fun p y H10 hdr hkp hT hp hb10 s10 => close p y H10 _ _ (by rw [← hlen]; exact hdr) hT hb10 (s9.trans s10) fun v6 v8 H' e1 e2 e3 e4 => fin ⟨fun _ _ => True, fun _ _ => True, fun _ _ => True, fun _ _ => True⟩ v6 v8 H' e1 e2 e3 e4⟩
        · exact ⟨_, rfl, _, rfl, b, n, rfl, hb9, by omega, hn16, fun p y H10 hdr hT hp hb10 s10 => close p y H10 _ _ hdr hT hb10 (s9.trans s10) fun v6 v8 H' e1 e2 e3 e4 => fin ⟨fun _ _ => True, fun _ _ => True, fun _ _ => True, fun _ _ => True⟩ v6 v8 H' e1 e2 e3 e4⟩
      · rintro σ H8 ⟨⟨v6, v7, v8, rfl⟩, hb8, hl8, hl28, as, ss, hY8, hA8, hlenS, hdS⟩
        have hss1 : 1 ≤ ss.length := by rw [hlenS]; omega
        have hss8 : ss.length ≤ 8 := by rw [hlenS]; omega
        refine ⟨_, rfl, fun o dx nx nd hne => ⟨o, dx, l, ls, rfl, upd_same, ?_, L, fun H9 hO9 hB9 => ⟨rfl, ?_⟩⟩⟩
        · show upd (upd H8 dx _) o _ l = _
          rw [upd_ne (ne_of_none hl8 nx), upd_ne (ne_of_none hl8 nd)]
          exact hl8
        have s9 : Same H8 H9 := same_make nx nd hB9
        have hl29 : IntsAt H9 l2 ls2 := s9 _ _ hl28
        refine ⟨_, rfl, fun o2 dx2 nx2 nd2 hne2 => ⟨o2, dx2, l2, ls2, rfl, upd_same, ?_, M2, fun H10 hO10 hB10 => ⟨rfl, _, _, rfl, ?_⟩⟩⟩
        · show upd (upd H9 dx2 _) o2 _ l2 = _
          rw [upd_ne (ne_of_none hl29 nx2), upd_ne (ne_of_none hl29 nd2)]
          exact hl29
        have s10 : Same H9 H10 := same_make nx2 nd2 hB10
        have s810 := s9.trans s10
        have S0 : LawS c [some (.ref a), some (.ref b), some (.int (n : Nat)), some (.ref l), some (.ref l2), some (.ref Y), v6, v7, v8, some (.ref o), some (.ref o2), none, none, none, none, none, none, none] H10 b o o2 l l2 Y ls ls2 as ss :=
          ⟨rfl, rfl, rfl, rfl, rfl, rfl, hb8.same s810, hO9.same s10, hO10, s810 _ _ hl8, s810 _ _ hl28, s810 _ _ hY8, All2.imp hA8 fun z q h => h.same s810, nY, L, M2, by rw [hlen, hlen2], hss1, hss8, by rw [hlen]; exact hdS⟩
        refine ⟨_, rfl, _, rfl, _, rfl, o, l, Y, ls, as, ss, rfl, S0.ord, L, S0.il, S0.hY, S0.tups, hss8, S0.dr, fun H11 t1 => ⟨_, rfl, iteF ?_⟩⟩
        have S1 := S0.same t1
        refine ⟨_, rfl, _, rfl, _, rfl, o2, l2, Y, ls2, as, ss, rfl, S1.oth, M2, S1.il2, S1.hY, S1.tups, hss8, (fun s hs => by rw [S1.len]; exact S1.dr s hs), fun H12 t2 => ⟨_, rfl, iteF ?_⟩⟩
        have S2 := S1.same t2
        refine ⟨_, rfl, _, rfl, _, rfl, Y, _, rfl, SqL.of S2.hY, fun rv hrv => ?_⟩
        have S3 := S2.same (same_upd (o := .lst (as.map V.ref).reverse) hrv)
        refine ⟨o, l, rv, ls, as.reverse, ss.reverse, rfl, S3.ord, L, S3.il, by rw [upd_same, List.map_reverse], S3.tups.rev, by rw [List.length_reverse]; exact hss8, (fun s hs => S3.dr s (List.mem_reverse.mp hs)), fun H13 t3 => ⟨_, rfl, iteF ?_⟩⟩
        have S4 := S3.same t3
        refine ⟨_, rfl, _, rfl, Nat.zero_le _, fun em hem => ?_⟩
        have S5 := S4.same (same_upd (o := .lst []) hem)
        refine ⟨o, l, em, ls, [], [], rfl, S5.ord, L, S5.il, upd_same, .nil, Nat.zero_le _, (fun s hs => by cases hs), fun H14 t4 => ⟨_, rfl, iteF ?_⟩⟩
        have S6 := S5.same t4
        refine ⟨_, rfl, _, _, rfl, rfl, _, rfl, ite2 (fun hn' => ?_) (fun _ => ⟨b, o, o2, l, l2, Y, ls, ls2, as, ss, S6, rfl⟩)⟩
        have hnlt : n < 16 := by
          have z : (n : Int) < 16 := of_decide_eq_true hn'
          omega
        refine ⟨_, rfl, _, rfl, b, Y, _, rfl, S6.bag, nY, SqL.of S6.hY, by rw [List.length_map, S6.tups.1]; exact hss1, by rw [List.length_map, S6.tups.1]; omega, fun js vs H15 hjs hb15 t5 => ?_⟩
        have S7 := S6.but t5 hb15
        obtain ⟨z, hz, rfl⟩ := ref_at2 hjs
        obtain ⟨y, hy, hT⟩ := S7.tups.at hz
        have hdr := hdS y (List.mem_of_getElem? hy)
        refine ⟨z, _, rfl, SqT.of hT, rfl, _, _, rfl, _, _, rfl, _, _, rfl, rfl, ?_⟩
        refine ⟨_, rfl, _, rfl, _, rfl, _, _, rfl, rfl, b, _, rfl, hb15, by omega, by omega, fun d H16 d0 d1 hb16 t6 => ⟨_, _, rfl, rfl, ?_⟩⟩
        obtain ⟨dn, rfl⟩ : ∃ j : Nat, d = (j : Int) := ⟨d.toNat, by omega⟩
        have hdn : n + dn ≤ 15 := by omega
        refine ⟨_, _, rfl, rfl, ⟨by omega, by omega, by decide⟩, ?_⟩
        dsimp only
        rw [show ((n : Nat) : Int) + ((dn : Nat) : Int) = ((n + dn : Nat) : Int) by omega, one_shl]
        have S8 := S7.but t6 hb16
        refine ⟨_, rfl, _, rfl, Y, _, rfl, .inl (SqL.of S8.hY), _, _, rfl, rfl, b, _, rfl, hb16, by omega, by rw [List.length_map, S8.tups.1]; omega, fun pl H17 p0 p1 hb17 t7 => ?_⟩
        rw [List.length_map, S8.tups.1] at p1
        have S9 := S8.but t7 hb17
        have hw : y.w < 2 ^ n := hdr.w
        have ht : y.t < 2 ^ n := hdr.t
        have hy16 := hdr.ok hn16
        have b1 := or_top (w := y.w) (Nat.le_add_right n dn) hdn hw
        have b2 := or_top (w := y.t) (Nat.le_add_right n dn) hdn ht
        have b3 : y.w ≤ y.w ||| 2 ^ (n + dn) := Nat.left_le_or
        have bf := bad_fits (n := n) (d := n + dn) (w := y.w) (t := y.t) (u := y.u) (Nat.le_add_right n dn)
        refine ⟨_, rfl, _, rfl, _, _, rfl, rfl, _, rfl, _, rfl, fun x1 dx1 nx1 nd1 hne1 => ⟨x1, dx1, ⟨y.w ||| 2 ^ (n + dn), y.t, y.u⟩, (by show [V.ref x1, V.int (Builtin.bitOr _ _), _, _] = _; rw [bitOr_nat]), ⟨Nat.le_trans hdr.pos b3, b1, hy16.2.2⟩, upd_same, fun H18 hS1 hB1 => ⟨rfl, ?_⟩⟩⟩
        have u1 : Same H17 H18 := same_make nx1 nd1 hB1
        refine ⟨_, rfl, _, rfl, _, rfl, _, _, rfl, rfl, _, rfl, fun x2 dx2 nx2 nd2 hne2 => ⟨x2, dx2, ⟨y.w, y.t ||| 2 ^ (n + dn), y.u⟩, (by show [V.ref x2, _, V.int (Builtin.bitOr _ _), _] = _; rw [bitOr_nat]), ⟨hdr.pos, hy16.2.1, b2⟩, upd_same, fun H19 hS2 hB2 => ⟨rfl, ?_⟩⟩⟩
        have u2 : Same H18 H19 := same_make nx2 nd2 hB2
        refine ⟨(by show 2 ≤ sizeLine; decide), fun tt htt => ?_⟩
        obtain ⟨H20, e20⟩ : ∃ H20, H20 = upd H19 tt (.tup [.ref x1, .ref x2]) := ⟨_, rfl⟩
        have u3 : Same H19 H20 := by rw [e20]; exact same_upd htt
        have htt20 : H20 tt = some (.tup [.ref x1, .ref x2]) := by rw [e20]; exact upd_same
        rw [← e20]
        have S20 := S9.same ((u1.trans u2).trans u3)
        have bad : ∀ (i : Nat) v, ([.ref x1, .ref x2] : List V)[i]? = some v → ∃ x s, v = .ref x ∧ SayAt c H20 x s ∧ s.ok ∧ ¬ s.fits n := fun i v e => by
          have m := List.mem_of_getElem? e
          rcases List.mem_cons.mp m with rfl | m
          · exact ⟨x1, _, rfl, hS1.same (u2.trans u3), ⟨Nat.le_trans hdr.pos b3, b1, hy16.2.2⟩, bf.1⟩
          rcases List.mem_cons.mp m with rfl | m
          · exact ⟨x2, _, rfl, hS2.same u3, ⟨hdr.pos, hy16.2.1, b2⟩, bf.2⟩
          cases m
        refine ⟨tt, rfl, ⟨_, SqT.of htt20⟩, ?_⟩
        refine for_it walk_tup (fun i σ H' => (∃ v16 v17, σ = [some (.ref a), some (.ref b), some (.int (n : Nat)), some (.ref l), some (.ref l2), some (.ref Y), v6, v7, v8, some (.ref o), some (.ref o2), some (.int (y.w : Nat)), some (.int (y.t : Nat)), some (.bl y.u), some (.int ((2 ^ (n + dn) : Nat) : Int)), some (.int pl), v16, v17]) ∧ Same H20 H') ⟨⟨_, _, rfl⟩, Same.refl H20⟩ (fun i σ H' _ q => SqT.of (q.2 _ _ htt20)) ?_ ?_
        · rintro i v σ H21o H21 hi ⟨⟨v16, v17, rfl⟩, w1⟩ ⟨rfl, hv⟩
          obtain ⟨x, sx, rfl, hx, hxo, hxn⟩ := bad i v hv
          have Q1 := S20.same w1
          have hx1 := hx.same w1
          have ok8 : ∀ s, s ∈ ss → s.ok := fun s hs => (hdS s hs).ok hn16
          refine ⟨_, rfl, Y, as, ss, rfl, Q1.hY, Q1.tups, by omega, ok8, fun Sx bs H22 hSx hSxn hB u4 => ?_⟩
          refine ⟨V.ref Sx, rfl, .inl ⟨rfl, _, SqL.of hSx⟩, _, rfl, _, rfl, Sx, bs.map V.ref, pl, .ref x, rfl, rfl, hSx, (by rw [List.length_map, hB.1]; exact small1000 (by omega)), p0, by omega, ?_⟩
          obtain ⟨H23, e23⟩ : ∃ H23, H23 = upd H22 Sx (.lst ((bs.map V.ref).take pl.toNat ++ [.ref x] ++ (bs.map V.ref).drop pl.toNat)) := ⟨_, rfl⟩
          rw [← e23]
          have w2 : Same H21 H23 := fun q ob e => by
            rw [e23, upd_ne (ne_of_none e hSxn)]
            exact u4 _ _ e
          have hC : H23 Sx = some (.lst ((bs.take pl.toNat ++ [x] ++ bs.drop pl.toNat).map V.ref)) := by
            rw [e23, upd_same, List.map_append, List.map_append, List.map_take, List.map_drop]
            rfl
          have up : ∀ {z : Addr} {q : Sy}, SayAt c H22 z q → SayAt c H23 z q := fun {z q} ⟨dz, h⟩ => ⟨dz, by
            rw [e23, upd_ne (ne_of h hSx fun w => nomatch w)]
            exact h⟩
          have hx3 := hx1.same w2
          have hAll : All2 (SayAt c H23) (bs.take pl.toNat ++ [x] ++ bs.drop pl.toNat) (ss.take pl.toNat ++ [sx] ++ ss.drop pl.toNat) :=
            (((All2.imp hB fun z q h => up h).take pl.toNat).snoc hx3).append ((All2.imp hB fun z q h => up h).drop pl.toNat)
          have hmem : sx ∈ ss.take pl.toNat ++ [sx] ++ ss.drop pl.toNat := List.mem_append.mpr (.inl (List.mem_append.mpr (.inr (List.mem_singleton.mpr rfl))))
          have hokA : ∀ s, s ∈ ss.take pl.toNat ++ [sx] ++ ss.drop pl.toNat → s.ok := fun s h => by
            rcases List.mem_append.mp h with h | h
            · rcases List.mem_append.mp h with h | h
              · exact ok8 s (List.mem_of_mem_take h)
              · rw [List.mem_singleton.mp h]
                exact hxo
            · exact ok8 s (List.mem_of_mem_drop h)
          have hlenA : (ss.take pl.toNat ++ [sx] ++ ss.drop pl.toNat).length ≤ 1000 := by
            rw [List.length_append, List.length_append, List.length_take, List.length_drop]
            show min pl.toNat ss.length + 1 + (ss.length - pl.toNat) ≤ 1000
            omega
          have hn1 : ¬ sx.fits ls.length := by rw [hlen]; exact hxn
          have hn2 : ¬ sx.fits ls2.length := by rw [hlen2]; exact hxn
          have ok1 : ∀ s, s ∈ [sx] → s.ok := fun s h => by rw [List.mem_singleton.mp h]; exact hxo
          have m1 : sx ∈ [sx] := List.mem_singleton.mpr rfl
          have one : ∀ {H' : Hp}, SayAt c H' x sx → All2 (SayAt c H') [x] [sx] := fun h => All2.snoc .nil h
          have Q3 := Q1.same w2
          refine ⟨_, rfl, _, rfl, o, .ref x, ls, 2, rfl, Q3.ord, L, .inl ⟨rfl, x, sx, rfl, hx3, hn1⟩, fun H24 u5 => ⟨_, rfl, iteF ?_⟩⟩
          refine ⟨_, rfl, _, rfl, (by show 1 ≤ sizeLine; decide), fun a1 ha1 => ?_⟩
          have w3 := u5.trans (same_upd (o := .lst [.ref x]) ha1)
          refine ⟨o, .ref a1, ls, 0, rfl, (Q3.same w3).ord, L, .inr ⟨.inl rfl, [x], [sx], ⟨a1, rfl, .inl upd_same⟩, one (hx3.same w3), (by show 1 ≤ 1000; decide), ok1, sx, m1, hn1⟩, fun H25 u6 => ⟨_, rfl, iteF ?_⟩⟩
          refine ⟨_, rfl, _, rfl, (by show 1 ≤ sizeLine; decide), fun a2 ha2 => ?_⟩
          have w4 := (w3.trans u6).trans (same_upd (o := .tup [.ref x]) ha2)
          refine ⟨o, .ref a2, ls, 1, rfl, (Q3.same w4).ord, L, .inr ⟨.inr rfl, [x], [sx], ⟨a2, rfl, .inr (.inl upd_same)⟩, one (hx3.same w4), (by show 1 ≤ 1000; decide), ok1, sx, m1, hn1⟩, fun H26 u7 => ⟨_, rfl, iteF ?_⟩⟩
          have w5 := w4.trans u7
          refine ⟨_, rfl, _, rfl, o, .ref Sx, ls, 0, rfl, (Q3.same w5).ord, L, .inr ⟨.inl rfl, _, _, ⟨Sx, rfl, .inl (w5 _ _ hC)⟩, All2.imp hAll fun z q h => h.same w5, hlenA, hokA, sx, hmem, hn1⟩, fun H27 u8 => ⟨_, rfl, iteF ?_⟩⟩
          have w6 := w5.trans u8
          refine ⟨_, rfl, _, rfl, Sx, _, rfl, .inl ⟨SqL.of (w6 _ _ hC), fun a3 ha3 => ?_⟩⟩
          have w7 := w6.trans (same_upd (o := .tup ((bs.take pl.toNat ++ [x] ++ bs.drop pl.toNat).map V.ref)) ha3)
          refine ⟨o2, .ref a3, ls2, 1, rfl, (Q3.same w7).oth, M2, .inr ⟨.inr rfl, _, _, ⟨a3, rfl, .inr (.inl upd_same)⟩, All2.imp hAll fun z q h => h.same w7, hlenA, hokA, sx, hmem, hn2⟩, fun H28 u9 => ⟨_, rfl, iteF ?_⟩⟩
          exact ⟨⟨_, _, rfl⟩, (w1.trans w2).trans (w7.trans u9)⟩
        · rintro σ H21 ⟨⟨v16, v17, rfl⟩, w1⟩
          exact ⟨b, o, o2, l, l2, Y, ls, ls2, as, ss, (S20.same w1).slots rfl rfl rfl rfl rfl rfl, rfl⟩
end
end K14

/-! The head: what the top has written, by names. -/
namespace K14
open PySem PySem.Spec PyProof.Rows L2
def dDays : He.DefD := ⟨("days_in", none), "days_in", "days_in", defArgs sDays, defBody sDays, defScope sDays, [], []⟩
def dOD : He.DefD := ⟨("OtherDays", some "__init__"), "__init__", "OtherDays.__init__", defArgs sOD, defBody sOD, defScope sOD, [], []⟩
def dWhole : He.DefD := ⟨("is_whole", none), "is_whole", "is_whole", defArgs sWhole, defBody sWhole, defScope sWhole, [], []⟩
def dChecked : He.DefD := ⟨("checked_layers", none), "checked_layers", "checked_layers", defArgs sChecked, defBody sChecked, defScope sChecked, [], []⟩
def dCheck : He.DefD := ⟨("check_days", none), "check_days", "check_days", defArgs sCheck, defBody sCheck, defScope sCheck, [], []⟩
def dFnk : He.DefD := ⟨("first_not_kept", none), "first_not_kept", "first_not_kept", defArgs sFnk, defBody sFnk, defScope sFnk, [], []⟩
def dOrdI : He.DefD := ⟨("Order", some "__init__"), "__init__", "Order.__init__", defArgs sOrdI, defBody sOrdI, defScope sOrdI, [], []⟩
def dOrdC : He.DefD := ⟨("Order", some "__call__"), "__call__", "Order.__call__", defArgs sOrdC, defBody sOrdC, defScope sOrdC, [], []⟩
def dLeast : He.DefD := ⟨("Order", some "least"), "least", "Order.least", defArgs sLeast, defBody sLeast, defScope sLeast, [], []⟩
def dNormal : He.DefD := ⟨("Order", some "normal"), "normal", "Order.normal", defArgs sNormal, defBody sNormal, defScope sNormal, [], []⟩
def dKeeps : He.DefD := ⟨("Order", some "keeps"), "keeps", "Order.keeps", defArgs sKeeps, defBody sKeeps, defScope sKeeps, [], []⟩
def dKeepsAll : He.DefD := ⟨("Order", some "keeps_all"), "keeps_all", "Order.keeps_all", defArgs sKeepsAll, defBody sKeepsAll, defScope sKeepsAll, [], []⟩
def dFault : He.DefD := ⟨("name_fault", none), "name_fault", "name_fault", defArgs sFault, defBody sFault, defScope sFault, [], []⟩
def dMarksI : He.DefD := ⟨("Marks", some "__init__"), "__init__", "Marks.__init__", defArgs sMarksI, defBody sMarksI, defScope sMarksI, [], []⟩
def dSayI : He.DefD := ⟨("Saying", some "__init__"), "__init__", "Saying.__init__", defArgs sSayI, defBody sSayI, defScope sSayI, [.bl true], []⟩
def dContrary : He.DefD := ⟨("Saying", some "contrary"), "contrary", "Saying.contrary", defArgs sContrary, defBody sContrary, defScope sContrary, [], []⟩
def dBookI : He.DefD := ⟨("Book", some "__init__"), "__init__", "Book.__init__", defArgs sBookI, defBody sBookI, defScope sBookI, [], []⟩
def dBookIt : He.DefD := ⟨("Book", some "__iter__"), "__iter__", "Book.__iter__", defArgs sBookIt, defBody sBookIt, defScope sBookIt, [], []⟩
def dLBag : He.DefD := ⟨("_law_bag", none), "_law_bag", "_law_bag", defArgs sLBag, defBody sLBag, defScope sLBag, [], []⟩
def dLTake : He.DefD := ⟨("_law_take", none), "_law_take", "_law_take", defArgs sLTake, defBody sLTake, defScope sLTake, [], []⟩
def dLOf : He.DefD := ⟨("_law_of", none), "_law_of", "_law_of", defArgs sLOf, defBody sLOf, defScope sLOf, [], []⟩
def dLLayers : He.DefD := ⟨("_law_layers", none), "_law_layers", "_law_layers", defArgs sLLayers, defBody sLLayers, defScope sLLayers, [], []⟩
def dLSides : He.DefD := ⟨("_law_sides", none), "_law_sides", "_law_sides", defArgs sLSides, defBody sLSides, defScope sLSides, [], []⟩
def dLKeeps : He.DefD := ⟨("_law_keeps", none), "_law_keeps", "_law_keeps", defArgs sLKeeps, defBody sLKeeps, defScope sLKeeps, [], []⟩
def dLToward : He.DefD := ⟨("_law_toward", none), "_law_toward", "_law_toward", defArgs sLToward, defBody sLToward, defScope sLToward, [], []⟩
def dLAny : He.DefD := ⟨("_law_any", none), "_law_any", "_law_any", defArgs sLAny, defBody sLAny, defScope sLAny, [], []⟩
def dLMarks : He.DefD := ⟨("_law_marks", none), "_law_marks", "_law_marks", defArgs sLMarks, defBody sLMarks, defScope sLMarks, [], []⟩
def dLSaid : He.DefD := ⟨("_law_said", none), "_law_said", "_law_said", defArgs sLSaid, defBody sLSaid, defScope sLSaid, [], []⟩
def dLFlag : He.DefD := ⟨("_law_flag", none), "_law_flag", "_law_flag", defArgs sLFlag, defBody sLFlag, defScope sLFlag, [], []⟩
def dLFirst : He.DefD := ⟨("_law_first", none), "_law_first", "_law_first", defArgs sLFirst, defBody sLFirst, defScope sLFirst, [], []⟩
def dLAnswers : He.DefD := ⟨("_law_answers", none), "_law_answers", "_law_answers", defArgs sLAnswers, defBody sLAnswers, defScope sLAnswers, [], []⟩
def dLRefused : He.DefD := ⟨("_law_refused", none), "_law_refused", "_law_refused", defArgs sLRefused, defBody sLRefused, defScope sLRefused, [], []⟩
def dLLong : He.DefD := ⟨("_law_long", none), "_law_long", "_law_long", defArgs sLLong, defBody sLLong, defScope sLLong, [], []⟩
def dLaw : He.DefD := ⟨("law", none), "law", "law", defArgs sLaw, defBody sLaw, defScope sLaw, [], []⟩
def hfn0 : List He.DefD := [dDays, dOD, dWhole, dChecked, dCheck, dFnk, dOrdI, dOrdC, dLeast, dNormal, dKeeps, dKeepsAll, dFault, dMarksI, dSayI, dContrary, dBookI, dBookIt, dLBag, dLTake, dLOf, dLLayers, dLSides, dLKeeps, dLToward, dLAny, dLMarks, dLSaid, dLFlag, dLFirst]
def hfn1 : List He.DefD := [dLAnswers, dLRefused, dLLong, dLaw]
def hfn : List He.DefD := hfn0 ++ hfn1
def hfa0 : List He.Fa := [.glo "COUNTS", .glo "KEPT_WORDS", .glo "OtherDays", .glo "DaysError", .glo "Marks", .glo "Saying", .glo "Book", .glo "Order", .glo "days_in", .glo "is_whole", .glo "checked_layers", .glo "check_days", .glo "first_not_kept", .glo "name_fault", .glo "_law_bag", .glo "_law_take", .glo "_law_of", .glo "_law_layers", .glo "_law_sides", .glo "_law_keeps", .glo "_law_toward", .glo "_law_any", .glo "_law_marks", .glo "_law_said", .glo "_law_flag", .glo "_law_first", .glo "_law_answers", .glo "_law_refused", .glo "_law_long", .glo "law"]
def hfa1 : List He.Fa := [.int "HIGHEST" (10 ^ 30), .int "MOST_MARKS" 4, .int "LONGEST_NAME" 8, .int "ALL_BITS" 65535, .int "MOST_SAYINGS" 12, .str "LETTERS" lettersS, .cls "Order", .mkr "Order", .cls "Marks", .mkr "Marks", .cls "Saying", .mkr "Saying", .cls "Book", .mkr "Book", .noat "Order" "layers", .noat "Marks" "names", .noat "Marks" "count", .noat "Marks" "days", .noat "Marks" "all_days", .noat "Saying" "where", .noat "Saying" "then", .noat "Saying" "usual", .noat "Saying" "confirm", .noat "Saying" "broken", .noat "Saying" "low", .noat "Saying" "high", .noat "Saying" "step", .noat "Book" "marks", .noat "Book" "sayings", .meth "Order" "least"]
def hfa2 : List He.Fa := [.meth "Order" "normal", .meth "Order" "keeps", .meth "Order" "keeps_all", .meth "Order" "__call__", .meth "Saying" "contrary", .meth "Book" "__iter__", .meth "OtherDays" "__init__", .exm "OtherDays" "DaysError" true, .free "isinstance", .free "len", .free "min", .free "sum", .free "abs", .free "enumerate", .free "zip", .free "range", .free "iter", .free "int", .free "bool", .free "str", .free "list", .free "tuple"]
def hfa : List He.Fa := hfa0 ++ hfa1 ++ hfa2
/-- an own class over ValueError, as it stands -/
def oexB (K : PySem.W.Frag) (C : Addr) : Bool := match K.lookup C with
  | some ⟨.type t, _, .cls ⟨_, _, .ref C' :: bm, _, _, hd, _, _, _, _, dl⟩, sl⟩ => decide (t = "type") && (decide (C' = C) && (hd && (!dl && (PySem.HandSPX.refsVE bm && (match sl.toList with
    | [_, _, _, _, some (.builtin n), _] => decide (n = "ValueError.__new__")
    | _ => false)))))
  | _ => false
theorem oexB_ok {K : PySem.W.Frag} {C : Addr} (h : oexB K C = true) : ∃ nm q N bs bm sn sub ab col dd k0 k1 k2 k3 k5, K.lookup C = some (excClassObj nm q C N bs bm true sn sub ab col dd k0 k1 k2 k3 k5 "ValueError.__new__") ∧ PySem.HandSPX.refsVE bm = true := by
  unfold oexB at h
  split at h
  · rename_i t dd nm bs C' bm N q hd sn sub ab col dl sl e
    simp only [Bool.and_eq_true, decide_eq_true_eq, Bool.not_eq_true'] at h
    obtain ⟨rfl, rfl, rfl, rfl, h5, h6⟩ := h
    split at h6
    · rename_i k0 k1 k2 k3 n k5 es
      have h6 : n = "ValueError.__new__" := of_decide_eq_true h6
      subst h6
      have e2 : sl = #[k0, k1, k2, k3, some (.builtin "ValueError.__new__"), k5] := by
        apply Array.toList_inj.mp
        rw [es]
      subst e2
      exact ⟨_, _, _, _, _, _, _, _, _, _, _, _, _, _, _, e, h5⟩
    · cases h6
  · cases h
def isB (K : PySem.W.Frag) (C : Addr) : Bool := He.eqO (PySem.W.findIn K (.ref C) "__class__") (some (some (.builtin "object.__class__"))) && (He.eqO (PySem.W.specialIn K (.builtin "object.__class__") "__get__") (some (some (.builtin "getset_descriptor.__get__"))) &&
  (decide (PySem.W.takesIn K (.builtin "object.__class__") = some true) && decide (PySem.W.mroIn K C (.type "object") = some true)))
theorem kit_self (K : PySem.W.Frag) (C : Addr) : PySem.W.kitOne K (.ref C) (.ref C) = some true := if_pos (beq_self_eq_true _)
theorem isB_ok {K : PySem.W.Frag} {C : Addr} (h : isB K C = true) : IsT K C := by
  obtain ⟨h1, h⟩ := He.ba h
  obtain ⟨h2, h⟩ := He.ba h
  obtain ⟨h3, h4⟩ := He.ba h
  exact ⟨He.eqO_ok h1, He.eqO_ok h2, of_decide_eq_true h3, of_decide_eq_true h4, kit_self K C⟩
/-- the errors -/
def errB (K : PySem.W.Frag) (C D : Addr) : Bool := oexB K C && (He.eqO (PySem.W.findIn K (.ref C) "__setattr__") (some (some (.builtin "object.__setattr__"))) && (decide (PySem.W.subIn K (.ref C) (.type "BaseException") = some true) && (decide (PySem.W.typeIn K (.ref C) = some (.type "type")) && (PySem.W.keepIn K (.ref C) &&
  (PySem.W.readsIn K D (.type "type") && (He.eqO (PySem.W.specialIn K (.ref D) "__getattribute__") (some (some (.builtin "type.__getattribute__"))) && ((match PySem.W.findCls K (.ref D) (.type "type") "__init__" with
    | some (.val (.builtin n)) => decide (n = "ValueError.__init__")
    | _ => false) &&
  (He.eqO (PySem.W.findIn K (.ref C) "__getattribute__") (some (some (.builtin "BaseException.__getattribute__"))) && (He.eqO (PySem.W.findIn K (.ref C) "__getattr__") (some none) && (PySem.W.hasDictIn K C && isB K C))))))))))
theorem errB_ok {K : PySem.W.Frag} {mg : Str → Option Value} {c : Cl} (h : errB K c.E c.D = true) (gE : mg "OtherDays" = some (.ref c.E)) (gD : mg "DaysError" = some (.ref c.D)) (exm : PySem.W.exmOne K (.ref c.E) (.ref c.D) = some true) : ErrT K mg c := by
  obtain ⟨h1, h⟩ := He.ba h
  obtain ⟨h2, h⟩ := He.ba h
  obtain ⟨h3, h⟩ := He.ba h
  obtain ⟨h4, h⟩ := He.ba h
  obtain ⟨h5, h⟩ := He.ba h
  obtain ⟨h6, h⟩ := He.ba h
  obtain ⟨h7, h⟩ := He.ba h
  obtain ⟨h8, h⟩ := He.ba h
  obtain ⟨h9, h⟩ := He.ba h
  obtain ⟨h10, h⟩ := He.ba h
  obtain ⟨h11, h12⟩ := He.ba h
  have i := isB_ok h12
  have fi : PySem.W.findCls K (.ref c.D) (.type "type") "__init__" = some (.val (.builtin "ValueError.__init__")) := by
    split at h8
    · rename_i n e
      have z : n = "ValueError.__init__" := of_decide_eq_true h8
      rw [z] at e
      exact e
    · cases h8
  exact ⟨⟨oexB_ok h1, He.eqO_ok h2, of_decide_eq_true h3, of_decide_eq_true h4, h5⟩, gE, gD, ⟨h6, He.eqO_ok h7⟩, fi, exm, ⟨He.eqO_ok h9, He.eqO_ok h10, of_decide_eq_true h3, h11, i.ha, i.hn, i.ht, i.hm⟩, kit_self K c.E⟩
def clK (K : PySem.W.Frag) : Cl := ⟨He.ga K "Order", He.ga K "Marks", He.ga K "Saying", He.ga K "Book", He.ga K "OtherDays", He.ga K "DaysError"⟩
def exB (K : PySem.W.Frag) : Bool := He.tupB K "COUNTS" [.int 2, .int 4, .int 8, .int 16] && (He.tupB K "KEPT_WORDS" (keptWords.map He.Dv.str) && (isB K (He.ga K "Marks") && (isB K (He.ga K "Saying") && errB K (He.ga K "OtherDays") (He.ga K "DaysError"))))
/-! the Hook -/
def fragK (n : Nat) (g : Addr → Option Obj) : PySem.W.Frag := He.frG g (cStatics :: He.asD g n)
def obsK (n : Nat) (g : Addr → Option Obj) : He.AlD × Bool := (He.obsD hfa hfn (fragK n g), exB (fragK n g))
def SaysK (K : PySem.W.Frag) : Prop := He.SaysD hfa hfn K ∧ exB K = true
def hookK (n : Nat) : PySem.W.Hook where
  α := He.AlD × Bool
  obs := fun s => obsK n s.heap.get?
  val := fun _ => (He.valD hfn, true)
  says := fun _ h => ∃ K : PySem.W.Frag, K.In h ∧ SaysK K
  of := fun _ _ e => ⟨_, He.frG_in, congrArg (fun z : He.AlD × Bool => z.1) e, congrArg (fun z : He.AlD × Bool => z.2) e⟩
  keeps := fun _ _ _ ⟨K, hK, c⟩ k => ⟨K, PySem.W.Frag.In.keeps hK k, c⟩
abbrev Rw : PySem.W.OpenRow := PySem.W.OpenLaw.row PySem.Challenge.rw_usualdays_k14_whole_keeping
def obK (s : PySem.W.SharedT) : He.AlD × Bool := obsK 4 (HandSHeadRun.getT s)
theorem obK_eq (s : PySem.W.SharedT) : obK s = (hookK 4).obs s.abs := by
  have e : HandSHeadRun.getT s = s.abs.heap.get? := funext (HandSHeadRun.getT_eq s)
  unfold obK
  rw [e] <;> rfl
def loose0 : List Str := ["_wall", "days_in", "DaysError", "BadMarks", "NoMark", "NoDay", "BadSaying", "BadBook", "NoSaying", "OtherDays", "BadOrder", "is_whole", "COUNTS", "HIGHEST", "checked_layers", "check_days", "check_same_days", "first_not_kept", "Order", "LETTERS", "KEPT_WORDS"]
def loose1 : List Str := ["MOST_MARKS", "LONGEST_NAME", "name_fault", "Marks", "ALL_BITS", "LAST_DAY", "Saying", "MOST_SAYINGS", "Book", "_law_bag", "_law_take", "_law_of", "_law_layers", "_law_sides", "_law_keeps", "_law_toward", "_law_any", "_law_marks", "_law_said", "_law_flag", "_law_first", "_law_answers", "_law_refused", "_law_long"]
def looseK : List Str := loose0 ++ loose1
end K14

namespace K14
open PySem PySem.Spec PyProof.Rows L2
theorem runK (w : World) : HandSHeadRun.RunEq Rw (PySem.W.view Rw.prog [53]) (hookK 4) obK 6200 looseK w := by
  intro os
  kernel_rfl
end K14

namespace K14
open PySem PySem.Spec PyProof.Rows L2
section
variable {K : PySem.W.Frag} {h : Heap} {mg : Str → Option Value}
theorem txtK (X : K.In h) (G : h.Ns mainGlobals mg) (c : SaysK K) : Txt K mg (clK K) := by
  refine ⟨?_, ?_, ?_, ?_, ?_, ?_, ?_, ?_, ?_⟩
  · exact He.cls_ok (c.1.fact 36 (f := .cls "Order") rfl)
  · exact He.cls_ok (c.1.fact 38 (f := .cls "Marks") rfl)
  · exact He.cls_ok (c.1.fact 40 (f := .cls "Saying") rfl)
  · exact He.cls_ok (c.1.fact 42 (f := .cls "Book") rfl)
  · intro f hf
    rcases List.mem_cons.mp hf with rfl | hf
    · exact He.noat_ok (c.1.fact 44 (f := .noat "Order" "layers") rfl)
    cases hf
  · intro f hf
    rcases List.mem_cons.mp hf with rfl | hf
    · exact He.noat_ok (c.1.fact 45 (f := .noat "Marks" "names") rfl)
    rcases List.mem_cons.mp hf with rfl | hf
    · exact He.noat_ok (c.1.fact 46 (f := .noat "Marks" "count") rfl)
    rcases List.mem_cons.mp hf with rfl | hf
    · exact He.noat_ok (c.1.fact 47 (f := .noat "Marks" "days") rfl)
    rcases List.mem_cons.mp hf with rfl | hf
    · exact He.noat_ok (c.1.fact 48 (f := .noat "Marks" "all_days") rfl)
    cases hf
  · intro f hf
    rcases List.mem_cons.mp hf with rfl | hf
    · exact He.noat_ok (c.1.fact 49 (f := .noat "Saying" "where") rfl)
    rcases List.mem_cons.mp hf with rfl | hf
    · exact He.noat_ok (c.1.fact 50 (f := .noat "Saying" "then") rfl)
    rcases List.mem_cons.mp hf with rfl | hf
    · exact He.noat_ok (c.1.fact 51 (f := .noat "Saying" "usual") rfl)
    rcases List.mem_cons.mp hf with rfl | hf
    · exact He.noat_ok (c.1.fact 52 (f := .noat "Saying" "confirm") rfl)
    rcases List.mem_cons.mp hf with rfl | hf
    · exact He.noat_ok (c.1.fact 53 (f := .noat "Saying" "broken") rfl)
    rcases List.mem_cons.mp hf with rfl | hf
    · exact He.noat_ok (c.1.fact 54 (f := .noat "Saying" "low") rfl)
    rcases List.mem_cons.mp hf with rfl | hf
    · exact He.noat_ok (c.1.fact 55 (f := .noat "Saying" "high") rfl)
    rcases List.mem_cons.mp hf with rfl | hf
    · exact He.noat_ok (c.1.fact 56 (f := .noat "Saying" "step") rfl)
    cases hf
  · intro f hf
    rcases List.mem_cons.mp hf with rfl | hf
    · exact He.noat_ok (c.1.fact 57 (f := .noat "Book" "marks") rfl)
    rcases List.mem_cons.mp hf with rfl | hf
    · exact He.noat_ok (c.1.fact 58 (f := .noat "Book" "sayings") rfl)
    cases hf
  · intro x hx
    rcases List.mem_cons.mp hx with rfl | hx
    · exact He.free_ok X G (c.1.fact 68 (f := .free "isinstance") rfl)
    rcases List.mem_cons.mp hx with rfl | hx
    · exact He.free_ok X G (c.1.fact 69 (f := .free "len") rfl)
    rcases List.mem_cons.mp hx with rfl | hx
    · exact He.free_ok X G (c.1.fact 70 (f := .free "min") rfl)
    rcases List.mem_cons.mp hx with rfl | hx
    · exact He.free_ok X G (c.1.fact 71 (f := .free "sum") rfl)
    rcases List.mem_cons.mp hx with rfl | hx
    · exact He.free_ok X G (c.1.fact 72 (f := .free "abs") rfl)
    rcases List.mem_cons.mp hx with rfl | hx
    · exact He.free_ok X G (c.1.fact 73 (f := .free "enumerate") rfl)
    rcases List.mem_cons.mp hx with rfl | hx
    · exact He.free_ok X G (c.1.fact 74 (f := .free "zip") rfl)
    rcases List.mem_cons.mp hx with rfl | hx
    · exact He.free_ok X G (c.1.fact 75 (f := .free "range") rfl)
    rcases List.mem_cons.mp hx with rfl | hx
    · exact He.free_ok X G (c.1.fact 76 (f := .free "iter") rfl)
    rcases List.mem_cons.mp hx with rfl | hx
    · exact He.free_ok X G (c.1.fact 77 (f := .free "int") rfl)
    rcases List.mem_cons.mp hx with rfl | hx
    · exact He.free_ok X G (c.1.fact 78 (f := .free "bool") rfl)
    rcases List.mem_cons.mp hx with rfl | hx
    · exact He.free_ok X G (c.1.fact 79 (f := .free "str") rfl)
    rcases List.mem_cons.mp hx with rfl | hx
    · exact He.free_ok X G (c.1.fact 80 (f := .free "list") rfl)
    rcases List.mem_cons.mp hx with rfl | hx
    · exact He.free_ok X G (c.1.fact 81 (f := .free "tuple") rfl)
    cases hx
theorem consK (X : K.In h) (G : h.Ns mainGlobals mg) (c : SaysK K) : Cons K mg := by
  obtain ⟨e1, e⟩ := He.ba c.2
  obtain ⟨e2, e⟩ := He.ba e
  refine ⟨⟨_, He.glo_ok X G (c.1.fact 0 (f := .glo "COUNTS") rfl), fun H => He.tupB_ok e1 H⟩, He.int_ok X G (c.1.fact 30 (f := .int "HIGHEST" (10 ^ 30)) rfl), He.str_ok X G (c.1.fact 35 (f := .str "LETTERS" lettersS) rfl), ⟨_, He.glo_ok X G (c.1.fact 1 (f := .glo "KEPT_WORDS") rfl), fun H => ?_⟩, He.int_ok X G (c.1.fact 31 (f := .int "MOST_MARKS" 4) rfl), He.int_ok X G (c.1.fact 32 (f := .int "LONGEST_NAME" 8) rfl), He.int_ok X G (c.1.fact 33 (f := .int "ALL_BITS" 65535) rfl), He.int_ok X G (c.1.fact 34 (f := .int "MOST_SAYINGS" 12) rfl)⟩
  have z := He.tupB_ok e2 H
  rw [List.map_map] at z
  exact z
end
theorem lawK {P : Program} {w : World} {K : PySem.W.Frag} {h : Heap} {mg : Str → Option Value} {f : Addr} (X : K.In h) (G : h.Ns mainGlobals mg) (hfa : mg ("law" : Str) = some (.ref f)) (c : SaysK K) :
    ∃ fd : FuncData, (∀ (s : Shared) (v : Value), BindsTo s fd ⟨[v], []⟩ [("_law_script", v)]) ∧ ∀ base : Heap, K.In base → base.Ns mainGlobals mg → FnOk P w K mg base CX0 9 f fd ["_law_script"] (spLaw K) := by
  have T := txtK X G c
  have N := consK X G c
  obtain ⟨_, ex⟩ := He.ba c.2
  obtain ⟨_, ex⟩ := He.ba ex
  obtain ⟨em, ex⟩ := He.ba ex
  obtain ⟨es, ee⟩ := He.ba ex
  have IM : IsT K (clK K).M := isB_ok em
  have IS : IsT K (clK K).S := isB_ok es
  have gM : mg "Marks" = some (.ref (clK K).M) := He.glo_ok X G (c.1.fact 4 (f := .glo "Marks") rfl)
  have gS : mg "Saying" = some (.ref (clK K).S) := He.glo_ok X G (c.1.fact 5 (f := .glo "Saying") rfl)
  have gB : mg "Book" = some (.ref (clK K).B) := He.glo_ok X G (c.1.fact 6 (f := .glo "Book") rfl)
  have gO : mg "Order" = some (.ref (clK K).O) := He.glo_ok X G (c.1.fact 7 (f := .glo "Order") rfl)
  have gE : mg "OtherDays" = some (.ref (clK K).E) := He.glo_ok X G (c.1.fact 2 (f := .glo "OtherDays") rfl)
  have gD : mg "DaysError" = some (.ref (clK K).D) := He.glo_ok X G (c.1.fact 3 (f := .glo "DaysError") rfl)
  have R : ErrT K mg (clK K) := errB_ok ee gE gD (He.exm_ok (c.1.fact 67 (f := .exm "OtherDays" "DaysError" true) rfl))
  obtain ⟨fdDays, FDays⟩ := c.1.def_ 0 (d := dDays) rfl
  have FDays : FnP K "days_in" "days_in" sDays (He.ga K "days_in") fdDays := FDays
  obtain ⟨fdOD, FOD⟩ := c.1.def_ 1 (d := dOD) rfl
  have FOD : FnP K "__init__" "OtherDays.__init__" sOD (He.ma K (He.ga K "OtherDays") "__init__") fdOD := FOD
  obtain ⟨fdWhole, FWhole⟩ := c.1.def_ 2 (d := dWhole) rfl
  have FWhole : FnP K "is_whole" "is_whole" sWhole (He.ga K "is_whole") fdWhole := FWhole
  obtain ⟨fdChecked, FChecked⟩ := c.1.def_ 3 (d := dChecked) rfl
  have FChecked : FnP K "checked_layers" "checked_layers" sChecked (He.ga K "checked_layers") fdChecked := FChecked
  obtain ⟨fdCheck, FCheck⟩ := c.1.def_ 4 (d := dCheck) rfl
  have FCheck : FnP K "check_days" "check_days" sCheck (He.ga K "check_days") fdCheck := FCheck
  obtain ⟨fdFnk, FFnk⟩ := c.1.def_ 5 (d := dFnk) rfl
  have FFnk : FnP K "first_not_kept" "first_not_kept" sFnk (He.ga K "first_not_kept") fdFnk := FFnk
  obtain ⟨fdOrdI, FOrdI⟩ := c.1.def_ 6 (d := dOrdI) rfl
  have FOrdI : FnP K "__init__" "Order.__init__" sOrdI (He.ma K (He.ga K "Order") "__init__") fdOrdI := FOrdI
  obtain ⟨fdOrdC, FOrdC⟩ := c.1.def_ 7 (d := dOrdC) rfl
  have FOrdC : FnP K "__call__" "Order.__call__" sOrdC (He.ma K (He.ga K "Order") "__call__") fdOrdC := FOrdC
  obtain ⟨fdLeast, FLeast⟩ := c.1.def_ 8 (d := dLeast) rfl
  have FLeast : FnP K "least" "Order.least" sLeast (He.ma K (He.ga K "Order") "least") fdLeast := FLeast
  obtain ⟨fdNormal, FNormal⟩ := c.1.def_ 9 (d := dNormal) rfl
  have FNormal : FnP K "normal" "Order.normal" sNormal (He.ma K (He.ga K "Order") "normal") fdNormal := FNormal
  obtain ⟨fdKeeps, FKeeps⟩ := c.1.def_ 10 (d := dKeeps) rfl
  have FKeeps : FnP K "keeps" "Order.keeps" sKeeps (He.ma K (He.ga K "Order") "keeps") fdKeeps := FKeeps
  obtain ⟨fdKeepsAll, FKeepsAll⟩ := c.1.def_ 11 (d := dKeepsAll) rfl
  have FKeepsAll : FnP K "keeps_all" "Order.keeps_all" sKeepsAll (He.ma K (He.ga K "Order") "keeps_all") fdKeepsAll := FKeepsAll
  obtain ⟨fdFault, FFault⟩ := c.1.def_ 12 (d := dFault) rfl
  have FFault : FnP K "name_fault" "name_fault" sFault (He.ga K "name_fault") fdFault := FFault
  obtain ⟨fdMarksI, FMarksI⟩ := c.1.def_ 13 (d := dMarksI) rfl
  have FMarksI : FnP K "__init__" "Marks.__init__" sMarksI (He.ma K (He.ga K "Marks") "__init__") fdMarksI := FMarksI
  obtain ⟨fdSayI, FSayI⟩ := c.1.def_ 14 (d := dSayI) rfl
  have FSayI : FunD K "__init__" "Saying.__init__" (defArgs sSayI) (defBody sSayI) (defScope sSayI) [.bl true] [] (He.ma K (He.ga K "Saying") "__init__") fdSayI := FSayI
  obtain ⟨fdContrary, FContrary⟩ := c.1.def_ 15 (d := dContrary) rfl
  have FContrary : FnP K "contrary" "Saying.contrary" sContrary (He.ma K (He.ga K "Saying") "contrary") fdContrary := FContrary
  obtain ⟨fdBookI, FBookI⟩ := c.1.def_ 16 (d := dBookI) rfl
  have FBookI : FnP K "__init__" "Book.__init__" sBookI (He.ma K (He.ga K "Book") "__init__") fdBookI := FBookI
  obtain ⟨fdBookIt, FBookIt⟩ := c.1.def_ 17 (d := dBookIt) rfl
  have FBookIt : FnP K "__iter__" "Book.__iter__" sBookIt (He.ma K (He.ga K "Book") "__iter__") fdBookIt := FBookIt
  obtain ⟨fdLBag, FLBag⟩ := c.1.def_ 18 (d := dLBag) rfl
  have FLBag : FnP K "_law_bag" "_law_bag" sLBag (He.ga K "_law_bag") fdLBag := FLBag
  obtain ⟨fdLTake, FLTake⟩ := c.1.def_ 19 (d := dLTake) rfl
  have FLTake : FnP K "_law_take" "_law_take" sLTake (He.ga K "_law_take") fdLTake := FLTake
  obtain ⟨fdLOf, FLOf⟩ := c.1.def_ 20 (d := dLOf) rfl
  have FLOf : FnP K "_law_of" "_law_of" sLOf (He.ga K "_law_of") fdLOf := FLOf
  obtain ⟨fdLLayers, FLLayers⟩ := c.1.def_ 21 (d := dLLayers) rfl
  have FLLayers : FnP K "_law_layers" "_law_layers" sLLayers (He.ga K "_law_layers") fdLLayers := FLLayers
  obtain ⟨fdLSides, FLSides⟩ := c.1.def_ 22 (d := dLSides) rfl
  have FLSides : FnP K "_law_sides" "_law_sides" sLSides (He.ga K "_law_sides") fdLSides := FLSides
  obtain ⟨fdLKeeps, FLKeeps⟩ := c.1.def_ 23 (d := dLKeeps) rfl
  have FLKeeps : FnP K "_law_keeps" "_law_keeps" sLKeeps (He.ga K "_law_keeps") fdLKeeps := FLKeeps
  obtain ⟨fdLToward, FLToward⟩ := c.1.def_ 24 (d := dLToward) rfl
  have FLToward : FnP K "_law_toward" "_law_toward" sLToward (He.ga K "_law_toward") fdLToward := FLToward
  obtain ⟨fdLAny, FLAny⟩ := c.1.def_ 25 (d := dLAny) rfl
  have FLAny : FnP K "_law_any" "_law_any" sLAny (He.ga K "_law_any") fdLAny := FLAny
  obtain ⟨fdLMarks, FLMarks⟩ := c.1.def_ 26 (d := dLMarks) rfl
  have FLMarks : FnP K "_law_marks" "_law_marks" sLMarks (He.ga K "_law_marks") fdLMarks := FLMarks
  obtain ⟨fdLSaid, FLSaid⟩ := c.1.def_ 27 (d := dLSaid) rfl
  have FLSaid : FnP K "_law_said" "_law_said" sLSaid (He.ga K "_law_said") fdLSaid := FLSaid
  obtain ⟨fdLFlag, FLFlag⟩ := c.1.def_ 28 (d := dLFlag) rfl
  have FLFlag : FnP K "_law_flag" "_law_flag" sLFlag (He.ga K "_law_flag") fdLFlag := FLFlag
  obtain ⟨fdLFirst, FLFirst⟩ := c.1.def_ 29 (d := dLFirst) rfl
  have FLFirst : FnP K "_law_first" "_law_first" sLFirst (He.ga K "_law_first") fdLFirst := FLFirst
  obtain ⟨fdLAnswers, FLAnswers⟩ := c.1.def_ 30 (d := dLAnswers) rfl
  have FLAnswers : FnP K "_law_answers" "_law_answers" sLAnswers (He.ga K "_law_answers") fdLAnswers := FLAnswers
  obtain ⟨fdLRefused, FLRefused⟩ := c.1.def_ 31 (d := dLRefused) rfl
  have FLRefused : FnP K "_law_refused" "_law_refused" sLRefused (He.ga K "_law_refused") fdLRefused := FLRefused
  obtain ⟨fdLLong, FLLong⟩ := c.1.def_ 32 (d := dLLong) rfl
  have FLLong : FnP K "_law_long" "_law_long" sLLong (He.ga K "_law_long") fdLLong := FLLong
  obtain ⟨fdLaw, FLaw⟩ := c.1.def_ 33 (d := dLaw) rfl
  have FLaw : FnP K "law" "law" sLaw (He.ga K "law") fdLaw := FLaw
  have bDays : Binds K fdDays ["day_set"] [] := FDays.bindsN fun _ _ _ _ _ _ us hl => match us, hl with | [_], _ => rfl
  have bOD : Binds K fdOD ["self"] [] := FOD.bindsN fun _ _ _ _ _ _ us hl => match us, hl with | [_], _ => rfl
  have bWhole : Binds K fdWhole ["thing", "low", "high"] [] := FWhole.bindsN fun _ _ _ _ _ _ us hl => match us, hl with | [_, _, _], _ => rfl
  have bChecked : Binds K fdChecked ["layers"] [] := FChecked.bindsN fun _ _ _ _ _ _ us hl => match us, hl with | [_], _ => rfl
  have bCheck : Binds K fdCheck ["order", "days"] [] := FCheck.bindsN fun _ _ _ _ _ _ us hl => match us, hl with | [_, _], _ => rfl
  have bFnk : Binds K fdFnk ["order", "sayings"] [] := FFnk.bindsN fun _ _ _ _ _ _ us hl => match us, hl with | [_, _], _ => rfl
  have bOrdI : Binds K fdOrdI ["self", "layers"] [] := FOrdI.bindsN fun _ _ _ _ _ _ us hl => match us, hl with | [_, _], _ => rfl
  have bOrdC : Binds K fdOrdC ["self", "sayings"] [] := FOrdC.bindsN fun _ _ _ _ _ _ us hl => match us, hl with | [_, _], _ => rfl
  have bLeast : Binds K fdLeast ["self", "days"] [] := FLeast.bindsN fun _ _ _ _ _ _ us hl => match us, hl with | [_, _], _ => rfl
  have bNormal : Binds K fdNormal ["self", "days"] [] := FNormal.bindsN fun _ _ _ _ _ _ us hl => match us, hl with | [_, _], _ => rfl
  have bKeeps : Binds K fdKeeps ["self", "saying"] [] := FKeeps.bindsN fun _ _ _ _ _ _ us hl => match us, hl with | [_, _], _ => rfl
  have bKeepsAll : Binds K fdKeepsAll ["self", "sayings"] [] := FKeepsAll.bindsN fun _ _ _ _ _ _ us hl => match us, hl with | [_, _], _ => rfl
  have bFault : Binds K fdFault ["thing"] [] := FFault.bindsN fun _ _ _ _ _ _ us hl => match us, hl with | [_], _ => rfl
  have bMarksI : Binds K fdMarksI ["self", "names"] [] := FMarksI.bindsN fun _ _ _ _ _ _ us hl => match us, hl with | [_, _], _ => rfl
  have bSayI : Binds K fdSayI ["self", "where", "then", "usual"] [] := by
    obtain ⟨ds, hds, hb⟩ := FSayI.binds1 (ps := ["self", "where", "then", "usual"]) 4 1 (by decide) rfl fun _ _ _ _ _ _ _ us its hl hi => match us, hl, its, hi with | [_, _, _, _], _, [_], _ => ⟨_, rfl, rfl⟩
    cases hds
    exact hb
  have bContrary : Binds K fdContrary ["self"] [] := FContrary.bindsN fun _ _ _ _ _ _ us hl => match us, hl with | [_], _ => rfl
  have bBookI : Binds K fdBookI ["self", "marks", "sayings"] [] := FBookI.bindsN fun _ _ _ _ _ _ us hl => match us, hl with | [_, _, _], _ => rfl
  have bLBag : Binds K fdLBag ["_law_script", "_law_at"] [] := FLBag.bindsN fun _ _ _ _ _ _ us hl => match us, hl with | [_, _], _ => rfl
  have bLTake : Binds K fdLTake ["_law_bag_here", "_law_many"] [] := FLTake.bindsN fun _ _ _ _ _ _ us hl => match us, hl with | [_, _], _ => rfl
  have bLOf : Binds K fdLOf ["_law_bag_here", "_law_some"] [] := FLOf.bindsN fun _ _ _ _ _ _ us hl => match us, hl with | [_, _], _ => rfl
  have bLLayers : Binds K fdLLayers ["_law_bag_here", "_law_days"] [] := FLLayers.bindsN fun _ _ _ _ _ _ us hl => match us, hl with | [_, _], _ => rfl
  have bLSides : Binds K fdLSides ["_law_saying"] [] := FLSides.bindsN fun _ _ _ _ _ _ us hl => match us, hl with | [_], _ => rfl
  have bLKeeps : Binds K fdLKeeps ["_law_layers_here", "_law_saying"] [] := FLKeeps.bindsN fun _ _ _ _ _ _ us hl => match us, hl with | [_, _], _ => rfl
  have bLToward : Binds K fdLToward ["_law_bag_here", "_law_layers_here"] [] := FLToward.bindsN fun _ _ _ _ _ _ us hl => match us, hl with | [_, _], _ => rfl
  have bLAny : Binds K fdLAny ["_law_bag_here", "_law_days"] [] := FLAny.bindsN fun _ _ _ _ _ _ us hl => match us, hl with | [_, _], _ => rfl
  have bLMarks : Binds K fdLMarks ["_law_days"] [] := FLMarks.bindsN fun _ _ _ _ _ _ us hl => match us, hl with | [_], _ => rfl
  have bLSaid : Binds K fdLSaid ["_law_sayings"] [] := FLSaid.bindsN fun _ _ _ _ _ _ us hl => match us, hl with | [_], _ => rfl
  have bLFlag : Binds K fdLFlag ["_law_thing", "_law_due"] [] := FLFlag.bindsN fun _ _ _ _ _ _ us hl => match us, hl with | [_, _], _ => rfl
  have bLFirst : Binds K fdLFirst ["_law_layers_here", "_law_sayings"] [] := FLFirst.bindsN fun _ _ _ _ _ _ us hl => match us, hl with | [_, _], _ => rfl
  have bLAnswers : Binds K fdLAnswers ["_law_order", "_law_layers_here", "_law_sayings"] [] := FLAnswers.bindsN fun _ _ _ _ _ _ us hl => match us, hl with | [_, _, _], _ => rfl
  have bLRefused : Binds K fdLRefused ["_law_order", "_law_thing", "_law_how"] [] := FLRefused.bindsN fun _ _ _ _ _ _ us hl => match us, hl with | [_, _, _], _ => rfl
  have bLLong : Binds K fdLLong ["_law_bag_here", "_law_order", "_law_layers_here"] [] := FLLong.bindsN fun _ _ _ _ _ _ us hl => match us, hl with | [_, _, _], _ => rfl
  refine ⟨fdLaw, fun s v => ?_, fun base KB GB => ?_⟩
  · have b := FunD.bindsA (ps := ["_law_script"]) FLaw fun _ _ _ _ _ _ us hl => match us, hl with | [_], _ => rfl
    exact b s [v] rfl
  · have mOD := He.meth_ok (c.1.fact 66 (f := .meth "OtherDays" "__init__") rfl)
    have tOD : PySem.W.typeIn K (.ref (He.ma K (He.ga K "OtherDays") "__init__")) = some (.type "function") := beq_iff_eq.mp (He.ba (He.ba (c.1.fact 66 (f := .meth "OtherDays" "__init__") rfl)).2).1
    have iOD : PySem.W.findIn K (.ref (clK K).E) "__init__" = some (some (.ref (He.ma K (He.ga K "OtherDays") "__init__"))) := He.eqO_ok (He.ba (c.1.fact 66 (f := .meth "OtherDays" "__init__") rfl)).1
    have iBk : PySem.W.findIn K (.ref (clK K).B) "__iter__" = some (some (.ref (He.ma K (He.ga K "Book") "__iter__"))) := He.eqO_ok (He.ba (c.1.fact 65 (f := .meth "Book" "__iter__") rfl)).1
    have B : BkT K mg (clK K) := ⟨⟨_, _, FBookIt, iBk, (He.ba (He.ba (c.1.fact 65 (f := .meth "Book" "__iter__") rfl)).2).1⟩⟩
    have GDays : GFn P w K mg base CX0 1 "days_in" ["day_set"] spDays := ⟨_, _, ok_days FDays T, He.glo_ok X G (c.1.fact 8 (f := .glo "days_in") rfl), FDays.kp, bDays⟩
    have GWhole : GFn P w K mg base CX0 1 "is_whole" ["thing", "low", "high"] spWhole := ⟨_, _, ok_whole FWhole T, He.glo_ok X G (c.1.fact 9 (f := .glo "is_whole") rfl), FWhole.kp, bWhole⟩
    have GChecked : GFn P w K mg base CX0 2 "checked_layers" ["layers"] spChecked := ⟨_, _, ok_checked FChecked T N GWhole, He.glo_ok X G (c.1.fact 10 (f := .glo "checked_layers") rfl), FChecked.kp, bChecked⟩
    have GCheck : GFn P w K mg base (L2.CX P w) 3 "check_days" ["order", "days"] (spCheck (clK K)) := ⟨_, _, ok_check FCheck T R FOD bOD iOD tOD, He.glo_ok X G (c.1.fact 11 (f := .glo "check_days") rfl), FCheck.kp, bCheck⟩
    have GOrdI : CFn P w K mg base CX0 3 "Order" (clK K).O ["self", "layers"] (spOrdI (clK K)) := ⟨_, _, ok_ordI FOrdI T GChecked, He.mkr_ok (c.1.fact 37 (f := .mkr "Order") rfl), gO, bOrdI⟩
    have GLeast : MFn P w K mg base CX0 4 (clK K).O "least" ["self", "days"] (spLeast (clK K)) := ⟨_, _, ok_least FLeast T GCheck GDays, He.meth_ok (c.1.fact 59 (f := .meth "Order" "least") rfl), bLeast⟩
    have GNormal : MFn P w K mg base CX0 5 (clK K).O "normal" ["self", "days"] (spNormal (clK K)) := ⟨_, _, ok_normal FNormal T GLeast GDays, He.meth_ok (c.1.fact 60 (f := .meth "Order" "normal") rfl), bNormal⟩
    have GKeeps : MFn P w K mg base (L2.CX P w) 5 (clK K).O "keeps" ["self", "saying"] (spKeeps (clK K)) := ⟨_, _, ok_keeps FKeeps T GCheck GLeast, He.meth_ok (c.1.fact 61 (f := .meth "Order" "keeps") rfl), bKeeps⟩
    have GFnk : GFn P w K mg base (L2.CX P w) 6 "first_not_kept" ["order", "sayings"] (spFnk (clK K)) := ⟨_, _, ok_fnk FFnk T B GCheck GKeeps, He.glo_ok X G (c.1.fact 12 (f := .glo "first_not_kept") rfl), FFnk.kp, bFnk⟩
    have GKeepsAll : MFn P w K mg base (L2.CX P w) 7 (clK K).O "keeps_all" ["self", "sayings"] (spAll (clK K)) := ⟨_, _, ok_keepsAll FKeepsAll GFnk, He.meth_ok (c.1.fact 62 (f := .meth "Order" "keeps_all") rfl), bKeepsAll⟩
    have GOrdC : OFn P w K mg base (L2.CX P w) 7 (clK K).O ["self", "sayings"] (spFnk (clK K)) := by
      refine ⟨_, _, ok_ordC FOrdC GFnk, ⟨He.eqO_ok (He.ba (c.1.fact 63 (f := .meth "Order" "__call__") rfl)).1, (He.ba (He.ba (c.1.fact 63 (f := .meth "Order" "__call__") rfl)).2).1, ?_⟩, bOrdC⟩
      obtain ⟨oc, od, dV, kV, doc, pm, an, cdv, ct, osl, e, lk, _⟩ := FOrdC.ex
      unfold PySem.W.fnIn
      rw [lk]
    have GFault : GFn P w K mg base CX0 1 "name_fault" ["thing"] spFault := ⟨_, _, ok_fault FFault T N, He.glo_ok X G (c.1.fact 13 (f := .glo "name_fault") rfl), FFault.kp, bFault⟩
    have GMarksI : CFn P w K mg base CX0 2 "Marks" (clK K).M ["self", "names"] (spMarksI (clK K)) := ⟨_, _, ok_marksI FMarksI T N GFault, He.mkr_ok (c.1.fact 39 (f := .mkr "Marks") rfl), gM, bMarksI⟩
    have GSayI : CFn P w K mg base CX0 2 "Saying" (clK K).S ["self", "where", "then", "usual"] (spSayI (clK K)) := ⟨_, _, ok_sayI FSayI T N GWhole, He.mkr_ok (c.1.fact 41 (f := .mkr "Saying") rfl), gS, bSayI⟩
    have GBookI : CFn P w K mg base CX0 2 "Book" (clK K).B ["self", "marks", "sayings"] (spBookI (clK K)) := ⟨_, _, ok_bookI FBookI T N IM IS gM gS, He.mkr_ok (c.1.fact 43 (f := .mkr "Book") rfl), gB, bBookI⟩
    have GContrary : MFn P w K mg base CX0 4 (clK K).S "contrary" ["self"] (spContrary (clK K)) := ⟨_, _, ok_contrary FContrary T GSayI, He.meth_ok (c.1.fact 64 (f := .meth "Saying" "contrary") rfl), bContrary⟩
    have GLBag : GFn P w K mg base CX0 1 "_law_bag" ["_law_script", "_law_at"] (spBag K) := ⟨_, _, ok_bag FLBag T, He.glo_ok X G (c.1.fact 14 (f := .glo "_law_bag") rfl), FLBag.kp, bLBag⟩
    have GLTake : GFn P w K mg base CX0 1 "_law_take" ["_law_bag_here", "_law_many"] spTake := ⟨_, _, ok_take FLTake T, He.glo_ok X G (c.1.fact 15 (f := .glo "_law_take") rfl), FLTake.kp, bLTake⟩
    have GLOf : GFn P w K mg base CX0 2 "_law_of" ["_law_bag_here", "_law_some"] (spOf K) := ⟨_, _, ok_of FLOf T GLTake, He.glo_ok X G (c.1.fact 16 (f := .glo "_law_of") rfl), FLOf.kp, bLOf⟩
    have GLLayers : GFn P w K mg base CX0 3 "_law_layers" ["_law_bag_here", "_law_days"] spLayers := ⟨_, _, ok_layers FLLayers T GLTake GLOf, He.glo_ok X G (c.1.fact 17 (f := .glo "_law_layers") rfl), FLLayers.kp, bLLayers⟩
    have GLSides : GFn P w K mg base CX0 1 "_law_sides" ["_law_saying"] spSides := ⟨_, _, ok_sides FLSides, He.glo_ok X G (c.1.fact 18 (f := .glo "_law_sides") rfl), FLSides.kp, bLSides⟩
    have GLKeeps : GFn P w K mg base CX0 2 "_law_keeps" ["_law_layers_here", "_law_saying"] spLKeeps := ⟨_, _, ok_lkeeps FLKeeps T GLSides, He.glo_ok X G (c.1.fact 19 (f := .glo "_law_keeps") rfl), FLKeeps.kp, bLKeeps⟩
    have GLToward : GFn P w K mg base CX0 3 "_law_toward" ["_law_bag_here", "_law_layers_here"] spToward := ⟨_, _, ok_toward FLToward T GLTake GLOf, He.glo_ok X G (c.1.fact 20 (f := .glo "_law_toward") rfl), FLToward.kp, bLToward⟩
    have GLAny : GFn P w K mg base CX0 2 "_law_any" ["_law_bag_here", "_law_days"] spAny := ⟨_, _, ok_any FLAny GLTake, He.glo_ok X G (c.1.fact 21 (f := .glo "_law_any") rfl), FLAny.kp, bLAny⟩
    have GLMarks : GFn P w K mg base CX0 4 "_law_marks" ["_law_days"] (spLMarks (clK K)) := ⟨_, _, ok_lmarks FLMarks T GMarksI, He.glo_ok X G (c.1.fact 22 (f := .glo "_law_marks") rfl), FLMarks.kp, bLMarks⟩
    have GLSaid : GFn P w K mg base CX0 4 "_law_said" ["_law_sayings"] (spSaid (clK K)) := ⟨_, _, ok_said FLSaid T GSayI, He.glo_ok X G (c.1.fact 23 (f := .glo "_law_said") rfl), FLSaid.kp, bLSaid⟩
    have GLFlag : GFn P w K mg base CX0 1 "_law_flag" ["_law_thing", "_law_due"] spFlag := ⟨_, _, ok_flag FLFlag, He.glo_ok X G (c.1.fact 24 (f := .glo "_law_flag") rfl), FLFlag.kp, bLFlag⟩
    have GLFirst : GFn P w K mg base CX0 3 "_law_first" ["_law_layers_here", "_law_sayings"] spFirst := ⟨_, _, ok_first FLFirst T GLKeeps, He.glo_ok X G (c.1.fact 25 (f := .glo "_law_first") rfl), FLFirst.kp, bLFirst⟩
    have GLAnswers : GFn P w K mg base CX0 8 "_law_answers" ["_law_order", "_law_layers_here", "_law_sayings"] (spAnswers (clK K)) := ⟨_, _, ok_answers FLAnswers T GLSaid GLFirst GBookI GLMarks GOrdC GKeepsAll GKeeps GNormal GContrary GLKeeps GLFlag, He.glo_ok X G (c.1.fact 26 (f := .glo "_law_answers") rfl), FLAnswers.kp, bLAnswers⟩
    have GLRefused : GFn P w K mg base CX0 8 "_law_refused" ["_law_order", "_law_thing", "_law_how"] (spRefused (clK K)) := ⟨_, _, ok_refused FLRefused T R GOrdC GKeepsAll GKeeps, He.glo_ok X G (c.1.fact 27 (f := .glo "_law_refused") rfl), FLRefused.kp, bLRefused⟩
    have GLLong : GFn P w K mg base CX0 8 "_law_long" ["_law_bag_here", "_law_order", "_law_layers_here"] (spLong (clK K)) := ⟨_, _, ok_long FLLong T GLSaid GLToward GOrdC GKeepsAll GContrary GLFlag, He.glo_ok X G (c.1.fact 28 (f := .glo "_law_long") rfl), FLLong.kp, bLLong⟩
    have e := hfa.symm.trans (He.glo_ok X G (c.1.fact 29 (f := .glo "law") rfl))
    cases e
    exact ok_law FLaw T GLBag GLTake GLOf GLLayers GLToward GLAny GOrdI GLAnswers GSayI GLSaid GLRefused GLLong
end K14
open PySem PySem.W PySem.Calls PyProof.Rows
theorem PySem.Challenge.cw_usualdays_k14_whole_keeping_holds : PySem.Challenge.rw_usualdays_k14_whole_keeping.Holds := by
  w_on; o_law
  refine HandSHeadRun.head_any (r := OpenLaw.row PySem.Challenge.rw_usualdays_k14_whole_keeping) (q := view K14.Rw.prog [53]) (H := K14.hookK 4) (ob := K14.obK) (M := 6200) (loose := K14.looseK) (d := HandSHeadRun.topDef (OpenLaw.row PySem.Challenge.rw_usualdays_k14_whole_keeping).prog 53) (kwd := []) K14.obK_eq
    (by kernel_rfl) (fun s => by kernel_rfl) K14.runK (by kernel_rfl) (by kernel_rfl) (by kernel_rfl) (by rfl) (by first | assumption | decide +kernel) (by decide +kernel) ⟨rfl, rfl, rfl, rfl, rfl, by decide +kernel⟩ ?hw ?hc
  case hw => w_witness2
  case hc =>
    refine L2.walk_ofE (l := PySem.Challenge.rw_usualdays_k14_whole_keeping) (n := 63) (k := 9) (x := "_law_script") (CX := L2.CX0) rfl (by decide) (by kernel_rfl) ⟨rfl, by decide, by decide⟩ ?F (fun _ _ _ _ z => z)
    intro w mg fa h Y G hmg0
    obtain ⟨K, KX, c⟩ := Y
    have hmg : mg ("law" : PySem.Str) = some (.ref fa) := by
      have e : (HandSHeadRun.topDef (OpenLaw.row PySem.Challenge.rw_usualdays_k14_whole_keeping).prog 53).name = ("law" : PySem.Str) := by kernel_rfl
      rw [← e]
      exact hmg0
    obtain ⟨fd, hb, hF⟩ := K14.lawK (P := (PySem.Challenge.rw_usualdays_k14_whole_keeping).prog) (w := w) KX G hmg c
    exact ⟨K, fd, K14.spLaw K, KX, hb, fun H a ns hl _ hS => ⟨a, ns, rfl, hS, hl, fun _ => rfl⟩, hF⟩
