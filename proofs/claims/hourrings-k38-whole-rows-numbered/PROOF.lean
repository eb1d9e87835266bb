import PyProof.Rows.All
import Wide.All
import OpenK.AllK
import Wide.FinOn
import KE.KStateDown
import HandS.ForMost
import HandS.WordsExc
import HandS.Defaults
import HandS.Head0
import HandS.Head1
import HandS.Head2
import HandS.HeadEnd
import HandS.HeadHook1
import HandS.HeadHook2
import HandS.Evl
import HandS.Style
import HandS.Wide
import HandS.WideBits
import HandS.IsInst
import HandS.StrMore
import HandS.NoneIn
import HandS.More
import KE.KDictKeyed
import HandS.Text
import KE.DataCmp
import HandS.Strs
import PyProof.Rows.SortStr
import KE.KDictZip
import KE.GoesEnumKw
import HandS.New
import KE.SortData
import HandS.Ends
import PySem.Challenge.RW_hourrings_k38_whole_rows_numbered
set_option Elab.async false
set_option linter.all false
set_option maxRecDepth 100000
set_option maxHeartbeats 0
/-! ## HeadD -/
namespace Hd
open PySem PySem.Spec PyProof.Rows L2
def top (i : Nat) : Stmt := PySem.Challenge.pw_hourrings_k38_whole_rows_numbered.main.body.getD i (.Pass ⟨0, 0, 0, 0⟩)
def dd (x : Str) (i : Nat) : He.DefD := ⟨(x, none), x, x, defArgs (top i), defBody (top i), defScope (top i), [], []⟩
def fn : List He.DefD := [dd "is_whole" 14, dd "is_count" 15, dd "check_number" 16, dd "is_kind" 17, dd "is_number_of" 18, dd "name_fits" 19, dd "are_names" 20, dd "line_fits" 21, dd "lines_fit" 22, dd "book_fits" 23, dd "check_book" 24, dd "pair_fits" 25, dd "numbers_fit" 26, dd "names_in_lines" 27, dd "add_in" 28, dd "less_in" 29, dd "turned_in" 30, dd "times_in" 31, dd "divided_in" 32, dd "rest_in" 33, dd "over_in" 34, dd "is_multiple_in" 35, dd "divisor_in" 36, dd "multiple_in" 37, dd "bezout_in" 38, dd "met_in" 39, dd "keeps_in" 40, dd "nothing_told" 42, dd "met_at" 43, dd "put_line" 44, dd "joined_at" 45, dd "closed_in" 46, dd "check_some" 48, dd "told_rest" 49, dd "denied_in" 50, dd "check_period" 53, dd "by_rests" 54, dd "choices_of" 55, dd "choice_at" 56, dd "place_of" 57, dd "bases_in" 58, dd "product_of" 59, dd "closed_rows" 60, dd "many_rows" 61, dd "how_many_rows" 62, dd "is_within" 63, dd "row_keeps" 64, dd "keeps_row" 65, dd "choices_left" 66, dd "row_in" 67, dd "row_numbered" 68, dd "number_in" 69, dd "check_row" 70, dd "number_of_row" 71, dd "all_rows" 72, dd "next_row" 73, dd "how_many_with" 74, dd "_law_hash" 76, dd "_law_random" 77, dd "_law_cell" 78, dd "_law_generator" 79, dd "_law_rest" 80, dd "_law_less" 81, dd "_law_plus" 82, dd "_law_size" 84, dd "_law_period" 85, dd "_law_book" 86, dd "_law_names" 87, dd "_law_rows" 90, dd "_law_all" 98, dd "_law_product" 99, dd "_law_times" 100, dd "_law_small" 101, dd "_law_right" 102, dd "_law_great" 103, dd "_law_great_right" 104, dd "law" 105]
def fa : List He.Fa := [.glo "is_whole", .glo "is_count", .glo "check_number", .glo "is_kind", .glo "is_number_of", .glo "name_fits", .glo "are_names", .glo "line_fits", .glo "lines_fit", .glo "book_fits", .glo "check_book", .glo "pair_fits", .glo "numbers_fit", .glo "names_in_lines", .glo "add_in", .glo "less_in", .glo "turned_in", .glo "times_in", .glo "divided_in", .glo "rest_in", .glo "over_in", .glo "is_multiple_in", .glo "divisor_in", .glo "multiple_in", .glo "bezout_in", .glo "met_in", .glo "keeps_in", .glo "nothing_told", .glo "met_at", .glo "put_line", .glo "joined_at", .glo "closed_in", .glo "check_some", .glo "told_rest", .glo "denied_in", .glo "check_period", .glo "by_rests", .glo "choices_of", .glo "choice_at", .glo "place_of", .glo "bases_in", .glo "product_of", .glo "closed_rows", .glo "many_rows", .glo "how_many_rows", .glo "is_within", .glo "row_keeps", .glo "keeps_row", .glo "choices_left", .glo "row_in", .glo "row_numbered", .glo "number_in", .glo "check_row", .glo "number_of_row", .glo "all_rows", .glo "next_row", .glo "how_many_with", .glo "_law_hash", .glo "_law_random", .glo "_law_cell", .glo "_law_generator", .glo "_law_rest", .glo "_law_less", .glo "_law_plus", .glo "_law_size", .glo "_law_period", .glo "_law_book", .glo "_law_names", .glo "_law_rows", .glo "_law_all", .glo "_law_product", .glo "_law_times", .glo "_law_small", .glo "_law_right", .glo "_law_great", .glo "_law_great_right", .glo "law", .free "bool", .free "dict", .free "enumerate", .free "int", .free "isinstance", .free "len", .free "list", .free "max", .free "range", .free "repr", .free "set", .free "sorted", .free "str", .free "sum", .free "tuple", .free "zip", .str "FIGURES" "0123456789", .str "LETTERS" "abcdefghijklmnopqrstuvwxyz", .int "MOST_FIGURES" 3, .int "MOST_LETTERS" 6, .int "MOST_ROWS" 2000]
def lo0 : List Str := [("HourError" : Str), ("InvalidNumber" : Str), ("InvalidNames" : Str), ("InvalidBook" : Str), ("InvalidNumbers" : Str), ("InvalidRow" : Str), ("InvalidPeriod" : Str), ("TooMany" : Str), ("LETTERS" : Str), ("FIGURES" : Str), ("MOST_LETTERS" : Str), ("MOST_FIGURES" : Str), ("is_whole" : Str), ("is_count" : Str), ("check_number" : Str)]
def lo1 : List Str := [("is_kind" : Str), ("is_number_of" : Str), ("name_fits" : Str), ("are_names" : Str), ("line_fits" : Str), ("lines_fit" : Str), ("book_fits" : Str), ("check_book" : Str), ("pair_fits" : Str), ("numbers_fit" : Str), ("names_in_lines" : Str), ("add_in" : Str), ("less_in" : Str), ("turned_in" : Str), ("times_in" : Str)]
def lo2 : List Str := [("divided_in" : Str), ("rest_in" : Str), ("over_in" : Str), ("is_multiple_in" : Str), ("divisor_in" : Str), ("multiple_in" : Str), ("bezout_in" : Str), ("met_in" : Str), ("keeps_in" : Str), ("nothing_told" : Str), ("met_at" : Str), ("put_line" : Str), ("joined_at" : Str), ("closed_in" : Str), ("check_some" : Str)]
def lo3 : List Str := [("told_rest" : Str), ("denied_in" : Str), ("MOST_ROWS" : Str), ("check_period" : Str), ("by_rests" : Str), ("choices_of" : Str), ("choice_at" : Str), ("place_of" : Str), ("bases_in" : Str), ("product_of" : Str), ("closed_rows" : Str), ("many_rows" : Str), ("how_many_rows" : Str), ("is_within" : Str), ("row_keeps" : Str)]
def lo4 : List Str := [("keeps_row" : Str), ("choices_left" : Str), ("row_in" : Str), ("row_numbered" : Str), ("number_in" : Str), ("check_row" : Str), ("number_of_row" : Str), ("all_rows" : Str), ("next_row" : Str), ("how_many_with" : Str), ("_law_hash" : Str), ("_law_random" : Str), ("_law_cell" : Str), ("_law_generator" : Str), ("_law_rest" : Str)]
def lo5 : List Str := [("_law_less" : Str), ("_law_plus" : Str), ("_law_divisor" : Str), ("_law_size" : Str), ("_law_period" : Str), ("_law_book" : Str), ("_law_names" : Str), ("_law_roots" : Str), ("_law_exact_right" : Str), ("_law_rows" : Str), ("_law_strongest" : Str), ("_law_line" : Str), ("_law_goes" : Str), ("_law_kept" : Str), ("_law_given" : Str)]
def lo6 : List Str := [("_law_with" : Str), ("_law_told" : Str), ("_law_all" : Str), ("_law_product" : Str), ("_law_times" : Str), ("_law_small" : Str), ("_law_right" : Str), ("_law_great" : Str), ("_law_great_right" : Str)]
def loose : List Str := lo0 ++ lo1 ++ lo2 ++ lo3 ++ lo4 ++ lo5 ++ lo6
abbrev R : PySem.W.OpenRow := PySem.W.OpenLaw.row PySem.Challenge.rw_hourrings_k38_whole_rows_numbered
abbrev hk : PySem.W.Hook := He.hookD 2 fa fn
def ob (s : PySem.W.SharedT) : He.AlD := He.obsDG 2 fa fn (HandSHeadRun.getT s)
theorem ob_eq (s : PySem.W.SharedT) : ob s = hk.obs s.abs := He.obsDG_eq (HandSHeadRun.getT_eq s)
end Hd

/-! ## HeadR -/
/-! The head's run, over HeadD. -/
namespace Hd
open PySem PySem.Spec PyProof.Rows L2
theorem run (w : World) : HandSHeadRun.RunEq R (PySem.W.view R.prog [105]) hk ob 8000 loose w := by
  intro os
  kernel_rfl
end Hd

/-! ## Ring -/
/-! Words of bits as a ring: xor, products without carries. Plain Lean. -/
namespace Q
/-! ### xor on naturals -/
theorem two_xor (x y : Nat) : 2 * (x ^^^ y) = (2 * x) ^^^ (2 * y) := by
  apply Nat.eq_of_testBit_eq
  intro i
  rw [Nat.testBit_xor]
  cases i with
  | zero => simp [Nat.testBit_zero]
  | succ i =>
    rw [Nat.testBit_succ, Nat.testBit_succ, Nat.testBit_succ, ← Nat.testBit_xor]
    congr 1
    simp
theorem xor_div2 (x y : Nat) : (x ^^^ y) / 2 = (x / 2) ^^^ (y / 2) := by
  apply Nat.eq_of_testBit_eq
  intro i
  rw [Nat.testBit_xor, ← Nat.testBit_succ, ← Nat.testBit_succ, ← Nat.testBit_succ, Nat.testBit_xor]
theorem xor_mod2 (x y : Nat) : (x ^^^ y) % 2 = (x % 2 + y % 2) % 2 := by
  have h : (x ^^^ y).testBit 0 = (x.testBit 0 ^^ y.testBit 0) := Nat.testBit_xor ..
  simp only [Nat.testBit_zero] at h
  rcases Nat.mod_two_eq_zero_or_one x with hx | hx <;> rcases Nat.mod_two_eq_zero_or_one y with hy | hy <;> rcases Nat.mod_two_eq_zero_or_one (x ^^^ y) with hz | hz <;> simp [hx, hy, hz] at h ⊢
theorem xor_ac (a b c d : Nat) : (a ^^^ b) ^^^ (c ^^^ d) = (a ^^^ c) ^^^ (b ^^^ d) := by
  rw [Nat.xor_assoc, Nat.xor_assoc, ← Nat.xor_assoc b c d, Nat.xor_comm b c, Nat.xor_assoc c b d]
theorem split2 (b : Nat) : (b % 2) ^^^ (2 * (b / 2)) = b := by
  apply Nat.eq_of_testBit_eq
  intro i
  rw [Nat.testBit_xor]
  cases i with
  | zero => simp [Nat.testBit_zero]
  | succ i =>
    rw [Nat.testBit_succ, Nat.testBit_succ, Nat.testBit_succ]
    have h1 : b % 2 / 2 = 0 := by omega
    have h2 : 2 * (b / 2) / 2 = b / 2 := by omega
    rw [h1, h2]
    simp
/-- the part of a for a lowest bit -/
def pt (a b : Nat) : Nat := if b % 2 = 1 then a else 0
theorem pt_xorL (a a' b : Nat) : pt (a ^^^ a') b = pt a b ^^^ pt a' b := by unfold pt; split <;> simp
theorem pt_xorR (a b b' : Nat) : pt a (b ^^^ b') = pt a b ^^^ pt a b' := by
  unfold pt
  rw [xor_mod2]
  rcases Nat.mod_two_eq_zero_or_one b with h | h <;> rcases Nat.mod_two_eq_zero_or_one b' with h' | h' <;> simp [h, h']
theorem pt_two (a b : Nat) : pt (2 * a) b = 2 * pt a b := by unfold pt; split <;> simp
/-- the product, f bits of the second one looked at -/
def cmG : Nat → Nat → Nat → Nat
  | 0, _, _ => 0
  | f + 1, a, b => pt a b ^^^ 2 * cmG f a (b / 2)
theorem cmG_zeroR : ∀ f a, cmG f a 0 = 0
  | 0, _ => rfl
  | f + 1, a => by
    show pt a 0 ^^^ 2 * cmG f a 0 = 0
    rw [cmG_zeroR f a]
    simp [pt]
theorem cmG_more : ∀ {f a b}, b < 2 ^ f → cmG (f + 1) a b = cmG f a b
  | 0, a, b, h => by
    have e : b = 0 := by simpa using h
    rw [e, cmG_zeroR, cmG_zeroR]
  | f + 1, a, b, h => by
    show pt a b ^^^ 2 * cmG (f + 1) a (b / 2) = pt a b ^^^ 2 * cmG f a (b / 2)
    rw [cmG_more (f := f) (by rw [Nat.pow_succ] at h; omega)]
theorem cmG_add {a b f : Nat} (h : b < 2 ^ f) : ∀ k, cmG (f + k) a b = cmG f a b
  | 0 => rfl
  | k + 1 => by
    show cmG (f + k + 1) a b = _
    rw [cmG_more (Nat.lt_of_lt_of_le h (Nat.pow_le_pow_right (by decide) (by omega))), cmG_add h k]
theorem cmG_any {a b f g : Nat} (h : b < 2 ^ f) (h' : b < 2 ^ g) : cmG f a b = cmG g a b := by
  rcases Nat.le_total f g with q | q
  · obtain ⟨k, rfl⟩ := Nat.le.dest q
    exact (cmG_add h k).symm
  · obtain ⟨k, rfl⟩ := Nat.le.dest q
    exact cmG_add h' k
theorem cmG_xorL : ∀ f a a' b, cmG f (a ^^^ a') b = cmG f a b ^^^ cmG f a' b
  | 0, _, _, _ => by simp [cmG]
  | f + 1, a, a', b => by
    show pt (a ^^^ a') b ^^^ 2 * cmG f (a ^^^ a') (b / 2) = (pt a b ^^^ 2 * cmG f a (b / 2)) ^^^ (pt a' b ^^^ 2 * cmG f a' (b / 2))
    rw [cmG_xorL f, two_xor, pt_xorL, xor_ac]
theorem cmG_xorR : ∀ f a b b', cmG f a (b ^^^ b') = cmG f a b ^^^ cmG f a b'
  | 0, _, _, _ => by simp [cmG]
  | f + 1, a, b, b' => by
    show pt a (b ^^^ b') ^^^ 2 * cmG f a ((b ^^^ b') / 2) = (pt a b ^^^ 2 * cmG f a (b / 2)) ^^^ (pt a b' ^^^ 2 * cmG f a (b' / 2))
    rw [xor_div2, cmG_xorR f, two_xor, pt_xorR, xor_ac]
theorem cmG_two : ∀ f a b, cmG f (2 * a) b = 2 * cmG f a b
  | 0, _, _ => rfl
  | f + 1, a, b => by
    show pt (2 * a) b ^^^ 2 * cmG f (2 * a) (b / 2) = 2 * (pt a b ^^^ 2 * cmG f a (b / 2))
    rw [cmG_two f, pt_two, two_xor]
/-- bits: 0 has none -/
def len (n : Nat) : Nat := if n = 0 then 0 else n.log2 + 1
theorem len_lt (n : Nat) : n < 2 ^ len n := by
  unfold len
  split
  · rename_i h; rw [h]; decide
  · exact Nat.lt_log2_self
theorem len_le_of {n k : Nat} (h : n < 2 ^ k) : len n ≤ k := by
  unfold len
  split
  · omega
  · rename_i h0
    have := (Nat.log2_lt h0).mpr h
    omega
theorem len_le_iff {n k : Nat} : len n ≤ k ↔ n < 2 ^ k := ⟨fun h => Nat.lt_of_lt_of_le (len_lt n) (Nat.pow_le_pow_right (by decide) h), len_le_of⟩
theorem len_ge {n k : Nat} (h : 2 ^ k ≤ n) : k + 1 ≤ len n := by
  rcases Nat.lt_or_ge k (len n) with q | q
  · exact q
  · have := (len_le_iff (n := n) (k := k)).mp q
    omega
theorem len_pos {n : Nat} (h : n ≠ 0) : 2 ^ (len n - 1) ≤ n := by
  unfold len
  rw [if_neg h]
  exact Nat.log2_self_le h
theorem len_zero : len 0 = 0 := rfl
theorem len_eq_zero {n : Nat} : len n = 0 ↔ n = 0 := by
  constructor
  · intro h
    have := (len_le_iff (n := n) (k := 0)).mp (by omega)
    simpa using this
  · rintro rfl; rfl
theorem len_one : len 1 = 1 := by decide +kernel
theorem len_of {n k : Nat} (h1 : 2 ^ k ≤ n) (h2 : n < 2 ^ (k + 1)) : len n = k + 1 := by
  have a := len_ge h1
  have b := len_le_of h2
  omega
/-- the product of words -/
def cm (a b : Nat) : Nat := cmG (len b) a b
theorem cm_any {a b f : Nat} (h : b < 2 ^ f) : cmG f a b = cm a b := cmG_any h (len_lt b)
theorem cm_xorL (a a' b : Nat) : cm (a ^^^ a') b = cm a b ^^^ cm a' b := cmG_xorL _ _ _ _
theorem cm_xorR (a b b' : Nat) : cm a (b ^^^ b') = cm a b ^^^ cm a b' := by
  have h1 : b < 2 ^ (len b + len b') := Nat.lt_of_lt_of_le (len_lt b) (Nat.pow_le_pow_right (by decide) (by omega))
  have h2 : b' < 2 ^ (len b + len b') := Nat.lt_of_lt_of_le (len_lt b') (Nat.pow_le_pow_right (by decide) (by omega))
  have h3 : b ^^^ b' < 2 ^ (len b + len b') := Nat.xor_lt_two_pow h1 h2
  rw [← cm_any h1, ← cm_any h2, ← cm_any h3, cmG_xorR]
theorem cm_twoL (a b : Nat) : cm (2 * a) b = 2 * cm a b := cmG_two _ _ _
theorem cm_step (a b : Nat) : cm a b = pt a b ^^^ 2 * cm a (b / 2) := by
  have h : b < 2 ^ (len b + 1) := Nat.lt_of_lt_of_le (len_lt b) (Nat.pow_le_pow_right (by decide) (by omega))
  have h2 : b / 2 < 2 ^ len b := Nat.lt_of_le_of_lt (Nat.div_le_self _ _) (len_lt b)
  rw [← cm_any h]
  show pt a b ^^^ 2 * cmG (len b) a (b / 2) = _
  rw [cm_any h2]
theorem cm_zeroR (a : Nat) : cm a 0 = 0 := rfl
theorem cm_zeroL (b : Nat) : cm 0 b = 0 := by
  have h := cm_xorL 0 0 b
  simpa using h
theorem cm_twoR (a b : Nat) : cm a (2 * b) = 2 * cm a b := by
  rw [cm_step]
  have h1 : 2 * b / 2 = b := by omega
  have h2 : pt a (2 * b) = 0 := by unfold pt; rw [if_neg (by omega)]
  rw [h1, h2, Nat.zero_xor]
theorem cm_oneR (a : Nat) : cm a 1 = a := by
  rw [cm_step]
  show a ^^^ 2 * cm a 0 = a
  rw [cm_zeroR]
  simp
theorem cm_ind {p : Nat → Prop} (h0 : p 0) (hs : ∀ b, b ≠ 0 → p (b / 2) → p b) (b : Nat) : p b := by
  induction b using Nat.strongRecOn with
  | ind b ih =>
    by_cases h : b = 0
    · rw [h]; exact h0
    · exact hs b h (ih (b / 2) (by omega))
theorem cm_oneL (b : Nat) : cm 1 b = b := by
  induction b using cm_ind with
  | h0 => rfl
  | hs b _ ih =>
    rw [cm_step, ih]
    have e : pt 1 b = b % 2 := by
      unfold pt
      split <;> omega
    rw [e, split2]
theorem cm_bit (a b : Nat) : cm (a % 2) b = pt b a := by
  unfold pt
  rcases Nat.mod_two_eq_zero_or_one a with h | h
  · rw [h, if_neg (by omega), cm_zeroL]
  · rw [h, if_pos rfl, cm_oneL]
theorem cm_comm (a b : Nat) : cm a b = cm b a := by
  induction a using cm_ind with
  | h0 => rw [cm_zeroL, cm_zeroR]
  | hs a _ ih =>
    rw [cm_step b a, ← ih, ← cm_bit, ← cm_twoL, ← cm_xorL, split2]
theorem cm_assoc (a b c : Nat) : cm (cm a b) c = cm a (cm b c) := by
  induction c using cm_ind with
  | h0 => rfl
  | hs c _ ih =>
    rw [cm_step (cm a b) c, cm_step b c, cm_xorR, cm_twoR, ih]
    congr 1
    unfold pt
    split
    · rfl
    · rfl
/-- lengths add -/
theorem xor_top {x y n : Nat} (hx : x < 2 ^ n) (h1 : 2 ^ n ≤ y) (h2 : y < 2 ^ (n + 1)) : 2 ^ n ≤ x ^^^ y ∧ x ^^^ y < 2 ^ (n + 1) := by
  refine ⟨?_, Nat.xor_lt_two_pow (Nat.lt_of_lt_of_le hx (Nat.pow_le_pow_right (by decide) (by omega))) h2⟩
  apply Nat.ge_two_pow_of_testBit (i := n)
  rw [Nat.testBit_xor, Nat.testBit_lt_two_pow hx]
  have : y.testBit n = true := by
    rw [Nat.testBit_eq_decide_div_mod_eq]
    have h3 : y / 2 ^ n = 1 := by
      apply Nat.div_eq_of_lt_le
      · omega
      · rw [Nat.pow_succ] at h2; omega
    rw [h3]
    decide
  rw [this]
  rfl
theorem cm_range {a i : Nat} (ha : 2 ^ i ≤ a) (ha' : a < 2 ^ (i + 1)) : ∀ (j b : Nat), 2 ^ j ≤ b → b < 2 ^ (j + 1) → 2 ^ (i + j) ≤ cm a b ∧ cm a b < 2 ^ (i + j + 1)
  | 0, b, h1, h2 => by
    have e : b = 1 := by simp at h1 h2; omega
    rw [e, cm_oneR]
    exact ⟨ha, ha'⟩
  | j + 1, b, h1, h2 => by
    have ih := cm_range ha ha' j (b / 2) (by rw [Nat.pow_succ] at h1; omega) (by rw [Nat.pow_succ 2 (j + 1)] at h2; omega)
    rw [cm_step]
    refine xor_top (n := i + (j + 1)) ?_ ?_ ?_
    · have : pt a b ≤ a := by unfold pt; split <;> omega
      exact Nat.lt_of_le_of_lt this (Nat.lt_of_lt_of_le ha' (Nat.pow_le_pow_right (by decide) (by omega)))
    · have : 2 ^ (i + (j + 1)) = 2 * 2 ^ (i + j) := by rw [← Nat.add_assoc, Nat.pow_succ]; omega
      omega
    · have : 2 ^ (i + (j + 1) + 1) = 2 * 2 ^ (i + j + 1) := by rw [show i + (j + 1) + 1 = (i + j + 1) + 1 by omega, Nat.pow_succ]; omega
      omega
theorem len_cm {a b : Nat} (ha : a ≠ 0) (hb : b ≠ 0) : len (cm a b) + 1 = len a + len b := by
  have pa : len a ≠ 0 := fun h => ha (len_eq_zero.mp h)
  have pb : len b ≠ 0 := fun h => hb (len_eq_zero.mp h)
  have h := cm_range (len_pos ha) (by have := len_lt a; rwa [show len a - 1 + 1 = len a by omega]) (len b - 1) b (len_pos hb) (by have := len_lt b; rwa [show len b - 1 + 1 = len b by omega])
  have := len_of h.1 h.2
  omega
theorem cm_ne {a b : Nat} (ha : a ≠ 0) (hb : b ≠ 0) : cm a b ≠ 0 := fun h => by
  have e := len_cm ha hb
  rw [h, len_zero] at e
  have pa : len a ≠ 0 := fun h => ha (len_eq_zero.mp h)
  have pb : len b ≠ 0 := fun h => hb (len_eq_zero.mp h)
  omega
theorem cm_pow (a k : Nat) : cm a (2 ^ k) = a * 2 ^ k := by
  induction k with
  | zero => simpa using cm_oneR a
  | succ k ih => rw [Nat.pow_succ, Nat.mul_comm (2 ^ k) 2, cm_twoR, ih, ← Nat.mul_assoc, Nat.mul_comm 2 a, Nat.mul_assoc]

/-! ### the ring -/
structure Bw where
  n : Nat
  deriving DecidableEq
theorem Bw.ext {a b : Bw} (h : a.n = b.n) : a = b := by cases a; cases b; cases h; rfl
def Bw.pw (a : Bw) : Nat → Bw
  | 0 => ⟨1⟩
  | k + 1 => ⟨cm (Bw.pw a k).n a.n⟩
instance : Lean.Grind.CommRing Bw where
  add a b := ⟨a.n ^^^ b.n⟩
  mul a b := ⟨cm a.n b.n⟩
  neg a := a
  sub a b := ⟨a.n ^^^ b.n⟩
  natCast := ⟨fun k => ⟨k % 2⟩⟩
  ofNat k := ⟨⟨k % 2⟩⟩
  intCast := ⟨fun k => ⟨(k % 2).toNat⟩⟩
  nsmul := ⟨fun k a => ⟨cm (k % 2) a.n⟩⟩
  zsmul := ⟨fun k a => ⟨cm (k % 2).toNat a.n⟩⟩
  npow := ⟨Bw.pw⟩
  add_zero a := Bw.ext (Nat.xor_zero _)
  add_comm a b := Bw.ext (Nat.xor_comm _ _)
  add_assoc a b c := Bw.ext (Nat.xor_assoc _ _ _)
  mul_assoc a b c := Bw.ext (cm_assoc _ _ _)
  mul_one a := Bw.ext (cm_oneR _)
  one_mul a := Bw.ext (cm_oneL _)
  left_distrib a b c := Bw.ext (cm_xorR _ _ _)
  right_distrib a b c := Bw.ext (cm_xorL _ _ _)
  zero_mul a := Bw.ext (cm_zeroL _)
  mul_zero a := Bw.ext (cm_zeroR a.n)
  mul_comm a b := Bw.ext (cm_comm _ _)
  pow_zero a := rfl
  pow_succ a n := rfl
  ofNat_succ a := Bw.ext (by
    show (a + 1) % 2 = (a % 2) ^^^ (1 % 2)
    rcases Nat.mod_two_eq_zero_or_one a with h | h <;> simp [Nat.add_mod, h])
  ofNat_eq_natCast _ := rfl
  nsmul_eq_natCast_mul _ _ := rfl
  neg_add_cancel a := Bw.ext (Nat.xor_self _)
  sub_eq_add_neg a b := rfl
  neg_zsmul i a := Bw.ext (by
    show cm ((-i) % 2).toNat a.n = cm (i % 2).toNat a.n
    have : (-i) % 2 = i % 2 := by omega
    rw [this])
  zsmul_natCast_eq_nsmul n a := Bw.ext (by
    show cm (((n : Int) % 2).toNat) a.n = cm (n % 2) a.n
    have : ((n : Int) % 2).toNat = n % 2 := by omega
    rw [this])
  intCast_ofNat n := Bw.ext (by
    show (((n : Int)) % 2).toNat = n % 2
    omega)
  intCast_neg i := Bw.ext (by
    show ((-i) % 2).toNat = (i % 2).toNat
    have : (-i) % 2 = i % 2 := by omega
    rw [this])
theorem Bw.add_n (a b : Bw) : (a + b).n = a.n ^^^ b.n := rfl
theorem Bw.sub_n (a b : Bw) : (a - b).n = a.n ^^^ b.n := rfl
theorem Bw.mul_n (a b : Bw) : (a * b).n = cm a.n b.n := rfl
theorem Bw.neg_eq (a : Bw) : -a = a := rfl
theorem Bw.zero_n : (0 : Bw).n = 0 := rfl
theorem Bw.one_n : (1 : Bw).n = 1 := rfl
example (a b c : Bw) : a * (b + c) - a * c = b * a := by grind
example {R : Type} [Lean.Grind.CommRing R] (a b c d : R) (h : a = b * c) (h2 : d * c = 1) : a * d = b := by grind
end Q

/-! ## KR -/
/-! Both kinds at once: a ring with rests. -/
namespace Q
class KR (R : Type) extends Lean.Grind.CommRing R where
  io : R → Int
  io_inj : ∀ {a b : R}, io a = io b → a = b
  io_zero : io 0 = 0
  io_one : io 1 = 1
  quo : R → R → R
  rem : R → R → R
  red : R → R → Prop
  mu : R → Nat
  div_eq : ∀ {a b : R}, b ≠ 0 → 0 ≤ io b → a = b * quo a b + rem a b
  rem_red : ∀ {a b : R}, b ≠ 0 → 0 ≤ io b → red b (rem a b)
  red_mu : ∀ {a b : R}, red b a → mu a < mu b
  red_cnt : ∀ {a b : R}, red b a → 0 ≤ io a
  red_zero : ∀ {b : R}, b ≠ 0 → 0 ≤ io b → red b 0
  red_uniq : ∀ {b x y c : R}, red b x → red b y → x - y = b * c → x = y
  cnt_assoc : ∀ {a b c d : R}, 0 ≤ io a → 0 ≤ io b → b = a * c → a = b * d → a = b
  dom : ∀ {a b : R}, a * b = 0 → a = 0 ∨ b = 0
  cnt_mul : ∀ {a b : R}, 0 ≤ io a → 0 ≤ io b → 0 ≤ io (a * b)
  cnt_quo : ∀ {a b : R}, 0 ≤ io a → 0 ≤ io b → b ≠ 0 → 0 ≤ io (quo a b)
  ch : R → R → Nat
  at_ : R → R → Nat → R
  pl : R → R → Nat
  at_mem : ∀ {P b c r : R} {i : Nat}, P ≠ 0 → 0 ≤ io P → 0 ≤ io b → P = b * c → red b r → i < ch P b → red P (at_ r b i) ∧ ∃ c, at_ r b i - r = b * c
  pl_at : ∀ {b r : R} (i : Nat), 0 ≤ io b → red b r → pl b (at_ r b i) = i
  at_pl : ∀ {P b c r x : R}, P ≠ 0 → 0 ≤ io P → 0 ≤ io b → P = b * c → red b r → red P x → (∃ c, x - r = b * c) → pl b x < ch P b ∧ at_ r b (pl b x) = x
  at_mono : ∀ {b r : R} {i j : Nat}, 0 ≤ io b → red b r → i < j → io (at_ r b i) < io (at_ r b j)

/-! ### hours -/
theorem int_dom {a b : Int} (h : a * b = 0) : a = 0 ∨ b = 0 := Int.mul_eq_zero.mp h
instance : KR Int where
  io a := a
  io_inj h := h
  io_zero := rfl
  io_one := rfl
  quo a b := a / b
  rem a b := a % b
  red b a := 0 ≤ a ∧ a < b
  mu a := a.natAbs
  div_eq {a b} _ _ := (Int.mul_ediv_add_emod a b).symm
  rem_red {a b} h0 h1 := ⟨Int.emod_nonneg a h0, Int.emod_lt_of_pos a (by have h1' : (0 : Int) ≤ b := h1; omega)⟩
  red_mu {a b} h := by obtain ⟨h1, h2⟩ := h; omega
  red_cnt h := h.1
  red_zero {b} h0 h1 := ⟨Int.le_refl 0, by have h1' : (0 : Int) ≤ b := h1; omega⟩
  red_uniq {b x y c} hx hy h := by
    obtain ⟨x1, x2⟩ := hx
    obtain ⟨y1, y2⟩ := hy
    have e1 : x % b = x := Int.emod_eq_of_lt x1 x2
    have e2 : y % b = y := Int.emod_eq_of_lt y1 y2
    have e3 : x = y + b * c := by omega
    rw [← e1, ← e2, e3, Int.add_mul_emod_self_left]
  cnt_assoc {a b c d} ha hb h1 h2 := Int.dvd_antisymm ha hb ⟨c, h1⟩ ⟨d, h2⟩
  dom := int_dom
  cnt_mul ha hb := Int.mul_nonneg ha hb
  cnt_quo ha hb _ := Int.ediv_nonneg ha hb
  ch P b := (P / b).toNat
  at_ r b i := r + i * b
  pl b x := (x / b).toNat
  at_mem {P b c r i} hP h0 hb hc hr hi := by
    have h0' : (0 : Int) ≤ P := h0
    have hb' : (0 : Int) ≤ b := hb
    obtain ⟨r1, r2⟩ := hr
    have bp : 0 < b := by omega
    have e : P / b = c := by rw [hc, Int.mul_ediv_cancel_left _ (by omega)]
    rw [e] at hi
    have ic : (i : Int) + 1 ≤ c := by omega
    have le : b * ((i : Int) + 1) ≤ b * c := Int.mul_le_mul_of_nonneg_left ic hb'
    rw [Int.mul_add, Int.mul_one] at le
    have nn : 0 ≤ b * (i : Int) := Int.mul_nonneg hb' (by omega)
    refine ⟨⟨?_, ?_⟩, (i : Int), ?_⟩
    · show 0 ≤ r + (i : Int) * b
      rw [Int.mul_comm]; omega
    · show r + (i : Int) * b < P
      rw [Int.mul_comm, hc]; omega
    · show r + (i : Int) * b - r = b * i
      rw [Int.mul_comm]; omega
  pl_at {b r} i hb hr := by
    obtain ⟨r1, r2⟩ := hr
    show ((r + (i : Int) * b) / b).toNat = i
    rw [Int.add_mul_ediv_right _ _ (by omega), Int.ediv_eq_zero_of_lt r1 r2]
    omega
  at_pl {P b c r x} hP h0 hb hc hr hx hd := by
    have hb' : (0 : Int) ≤ b := hb
    obtain ⟨r1, r2⟩ := hr
    obtain ⟨x1, x2⟩ := hx
    obtain ⟨t, ht⟩ := hd
    have bp : 0 < b := by omega
    have e : P / b = c := by rw [hc, Int.mul_ediv_cancel_left _ (by omega)]
    have ex : x = r + t * b := by rw [Int.mul_comm]; omega
    have eq : x / b = t := by rw [ex, Int.add_mul_ediv_right _ _ (by omega), Int.ediv_eq_zero_of_lt r1 r2]; omega
    have t0 : 0 ≤ t := by rw [← eq]; exact Int.ediv_nonneg x1 hb'
    have tc : t < c := by
      apply Int.lt_of_not_ge
      intro h
      have : b * c ≤ b * t := Int.mul_le_mul_of_nonneg_left h hb'
      rw [Int.mul_comm t b] at ex
      omega
    refine ⟨?_, ?_⟩
    · show (x / b).toNat < (P / b).toNat
      rw [eq, e]; omega
    · show r + ((x / b).toNat : Int) * b = x
      rw [eq, ex]
      have : ((t.toNat : Nat) : Int) = t := by omega
      rw [this]
  at_mono {b r i j} hb hr hij := by
    obtain ⟨r1, r2⟩ := hr
    show r + (i : Int) * b < r + (j : Int) * b
    have : (i : Int) * b < (j : Int) * b := Int.mul_lt_mul_of_pos_right (by omega) (by omega)
    omega

/-! ### bits -/
/-- quotient and rest, f turns at most -/
def dvG : Nat → Nat → Nat → Nat → Nat × Nat
  | 0, _, o, r => (o, r)
  | f + 1, b, o, r => if len r ≥ len b then dvG f b (o ||| 1 <<< (len r - len b)) (r ^^^ b <<< (len r - len b)) else (o, r)
theorem len_shl {b k : Nat} (h : b ≠ 0) : len (b <<< k) = len b + k := by
  rw [Nat.shiftLeft_eq]
  have pb : len b ≠ 0 := fun q => h (len_eq_zero.mp q)
  have e : len b + k = (len b - 1 + k) + 1 := by omega
  rw [e]
  refine len_of ?_ ?_
  · rw [Nat.pow_add]
    exact Nat.mul_le_mul_right _ (len_pos h)
  · have := len_lt b
    rw [show len b - 1 + k + 1 = len b + k by omega, Nat.pow_add]
    exact Nat.mul_lt_mul_of_pos_right this (Nat.two_pow_pos k)
/-- the highest bits meet -/
theorem len_xor_lt {x y : Nat} (h : len x = len y) (h0 : x ≠ 0) : len (x ^^^ y) < len x := by
  have px : len x ≠ 0 := fun q => h0 (len_eq_zero.mp q)
  have y0 : y ≠ 0 := fun q => px (by rw [h, q]; rfl)
  have key : ∀ {n k : Nat}, 2 ^ k ≤ n → n < 2 ^ (k + 1) → n.testBit k = true := fun {n k} h1 h2 => by
    rw [Nat.testBit_eq_decide_div_mod_eq]
    have h3 : n / 2 ^ k = 1 := by
      apply Nat.div_eq_of_lt_le
      · omega
      · rw [Nat.pow_succ] at h2; omega
    rw [h3]; decide
  have bx := key (len_pos h0) (by rw [show len x - 1 + 1 = len x by omega]; exact len_lt x)
  have by_ := key (len_pos y0) (by rw [show len y - 1 + 1 = len y by omega]; exact len_lt y)
  have : x ^^^ y < 2 ^ (len x - 1) := by
    apply Nat.lt_pow_two_of_testBit
    intro i hi
    rw [Nat.testBit_xor]
    by_cases e : i = len x - 1
    · rw [e, bx]
      rw [h, by_]; rfl
    · rw [Nat.testBit_lt_two_pow (Nat.lt_of_lt_of_le (len_lt x) (Nat.pow_le_pow_right (by decide) (by omega))), Nat.testBit_lt_two_pow (Nat.lt_of_lt_of_le (len_lt y) (Nat.pow_le_pow_right (by decide) (by omega)))]
      rfl
  have := len_le_of this
  omega
theorem or_pow {o p : Nat} (h : o % 2 ^ (p + 1) = 0) : o ||| 1 <<< p = o ^^^ 1 <<< p ∧ (o ^^^ 1 <<< p) % 2 ^ p = 0 := by
  have z : ∀ i, i ≤ p → o.testBit i = false := fun i hi => by
    have e : (o % 2 ^ (p + 1)).testBit i = false := by rw [h, Nat.zero_testBit]
    rw [Nat.testBit_mod_two_pow] at e
    simpa [show i < p + 1 by omega] using e
  have one : ∀ i, (1 <<< p).testBit i = decide (i = p) := fun i => by
    rw [Nat.shiftLeft_eq, Nat.one_mul, Nat.testBit_two_pow]
    by_cases e : p = i <;> simp [e, eq_comm]
  refine ⟨?_, ?_⟩
  · apply Nat.eq_of_testBit_eq
    intro i
    rw [Nat.testBit_or, Nat.testBit_xor, one]
    by_cases e : i = p
    · rw [e, z p (Nat.le_refl p)]; simp
    · simp [e]
  · apply Nat.eq_of_testBit_eq
    intro i
    rw [Nat.testBit_mod_two_pow, Nat.testBit_xor, one, Nat.zero_testBit]
    by_cases hi : i < p
    · rw [z i (by omega)]
      simp [show i ≠ p by omega]
    · simp [hi]
theorem dvG_ok {b : Nat} (hb : b ≠ 0) : ∀ (f o r : Nat), len r < f → o % 2 ^ (len r + 1 - len b) = 0 → ∃ q, (dvG f b o r).1 = o ^^^ q ∧ r = cm b q ^^^ (dvG f b o r).2 ∧ len (dvG f b o r).2 < len b
  | 0, _, _, h, _ => by omega
  | f + 1, o, r, h, ho => by
    unfold dvG
    have pb : len b ≠ 0 := fun q => hb (len_eq_zero.mp q)
    by_cases c : len r ≥ len b
    · rw [if_pos c]
      have r0 : r ≠ 0 := fun q => by rw [q, len_zero] at c; omega
      have el : len (b <<< (len r - len b)) = len r := by rw [len_shl hb]; omega
      have lt := len_xor_lt (x := r) (y := b <<< (len r - len b)) el.symm r0
      obtain ⟨e1, e2⟩ := or_pow (o := o) (p := len r - len b) (by rw [show len r - len b + 1 = len r + 1 - len b by omega]; exact ho)
      rw [e1]
      have dv : (o ^^^ 1 <<< (len r - len b)) % 2 ^ (len (r ^^^ b <<< (len r - len b)) + 1 - len b) = 0 := by
        apply Nat.mod_eq_zero_of_dvd
        exact Nat.dvd_trans (Nat.pow_dvd_pow 2 (by omega)) (Nat.dvd_of_mod_eq_zero e2)
      obtain ⟨q, q1, q2, q3⟩ := dvG_ok hb f _ _ (by omega) dv
      refine ⟨1 <<< (len r - len b) ^^^ q, by rw [q1, Nat.xor_assoc], ?_, q3⟩
      have es : cm b (1 <<< (len r - len b)) = b <<< (len r - len b) := by rw [Nat.shiftLeft_eq 1, Nat.one_mul, cm_pow, ← Nat.shiftLeft_eq]
      rw [cm_xorR, es, Nat.xor_assoc, ← q2, Nat.xor_comm r, ← Nat.xor_assoc, Nat.xor_self, Nat.zero_xor]
    · rw [if_neg c]
      exact ⟨0, by simp, by rw [cm_zeroR]; simp, by show len r < len b; omega⟩
def dv (a b : Nat) : Nat × Nat := dvG (len a + 1) b 0 a
theorem dv_ok {a b : Nat} (hb : b ≠ 0) : a = cm b (dv a b).1 ^^^ (dv a b).2 ∧ len (dv a b).2 < len b := by
  obtain ⟨q, q1, q2, q3⟩ := dvG_ok hb (len a + 1) 0 a (by omega) (by simp)
  rw [Nat.zero_xor] at q1
  have q1' : (dv a b).1 = q := q1
  rw [q1']
  exact ⟨q2, q3⟩
theorem bits_uniq {b x y c : Nat} (hx : len x < len b) (hy : len y < len b) (h : x ^^^ y = cm b c) : x = y := by
  have b0 : b ≠ 0 := fun q => by rw [q, len_zero] at hx; omega
  have hl : len (x ^^^ y) < len b := by
    have : x ^^^ y < 2 ^ (len b - 1) := Nat.xor_lt_two_pow ((len_le_iff).mp (by omega)) ((len_le_iff).mp (by omega))
    have := len_le_of this
    omega
  by_cases c0 : c = 0
  · rw [c0, cm_zeroR] at h
    have : x ^^^ y ^^^ y = 0 ^^^ y := by rw [h]
    rw [Nat.xor_assoc, Nat.xor_self, Nat.xor_zero, Nat.zero_xor] at this
    exact this
  · have := len_cm b0 c0
    have pc : len c ≠ 0 := fun q => c0 (len_eq_zero.mp q)
    rw [← h] at this
    omega
theorem xor_cancel {x y z : Nat} (h : x ^^^ y = z) : x = z ^^^ y := by rw [← h, Nat.xor_assoc, Nat.xor_self, Nat.xor_zero]
/-- a choice by its upper part -/
def atB (r b i : Nat) : Nat := (i <<< (len b - 1)) ^^^ (dv ((i <<< (len b - 1)) ^^^ r) b).2
theorem atB_low {r b i : Nat} (hb : b ≠ 0) : (dv ((i <<< (len b - 1)) ^^^ r) b).2 < 2 ^ (len b - 1) := by
  have := (dv_ok (a := (i <<< (len b - 1)) ^^^ r) hb).2
  exact (len_le_iff).mp (by omega)
theorem xor_low_div {i k s : Nat} (h : s < 2 ^ k) : (i <<< k ^^^ s) >>> k = i := by
  rw [Nat.shiftRight_xor_distrib, Nat.shiftLeft_shiftRight, Nat.shiftRight_eq_div_pow, Nat.div_eq_of_lt h, Nat.xor_zero]
theorem xor_low_add {i k s : Nat} (h : s < 2 ^ k) : i <<< k ^^^ s = i * 2 ^ k + s := by
  have e1 := xor_low_div (i := i) h
  have e2 : (i <<< k ^^^ s) % 2 ^ k = s := by
    rw [Nat.xor_mod_two_pow, Nat.shiftLeft_eq, Nat.mul_mod_left, Nat.zero_xor, Nat.mod_eq_of_lt h]
  have := Nat.div_add_mod (i <<< k ^^^ s) (2 ^ k)
  rw [← Nat.shiftRight_eq_div_pow, e1, e2, Nat.mul_comm] at this
  exact this.symm
theorem io_le {x y : Nat} (h : x < y) : (x : Int) < (y : Int) := by omega
theorem atB_mod {r b i : Nat} (hb : b ≠ 0) : atB r b i ^^^ r = cm b (dv ((i <<< (len b - 1)) ^^^ r) b).1 := by
  have h := (dv_ok (a := (i <<< (len b - 1)) ^^^ r) hb).1
  have h2 := xor_cancel (x := cm b (dv ((i <<< (len b - 1)) ^^^ r) b).1) h.symm
  rw [h2]
  unfold atB
  rw [Nat.xor_assoc, Nat.xor_assoc, Nat.xor_comm _ r]
theorem len_le_dvd {P b c : Nat} (h : P = cm b c) (hP : P ≠ 0) : len b ≤ len P := by
  have b0 : b ≠ 0 := fun q => hP (by rw [h, q, cm_zeroL])
  have c0 : c ≠ 0 := fun q => hP (by rw [h, q, cm_zeroR])
  have := len_cm b0 c0
  have pc : len c ≠ 0 := fun q => c0 (len_eq_zero.mp q)
  rw [← h] at this
  omega
instance : KR Bw where
  io a := (a.n : Int)
  io_inj h := Bw.ext (by omega)
  io_zero := rfl
  io_one := rfl
  quo a b := ⟨(dv a.n b.n).1⟩
  rem a b := ⟨(dv a.n b.n).2⟩
  red b a := len a.n < len b.n
  mu a := len a.n
  div_eq {a b} h0 _ := Bw.ext (dv_ok (a := a.n) (b := b.n) fun q => h0 (Bw.ext q)).1
  rem_red {a b} h0 _ := (dv_ok (a := a.n) (b := b.n) fun q => h0 (Bw.ext q)).2
  red_mu h := h
  red_cnt _ := Int.natCast_nonneg _
  red_zero {b} h0 _ := by
    show len 0 < len b.n
    rw [len_zero]
    exact Nat.pos_of_ne_zero fun q => h0 (Bw.ext (len_eq_zero.mp q))
  red_uniq {b x y c} hx hy h := Bw.ext (bits_uniq hx hy (congrArg Bw.n h))
  cnt_assoc {a b c d} _ _ h1 h2 := by
    have e1 : b.n = cm a.n c.n := congrArg Bw.n h1
    have e2 : a.n = cm b.n d.n := congrArg Bw.n h2
    by_cases a0 : a.n = 0
    · exact Bw.ext (by rw [e1, a0, cm_zeroL])
    · have c0 : c.n ≠ 0 := fun q => a0 (by rw [e2, e1, q, cm_zeroR, cm_zeroL])
      have b0 : b.n ≠ 0 := fun q => a0 (by rw [e2, q, cm_zeroL])
      have d0 : d.n ≠ 0 := fun q => a0 (by rw [e2, q, cm_zeroR])
      have l1 := len_cm a0 c0
      have l2 := len_cm b0 d0
      rw [← e1] at l1
      rw [← e2] at l2
      have pc : len c.n ≠ 0 := fun q => c0 (len_eq_zero.mp q)
      have pd : len d.n ≠ 0 := fun q => d0 (len_eq_zero.mp q)
      have c1 : c.n = 1 := by
        have : len c.n = 1 := by omega
        have h3 := len_lt c.n
        rw [this] at h3
        omega
      exact Bw.ext (by rw [e1, c1, cm_oneR])
  dom {a b} h := by
    have e : cm a.n b.n = 0 := congrArg Bw.n h
    by_cases a0 : a.n = 0
    · exact .inl (Bw.ext a0)
    · by_cases b0 : b.n = 0
      · exact .inr (Bw.ext b0)
      · exact absurd e (cm_ne a0 b0)
  cnt_mul _ _ := Int.natCast_nonneg _
  cnt_quo _ _ _ := Int.natCast_nonneg _
  ch P b := 2 ^ (len P.n - len b.n)
  at_ r b i := ⟨atB r.n b.n i⟩
  pl b x := x.n >>> (len b.n - 1)
  at_mem {P b c r i} hP _ _ hc hr hi := by
    have b0 : b.n ≠ 0 := fun q => by
      have hr' : len r.n < len b.n := hr
      rw [q, len_zero] at hr'; omega
    have P0 : P.n ≠ 0 := fun q => hP (Bw.ext q)
    have lb := len_le_dvd (congrArg Bw.n hc : P.n = cm b.n c.n) P0
    have hi' : i < 2 ^ (len P.n - len b.n) := hi
    have pb : len b.n ≠ 0 := fun q => b0 (len_eq_zero.mp q)
    refine ⟨?_, ⟨_⟩, Bw.ext (atB_mod b0)⟩
    show len (atB r.n b.n i) < len P.n
    have lo := atB_low (r := r.n) (i := i) b0
    have e := xor_low_add (i := i) lo
    have : atB r.n b.n i < 2 ^ (len P.n - 1) := by
      show i <<< (len b.n - 1) ^^^ _ < _
      rw [e]
      have h1 : (i + 1) * 2 ^ (len b.n - 1) ≤ 2 ^ (len P.n - len b.n) * 2 ^ (len b.n - 1) := Nat.mul_le_mul_right _ hi'
      rw [← Nat.pow_add, show len P.n - len b.n + (len b.n - 1) = len P.n - 1 by omega, Nat.add_mul, Nat.one_mul] at h1
      omega
    have := len_le_of this
    omega
  pl_at {b r} i _ hr := by
    have b0 : b.n ≠ 0 := fun q => by
      have hr' : len r.n < len b.n := hr
      rw [q, len_zero] at hr'; omega
    exact xor_low_div (atB_low b0)
  at_pl {P b c r x} hP _ _ hc hr hx hd := by
    have b0 : b.n ≠ 0 := fun q => by
      have hr' : len r.n < len b.n := hr
      rw [q, len_zero] at hr'; omega
    have P0 : P.n ≠ 0 := fun q => hP (Bw.ext q)
    have lb := len_le_dvd (congrArg Bw.n hc : P.n = cm b.n c.n) P0
    have pb : len b.n ≠ 0 := fun q => b0 (len_eq_zero.mp q)
    have hx' : len x.n < len P.n := hx
    refine ⟨?_, Bw.ext ?_⟩
    · show x.n >>> (len b.n - 1) < 2 ^ (len P.n - len b.n)
      rw [Nat.shiftRight_eq_div_pow]
      apply Nat.div_lt_of_lt_mul
      rw [← Nat.pow_add, show len b.n - 1 + (len P.n - len b.n) = len P.n - 1 by omega]
      exact (len_le_iff).mp (by omega)
    · show atB r.n b.n (x.n >>> (len b.n - 1)) = x.n
      obtain ⟨t, ht⟩ := hd
      have et : x.n ^^^ r.n = cm b.n t.n := congrArg Bw.n ht
      -- both have the same upper part, and differ by a multiple of b
      have m1 := atB_mod (r := r.n) (i := x.n >>> (len b.n - 1)) b0
      have lo := atB_low (r := r.n) (i := x.n >>> (len b.n - 1)) b0
      have hs : atB r.n b.n (x.n >>> (len b.n - 1)) ^^^ x.n = cm b.n ((dv ((x.n >>> (len b.n - 1)) <<< (len b.n - 1) ^^^ r.n) b.n).1 ^^^ t.n) := by
        rw [cm_xorR, ← m1, ← et, xor_ac, Nat.xor_self, Nat.xor_zero]
      have up : (atB r.n b.n (x.n >>> (len b.n - 1)) ^^^ x.n) >>> (len b.n - 1) = 0 := by
        rw [Nat.shiftRight_xor_distrib]
        have : atB r.n b.n (x.n >>> (len b.n - 1)) >>> (len b.n - 1) = x.n >>> (len b.n - 1) := xor_low_div lo
        rw [this, Nat.xor_self]
      have sm : atB r.n b.n (x.n >>> (len b.n - 1)) ^^^ x.n < 2 ^ (len b.n - 1) := by
        rw [Nat.shiftRight_eq_div_pow] at up
        have := Nat.div_eq_zero_iff.mp up
        have p := Nat.two_pow_pos (len b.n - 1)
        omega
      have l3 := len_le_of sm
      have z : atB r.n b.n (x.n >>> (len b.n - 1)) ^^^ x.n = 0 := bits_uniq (b := b.n) (c := (dv ((x.n >>> (len b.n - 1)) <<< (len b.n - 1) ^^^ r.n) b.n).1 ^^^ t.n) (by omega) (by rw [len_zero]; omega) (by rw [Nat.xor_zero]; exact hs)
      have := xor_cancel z
      rwa [Nat.zero_xor] at this
  at_mono {b r i j} _ hr hij := by
    have b0 : b.n ≠ 0 := fun q => by
      have hr' : len r.n < len b.n := hr
      rw [q, len_zero] at hr'; omega
    show ((atB r.n b.n i : Nat) : Int) < ((atB r.n b.n j : Nat) : Int)
    have e1 := xor_low_add (i := i) (atB_low (r := r.n) (i := i) b0)
    have e2 := xor_low_add (i := j) (atB_low (r := r.n) (i := j) b0)
    have l1 := atB_low (r := r.n) (i := i) b0
    have e1' : atB r.n b.n i = i * 2 ^ (len b.n - 1) + (dv ((i <<< (len b.n - 1)) ^^^ r.n) b.n).2 := e1
    have e2' : atB r.n b.n j = j * 2 ^ (len b.n - 1) + (dv ((j <<< (len b.n - 1)) ^^^ r.n) b.n).2 := e2
    have h1 : (i + 1) * 2 ^ (len b.n - 1) ≤ j * 2 ^ (len b.n - 1) := Nat.mul_le_mul_right _ hij
    rw [Nat.add_mul, Nat.one_mul] at h1
    omega
end Q

/-! ## Th -/
/-! Divisors, multiples, rests that meet; both kinds at once. -/
namespace Q
open KR
section
variable {R : Type} [KR R]
theorem io_eq_zero {a : R} : io a = 0 ↔ a = 0 := ⟨fun h => io_inj (h.trans io_zero.symm), fun h => by rw [h, io_zero]⟩
/-- a count that is not 0 -/
structure Ps (b : R) : Prop where
  ne : b ≠ 0
  cnt : 0 ≤ io b
theorem one_ne : (1 : R) ≠ 0 := fun h => by
  have := io_one (R := R)
  rw [h, io_zero] at this
  cases this
theorem ps_one : Ps (1 : R) := ⟨one_ne, by rw [io_one]; decide⟩
theorem ps_mul {a b : R} (ha : Ps a) (hb : Ps b) : Ps (a * b) := ⟨fun h => (dom h).elim ha.ne hb.ne, cnt_mul ha.cnt hb.cnt⟩
/-- x and y leave the same by m -/
def Cg (m x y : R) : Prop := ∃ c, x - y = m * c
def Dv (a b : R) : Prop := ∃ c, b = a * c
theorem Dv.refl (a : R) : Dv a a := ⟨1, by grind⟩
theorem Dv.trans {a b c : R} (h : Dv a b) (h' : Dv b c) : Dv a c := by
  obtain ⟨x, rfl⟩ := h
  obtain ⟨y, rfl⟩ := h'
  exact ⟨x * y, by grind⟩
theorem Dv.one (a : R) : Dv 1 a := ⟨a, by grind⟩
theorem Dv.ne {a b : R} (h : Dv a b) (hb : b ≠ 0) : a ≠ 0 := by
  obtain ⟨c, rfl⟩ := h
  intro e
  apply hb
  rw [e]
  grind
theorem Cg.refl (m x : R) : Cg m x x := ⟨0, by grind⟩
theorem Cg.symm {m x y : R} (h : Cg m x y) : Cg m y x := by
  obtain ⟨c, h⟩ := h
  exact ⟨-c, by grind⟩
theorem Cg.trans {m x y z : R} (h : Cg m x y) (h' : Cg m y z) : Cg m x z := by
  obtain ⟨c, h⟩ := h
  obtain ⟨d, h'⟩ := h'
  exact ⟨c + d, by grind⟩
theorem Cg.add {m x y u v : R} (h : Cg m x y) (h' : Cg m u v) : Cg m (x + u) (y + v) := by
  obtain ⟨c, h⟩ := h
  obtain ⟨d, h'⟩ := h'
  exact ⟨c + d, by grind⟩
theorem Cg.neg {m x y : R} (h : Cg m x y) : Cg m (-x) (-y) := by
  obtain ⟨c, h⟩ := h
  exact ⟨-c, by grind⟩
theorem Cg.dv {m n x y : R} (h : Cg m x y) (hd : Dv n m) : Cg n x y := by
  obtain ⟨c, h⟩ := h
  obtain ⟨d, rfl⟩ := hd
  exact ⟨d * c, by grind⟩
theorem Cg.of_eq {m x y : R} (h : x = y) : Cg m x y := h ▸ Cg.refl m x
theorem Cg.one (x y : R) : Cg 1 x y := ⟨x - y, by grind⟩
theorem Cg.shift {m x y u : R} (h : Cg m x y) : Cg m (x + u) (y + u) := h.add (.refl m u)
theorem cancel {a b c : R} (ha : a ≠ 0) (h : a * b = a * c) : b = c := by
  have e : a * (b - c) = 0 := by grind
  rcases dom e with h | h
  · exact absurd h ha
  · grind
/-! rests -/
/-- the rest; by 0 the number itself -/
def rst (x b : R) : R := if io b = 0 then x else rem x b
theorem rst_ps {x b : R} (h : Ps b) : rst x b = rem x b := if_neg fun q => h.ne (io_eq_zero.mp q)
theorem rst_cg {x b : R} (h : Ps b) : Cg b (rst x b) x := by
  rw [rst_ps h]
  exact ⟨-quo x b, by have := div_eq (a := x) h.ne h.cnt; grind⟩
theorem rst_red {x b : R} (h : Ps b) : red b (rst x b) := by
  rw [rst_ps h]
  exact rem_red h.ne h.cnt
theorem red_eq {b x y : R} (h1 : red b x) (h2 : red b y) (h : Cg b x y) : x = y := by
  obtain ⟨c, h⟩ := h
  exact red_uniq h1 h2 h
theorem rst_of {b x r : R} (h : Ps b) (hr : red b r) (hc : Cg b x r) : rst x b = r := red_eq (rst_red h) hr ((rst_cg h).trans hc)
theorem rst_red_self {b x : R} (h : Ps b) (hr : red b x) : rst x b = x := rst_of h hr (.refl _ _)
theorem rst_zero {b x : R} (h : Ps b) : rst x b = 0 ↔ Cg b x 0 := by
  constructor
  · intro e
    have := rst_cg (x := x) h
    rw [e] at this
    exact this.symm
  · intro e
    exact rst_of h (red_zero h.ne h.cnt) e
theorem rst_cnt {b x : R} (h : Ps b) : 0 ≤ io (rst x b) := red_cnt (rst_red h)
theorem quo_exact {a b : R} (h : Ps b) (hd : Dv b a) : a = b * quo a b := by
  have e := div_eq (a := a) h.ne h.cnt
  have r := rem_red (a := a) h.ne h.cnt
  obtain ⟨c, rfl⟩ := hd
  have : rem (b * c) b = 0 := by
    refine red_eq r (red_zero h.ne h.cnt) ⟨c - quo (b * c) b, ?_⟩
    grind
  rw [this] at e
  grind
/-! the divisor -/
def gcdF : Nat → R → R → R
  | 0, a, _ => a
  | f + 1, a, b => if io b = 0 then a else gcdF f b (rst a b)
def gcd (a b : R) : R := gcdF (mu b + 1) a b
theorem gcdF_ok : ∀ (f : Nat) (a b : R), mu b < f → 0 ≤ io a → 0 ≤ io b → 0 ≤ io (gcdF f a b) ∧ Dv (gcdF f a b) a ∧ Dv (gcdF f a b) b ∧ ∃ u v, gcdF f a b = a * u + b * v
  | 0, _, _, h, _, _ => absurd h (Nat.not_lt_zero _)
  | f + 1, a, b, h, ha, hb => by
    unfold gcdF
    by_cases c : io b = 0
    · rw [if_pos c]
      have e := io_eq_zero.mp c
      exact ⟨ha, .refl a, ⟨0, by grind⟩, 1, 0, by grind⟩
    · rw [if_neg c]
      have hp : Ps b := ⟨fun e => c (io_eq_zero.mpr e), hb⟩
      have rr := rst_red (x := a) hp
      obtain ⟨i1, i2, i3, u, v, i4⟩ := gcdF_ok f b (rst a b) (by have := red_mu rr; omega) hb (red_cnt rr)
      have e := div_eq (a := a) hp.ne hp.cnt
      rw [← rst_ps hp] at e
      refine ⟨i1, ?_, i2, v, u - quo a b * v, ?_⟩
      · obtain ⟨x, hx⟩ := i2
        obtain ⟨y, hy⟩ := i3
        exact ⟨x * quo a b + y, by grind⟩
      · rw [i4]
        grind
theorem gcd_cnt {a b : R} (ha : 0 ≤ io a) (hb : 0 ≤ io b) : 0 ≤ io (gcd a b) := (gcdF_ok _ a b (by omega) ha hb).1
theorem gcd_l {a b : R} (ha : 0 ≤ io a) (hb : 0 ≤ io b) : Dv (gcd a b) a := (gcdF_ok _ a b (by omega) ha hb).2.1
theorem gcd_r {a b : R} (ha : 0 ≤ io a) (hb : 0 ≤ io b) : Dv (gcd a b) b := (gcdF_ok _ a b (by omega) ha hb).2.2.1
theorem gcd_lin {a b : R} (ha : 0 ≤ io a) (hb : 0 ≤ io b) : ∃ u v, gcd a b = a * u + b * v := (gcdF_ok _ a b (by omega) ha hb).2.2.2
theorem gcd_ps {a b : R} (ha : Ps a) (hb : 0 ≤ io b) : Ps (gcd a b) := ⟨(gcd_l ha.cnt hb).ne ha.ne, gcd_cnt ha.cnt hb⟩
/-- factors that tell it -/
theorem bezout {a b : R} (ha : 0 ≤ io a) (hb : 0 ≤ io b) : ∃ g a' b' u v : R, a = g * a' ∧ b = g * b' ∧ u * a' + v * b' = 1 := by
  obtain ⟨a', h1⟩ := gcd_l ha hb
  obtain ⟨b', h2⟩ := gcd_r ha hb
  obtain ⟨u, v, h3⟩ := gcd_lin ha hb
  by_cases g0 : gcd a b = 0
  · exact ⟨0, 1, 0, 1, 0, by rw [h1, g0]; grind, by rw [h2, g0]; grind, by grind⟩
  · refine ⟨gcd a b, a', b', u, v, h1, h2, cancel g0 ?_⟩
    grind
/-- the number that leaves the divisor -/
def bezF : Nat → R → R → R → R → R
  | 0, _, _, h, _ => h
  | f + 1, l, r, h, t => if io r = 0 then h else bezF f r (rst l r) t (h - quo l r * t)
def bez (a b : R) : R := bezF (mu b + 1) a b 1 0
theorem bezF_ok {a b : R} : ∀ (f : Nat) (l r h t x y : R), mu r < f → 0 ≤ io r → l = a * h + b * x → r = a * t + b * y → ∃ v, gcdF f l r = a * bezF f l r h t + b * v
  | 0, _, _, _, _, _, _, hf, _, _, _ => absurd hf (Nat.not_lt_zero _)
  | f + 1, l, r, h, t, x, y, hf, hr, h1, h2 => by
    unfold gcdF bezF
    by_cases c : io r = 0
    · rw [if_pos c, if_pos c]
      exact ⟨x, h1⟩
    · rw [if_neg c, if_neg c]
      have hp : Ps r := ⟨fun e => c (io_eq_zero.mpr e), hr⟩
      have rr := rst_red (x := l) hp
      have e := div_eq (a := l) hp.ne hp.cnt
      rw [← rst_ps hp] at e
      exact bezF_ok f r (rst l r) t (h - quo l r * t) y (x - quo l r * y) (by have := red_mu rr; omega) (red_cnt rr) h2 (by grind)
theorem bez_ok {a b : R} (hb : 0 ≤ io b) : ∃ v, gcd a b = a * bez a b + b * v := bezF_ok _ a b 1 0 0 1 (by omega) hb (by grind) (by grind)
/-! the multiple -/
def lcm (a b : R) : R := if io a = 0 ∨ io b = 0 then 0 else quo a (gcd a b) * b
theorem lcm_eq {a b : R} (ha : Ps a) (hb : Ps b) : lcm a b = quo a (gcd a b) * b := if_neg fun h => h.elim (fun q => ha.ne (io_eq_zero.mp q)) fun q => hb.ne (io_eq_zero.mp q)
theorem lcm_r {a b : R} (ha : Ps a) (hb : Ps b) : Dv b (lcm a b) := ⟨quo a (gcd a b), by rw [lcm_eq ha hb]; grind⟩
theorem lcm_l {a b : R} (ha : Ps a) (hb : Ps b) : Dv a (lcm a b) := by
  obtain ⟨b', h2⟩ := gcd_r ha.cnt hb.cnt
  have e := quo_exact (gcd_ps ha hb.cnt) (gcd_l ha.cnt hb.cnt)
  refine ⟨b', ?_⟩
  rw [lcm_eq ha hb]
  grind
theorem lcm_least {a b m : R} (ha : Ps a) (hb : Ps b) (h1 : Dv a m) (h2 : Dv b m) : Dv (lcm a b) m := by
  obtain ⟨b', h3⟩ := gcd_r ha.cnt hb.cnt
  have e := quo_exact (gcd_ps ha hb.cnt) (gcd_l ha.cnt hb.cnt)
  obtain ⟨u, v, h4⟩ := gcd_lin ha.cnt hb.cnt
  obtain ⟨s, rfl⟩ := h1
  obtain ⟨t, h2⟩ := h2
  rw [lcm_eq ha hb]
  have g0 := (gcd_ps ha hb.cnt).ne
  have e1 : quo a (gcd a b) * u + b' * v = 1 := cancel g0 (by grind)
  exact ⟨t * u + s * v, by grind⟩
theorem lcm_ps {a b : R} (ha : Ps a) (hb : Ps b) : Ps (lcm a b) := by
  have e := quo_exact (gcd_ps ha hb.cnt) (gcd_l ha.cnt hb.cnt)
  have hq : Ps (quo a (gcd a b)) := ⟨fun h => ha.ne (by rw [e, h]; grind), cnt_quo ha.cnt (gcd_cnt ha.cnt hb.cnt) (gcd_ps ha hb.cnt).ne⟩
  rw [lcm_eq ha hb]
  exact ps_mul hq hb
theorem cg_lcm {a b x y : R} (ha : Ps a) (hb : Ps b) : Cg (lcm a b) x y ↔ Cg a x y ∧ Cg b x y := by
  constructor
  · intro h
    exact ⟨h.dv (lcm_l ha hb), h.dv (lcm_r ha hb)⟩
  · rintro ⟨⟨c, h1⟩, ⟨d, h2⟩⟩
    obtain ⟨e, h⟩ := lcm_least ha hb (m := x - y) ⟨c, h1⟩ ⟨d, h2⟩
    exact ⟨e, h⟩
/-- sums of two rounds -/
theorem cg_gcd {a b x y : R} (ha : 0 ≤ io a) (hb : 0 ≤ io b) : Cg (gcd a b) x y ↔ ∃ z, Cg a z x ∧ Cg b z y := by
  constructor
  · rintro ⟨c, h⟩
    obtain ⟨u, v, e⟩ := gcd_lin ha hb
    exact ⟨x - a * u * c, ⟨-(u * c), by grind⟩, ⟨v * c, by grind⟩⟩
  · rintro ⟨z, h1, h2⟩
    exact (h1.symm.dv (gcd_l ha hb)).trans (h2.dv (gcd_r ha hb))
/-! rests that meet -/
def met (o b t m : R) : Option (R × R) :=
  if io (rst (t - o) (gcd b m)) ≠ 0 then none
  else if io b = 0 ∨ io m = 0 then some (if io b = 0 then o else t, 0)
  else some (rst (o + b * (quo (t - o) (gcd b m) * bez b m)) (lcm b m), lcm b m)
theorem met_none {o b t m : R} (hb : Ps b) (hm : Ps m) (h : met o b t m = none) : ¬ ∃ x, Cg b x o ∧ Cg m x t := by
  rintro ⟨x, h1, h2⟩
  unfold met at h
  have c : Cg (gcd b m) (t - o) 0 := by
    have : Cg (gcd b m) t o := (h2.symm.dv (gcd_r hb.cnt hm.cnt)).trans (h1.dv (gcd_l hb.cnt hm.cnt))
    obtain ⟨e, q⟩ := this
    exact ⟨e, by grind⟩
  have e := (rst_zero (gcd_ps hb hm.cnt)).mpr c
  rw [if_neg (by rw [e, io_zero]; simp)] at h
  split at h <;> cases h
theorem met_some {o b t m r l : R} (hb : Ps b) (hm : Ps m) (h : met o b t m = some (r, l)) : l = lcm b m ∧ red l r ∧ ∀ x, Cg l x r ↔ Cg b x o ∧ Cg m x t := by
  unfold met at h
  by_cases c : io (rst (t - o) (gcd b m)) = 0
  · rw [if_neg (by rw [c]; simp), if_neg (fun q => q.elim (fun q => hb.ne (io_eq_zero.mp q)) fun q => hm.ne (io_eq_zero.mp q))] at h
    simp only [Option.some.injEq, Prod.mk.injEq] at h
    obtain ⟨h1, rfl⟩ := h
    have hl := lcm_ps hb hm
    have hg := gcd_ps hb hm.cnt
    refine ⟨rfl, by rw [← h1]; exact rst_red hl, fun x => ?_⟩
    have cr : Cg (lcm b m) r (o + b * (quo (t - o) (gcd b m) * bez b m)) := by rw [← h1]; exact rst_cg hl
    have cz := (rst_zero hg).mp (io_eq_zero.mp c)
    have dq : Dv (gcd b m) (t - o) := by
      obtain ⟨e, q⟩ := cz
      exact ⟨e, by grind⟩
    have eq := quo_exact hg dq
    obtain ⟨v, ev⟩ := bez_ok (a := b) (b := m) hm.cnt
    have ro : Cg b r o := (cr.dv (lcm_l hb hm)).trans ⟨quo (t - o) (gcd b m) * bez b m, by grind⟩
    have rt : Cg m r t := (cr.dv (lcm_r hb hm)).trans ⟨-(quo (t - o) (gcd b m) * v), by grind⟩
    rw [cg_lcm hb hm]
    exact ⟨fun ⟨z1, z2⟩ => ⟨z1.trans ro, z2.trans rt⟩, fun ⟨z1, z2⟩ => ⟨z1.trans ro.symm, z2.trans rt.symm⟩⟩
  · rw [if_pos c] at h
    cases h
theorem met_isSome {o b t m x : R} (hb : Ps b) (hm : Ps m) (h1 : Cg b x o) (h2 : Cg m x t) : ∃ r, met o b t m = some (r, lcm b m) := by
  cases h : met o b t m with
  | none => exact absurd ⟨x, h1, h2⟩ (met_none hb hm h)
  | some p =>
    obtain ⟨r, l⟩ := p
    obtain ⟨rfl, _⟩ := met_some hb hm h
    exact ⟨r, rfl⟩
/-! cosets -/
def IsC (A : R → Prop) : Prop := ∃ m r, 0 ≤ io m ∧ ∀ x, A x ↔ Cg m x r
def Sm (A B : R → Prop) : R → Prop := fun x => ∃ y z, A y ∧ B z ∧ x = y + z
theorem isC_cg {m r : R} (h : 0 ≤ io m) : IsC (fun x => Cg m x r) := ⟨m, r, h, fun _ => Iff.rfl⟩
theorem dist {A B C : R → Prop} (hA : IsC A) (hB : IsC B) (hC : IsC C) {e x : R} (h1 : A e) (h2 : B e) (h3 : Sm A C x) (h4 : Sm B C x) : Sm (fun y => A y ∧ B y) C x := by
  obtain ⟨α, a, ha, hA⟩ := hA
  obtain ⟨β, b, hb, hB⟩ := hB
  obtain ⟨γ, c, hc, hC⟩ := hC
  obtain ⟨y1, z1, p1, p2, p3⟩ := h3
  obtain ⟨y2, z2, q1, q2, q3⟩ := h4
  obtain ⟨s1, k1⟩ := ((hA _).mp p1).trans ((hA _).mp h1).symm
  obtain ⟨s2, k2⟩ := ((hB _).mp q1).trans ((hB _).mp h2).symm
  obtain ⟨w, k3⟩ := ((hC _).mp p2).trans ((hC _).mp q2).symm
  obtain ⟨g, α', β', u, v, g1, g2, g3⟩ := bezout ha hb
  refine ⟨e + g * α' * β' * (u * s2 + v * s1), z2 + γ * (v * β' * w), ⟨?_, ?_⟩, ?_, ?_⟩
  · rw [hA]
    have := (hA _).mp h1
    refine Cg.trans ?_ this
    exact ⟨β' * (u * s2 + v * s1), by grind⟩
  · rw [hB]
    have := (hB _).mp h2
    refine Cg.trans ?_ this
    exact ⟨α' * (u * s2 + v * s1), by grind⟩
  · rw [hC]
    have := (hC _).mp q2
    refine Cg.trans ?_ this
    exact ⟨v * β' * w, by grind⟩
  · have e1 : x - e - z2 = β * s2 := by grind
    have e2 : x - e - z2 = α * s1 + γ * w := by grind
    have e3 : x - e - z2 = (u * α' + v * β') * (x - e - z2) := by rw [g3]; grind
    have e4 : x - e - z2 = u * α' * (β * s2) + v * β' * (α * s1 + γ * w) := by grind
    grind
theorem isC_and {A B : R → Prop} (hA : IsC A) (hB : IsC B) {e : R} (h1 : A e) (h2 : B e) : IsC (fun y => A y ∧ B y) := by
  obtain ⟨α, a, ha, hA⟩ := hA
  obtain ⟨β, b, hb, hB⟩ := hB
  by_cases za : α = 0
  · refine ⟨0, e, by rw [io_zero]; decide, fun x => ?_⟩
    show (A x ∧ B x) ↔ _
    rw [hA, hB]
    have k1 := (hA _).mp h1
    have k2 := (hB _).mp h2
    constructor
    · rintro ⟨⟨c, q⟩, _⟩
      obtain ⟨c', q'⟩ := k1
      exact ⟨0, by grind⟩
    · rintro ⟨c, q⟩
      have : x = e := by grind
      rw [this]
      exact ⟨k1, k2⟩
  · by_cases zb : β = 0
    · refine ⟨0, e, by rw [io_zero]; decide, fun x => ?_⟩
      show (A x ∧ B x) ↔ _
      rw [hA, hB]
      have k1 := (hA _).mp h1
      have k2 := (hB _).mp h2
      constructor
      · rintro ⟨_, ⟨c, q⟩⟩
        obtain ⟨c', q'⟩ := k2
        exact ⟨0, by grind⟩
      · rintro ⟨c, q⟩
        have : x = e := by grind
        rw [this]
        exact ⟨k1, k2⟩
    · have pa : Ps α := ⟨za, ha⟩
      have pb : Ps β := ⟨zb, hb⟩
      refine ⟨lcm α β, e, (lcm_ps pa pb).cnt, fun x => ?_⟩
      show (A x ∧ B x) ↔ _
      rw [hA, hB, cg_lcm pa pb]
      have k1 := (hA _).mp h1
      have k2 := (hB _).mp h2
      exact ⟨fun ⟨q1, q2⟩ => ⟨q1.trans k1.symm, q2.trans k2.symm⟩, fun ⟨q1, q2⟩ => ⟨q1.trans k1, q2.trans k2⟩⟩
theorem isC_sm {A B : R → Prop} (hA : IsC A) (hB : IsC B) : IsC (Sm A B) := by
  obtain ⟨α, a, ha, hA⟩ := hA
  obtain ⟨β, b, hb, hB⟩ := hB
  refine ⟨gcd α β, a + b, gcd_cnt ha hb, fun x => ?_⟩
  constructor
  · rintro ⟨y, z, h1, h2, rfl⟩
    have k1 := ((hA _).mp h1).dv (gcd_l ha hb)
    have k2 := ((hB _).mp h2).dv (gcd_r ha hb)
    exact k1.add k2
  · rintro ⟨c, h⟩
    obtain ⟨u, v, e⟩ := gcd_lin ha hb
    refine ⟨a + α * (u * c), x - a - α * (u * c), (hA _).mpr ⟨u * c, by grind⟩, (hB _).mpr ⟨v * c, by grind⟩, by grind⟩
theorem sm_cg {a b r s x : R} (ha : 0 ≤ io a) (hb : 0 ≤ io b) : Sm (fun x => Cg a x r) (fun x => Cg b x s) x ↔ Cg (gcd a b) x (r + s) := by
  constructor
  · rintro ⟨y, z, h1, h2, rfl⟩
    exact (h1.dv (gcd_l ha hb)).add (h2.dv (gcd_r ha hb))
  · rintro ⟨c, h⟩
    obtain ⟨u, v, e⟩ := gcd_lin ha hb
    exact ⟨r + a * (u * c), x - r - a * (u * c), ⟨u * c, by grind⟩, ⟨v * c, by grind⟩, by grind⟩
theorem Sm.comm {A B : R → Prop} {x : R} (h : Sm A B x) : Sm B A x := by
  obtain ⟨y, z, h1, h2, rfl⟩ := h
  exact ⟨z, y, h2, h1, by grind⟩
end
end Q

/-! ## Cl -/
/-! The closing of lines: middles taken one after another. -/
namespace Q
open KR
section
variable {R : Type} [KR R] {ν : Type} [DecidableEq ν]
abbrev Cs (ν R : Type) := ν × ν → R × R
abbrev Ln (ν R : Type) := ν × ν × R × R
def put (c : Cs ν R) (p : ν × ν) (v : R × R) : Cs ν R := fun q => if q = p then v else c q
theorem put_same {c : Cs ν R} {p : ν × ν} {v : R × R} : put c p v p = v := if_pos rfl
theorem put_ne {c : Cs ν R} {p q : ν × ν} {v : R × R} (h : q ≠ p) : put c p v q = c q := if_neg h
/-- the differences that c lets stand -/
def S (c : Cs ν R) (i j : ν) : R → Prop := fun x => Cg (c (i, j)).2 x (c (i, j)).1
structure Ok (P : R) (c : Cs ν R) : Prop where
  ps : ∀ p, Ps (c p).2
  dv : ∀ p, Dv (c p).2 P
  rd : ∀ p, red (c p).2 (c p).1
def AS (c : Cs ν R) : Prop := ∀ i j x, S c i j x → S c j i (-x)
def Sound (c : Cs ν R) (x : ν → R) : Prop := ∀ i j, S c i j (x j - x i)
def keepsL (l : Ln ν R) (x : ν → R) : Prop := Cg l.2.2.2 (x l.2.1 - x l.1) l.2.2.1
structure GoodL (P : R) (l : Ln ν R) : Prop where
  ne : l.1 ≠ l.2.1
  ps : Ps l.2.2.2
  dv : Dv l.2.2.2 P
def metAt (c : Cs ν R) (p : ν × ν) (a b : R) : Option (R × R) := met (c p).1 (c p).2 (rst a b) b
def start : Cs ν R := fun _ => (0, 1)
def lineStep (c : Cs ν R) (l : Ln ν R) : Option (Cs ν R) :=
  match metAt c (l.1, l.2.1) l.2.2.1 l.2.2.2, metAt c (l.2.1, l.1) (-l.2.2.1) l.2.2.2 with
  | some t, some b => some (put (put c (l.1, l.2.1) t) (l.2.1, l.1) b)
  | _, _ => none
/-- both ways by the middle -/
def join (c : Cs ν R) (m : ν) (p : ν × ν) : R × R := ((c (p.1, m)).1 + (c (m, p.2)).1, gcd (c (p.1, m)).2 (c (m, p.2)).2)
def pairStep (m : ν) (c : Cs ν R) (p : ν × ν) : Option (Cs ν R) := (metAt c p (join c m p).1 (join c m p).2).map (put c p)
def pairs (ns : List ν) : List (ν × ν) := ns.flatMap fun a => (ns.filter fun b => !decide (a = b)).map fun b => (a, b)
def midPairs (ns : List ν) (m : ν) : List (ν × ν) := (pairs ns).filter fun p => !(decide (m = p.1) || decide (m = p.2))
def midStep (ns : List ν) (c : Cs ν R) (m : ν) : Option (Cs ν R) := (midPairs ns m).foldlM (pairStep m) c
def closedF (ls : List (Ln ν R)) (ns : List ν) : Option (Cs ν R) := (ls.foldlM lineStep start).bind fun c => ns.foldlM (midStep ns) c

theorem metAt_none {c : Cs ν R} {P : R} (ok : Ok P c) {i j : ν} {a b : R} (hb : Ps b) (h : metAt c (i, j) a b = none) : ¬ ∃ d, S c i j d ∧ Cg b d a := by
  rintro ⟨d, h1, h2⟩
  exact met_none (ok.ps _) hb h ⟨d, h1, h2.trans (rst_cg hb).symm⟩
theorem metAt_some {c : Cs ν R} {P : R} (ok : Ok P c) {i j : ν} {a b : R} {v : R × R} (hb : Ps b) (hd : Dv b P) (h : metAt c (i, j) a b = some v) :
    Ps v.2 ∧ Dv v.2 P ∧ red v.2 v.1 ∧ ∀ d, Cg v.2 d v.1 ↔ S c i j d ∧ Cg b d a := by
  obtain ⟨r, l⟩ := v
  obtain ⟨rfl, h2, h3⟩ := met_some (ok.ps _) hb h
  refine ⟨lcm_ps (ok.ps _) hb, lcm_least (ok.ps _) hb (ok.dv _) hd, h2, fun d => ?_⟩
  rw [h3]
  exact ⟨fun ⟨a, b⟩ => ⟨a, b.trans (rst_cg hb)⟩, fun ⟨a, b⟩ => ⟨a, b.trans (rst_cg hb).symm⟩⟩
theorem start_ok (P : R) : Ok P (start : Cs ν R) := ⟨fun _ => ps_one, fun _ => Dv.one P, fun _ => red_zero one_ne (by show 0 ≤ io (1 : R); rw [io_one]; decide)⟩
theorem start_AS : AS (start : Cs ν R) := fun _ _ _ _ => Cg.one _ _
theorem start_sound (x : ν → R) : Sound (start : Cs ν R) x := fun _ _ => Cg.one _ _

/-- one line more -/
theorem lineStep_none {P : R} {c : Cs ν R} {l : Ln ν R} (ok : Ok P c) (hl : GoodL P l) (h : lineStep c l = none) (x : ν → R) (hs : Sound c x) : ¬ keepsL l x := by
  intro hk
  unfold lineStep at h
  cases h1 : metAt c (l.1, l.2.1) l.2.2.1 l.2.2.2 with
  | none => exact metAt_none ok hl.ps h1 ⟨_, hs _ _, hk⟩
  | some t =>
    cases h2 : metAt c (l.2.1, l.1) (-l.2.2.1) l.2.2.2 with
    | none =>
      refine metAt_none ok hl.ps h2 ⟨_, hs _ _, ?_⟩
      have := hk.neg
      have e : -(x l.2.1 - x l.1) = x l.1 - x l.2.1 := by grind
      rwa [e] at this
    | some b => rw [h1, h2] at h; cases h
structure Less (c c' : Cs ν R) : Prop where
  le : ∀ i j d, S c' i j d → S c i j d
theorem lineStep_some {P : R} {c c' : Cs ν R} {l : Ln ν R} (ok : Ok P c) (as : AS c) (hl : GoodL P l) (h : lineStep c l = some c') :
    Ok P c' ∧ AS c' ∧ Less c c' ∧ (∀ d, S c' l.1 l.2.1 d → Cg l.2.2.2 d l.2.2.1) ∧ ∀ x, Sound c x → keepsL l x → Sound c' x := by
  unfold lineStep at h
  cases h1 : metAt c (l.1, l.2.1) l.2.2.1 l.2.2.2 with
  | none => rw [h1] at h; cases h
  | some t =>
    cases h2 : metAt c (l.2.1, l.1) (-l.2.2.1) l.2.2.2 with
    | none => rw [h1, h2] at h; cases h
    | some b =>
      rw [h1, h2] at h
      have h : put (put c (l.1, l.2.1) t) (l.2.1, l.1) b = c' := Option.some.inj h
      obtain ⟨a1, a2, a3, a4⟩ := metAt_some ok hl.ps hl.dv h1
      obtain ⟨b1, b2, b3, b4⟩ := metAt_some ok hl.ps hl.dv h2
      have n12 : (l.1, l.2.1) ≠ (l.2.1, l.1) := fun e => hl.ne (congrArg Prod.fst e)
      have v1 : c' (l.1, l.2.1) = t := by rw [← h, put_ne n12, put_same]
      have v2 : c' (l.2.1, l.1) = b := by rw [← h, put_same]
      have v3 : ∀ p, p ≠ (l.1, l.2.1) → p ≠ (l.2.1, l.1) → c' p = c p := fun p q1 q2 => by rw [← h, put_ne q2, put_ne q1]
      have all : ∀ {F : ν × ν → R × R → Prop}, F (l.1, l.2.1) t → F (l.2.1, l.1) b → (∀ p, F p (c p)) → ∀ p, F p (c' p) := fun {F} f1 f2 f3 p => by
        by_cases q1 : p = (l.1, l.2.1)
        · rw [q1, v1]; exact f1
        · by_cases q2 : p = (l.2.1, l.1)
          · rw [q2, v2]; exact f2
          · rw [v3 p q1 q2]; exact f3 p
      have s1 : ∀ d, S c' l.1 l.2.1 d ↔ S c l.1 l.2.1 d ∧ Cg l.2.2.2 d l.2.2.1 := fun d => by
        rw [← a4]; unfold S; rw [v1]
      have s2 : ∀ d, S c' l.2.1 l.1 d ↔ S c l.2.1 l.1 d ∧ Cg l.2.2.2 d (-l.2.2.1) := fun d => by
        rw [← b4]; unfold S; rw [v2]
      have s3 : ∀ i j d, (i, j) ≠ (l.1, l.2.1) → (i, j) ≠ (l.2.1, l.1) → (S c' i j d ↔ S c i j d) := fun i j d q1 q2 => by
        unfold S; rw [v3 _ q1 q2]
      refine ⟨⟨all (F := fun _ v => Ps v.2) a1 b1 ok.ps, all (F := fun _ v => Dv v.2 P) a2 b2 ok.dv, all (F := fun _ v => red v.2 v.1) a3 b3 ok.rd⟩, fun i j x hx => ?_, ⟨fun i j d hd => ?_⟩, fun d hd => ((s1 d).mp hd).2, fun x hs hk i j => ?_⟩
      · by_cases q1 : (i, j) = (l.1, l.2.1)
        · cases q1
          obtain ⟨z1, z2⟩ := (s1 x).mp hx
          exact (s2 _).mpr ⟨as _ _ _ z1, z2.neg⟩
        · by_cases q2 : (i, j) = (l.2.1, l.1)
          · cases q2
            obtain ⟨z1, z2⟩ := (s2 x).mp hx
            refine (s1 _).mpr ⟨as _ _ _ z1, ?_⟩
            have := z2.neg
            have e : -(-l.2.2.1) = l.2.2.1 := by grind
            rwa [e] at this
          · have r1 : (j, i) ≠ (l.1, l.2.1) := fun e => q2 (by cases e; rfl)
            have r2 : (j, i) ≠ (l.2.1, l.1) := fun e => q1 (by cases e; rfl)
            exact (s3 _ _ _ r1 r2).mpr (as _ _ _ ((s3 _ _ _ q1 q2).mp hx))
      · by_cases q1 : (i, j) = (l.1, l.2.1)
        · cases q1
          exact ((s1 d).mp hd).1
        · by_cases q2 : (i, j) = (l.2.1, l.1)
          · cases q2
            exact ((s2 d).mp hd).1
          · exact (s3 _ _ _ q1 q2).mp hd
      · by_cases q1 : (i, j) = (l.1, l.2.1)
        · cases q1
          exact (s1 _).mpr ⟨hs _ _, hk⟩
        · by_cases q2 : (i, j) = (l.2.1, l.1)
          · cases q2
            refine (s2 _).mpr ⟨hs _ _, ?_⟩
            have := hk.neg
            have e : -(x l.2.1 - x l.1) = x l.1 - x l.2.1 := by grind
            rwa [e] at this
          · exact (s3 _ _ _ q1 q2).mpr (hs _ _)
/-- all lines -/
theorem lines_none {P : R} : ∀ {ls : List (Ln ν R)} {c : Cs ν R}, Ok P c → AS c → (∀ l ∈ ls, GoodL P l) → ls.foldlM lineStep c = none → ∀ x, Sound c x → ¬ ∀ l ∈ ls, keepsL l x
  | [], c, _, _, _, h => by cases h
  | l :: ls, c, ok, as, hl, h => fun x hs hk => by
    rw [List.foldlM_cons] at h
    cases e : lineStep c l with
    | none => exact lineStep_none ok (hl l (List.mem_cons_self ..)) e x hs (hk l (List.mem_cons_self ..))
    | some c' =>
      rw [e] at h
      obtain ⟨o1, o2, _, _, o3⟩ := lineStep_some ok as (hl l (List.mem_cons_self ..)) e
      exact lines_none o1 o2 (fun l' h' => hl l' (List.mem_cons_of_mem _ h')) h x (o3 x hs (hk l (List.mem_cons_self ..))) fun l' h' => hk l' (List.mem_cons_of_mem _ h')
theorem lines_some {P : R} : ∀ {ls : List (Ln ν R)} {c c' : Cs ν R}, Ok P c → AS c → (∀ l ∈ ls, GoodL P l) → ls.foldlM lineStep c = some c' →
    Ok P c' ∧ AS c' ∧ Less c c' ∧ (∀ l ∈ ls, ∀ d, S c' l.1 l.2.1 d → Cg l.2.2.2 d l.2.2.1) ∧ ∀ x, Sound c x → (∀ l ∈ ls, keepsL l x) → Sound c' x
  | [], c, c', ok, as, _, h => by
    cases h
    exact ⟨ok, as, ⟨fun _ _ _ h => h⟩, (fun _ h => nomatch h), fun _ h _ => h⟩
  | l :: ls, c, c', ok, as, hl, h => by
    rw [List.foldlM_cons] at h
    cases e : lineStep c l with
    | none => rw [e] at h; cases h
    | some c1 =>
      rw [e] at h
      obtain ⟨o1, o2, o3, o4, o5⟩ := lineStep_some ok as (hl l (List.mem_cons_self ..)) e
      obtain ⟨p1, p2, p3, p4, p5⟩ := lines_some o1 o2 (fun l' h' => hl l' (List.mem_cons_of_mem _ h')) h
      refine ⟨p1, p2, ⟨fun i j d h => o3.le _ _ _ (p3.le _ _ _ h)⟩, fun l' h' d hd => ?_, fun x hs hk => p5 x (o5 x hs (hk l (List.mem_cons_self ..))) fun l' h' => hk l' (List.mem_cons_of_mem _ h')⟩
      rcases List.mem_cons.mp h' with z | z
      · subst z
        exact o4 d (p3.le _ _ _ hd)
      · exact p4 l' z d hd

/-! one middle -/
def freeOf (m : ν) (p : ν × ν) : Prop := m ≠ p.1 ∧ m ≠ p.2
theorem pairs_nodup {ns : List ν} (h : ns.Nodup) : (pairs ns).Nodup := by
  unfold pairs
  refine List.pairwise_flatMap.mpr ⟨fun a _ => ?_, ?_⟩
  · exact List.pairwise_map.mpr ((h.filter _).imp fun ne e => ne (congrArg Prod.snd e))
  · refine h.imp ?_
    intro a b hab p h1 q h2 e
    obtain ⟨x, _, rfl⟩ := List.mem_map.mp h1
    obtain ⟨y, _, rfl⟩ := List.mem_map.mp h2
    exact hab (congrArg Prod.fst e)
theorem mem_pairs {ns : List ν} {i j : ν} : (i, j) ∈ pairs ns ↔ i ∈ ns ∧ j ∈ ns ∧ i ≠ j := by
  unfold pairs
  rw [List.mem_flatMap]
  constructor
  · rintro ⟨a, h1, h2⟩
    obtain ⟨b, h3, e⟩ := List.mem_map.mp h2
    obtain ⟨h4, h5⟩ := List.mem_filter.mp h3
    cases e
    exact ⟨h1, h4, by simpa using h5⟩
  · rintro ⟨h1, h2, h3⟩
    exact ⟨i, h1, List.mem_map.mpr ⟨j, List.mem_filter.mpr ⟨h2, by simpa using h3⟩, rfl⟩⟩
theorem mem_midPairs {ns : List ν} {m i j : ν} : (i, j) ∈ midPairs ns m ↔ i ∈ ns ∧ j ∈ ns ∧ i ≠ j ∧ m ≠ i ∧ m ≠ j := by
  unfold midPairs
  rw [List.mem_filter, mem_pairs]
  simp [not_or, and_assoc]
/-- what one round over pairs does -/
theorem round_some {m : ν} : ∀ {ps : List (ν × ν)} {c c' : Cs ν R}, ps.Nodup → (∀ p ∈ ps, freeOf m p) → ps.foldlM (pairStep m) c = some c' →
    (∀ p ∈ ps, metAt c p (join c m p).1 (join c m p).2 = some (c' p)) ∧ ∀ p, p ∉ ps → c' p = c p
  | [], c, c', _, _, h => by
    cases h
    exact ⟨(fun _ h => nomatch h), fun _ _ => rfl⟩
  | p :: ps, c, c', nd, hf, h => by
    rw [List.foldlM_cons] at h
    rw [List.nodup_cons] at nd
    cases e : pairStep m c p with
    | none => rw [e] at h; cases h
    | some c1 =>
      rw [e] at h
      unfold pairStep at e
      rw [Option.map_eq_some_iff] at e
      obtain ⟨v, e1, e2⟩ := e
      obtain ⟨i1, i2⟩ := round_some nd.2 (fun q hq => hf q (List.mem_cons_of_mem _ hq)) h
      have f0 := hf p (List.mem_cons_self ..)
      have cj : ∀ q, join c1 m q = join c m q := fun q => by
        unfold join
        rw [← e2, put_ne (fun z => f0.2 (congrArg Prod.snd z)), put_ne (fun z => f0.1 (congrArg Prod.fst z))]
      refine ⟨fun q hq => ?_, fun q hq => ?_⟩
      · by_cases z : q = p
        · subst z
          rw [e1, i2 q nd.1, ← e2, put_same]
        · have hq' : q ∈ ps := by
            rcases List.mem_cons.mp hq with w | w
            · exact absurd w z
            · exact w
          have := i1 q hq'
          rw [cj] at this
          unfold metAt at this ⊢
          rw [← e2, put_ne z] at this
          exact this
      · rw [List.mem_cons, not_or] at hq
        rw [i2 q hq.2, ← e2, put_ne hq.1]
theorem round_none {m : ν} : ∀ {ps : List (ν × ν)} {c : Cs ν R}, ps.Nodup → (∀ p ∈ ps, freeOf m p) → ps.foldlM (pairStep m) c = none →
    ∃ p ∈ ps, metAt c p (join c m p).1 (join c m p).2 = none
  | [], c, _, _, h => by cases h
  | p :: ps, c, nd, hf, h => by
    rw [List.foldlM_cons] at h
    rw [List.nodup_cons] at nd
    cases e : pairStep m c p with
    | none =>
      unfold pairStep at e
      rw [Option.map_eq_none_iff] at e
      exact ⟨p, List.mem_cons_self .., e⟩
    | some c1 =>
      rw [e] at h
      unfold pairStep at e
      rw [Option.map_eq_some_iff] at e
      obtain ⟨v, e1, e2⟩ := e
      obtain ⟨q, hq, i⟩ := round_none nd.2 (fun q hq => hf q (List.mem_cons_of_mem _ hq)) h
      have f0 := hf p (List.mem_cons_self ..)
      have cj : join c1 m q = join c m q := by
        unfold join
        rw [← e2, put_ne (fun z => f0.2 (congrArg Prod.snd z)), put_ne (fun z => f0.1 (congrArg Prod.fst z))]
      have z : q ≠ p := fun z => nd.1 (z ▸ hq)
      rw [cj] at i
      unfold metAt at i
      rw [← e2, put_ne z] at i
      exact ⟨q, List.mem_cons_of_mem _ hq, i⟩
theorem join_ps {P : R} {c : Cs ν R} (ok : Ok P c) (m : ν) (p : ν × ν) : Ps (join c m p).2 := gcd_ps (ok.ps _) (ok.ps _).cnt
theorem join_dv {P : R} {c : Cs ν R} (ok : Ok P c) (m : ν) (p : ν × ν) : Dv (join c m p).2 P := (gcd_l (ok.ps _).cnt (ok.ps _).cnt).trans (ok.dv _)
theorem join_S {P : R} {c : Cs ν R} (ok : Ok P c) (m i j : ν) (d : R) : Cg (join c m (i, j)).2 d (join c m (i, j)).1 ↔ Sm (S c i m) (S c m j) d := (sm_cg (ok.ps _).cnt (ok.ps _).cnt).symm
theorem midStep_none {P : R} {ns : List ν} {c : Cs ν R} {m : ν} (nd : ns.Nodup) (ok : Ok P c) (h : midStep ns c m = none) (x : ν → R) : ¬ Sound c x := by
  intro hs
  obtain ⟨⟨i, j⟩, hp, e⟩ := round_none ((pairs_nodup nd).filter _) (fun p hp => by
    obtain ⟨_, _, _, h1, h2⟩ := mem_midPairs.mp hp
    exact ⟨h1, h2⟩) h
  refine metAt_none ok (join_ps ok m _) e ⟨x j - x i, hs i j, (join_S ok m i j _).mpr ⟨x m - x i, x j - x m, hs i m, hs m j, ?_⟩⟩
  grind
theorem S_ne {P : R} {c : Cs ν R} (ok : Ok P c) (i j : ν) : S c i j (c (i, j)).1 := Cg.refl _ _
theorem S_isC {P : R} {c : Cs ν R} (ok : Ok P c) (i j : ν) : IsC (S c i j) := isC_cg (ok.ps _).cnt
theorem midStep_some {P : R} {ns : List ν} {c c' : Cs ν R} {m : ν} (nd : ns.Nodup) (ok : Ok P c) (as : AS c) (h : midStep ns c m = some c') :
    Ok P c' ∧ AS c' ∧ Less c c' ∧ (∀ x, Sound c x → Sound c' x) ∧ (∀ i j, i ∈ ns → j ∈ ns → i ≠ j → m ≠ i → m ≠ j → ∀ d, S c' i j d ↔ S c i j d ∧ Sm (S c i m) (S c m j) d) ∧ ∀ i j, m = i ∨ m = j → c' (i, j) = c (i, j) := by
  obtain ⟨r1, r2⟩ := round_some ((pairs_nodup nd).filter _) (fun p hp => by
    obtain ⟨_, _, _, h1, h2⟩ := mem_midPairs.mp hp
    exact ⟨h1, h2⟩) h
  have val : ∀ p, (∃ v, c' p = v ∧ metAt c p (join c m p).1 (join c m p).2 = some v ∧ p ∈ midPairs ns m) ∨ (c' p = c p ∧ p ∉ midPairs ns m) := fun p => by
    by_cases hp : p ∈ midPairs ns m
    · exact .inl ⟨_, rfl, r1 p hp, hp⟩
    · exact .inr ⟨r2 p hp, hp⟩
  have key : ∀ i j, (i, j) ∈ midPairs ns m → ∀ d, S c' i j d ↔ S c i j d ∧ Sm (S c i m) (S c m j) d := fun i j hp d => by
    obtain ⟨_, _, _, h4⟩ := metAt_some ok (join_ps ok m _) (join_dv ok m _) (r1 _ hp)
    show Cg (c' (i, j)).2 d (c' (i, j)).1 ↔ _
    rw [h4, join_S ok]
  have key2 : ∀ i j, (i, j) ∉ midPairs ns m → ∀ d, S c' i j d ↔ S c i j d := fun i j hp d => by
    unfold S
    rw [r2 _ hp]
  have asm : ∀ i j d, Sm (S c i m) (S c m j) d → Sm (S c j m) (S c m i) (-d) := fun i j d ⟨y, z, h1, h2, e⟩ => ⟨-z, -y, as _ _ _ h2, as _ _ _ h1, by grind⟩
  have sw : ∀ i j, (i, j) ∈ midPairs ns m → (j, i) ∈ midPairs ns m := fun i j hp => by
    obtain ⟨a, b, c, d, e⟩ := mem_midPairs.mp hp
    exact mem_midPairs.mpr ⟨b, a, c.symm, e, d⟩
  refine ⟨⟨fun p => ?_, fun p => ?_, fun p => ?_⟩, fun i j x hx => ?_, ⟨fun i j d hd => ?_⟩, fun x hs i j => ?_, fun i j hi hj hij h1 h2 => key i j (mem_midPairs.mpr ⟨hi, hj, hij, h1, h2⟩), fun i j hm => r2 _ fun hp => ?_⟩
  · rcases val p with ⟨v, e, h, _⟩ | ⟨e, _⟩
    · rw [e]; exact (metAt_some ok (join_ps ok m _) (join_dv ok m _) h).1
    · rw [e]; exact ok.ps p
  · rcases val p with ⟨v, e, h, _⟩ | ⟨e, _⟩
    · rw [e]; exact (metAt_some ok (join_ps ok m _) (join_dv ok m _) h).2.1
    · rw [e]; exact ok.dv p
  · rcases val p with ⟨v, e, h, _⟩ | ⟨e, _⟩
    · rw [e]; exact (metAt_some ok (join_ps ok m _) (join_dv ok m _) h).2.2.1
    · rw [e]; exact ok.rd p
  · by_cases hp : (i, j) ∈ midPairs ns m
    · obtain ⟨z1, z2⟩ := (key i j hp x).mp hx
      exact (key j i (sw _ _ hp) _).mpr ⟨as _ _ _ z1, asm _ _ _ z2⟩
    · have hp' : (j, i) ∉ midPairs ns m := fun z => hp (sw _ _ z)
      exact (key2 j i hp' _).mpr (as _ _ _ ((key2 i j hp x).mp hx))
  · by_cases hp : (i, j) ∈ midPairs ns m
    · exact ((key i j hp d).mp hd).1
    · exact (key2 i j hp d).mp hd
  · by_cases hp : (i, j) ∈ midPairs ns m
    · exact (key i j hp _).mpr ⟨hs i j, x m - x i, x j - x m, hs i m, hs m j, by grind⟩
    · exact (key2 i j hp _).mpr (hs i j)
  · obtain ⟨_, _, _, d, e⟩ := mem_midPairs.mp hp
    rcases hm with z | z
    · exact d z
    · exact e z
/-- ways by m tell nothing more -/
def PC (ns : List ν) (c : Cs ν R) (m : ν) : Prop := ∀ i j, i ∈ ns → j ∈ ns → i ≠ j → m ≠ i → m ≠ j → ∀ d, S c i j d → Sm (S c i m) (S c m j) d
theorem Sm.mono {A B A' B' : R → Prop} (hA : ∀ x, A x → A' x) (hB : ∀ x, B x → B' x) {x : R} (h : Sm A B x) : Sm A' B' x := by
  obtain ⟨y, z, h1, h2, e⟩ := h
  exact ⟨y, z, hA _ h1, hB _ h2, e⟩
theorem midStep_PC {P : R} {ns : List ν} {c c' : Cs ν R} {m : ν} (nd : ns.Nodup) (ok : Ok P c) (as : AS c) (h : midStep ns c m = some c') (hm : m ∈ ns) :
    PC ns c' m ∧ ∀ n, n ∈ ns → n ≠ m → PC ns c n → PC ns c' n := by
  obtain ⟨ok', as', le, _, key, same⟩ := midStep_some nd ok as h
  have sm : ∀ i j d, m = i ∨ m = j → (S c' i j d ↔ S c i j d) := fun i j d hm => by
    unfold S
    rw [same i j hm]
  refine ⟨fun i j hi hj hij h1 h2 d hd => ?_, fun n hn hnm pc i j hi hj hij h1 h2 d hd => ?_⟩
  · obtain ⟨_, z⟩ := (key i j hi hj hij h1 h2 d).mp hd
    exact z.mono (fun x hx => (sm _ _ _ (.inr rfl)).mpr hx) fun x hx => (sm _ _ _ (.inl rfl)).mpr hx
  · -- zero goes there and back
    have zero : ∀ a b, Sm (S c a b) (S c b a) 0 := fun a b => ⟨_, _, S_ne ok a b, as _ _ _ (S_ne ok a b), by grind⟩
    have hold := le.le _ _ _ hd
    -- the two halves as they now are
    have L : ∀ x, i ≠ m → (S c' i n x ↔ S c i n x ∧ Sm (S c i m) (S c m n) x) := fun x q => key i n hi hn (fun e => h1 e.symm) (fun e => q e.symm) (fun e => hnm e.symm) x
    have Rr : ∀ x, j ≠ m → (S c' n j x ↔ S c n j x ∧ Sm (S c n m) (S c m j) x) := fun x q => key n j hn hj h2 (fun e => hnm e.symm) (fun e => q e.symm) x
    have eL := S_ne ok' i n
    have eR := S_ne ok' n j
    by_cases qi : i = m
    · subst qi
      have qj : j ≠ i := fun e => hij e.symm
      have x0 := pc i j hi hj hij h1 h2 d hold
      obtain ⟨w1, w2⟩ := (Rr _ qj).mp eR
      have goal : Sm (fun y => S c n j y ∧ Sm (S c n i) (S c i j) y) (S c i n) d := by
        refine dist (S_isC ok n j) (isC_sm (S_isC ok n i) (S_isC ok i j)) (S_isC ok i n) w1 w2 x0.comm ?_
        obtain ⟨y, z, g1, g2, g3⟩ := zero n i
        exact ⟨y + d, z, ⟨y, d, g1, hold, rfl⟩, g2, by grind⟩
      obtain ⟨y, z, g1, g2, g3⟩ := goal
      exact ⟨z, y, (sm i n z (.inl rfl)).mpr g2, (Rr _ qj).mpr g1, by grind⟩
    · by_cases qj : j = m
      · subst qj
        have x0 := pc i j hi hj hij h1 h2 d hold
        obtain ⟨w1, w2⟩ := (L _ qi).mp eL
        have goal : Sm (fun y => S c i n y ∧ Sm (S c i j) (S c j n) y) (S c n j) d := by
          refine dist (S_isC ok i n) (isC_sm (S_isC ok i j) (S_isC ok j n)) (S_isC ok n j) w1 w2 x0 ?_
          obtain ⟨y, z, g1, g2, g3⟩ := zero j n
          exact ⟨d + y, z, ⟨d, y, hold, g1, rfl⟩, g2, by grind⟩
        obtain ⟨y, z, g1, g2, g3⟩ := goal
        exact ⟨y, z, (L _ qi).mpr g1, (sm n j z (.inr rfl)).mpr g2, g3⟩
      · obtain ⟨_, via⟩ := (key i j hi hj hij (fun e => qi e.symm) (fun e => qj e.symm) d).mp hd
        obtain ⟨a1, a2⟩ := (L _ qi).mp eL
        obtain ⟨b1, b2⟩ := (Rr _ qj).mp eR
        have x0 := pc i j hi hj hij h1 h2 d hold
        obtain ⟨u, v, u1, v1, uv⟩ := via
        have pu := pc i m hi hm qi h1 hnm u u1
        have pv := pc m j hm hj (fun e => qj e.symm) hnm h2 v v1
        have iA := S_isC ok i n
        have iB := isC_sm (S_isC ok i m) (S_isC ok m n)
        have iC := S_isC ok n j
        have iE := isC_sm (S_isC ok n m) (S_isC ok m j)
        have iCE := isC_and iC iE b1 b2
        -- from A: both ends
        have gA : Sm (fun y => S c n j y ∧ Sm (S c n m) (S c m j) y) (S c i n) d := by
          refine dist iC iE iA b1 b2 x0.comm ?_
          obtain ⟨y, z, g1, g2, g3⟩ := pu
          exact ⟨z + v, y, ⟨z, v, g2, v1, rfl⟩, g1, by grind⟩
        have gB : Sm (fun y => S c n j y ∧ Sm (S c n m) (S c m j) y) (Sm (S c i m) (S c m n)) d := by
          refine dist iC iE iB b1 b2 ?_ ?_
          · obtain ⟨y, z, g1, g2, g3⟩ := pv
            exact ⟨z, u + y, g2, ⟨u, y, u1, g1, rfl⟩, by grind⟩
          · obtain ⟨y, z, g1, g2, g3⟩ := zero n m
            exact ⟨y + v, u + z, ⟨y, v, g1, v1, rfl⟩, ⟨u, z, u1, g2, rfl⟩, by grind⟩
        have goal := dist iA iB iCE a1 a2 gA.comm gB.comm
        obtain ⟨y, z, g1, g2, g3⟩ := goal
        exact ⟨y, z, (L _ qi).mpr g1, (Rr _ qj).mpr g2, g3⟩
/-- all middles -/
theorem mids_none {P : R} {ns : List ν} (nd : ns.Nodup) : ∀ {ms : List ν} {c : Cs ν R}, Ok P c → AS c → ms.foldlM (midStep ns) c = none → ∀ x, ¬ Sound c x
  | [], c, _, _, h => by cases h
  | m :: ms, c, ok, as, h => fun x hs => by
    rw [List.foldlM_cons] at h
    cases e : midStep ns c m with
    | none => exact midStep_none nd ok e x hs
    | some c' =>
      rw [e] at h
      obtain ⟨o1, o2, _, o3, _⟩ := midStep_some nd ok as e
      exact mids_none nd o1 o2 h x (o3 x hs)
theorem mids_some {P : R} {ns : List ν} (nd : ns.Nodup) : ∀ {ms : List ν} {c c' : Cs ν R}, ms.Nodup → (∀ m ∈ ms, m ∈ ns) → Ok P c → AS c → ms.foldlM (midStep ns) c = some c' →
    Ok P c' ∧ AS c' ∧ Less c c' ∧ (∀ x, Sound c x → Sound c' x) ∧ ∀ n, n ∈ ns → (PC ns c n ∨ n ∈ ms) → PC ns c' n
  | [], c, c', _, _, ok, as, h => by
    cases h
    exact ⟨ok, as, ⟨fun _ _ _ h => h⟩, fun _ h => h, fun n _ h => h.elim id fun z => nomatch z⟩
  | m :: ms, c, c', nm, sub, ok, as, h => by
    rw [List.foldlM_cons] at h
    rw [List.nodup_cons] at nm
    cases e : midStep ns c m with
    | none => rw [e] at h; cases h
    | some c1 =>
      rw [e] at h
      obtain ⟨o1, o2, o3, o4, _⟩ := midStep_some nd ok as e
      obtain ⟨q1, q2⟩ := midStep_PC nd ok as e (sub m (List.mem_cons_self ..))
      obtain ⟨p1, p2, p3, p4, p5⟩ := mids_some nd nm.2 (fun m' h' => sub m' (List.mem_cons_of_mem _ h')) o1 o2 h
      refine ⟨p1, p2, ⟨fun i j d h => o3.le _ _ _ (p3.le _ _ _ h)⟩, fun x hs => p4 x (o4 x hs), fun n hn hp => ?_⟩
      by_cases z : n = m
      · subst z
        exact p5 n hn (.inl q1)
      · rcases hp with hp | hp
        · exact p5 n hn (.inl (q2 n hn z hp))
        · rcases List.mem_cons.mp hp with w | w
          · exact absurd w z
          · exact p5 n hn (.inr w)
/-- what the closing gives -/
structure Closed (P : R) (ls : List (Ln ν R)) (ns : List ν) (c : Cs ν R) : Prop where
  ok : Ok P c
  as : AS c
  ln : ∀ l ∈ ls, ∀ d, S c l.1 l.2.1 d → Cg l.2.2.2 d l.2.2.1
  so : ∀ x, (∀ l ∈ ls, keepsL l x) → Sound c x
  pc : ∀ i j m, i ∈ ns → j ∈ ns → m ∈ ns → i ≠ j → m ≠ i → m ≠ j → ∀ d, S c i j d → Sm (S c i m) (S c m j) d
theorem closed_some {P : R} {ls : List (Ln ν R)} {ns : List ν} {c : Cs ν R} (nd : ns.Nodup) (hl : ∀ l ∈ ls, GoodL P l) (h : closedF ls ns = some c) : Closed P ls ns c := by
  unfold closedF at h
  cases e : ls.foldlM lineStep start with
  | none => rw [e] at h; cases h
  | some c1 =>
    rw [e] at h
    obtain ⟨o1, o2, _, o4, o5⟩ := lines_some (start_ok P) start_AS hl e
    obtain ⟨p1, p2, p3, p4, p5⟩ := mids_some nd nd (fun _ h => h) o1 o2 h
    exact ⟨p1, p2, fun l h d hd => o4 l h d (p3.le _ _ _ hd), fun x hk => p4 x (o5 x (start_sound x) hk), fun i j m hi hj hm => p5 m hm (.inr hm) i j hi hj⟩
theorem closed_none {P : R} {ls : List (Ln ν R)} {ns : List ν} (nd : ns.Nodup) (hl : ∀ l ∈ ls, GoodL P l) (h : closedF ls ns = none) (x : ν → R) : ¬ ∀ l ∈ ls, keepsL l x := by
  intro hk
  unfold closedF at h
  cases e : ls.foldlM lineStep start with
  | none => exact lines_none (start_ok P) start_AS hl e x (start_sound x) hk
  | some c1 =>
    rw [e] at h
    obtain ⟨o1, o2, _, _, o5⟩ := lines_some (start_ok P) start_AS hl e
    exact mids_none nd o1 o2 h x (o5 x (start_sound x) hk)
end
end Q

/-! ## LayA -/
/-! The data layer: slots hold plain data, heaps are hidden. -/
namespace J
open PySem PySem.Spec PyProof.Rows L2
open Evl (Ex ex_rd ex_l ex_t)

/-- plain data -/
inductive D where
  | non | bl (b : Bool) | int (i : Int) | str (x : Str)
  | lst (l : List D) | tup (l : List D)
  | dK (m : List (Key × D)) | dT (m : List (List Key × D))
  | scr (ns : List Int)
  | dF (m : List (Key × D))

mutual
/-- v stands for d, read off H -/
inductive Rp (K : PySem.W.Frag) (H : Hp) : V → D → Prop
  | non : Rp K H .non .non
  | bl (b : Bool) : Rp K H (.bl b) (.bl b)
  | int (i : Int) : Rp K H (.int i) (.int i)
  | str (x : Str) : Rp K H (.str x) (.str x)
  | lst {a : Addr} {xs : List V} {l : List D} : H a = some (.lst xs) → RpL K H xs l → Rp K H (.ref a) (.lst l)
  | tup {a : Addr} {xs : List V} {l : List D} : H a = some (.tup xs) → RpL K H xs l → Rp K H (.ref a) (.tup l)
  | dK {a : Addr} {ps : List (Key × V)} {m : List (Key × D)} : H a = some (.dK ps) → ps.map Prod.fst = m.map Prod.fst → RpL K H (ps.map Prod.snd) (m.map Prod.snd) → Rp K H (.ref a) (.dK m)
  | dF {a : Addr} {ps : List (Key × V)} {m : List (Key × D)} : Rd H a (.dK ps) → ps.map Prod.fst = m.map Prod.fst → RpL K H (ps.map Prod.snd) (m.map Prod.snd) → Rp K H (.ref a) (.dF m)
  | dT {a : Addr} {ps : List (List Key × V)} {m : List (List Key × D)} : Rd H a (.dT ps) → ps.map Prod.fst = m.map Prod.fst → RpL K H (ps.map Prod.snd) (m.map Prod.snd) → Rp K H (.ref a) (.dT m)
  | scr {a : Addr} {ns : List Int} : SqL K H a (ns.map V.int) → Rp K H (.ref a) (.scr ns)
inductive RpL (K : PySem.W.Frag) (H : Hp) : List V → List D → Prop
  | nil : RpL K H [] []
  | cons {v : V} {vs : List V} {d : D} {ds : List D} : Rp K H v d → RpL K H vs ds → RpL K H (v :: vs) (d :: ds)
end

section
variable {K : PySem.W.Frag} {H H' : Hp}
mutual
theorem Rp.mono (e : Ex H H') : ∀ {v : V} {d : D}, Rp K H v d → Rp K H' v d
  | _, _, .non => .non
  | _, _, .bl b => .bl b
  | _, _, .int i => .int i
  | _, _, .str x => .str x
  | _, _, .lst h r => .lst (e _ _ h) (RpL.mono e r)
  | _, _, .tup h r => .tup (e _ _ h) (RpL.mono e r)
  | _, _, .dK h q r => .dK (e _ _ h) q (RpL.mono e r)
  | _, _, .dF h q r => .dF (ex_rd e h) q (RpL.mono e r)
  | _, _, .dT h q r => .dT (ex_rd e h) q (RpL.mono e r)
  | _, _, .scr h => .scr (ex_l e h)
theorem RpL.mono (e : Ex H H') : ∀ {vs : List V} {ds : List D}, RpL K H vs ds → RpL K H' vs ds
  | _, _, .nil => .nil
  | _, _, .cons h r => .cons (Rp.mono e h) (RpL.mono e r)
end
theorem RpL.len : ∀ {vs : List V} {ds : List D}, RpL K H vs ds → vs.length = ds.length
  | _, _, .nil => rfl
  | _, _, .cons _ r => congrArg Nat.succ (RpL.len r)
theorem RpL.get : ∀ {vs : List V} {ds : List D} {i : Nat} {d : D}, RpL K H vs ds → ds[i]? = some d → ∃ v, vs[i]? = some v ∧ Rp K H v d
  | _, _, i, _, .nil, h => by simp at h
  | _, _, 0, _, .cons h _, e => by
    simp at e
    subst e
    exact ⟨_, rfl, h⟩
  | _, _, i + 1, d, .cons _ r, e => by
    obtain ⟨v, h1, h2⟩ := RpL.get (i := i) (d := d) r (by simpa using e)
    exact ⟨v, by simpa using h1, h2⟩
theorem RpL.getV : ∀ {vs : List V} {ds : List D} {i : Nat} {v : V}, RpL K H vs ds → vs[i]? = some v → ∃ d, ds[i]? = some d ∧ Rp K H v d
  | _, _, i, _, .nil, h => by simp at h
  | _, _, 0, _, .cons h _, e => by
    simp at e
    subst e
    exact ⟨_, rfl, h⟩
  | _, _, i + 1, v, .cons _ r, e => by
    obtain ⟨d, h1, h2⟩ := RpL.getV (i := i) (v := v) r (by simpa using e)
    exact ⟨d, by simpa using h1, h2⟩
theorem RpL.app : ∀ {vs ws : List V} {ds es : List D}, RpL K H vs ds → RpL K H ws es → RpL K H (vs ++ ws) (ds ++ es)
  | _, _, _, _, .nil, s => s
  | _, _, _, _, .cons h r, s => .cons h (RpL.app r s)
theorem RpL.snoc {vs : List V} {ds : List D} {v : V} {d : D} (r : RpL K H vs ds) (h : Rp K H v d) : RpL K H (vs ++ [v]) (ds ++ [d]) := r.app (.cons h .nil)
theorem RpL.take : ∀ {vs : List V} {ds : List D} (n : Nat), RpL K H vs ds → RpL K H (vs.take n) (ds.take n)
  | _, _, 0, _ => .nil
  | _, _, _ + 1, .nil => .nil
  | _, _, n + 1, .cons h r => .cons h (RpL.take n r)
theorem RpL.drop : ∀ {vs : List V} {ds : List D} (n : Nat), RpL K H vs ds → RpL K H (vs.drop n) (ds.drop n)
  | _, _, 0, r => r
  | _, _, _ + 1, .nil => .nil
  | _, _, n + 1, .cons _ r => RpL.drop n r
theorem RpL.rev : ∀ {vs : List V} {ds : List D}, RpL K H vs ds → RpL K H vs.reverse ds.reverse
  | _, _, .nil => .nil
  | v :: vs, d :: ds, .cons h r => by
    rw [List.reverse_cons, List.reverse_cons]
    exact (RpL.rev r).snoc h
theorem RpL.set : ∀ {vs : List V} {ds : List D} {v : V} {d : D} (i : Nat), RpL K H vs ds → Rp K H v d → RpL K H (vs.set i v) (ds.set i d)
  | _, _, _, _, _, .nil, _ => .nil
  | _, _, _, _, 0, .cons _ r, h => .cons h r
  | _, _, _, _, i + 1, .cons g r, h => .cons g (RpL.set i r h)
/-- inversions -/
theorem Rp.non_inv {v : V} (h : Rp K H v .non) : v = .non := by cases h; rfl
theorem Rp.bl_inv {v : V} {b : Bool} (h : Rp K H v (.bl b)) : v = .bl b := by cases h; rfl
theorem Rp.int_inv {v : V} {i : Int} (h : Rp K H v (.int i)) : v = .int i := by cases h; rfl
theorem Rp.str_inv {v : V} {x : Str} (h : Rp K H v (.str x)) : v = .str x := by cases h; rfl
theorem Rp.lst_inv {v : V} {l : List D} (h : Rp K H v (.lst l)) : ∃ a xs, v = .ref a ∧ H a = some (.lst xs) ∧ RpL K H xs l := by cases h with | lst h r => exact ⟨_, _, rfl, h, r⟩
theorem Rp.tup_inv {v : V} {l : List D} (h : Rp K H v (.tup l)) : ∃ a xs, v = .ref a ∧ H a = some (.tup xs) ∧ RpL K H xs l := by cases h with | tup h r => exact ⟨_, _, rfl, h, r⟩
theorem Rp.dK_inv {v : V} {m : List (Key × D)} (h : Rp K H v (.dK m)) : ∃ a ps, v = .ref a ∧ Rd H a (.dK ps) ∧ ps.map Prod.fst = m.map Prod.fst ∧ RpL K H (ps.map Prod.snd) (m.map Prod.snd) := by cases h with | dK h q r => exact ⟨_, _, rfl, .inl h, q, r⟩
theorem Rp.dK_inv' {v : V} {m : List (Key × D)} (h : Rp K H v (.dK m)) : ∃ a ps, v = .ref a ∧ H a = some (.dK ps) ∧ ps.map Prod.fst = m.map Prod.fst ∧ RpL K H (ps.map Prod.snd) (m.map Prod.snd) := by cases h with | dK h q r => exact ⟨_, _, rfl, h, q, r⟩
theorem Rp.dF_inv {v : V} {m : List (Key × D)} (h : Rp K H v (.dF m)) : ∃ a ps, v = .ref a ∧ Rd H a (.dK ps) ∧ ps.map Prod.fst = m.map Prod.fst ∧ RpL K H (ps.map Prod.snd) (m.map Prod.snd) := by cases h with | dF h q r => exact ⟨_, _, rfl, h, q, r⟩
theorem Rp.dT_inv {v : V} {m : List (List Key × D)} (h : Rp K H v (.dT m)) : ∃ a ps, v = .ref a ∧ Rd H a (.dT ps) ∧ ps.map Prod.fst = m.map Prod.fst ∧ RpL K H (ps.map Prod.snd) (m.map Prod.snd) := by cases h with | dT h q r => exact ⟨_, _, rfl, h, q, r⟩
theorem Rp.scr_inv {v : V} {ns : List Int} (h : Rp K H v (.scr ns)) : ∃ a, v = .ref a ∧ SqL K H a (ns.map V.int) := by cases h with | scr h => exact ⟨_, rfl, h⟩
/-- plain ints, texts -/
theorem rpL_ints : ∀ ns : List Int, RpL K H (ns.map V.int) (ns.map D.int)
  | [] => .nil
  | n :: r => .cons (.int n) (rpL_ints r)
theorem rpL_strs : ∀ ns : List Str, RpL K H (ns.map V.str) (ns.map D.str)
  | [] => .nil
  | n :: r => .cons (.str n) (rpL_strs r)
theorem RpL.ints_inv : ∀ {vs : List V} {ns : List Int}, RpL K H vs (ns.map D.int) → vs = ns.map V.int
  | _, [], h => by
    have h' : RpL K H _ [] := h
    cases h'
    rfl
  | _, n :: r, h => by
    have h' : RpL K H _ (.int n :: r.map D.int) := h
    cases h' with
    | cons h1 h2 =>
      cases h1
      rw [RpL.ints_inv h2]
      rfl
theorem RpL.strs_inv : ∀ {vs : List V} {ns : List Str}, RpL K H vs (ns.map D.str) → vs = ns.map V.str
  | _, [], h => by
    have h' : RpL K H _ [] := h
    cases h'
    rfl
  | _, n :: r, h => by
    have h' : RpL K H _ (.str n :: r.map D.str) := h
    cases h' with
    | cons h1 h2 =>
      cases h1
      rw [RpL.strs_inv h2]
      rfl
/-- a look-up by key, in data -/
def dV {κ : Type} [DecidableEq κ] (m : List (κ × D)) (k : κ) : Option D := (m.find? fun p => decide (p.1 = k)).map (·.2)
def dPut {κ : Type} [DecidableEq κ] (m : List (κ × D)) (k : κ) (d : D) : List (κ × D) :=
  if (m.any fun kv => decide (kv.1 = k)) = true then m.map (fun kv => if kv.1 = k then (kv.1, d) else kv) else m ++ [(k, d)]
theorem dict_val {κ : Type} [DecidableEq κ] {k : κ} : ∀ {ps : List (κ × V)} {m : List (κ × D)}, ps.map Prod.fst = m.map Prod.fst → RpL K H (ps.map Prod.snd) (m.map Prod.snd) →
    (∀ d, dV m k = some d → ∃ v, valV ps k = some v ∧ Rp K H v d) ∧ (dV m k = none → valV ps k = none)
  | [], [], _, _ => ⟨fun d h => by simp [dV] at h, fun _ => rfl⟩
  | [], _ :: _, e, _ => by simp at e
  | _ :: _, [], e, _ => by simp at e
  | (a, v) :: ps, (b, d) :: m, e, r => by
    simp only [List.map_cons, List.cons.injEq] at e
    obtain ⟨e1, e2⟩ := e
    have e1' : a = b := e1
    subst e1'
    have r' : RpL K H (v :: ps.map Prod.snd) (d :: m.map Prod.snd) := r
    cases r' with
    | cons h1 h2 =>
      have ih := dict_val (k := k) e2 h2
      by_cases hk : a = k
      · refine ⟨fun d' hd => ?_, fun hn => ?_⟩
        · have : d = d' := by simpa [dV, List.find?_cons, hk] using hd
          subst this
          exact ⟨v, valV_pos hk, h1⟩
        · simp [dV, List.find?_cons, hk] at hn
      · have hs : dV ((a, d) :: m) k = dV m k := by simp [dV, List.find?_cons, hk]
        rw [hs, valV_neg (p := (a, v)) hk]
        exact ih
theorem dict_put {κ : Type} [DecidableEq κ] {k : κ} {v : V} {d : D} (hd : Rp K H v d) : ∀ {ps : List (κ × V)} {m : List (κ × D)}, ps.map Prod.fst = m.map Prod.fst → RpL K H (ps.map Prod.snd) (m.map Prod.snd) →
    (putK ps k v).map Prod.fst = (dPut m k d).map Prod.fst ∧ RpL K H ((putK ps k v).map Prod.snd) ((dPut m k d).map Prod.snd) := by
  intro ps m e r
  have ha : ∀ {ps : List (κ × V)} {m : List (κ × D)}, ps.map Prod.fst = m.map Prod.fst → (ps.any fun kv => decide (kv.1 = k)) = (m.any fun kv => decide (kv.1 = k)) := by
    intro ps m e
    have h1 : (ps.any fun kv => decide (kv.1 = k)) = (ps.map Prod.fst).any fun x => decide (x = k) := by rw [List.any_map]; rfl
    have h2 : (m.any fun kv => decide (kv.1 = k)) = (m.map Prod.fst).any fun x => decide (x = k) := by rw [List.any_map]; rfl
    rw [h1, h2, e]
  have hm : ∀ {ps : List (κ × V)} {m : List (κ × D)}, ps.map Prod.fst = m.map Prod.fst → RpL K H (ps.map Prod.snd) (m.map Prod.snd) →
      (ps.map fun kv => if kv.1 = k then (kv.1, v) else kv).map Prod.fst = (m.map fun kv => if kv.1 = k then (kv.1, d) else kv).map Prod.fst ∧
      RpL K H ((ps.map fun kv => if kv.1 = k then (kv.1, v) else kv).map Prod.snd) ((m.map fun kv => if kv.1 = k then (kv.1, d) else kv).map Prod.snd) := by
    intro ps
    induction ps with
    | nil =>
      intro m e r
      cases m with
      | nil => exact ⟨rfl, .nil⟩
      | cons _ _ => simp at e
    | cons p ps ih =>
      intro m e r
      cases m with
      | nil => simp at e
      | cons q m =>
        obtain ⟨a, v0⟩ := p
        obtain ⟨b, d0⟩ := q
        simp only [List.map_cons, List.cons.injEq] at e
        obtain ⟨e1, e2⟩ := e
        have e1' : a = b := e1
        subst e1'
        have r' : RpL K H (v0 :: ps.map Prod.snd) (d0 :: m.map Prod.snd) := r
        cases r' with
        | cons h1 h2 =>
          obtain ⟨i1, i2⟩ := ih e2 h2
          by_cases hk : a = k
          · simp only [List.map_cons, if_pos hk]
            exact ⟨by rw [i1], .cons hd i2⟩
          · simp only [List.map_cons, if_neg hk]
            exact ⟨by rw [i1], .cons h1 i2⟩
  unfold putK dPut
  rw [ha e]
  by_cases c : (m.any fun kv => decide (kv.1 = k)) = true
  · rw [if_pos c, if_pos c]
    exact hm e r
  · rw [if_neg c, if_neg c]
    simp only [List.map_append, List.map_cons, List.map_nil]
    exact ⟨by rw [e], r.snoc hd⟩
end

/-! ### one step: from a stable part Hs of H to a stable part Hs' of H'; only what M names may change -/
structure Go (M : Addr → Prop) (Hs H Hs' H' : Hp) : Prop where
  s : Ex Hs Hs'
  i : Ex Hs' H'
  n : ∀ a, Hs' a ≠ none → Hs a ≠ none ∨ H a = none ∨ ∃ xs, H a = some (.tup xs)
  f : ∀ a o, H a = some o → ¬ M a → H' a = some o
  d : ∀ a, H a ≠ none → H' a ≠ none
  t : ∀ a xs, H' a = some (.tup xs) → H a = none ∨ H a = some (.tup xs)
abbrev N0 : Addr → Prop := fun _ => False
section
variable {M M1 : Addr → Prop} {Hs H Hs1 H1 Hs2 H2 : Hp}
theorem Go.refl (e : Ex Hs H) : Go M Hs H Hs H := ⟨Ex.refl _, e, fun _ h => .inl h, fun _ _ h _ => h, fun _ h => h, fun _ _ h => .inr h⟩
theorem Go.trans (a : Go M Hs H Hs1 H1) (b : Go M1 Hs1 H1 Hs2 H2) (hm : ∀ p, M1 p → M p ∨ H p = none) : Go M Hs H Hs2 H2 where
  s := a.s.trans b.s
  i := b.i
  n := fun x h => by
    rcases b.n x h with q | q | ⟨xs, q⟩
    · exact a.n x q
    · refine .inr (.inl ?_)
      cases e : H x with
      | none => rfl
      | some o => exact absurd q (a.d x (by rw [e]; simp))
    · rcases a.t x xs q with z | z
      · exact .inr (.inl z)
      · exact .inr (.inr ⟨xs, z⟩)
  f := fun x o h nm => b.f x o (a.f x o h nm) fun q => by
    rcases hm x q with z | z
    · exact nm z
    · rw [h] at z; cases z
  d := fun x h => b.d x (a.d x h)
  t := fun x xs h => by
    rcases b.t x xs h with z | z
    · refine .inl ?_
      cases e : H x with
      | none => rfl
      | some o => exact absurd z (a.d x (by rw [e]; simp))
    · exact a.t x xs z
theorem Go.trans0 (a : Go N0 Hs H Hs1 H1) (b : Go N0 Hs1 H1 Hs2 H2) : Go N0 Hs H Hs2 H2 := a.trans b fun _ q => q.elim
theorem Go.ex (a : Go N0 Hs H Hs1 H1) : Ex H H1 := fun x o h => a.f x o h fun q => q
/-- a new object, stable from now on -/
theorem Go.new {p : Addr} {o : HO} (e : Ex Hs H) (hp : H p = none) : Go M Hs H (upd Hs p o) (upd H p o) where
  s := fun a u h => by rw [upd_ne (ne_of_none (e a u h) hp)]; exact h
  i := fun a u h => by
    by_cases q : a = p
    · subst q; rw [upd_same] at h ⊢; exact h
    · rw [upd_ne q] at h ⊢; exact e a u h
  n := fun a h => by
    by_cases q : a = p
    · subst q; exact .inr (.inl hp)
    · rw [upd_ne q] at h; exact .inl h
  f := fun a u h _ => by rw [upd_ne (ne_of_none h hp)]; exact h
  d := fun a h => by
    by_cases q : a = p
    · subst q; rw [upd_same]; simp
    · rw [upd_ne q]; exact h
  t := fun a xs h => by
    by_cases q : a = p
    · subst q; exact .inl hp
    · rw [upd_ne q] at h; exact .inr h
/-- a new object, not stable -/
theorem Go.newM {p : Addr} {o : HO} (e : Ex Hs H) (hp : H p = none) : Go M Hs H Hs (upd H p o) where
  s := Ex.refl _
  i := fun a u h => by rw [upd_ne (ne_of_none (e a u h) hp)]; exact e a u h
  n := fun a h => .inl h
  f := fun a u h _ => by rw [upd_ne (ne_of_none h hp)]; exact h
  d := fun a h => by
    by_cases q : a = p
    · subst q; rw [upd_same]; simp
    · rw [upd_ne q]; exact h
  t := fun a xs h => by
    by_cases q : a = p
    · subst q; exact .inl hp
    · rw [upd_ne q] at h; exact .inr h
/-- a stored object that is not stable -/
theorem Go.write {p : Addr} {o : HO} (e : Ex Hs H) (hs : Hs p = none) (hp : H p ≠ none) (ho : ∀ xs, o ≠ .tup xs) : Go (fun a => a = p) Hs H Hs (upd H p o) where
  s := Ex.refl _
  i := fun a u h => by
    have q : a ≠ p := ne_of_none h hs
    rw [upd_ne q]
    exact e a u h
  n := fun a h => .inl h
  f := fun a u h q => by rw [upd_ne q]; exact h
  d := fun a h => by
    by_cases q : a = p
    · subst q; rw [upd_same]; simp
    · rw [upd_ne q]; exact h
  t := fun a xs h => by
    by_cases q : a = p
    · subst q; rw [upd_same] at h; exact absurd (Option.some.inj h) (ho xs)
    · rw [upd_ne q] at h; exact .inr h
end

/-! ### slots -/
abbrev Env := List (Option (Bool × D))
/-- an object that may change: it stands in H, not in Hs; what it holds is stable -/
inductive Mt (K : PySem.W.Frag) (Hs H : Hp) : V → D → Prop
  | lst {a : Addr} {xs : List V} {l : List D} : Hs a = none → H a = some (.lst xs) → RpL K Hs xs l → Mt K Hs H (.ref a) (.lst l)
  | dK {a : Addr} {ps : List (Key × V)} {m : List (Key × D)} : Hs a = none → H a = some (.dK ps) → ps.map Prod.fst = m.map Prod.fst → RpL K Hs (ps.map Prod.snd) (m.map Prod.snd) → Mt K Hs H (.ref a) (.dK m)
  | dT {a : Addr} {ps : List (List Key × V)} {m : List (List Key × D)} : Hs a = none → H a = some (.dT ps) → ps.map Prod.fst = m.map Prod.fst → RpL K Hs (ps.map Prod.snd) (m.map Prod.snd) → Mt K Hs H (.ref a) (.dT m)
def Sl (K : PySem.W.Frag) (Hs H : Hp) : Option V → Option (Bool × D) → Prop
  | _, none => True
  | some v, some (false, d) => Rp K Hs v d
  | some v, some (true, d) => Mt K Hs H v d
  | none, some _ => False
/-- an expression's view -/
structure Rl (K : PySem.W.Frag) (Hs H : Hp) (σ : L2.St) (ρ : Env) : Prop where
  ex : Ex Hs H
  sl : Paired (Sl K Hs H) σ ρ
  di : ∀ (i j : Nat) (d d' : D) (a : Addr), i ≠ j → ρ[i]? = some (some (true, d)) → ρ[j]? = some (some (true, d')) → σ[i]? = some (some (.ref a)) → σ[j]? = some (some (.ref a)) → False
abbrev An := Option (Nat × Addr)
/-- the address that the caller lets change -/
def Ma (an : An) (a : Addr) : Prop := ∃ i, an = some (i, a)
/-- a statement's view, from the entry's heaps on -/
structure Rel (K : PySem.W.Frag) (an : An) (Hs0 H0 Hs H : Hp) (σ : L2.St) (ρ : Env) : Prop extends Rl K Hs H σ ρ where
  go : Go (Ma an) Hs0 H0 Hs H
  anc : ∀ i a, an = some (i, a) → σ[i]? = some (some (.ref a))
  fr : ∀ (i : Nat) (d : D) (a : Addr), ρ[i]? = some (some (true, d)) → σ[i]? = some (some (.ref a)) → H0 a = none ∨ Ma an a

section
variable {K : PySem.W.Frag} {an : An} {Hs0 H0 Hs H Hs' H' : Hp} {σ : L2.St} {ρ : Env}
theorem Paired.get' {α β : Type} {F : α → β → Prop} : ∀ {l : List α} {m : List β} {i : Nat} {b : β}, Paired F l m → m[i]? = some b → ∃ a, l[i]? = some a ∧ F a b
  | _, _, i, _, .nil, h => by simp at h
  | _, _, 0, _, .cons h _, e => by
    simp at e
    subst e
    exact ⟨_, rfl, h⟩
  | _, _, i + 1, b, .cons _ r, e => by
    obtain ⟨a, h1, h2⟩ := Paired.get' (i := i) (b := b) r (by simpa using e)
    exact ⟨a, by simpa using h1, h2⟩
theorem Paired.set' {α β : Type} {F : α → β → Prop} {a : α} {b : β} (h : F a b) : ∀ {l : List α} {m : List β} (i : Nat), Paired F l m → Paired F (l.set i a) (m.set i b)
  | _, _, _, .nil => .nil
  | _, _, 0, .cons _ r => .cons h r
  | _, _, i + 1, .cons g r => .cons g (Paired.set' h i r)
theorem Mt.stay {v : V} {d : D} (m : Mt K Hs H v d) (g : Go N0 Hs H Hs' H') : Mt K Hs' H' v d := by
  have nw : ∀ {a : Addr} {o : HO}, Hs a = none → H a = some o → (∀ xs, o ≠ .tup xs) → Hs' a = none := fun {a o} h1 h2 ho => by
    cases q : Hs' a with
    | none => rfl
    | some u =>
      rcases g.n a (by rw [q]; simp) with z | z | ⟨xs, z⟩
      · exact absurd h1 z
      · rw [h2] at z; cases z
      · rw [h2] at z; exact absurd (Option.some.inj z) (ho xs)
  cases m with
  | lst h1 h2 r => exact .lst (nw h1 h2 (fun _ z => nomatch z)) (g.ex _ _ h2) (r.mono g.s)
  | dK h1 h2 q r => exact .dK (nw h1 h2 (fun _ z => nomatch z)) (g.ex _ _ h2) q (r.mono g.s)
  | dT h1 h2 q r => exact .dT (nw h1 h2 (fun _ z => nomatch z)) (g.ex _ _ h2) q (r.mono g.s)
theorem Sl.stay {x : Option V} {y : Option (Bool × D)} (h : Sl K Hs H x y) (g : Go N0 Hs H Hs' H') : Sl K Hs' H' x y := by
  cases y with
  | none => cases x <;> trivial
  | some p =>
    obtain ⟨b, d⟩ := p
    cases x with
    | none => cases b <;> exact h
    | some v =>
      cases b with
      | false => exact Rp.mono g.s h
      | true => exact Mt.stay h g
theorem Rl.stay (R : Rl K Hs H σ ρ) (g : Go N0 Hs H Hs' H') : Rl K Hs' H' σ ρ := ⟨g.i, Paired.mapP R.sl fun _ _ h => h.stay g, R.di⟩
theorem Rel.stay (R : Rel K an Hs0 H0 Hs H σ ρ) (g : Go N0 Hs H Hs' H') : Rel K an Hs0 H0 Hs' H' σ ρ := ⟨R.toRl.stay g, R.go.trans g fun _ q => q.elim, R.anc, R.fr⟩
theorem Rl.slot (R : Rl K Hs H σ ρ) {i : Nat} {d : D} (h : ρ[i]? = some (some (false, d))) : ∃ v, σ[i]? = some (some v) ∧ Rp K Hs v d := by
  obtain ⟨a, h1, h2⟩ := Paired.get' R.sl h
  cases a with
  | none => exact h2.elim
  | some v => exact ⟨v, h1, h2⟩
theorem Rl.slotM (R : Rl K Hs H σ ρ) {i : Nat} {d : D} (h : ρ[i]? = some (some (true, d))) : ∃ v, σ[i]? = some (some v) ∧ Mt K Hs H v d := by
  obtain ⟨a, h1, h2⟩ := Paired.get' R.sl h
  cases a with
  | none => exact h2.elim
  | some v => exact ⟨v, h1, h2⟩
theorem Mt.ref {v : V} {d : D} (m : Mt K Hs H v d) : ∃ a, v = .ref a ∧ Hs a = none ∧ H a ≠ none := by
  cases m with
  | lst h1 h2 r => exact ⟨_, rfl, h1, by rw [h2]; simp⟩
  | dK h1 h2 q r => exact ⟨_, rfl, h1, by rw [h2]; simp⟩
  | dT h1 h2 q r => exact ⟨_, rfl, h1, by rw [h2]; simp⟩
theorem set_get {α : Type} {l : List α} {i j : Nat} {x y : α} (h : (l.set i x)[j]? = some y) : (j = i ∧ y = x) ∨ (j ≠ i ∧ l[j]? = some y) := by
  by_cases e : j = i
  · subst e
    by_cases hl : j < l.length
    · rw [List.getElem?_set_self hl] at h
      exact .inl ⟨rfl, (Option.some.inj h).symm⟩
    · have : (l.set j x)[j]? = none := by rw [List.getElem?_eq_none_iff]; simp; omega
      rw [this] at h; cases h
  · rw [List.getElem?_set_ne (Ne.symm e)] at h
    exact .inr ⟨e, h⟩
theorem set_get_ne {α : Type} {l : List α} {i j : Nat} {x y : α} (h : l[j]? = some y) (e : j ≠ i) : (l.set i x)[j]? = some y := by
  rw [List.getElem?_set_ne (Ne.symm e)]
  exact h
/-- a slot takes stable data -/
theorem Rel.set (R : Rel K an Hs0 H0 Hs H σ ρ) {i : Nat} {v : V} {d : D} (h : Rp K Hs v d) (hi : ∀ a, an ≠ some (i, a)) : Rel K an Hs0 H0 Hs H (σ.set i (some v)) (ρ.set i (some (false, d))) where
  ex := R.ex
  sl := Paired.set' (show Sl K Hs H (some v) (some (false, d)) from h) i R.sl
  di := fun j k e e' a ne h1 h2 h3 h4 => by
    rcases set_get h1 with ⟨_, z⟩ | ⟨n1, h1⟩
    · cases z
    rcases set_get h2 with ⟨_, z⟩ | ⟨n2, h2⟩
    · cases z
    rw [List.getElem?_set_ne (Ne.symm n1)] at h3
    rw [List.getElem?_set_ne (Ne.symm n2)] at h4
    exact R.di j k e e' a ne h1 h2 h3 h4
  go := R.go
  anc := fun j a e => set_get_ne (R.anc j a e) fun q => hi a (by rw [← q]; exact e)
  fr := fun j e a h1 h2 => by
    rcases set_get h1 with ⟨_, z⟩ | ⟨n1, h1⟩
    · cases z
    rw [List.getElem?_set_ne (Ne.symm n1)] at h2
    exact R.fr j e a h1 h2
/-- a slot forgets -/
theorem Rel.forget (R : Rel K an Hs0 H0 Hs H σ ρ) {i : Nat} {v : V} (hi : ∀ a, an ≠ some (i, a)) : Rel K an Hs0 H0 Hs H (σ.set i (some v)) (ρ.set i none) where
  ex := R.ex
  sl := Paired.set' (show Sl K Hs H (some v) none from trivial) i R.sl
  di := fun j k e e' a ne h1 h2 h3 h4 => by
    rcases set_get h1 with ⟨_, z⟩ | ⟨n1, h1⟩
    · cases z
    rcases set_get h2 with ⟨_, z⟩ | ⟨n2, h2⟩
    · cases z
    rw [List.getElem?_set_ne (Ne.symm n1)] at h3
    rw [List.getElem?_set_ne (Ne.symm n2)] at h4
    exact R.di j k e e' a ne h1 h2 h3 h4
  go := R.go
  anc := fun j a e => set_get_ne (R.anc j a e) fun q => hi a (by rw [← q]; exact e)
  fr := fun j e a h1 h2 => by
    rcases set_get h1 with ⟨_, z⟩ | ⟨n1, h1⟩
    · cases z
    rw [List.getElem?_set_ne (Ne.symm n1)] at h2
    exact R.fr j e a h1 h2
/-- a slot takes a new object that may change -/
theorem Rel.setM (R : Rel K an Hs0 H0 Hs H σ ρ) {i : Nat} {p : Addr} {d : D} (h : Mt K Hs H (.ref p) d) (hn : H0 p = none) (hf : ∀ (j : Nat) e, ρ[j]? = some (some (true, e)) → σ[j]? ≠ some (some (.ref p))) (hi : ∀ a, an ≠ some (i, a)) :
    Rel K an Hs0 H0 Hs H (σ.set i (some (.ref p))) (ρ.set i (some (true, d))) where
  ex := R.ex
  sl := Paired.set' (show Sl K Hs H (some (.ref p)) (some (true, d)) from h) i R.sl
  di := fun j k e e' a ne h1 h2 h3 h4 => by
    rcases set_get h1 with ⟨q1, z1⟩ | ⟨n1, g1⟩
    · rcases set_get h2 with ⟨q2, _⟩ | ⟨n2, g2⟩
      · exact ne (q1.trans q2.symm)
      · rw [List.getElem?_set_ne (Ne.symm n2)] at h4
        rcases set_get h3 with ⟨_, z⟩ | ⟨n3, _⟩
        · cases z
          exact hf k _ g2 h4
        · exact n3 q1
    · rw [List.getElem?_set_ne (Ne.symm n1)] at h3
      rcases set_get h2 with ⟨q2, _⟩ | ⟨n2, g2⟩
      · rcases set_get h4 with ⟨_, z⟩ | ⟨n3, _⟩
        · cases z
          exact hf j _ g1 h3
        · exact n3 q2
      · rw [List.getElem?_set_ne (Ne.symm n2)] at h4
        exact R.di j k e e' a ne g1 g2 h3 h4
  go := R.go
  anc := fun j a e => set_get_ne (R.anc j a e) fun q => hi a (by rw [← q]; exact e)
  fr := fun j e a h1 h2 => by
    rcases set_get h1 with ⟨q1, _⟩ | ⟨n1, h1⟩
    · subst q1
      rcases set_get h2 with ⟨_, z⟩ | ⟨n3, _⟩
      · cases z
        exact .inl hn
      · exact absurd rfl n3
    · rw [List.getElem?_set_ne (Ne.symm n1)] at h2
      exact R.fr j e a h1 h2
end

/-! ### expressions -/
def Ev (K : PySem.W.Frag) (te : TE) (ρ : Env) (d : D) : Prop := ∀ σ Hs H, Rl K Hs H σ ρ → ∀ Q : VK, (∀ v Hs' H', Go N0 Hs H Hs' H' → Rp K Hs' v d → Q v H') → te σ H Q
/-- a new object that may change -/
def EvN (K : PySem.W.Frag) (te : TE) (ρ : Env) (d : D) : Prop := ∀ σ Hs H, Rl K Hs H σ ρ → ∀ Q : VK, (∀ p Hs' H', Go N0 Hs H Hs' H' → H p = none → Mt K Hs' H' (.ref p) d → Q (.ref p) H') → te σ H Q
def EvT (K : PySem.W.Frag) (tt : TT) (ρ : Env) (b : Bool) : Prop := ∀ σ Hs H, Rl K Hs H σ ρ → ∀ Q : Bool → Hp → Prop, (∀ Hs' H', Go N0 Hs H Hs' H' → Q b H') → tt σ H Q
def EvA (K : PySem.W.Frag) (ta : TA) (ρ : Env) (ds : List D) : Prop := ∀ σ Hs H, Rl K Hs H σ ρ → ∀ Q : List V → Hp → Prop, (∀ vs Hs' H', Go N0 Hs H Hs' H' → RpL K Hs' vs ds → Q vs H') → ta σ H Q
def EvO (K : PySem.W.Frag) (to : TO) (ρ : Env) (o : Option Int) : Prop := ∀ σ Hs H, Rl K Hs H σ ρ → ∀ Q : Option Int → Hp → Prop, (∀ Hs' H', Go N0 Hs H Hs' H' → Q o H') → to σ H Q
/-- operations on values -/
def Op2 (K : PySem.W.Frag) (r : R2) (x y z : D) : Prop := ∀ Hs H v w (Q : VK), Ex Hs H → Rp K Hs v x → Rp K Hs w y → (∀ u Hs' H', Go N0 Hs H Hs' H' → Rp K Hs' u z → Q u H') → r v w H Q
def Op1 (K : PySem.W.Frag) (r : V → Hp → VK → Prop) (x z : D) : Prop := ∀ Hs H v (Q : VK), Ex Hs H → Rp K Hs v x → (∀ u Hs' H', Go N0 Hs H Hs' H' → Rp K Hs' u z → Q u H') → r v H Q
def OpC (K : PySem.W.Frag) (r : List V → Hp → VK → Prop) (xs : List D) (z : D) : Prop := ∀ Hs H vs (Q : VK), Ex Hs H → RpL K Hs vs xs → (∀ u Hs' H', Go N0 Hs H Hs' H' → Rp K Hs' u z → Q u H') → r vs H Q
def OpM (K : PySem.W.Frag) (r : V → List V → Hp → VK → Prop) (x : D) (xs : List D) (z : D) : Prop := ∀ Hs H v vs (Q : VK), Ex Hs H → Rp K Hs v x → RpL K Hs vs xs → (∀ u Hs' H', Go N0 Hs H Hs' H' → Rp K Hs' u z → Q u H') → r v vs H Q

section
variable {K : PySem.W.Frag} {ρ : Env} {ta tb tc te : TE} {t u : TT} {x y z d : D}
theorem ev_var {i : Nat} (h : ρ[i]? = some (some (false, d))) : Ev K (tVar i) ρ d := fun σ Hs H R Q q => by
  obtain ⟨v, h1, h2⟩ := R.slot h
  exact ⟨v, h1, q v Hs H (.refl R.ex) h2⟩
theorem ev_int {i : Int} : Ev K (tC (.int i)) ρ (.int i) := fun _ Hs H R Q q => q _ Hs H (.refl R.ex) (.int i)
theorem ev_str {s : Str} : Ev K (tC (.str s)) ρ (.str s) := fun _ Hs H R Q q => q _ Hs H (.refl R.ex) (.str s)
theorem ev_bl {b : Bool} : Ev K (tC (.bl b)) ρ (.bl b) := fun _ Hs H R Q q => q _ Hs H (.refl R.ex) (.bl b)
theorem ev_non : Ev K (tC .non) ρ .non := fun _ Hs H R Q q => q _ Hs H (.refl R.ex) .non
theorem ev_op {r : R2} (ha : Ev K ta ρ x) (hb : Ev K tb ρ y) (hr : Op2 K r x y z) : Ev K (tOp r ta tb) ρ z := fun σ Hs H R Q q =>
  ha σ Hs H R _ fun v Hs1 H1 g1 r1 => hb σ Hs1 H1 (R.stay g1) _ fun w Hs2 H2 g2 r2 => hr Hs2 H2 v w Q g2.i (r1.mono g2.s) r2 fun u Hs3 H3 g3 r3 => q u Hs3 H3 (g1.trans0 (g2.trans0 g3)) r3
theorem ev_un {r : V → Hp → VK → Prop} (ha : Ev K ta ρ x) (hr : Op1 K r x z) : Ev K (tUn r ta) ρ z := fun σ Hs H R Q q =>
  ha σ Hs H R _ fun v Hs1 H1 g1 r1 => hr Hs1 H1 v Q g1.i r1 fun u Hs3 H3 g3 r3 => q u Hs3 H3 (g1.trans0 g3) r3
theorem ev_cb {r : List V → Hp → VK → Prop} {tA : TA} {xs : List D} (ha : EvA K tA ρ xs) (hr : OpC K r xs z) : Ev K (tCB r tA) ρ z := fun σ Hs H R Q q =>
  ha σ Hs H R _ fun v Hs1 H1 g1 r1 => hr Hs1 H1 v Q g1.i r1 fun u Hs3 H3 g3 r3 => q u Hs3 H3 (g1.trans0 g3) r3
theorem ea_nil : EvA K tNil ρ [] := fun _ Hs H R Q q => q [] Hs H (.refl R.ex) .nil
theorem ea_cons {tr : TA} {ds : List D} (ha : Ev K ta ρ x) (hr : EvA K tr ρ ds) : EvA K (tCons ta tr) ρ (x :: ds) := fun σ Hs H R Q q =>
  ha σ Hs H R _ fun v Hs1 H1 g1 r1 => hr σ Hs1 H1 (R.stay g1) _ fun vs Hs2 H2 g2 r2 => q (v :: vs) Hs2 H2 (g1.trans0 g2) (.cons (r1.mono g2.s) r2)
/-- what is new is stable from now on -/
theorem EvN.ev (h : EvN K te ρ d) : Ev K te ρ d := fun σ Hs H R Q q => h σ Hs H R Q fun p Hs' H' g hp m => by
  obtain ⟨a, e, ha, hb⟩ := m.ref
  cases e
  cases ho : H' p with
  | none => exact absurd ho hb
  | some o =>
    have ntup : ∀ xs, o ≠ .tup xs := fun xs e => by
      subst e
      cases m with
      | lst _ h2 _ => rw [h2] at ho; cases ho
      | dK _ h2 _ _ => rw [h2] at ho; cases ho
      | dT _ h2 _ _ => rw [h2] at ho; cases ho
    have e2 : Ex Hs' (upd Hs' p o) := fun a u e => by rw [upd_ne (ne_of_none e ha)]; exact e
    refine q (.ref p) (upd Hs' p o) H' ⟨g.s.trans e2, fun a u e => ?_, fun a h => ?_, g.f, g.d, g.t⟩ ?_
    · by_cases z : a = p
      · subst z; rw [upd_same] at e; cases e; exact ho
      · rw [upd_ne z] at e; exact g.i a u e
    · by_cases z : a = p
      · subst z; exact .inr (.inl hp)
      · rw [upd_ne z] at h; exact g.n a h
    · cases m with
      | lst _ h2 r => rw [h2] at ho; cases ho; exact .lst upd_same (r.mono e2)
      | dK _ h2 k r => rw [h2] at ho; cases ho; exact .dK upd_same k (r.mono e2)
      | dT _ h2 k r => rw [h2] at ho; cases ho; exact .dT (.inl upd_same) k (r.mono e2)
theorem en_lst {tA : TA} {ds : List D} (h : EvA K tA ρ ds) (hl : ds.length ≤ sizeLine) : EvN K (tLst tA) ρ (.lst ds) := fun σ Hs H R Q q =>
  h σ Hs H R _ fun vs Hs1 H1 g1 r1 => ⟨by rw [r1.len]; exact hl, fun p hp => by
    have hs : Hs1 p = none := by
      cases e : Hs1 p with
      | none => rfl
      | some o => rw [g1.i p o e] at hp; cases hp
    have hp0 : H p = none := by
      cases e : H p with
      | none => rfl
      | some o => exact absurd hp (g1.d p (by rw [e]; simp))
    exact q p Hs1 _ (g1.trans0 (.newM g1.i hp)) hp0 (.lst hs upd_same r1)⟩
theorem ev_lst {tA : TA} {ds : List D} (h : EvA K tA ρ ds) (hl : ds.length ≤ sizeLine) : Ev K (tLst tA) ρ (.lst ds) := (en_lst h hl).ev
theorem go_free {M : Addr → Prop} {Hs H Hs1 H1 : Hp} (g : Go M Hs H Hs1 H1) {p : Addr} (hp : H1 p = none) : H p = none := by
  cases e : H p with
  | none => rfl
  | some o => exact absurd hp (g.d p (by rw [e]; simp))
theorem ex_free {Hs H : Hp} (g : Ex Hs H) {p : Addr} (hp : H p = none) : Hs p = none := by
  cases e : Hs p with
  | none => rfl
  | some o => rw [g p o e] at hp; cases hp
/-- a new tuple is stable at once -/
theorem ev_tup {tA : TA} {ds : List D} (h : EvA K tA ρ ds) (hl : ds.length ≤ sizeLine) : Ev K (tTup tA) ρ (.tup ds) := fun σ Hs H R Q q =>
  h σ Hs H R _ fun vs Hs1 H1 g1 r1 => ⟨by rw [r1.len]; exact hl, fun p hp => by
    have g2 : Go N0 Hs1 H1 (upd Hs1 p (.tup vs)) (upd H1 p (.tup vs)) := .new g1.i hp
    exact q _ _ _ (g1.trans0 g2) (.tup upd_same (r1.mono g2.s))⟩
theorem en_dnewK : EvN K tDNewK ρ (.dK []) := fun σ Hs H R Q q p hp => q p Hs _ (.newM R.ex hp) hp (.dK (ex_free R.ex hp) upd_same rfl .nil)
theorem en_dnewT : EvN K tDNewT ρ (.dT []) := fun σ Hs H R Q q p hp => q p Hs _ (.newM R.ex hp) hp (.dT (ex_free R.ex hp) upd_same rfl .nil)
/-- tests -/
theorem et_test {b : Bool} (h : Ev K te ρ (.bl b)) : EvT K (tTest te) ρ b := fun σ Hs H R Q q => h σ Hs H R _ fun v Hs1 H1 g r => ⟨b, r.bl_inv, q Hs1 H1 g⟩
theorem et_B {b : Bool} (h : Ev K te ρ (.bl b)) : EvT K (tB te) ρ b := fun σ Hs H R Q q => h σ Hs H R _ fun v Hs1 H1 g r => ⟨b, r.bl_inv, q Hs1 H1 g⟩
theorem et_not {b : Bool} (h : EvT K t ρ b) : EvT K (tNot t) ρ (!b) := fun σ Hs H R Q q => h σ Hs H R _ fun Hs1 H1 g => q Hs1 H1 g
theorem et_and {a b : Bool} (h1 : EvT K t ρ a) (h2 : a = true → EvT K u ρ b) : EvT K (tAnd t u) ρ (a && b) := fun σ Hs H R Q q => h1 σ Hs H R _ fun Hs1 H1 g1 => by
  cases a with
  | true =>
    show u σ H1 Q
    exact h2 rfl σ Hs1 H1 (R.stay g1) Q fun Hs2 H2 g2 => q Hs2 H2 (g1.trans0 g2)
  | false =>
    show Q false H1
    exact q Hs1 H1 g1
theorem et_or {a b : Bool} (h1 : EvT K t ρ a) (h2 : a = false → EvT K u ρ b) : EvT K (tOr t u) ρ (a || b) := fun σ Hs H R Q q => h1 σ Hs H R _ fun Hs1 H1 g1 => by
  cases a with
  | true =>
    show Q true H1
    exact q Hs1 H1 g1
  | false =>
    show u σ H1 Q
    exact h2 rfl σ Hs1 H1 (R.stay g1) Q fun Hs2 H2 g2 => q Hs2 H2 (g1.trans0 g2)
theorem et_is {a b : Bool} (h : EvT K t ρ a) (e : a = b) : EvT K t ρ b := e ▸ h
theorem ev_is {e : D} (h : Ev K te ρ d) (q : d = e) : Ev K te ρ e := q ▸ h
theorem ev_if {b : Bool} (h : EvT K t ρ b) (h1 : b = true → Ev K ta ρ d) (h2 : b = false → Ev K tb ρ d) : Ev K (tIf t ta tb) ρ d := fun σ Hs H R Q q => h σ Hs H R _ fun Hs1 H1 g1 => by
  cases b with
  | true =>
    show ta σ H1 Q
    exact h1 rfl σ Hs1 H1 (R.stay g1) Q fun v Hs2 H2 g2 r => q v Hs2 H2 (g1.trans0 g2) r
  | false =>
    show tb σ H1 Q
    exact h2 rfl σ Hs1 H1 (R.stay g1) Q fun v Hs2 H2 g2 r => q v Hs2 H2 (g1.trans0 g2) r
theorem ev_andV {a b : Bool} (h1 : Ev K ta ρ (.bl a)) (h2 : a = true → Ev K tb ρ (.bl b)) : Ev K (tAndV ta tb) ρ (.bl (a && b)) := fun σ Hs H R Q q => h1 σ Hs H R _ fun v Hs1 H1 g1 r1 => ⟨a, r1.bl_inv, by
  cases a with
  | true =>
    show tb σ H1 Q
    exact h2 rfl σ Hs1 H1 (R.stay g1) Q fun v Hs2 H2 g2 r => q v Hs2 H2 (g1.trans0 g2) r
  | false =>
    show Q (.bl false) H1
    exact q _ Hs1 H1 g1 (.bl false)⟩
theorem ev_orV {a b : Bool} (h1 : Ev K ta ρ (.bl a)) (h2 : a = false → Ev K tb ρ (.bl b)) : Ev K (tOrV ta tb) ρ (.bl (a || b)) := fun σ Hs H R Q q => h1 σ Hs H R _ fun v Hs1 H1 g1 r1 => ⟨a, r1.bl_inv, by
  cases a with
  | true =>
    show Q (.bl true) H1
    exact q _ Hs1 H1 g1 (.bl true)
  | false =>
    show tb σ H1 Q
    exact h2 rfl σ Hs1 H1 (R.stay g1) Q fun v Hs2 H2 g2 r => q v Hs2 H2 (g1.trans0 g2) r⟩
theorem ev_notV {a : Bool} (h1 : Ev K ta ρ (.bl a)) : Ev K (tNotV ta) ρ (.bl (!a)) := fun σ Hs H R Q q => h1 σ Hs H R _ fun v Hs1 H1 g1 r1 => ⟨a, r1.bl_inv, q _ Hs1 H1 g1 (.bl _)⟩
theorem eo_none : EvO K tNoPart ρ none := fun _ Hs H R Q q => q Hs H (.refl R.ex)
theorem eo_some {i : Int} (h : Ev K te ρ (.int i)) : EvO K (tPart te) ρ (some i) := fun σ Hs H R Q q => h σ Hs H R _ fun v Hs1 H1 g r => ⟨i, r.int_inv, q Hs1 H1 g⟩

/-! operations -/
theorem op_i0 {f : Int → Int → Int} {i j : Int} : Op2 K (rI0 fun i j => .int (f i j)) (.int i) (.int j) (.int (f i j)) := fun Hs H v w Q e r1 r2 q => ⟨i, j, r1.int_inv, r2.int_inv, q _ Hs H (.refl e) (.int _)⟩
theorem op_b0 {f : Int → Int → Bool} {i j : Int} : Op2 K (rI0 fun i j => .bl (f i j)) (.int i) (.int j) (.bl (f i j)) := fun Hs H v w Q e r1 r2 q => ⟨i, j, r1.int_inv, r2.int_inv, q _ Hs H (.refl e) (.bl _)⟩
theorem op_iC {C : Int → Int → Prop} {f : Int → Int → Int} {i j : Int} (h : C i j) : Op2 K (rI C fun i j => .int (f i j)) (.int i) (.int j) (.int (f i j)) := fun Hs H v w Q e r1 r2 q => ⟨i, j, r1.int_inv, r2.int_inv, h, q _ Hs H (.refl e) (.int _)⟩
theorem op_eqI {i j : Int} : Op2 K rEq (.int i) (.int j) (.bl (decide (i = j))) := fun Hs H v w Q e r1 r2 q => by
  cases r1; cases r2
  refine ⟨rfl, ?_⟩
  have : decide (V.int i = V.int j) = decide (i = j) := by simp
  rw [this]
  exact q _ Hs H (.refl e) (.bl _)
theorem op_neI {i j : Int} : Op2 K rNe (.int i) (.int j) (.bl (!decide (i = j))) := fun Hs H v w Q e r1 r2 q => by
  cases r1; cases r2
  refine ⟨rfl, ?_⟩
  have : decide (V.int i = V.int j) = decide (i = j) := by simp
  rw [this]
  exact q _ Hs H (.refl e) (.bl _)
theorem op_eqS {i j : Str} : Op2 K rEq (.str i) (.str j) (.bl (decide (i = j))) := fun Hs H v w Q e r1 r2 q => by
  cases r1; cases r2
  refine ⟨rfl, ?_⟩
  have : decide (V.str i = V.str j) = decide (i = j) := by simp
  rw [this]
  exact q _ Hs H (.refl e) (.bl _)
theorem op_neS {i j : Str} : Op2 K rNe (.str i) (.str j) (.bl (!decide (i = j))) := fun Hs H v w Q e r1 r2 q => by
  cases r1; cases r2
  refine ⟨rfl, ?_⟩
  have : decide (V.str i = V.str j) = decide (i = j) := by simp
  rw [this]
  exact q _ Hs H (.refl e) (.bl _)
/-- subscripts -/
theorem atI_rp {Hs : Hp} {xs : List V} {l : List D} {i : Int} (r : RpL K Hs xs l) (h : atI l i = some d) : ∃ v, atI xs i = some v ∧ Rp K Hs v d := by
  unfold atI at h ⊢
  rw [r.len]
  cases e : ixN l.length i with
  | none => rw [e] at h; cases h
  | some j =>
    rw [e] at h
    exact r.get h
theorem op_ixL {l : List D} {i : Int} (h : atI l i = some d) : Op2 K (rIxL K) (.lst l) (.int i) d := fun Hs H v w Q e r1 r2 q => by
  obtain ⟨a, xs, rfl, ha, r⟩ := r1.lst_inv
  obtain ⟨u, hu, ru⟩ := atI_rp r h
  exact ⟨a, xs, i, u, rfl, r2.int_inv, SqL.of (e _ _ ha), hu, q u Hs H (.refl e) ru⟩
theorem op_ixT {l : List D} {i : Int} (h : atI l i = some d) : Op2 K (rIxT K) (.tup l) (.int i) d := fun Hs H v w Q e r1 r2 q => by
  obtain ⟨a, xs, rfl, ha, r⟩ := r1.tup_inv
  obtain ⟨u, hu, ru⟩ := atI_rp r h
  exact ⟨a, xs, i, u, rfl, r2.int_inv, SqT.of (e _ _ ha), hu, q u Hs H (.refl e) ru⟩
theorem op_ixS {s : Str} {i : Int} {c : Nat} (hl : s.length ≤ sizeLine) (h : atI s.cps.toList i = some c) : Op2 K rIxS (.str s) (.int i) (.str ⟨#[c]⟩) := fun Hs H v w Q e r1 r2 q =>
  ⟨s, i, c, r1.str_inv, r2.int_inv, hl, h, q _ Hs H (.refl e) (.str _)⟩
/-- d[k] -/
theorem ev_dgetK {m : List (Key × D)} {k : Key} {kd : D} (hk : kd = (match k with | .inl i => D.int i | .inr s => D.str s)) (h1 : Ev K ta ρ (.dK m)) (h2 : Ev K tb ρ kd) (h : dV m k = some d) : Ev K (tDGet ta tb) ρ d := fun σ Hs H R Q q =>
  h1 σ Hs H R _ fun v Hs1 H1 g1 r1 => h2 σ Hs1 H1 (R.stay g1) _ fun w Hs2 H2 g2 r2 => by
    obtain ⟨a, ps, rfl, ha, hkeys, r⟩ := (r1.mono g2.s).dK_inv
    obtain ⟨v', hv, rv⟩ := (dict_val hkeys r).1 d h
    refine ⟨a, v', rfl, .inl ⟨ps, k, ex_rd g2.i ha, ?_, hv.symm⟩, q v' Hs2 H2 (g1.trans0 g2) rv⟩
    subst hk
    cases k with
    | inl i => exact r2.int_inv
    | inr s => exact r2.str_inv
theorem ev_dgetF {m : List (Key × D)} {s : Str} (h1 : Ev K ta ρ (.dF m)) (h2 : Ev K tb ρ (.str s)) (h : dV m (.inr s) = some d) : Ev K (tDGet ta tb) ρ d := fun σ Hs H R Q q =>
  h1 σ Hs H R _ fun v Hs1 H1 g1 r1 => h2 σ Hs1 H1 (R.stay g1) _ fun w Hs2 H2 g2 r2 => by
    obtain ⟨a, ps, rfl, ha, hkeys, r⟩ := (r1.mono g2.s).dF_inv
    obtain ⟨v', hv, rv⟩ := (dict_val hkeys r).1 d h
    exact ⟨a, v', rfl, .inl ⟨ps, .inr s, ex_rd g2.i ha, r2.str_inv, hv.symm⟩, q v' Hs2 H2 (g1.trans0 g2) rv⟩
def keyD : Key → D
  | .inl i => .int i
  | .inr s => .str s
theorem rpL_keys {Hs : Hp} : ∀ {ks : List Key} {vs : List V}, RpL K Hs vs (ks.map keyD) → vs = ks.map kV
  | [], _, h => by
    have h' : RpL K Hs _ [] := h
    cases h'
    rfl
  | k :: r, _, h => by
    have h' : RpL K Hs _ (keyD k :: r.map keyD) := h
    cases h' with
    | cons h1 h2 =>
      rw [rpL_keys h2]
      cases k with
      | inl i => rw [Rp.int_inv h1]; rfl
      | inr s => rw [Rp.str_inv h1]; rfl
theorem ev_dgetT {m : List (List Key × D)} {ks : List Key} (h1 : Ev K ta ρ (.dT m)) (h2 : Ev K tb ρ (.tup (ks.map keyD))) (h : dV m ks = some d) : Ev K (tDGet ta tb) ρ d := fun σ Hs H R Q q =>
  h1 σ Hs H R _ fun v Hs1 H1 g1 r1 => h2 σ Hs1 H1 (R.stay g1) _ fun w Hs2 H2 g2 r2 => by
    obtain ⟨a, ps, rfl, ha, hkeys, r⟩ := (r1.mono g2.s).dT_inv
    obtain ⟨v', hv, rv⟩ := (dict_val hkeys r).1 d h
    obtain ⟨b, xs, rfl, hb, rb⟩ := r2.tup_inv
    rw [rpL_keys rb] at hb
    exact ⟨a, v', rfl, .inr ⟨ps, ks, b, ex_rd g2.i ha, rfl, g2.i _ _ hb, hv.symm⟩, q v' Hs2 H2 (g1.trans0 g2) rv⟩
/-- k in d -/
theorem ev_dinK {m : List (Key × D)} {s : Str} (h2 : Ev K tb ρ (.str s)) (h1 : Ev K ta ρ (.dK m)) : Ev K (tDIn tb ta) ρ (.bl (dV m (.inr s)).isSome) := fun σ Hs H R Q q =>
  h2 σ Hs H R _ fun w Hs1 H1 g1 r1 => h1 σ Hs1 H1 (R.stay g1) _ fun v Hs2 H2 g2 r2 => by
    obtain ⟨a, ps, rfl, ha, hkeys, r⟩ := r2.dK_inv
    refine ⟨a, valV ps (.inr s), rfl, .inl ⟨ps, .inr s, ex_rd g2.i ha, r1.str_inv, rfl⟩, ?_⟩
    have e : (valV ps (.inr s)).isSome = (dV m (.inr s)).isSome := by
      cases z : dV m (.inr s) with
      | none => rw [(dict_val hkeys r).2 z] <;> rfl
      | some d =>
        obtain ⟨v', hv, _⟩ := (dict_val hkeys r).1 d z
        rw [hv] <;> rfl
    rw [e]
    exact q _ Hs2 H2 (g1.trans0 g2) (.bl _)
theorem ev_dninK {m : List (Key × D)} {s : Str} (h2 : Ev K tb ρ (.str s)) (h1 : Ev K ta ρ (.dK m)) : Ev K (tDNotIn tb ta) ρ (.bl (!(dV m (.inr s)).isSome)) := fun σ Hs H R Q q =>
  h2 σ Hs H R _ fun w Hs1 H1 g1 r1 => h1 σ Hs1 H1 (R.stay g1) _ fun v Hs2 H2 g2 r2 => by
    obtain ⟨a, ps, rfl, ha, hkeys, r⟩ := r2.dK_inv
    refine ⟨a, valV ps (.inr s), rfl, .inl ⟨ps, .inr s, ex_rd g2.i ha, r1.str_inv, rfl⟩, ?_⟩
    have e : (valV ps (.inr s)).isSome = (dV m (.inr s)).isSome := by
      cases z : dV m (.inr s) with
      | none => rw [(dict_val hkeys r).2 z] <;> rfl
      | some d =>
        obtain ⟨v', hv, _⟩ := (dict_val hkeys r).1 d z
        rw [hv] <;> rfl
    rw [e]
    exact q _ Hs2 H2 (g1.trans0 g2) (.bl _)
/-- slices -/
def cutD (l : List D) (lo hi : Option Int) : List D := (l.drop (HT.sIx l.length 0 lo)).take (HT.sIx l.length l.length hi - HT.sIx l.length 0 lo)
theorem en_slL {tl th : TO} {l : List D} {lo hi : Option Int} (h : Ev K te ρ (.lst l)) (h1 : EvO K tl ρ lo) (h2 : EvO K th ρ hi) : EvN K (tSl (rSlL K) te tl th) ρ (.lst (cutD l lo hi)) := fun σ Hs H R Q q =>
  h σ Hs H R _ fun v Hs1 H1 g1 r1 => h1 σ Hs1 H1 (R.stay g1) _ fun Hs2 H2 g2 => h2 σ Hs2 H2 ((R.stay g1).stay g2) _ fun Hs3 H3 g3 => by
    obtain ⟨a, xs, rfl, ha, r⟩ := (r1.mono (g2.s.trans g3.s)).lst_inv
    refine ⟨a, xs, rfl, SqL.of (g3.i _ _ ha), fun p hp => ?_⟩
    have g := g1.trans0 (g2.trans0 g3)
    refine q p Hs3 _ (g.trans0 (.newM g3.i hp)) (go_free g hp) (.lst (ex_free g3.i hp) upd_same ?_)
    unfold cutV cutD
    rw [r.len]
    exact (r.drop _).take _
theorem en_revL {l : List D} (h : Ev K te ρ (.lst l)) : EvN K (tRevL K te) ρ (.lst l.reverse) := fun σ Hs H R Q q =>
  h σ Hs H R _ fun v Hs1 H1 g1 r1 => by
    obtain ⟨a, xs, rfl, ha, r⟩ := r1.lst_inv
    exact ⟨a, xs, rfl, SqL.of (g1.i _ _ ha), fun p hp => q p Hs1 _ (g1.trans0 (.newM g1.i hp)) (go_free g1 hp) (.lst (ex_free g1.i hp) upd_same r.rev)⟩
theorem ev_bits {i : Int} (h : Ev K te ρ (.int i)) : Ev K (tBits te) ρ (.int (Builtin.Int.intBits i : Nat)) := fun σ Hs H R Q q =>
  h σ Hs H R _ fun v Hs1 H1 g1 r1 => ⟨i, r1.int_inv, q _ Hs1 H1 g1 (.int _)⟩
/-- xs + ys -/
theorem op_catL {l m : List D} (hz : l.length + m.length ≤ sizeLine) : Op2 K rCat (.lst l) (.lst m) (.lst (l ++ m)) := fun Hs H v w Q e r1 r2 q => by
  obtain ⟨a, xs, rfl, ha, r⟩ := r1.lst_inv
  obtain ⟨b, ys, rfl, hb, s⟩ := r2.lst_inv
  refine ⟨a, b, xs, ys, rfl, rfl, e _ _ ha, e _ _ hb, by rw [r.len, s.len]; exact hz, fun p hp => ?_⟩
  have g : Go N0 Hs H (upd Hs p (.lst (xs ++ ys))) (upd H p (.lst (xs ++ ys))) := .new e hp
  exact q _ _ _ g (.lst upd_same ((r.app s).mono g.s))
theorem op_lenL {l : List D} {r : List V → Hp → VK → Prop} (hr : r = fun xs H Q => ∃ p ys, xs = [V.ref p] ∧ (SqL K H p ys ∨ SqT K H p ys) ∧ Q (.int ys.length) H) : OpC K r [.lst l] (.int l.length) := fun Hs H vs Q e rs q => by
  subst hr
  cases rs with
  | cons h1 h2 =>
    cases h2
    obtain ⟨a, xs, rfl, ha, r⟩ := h1.lst_inv
    refine ⟨a, xs, rfl, .inl (SqL.of (e _ _ ha)), ?_⟩
    rw [r.len]
    exact q _ Hs H (.refl e) (.int _)
theorem op_lenT {l : List D} {r : List V → Hp → VK → Prop} (hr : r = fun xs H Q => ∃ p ys, xs = [V.ref p] ∧ (SqL K H p ys ∨ SqT K H p ys) ∧ Q (.int ys.length) H) : OpC K r [.tup l] (.int l.length) := fun Hs H vs Q e rs q => by
  subst hr
  cases rs with
  | cons h1 h2 =>
    cases h2
    obtain ⟨a, xs, rfl, ha, r⟩ := h1.tup_inv
    refine ⟨a, xs, rfl, .inr (SqT.of (e _ _ ha)), ?_⟩
    rw [r.len]
    exact q _ Hs H (.refl e) (.int _)
end

/-! ### flat results; an object that may change, only read on the way -/
def scD : D → Bool
  | .non => true | .bl _ => true | .int _ => true | .str _ => true
  | _ => false
def flD : D → Bool
  | .tup l => l.all scD
  | d => scD d
section
variable {K : PySem.W.Frag}
theorem rp_sc {H H' : Hp} {v : V} {d : D} (r : Rp K H v d) (h : scD d = true) : Rp K H' v d := by
  cases r with
  | non => exact .non
  | bl b => exact .bl b
  | int i => exact .int i
  | str x => exact .str x
  | _ => cases h
theorem rpL_sc {H H' : Hp} : ∀ {vs : List V} {ds : List D}, RpL K H vs ds → ds.all scD = true → RpL K H' vs ds
  | _, _, .nil, _ => .nil
  | _, d :: ds, .cons h r, e => by
    rw [List.all_cons, Bool.and_eq_true] at e
    exact .cons (rp_sc h e.1) (rpL_sc r e.2)
/-- without the object at a -/
def wo (H : Hp) (a : Addr) : Hp := fun b => if b = a then none else H b
theorem wo_ne {H : Hp} {a b : Addr} (h : b ≠ a) : wo H a b = H b := by unfold wo; rw [if_neg h]
theorem wo_same {H : Hp} {a : Addr} : wo H a a = none := by unfold wo; rw [if_pos rfl]
theorem rp_wo {H : Hp} {a : Addr} {v : V} {d : D} (r : Rp K H v d) (h : flD d = true) (ha : ∀ xs, H a ≠ some (.tup xs)) : Rp K (wo H a) v d := by
  cases r with
  | non => exact .non
  | bl b => exact .bl b
  | int i => exact .int i
  | str x => exact .str x
  | tup h1 h2 => exact .tup (by rw [wo_ne (fun z => ha _ (by rw [← z]; exact h1))]; exact h1) (rpL_sc h2 h)
  | _ => cases h
theorem ev_borrow {ρ : Env} {te : TE} {i : Nat} {x d : D} (hi : ρ[i]? = some (some (true, x))) (h : Ev K te (ρ.set i (some (false, x))) d) (hf : flD d = true) : Ev K te ρ d := fun σ Hs H R Q q => by
  obtain ⟨v, hv, m⟩ := R.slotM hi
  obtain ⟨a, e, ha, hb⟩ := m.ref
  subst e
  cases ho : H a with
  | none => exact absurd ho hb
  | some o =>
    have ntup : ∀ xs, o ≠ .tup xs := fun xs e => by
      subst e
      cases m with
      | lst _ h2 _ => rw [h2] at ho; cases ho
      | dK _ h2 _ _ => rw [h2] at ho; cases ho
      | dT _ h2 _ _ => rw [h2] at ho; cases ho
    have e2 : Ex Hs (upd Hs a o) := fun b u e => by rw [upd_ne (ne_of_none e ha)]; exact e
    have rx : Rp K (upd Hs a o) (.ref a) x := by
      cases m with
      | lst _ h2 r => rw [h2] at ho; cases ho; exact .lst upd_same (r.mono e2)
      | dK _ h2 k r => rw [h2] at ho; cases ho; exact .dK upd_same k (r.mono e2)
      | dT _ h2 k r => rw [h2] at ho; cases ho; exact .dT (.inl upd_same) k (r.mono e2)
    have exB : Ex (upd Hs a o) H := fun b u e => by
      by_cases z : b = a
      · subst z; rw [upd_same] at e; cases e; exact ho
      · rw [upd_ne z] at e; exact R.ex b u e
    have go : ∀ (k : Nat) {l : L2.St} {m : Env}, Paired (Sl K Hs H) l m → (∀ (j : Nat) d', j + k ≠ i → m[j]? = some (some (true, d')) → l[j]? ≠ some (some (.ref a))) → (∀ j, j + k = i → l[j]? = some (some (.ref a)) ∧ m[j]? = some (some (true, x))) →
        Paired (Sl K (upd Hs a o) H) l (m.mapIdx fun j y => if j + k = i then some (false, x) else y) := by
      intro k l m hp
      induction hp generalizing k with
      | nil => intro _ _; exact .nil
      | @cons p y l m h hr ih =>
        intro h1 h2
        rw [List.mapIdx_cons]
        refine .cons ?_ ?_
        · by_cases z : 0 + k = i
          · rw [if_pos z]
            obtain ⟨q1, q2⟩ := h2 0 z
            have q1' : p = some (.ref a) := by simpa using q1
            rw [q1']
            exact rx
          · rw [if_neg z]
            cases y with
            | none => cases p <;> trivial
            | some y =>
              obtain ⟨b, d'⟩ := y
              cases p with
              | none => cases b <;> exact h
              | some v' =>
                cases b with
                | false => exact Rp.mono e2 h
                | true =>
                  have ne : v' ≠ .ref a := fun w => h1 0 d' z (by simp) (by simp [w])
                  have h' : Mt K Hs H v' d' := h
                  show Mt K (upd Hs a o) H v' d'
                  cases h' with
                  | lst z1 z2 r => exact .lst (by rw [upd_ne (fun w => ne (by rw [w]))]; exact z1) z2 (r.mono e2)
                  | dK z1 z2 k r => exact .dK (by rw [upd_ne (fun w => ne (by rw [w]))]; exact z1) z2 k (r.mono e2)
                  | dT z1 z2 k r => exact .dT (by rw [upd_ne (fun w => ne (by rw [w]))]; exact z1) z2 k (r.mono e2)
        · have hh : ∀ j, j + 1 + k = j + (k + 1) := fun j => by omega
          have ih' := ih (k + 1) (fun j d' ne e => by
            have := h1 (j + 1) d' (by omega) (by simpa using e)
            simpa using this) (fun j e => by
            have := h2 (j + 1) (by omega)
            simpa using this)
          simpa only [hh, Function.comp_def] using ih'
    have slB : Paired (Sl K (upd Hs a o) H) σ (ρ.set i (some (false, x))) := by
      have z := go 0 R.sl (fun j d' ne e w => R.di j i d' x a (by omega) e hi w hv) (fun j e => by
        have e' : j = i := by omega
        subst e'
        exact ⟨hv, hi⟩)
      have ee : (ρ.mapIdx fun j y => if j + 0 = i then some (false, x) else y) = ρ.set i (some (false, x)) := by
        apply List.ext_getElem?
        intro j
        rw [List.getElem?_mapIdx]
        by_cases w : j = i
        · subst w
          rw [hi, List.getElem?_set_self (List.getElem?_eq_some_iff.mp hi).1]
          simp
        · rw [List.getElem?_set_ne (Ne.symm w)]
          cases ρ[j]? with
          | none => rfl
          | some y => simp [w]
      rw [ee] at z
      exact z
    have RB : Rl K (upd Hs a o) H σ (ρ.set i (some (false, x))) := ⟨exB, slB, fun j k e e' b ne h1 h2 h3 h4 => by
      rcases set_get h1 with ⟨_, z⟩ | ⟨n1, g1⟩
      · cases z
      rcases set_get h2 with ⟨_, z⟩ | ⟨n2, g2⟩
      · cases z
      exact R.di j k e e' b ne g1 g2 h3 h4⟩
    refine h σ _ H RB Q fun u Hs' H' g r => ?_
    have hoa : Hs' a = some o := g.s a o upd_same
    refine q u (wo Hs' a) H' ⟨fun b w e => ?_, fun b w e => ?_, fun b hb2 => ?_, g.f, g.d, g.t⟩ (rp_wo r hf fun xs e => ntup xs (by rw [hoa] at e; exact Option.some.inj e))
    · have nb : b ≠ a := ne_of_none e ha
      rw [wo_ne nb]
      exact g.s b w (e2 b w e)
    · by_cases z : b = a
      · subst z; rw [wo_same] at e; cases e
      · rw [wo_ne z] at e; exact g.i b w e
    · by_cases z : b = a
      · subst z; rw [wo_same] at hb2; exact absurd rfl hb2
      · rw [wo_ne z] at hb2
        rcases g.n b hb2 with k | k
        · rw [upd_ne z] at k; exact .inl k
        · exact .inr k
end
end J

/-! ## LayB -/
namespace J
open PySem PySem.Spec PyProof.Rows L2
open Evl (Ex ex_rd ex_l ex_t)
/-! ### statements -/
def WS (K : PySem.W.Frag) (an : An) (ts : TS) (ρ : Env) (N : Env → Prop) (R : Env → D → Prop) : Prop :=
  ∀ Hs0 H0 σ Hs H, Rel K an Hs0 H0 Hs H σ ρ → ∀ Dn : Ends, (∀ ρ' σ' Hs' H', N ρ' → Rel K an Hs0 H0 Hs' H' σ' ρ' → Ex Hs Hs' → Dn.nx σ' H') →
    (∀ ρ' d v σ' Hs' H', R ρ' d → Rel K an Hs0 H0 Hs' H' σ' ρ' → Rp K Hs' v d → Dn.rt v H') → ts Dn σ H
/-- what a target leaves: only the slots js are stored -/
structure Tg (js : List Nat) (σ : L2.St) (ρ : Env) (σ' : L2.St) (ρ' : Env) : Prop where
  len : σ'.length = σ.length
  same : ∀ i, i ∉ js → σ'[i]? = σ[i]?
  kp : ∀ i d, ρ'[i]? = some (some (true, d)) → i ∉ js ∧ ρ[i]? = some (some (true, d))
def WG (K : PySem.W.Frag) (js : List Nat) (g : TG) (d : D) (ρ : Env) (M : Env → Prop) : Prop :=
  ∀ σ Hs H v, Rl K Hs H σ ρ → Rp K Hs v d → ∀ Q : L2.St → Hp → Prop, (∀ ρ' σ', M ρ' → Rl K Hs H σ' ρ' → Tg js σ ρ σ' ρ' → Q σ' H) → g v σ H Q
def WGs (K : PySem.W.Frag) (js : List Nat) (g : TGs) (ds : List D) (ρ : Env) (M : Env → Prop) : Prop :=
  ∀ σ Hs H vs, Rl K Hs H σ ρ → RpL K Hs vs ds → ∀ Q : L2.St → Hp → Prop, (∀ ρ' σ', M ρ' → Rl K Hs H σ' ρ' → Tg js σ ρ σ' ρ' → Q σ' H) → g vs σ H Q
def Free (an : An) (js : List Nat) : Prop := ∀ j ∈ js, ∀ a, an ≠ some (j, a)
section
variable {K : PySem.W.Frag} {an : An} {Hs0 H0 Hs H Hs' H' : Hp} {σ σ' : L2.St} {ρ ρ' : Env} {js : List Nat} {N M : Env → Prop} {R : Env → D → Prop} {d x y : D} {te ta tb td : TE} {tt : TT} {ts tu tw tz : TS} {g : TG}
theorem paired_of {α β : Type} {F : α → β → Prop} : ∀ {l : List α} {m : List β}, l.length = m.length → (∀ (i : Nat) a b, l[i]? = some a → m[i]? = some b → F a b) → Paired F l m
  | [], [], _, _ => .nil
  | [], _ :: _, h, _ => by simp at h
  | _ :: _, [], h, _ => by simp at h
  | a :: l, b :: m, h, f => .cons (f 0 a b rfl rfl) (paired_of (by simpa using h) fun i x y h1 h2 => f (i + 1) x y (by simpa using h1) (by simpa using h2))
theorem free_none : Free none js := fun _ _ _ h => nomatch h
theorem free_j {i : Nat} {a : Addr} (h : i ∉ js) : Free (some (i, a)) js := fun j hj b e => by
  cases e
  exact h hj
theorem free_0 {a : Addr} (h : 0 ∉ js) : Free (some (0, a)) js := fun j hj b e => by
  cases e
  exact h hj
theorem Rl.set (R : Rl K Hs H σ ρ) {i : Nat} {v : V} (h : Rp K Hs v d) : Rl K Hs H (σ.set i (some v)) (ρ.set i (some (false, d))) where
  ex := R.ex
  sl := Paired.set' (show Sl K Hs H (some v) (some (false, d)) from h) i R.sl
  di := fun j k e e' a ne h1 h2 h3 h4 => by
    rcases set_get h1 with ⟨_, z⟩ | ⟨n1, h1⟩
    · cases z
    rcases set_get h2 with ⟨_, z⟩ | ⟨n2, h2⟩
    · cases z
    rw [List.getElem?_set_ne (Ne.symm n1)] at h3
    rw [List.getElem?_set_ne (Ne.symm n2)] at h4
    exact R.di j k e e' a ne h1 h2 h3 h4
theorem Tg.set {i : Nat} {v : V} : Tg [i] σ ρ (σ.set i (some v)) (ρ.set i (some (false, d))) where
  len := by rw [List.length_set]
  same := fun j hj => by rw [List.getElem?_set_ne]; intro e; exact hj (by rw [e]; exact List.mem_singleton.mpr rfl)
  kp := fun j e h => by
    rcases set_get h with ⟨_, z⟩ | ⟨n, h⟩
    · cases z
    · exact ⟨by simpa using n, h⟩
theorem Tg.refl : Tg js σ ρ σ ρ → Tg js σ ρ σ ρ := id
theorem Tg.nil : Tg [] σ ρ σ ρ := ⟨rfl, fun _ _ => rfl, fun _ _ h => ⟨by simp, h⟩⟩
theorem Tg.app {js' : List Nat} {σ2 : L2.St} {ρ2 : Env} (a : Tg js σ ρ σ' ρ') (b : Tg js' σ' ρ' σ2 ρ2) : Tg (js ++ js') σ ρ σ2 ρ2 where
  len := b.len.trans a.len
  same := fun i hi => by
    rw [List.mem_append, not_or] at hi
    exact (b.same i hi.2).trans (a.same i hi.1)
  kp := fun i e h => by
    obtain ⟨h1, h2⟩ := b.kp i e h
    obtain ⟨h3, h4⟩ := a.kp i e h2
    exact ⟨by rw [List.mem_append, not_or]; exact ⟨h3, h1⟩, h4⟩
/-- a statement's view behind a target -/
theorem Rel.tg (r : Rel K an Hs0 H0 Hs H σ ρ) (r' : Rl K Hs H σ' ρ') (t : Tg js σ ρ σ' ρ') (hf : Free an js) : Rel K an Hs0 H0 Hs H σ' ρ' where
  toRl := r'
  go := r.go
  anc := fun i a e => by rw [t.same i fun h => hf i h a e]; exact r.anc i a e
  fr := fun i e a h1 h2 => by
    obtain ⟨h3, h4⟩ := t.kp i e h1
    rw [t.same i h3] at h2
    exact r.fr i e a h4 h2
theorem wg_name {i : Nat} (h : M (ρ.set i (some (false, d)))) : WG K [i] (gName i) d ρ M := fun σ Hs H v R r Q q => q _ _ h (R.set r) .set
theorem wgs_nil (h : M ρ) : WGs K [] gNil [] ρ M := fun σ Hs H vs R r Q q => by
  cases r
  exact ⟨rfl, q _ _ h R .nil⟩
theorem wgs_cons {js' : List Nat} {gs : TGs} {ds : List D} (h : WG K js g d ρ fun ρ' => WGs K js' gs ds ρ' M) : WGs K (js ++ js') (gCons g gs) (d :: ds) ρ M := fun σ Hs H vs R r Q q => by
  cases r with
  | cons r1 r2 =>
    refine ⟨_, _, rfl, h σ Hs H _ R r1 _ fun ρ' σ' m R' t => ?_⟩
    exact m σ' Hs H _ R' r2 Q fun ρ2 σ2 m2 R2 t2 => q ρ2 σ2 m2 R2 (t.app t2)
theorem wg_tup {gs : TGs} {ds : List D} {n : Nat} (hn : ds.length = n) (h : WGs K js gs ds ρ M) : WG K js (gTup K n gs) (.tup ds) ρ M := fun σ Hs H v R r Q q => by
  obtain ⟨a, xs, rfl, ha, r⟩ := r.tup_inv
  exact ⟨a, xs, rfl, SqT.of (R.ex _ _ ha), by rw [r.len]; exact hn, h σ Hs H xs R r Q q⟩

/-! small statements -/
theorem ws_seq (h : WS K an ts ρ (fun ρ' => WS K an tu ρ' N R) R) : WS K an (tSeq ts tu) ρ N R := fun Hs0 H0 σ Hs H r Dn n q =>
  h Hs0 H0 σ Hs H r { Dn with nx := tu Dn } (fun ρ' σ' Hs' H' w r' e => w Hs0 H0 σ' Hs' H' r' Dn (fun ρ2 σ2 Hs2 H2 w2 r2 e2 => n ρ2 σ2 Hs2 H2 w2 r2 (e.trans e2)) q) q
theorem ws_next (h : N ρ) : WS K an tNext ρ N R := fun Hs0 H0 σ Hs H r Dn n q => n ρ σ Hs H h r (Ex.refl _)
theorem ws_mono {N' : Env → Prop} {R' : Env → D → Prop} (h : WS K an ts ρ N R) (hn : ∀ ρ, N ρ → N' ρ) (hr : ∀ ρ d, R ρ d → R' ρ d) : WS K an ts ρ N' R' := fun Hs0 H0 σ Hs H r Dn n q =>
  h Hs0 H0 σ Hs H r Dn (fun ρ' σ' Hs' H' w r' e => n ρ' σ' Hs' H' (hn _ w) r' e) (fun ρ' d v σ' Hs' H' w r' => q ρ' d v σ' Hs' H' (hr _ _ w) r')
theorem ws_asg (he : Ev K te ρ d) (hg : WG K js g d ρ N) (hf : Free an js := by first | exact free_none | exact free_j (by decide)) : WS K an (tAsg te g) ρ N R := fun Hs0 H0 σ Hs H r Dn n q =>
  he σ Hs H r.toRl _ fun v Hs' H' g1 rv => hg σ Hs' H' v (r.stay g1).toRl rv _ fun ρ' σ' m R' t => n ρ' σ' Hs' H' m ((r.stay g1).tg R' t hf) g1.s
theorem ws_set {i : Nat} (he : Ev K te ρ d) (h : N (ρ.set i (some (false, d)))) (hf : Free an [i] := by first | exact free_none | exact free_j (by decide)) : WS K an (tAsg te (gName i)) ρ N R := ws_asg he (wg_name h) hf
theorem ws_setN {i : Nat} (he : EvN K te ρ d) (h : N (ρ.set i (some (true, d)))) (hf : Free an [i] := by first | exact free_none | exact free_j (by decide)) : WS K an (tAsg te (gName i)) ρ N R := fun Hs0 H0 σ Hs H r Dn n q =>
  he σ Hs H r.toRl _ fun p Hs' H' g1 hp m => n _ _ Hs' H' h ((r.stay g1).setM m (go_free r.go hp) (fun j e he hs => by
    obtain ⟨v, hv, m2⟩ := r.slotM he
    rw [hs] at hv
    cases hv
    obtain ⟨b, eb, _, hb⟩ := m2.ref
    cases eb
    exact hb hp) fun a e => hf i (List.mem_singleton.mpr rfl) a e) g1.s
theorem ws_drop (he : Ev K te ρ d) (h : N ρ) : WS K an (tDrop te) ρ N R := fun Hs0 H0 σ Hs H r Dn n q => he σ Hs H r.toRl _ fun v Hs' H' g1 rv => n ρ σ Hs' H' h (r.stay g1) g1.s
theorem ws_ret (he : Ev K te ρ d) (h : R ρ d) : WS K an (tRet te) ρ N R := fun Hs0 H0 σ Hs H r Dn n q => he σ Hs H r.toRl _ fun v Hs' H' g1 rv => q ρ d v σ Hs' H' h (r.stay g1) rv
theorem ws_retN (h : R ρ .non) : WS K an tRetN ρ N R := fun Hs0 H0 σ Hs H r Dn n q => q ρ .non .non σ Hs H h r .non
theorem ws_if {b : Bool} (ht : EvT K tt ρ b) (h1 : b = true → WS K an tu ρ N R) (h2 : b = false → WS K an tw ρ N R) : WS K an (tIfS tt tu tw) ρ N R := fun Hs0 H0 σ Hs H r Dn n q =>
  ht σ Hs H r.toRl _ fun Hs' H' g1 => by
    cases b with
    | true =>
      show tu Dn σ H'
      exact h1 rfl Hs0 H0 σ Hs' H' (r.stay g1) Dn (fun ρ2 σ2 Hs2 H2 w2 r2 e2 => n ρ2 σ2 Hs2 H2 w2 r2 (g1.s.trans e2)) q
    | false =>
      show tw Dn σ H'
      exact h2 rfl Hs0 H0 σ Hs' H' (r.stay g1) Dn (fun ρ2 σ2 Hs2 H2 w2 r2 e2 => n ρ2 σ2 Hs2 H2 w2 r2 (g1.s.trans e2)) q
/-- if c: (a way that can't be taken) -/
theorem ws_ifno (ht : EvT K tt ρ false) (h : N ρ) : WS K an (tIfS tt tu tNext) ρ N R := ws_if ht (fun e => nomatch e) fun _ => ws_next h
theorem ws_when {b : Bool} (ht : EvT K tt ρ b) (h1 : b = true → WS K an tu ρ N R) (h2 : b = false → N ρ) : WS K an (tIfS tt tu tNext) ρ N R := ws_if ht h1 fun e => ws_next (h2 e)
/-- what may change is stable from now on: not the object that the caller lets change -/
theorem ws_freeze {i : Nat} (hi : ρ[i]? = some (some (true, x))) (hn : ∀ a, an ≠ some (i, a)) (hx : ∀ j a, an = some (j, a) → ∃ e, ρ[j]? = some (some (true, e))) (h : WS K an ts (ρ.set i (some (false, x))) N R) : WS K an ts ρ N R := fun Hs0 H0 σ Hs H r Dn n q => by
  obtain ⟨v, hv, m⟩ := r.slotM hi
  obtain ⟨a, e, ha, hb⟩ := m.ref
  subst e
  have hH0 : H0 a = none := by
    rcases r.fr i x a hi hv with z | ⟨j, z⟩
    · exact z
    · obtain ⟨e, he⟩ := hx j a z
      by_cases w : i = j
      · subst w; exact absurd z (hn a)
      · exact (r.di i j x e a w hi he hv (r.anc j a z)).elim
  cases ho : H a with
  | none => exact absurd ho hb
  | some o =>
    have e2 : Ex Hs (upd Hs a o) := fun b u e => by rw [upd_ne (ne_of_none e ha)]; exact e
    have rx : Rp K (upd Hs a o) (.ref a) x := by
      cases m with
      | lst _ h2 r => rw [h2] at ho; cases ho; exact .lst upd_same (r.mono e2)
      | dK _ h2 k r => rw [h2] at ho; cases ho; exact .dK upd_same k (r.mono e2)
      | dT _ h2 k r => rw [h2] at ho; cases ho; exact .dT (.inl upd_same) k (r.mono e2)
    have exB : Ex (upd Hs a o) H := fun b u e => by
      by_cases z : b = a
      · subst z; rw [upd_same] at e; cases e; exact ho
      · rw [upd_ne z] at e; exact r.ex b u e
    have slB : Paired (Sl K (upd Hs a o) H) σ (ρ.set i (some (false, x))) := by
      have l1 : σ.length = (ρ.set i (some (false, x))).length := by rw [List.length_set]; exact r.sl.length
      refine paired_of l1 fun j p y hp hy => ?_
      rcases set_get hy with ⟨z, w⟩ | ⟨z, hy⟩
      · subst z; subst w
        rw [hv] at hp; cases hp
        exact rx
      · obtain ⟨p', hp', s⟩ := Paired.get' r.sl hy
        rw [hp] at hp'; cases hp'
        cases y with
        | none => cases p <;> trivial
        | some y =>
          obtain ⟨b, d'⟩ := y
          cases p with
          | none => cases b <;> exact s
          | some v' =>
            cases b with
            | false => exact Rp.mono e2 s
            | true =>
              have ne : v' ≠ .ref a := fun w => r.di j i d' x a z hy hi (by rw [hp, w]) hv
              have h' : Mt K Hs H v' d' := s
              show Mt K (upd Hs a o) H v' d'
              cases h' with
              | lst z1 z2 r => exact .lst (by rw [upd_ne (fun w => ne (by rw [w]))]; exact z1) z2 (r.mono e2)
              | dK z1 z2 k r => exact .dK (by rw [upd_ne (fun w => ne (by rw [w]))]; exact z1) z2 k (r.mono e2)
              | dT z1 z2 k r => exact .dT (by rw [upd_ne (fun w => ne (by rw [w]))]; exact z1) z2 k (r.mono e2)
    refine h Hs0 H0 σ (upd Hs a o) H ⟨⟨exB, slB, fun j k e e' b ne h1 h2 h3 h4 => ?_⟩, ⟨r.go.s.trans e2, exB, fun b hb2 => ?_, r.go.f, r.go.d, r.go.t⟩, r.anc, fun j e b h1 h2 => ?_⟩ Dn (fun ρ2 σ2 Hs2 H2 w2 r2 e3 => n ρ2 σ2 Hs2 H2 w2 r2 (e2.trans e3)) q
    · rcases set_get h1 with ⟨_, z⟩ | ⟨n1, g1⟩
      · cases z
      rcases set_get h2 with ⟨_, z⟩ | ⟨n2, g2⟩
      · cases z
      exact r.di j k e e' b ne g1 g2 h3 h4
    · by_cases z : b = a
      · subst z; exact .inr (.inl hH0)
      · rw [upd_ne z] at hb2; exact r.go.n b hb2
    · rcases set_get h1 with ⟨_, z⟩ | ⟨n1, g1⟩
      · cases z
      exact r.fr j e b g1 h2
theorem ws_freeze0 {i : Nat} (hi : ρ[i]? = some (some (true, x))) (h : WS K none ts (ρ.set i (some (false, x))) N R) : WS K none ts ρ N R := ws_freeze hi (fun _ h => nomatch h) (fun _ _ h => nomatch h) h

/-! an object that may change, changed -/
/-- what stands in H at the slot's address, told anew -/
theorem Rel.turn (r : Rel K an Hs0 H0 Hs H σ ρ) {i : Nat} {a : Addr} {o : HO} (hi : ρ[i]? = some (some (true, x))) (hv : σ[i]? = some (some (.ref a))) (ho : ∀ xs, o ≠ .tup xs) (hm : Mt K Hs (upd H a o) (.ref a) y) :
    Rel K an Hs0 H0 Hs (upd H a o) σ (ρ.set i (some (true, y))) := by
  obtain ⟨v, hv', m⟩ := r.slotM hi
  rw [hv] at hv'; cases hv'
  obtain ⟨b, e, ha, hb⟩ := m.ref
  cases e
  have gw : Go (fun z => z = a) Hs H Hs (upd H a o) := .write r.ex ha hb ho
  refine ⟨⟨gw.i, ?_, fun j k e e' b ne h1 h2 h3 h4 => ?_⟩, r.go.trans gw fun p hp => ?_, r.anc, fun j e b h1 h2 => ?_⟩
  · have l1 : σ.length = (ρ.set i (some (true, y))).length := by rw [List.length_set]; exact r.sl.length
    refine paired_of l1 fun j p z hp hz => ?_
    rcases set_get hz with ⟨q1, q2⟩ | ⟨q1, hz⟩
    · subst q1; subst q2
      rw [hv] at hp; cases hp
      exact hm
    · obtain ⟨p', hp', s⟩ := Paired.get' r.sl hz
      rw [hp] at hp'; cases hp'
      cases z with
      | none => cases p <;> trivial
      | some z =>
        obtain ⟨b, d'⟩ := z
        cases p with
        | none => cases b <;> exact s
        | some v' =>
          cases b with
          | false => exact s
          | true =>
            have ne : v' ≠ .ref a := fun w => r.di j i d' x a q1 hz hi (by rw [hp, w]) hv
            have h' : Mt K Hs H v' d' := s
            show Mt K Hs (upd H a o) v' d'
            cases h' with
            | lst z1 z2 r => exact .lst z1 (by rw [upd_ne (fun w => ne (by rw [w]))]; exact z2) r
            | dK z1 z2 k r => exact .dK z1 (by rw [upd_ne (fun w => ne (by rw [w]))]; exact z2) k r
            | dT z1 z2 k r => exact .dT z1 (by rw [upd_ne (fun w => ne (by rw [w]))]; exact z2) k r
  · have g1 : ∃ e, ρ[j]? = some (some (true, e)) := by
      rcases set_get h1 with ⟨q, _⟩ | ⟨_, g⟩
      · exact ⟨x, by rw [q]; exact hi⟩
      · exact ⟨e, g⟩
    have g2 : ∃ e, ρ[k]? = some (some (true, e)) := by
      rcases set_get h2 with ⟨q, _⟩ | ⟨_, g⟩
      · exact ⟨x, by rw [q]; exact hi⟩
      · exact ⟨e', g⟩
    obtain ⟨e1, g1⟩ := g1
    obtain ⟨e2, g2⟩ := g2
    exact r.di j k e1 e2 b ne g1 g2 h3 h4
  · cases hp
    rcases r.fr i x a hi hv with z | z
    · exact .inr z
    · exact .inl z
  · rcases set_get h1 with ⟨q, _⟩ | ⟨_, g⟩
    · rw [q] at h2
      exact r.fr i x b hi h2
    · exact r.fr j e b g h2
/-- xs.append(e) -/
theorem ws_app {i : Nat} {l : List D} (hi : ρ[i]? = some (some (true, .lst l))) (he : Ev K te ρ d) (hl : l.length < sizeLine) (h : N (ρ.set i (some (true, .lst (l ++ [d]))))) : WS K an (tDrop (tBM K "list" rAppend (tVar i) (tCons te tNil))) ρ N R := fun Hs0 H0 σ Hs H r Dn n q => by
  obtain ⟨v, hv, m⟩ := r.slotM hi
  cases m with
  | @lst a xs _ h1 h2 rl =>
    refine ⟨.ref a, hv, Or.inl ⟨rfl, xs, SqL.of h2⟩, he σ Hs H r.toRl _ fun w Hs' H' g1 rw' => ?_⟩
    have h2' := g1.ex _ _ h2
    refine ⟨a, xs, w, rfl, rfl, h2', by rw [rl.len]; exact hl, ?_⟩
    have h1' : Hs' a = none := by
      cases (Mt.stay (.lst h1 h2 rl : Mt K Hs H (.ref a) (.lst l)) g1) with
      | lst z _ _ => exact z
    exact n _ σ Hs' _ h ((r.stay g1).turn hi hv (fun _ z => nomatch z) (.lst h1' upd_same ((rl.mono g1.s).snoc rw'))) g1.s
/-- xs[j] = e -/
theorem ws_setL {i j : Nat} {l : List D} (hi : ρ[i]? = some (some (true, .lst l))) (he : Ev K te ρ d) (hj : j < l.length) (h : N (ρ.set i (some (true, .lst (l.set j d))))) : WS K an (tAsg te (gSub (tVar i) (tC (.int (j : Int))) rSetL)) ρ N R := fun Hs0 H0 σ Hs H r Dn n q => by
  obtain ⟨v, hv, m⟩ := r.slotM hi
  cases m with
  | @lst a xs _ h1 h2 rl =>
    refine he σ Hs H r.toRl _ fun w Hs' H' g1 rw' => ⟨.ref a, hv, ?_⟩
    have h2' := g1.ex _ _ h2
    have h1' : Hs' a = none := by
      cases (Mt.stay (.lst h1 h2 rl : Mt K Hs H (.ref a) (.lst l)) g1) with
      | lst z _ _ => exact z
    refine ⟨a, xs, (j : Int), j, rfl, rfl, h2', Evl.ixN_nat (by rw [rl.len]; exact hj), ?_⟩
    exact n _ σ Hs' _ h ((r.stay g1).turn hi hv (fun _ z => nomatch z) (.lst h1' upd_same ((rl.mono g1.s).set j rw'))) g1.s
/-- d[k] = e, a text's key -/
theorem ws_dputK {i : Nat} {m : List (Key × D)} {s : Str} (hi : ρ[i]? = some (some (true, .dK m))) (hv : Ev K te ρ d) (hk : Ev K tb ρ (.str s)) (hl : m.length < sizeLine) (h : N (ρ.set i (some (true, .dK (dPut m (.inr s) d))))) : WS K an (sDPut (tVar i) tb te) ρ N R := fun Hs0 H0 σ Hs H r Dn n q => by
  obtain ⟨v, hsl, mt⟩ := r.slotM hi
  cases mt with
  | @dK a ps _ h1 h2 hq rl =>
    refine hv σ Hs H r.toRl _ fun w Hs1 H1 g1 rw' => ⟨.ref a, hsl, hk σ Hs1 H1 (r.toRl.stay g1) _ fun kv Hs2 H2 g2 rk => ?_⟩
    have h2' := g2.ex _ _ (g1.ex _ _ h2)
    have g := g1.trans0 g2
    have h1' : Hs2 a = none := by
      cases (Mt.stay (.dK h1 h2 hq rl : Mt K Hs H (.ref a) (.dK m)) g) with
      | dK z _ _ _ => exact z
    have hlen : ps.length = m.length := by
      have := congrArg List.length hq
      simpa using this
    refine ⟨a, upd H2 a (.dK (putK ps (.inr s) w)), rfl, .inl ⟨ps, .inr s, h2', rk.str_inv, by rw [hlen]; exact hl, rfl⟩, ?_⟩
    obtain ⟨p1, p2⟩ := dict_put (k := (.inr s : Key)) (rw'.mono g2.s) hq (rl.mono g.s)
    exact n _ σ Hs2 _ h ((r.stay g).turn hi hsl (fun _ z => nomatch z) (.dK h1' upd_same p1 p2)) g.s
theorem ws_dputT {i : Nat} {m : List (List Key × D)} {ks : List Key} (hi : ρ[i]? = some (some (true, .dT m))) (hv : Ev K te ρ d) (hk : Ev K tb ρ (.tup (ks.map keyD))) (hl : m.length < sizeLine) (h : N (ρ.set i (some (true, .dT (dPut m ks d))))) : WS K an (sDPut (tVar i) tb te) ρ N R := fun Hs0 H0 σ Hs H r Dn n q => by
  obtain ⟨v, hsl, mt⟩ := r.slotM hi
  cases mt with
  | @dT a ps _ h1 h2 hq rl =>
    refine hv σ Hs H r.toRl _ fun w Hs1 H1 g1 rw' => ⟨.ref a, hsl, hk σ Hs1 H1 (r.toRl.stay g1) _ fun kv Hs2 H2 g2 rk => ?_⟩
    have h2' := g2.ex _ _ (g1.ex _ _ h2)
    have g := g1.trans0 g2
    have h1' : Hs2 a = none := by
      cases (Mt.stay (.dT h1 h2 hq rl : Mt K Hs H (.ref a) (.dT m)) g) with
      | dT z _ _ _ => exact z
    have hlen : ps.length = m.length := by
      have := congrArg List.length hq
      simpa using this
    obtain ⟨b, xs, rfl, hb, rb⟩ := rk.tup_inv
    rw [rpL_keys rb] at hb
    refine ⟨a, upd H2 a (.dT (putK ps ks w)), rfl, .inr ⟨ps, ks, b, h2', rfl, g2.i _ _ hb, by rw [hlen]; exact hl, rfl⟩, ?_⟩
    obtain ⟨p1, p2⟩ := dict_put (k := ks) (rw'.mono g2.s) hq (rl.mono g.s)
    exact n _ σ Hs2 _ h ((r.stay g).turn hi hsl (fun _ z => nomatch z) (.dT h1' upd_same p1 p2)) g.s
/-- a, b = e1, e2 -/
theorem ws_par {i j : Nat} {ta : TA} (ha : EvA K ta ρ [x, y]) (h : N ((ρ.set i (some (false, x))).set j (some (false, y)))) (hf : Free an [i, j] := by first | exact free_none | exact free_j (by decide)) : WS K an (tPar i j ta) ρ N R := fun Hs0 H0 σ Hs H r Dn n q =>
  ha σ Hs H r.toRl _ fun vs Hs1 H1 g1 rs => by
    cases rs with
    | cons r1 rs =>
      cases rs with
      | cons r2 rs =>
        cases rs
        exact ⟨_, _, rfl, n _ _ Hs1 H1 h (((r.stay g1).set r1 fun a => hf i (by simp) a).set r2 fun a => hf j (by simp) a) g1.s⟩
theorem ws_par3 {i j k : Nat} {ta : TA} {z : D} (ha : EvA K ta ρ [x, y, z]) (h : N (((ρ.set i (some (false, x))).set j (some (false, y))).set k (some (false, z)))) (hf : Free an [i, j, k] := by first | exact free_none | exact free_j (by decide)) : WS K an (tPar3 i j k ta) ρ N R := fun Hs0 H0 σ Hs H r Dn n q =>
  ha σ Hs H r.toRl _ fun vs Hs1 H1 g1 rs => by
    cases rs with
    | cons r1 rs =>
      cases rs with
      | cons r2 rs =>
        cases rs with
        | cons r3 rs =>
          cases rs
          exact ⟨_, _, _, rfl, n _ _ Hs1 H1 h ((((r.stay g1).set r1 fun a => hf i (by simp) a).set r2 fun a => hf j (by simp) a).set r3 fun a => hf k (by simp) a) g1.s⟩

/-! loops -/
theorem ws_while (I : Nat → Env → Prop) (h0 : ∃ m, I m ρ) (hs : ∀ m ρ', I m ρ' → ∃ b, EvT K tt ρ' b ∧ (b = true → WS K an tu ρ' (fun ρ'' => ∃ m', m' < m ∧ I m' ρ'') R) ∧ (b = false → N ρ')) : WS K an (tWhile tt tu) ρ N R := fun Hs0 H0 σ Hs H r Dn n q => by
  obtain ⟨m0, h0⟩ := h0
  refine ⟨fun m σ' H' => ∃ ρ' Hs', I m ρ' ∧ Rel K an Hs0 H0 Hs' H' σ' ρ' ∧ Ex Hs Hs', ⟨m0, ρ, Hs, h0, r, Ex.refl _⟩, ?_⟩
  rintro m σ' H' ⟨ρ', Hs', hi, r', e⟩
  obtain ⟨b, ht, h1, h2⟩ := hs m ρ' hi
  refine ht σ' Hs' H' r'.toRl _ fun Hs2 H2 g => ?_
  cases b with
  | true =>
    show ∃ N : L2.St → Hp → Prop, _
    refine ⟨fun σ2 H2 => ∃ m', m' < m ∧ ∃ ρ2 Hs2, I m' ρ2 ∧ Rel K an Hs0 H0 Hs2 H2 σ2 ρ2 ∧ Ex Hs Hs2, fun σ2 H2 h => h, ?_⟩
    exact h1 rfl Hs0 H0 σ' Hs2 H2 (r'.stay g) _ (fun ρ3 σ3 Hs3 H3 ⟨m', lt, hi'⟩ r3 e3 => ⟨m', lt, ρ3, Hs3, hi', r3, e.trans (g.s.trans e3)⟩) q
  | false =>
    show Dn.nx σ' H2
    exact n ρ' σ' Hs2 H2 (h2 rfl) (r'.stay g) (e.trans g.s)
theorem ws_forL {tl : TE} {l : List D} (I : Nat → Env → Prop) (h : Ev K tl ρ (.lst l)) (h0 : I 0 ρ) (hs : ∀ j d ρ', l[j]? = some d → I j ρ' → WG K js g d ρ' fun ρ'' => WS K an tu ρ'' (I (j + 1)) R) (hd : ∀ ρ', I l.length ρ' → N ρ') (hf : Free an js := by first | exact free_none | exact free_j (by decide)) : WS K an (tFor (iList K tl) g tu) ρ N R := fun Hs0 H0 σ Hs H r Dn n q =>
  h σ Hs H r.toRl _ fun v Hs1 H1 g1 rv => by
    obtain ⟨a, xs, rfl, ha, rl⟩ := rv.lst_inv
    refine ⟨a, rfl, ⟨xs, SqL.of (g1.i _ _ ha)⟩, for_list (xs := xs) (fun i σ' H' => ∃ ρ' Hs', I i ρ' ∧ Rel K an Hs0 H0 Hs' H' σ' ρ' ∧ Ex Hs1 Hs') ⟨ρ, Hs1, h0, r.stay g1, Ex.refl _⟩ ?_ ?_ ?_⟩
    · rintro i σ' H' _ ⟨ρ', Hs', _, r', e⟩
      exact SqL.of (r'.ex _ _ (e _ _ ha))
    · rintro i x σ' H' hx ⟨ρ', Hs', hi, r', e⟩
      obtain ⟨d, hd', rx⟩ := rl.getV hx
      refine hs i d ρ' hd' hi σ' Hs' H' x r'.toRl (rx.mono e) _ fun ρ2 σ2 w R2 t => ?_
      exact w Hs0 H0 σ2 Hs' H' (r'.tg R2 t hf) _ (fun ρ3 σ3 Hs3 H3 hi3 r3 e3 => ⟨ρ3, Hs3, hi3, r3, e.trans e3⟩) q
    · rintro σ' H' ⟨ρ', Hs', hi, r', e⟩
      rw [rl.len] at hi
      exact n ρ' σ' Hs' H' (hd ρ' hi) r' (g1.s.trans e)
/-- over range(n), range(lo, n) -/
theorem ws_forR1 {ta : TA} {j : Nat} {n : Int} (I : Nat → Env → Prop) (h : EvA K ta ρ [.int n]) (hn : n ≤ 100000000) (hn0 : -100000000 ≤ n) (h0 : I 0 ρ) (hs : ∀ (k : Nat) ρ', (k : Int) < n → I k ρ' → WS K an tu (ρ'.set j (some (false, .int (k : Int)))) (I (k + 1)) R) (hd : ∀ ρ', I n.toNat ρ' → N ρ') (hf : Free an [j] := by first | exact free_none | exact free_j (by decide)) : WS K an (tFor (iRng1 ta) (gName j) tu) ρ N R := fun Hs0 H0 σ Hs H r Dn nn q =>
  h σ Hs H r.toRl _ fun vs Hs1 H1 g1 rv => by
    cases rv with
    | cons r1 r2 =>
      cases r2
      cases r1
      refine ⟨n, rfl, by omega, by omega, for_range (lo := 0) (n := n.toNat) (fun i σ' H' => ∃ ρ' Hs', I i ρ' ∧ Rel K an Hs0 H0 Hs' H' σ' ρ' ∧ Ex Hs1 Hs') ⟨ρ, Hs1, h0, r.stay g1, Ex.refl _⟩ ?_ ?_⟩
      · rintro i σ' H' hi ⟨ρ', Hs', hI, r', e⟩
        have e0 : (0 : Int) + (i : Int) = (i : Int) := Int.zero_add _
        show tu _ (σ'.set j (some (.int ((0 : Int) + (i : Int))))) H'
        rw [e0]
        exact hs i ρ' (by omega) hI Hs0 H0 _ Hs' H' (r'.set (.int _) fun a => hf j (List.mem_singleton.mpr rfl) a) _ (fun ρ3 σ3 Hs3 H3 hi3 r3 e3 => ⟨ρ3, Hs3, hi3, r3, e.trans e3⟩) q
      · rintro σ' H' ⟨ρ', Hs', hi, r', e⟩
        exact nn ρ' σ' Hs' H' (hd ρ' hi) r' (g1.s.trans e)
/-- over enumerate(xs) -/
theorem ws_forE {ta : TA} {l : List D} (I : Nat → Env → Prop) (h : EvA K ta ρ [.lst l]) (h0 : I 0 ρ) (hs : ∀ (k : Nat) d ρ', l[k]? = some d → I k ρ' → WG K js g (.tup [.int (k : Int), d]) ρ' fun ρ'' => WS K an tu ρ'' (I (k + 1)) R) (hd : ∀ ρ', I l.length ρ' → N ρ') (hf : Free an js := by first | exact free_none | exact free_j (by decide)) : WS K an (tFor (iEnum K ta) g tu) ρ N R := fun Hs0 H0 σ Hs H r Dn n q =>
  h σ Hs H r.toRl _ fun vs Hs1 H1 g1 rv => by
    cases rv with
    | cons r1 r2 =>
      cases r2
      obtain ⟨a, xs, rfl, ha, rl⟩ := r1.lst_inv
      refine ⟨a, xs, rfl, SqL.of (g1.i _ _ ha), fun i m σ' H' => i + m = xs.length ∧ ∃ ρ' Hs', I i ρ' ∧ Rel K an Hs0 H0 Hs' H' σ' ρ' ∧ Ex Hs1 Hs', ⟨xs.length, by omega, ρ, Hs1, h0, r.stay g1, Ex.refl _⟩, ?_⟩
      rintro i m σ' H' ⟨em, ρ', Hs', hi, r', e⟩
      have hA : H' a = some (.lst xs) := r'.ex _ _ (e _ _ ha)
      by_cases hlt : i < xs.length
      · have gx : xs[i]? = some xs[i] := List.getElem?_eq_getElem hlt
        refine .inr ⟨⟨xs, xs[i], SqL.of hA, gx⟩, fun σ2 H2 => ∃ ρ2 Hs2, I (i + 1) ρ2 ∧ Rel K an Hs0 H0 Hs2 H2 σ2 ρ2 ∧ Ex Hs1 Hs2, fun σ2 H2 w => ⟨m - 1, by omega, by omega, w⟩, fun y H2 hy => ?_⟩
        obtain ⟨T, x, rfl, nT, rfl, f⟩ := hy
        have ex := f xs (SqL.of hA)
        obtain ⟨d, hd', rx⟩ := rl.getV ex
        have gT : Go N0 Hs' H' (upd Hs' T (.tup [.int (i : Nat), x])) (upd H' T (.tup [.int (i : Nat), x])) := .new r'.ex nT
        have r2 := r'.stay gT
        refine hs i d ρ' hd' hi σ' _ _ (.ref T) r2.toRl (.tup upd_same (.cons (.int _) (.cons (rx.mono (e.trans gT.s)) .nil))) _ fun ρ2 σ2 w R2 t => ?_
        exact w Hs0 H0 σ2 _ _ (r2.tg R2 t hf) _ (fun ρ3 σ3 Hs3 H3 hi3 r3 e3 => ⟨ρ3, Hs3, hi3, r3, e.trans (gT.s.trans e3)⟩) q
      · refine .inl ⟨⟨xs, SqL.of hA, by omega⟩, ?_⟩
        have : i = l.length := by rw [← rl.len]; omega
        subst this
        exact n ρ' σ' Hs' H' (hd ρ' hi) r' (g1.s.trans e)
end

/-! ### comprehensions -/
def wipeE (ρ : Env) : List Nat → Env
  | [] => ρ
  | v :: vs => (wipeE ρ vs).set v none
section
variable {K : PySem.W.Frag} {Hs H : Hp} {σ σ' : L2.St} {ρ ρ' : Env} {js vs : List Nat} {d x y : D} {te : TE} {tt : TT} {g : TG}
theorem wipe_get {i : Nat} (h : i ∉ vs) : (wipe σ vs)[i]? = σ[i]? := by
  induction vs with
  | nil => rfl
  | cons v vs ih =>
    rw [List.mem_cons, not_or] at h
    unfold wipe
    rw [List.getElem?_set_ne (Ne.symm h.1)]
    exact ih h.2
theorem wipe_eq (hl : σ'.length = (wipe σ vs).length) (hs : ∀ i, i ∉ vs → σ'[i]? = (wipe σ vs)[i]?) : wipe σ' vs = wipe σ vs := by
  apply List.ext_getElem?
  intro i
  by_cases h : i ∈ vs
  · by_cases hlt : i < σ.length
    · have a1 : ∀ (τ : L2.St), i < τ.length → (wipe τ vs)[i]? = some none := by
        intro τ hτ
        induction vs with
        | nil => cases h
        | cons v vs ih =>
          unfold wipe
          by_cases e : i = v
          · subst e
            rw [List.getElem?_set_self (by rw [wipe_length]; exact hτ)]
          · rw [List.getElem?_set_ne (Ne.symm e)]
            have h' : i ∈ vs := by
              rcases List.mem_cons.mp h with z | z
              · exact absurd z e
              · exact z
            clear ih hs hl
            induction vs with
            | nil => cases h'
            | cons u us ih2 =>
              unfold wipe
              by_cases e2 : i = u
              · subst e2
                rw [List.getElem?_set_self (by rw [wipe_length]; exact hτ)]
              · rw [List.getElem?_set_ne (Ne.symm e2)]
                have h2 : i ∈ us := by
                  rcases List.mem_cons.mp h' with z | z
                  · exact absurd z e2
                  · exact z
                exact ih2 (List.mem_cons_of_mem _ h2) h2
      rw [a1 σ' (by rw [hl, wipe_length]; exact hlt), a1 σ hlt]
    · have b1 : (wipe σ' vs)[i]? = none := by rw [List.getElem?_eq_none_iff, wipe_length, hl, wipe_length]; omega
      have b2 : (wipe σ vs)[i]? = none := by rw [List.getElem?_eq_none_iff, wipe_length]; omega
      rw [b1, b2]
  · rw [wipe_get h]
    exact hs i h
theorem wipeE_get {i : Nat} {b : Bool} : ∀ {vs : List Nat}, (wipeE ρ vs)[i]? = some (some (b, d)) → i ∉ vs ∧ ρ[i]? = some (some (b, d))
  | [], h => ⟨by simp, h⟩
  | v :: vs, h => by
    have h' : ((wipeE ρ vs).set v none)[i]? = some (some (b, d)) := h
    rcases set_get h' with ⟨_, z⟩ | ⟨n, h'⟩
    · cases z
    · obtain ⟨h1, h2⟩ := wipeE_get h'
      exact ⟨by rw [List.mem_cons, not_or]; exact ⟨n, h1⟩, h2⟩
theorem Rl.wipe (R : Rl K Hs H σ ρ) (vs : List Nat) : Rl K Hs H (wipe σ vs) (wipeE ρ vs) where
  ex := R.ex
  sl := by
    have h := R.sl
    clear R
    induction vs with
    | nil => exact h
    | cons v vs ih => exact Paired.set' (show Sl K Hs H none none from trivial) v ih
  di := fun i j e e' a ne h1 h2 h3 h4 => by
    obtain ⟨n1, g1⟩ := wipeE_get h1
    obtain ⟨n2, g2⟩ := wipeE_get h2
    rw [wipe_get n1] at h3
    rw [wipe_get n2] at h4
    exact R.di i j e e' a ne g1 g2 h3 h4
/-- what is kept, turned -/
def pick (p : D → Bool) (f : D → D) (l : List D) : List D := (l.filter p).map f
theorem pick_snoc (p : D → Bool) (f : D → D) {l : List D} {i : Nat} {d : D} (h : l[i]? = some d) : pick p f (l.take (i + 1)) = pick p f (l.take i) ++ (if p d then [f d] else []) := by
  unfold pick
  rw [List.take_add_one, h, List.filter_append, List.map_append]
  show _ ++ (List.filter p [d]).map f = _
  rw [List.filter_cons]
  cases p d <;> rfl
/-- [e for x in xs if t], nothing changes on the way -/
theorem en_lcL {tl : TE} {l : List D} (p : D → Bool) (f : D → D) (h : Ev K tl ρ (.lst l)) (hl : l.length < sizeLine) (hj : ∀ j ∈ js, j ∈ vs)
    (ht : ∀ d, d ∈ l → WG K js g d (wipeE ρ vs) fun ρ' => EvT K tt ρ' (p d) ∧ (p d = true → Ev K te ρ' (f d))) : EvN K (tLc (iList K tl) g tt te vs) ρ (.lst (pick p f l)) := fun σ Hs H R Q q =>
  h σ Hs H R _ fun v Hs1 H1 g1 rv => by
    obtain ⟨a, xs, rfl, ha, rl⟩ := rv.lst_inv
    refine ⟨a, rfl, ⟨xs, SqL.of (g1.i _ _ ha)⟩, fun Dl hD => ?_⟩
    have R1 := R.stay g1
    -- Hs' stands in H' without the list at Dl
    refine lc_list (xs := xs) (fun i H' => ∃ Hs' acc, Go N0 Hs1 H1 Hs' H' ∧ Hs' Dl = none ∧ H' Dl = some (.lst acc) ∧ RpL K Hs' acc (pick p f (l.take i))) ⟨Hs1, [], .newM g1.i hD, ex_free g1.i hD, upd_same, .nil⟩ ?_ ?_ ?_
    · rintro i H' _ ⟨Hs', acc, g, _, _, _⟩
      exact SqL.of (g.i _ _ (g.s _ _ ha))
    · rintro i x H' hx ⟨Hs', acc, g2, hn, hDl, ra⟩
      obtain ⟨d, hd', rx⟩ := rl.getV hx
      have hil : i < l.length := (List.getElem?_eq_some_iff.mp hd').1
      refine ht d (List.mem_of_getElem? hd') _ Hs' H' x ((R1.stay g2).wipe vs) (rx.mono g2.s) _ fun ρ2 σ2 ⟨w1, w2⟩ R2 t => ⟨wipe_eq t.len fun k hk => t.same k fun z => hk (hj k z), ?_⟩
      refine w1 σ2 Hs' H' R2 _ fun Hs3 H3 g3 => ?_
      have hn3 : ∀ {Hs4 H4 : Hp}, Go N0 Hs' H' Hs4 H4 → Hs4 Dl = none := fun {Hs4 H4} g4 => by
        cases z : Hs4 Dl with
        | none => rfl
        | some o =>
          rcases g4.n Dl (by rw [z]; simp) with k | k | ⟨ys, k⟩
          · exact absurd hn k
          · rw [hDl] at k; cases k
          · rw [hDl] at k; cases k
      cases hp : p d with
      | true =>
        show te σ2 H3 _
        refine w2 hp σ2 Hs3 H3 (R2.stay g3) _ fun y Hs4 H4 g4 ry => ?_
        have g34 := g3.trans0 g4
        have hDl4 : H4 Dl = some (.lst acc) := g34.ex _ _ hDl
        refine ⟨acc, hDl4, ?_, Hs4, acc ++ [y], ?_, hn3 g34, upd_same, ?_⟩
        · have e1 := ra.len
          have e2 : (pick p f (l.take i)).length ≤ i := by
            unfold pick
            rw [List.length_map]
            exact Nat.le_trans (List.length_filter_le _ _) (by rw [List.length_take]; omega)
          omega
        · have gw : Go (fun z => z = Dl) Hs4 H4 Hs4 (upd H4 Dl (.lst (acc ++ [y]))) := .write g4.i (hn3 g34) (by rw [hDl4]; simp) (fun _ z => nomatch z)
          refine (g2.trans0 g34).trans gw fun z e => .inr ?_
          rw [e]; exact hD
        · rw [pick_snoc p f hd', hp]
          exact (ra.mono g34.s).snoc ry
      | false =>
        show ∃ Hs' acc, _
        refine ⟨Hs3, acc, g2.trans0 g3, hn3 g3, g3.ex _ _ hDl, ?_⟩
        rw [pick_snoc p f hd', hp]
        simpa using ra.mono g3.s
    · rintro H' ⟨Hs', acc, g2, hn, hDl, ra⟩
      rw [rl.len, List.take_length] at ra
      exact q Dl Hs' H' (g1.trans0 g2) (go_free g1 hD) (.lst hn hDl ra)
end

/-! ### defs that change nothing -/
/-- F ds d: called with the data ds it gives d -/
def spD (K : PySem.W.Frag) (F : List D → D → Prop) : Sp := fun vs H Q _ => ∃ ds d Hs, F ds d ∧ Ex Hs H ∧ RpL K Hs vs ds ∧ ∀ v Hs' H', Go N0 Hs H Hs' H' → Rp K Hs' v d → Q v H'
def env0 (n : Nat) (ds : List D) : Env := ds.map (fun d => some (false, d)) ++ List.replicate (n - ds.length) none
section
variable {K : PySem.W.Frag} {F : List D → D → Prop} {ρ : Env}
theorem env0_rel {Hs H : Hp} {vs : List V} {ds : List D} (N : List Str) (e : Ex Hs H) (r : RpL K Hs vs ds) : Rel K none Hs H Hs H (start N vs) (env0 N.length ds) := by
  have nm : ∀ (i : Nat) (d : D), (env0 N.length ds)[i]? = some (some (true, d)) → False := fun i d h => by
    unfold env0 at h
    by_cases hi : i < ds.length
    · rw [List.getElem?_append_left (by simpa using hi)] at h
      simp at h
    · rw [List.getElem?_append_right (by simp; omega), List.getElem?_replicate] at h
      split at h <;> cases h
  refine ⟨⟨e, ?_, fun i j d d' a _ h1 => (nm i d h1).elim⟩, .refl e, (fun _ _ h => nomatch h), fun i d a h => (nm i d h).elim⟩
  unfold L2.start env0
  have hl := r.len
  rw [hl]
  have h1 : ∀ {vs : List V} {ds : List D}, RpL K Hs vs ds → Paired (Sl K Hs H) (vs.map some) (ds.map fun d => some (false, d)) := by
    intro vs
    induction vs with
    | nil =>
      intro ds r
      cases r
      exact .nil
    | cons v vs ih =>
      intro ds r
      cases r with
      | cons h r => exact .cons h (ih r)
  have h2 : ∀ n, Paired (Sl K Hs H) (List.replicate n (none : Option V)) (List.replicate n none) := fun n => by
    induction n with
    | zero => exact .nil
    | succ n ih => exact .cons trivial ih
  have ap : ∀ {l l' : List (Option V)} {m m' : Env}, Paired (Sl K Hs H) l m → Paired (Sl K Hs H) l' m' → Paired (Sl K Hs H) (l ++ l') (m ++ m') := by
    intro l l' m m' a b
    induction a with
    | nil => exact b
    | cons h _ ih => exact .cons h ih
  exact ap (h1 r) (h2 _)
/-- a body that keeps F -/
theorem spD_run {ts : TS} {N : List Str} {vs : List V} {H : Hp} {Q : VK} {E : XK} (h : spD K F vs H Q E) (hw : ∀ ds d, F ds d → WS K none ts (env0 N.length ds) (fun _ => d = .non) fun _ d' => d' = d) : ts { nx := fun _ H' => Q .non H', rt := Q } (start N vs) H := by
  obtain ⟨ds, d, Hs, f, e, r, q⟩ := h
  have gg : ∀ {Hs' H' : Hp} {σ' : L2.St} {ρ' : Env}, Rel K none Hs H Hs' H' σ' ρ' → Go N0 Hs H Hs' H' := fun r => ⟨r.go.s, r.go.i, r.go.n, fun a o h _ => r.go.f a o h (fun ⟨_, z⟩ => nomatch z), r.go.d, r.go.t⟩
  refine hw ds d f Hs H _ Hs H (env0_rel N e r) _ (fun ρ' σ' Hs' H' w r' _ => ?_) fun ρ' d' v σ' Hs' H' w r' rv => ?_
  · subst w
    exact q .non Hs' H' (gg r') .non
  · subst w
    exact q v Hs' H' (gg r') rv
theorem spD_len {vs : List V} {H : Hp} {Q : VK} {E : XK} {n : Nat} (h : spD K F vs H Q E) (hn : ∀ ds d, F ds d → ds.length = n) : vs.length = n := by
  obtain ⟨ds, d, Hs, f, _, r, _⟩ := h
  rw [r.len]
  exact hn ds d f
/-- a call -/
theorem ev_call {ta : TA} {ds : List D} {d : D} {E : XK} (ha : EvA K ta ρ ds) (f : F ds d) : Ev K (tCall (spD K F) [] E ta) ρ d := fun σ Hs H R Q q =>
  ha σ Hs H R _ fun vs Hs1 H1 g1 r1 => ⟨ds, d, Hs1, f, g1.i, by rw [List.append_nil]; exact r1, fun v Hs' H' g r => q v Hs' H' (g1.trans0 g) r⟩
end
end J

/-! ## LayC -/
/-! The data layer: what changes an object on the way. -/
namespace J
open PySem PySem.Spec PyProof.Rows L2
open Evl (Ex ex_rd ex_l ex_t)
/-- the objects of the slots that may change -/
def Mu (σ : L2.St) (ρ : Env) (a : Addr) : Prop := ∃ (i : Nat) (d : D), ρ[i]? = some (some (true, d)) ∧ σ[i]? = some (some (.ref a))
structure Wd (σ : L2.St) (ρ ρ' : Env) (Hs H Hs' H' : Hp) : Prop where
  go : Go (Mu σ ρ) Hs H Hs' H'
  kp : ∀ (i : Nat) (d : D), ρ'[i]? = some (some (true, d)) → ∃ d' : D, ρ[i]? = some (some (true, d'))
theorem Go.weak {M M' : Addr → Prop} {Hs H Hs' H' : Hp} (g : Go M Hs H Hs' H') (h : ∀ a, M a → M' a) : Go M' Hs H Hs' H' := ⟨g.s, g.i, g.n, fun a o e n => g.f a o e fun q => n (h a q), g.d, g.t⟩
section
variable {σ : L2.St} {ρ ρ1 ρ2 : Env} {Hs H Hs1 H1 Hs2 H2 : Hp}
theorem Wd.refl (e : Ex Hs H) : Wd σ ρ ρ Hs H Hs H := ⟨.refl e, fun _ d h => ⟨d, h⟩⟩
theorem Wd.of (g : Go N0 Hs H Hs1 H1) : Wd σ ρ ρ Hs H Hs1 H1 := ⟨g.weak fun _ q => q.elim, fun _ d h => ⟨d, h⟩⟩
theorem Wd.trans (a : Wd σ ρ ρ1 Hs H Hs1 H1) (b : Wd σ ρ1 ρ2 Hs1 H1 Hs2 H2) : Wd σ ρ ρ2 Hs H Hs2 H2 :=
  ⟨a.go.trans b.go fun p ⟨i, d, h1, h2⟩ => .inl (by obtain ⟨d', h⟩ := a.kp i d h1; exact ⟨i, d', h, h2⟩), fun i d h => by obtain ⟨d1, h1⟩ := b.kp i d h; exact a.kp i d1 h1⟩
theorem Wd.go0 (a : Wd σ ρ ρ1 Hs H Hs1 H1) (b : Go N0 Hs1 H1 Hs2 H2) : Wd σ ρ ρ1 Hs H Hs2 H2 := a.trans (.of b)
end
/-- an expression that may change objects of slots -/
def WE (K : PySem.W.Frag) (an : An) (te : TE) (ρ : Env) (N : Env → D → Prop) : Prop :=
  ∀ Hs0 H0 σ Hs H, Rel K an Hs0 H0 Hs H σ ρ → ∀ Q : VK, (∀ ρ' d v Hs' H', N ρ' d → Rel K an Hs0 H0 Hs' H' σ ρ' → Wd σ ρ ρ' Hs H Hs' H' → Rp K Hs' v d → Q v H') → te σ H Q
def WEA (K : PySem.W.Frag) (an : An) (ta : TA) (ρ : Env) (N : Env → List D → Prop) : Prop :=
  ∀ Hs0 H0 σ Hs H, Rel K an Hs0 H0 Hs H σ ρ → ∀ Q : List V → Hp → Prop, (∀ ρ' ds vs Hs' H', N ρ' ds → Rel K an Hs0 H0 Hs' H' σ ρ' → Wd σ ρ ρ' Hs H Hs' H' → RpL K Hs' vs ds → Q vs H') → ta σ H Q
def WET (K : PySem.W.Frag) (an : An) (tt : TT) (ρ : Env) (N : Env → Bool → Prop) : Prop :=
  ∀ Hs0 H0 σ Hs H, Rel K an Hs0 H0 Hs H σ ρ → ∀ Q : Bool → Hp → Prop, (∀ ρ' b Hs' H', N ρ' b → Rel K an Hs0 H0 Hs' H' σ ρ' → Wd σ ρ ρ' Hs H Hs' H' → Q b H') → tt σ H Q
/-- a target that may change objects of slots -/
def WM (K : PySem.W.Frag) (an : An) (g : TG) (d : D) (ρ : Env) (N : Env → Prop) : Prop :=
  ∀ Hs0 H0 σ Hs H v, Rel K an Hs0 H0 Hs H σ ρ → Rp K Hs v d → ∀ Q : L2.St → Hp → Prop, (∀ ρ' σ' Hs' H', N ρ' → Rel K an Hs0 H0 Hs' H' σ' ρ' → Ex Hs Hs' → Q σ' H') → g v σ H Q
def WMs (K : PySem.W.Frag) (an : An) (g : TGs) (ds : List D) (ρ : Env) (N : Env → Prop) : Prop :=
  ∀ Hs0 H0 σ Hs H vs, Rel K an Hs0 H0 Hs H σ ρ → RpL K Hs vs ds → ∀ Q : L2.St → Hp → Prop, (∀ ρ' σ' Hs' H', N ρ' → Rel K an Hs0 H0 Hs' H' σ' ρ' → Ex Hs Hs' → Q σ' H') → g vs σ H Q
section
variable {K : PySem.W.Frag} {an : An} {ρ : Env} {te ta tb : TE} {tt tu : TT} {d x y z : D} {N : Env → D → Prop} {M : Env → Prop} {R : Env → D → Prop} {ts tv : TS} {g : TG}
theorem we_ev (h : Ev K te ρ d) (n : N ρ d) : WE K an te ρ N := fun Hs0 H0 σ Hs H r Q q => h σ Hs H r.toRl Q fun v Hs' H' g rv => q ρ d v Hs' H' n (r.stay g) (.of g) rv
theorem we_mono {N' : Env → D → Prop} (h : WE K an te ρ N) (n : ∀ ρ d, N ρ d → N' ρ d) : WE K an te ρ N' := fun Hs0 H0 σ Hs H r Q q => h Hs0 H0 σ Hs H r Q fun ρ' d v Hs' H' w => q ρ' d v Hs' H' (n _ _ w)
theorem we_op {r : R2} (h : WE K an ta ρ fun ρ1 x => WE K an tb ρ1 fun ρ2 y => ∃ z, Op2 K r x y z ∧ N ρ2 z) : WE K an (tOp r ta tb) ρ N := fun Hs0 H0 σ Hs H rl Q q =>
  h Hs0 H0 σ Hs H rl _ fun ρ1 x v Hs1 H1 w1 r1 wd1 rv => w1 Hs0 H0 σ Hs1 H1 r1 _ fun ρ2 y u Hs2 H2 w2 r2 wd2 ru => by
    obtain ⟨z, o, n⟩ := w2
    exact o Hs2 H2 v u Q r2.ex (rv.mono wd2.go.s) ru fun t Hs3 H3 g rt => q ρ2 z t Hs3 H3 n (r2.stay g) ((wd1.trans wd2).go0 g) rt
theorem we_un {r : V → Hp → VK → Prop} (h : WE K an ta ρ fun ρ1 x => ∃ z, Op1 K r x z ∧ N ρ1 z) : WE K an (tUn r ta) ρ N := fun Hs0 H0 σ Hs H rl Q q =>
  h Hs0 H0 σ Hs H rl _ fun ρ1 x v Hs1 H1 ⟨z, o, n⟩ r1 wd1 rv => o Hs1 H1 v Q r1.ex rv fun t Hs3 H3 g rt => q ρ1 z t Hs3 H3 n (r1.stay g) (wd1.go0 g) rt
theorem wea_nil {N : Env → List D → Prop} (n : N ρ []) : WEA K an tNil ρ N := fun Hs0 H0 σ Hs H r Q q => q ρ [] [] Hs H n r (.refl r.ex) .nil
theorem wea_cons {tr : TA} {N : Env → List D → Prop} (h : WE K an ta ρ fun ρ1 x => WEA K an tr ρ1 fun ρ2 xs => N ρ2 (x :: xs)) : WEA K an (tCons ta tr) ρ N := fun Hs0 H0 σ Hs H rl Q q =>
  h Hs0 H0 σ Hs H rl _ fun ρ1 x v Hs1 H1 w1 r1 wd1 rv => w1 Hs0 H0 σ Hs1 H1 r1 _ fun ρ2 xs vs Hs2 H2 w2 r2 wd2 rs => q ρ2 (x :: xs) (v :: vs) Hs2 H2 w2 r2 (wd1.trans wd2) (.cons (rv.mono wd2.go.s) rs)
theorem wea_ea {tA : TA} {ds : List D} {N : Env → List D → Prop} (h : EvA K tA ρ ds) (n : N ρ ds) : WEA K an tA ρ N := fun Hs0 H0 σ Hs H r Q q => h σ Hs H r.toRl Q fun v Hs' H' g rv => q ρ ds v Hs' H' n (r.stay g) (.of g) rv
theorem we_cb {r : List V → Hp → VK → Prop} {tA : TA} (h : WEA K an tA ρ fun ρ1 xs => ∃ z, OpC K r xs z ∧ N ρ1 z) : WE K an (tCB r tA) ρ N := fun Hs0 H0 σ Hs H rl Q q =>
  h Hs0 H0 σ Hs H rl _ fun ρ1 x v Hs1 H1 ⟨z, o, n⟩ r1 wd1 rv => o Hs1 H1 v Q r1.ex rv fun t Hs3 H3 g rt => q ρ1 z t Hs3 H3 n (r1.stay g) (wd1.go0 g) rt
theorem we_tup {tA : TA} (h : WEA K an tA ρ fun ρ1 xs => xs.length ≤ sizeLine ∧ N ρ1 (.tup xs)) : WE K an (tTup tA) ρ N := fun Hs0 H0 σ Hs H rl Q q =>
  h Hs0 H0 σ Hs H rl _ fun ρ1 x v Hs1 H1 ⟨l, n⟩ r1 wd1 rv => ⟨by rw [rv.len]; exact l, fun p hp => by
    have g2 : Go N0 Hs1 H1 (upd Hs1 p (.tup v)) (upd H1 p (.tup v)) := .new r1.ex hp
    exact q ρ1 _ _ _ _ n (r1.stay g2) (wd1.go0 g2) (.tup upd_same (rv.mono g2.s))⟩
theorem we_lst {tA : TA} (h : WEA K an tA ρ fun ρ1 xs => xs.length ≤ sizeLine ∧ N ρ1 (.lst xs)) : WE K an (tLst tA) ρ N := fun Hs0 H0 σ Hs H rl Q q =>
  h Hs0 H0 σ Hs H rl _ fun ρ1 x v Hs1 H1 ⟨l, n⟩ r1 wd1 rv => ⟨by rw [rv.len]; exact l, fun p hp => by
    have g2 : Go N0 Hs1 H1 (upd Hs1 p (.lst v)) (upd H1 p (.lst v)) := .new r1.ex hp
    exact q ρ1 _ _ _ _ n (r1.stay g2) (wd1.go0 g2) (.lst upd_same (rv.mono g2.s))⟩
theorem we_call {tA : TA} {F : List D → D → Prop} {E : XK} (h : WEA K an tA ρ fun ρ1 ds => ∃ d, F ds d ∧ N ρ1 d) : WE K an (tCall (spD K F) [] E tA) ρ N := fun Hs0 H0 σ Hs H rl Q q =>
  h Hs0 H0 σ Hs H rl _ fun ρ1 ds vs Hs1 H1 ⟨d, f, n⟩ r1 wd1 rv => ⟨ds, d, Hs1, f, r1.ex, by rw [List.append_nil]; exact rv, fun v Hs' H' g r => q ρ1 d v Hs' H' n (r1.stay g) (wd1.go0 g) r⟩
theorem we_if {b : Bool} (h : EvT K tt ρ b) (h1 : b = true → WE K an ta ρ N) (h2 : b = false → WE K an tb ρ N) : WE K an (tIf tt ta tb) ρ N := fun Hs0 H0 σ Hs H r Q q => h σ Hs H r.toRl _ fun Hs1 H1 g1 => by
  cases b with
  | true =>
    show ta σ H1 Q
    exact h1 rfl Hs0 H0 σ Hs1 H1 (r.stay g1) Q fun ρ' d v Hs' H' n r' wd rv => q ρ' d v Hs' H' n r' ((Wd.of g1).trans wd) rv
  | false =>
    show tb σ H1 Q
    exact h2 rfl Hs0 H0 σ Hs1 H1 (r.stay g1) Q fun ρ' d v Hs' H' n r' wd rv => q ρ' d v Hs' H' n r' ((Wd.of g1).trans wd) rv
theorem we_ifW (h : WET K an tt ρ fun ρ1 b => (b = true → WE K an ta ρ1 N) ∧ (b = false → WE K an tb ρ1 N)) : WE K an (tIf tt ta tb) ρ N := fun Hs0 H0 σ Hs H r Q q => h Hs0 H0 σ Hs H r _ fun ρ1 b Hs1 H1 ⟨h1, h2⟩ r1 wd1 => by
  cases b with
  | true =>
    show ta σ H1 Q
    exact h1 rfl Hs0 H0 σ Hs1 H1 r1 Q fun ρ' d v Hs' H' n r' wd rv => q ρ' d v Hs' H' n r' (wd1.trans wd) rv
  | false =>
    show tb σ H1 Q
    exact h2 rfl Hs0 H0 σ Hs1 H1 r1 Q fun ρ' d v Hs' H' n r' wd rv => q ρ' d v Hs' H' n r' (wd1.trans wd) rv
theorem wt_we {N : Env → Bool → Prop} (h : WE K an te ρ fun ρ1 d => ∃ b, d = .bl b ∧ N ρ1 b) : WET K an (tTest te) ρ N := fun Hs0 H0 σ Hs H r Q q => h Hs0 H0 σ Hs H r _ fun ρ1 d v Hs1 H1 ⟨b, e, n⟩ r1 wd1 rv => by
  subst e
  exact ⟨b, rv.bl_inv, q ρ1 b Hs1 H1 n r1 wd1⟩
theorem wt_et {b : Bool} {N : Env → Bool → Prop} (h : EvT K tt ρ b) (n : N ρ b) : WET K an tt ρ N := fun Hs0 H0 σ Hs H r Q q => h σ Hs H r.toRl Q fun Hs' H' g => q ρ b Hs' H' n (r.stay g) (.of g)
theorem wt_not {N : Env → Bool → Prop} (h : WET K an tt ρ fun ρ1 b => N ρ1 (!b)) : WET K an (tNot tt) ρ N := fun Hs0 H0 σ Hs H r Q q => h Hs0 H0 σ Hs H r _ fun ρ1 b Hs1 H1 n r1 wd1 => q ρ1 (!b) Hs1 H1 n r1 wd1
theorem wt_and {N : Env → Bool → Prop} (h : WET K an tt ρ fun ρ1 b => (b = true → WET K an tu ρ1 N) ∧ (b = false → N ρ1 false)) : WET K an (tAnd tt tu) ρ N := fun Hs0 H0 σ Hs H r Q q => h Hs0 H0 σ Hs H r _ fun ρ1 b Hs1 H1 ⟨h1, h2⟩ r1 wd1 => by
  cases b with
  | true =>
    show tu σ H1 Q
    exact h1 rfl Hs0 H0 σ Hs1 H1 r1 Q fun ρ' b Hs' H' n r' wd => q ρ' b Hs' H' n r' (wd1.trans wd)
  | false =>
    show Q false H1
    exact q ρ1 false Hs1 H1 (h2 rfl) r1 wd1
/-- and / or as values, the later parts may change objects -/
theorem we_andV (h : WE K an ta ρ fun ρ1 x => ∃ b, x = .bl b ∧ (b = true → WE K an tb ρ1 N) ∧ (b = false → N ρ1 (.bl false))) : WE K an (tAndV ta tb) ρ N := fun Hs0 H0 σ Hs H r Q q => h Hs0 H0 σ Hs H r _ fun ρ1 x v Hs1 H1 ⟨b, e, h1, h2⟩ r1 wd1 rv => by
  subst e
  refine ⟨b, rv.bl_inv, ?_⟩
  cases b with
  | true =>
    show tb σ H1 Q
    exact h1 rfl Hs0 H0 σ Hs1 H1 r1 Q fun ρ' d v Hs' H' n r' wd rv => q ρ' d v Hs' H' n r' (wd1.trans wd) rv
  | false =>
    show Q (.bl false) H1
    exact q ρ1 _ _ Hs1 H1 (h2 rfl) r1 wd1 (.bl false)
/-! targets -/
theorem wm_name {i : Nat} (h : M (ρ.set i (some (false, d)))) (hf : Free an [i] := by first | exact free_none | exact free_j (by decide)) : WM K an (gName i) d ρ M := fun Hs0 H0 σ Hs H v r rv Q q => q _ _ Hs H h (r.set rv fun a e => hf i (List.mem_singleton.mpr rfl) a e) (Ex.refl _)
theorem wms_nil (h : M ρ) : WMs K an gNil [] ρ M := fun Hs0 H0 σ Hs H vs r rv Q q => by
  cases rv
  exact ⟨rfl, q _ _ Hs H h r (Ex.refl _)⟩
theorem wms_cons {gs : TGs} {ds : List D} (h : WM K an g d ρ fun ρ' => WMs K an gs ds ρ' M) : WMs K an (gCons g gs) (d :: ds) ρ M := fun Hs0 H0 σ Hs H vs r rv Q q => by
  cases rv with
  | cons r1 r2 =>
    refine ⟨_, _, rfl, h Hs0 H0 σ Hs H _ r r1 _ fun ρ' σ' Hs' H' m r' e => ?_⟩
    exact m Hs0 H0 σ' Hs' H' _ r' (r2.mono e) Q fun ρ2 σ2 Hs2 H2 m2 r2 e2 => q ρ2 σ2 Hs2 H2 m2 r2 (e.trans e2)
theorem wm_tup {gs : TGs} {ds : List D} {n : Nat} (hn : ds.length = n) (h : WMs K an gs ds ρ M) : WM K an (gTup K n gs) (.tup ds) ρ M := fun Hs0 H0 σ Hs H v r rv Q q => by
  obtain ⟨a, xs, rfl, ha, rl⟩ := rv.tup_inv
  exact ⟨a, xs, rfl, SqT.of (r.ex _ _ ha), by rw [rl.len]; exact hn, h Hs0 H0 σ Hs H xs r rl Q q⟩
/-- xs of a list of that length: names -/
theorem ws_asgW (he : WE K an te ρ fun ρ1 d => WM K an g d ρ1 M) : WS K an (tAsg te g) ρ M R := fun Hs0 H0 σ Hs H r Dn n q =>
  he Hs0 H0 σ Hs H r _ fun ρ1 d v Hs1 H1 w r1 wd rv => w Hs0 H0 σ Hs1 H1 v r1 rv _ fun ρ2 σ2 Hs2 H2 m r2 e2 => n ρ2 σ2 Hs2 H2 m r2 (wd.go.s.trans e2)
theorem ws_asgM (he : Ev K te ρ d) (hg : WM K an g d ρ M) : WS K an (tAsg te g) ρ M R := ws_asgW (we_ev he hg)
theorem ws_setW {i : Nat} (he : WE K an te ρ fun ρ1 d => M (ρ1.set i (some (false, d)))) (hf : Free an [i] := by first | exact free_none | exact free_j (by decide)) : WS K an (tAsg te (gName i)) ρ M R := ws_asgW (we_mono he fun ρ1 d h => wm_name h hf)
theorem ws_retW (he : WE K an te ρ R) : WS K an (tRet te) ρ M R := fun Hs0 H0 σ Hs H r Dn n q => he Hs0 H0 σ Hs H r _ fun ρ1 d v Hs1 H1 w r1 wd rv => q ρ1 d v σ Hs1 H1 w r1 rv
theorem ws_dropW (he : WE K an te ρ fun ρ1 _ => M ρ1) : WS K an (tDrop te) ρ M R := fun Hs0 H0 σ Hs H r Dn n q => he Hs0 H0 σ Hs H r _ fun ρ1 d v Hs1 H1 w r1 wd rv => n ρ1 σ Hs1 H1 w r1 wd.go.s
theorem ws_ifW (h : WET K an tt ρ fun ρ1 b => (b = true → WS K an ts ρ1 M R) ∧ (b = false → WS K an tv ρ1 M R)) : WS K an (tIfS tt ts tv) ρ M R := fun Hs0 H0 σ Hs H r Dn n q =>
  h Hs0 H0 σ Hs H r _ fun ρ1 b Hs1 H1 ⟨h1, h2⟩ r1 wd1 => by
    cases b with
    | true =>
      show ts Dn σ H1
      exact h1 rfl Hs0 H0 σ Hs1 H1 r1 Dn (fun ρ2 σ2 Hs2 H2 w2 r2 e2 => n ρ2 σ2 Hs2 H2 w2 r2 (wd1.go.s.trans e2)) q
    | false =>
      show tv Dn σ H1
      exact h2 rfl Hs0 H0 σ Hs1 H1 r1 Dn (fun ρ2 σ2 Hs2 H2 w2 r2 e2 => n ρ2 σ2 Hs2 H2 w2 r2 (wd1.go.s.trans e2)) q
/-- a, b = e1, e2 with changes on the way -/
theorem ws_parW {i j : Nat} {tA : TA} (h : WEA K an tA ρ fun ρ1 ds => ∃ x y, ds = [x, y] ∧ M ((ρ1.set i (some (false, x))).set j (some (false, y)))) (hf : Free an [i, j] := by first | exact free_none | exact free_j (by decide)) : WS K an (tPar i j tA) ρ M R := fun Hs0 H0 σ Hs H r Dn n q =>
  h Hs0 H0 σ Hs H r _ fun ρ1 ds vs Hs1 H1 ⟨x, y, e, m⟩ r1 wd rs => by
    subst e
    cases rs with
    | cons q1 rs =>
      cases rs with
      | cons q2 rs =>
        cases rs
        exact ⟨_, _, rfl, n _ _ Hs1 H1 m ((r1.set q1 fun a => hf i (by simp) a).set q2 fun a => hf j (by simp) a) wd.go.s⟩
end

/-! ### an object of a slot told anew by a step that changes it -/
theorem Mt.far {K : PySem.W.Frag} {Hs H Hs' H' : Hp} {v : V} {d : D} {M : Addr → Prop} (m : Mt K Hs H v d) (g : Go M Hs H Hs' H') (hn : ∀ a, v = .ref a → ¬ M a) : Mt K Hs' H' v d := by
  have nw : ∀ {a : Addr} {o : HO}, Hs a = none → H a = some o → (∀ xs, o ≠ .tup xs) → Hs' a = none := fun {a o} h1 h2 ho => by
    cases q : Hs' a with
    | none => rfl
    | some u =>
      rcases g.n a (by rw [q]; simp) with z | z | ⟨xs, z⟩
      · exact absurd h1 z
      · rw [h2] at z; cases z
      · rw [h2] at z; exact absurd (Option.some.inj z) (ho xs)
  cases m with
  | lst h1 h2 r => exact .lst (nw h1 h2 (fun _ z => nomatch z)) (g.f _ _ h2 (hn _ rfl)) (r.mono g.s)
  | dK h1 h2 q r => exact .dK (nw h1 h2 (fun _ z => nomatch z)) (g.f _ _ h2 (hn _ rfl)) q (r.mono g.s)
  | dT h1 h2 q r => exact .dT (nw h1 h2 (fun _ z => nomatch z)) (g.f _ _ h2 (hn _ rfl)) q (r.mono g.s)
theorem Rel.chg {K : PySem.W.Frag} {an : An} {Hs0 H0 Hs H Hs' H' : Hp} {σ : L2.St} {ρ : Env} {i : Nat} {a : Addr} {x y : D} (r : Rel K an Hs0 H0 Hs H σ ρ) (hi : ρ[i]? = some (some (true, x))) (hv : σ[i]? = some (some (.ref a)))
    (g : Go (fun z => z = a) Hs H Hs' H') (hm : Mt K Hs' H' (.ref a) y) : Rel K an Hs0 H0 Hs' H' σ (ρ.set i (some (true, y))) ∧ Wd σ ρ (ρ.set i (some (true, y))) Hs H Hs' H' := by
  refine ⟨⟨⟨g.i, ?_, fun j k e e' b ne h1 h2 h3 h4 => ?_⟩, r.go.trans g fun p hp => ?_, r.anc, fun j e b h1 h2 => ?_⟩, ⟨g.weak fun b hb => ⟨i, x, hi, hb ▸ hv⟩, fun j e h => ?_⟩⟩
  · have l1 : σ.length = (ρ.set i (some (true, y))).length := by rw [List.length_set]; exact r.sl.length
    refine paired_of l1 fun j p z hp hz => ?_
    rcases set_get hz with ⟨q1, q2⟩ | ⟨q1, hz⟩
    · subst q1; subst q2
      rw [hv] at hp; cases hp
      exact hm
    · obtain ⟨p', hp', s⟩ := Paired.get' r.sl hz
      rw [hp] at hp'; cases hp'
      cases z with
      | none => cases p <;> trivial
      | some z =>
        obtain ⟨b, d'⟩ := z
        cases p with
        | none => cases b <;> exact s
        | some v' =>
          cases b with
          | false => exact Rp.mono g.s s
          | true => exact Mt.far s g fun c ec e => r.di j i d' x c q1 hz hi (by rw [hp, ec]) (by rw [hv, e])
  · have g1 : ∃ e, ρ[j]? = some (some (true, e)) := by
      rcases set_get h1 with ⟨q, _⟩ | ⟨_, g⟩
      · exact ⟨x, by rw [q]; exact hi⟩
      · exact ⟨e, g⟩
    have g2 : ∃ e, ρ[k]? = some (some (true, e)) := by
      rcases set_get h2 with ⟨q, _⟩ | ⟨_, g⟩
      · exact ⟨x, by rw [q]; exact hi⟩
      · exact ⟨e', g⟩
    obtain ⟨e1, g1⟩ := g1
    obtain ⟨e2, g2⟩ := g2
    exact r.di j k e1 e2 b ne g1 g2 h3 h4
  · cases hp
    rcases r.fr i x a hi hv with z | z
    · exact .inr z
    · exact .inl z
  · rcases set_get h1 with ⟨q, _⟩ | ⟨_, g⟩
    · rw [q] at h2
      exact r.fr i x b hi h2
    · exact r.fr j e b g h2
  · rcases set_get h with ⟨q, _⟩ | ⟨_, g⟩
    · exact ⟨x, by rw [q]; exact hi⟩
    · exact ⟨e, g⟩

/-! ### defs that change the object of a parameter -/
/-- the arguments: the j-th one is the object at a -/
inductive ArgM (K : PySem.W.Frag) (Hs : Hp) (a : Addr) (x : D) : Nat → List V → List D → Prop
  | here {vs : List V} {ds : List D} : RpL K Hs vs ds → ArgM K Hs a x 0 (.ref a :: vs) (x :: ds)
  | next {j : Nat} {v : V} {d : D} {vs : List V} {ds : List D} : Rp K Hs v d → ArgM K Hs a x j vs ds → ArgM K Hs a x (j + 1) (v :: vs) (d :: ds)
/-- F ds P: called with ds it may be that P m d: the object holds m then, and d comes back -/
def spM (K : PySem.W.Frag) (j : Nat) (F : List D → (D → D → Prop) → Prop) : Sp := fun vs H Q _ => ∃ ds P Hs a x, F ds P ∧ Ex Hs H ∧ ArgM K Hs a x j vs ds ∧ Mt K Hs H (.ref a) x ∧
  ∀ m d v Hs' H', P m d → Go (fun z => z = a) Hs H Hs' H' → Mt K Hs' H' (.ref a) m → Rp K Hs' v d → Q v H'
def env0M (n j : Nat) (ds : List D) : Env := ds.mapIdx (fun i d => some (decide (i = j), d)) ++ List.replicate (n - ds.length) none
section
variable {K : PySem.W.Frag} {F : List D → (D → D → Prop) → Prop} {ρ : Env} {an : An}
theorem ArgM.len {Hs : Hp} {a : Addr} {x : D} {j : Nat} {vs : List V} {ds : List D} (h : ArgM K Hs a x j vs ds) : vs.length = ds.length := by
  induction h with
  | here r => simp [r.len]
  | next _ _ ih => simp [ih]
theorem ArgM.lt {Hs : Hp} {a : Addr} {x : D} {j : Nat} {vs : List V} {ds : List D} (h : ArgM K Hs a x j vs ds) : vs[j]? = some (.ref a) ∧ ds[j]? = some x := by
  induction h with
  | here r => exact ⟨rfl, rfl⟩
  | next _ _ ih => simpa using ih
theorem ArgM.get {Hs : Hp} {a : Addr} {x : D} {j : Nat} {vs : List V} {ds : List D} (h : ArgM K Hs a x j vs ds) : ∀ {i : Nat} {v : V} {d : D}, vs[i]? = some v → ds[i]? = some d → (i = j ∧ v = .ref a ∧ d = x) ∨ (i ≠ j ∧ Rp K Hs v d) := by
  induction h with
  | @here vs ds r =>
    intro i v d h1 h2
    cases i with
    | zero =>
      simp at h1 h2
      exact .inl ⟨rfl, h1.symm, h2.symm⟩
    | succ i =>
      simp at h1 h2
      obtain ⟨d', h3, h4⟩ := r.getV h1
      rw [h2] at h3; cases h3
      exact .inr ⟨by omega, h4⟩
  | @next j v' d' vs ds r _ ih =>
    intro i v d h1 h2
    cases i with
    | zero =>
      simp at h1 h2
      subst h1; subst h2
      exact .inr ⟨by omega, r⟩
    | succ i =>
      simp at h1 h2
      rcases ih h1 h2 with ⟨e, z⟩ | ⟨e, z⟩
      · exact .inl ⟨by omega, z⟩
      · exact .inr ⟨by omega, z⟩
theorem env0M_rel {Hs H : Hp} {vs : List V} {ds : List D} {a : Addr} {x : D} {j : Nat} (N : List Str) (e : Ex Hs H) (r : ArgM K Hs a x j vs ds) (m : Mt K Hs H (.ref a) x) : Rel K (some (j, a)) Hs H Hs H (L2.start N vs) (env0M N.length j ds) := by
  obtain ⟨hj1, hj2⟩ := r.lt
  have hlen := r.len
  have mtb : ∀ (i : Nat) (d : D), (env0M N.length j ds)[i]? = some (some (true, d)) → i = j ∧ d = x := fun i d h => by
    unfold env0M at h
    by_cases hi : i < ds.length
    · rw [List.getElem?_append_left (by simpa using hi), List.getElem?_mapIdx] at h
      cases q : ds[i]? with
      | none => rw [q] at h; cases h
      | some d' =>
        rw [q] at h
        simp only [Option.map_some, Option.some.injEq, Prod.mk.injEq, decide_eq_true_eq] at h
        obtain ⟨h1, h2⟩ := h
        subst h1; subst h2
        rw [hj2] at q
        exact ⟨rfl, (Option.some.inj q).symm⟩
    · rw [List.getElem?_append_right (by simp; omega), List.getElem?_replicate] at h
      split at h <;> cases h
  have hjl : j < vs.length := (List.getElem?_eq_some_iff.mp hj1).1
  have st : (L2.start N vs)[j]? = some (some (.ref a)) := by
    unfold L2.start
    rw [List.getElem?_append_left (by simpa using hjl), List.getElem?_map, hj1]
    rfl
  refine ⟨⟨e, ?_, fun i k d d' b ne h1 h2 => ?_⟩, .refl e, fun i b q => ?_, fun i d b h1 h2 => ?_⟩
  · refine paired_of ?_ fun i p y hp hy => ?_
    · unfold L2.start env0M
      simp [hlen]
    · unfold L2.start at hp
      unfold env0M at hy
      by_cases hi : i < ds.length
      · rw [List.getElem?_append_left (by simpa using hi), List.getElem?_mapIdx] at hy
        rw [List.getElem?_append_left (by simpa [hlen] using hi), List.getElem?_map] at hp
        cases qd : ds[i]? with
        | none => rw [qd] at hy; cases hy
        | some d =>
          cases qv : vs[i]? with
          | none => rw [qv] at hp; cases hp
          | some v =>
            rw [qd] at hy; rw [qv] at hp
            cases hy; cases hp
            rcases r.get qv qd with ⟨e1, e2, e3⟩ | ⟨e1, e2⟩
            · subst e2; subst e3
              rw [show decide (i = j) = true from decide_eq_true e1]
              exact m
            · rw [show decide (i = j) = false from decide_eq_false e1]
              exact e2
      · rw [List.getElem?_append_right (by simp; omega), List.getElem?_replicate] at hy
        split at hy
        · cases hy; cases p <;> trivial
        · cases hy
  · exact absurd ((mtb i d h1).1.trans (mtb k d' h2).1.symm) ne
  · cases q; exact st
  · rw [(mtb i d h1).1, st] at h2
    cases h2
    exact .inr ⟨j, rfl⟩
theorem spM_run {ts : TS} {N : List Str} {vs : List V} {H : Hp} {Q : VK} {E : XK} {j : Nat} (h : spM K j F vs H Q E)
    (hw : ∀ a ds P, F ds P → WS K (some (j, a)) ts (env0M N.length j ds) (fun ρ' => ∃ m, ρ'[j]? = some (some (true, m)) ∧ P m .non) fun ρ' d => ∃ m, ρ'[j]? = some (some (true, m)) ∧ P m d) : ts { nx := fun _ H' => Q .non H', rt := Q } (L2.start N vs) H := by
  obtain ⟨ds, P, Hs, a, x, f, e, r, m, q⟩ := h
  have gg : ∀ {Hs' H' : Hp} {σ' : L2.St} {ρ' : Env}, Rel K (some (j, a)) Hs H Hs' H' σ' ρ' → Go (fun z => z = a) Hs H Hs' H' := fun r => r.go.weak fun b ⟨i, z⟩ => by cases z; rfl
  have mm : ∀ {Hs' H' : Hp} {σ' : L2.St} {ρ' : Env} {m' : D}, Rel K (some (j, a)) Hs H Hs' H' σ' ρ' → ρ'[j]? = some (some (true, m')) → Mt K Hs' H' (.ref a) m' := fun r h => by
    obtain ⟨v, h1, h2⟩ := r.slotM h
    rw [r.anc j a rfl] at h1
    cases h1
    exact h2
  refine hw a ds P f Hs H _ Hs H (env0M_rel N e r m) _ (fun ρ' σ' Hs' H' ⟨m', w1, w2⟩ r' _ => ?_) fun ρ' d' v σ' Hs' H' ⟨m', w1, w2⟩ r' rv => ?_
  · exact q m' .non .non Hs' H' w2 (gg r') (mm r' w1) .non
  · exact q m' d' v Hs' H' w2 (gg r') (mm r' w1) rv
theorem spM_len {vs : List V} {H : Hp} {Q : VK} {E : XK} {n j : Nat} (h : spM K j F vs H Q E) (hn : ∀ ds P, F ds P → ds.length = n) : vs.length = n := by
  obtain ⟨ds, P, Hs, a, x, f, e, r, m, q⟩ := h
  rw [r.len]
  exact hn ds P f
/-- arguments with the object of slot i at place j -/
def EvM (K : PySem.W.Frag) (ta : TA) (ρ : Env) (i j : Nat) (x : D) (ds : List D) : Prop := ∀ σ Hs H, Rl K Hs H σ ρ → ∀ a, σ[i]? = some (some (.ref a)) → ∀ Q : List V → Hp → Prop, (∀ vs Hs' H', Go N0 Hs H Hs' H' → ArgM K Hs' a x j vs ds → Q vs H') → ta σ H Q
theorem em_here {tr : TA} {i : Nat} {x : D} {ds : List D} (h : EvA K tr ρ ds) : EvM K (tCons (tVar i) tr) ρ i 0 x (x :: ds) := fun σ Hs H r a ha Q q => ⟨.ref a, ha, h σ Hs H r _ fun vs Hs' H' g rv => q _ Hs' H' g (.here rv)⟩
theorem em_next {ta : TE} {tr : TA} {i j : Nat} {x d : D} {ds : List D} (h : Ev K ta ρ d) (h2 : EvM K tr ρ i j x ds) : EvM K (tCons ta tr) ρ i (j + 1) x (d :: ds) := fun σ Hs H r a ha Q q =>
  h σ Hs H r _ fun v Hs1 H1 g1 rv => h2 σ Hs1 H1 (r.stay g1) a ha _ fun vs Hs2 H2 g2 rs => q _ Hs2 H2 (g1.trans0 g2) (.next (rv.mono g2.s) rs)
theorem we_callM {ta : TA} {i j : Nat} {x : D} {ds : List D} {P : D → D → Prop} {E : XK} {N : Env → D → Prop} (hi : ρ[i]? = some (some (true, x))) (ha : EvM K ta ρ i j x ds) (f : F ds P) (n : ∀ m d, P m d → N (ρ.set i (some (true, m))) d) :
    WE K an (tCall (spM K j F) [] E ta) ρ N := fun Hs0 H0 σ Hs H r Q q => by
  obtain ⟨v, hv, m⟩ := r.slotM hi
  obtain ⟨a, e, _, _⟩ := m.ref
  subst e
  refine ha σ Hs H r.toRl a hv _ fun vs Hs1 H1 g1 r1 => ⟨ds, P, Hs1, a, x, f, g1.i, by rw [List.append_nil]; exact r1, m.stay g1, fun m' d v Hs' H' hp g hm rv => ?_⟩
  obtain ⟨r', wd⟩ := (r.stay g1).chg hi hv g hm
  exact q _ d v Hs' H' (n m' d hp) r' ((Wd.of g1).trans wd) rv
/-- a new object handed in, and let go -/
theorem ev_callMN {te : TE} {tr : TA} {x d : D} {ds : List D} {P : D → D → Prop} {E : XK} (he : EvN K te ρ x) (ha : EvA K tr ρ ds) (f : F (x :: ds) P) (n : ∀ m e, P m e → e = d) : Ev K (tCall (spM K 0 F) [] E (tCons te tr)) ρ d := fun σ Hs H R Q q =>
  he σ Hs H R _ fun p Hs1 H1 g1 hp m => ha σ Hs1 H1 (R.stay g1) _ fun vs Hs2 H2 g2 r2 => ⟨x :: ds, P, Hs2, p, x, f, g2.i, by rw [List.append_nil]; exact .here r2, m.stay g2, fun m' e v Hs' H' pe g hm rv => by
    cases n m' e pe
    have g12 := g1.trans0 g2
    exact q v Hs' H' (g12.trans g fun z hz => .inr (by rw [hz]; exact hp)) rv⟩
end

/-! ### defs that give a new object -/
def spN (K : PySem.W.Frag) (F : List D → D → Prop) : Sp := fun vs H Q _ => ∃ ds d Hs, F ds d ∧ Ex Hs H ∧ RpL K Hs vs ds ∧ ∀ p Hs' H', Go N0 Hs H Hs' H' → H p = none → Mt K Hs' H' (.ref p) d → Q (.ref p) H'
/-- the statement gives a new object back -/
def WN (K : PySem.W.Frag) (ts : TS) (ρ : Env) (F : D → Prop) : Prop :=
  ∀ Hs0 H0 σ Hs H, Rel K none Hs0 H0 Hs H σ ρ → ∀ Dn : Ends, (∀ d p Hs' H', F d → Go N0 Hs0 H0 Hs' H' → H0 p = none → Mt K Hs' H' (.ref p) d → Dn.rt (.ref p) H') → ts Dn σ H
section
variable {K : PySem.W.Frag} {F : List D → D → Prop} {ρ : Env} {d : D} {te : TE} {tt : TT} {ts tu : TS}
theorem spN_len {vs : List V} {H : Hp} {Q : VK} {E : XK} {n : Nat} (h : spN K F vs H Q E) (hn : ∀ ds d, F ds d → ds.length = n) : vs.length = n := by
  obtain ⟨ds, d, Hs, f, _, r, _⟩ := h
  rw [r.len]
  exact hn ds d f
theorem spN_run {N : List Str} {vs : List V} {H : Hp} {Q : VK} {E : XK} (h : spN K F vs H Q E) (hw : ∀ ds d, F ds d → WN K ts (env0 N.length ds) fun d' => d' = d) : ts { nx := fun _ H' => Q .non H', rt := Q } (L2.start N vs) H := by
  obtain ⟨ds, d, Hs, f, e, r, q⟩ := h
  refine hw ds d f Hs H _ Hs H (env0_rel N e r) _ fun d' p Hs' H' w g hp m => ?_
  subst w
  exact q p Hs' H' g hp m
theorem go_none {Hs0 H0 Hs H : Hp} {σ : L2.St} (r : Rel K none Hs0 H0 Hs H σ ρ) : Go N0 Hs0 H0 Hs H := r.go.weak fun _ ⟨_, z⟩ => nomatch z
theorem wn_seq {F : D → Prop} (h : WS K none ts ρ (fun ρ' => WN K tu ρ' F) fun _ _ => False) : WN K (tSeq ts tu) ρ F := fun Hs0 H0 σ Hs H r Dn q =>
  h Hs0 H0 σ Hs H r { Dn with nx := tu Dn } (fun ρ' σ' Hs' H' w r' _ => w Hs0 H0 σ' Hs' H' r' Dn q) fun _ _ _ _ _ _ w => w.elim
theorem wn_ret {F : D → Prop} (he : EvN K te ρ d) (h : F d) : WN K (tRet te) ρ F := fun Hs0 H0 σ Hs H r Dn q =>
  he σ Hs H r.toRl _ fun p Hs' H' g hp m => q d p Hs' H' h ((go_none r).trans0 g) (go_free (go_none r) hp) m
theorem ev_callN {ta : TA} {ds : List D} {E : XK} (ha : EvA K ta ρ ds) (f : F ds d) : EvN K (tCall (spN K F) [] E ta) ρ d := fun σ Hs H R Q q =>
  ha σ Hs H R _ fun vs Hs1 H1 g1 r1 => ⟨ds, d, Hs1, f, g1.i, by rw [List.append_nil]; exact r1, fun p Hs' H' g hp m => q p Hs' H' (g1.trans0 g) (go_free g1 hp) m⟩
end
end J

/-! ## LayD -/
/-! The data layer: sources of any kind, comprehensions and loops over them, locked dicts. -/
namespace J
open PySem PySem.Spec PyProof.Rows L2
open Evl (Ex ex_rd ex_l ex_t)
/-- the source gives just l -/
structure Feeds (K : PySem.W.Frag) (J : It) (Hs : Hp) (l : List D) : Prop where
  go : ∀ (i : Nat) (d : D) (Hs' H' : Hp), l[i]? = some d → Ex Hs Hs' → Ex Hs' H' → J.go i H' ∧ ∀ x H3, J.yld i H' x H3 → ∃ Hs3, Go N0 Hs' H' Hs3 H3 ∧ Rp K Hs3 x d
  stop : ∀ (i : Nat) (Hs' H' : Hp), l.length ≤ i → Ex Hs Hs' → Ex Hs' H' → J.stop i H'
def EvI (K : PySem.W.Frag) (wi : TI) (ρ : Env) (l : List D) : Prop := ∀ σ Hs H, Rl K Hs H σ ρ → ∀ R : It → Hp → Prop, (∀ J Hs' H', Go N0 Hs H Hs' H' → Feeds K J Hs' l → R J H') → wi σ H R
def WEI (K : PySem.W.Frag) (an : An) (wi : TI) (ρ : Env) (N : Env → List D → Prop) : Prop :=
  ∀ Hs0 H0 σ Hs H, Rel K an Hs0 H0 Hs H σ ρ → ∀ R : It → Hp → Prop, (∀ ρ' l J Hs' H', N ρ' l → Rel K an Hs0 H0 Hs' H' σ ρ' → Wd σ ρ ρ' Hs H Hs' H' → Feeds K J Hs' l → R J H') → wi σ H R
def intsD (lo : Int) (n : Nat) : List D := (List.range n).map fun i : Nat => D.int (lo + (i : Int))
section
variable {K : PySem.W.Frag} {an : An} {ρ : Env} {js vs : List Nat} {l : List D} {te : TE} {tt : TT} {g : TG} {wi : TI}
theorem feeds_list {Hs H : Hp} {a : Addr} {xs : List V} (e : Ex Hs H) (ha : Hs a = some (.lst xs)) (r : RpL K Hs xs l) : Feeds K (Itl K a) Hs l where
  go := fun i d Hs' H' hd e1 e2 => by
    have h := e2 _ _ (e1 _ _ ha)
    obtain ⟨v, hv, rv⟩ := r.get hd
    refine ⟨⟨xs, v, SqL.of h, hv⟩, fun x H3 ⟨e3, hx⟩ => ?_⟩
    subst e3
    have := hx xs (SqL.of h)
    rw [hv] at this
    cases this
    exact ⟨Hs', .refl e2, rv.mono e1⟩
  stop := fun i Hs' H' hl e1 e2 => ⟨xs, SqL.of (e2 _ _ (e1 _ _ ha)), by rw [r.len]; exact hl⟩
theorem feeds_range {Hs : Hp} (lo : Int) (n : Nat) : Feeds K (Itr lo n) Hs (intsD lo n) where
  go := fun i d Hs' H' hd e1 e2 => by
    unfold intsD at hd
    rw [List.getElem?_map, Option.map_eq_some_iff] at hd
    obtain ⟨j, hj, e⟩ := hd
    obtain ⟨h1, h2⟩ := List.getElem?_eq_some_iff.mp hj
    rw [List.getElem_range] at h2
    subst h2
    subst e
    refine ⟨(by have : i < n := by simpa using h1
                exact this), fun x H3 hx => ?_⟩
    obtain ⟨e3, e4⟩ := hx
    subst e3
    subst e4
    exact ⟨Hs', .refl e2, .int _⟩
  stop := fun i Hs' H' hl e1 e2 => by
    unfold intsD at hl
    rw [List.length_map, List.length_range] at hl
    exact hl
theorem ei_list {tl : TE} (h : Ev K tl ρ (.lst l)) : EvI K (iList K tl) ρ l := fun σ Hs H R Q q => h σ Hs H R _ fun v Hs1 H1 g1 rv => by
  obtain ⟨a, xs, rfl, ha, rl⟩ := rv.lst_inv
  exact ⟨a, rfl, ⟨xs, SqL.of (g1.i _ _ ha)⟩, q _ Hs1 H1 g1 (feeds_list g1.i ha rl)⟩
theorem ei_rng1 {ta : TA} {n : Int} (h : EvA K ta ρ [.int n]) (h1 : n ≤ 100000000) (h2 : -100000000 ≤ n) : EvI K (iRng1 ta) ρ (intsD 0 n.toNat) := fun σ Hs H R Q q => h σ Hs H R _ fun vs Hs1 H1 g1 rv => by
  cases rv with
  | cons r1 r2 =>
    cases r2
    cases r1
    exact ⟨n, rfl, by omega, by omega, q _ Hs1 H1 g1 (feeds_range 0 _)⟩
theorem ei_rng2 {ta : TA} {m n : Int} (h : EvA K ta ρ [.int m, .int n]) (h1 : n ≤ 100000000) (h2 : -100000000 ≤ n) (h3 : m ≤ 100000000) (h4 : -100000000 ≤ m) : EvI K (iRng2 ta) ρ (intsD m (n - m).toNat) := fun σ Hs H R Q q => h σ Hs H R _ fun vs Hs1 H1 g1 rv => by
  cases rv with
  | cons r1 r2 =>
    cases r2 with
    | cons r2 r3 =>
      cases r3
      cases r1
      cases r2
      exact ⟨m, n, rfl, ⟨by omega, by omega, by omega, by omega⟩, q _ Hs1 H1 g1 (feeds_range m _)⟩
theorem wei_ev {N : Env → List D → Prop} (h : EvI K wi ρ l) (n : N ρ l) : WEI K an wi ρ N := fun Hs0 H0 σ Hs H r R q => h σ Hs H r.toRl R fun J Hs' H' g f => q ρ l J Hs' H' n (r.stay g) (.of g) f
theorem wei_rng1 {ta : TA} {N : Env → List D → Prop} (h : WEA K an ta ρ fun ρ1 ds => ∃ n : Int, ds = [.int n] ∧ n ≤ 100000000 ∧ -100000000 ≤ n ∧ N ρ1 (intsD 0 n.toNat)) : WEI K an (iRng1 ta) ρ N := fun Hs0 H0 σ Hs H r R q =>
  h Hs0 H0 σ Hs H r _ fun ρ1 ds vs Hs1 H1 ⟨n, e, h1, h2, w⟩ r1 wd rv => by
    subst e
    cases rv with
    | cons q1 q2 =>
      cases q2
      cases q1
      exact ⟨n, rfl, by omega, by omega, q ρ1 _ _ Hs1 H1 w r1 wd (feeds_range 0 _)⟩

/-! ### comprehensions, nothing changed on the way -/
theorem lcJ {σ : L2.St} {Hs1 H1 : Hp} {J : It} {Dl : Addr} {Qd : Hp → Prop} (p : D → Bool) (f : D → D) (R1 : Rl K Hs1 H1 σ ρ) (F : Feeds K J Hs1 l) (hl : l.length < sizeLine) (hj : ∀ j ∈ js, j ∈ vs)
    (ht : ∀ d, d ∈ l → WG K js g d (wipeE ρ vs) fun ρ' => EvT K tt ρ' (p d) ∧ (p d = true → Ev K te ρ' (f d))) (hD : H1 Dl = none)
    (q : ∀ Hs' H' acc, Go N0 Hs1 H1 Hs' H' → Hs' Dl = none → H' Dl = some (.lst acc) → RpL K Hs' acc (pick p f l) → Qd H') :
    ∃ W : Nat → Nat → Hp → Prop, (∃ m, W 0 m (upd H1 Dl (.lst []))) ∧ ∀ i m H, W i m H →
      (J.stop i H ∧ Qd H) ∨ (J.go i H ∧ ∃ Nx : Hp → Prop, (∀ H', Nx H' → ∃ m', m' < m ∧ W (i + 1) m' H') ∧ ∀ x H', J.yld i H x H' → g x (wipe σ vs) H' fun σ2 H2 => wipe σ2 vs = wipe σ vs ∧ tt σ2 H2 fun b H3 =>
        if b = true then te σ2 H3 fun y H4 => ∃ acc, H4 Dl = some (.lst acc) ∧ acc.length < sizeLine ∧ Nx (upd H4 Dl (.lst (acc ++ [y]))) else Nx H3) := by
  refine ⟨fun i m H' => m = l.length - i ∧ i ≤ l.length ∧ ∃ Hs' acc, Go N0 Hs1 H1 Hs' H' ∧ Hs' Dl = none ∧ H' Dl = some (.lst acc) ∧ RpL K Hs' acc (pick p f (l.take i)), ⟨l.length, rfl, Nat.zero_le _, Hs1, [], .newM R1.ex hD, ex_free R1.ex hD, upd_same, .nil⟩, ?_⟩
  rintro i m H' ⟨rfl, hi, Hs', acc, g2, hn, hDl, ra⟩
  by_cases hlt : i < l.length
  · have hd' : l[i]? = some l[i] := List.getElem?_eq_getElem hlt
    obtain ⟨jg, jy⟩ := F.go i _ Hs' H' hd' g2.s g2.i
    refine .inr ⟨jg, fun H'' => i + 1 ≤ l.length ∧ ∃ Hs'' acc, Go N0 Hs1 H1 Hs'' H'' ∧ Hs'' Dl = none ∧ H'' Dl = some (.lst acc) ∧ RpL K Hs'' acc (pick p f (l.take (i + 1))), fun H'' h => ⟨l.length - (i + 1), by omega, rfl, h⟩, fun x Hx hx => ?_⟩
    obtain ⟨Hs3, g3, rx⟩ := jy x Hx hx
    have keepN : ∀ {Hsa Ha Hsb Hb : Hp}, Go N0 Hsa Ha Hsb Hb → Hsa Dl = none → Ha Dl = some (.lst acc) → Hsb Dl = none := fun {Hsa Ha Hsb Hb} g4 h1 h2 => by
      cases z : Hsb Dl with
      | none => rfl
      | some o =>
        rcases g4.n Dl (by rw [z]; simp) with k | k | ⟨ys, k⟩
        · exact absurd h1 k
        · rw [h2] at k; cases k
        · rw [h2] at k; cases k
    have hn3 := keepN g3 hn hDl
    have hDl3 := g3.ex _ _ hDl
    have ra3 := ra.mono g3.s
    have g23 := g2.trans0 g3
    refine ht _ (List.mem_of_getElem? hd') _ Hs3 Hx x ((R1.stay g23).wipe vs) rx _ fun ρ2 σ2 ⟨w1, w2⟩ R2 t => ⟨wipe_eq t.len fun k hk => t.same k fun z => hk (hj k z), ?_⟩
    refine w1 σ2 Hs3 Hx R2 _ fun Hs4 H4 g4 => ?_
    have hn4 := keepN g4 hn3 hDl3
    have hDl4 := g4.ex _ _ hDl3
    cases hp : p l[i] with
    | true =>
      show te σ2 H4 _
      refine w2 hp σ2 Hs4 H4 (R2.stay g4) _ fun y Hs5 H5 g5 ry => ?_
      have hDl5 : H5 Dl = some (.lst acc) := g5.ex _ _ hDl4
      have hn5 := keepN g5 hn4 hDl4
      refine ⟨acc, hDl5, ?_, hlt, Hs5, acc ++ [y], ?_, hn5, upd_same, ?_⟩
      · have e1 := ra.len
        have e2 : (pick p f (l.take i)).length ≤ i := by
          unfold pick
          rw [List.length_map]
          exact Nat.le_trans (List.length_filter_le _ _) (by rw [List.length_take]; omega)
        omega
      · have gw : Go (fun z => z = Dl) Hs5 H5 Hs5 (upd H5 Dl (.lst (acc ++ [y]))) := .write g5.i hn5 (by rw [hDl5]; simp) (fun _ z => nomatch z)
        refine (g23.trans0 (g4.trans0 g5)).trans gw fun z e => .inr ?_
        rw [e]; exact hD
      · rw [pick_snoc p f hd', hp]
        exact (ra3.mono (g4.s.trans g5.s)).snoc ry
    | false =>
      show i + 1 ≤ l.length ∧ ∃ Hs'' acc, _
      refine ⟨hlt, Hs4, acc, g23.trans0 g4, hn4, hDl4, ?_⟩
      rw [pick_snoc p f hd', hp]
      simpa using ra3.mono g4.s
  · have : i = l.length := by omega
    subst this
    rw [List.take_length] at ra
    exact .inl ⟨F.stop _ Hs' H' (Nat.le_refl _) g2.s g2.i, q Hs' H' acc g2 hn hDl ra⟩
theorem en_lcI (p : D → Bool) (f : D → D) (h : EvI K wi ρ l) (hl : l.length < sizeLine) (hj : ∀ j ∈ js, j ∈ vs)
    (ht : ∀ d, d ∈ l → WG K js g d (wipeE ρ vs) fun ρ' => EvT K tt ρ' (p d) ∧ (p d = true → Ev K te ρ' (f d))) : EvN K (tLc wi g tt te vs) ρ (.lst (pick p f l)) := fun σ Hs H R Q q =>
  h σ Hs H R _ fun J Hs1 H1 g1 F Dl hD => lcJ p f (R.stay g1) F hl hj ht hD fun Hs' H' acc g2 hn hDl ra => q Dl Hs' H' (g1.trans0 g2) (go_free g1 hD) (.lst hn hDl ra)
theorem et_yes : EvT K tYes ρ true := fun σ Hs H R Q q => q Hs H (.refl R.ex)

/-! ### two clauses -/
theorem pick_app (p : D → Bool) (f : D → D) (l m : List D) : pick p f (l ++ m) = pick p f l ++ pick p f m := by unfold pick; rw [List.filter_append, List.map_append]
/-- [e for x in xs for y in ys if t], without a test behind the first clause -/
theorem en_lc2 (nm : ∀ (i : Nat) (d : D), ρ[i]? ≠ some (some (true, d))) {js1 vs1 : List Nat} {wi1 : TI} {g1 : TG} {tt1 : TT} (m : D → List D) (p : D → D → Bool) (f : D → D → D) (h : EvI K wi ρ l) (hl : ∀ k, ((l.take k).flatMap fun d => pick (p d) (f d) (m d)).length + 1000 < sizeLine) (hm : ∀ d ∈ l, (m d).length < 1000) (hj : ∀ j ∈ js, j ∈ vs) (hj1 : ∀ j ∈ js1, j ∈ vs1)
    (ht : ∀ d, d ∈ l → WG K js g d (wipeE ρ vs) fun ρ1 => EvI K wi1 ρ1 (m d) ∧ ∀ e, e ∈ m d → WG K js1 g1 e (wipeE ρ1 vs1) fun ρ2 => EvT K tt1 ρ2 (p d e) ∧ (p d e = true → Ev K te ρ2 (f d e))) :
    EvN K (tLc2 wi g tYes wi1 g1 tt1 te vs vs1) ρ (.lst (l.flatMap fun d => pick (p d) (f d) (m d))) := fun σ Hs H R Q q =>
  h σ Hs H R _ fun J Hs1 H1 g1' F Dl hD => by
    have R1 := R.stay g1'
    refine ⟨fun i mm H' => mm = l.length - i ∧ i ≤ l.length ∧ ∃ Hs' acc, Go N0 Hs1 H1 Hs' H' ∧ Hs' Dl = none ∧ H' Dl = some (.lst acc) ∧ RpL K Hs' acc ((l.take i).flatMap fun d => pick (p d) (f d) (m d)), ⟨l.length, rfl, Nat.zero_le _, Hs1, [], .newM R1.ex hD, ex_free R1.ex hD, upd_same, .nil⟩, ?_⟩
    rintro i mm H' ⟨rfl, hi, Hs', acc, g2, hn, hDl, ra⟩
    by_cases hlt : i < l.length
    · have hd' : l[i]? = some l[i] := List.getElem?_eq_getElem hlt
      have hdm := List.mem_of_getElem? hd'
      obtain ⟨jg, jy⟩ := F.go i _ Hs' H' hd' g2.s g2.i
      have tk : l.take (i + 1) = l.take i ++ [l[i]] := by rw [List.take_add_one, hd']; rfl
      refine .inr ⟨jg, fun H'' => i + 1 ≤ l.length ∧ ∃ Hs'' acc, Go N0 Hs1 H1 Hs'' H'' ∧ Hs'' Dl = none ∧ H'' Dl = some (.lst acc) ∧ RpL K Hs'' acc ((l.take (i + 1)).flatMap fun d => pick (p d) (f d) (m d)), fun H'' h => ⟨l.length - (i + 1), by omega, rfl, h⟩, fun x Hx hx => ?_⟩
      obtain ⟨Hs3, g3, rx⟩ := jy x Hx hx
      have keepN : ∀ {acc : List V} {Hsa Ha Hsb Hb : Hp}, Go N0 Hsa Ha Hsb Hb → Hsa Dl = none → Ha Dl = some (.lst acc) → Hsb Dl = none := fun {acc Hsa Ha Hsb Hb} g4 h1 h2 => by
        cases z : Hsb Dl with
        | none => rfl
        | some o =>
          rcases g4.n Dl (by rw [z]; simp) with k | k | ⟨ys, k⟩
          · exact absurd h1 k
          · rw [h2] at k; cases k
          · rw [h2] at k; cases k
      have hn3 := keepN g3 hn hDl
      have hDl3 := g3.ex _ _ hDl
      have ra3 := ra.mono g3.s
      have g23 := g2.trans0 g3
      refine ht _ hdm _ Hs3 Hx x ((R1.stay g23).wipe vs) rx _ fun ρ2 σ2 ⟨w1, w2⟩ R2 t => ⟨wipe_eq t.len fun k hk => t.same k fun z => hk (hj k z), ?_⟩
      show wi1 σ2 Hx _
      refine w1 σ2 Hs3 Hx R2 _ fun J1 Hs4 H4 g4 F1 => ?_
      have hn4 := keepN g4 hn3 hDl3
      have hDl4 := g4.ex _ _ hDl3
      have R4 := R2.stay g4
      have ra4 := ra3.mono g4.s
      have g14 := g23.trans0 g4
      -- the inner loop
      refine ⟨fun j k Hj => k = (m l[i]).length - j ∧ j ≤ (m l[i]).length ∧ ∃ Hs5 acc, Go (fun z => z = Dl) Hs4 H4 Hs5 Hj ∧ Go N0 Hs1 H1 Hs5 Hj ∧ Hs5 Dl = none ∧ Hj Dl = some (.lst acc) ∧ RpL K Hs5 acc (((l.take i).flatMap fun d => pick (p d) (f d) (m d)) ++ pick (p l[i]) (f l[i]) ((m l[i]).take j)), ⟨_, rfl, Nat.zero_le _, Hs4, acc, .refl g4.i, g14, hn4, hDl4, by simpa [pick] using ra4⟩, ?_⟩
      rintro j k Hj ⟨rfl, hj', Hs5, acc5, gl, g5, hn5, hDl5, ra5⟩
      have R5 : Rl K Hs5 Hj σ2 ρ2 := by
        refine ⟨gl.i, paired_of R4.sl.length fun i' u y hu hy => ?_, R4.di⟩
        obtain ⟨u', hu', s⟩ := Paired.get' R4.sl hy
        rw [hu] at hu'
        cases hu'
        cases y with
        | none => cases u <;> trivial
        | some y =>
          obtain ⟨b, d'⟩ := y
          cases u with
          | none => cases b <;> exact s
          | some v' =>
            cases b with
            | false => exact Rp.mono gl.s s
            | true => exact absurd (wipeE_get (t.kp _ _ hy).2).2 (nm _ _)
      by_cases hjl : j < (m l[i]).length
      · have he' : (m l[i])[j]? = some (m l[i])[j] := List.getElem?_eq_getElem hjl
        obtain ⟨jg1, jy1⟩ := F1.go j _ Hs5 Hj he' gl.s gl.i
        refine .inr ⟨jg1, fun Hk => j + 1 ≤ (m l[i]).length ∧ ∃ Hs6 acc, Go (fun z => z = Dl) Hs4 H4 Hs6 Hk ∧ Go N0 Hs1 H1 Hs6 Hk ∧ Hs6 Dl = none ∧ Hk Dl = some (.lst acc) ∧ RpL K Hs6 acc (((l.take i).flatMap fun d => pick (p d) (f d) (m d)) ++ pick (p l[i]) (f l[i]) ((m l[i]).take (j + 1))), fun Hk h => ⟨(m l[i]).length - (j + 1), by omega, rfl, h⟩, fun y Hy hy => ?_⟩
        obtain ⟨Hs6, g6, ry⟩ := jy1 y Hy hy
        have R6 := R5.stay g6
        refine w2 _ (List.mem_of_getElem? he') _ Hs6 Hy y (R6.wipe vs1) ry _ fun ρ3 σ3 ⟨z1, z2⟩ R3 t1 => ⟨wipe_eq t1.len fun k hk => t1.same k fun z => hk (hj1 k z), ?_⟩
        have hn6 := keepN g6 hn5 hDl5
        have hDl6 := g6.ex _ _ hDl5
        refine z1 σ3 Hs6 Hy R3 _ fun Hs7 H7 g7 => ?_
        have hn7 := keepN g7 hn6 hDl6
        have hDl7 := g7.ex _ _ hDl6
        have ra7 := ra5.mono (g6.s.trans g7.s)
        have gg := g5.trans0 (g6.trans0 g7)
        have gl7 : Go (fun z => z = Dl) Hs4 H4 Hs7 H7 := gl.trans (g6.trans0 g7) fun _ q => q.elim
        cases hp : p l[i] (m l[i])[j] with
        | true =>
          show te σ3 H7 _
          refine z2 hp σ3 Hs7 H7 (R3.stay g7) _ fun v8 Hs8 H8 g8 r8 => ?_
          have hn8 := keepN g8 hn7 hDl7
          have hDl8 := g8.ex _ _ hDl7
          have gw : Go (fun z => z = Dl) Hs8 H8 Hs8 (upd H8 Dl (.lst (acc5 ++ [v8]))) := .write g8.i hn8 (by rw [hDl8]; simp) (fun _ z => nomatch z)
          refine ⟨acc5, hDl8, ?_, hjl, Hs8, acc5 ++ [v8], (gl7.trans g8 fun _ q => q.elim).trans gw fun z e => .inl e, (gg.trans0 g8).trans gw fun z e => .inr (by rw [e]; exact hD), hn8, upd_same, ?_⟩
          · have e1 := ra5.len
            rw [List.length_append] at e1
            have e2 : (pick (p l[i]) (f l[i]) ((m l[i]).take j)).length ≤ j := by
              unfold pick
              rw [List.length_map]
              exact Nat.le_trans (List.length_filter_le _ _) (by rw [List.length_take]; omega)
            have e3 := hl i
            have e4 := hm _ hdm
            omega
          · rw [pick_snoc (p l[i]) (f l[i]) he', hp, ← List.append_assoc]
            exact (ra7.mono g8.s).snoc r8
        | false =>
          show j + 1 ≤ (m l[i]).length ∧ ∃ Hs6 acc, _
          refine ⟨hjl, Hs7, acc5, gl7, gg, hn7, hDl7, ?_⟩
          rw [pick_snoc (p l[i]) (f l[i]) he', hp]
          simpa using ra7
      · have ej : j = (m l[i]).length := by omega
        subst ej
        refine .inl ⟨F1.stop _ Hs5 Hj (Nat.le_refl _) gl.s gl.i, hlt, Hs5, acc5, g5, hn5, hDl5, ?_⟩
        rw [List.take_length] at ra5
        rw [tk, List.flatMap_append]
        simpa using ra5
    · have : i = l.length := by omega
      subst this
      rw [List.take_length] at ra
      exact .inl ⟨F.stop _ Hs' H' (Nat.le_refl _) g2.s g2.i, q Dl Hs' H' (g1'.trans0 g2) (go_free g1' hD) (.lst hn hDl ra)⟩
end
end J

/-! ## RuA -/
/-! Rules that the layer lacks: dicts of pairs with tuple keys, two stores at once. -/
namespace J
open PySem PySem.Spec PyProof.Rows L2
section
variable {X : Cx}
/-- d[k] = v as a target -/
def rSetD : V → V → V → Hp → (Hp → Prop) → Prop := fun o i v H Q => ∃ a H4, o = .ref a ∧ DPut H a i v H4 ∧ Q H4
theorem set_dict (hu : X.A.units + 1 < cLine) : PSet X rSetD := by
  intro pins s σ H o i v ov iv u Q I ro ri rv h
  obtain ⟨a, H4, rfl, g, q⟩ := h
  obtain rfl : ov = Value.ref a := ro
  exact d_setItem hu I g ri rv fun s4 I4 => ⟨H4, I4, q⟩
/-- pairs (a tuple key, a value) -/
theorem pairsT_of {pins : List (Addr × Obj)} {σ : L2.St} {H : Hp} {s : Shared} (I : Inv X pins σ H s) : ∀ {ps : List Addr} {kts : List (List Key × Addr × V)}, Paired (fun p (kt : List Key × Addr × V) => SqT X.K H p [.ref kt.2.1, kt.2.2] ∧ H kt.2.1 = some (.tup (kt.1.map kV))) ps kts →
    ∃ xs : List (List Key × Addr × Value), Paired (fun (p : List Key × V) (q : List Key × Addr × Value) => p.1 = q.1 ∧ H q.2.1 = some (.tup (p.1.map kV)) ∧ RelV p.2 q.2.2) (kts.map fun x => (x.1, x.2.2)) xs ∧ xs.length = ps.length ∧ xs.map (·.1) = kts.map (·.1) ∧
      ∀ (j : Nat) (q : List Key × Addr × Value), xs[j]? = some q → ∃ b, ps[j]? = some b ∧ IsTup s.heap b #[.ref q.2.1, q.2.2] ∧ H q.2.1 = some (.tup (q.1.map kV))
  | _, _, .nil => ⟨[], .nil, rfl, rfl, fun j q e => by simp at e⟩
  | _, _, .cons (a := p) (b := kt) h t => by
    obtain ⟨xs, r, hl, hk, hp⟩ := pairsT_of I t
    obtain ⟨h1, h2⟩ := h
    obtain ⟨its, rv, ht, _⟩ := I.tuple h1
    obtain ⟨u, y, ei, ru, ry⟩ := vals2 rv
    subst ei
    obtain rfl : u = Value.ref kt.2.1 := ru
    refine ⟨(kt.1, kt.2.1, y) :: xs, .cons ⟨rfl, h2, ry⟩ r, by rw [List.length_cons, List.length_cons, hl], by rw [List.map_cons, List.map_cons, hk], fun j q e => ?_⟩
    cases j with
    | zero =>
      have e' : (kt.1, kt.2.1, y) = q := Option.some.inj e
      subst e'
      exact ⟨p, rfl, ht, h2⟩
    | succ j =>
      obtain ⟨b, e1, e2, e3⟩ := hp j q (by simpa using e)
      exact ⟨b, by simpa using e1, e2, e3⟩
def rDictPT (K : PySem.W.Frag) : List V → Hp → VK → Prop := fun xs H Q => ∃ (a : Addr) (ps : List Addr) (kts : List (List Key × Addr × V)), xs = [.ref a] ∧ SqL K H a (ps.map V.ref) ∧
    Paired (fun p (kt : List Key × Addr × V) => SqT K H p [.ref kt.2.1, kt.2.2] ∧ H kt.2.1 = some (.tup (kt.1.map kV))) ps kts ∧ (kts.map (·.1)).Nodup ∧
    ∀ p, H p = none → Q (.ref p) (upd H p (.dT (kts.map fun x => (x.1, x.2.2))))
theorem call_dictPT (hcalm : X.calm = true) {k : Nat} (hr : Room k X.A) : CallR X (.type "dict") (rDictPT X.K) := by
  intro pins s σ H xs us Q I r q
  obtain ⟨a, ps, kts, ex, hq, hp, nd, q⟩ := q
  subst ex
  obtain ⟨u, eu, rx⟩ := vals1 r
  subst eu
  cases rx
  obtain ⟨its, rv, pl, hz⟩ := I.list hq
  have ei := refs_at rv
  subst ei
  rw [List.length_map] at hz
  obtain ⟨zs, rel, hl, hk, hpr⟩ := pairsT_of I hp
  obtain ⟨o, n, ho, hc, hd, hdat⟩ := pl
  have hroom : X.A.in1.in1.units < cLine := by
    have := hr.un
    show X.A.units + 1 + 1 < cLine
    omega
  have key : ∀ x ∈ zs, H x.2.1 = some (.tup (x.1.map kV)) := fun x hx => by
    obtain ⟨j, hj, e⟩ := List.mem_iff_getElem.mp hx
    obtain ⟨b, _, _, h3⟩ := hpr j x (by rw [List.getElem?_eq_getElem hj, e])
    exact h3
  have keyO : ∀ x ∈ zs, ∃ o items n, s.heap.get? x.2.1 = some o ∧ o.cls = .type "tuple" ∧ o.data = .seq items n ∧ (tupleKind (mixKind X.prog X.w)).is s.heap x.1 x.2.1 := fun x hx => by
    have h1 := key_of I.hok (key x hx)
    obtain ⟨o, items, n, e1, e2, e3, _⟩ := id h1
    exact ⟨o, items, n, e1, e2, e3, h1⟩
  refine call_dict_pairsH (knd := tupleKind (mixKind X.prog X.w)) (ps := zs) (wr := []) (PairArg.list a (ps.map Value.ref).toArray (fun j => ps.getD j 0) (zs.map fun x => (Value.ref x.2.1, x.2.2))) (I.ok.hd hcalm) hroom
    ⟨⟨o, n, ho, hc, hd, hdat⟩, by simp [hl], fun j k v e => ?_⟩ ⟨by simp, fun i kk v e => ?_⟩ (fun h' hkp x hx => ?_) (by rw [List.length_map, hl]; exact hz) fun h' tk hd' hkp => ?_
  · rw [List.getElem?_map, Option.map_eq_some_iff] at e
    obtain ⟨x, e1, e2⟩ := e
    obtain ⟨b, e3, e4, _⟩ := hpr j x e1
    cases e2
    obtain ⟨ot, n', g1, g2, g3⟩ := e4
    refine ⟨by simp [e3], .inl ⟨ot, ?_⟩⟩
    simp only [List.getD_eq_getElem?_getD, e3, Option.getD_some]
    exact ⟨n', g1, g2, g3⟩
  · have e' : (zs.map fun x => (Value.ref x.2.1, x.2.2))[i]? = some (kk, v) := e
    rw [List.getElem?_map, Option.map_eq_some_iff] at e'
    obtain ⟨x, e1, e2⟩ := e'
    cases e2
    exact ⟨x.1, x.2.1, e1, rfl⟩
  · obtain ⟨ok, items, n', e1, e2, e3, e4⟩ := keyO x hx
    obtain ⟨ok', items', n'', f1, f2, f3, f4⟩ := e4
    exact ⟨ok', items', n'', hkp _ _ (Nat.ne_of_lt (Heap.lt_size f1)) (by simp) f1, f2, f3, f4⟩
  · have hm : (s.heap.objs.size == sysModules) = false := beq_eq_false_iff_ne.mpr (Nat.ne_of_gt I.big)
    have hst : storedAllH [] zs = zs := storedAllH_nil_of_nodup zs (by rw [hk]; exact nd)
    rw [hst] at hd'
    have hlen : (kts.map fun x => (x.1, x.2.2)).length ≤ sizeLine := by
      have := Paired.length rel
      rw [this, hl]
      exact hz
    have k0 : ∀ b o, s.heap.get? b = some o → h'.get? b = some o := fun b o e => hkp b o (by simp) e
    have hn := I.hok.fresh (Nat.le_refl s.heap.objs.size)
    refine ⟨.ref s.heap.objs.size, upd H s.heap.objs.size (.dT (kts.map fun x => (x.1, x.2.2))), I.laid (t' := tk) k0 (Nat.le_refl _) ?_, rfl, q _ hn⟩
    obtain ⟨od, es, ep, d1, d2, d3, d4, _, d6⟩ := hd'
    refine ⟨hlen, hm, zs, Paired.mapP rel fun p q z => ⟨z.1, ?_, z.2.2⟩, od, es, ep, d1, d2, d3, d4, d6⟩
    rw [upd_ne (ne_of_none z.2.1 hn)]
    exact z.2.1
end
end J

/-! ## LayE -/
/-! The data layer: comprehensions with changes, locked dicts, targets in dicts. -/
namespace J
open PySem PySem.Spec PyProof.Rows L2
open Evl (Ex ex_rd ex_l ex_t)
section
variable {K : PySem.W.Frag} {an : An} {ρ ρ' : Env} {js vs : List Nat} {l : List D} {te tb : TE} {tt : TT} {g : TG} {wi : TI} {Hs0 H0 Hs H Hs' H' : Hp} {σ σ' : L2.St} {d x : D} {M : Env → Prop} {R : Env → D → Prop}
theorem Rel.wipe (r : Rel K an Hs0 H0 Hs H σ ρ) (hf : Free an vs) : Rel K an Hs0 H0 Hs H (L2.wipe σ vs) (wipeE ρ vs) where
  toRl := r.toRl.wipe vs
  go := r.go
  anc := fun i a e => by rw [wipe_get fun h => hf i h a e]; exact r.anc i a e
  fr := fun i d a h1 h2 => by
    obtain ⟨n, h1⟩ := wipeE_get h1
    rw [wipe_get n] at h2
    exact r.fr i d a h1 h2
theorem wipeE_in {i : Nat} : ∀ {vs : List Nat}, i ∈ vs → i < ρ.length → (wipeE ρ vs)[i]? = some none
  | [], h, _ => nomatch h
  | v :: vs, h, hl => by
    have len : ∀ vs : List Nat, (wipeE ρ vs).length = ρ.length := fun vs => by
      induction vs with
      | nil => rfl
      | cons v vs ih => show ((wipeE ρ vs).set v none).length = _; rw [List.length_set]; exact ih
    show ((wipeE ρ vs).set v none)[i]? = some none
    by_cases e : i = v
    · subst e
      rw [List.getElem?_set_self (by rw [len]; exact hl)]
    · rw [List.getElem?_set_ne (Ne.symm e)]
      rcases List.mem_cons.mp h with z | z
      · exact absurd z e
      · exact wipeE_in z hl
theorem wipeE_len : ∀ vs : List Nat, (wipeE ρ vs).length = ρ.length
  | [] => rfl
  | v :: vs => by show ((wipeE ρ vs).set v none).length = _; rw [List.length_set]; exact wipeE_len vs
/-- the outer slots behind a block -/
theorem Rel.unwipe (r : Rel K an Hs0 H0 Hs H (L2.wipe σ vs) (wipeE ρ vs)) (hf : Free an vs) : Rel K an Hs0 H0 Hs H σ (wipeE ρ vs) where
  ex := r.ex
  sl := by
    have hl : (L2.wipe σ vs).length = (wipeE ρ vs).length := r.sl.length
    refine paired_of (by rw [wipe_length] at hl; exact hl) fun i u y hu hy => ?_
    by_cases h : i ∈ vs
    · have : i < ρ.length := by
        have := (List.getElem?_eq_some_iff.mp hy).1
        rwa [wipeE_len] at this
      rw [wipeE_in h this] at hy
      cases hy
      cases u <;> trivial
    · obtain ⟨u', hu', s⟩ := Paired.get' r.sl hy
      rw [wipe_get h, hu] at hu'
      cases hu'
      exact s
  di := fun i j e e' a ne h1 h2 h3 h4 => by
    have n1 := (wipeE_get h1).1
    have n2 := (wipeE_get h2).1
    exact r.di i j e e' a ne h1 h2 (by rw [wipe_get n1]; exact h3) (by rw [wipe_get n2]; exact h4)
  go := r.go
  anc := fun i a e => by have := r.anc i a e; rwa [wipe_get fun h => hf i h a e] at this
  fr := fun i d a h1 h2 => r.fr i d a h1 (by rw [wipe_get (wipeE_get h1).1]; exact h2)
/-- an object in no slot is changed -/
theorem Rel.aside {p : Addr} (r : Rel K an Hs0 H0 Hs H σ ρ) (g : Go (fun z => z = p) Hs H Hs' H') (hn : ¬ Mu σ ρ p) (h0 : H0 p = none) : Rel K an Hs0 H0 Hs' H' σ ρ := by
  refine ⟨⟨g.i, paired_of r.sl.length fun i u y hu hy => ?_, r.di⟩, r.go.trans g fun q hq => .inr (by rw [hq]; exact h0), r.anc, r.fr⟩
  obtain ⟨u', hu', s⟩ := Paired.get' r.sl hy
  rw [hu] at hu'
  cases hu'
  cases y with
  | none => cases u <;> trivial
  | some y =>
    obtain ⟨b, d'⟩ := y
    cases u with
    | none => cases b <;> exact s
    | some v' =>
      cases b with
      | false => exact Rp.mono g.s s
      | true => exact Mt.far s g fun c ec e => hn ⟨i, d', hy, by rw [hu, ec, e]⟩
/-- an object in no slot is stable from now on -/
theorem Rel.firm {p : Addr} {o : HO} (r : Rel K an Hs0 H0 Hs H σ ρ) (hp : Hs p = none) (ho : H p = some o) (hn : ¬ Mu σ ρ p) (h0 : H0 p = none) : Rel K an Hs0 H0 (upd Hs p o) H σ ρ := by
  have e3 : Ex Hs (upd Hs p o) := fun a u e => by rw [upd_ne (ne_of_none e hp)]; exact e
  have ex : Ex (upd Hs p o) H := fun a u e => by
    by_cases z : a = p
    · subst z; rw [upd_same] at e; cases e; exact ho
    · rw [upd_ne z] at e; exact r.ex a u e
  refine ⟨⟨ex, paired_of r.sl.length fun i u y hu hy => ?_, r.di⟩, ⟨r.go.s.trans e3, ex, fun a ha => ?_, r.go.f, r.go.d, r.go.t⟩, r.anc, r.fr⟩
  · obtain ⟨u', hu', s⟩ := Paired.get' r.sl hy
    rw [hu] at hu'
    cases hu'
    cases y with
    | none => cases u <;> trivial
    | some y =>
      obtain ⟨b, d'⟩ := y
      cases u with
      | none => cases b <;> exact s
      | some v' =>
        cases b with
        | false => exact Rp.mono e3 s
        | true =>
          have s' : Mt K Hs H v' d' := s
          have ne : ∀ a, v' = .ref a → a ≠ p := fun a ea z => hn ⟨i, d', hy, by rw [hu, ea, z]⟩
          show Mt K (upd Hs p o) H v' d'
          cases s' with
          | lst h1 h2 r => exact .lst (by rw [upd_ne (ne _ rfl)]; exact h1) h2 (r.mono e3)
          | dK h1 h2 q r => exact .dK (by rw [upd_ne (ne _ rfl)]; exact h1) h2 q (r.mono e3)
          | dT h1 h2 q r => exact .dT (by rw [upd_ne (ne _ rfl)]; exact h1) h2 q (r.mono e3)
  · by_cases z : a = p
    · subst z; exact .inr (.inl h0)
    · rw [upd_ne z] at ha; exact r.go.n a ha
/-- [e for x in xs if t] where objects of slots change on the way -/
theorem we_lcI {N : Env → D → Prop} (I : Nat → Env → List D → Prop) (hj : ∀ j ∈ js, j ∈ vs) (hf : Free an vs)
    (h : WEI K an wi ρ fun ρ1 l => l.length < sizeLine ∧ I 0 ρ1 [] ∧ (∀ i d ρ' acc, l[i]? = some d → I i ρ' acc → WG K js g d (wipeE ρ' vs) fun ρ2 =>
      WET K an tt ρ2 fun ρ3 b => (b = true → WE K an te ρ3 fun ρ4 y => I (i + 1) (wipeE ρ4 vs) (acc ++ [y])) ∧ (b = false → I (i + 1) (wipeE ρ3 vs) acc)) ∧ ∀ ρ' acc, I l.length ρ' acc → N ρ' (.lst acc)) :
    WE K an (tLc wi g tt te vs) ρ N := fun Hs0 H0 σ Hs H r Q q => h Hs0 H0 σ Hs H r _ fun ρ1 l J Hs1 H1 ⟨hl, h0, hs, hd⟩ r1 wd1 F Dl hD => by
  have hH : H Dl = none := by
    cases e : H Dl with
    | none => rfl
    | some o => exact absurd hD (wd1.go.d Dl (by rw [e]; simp))
  have nMu : ¬ Mu σ ρ Dl := fun ⟨i, e, h1, h2⟩ => by
    obtain ⟨v, hv, m⟩ := r.slotM h1
    rw [h2] at hv; cases hv
    obtain ⟨b, eb, _, hb⟩ := m.ref
    cases eb
    exact hb hH
  have muK : ∀ {ρ' : Env} {Hs' H' : Hp}, Wd σ ρ ρ' Hs H Hs' H' → ∀ a, Mu σ ρ' a → Mu σ ρ a := fun wd a ⟨i, e, h1, h2⟩ => by
    obtain ⟨e', h3⟩ := wd.kp i e h1
    exact ⟨i, e', h3, h2⟩
  have nH0 : H0 Dl = none := go_free r1.go hD
  have hfj : Free an js := fun j h => hf j (hj j h)
  have keepN : ∀ {M : Addr → Prop} {acc : List V} {Hsa Ha Hsb Hb : Hp}, Go M Hsa Ha Hsb Hb → Hsa Dl = none → Ha Dl = some (.lst acc) → Hsb Dl = none := fun {M acc Hsa Ha Hsb Hb} g4 h1 h2 => by
    cases z : Hsb Dl with
    | none => rfl
    | some o =>
      rcases g4.n Dl (by rw [z]; simp) with k | k | ⟨ys, k⟩
      · exact absurd h1 k
      · rw [h2] at k; cases k
      · rw [h2] at k; cases k
  have gnew : Go (fun z => z = Dl) Hs1 H1 Hs1 (upd H1 Dl (.lst [])) := .newM r1.ex hD
  refine ⟨fun i m H' => m = l.length - i ∧ i ≤ l.length ∧ ∃ ρ' Hs' acc accD, I i ρ' accD ∧ Rel K an Hs0 H0 Hs' H' σ ρ' ∧ Wd σ ρ ρ' Hs H Hs' H' ∧ Ex Hs1 Hs' ∧ Hs' Dl = none ∧ H' Dl = some (.lst acc) ∧ RpL K Hs' acc accD ∧ accD.length ≤ i,
    ⟨l.length, rfl, Nat.zero_le _, ρ1, Hs1, [], [], h0, r1.aside gnew (fun z => nMu (muK wd1 _ z)) nH0, ⟨wd1.go.trans gnew fun p hp => .inr (by rw [hp]; exact hH), wd1.kp⟩, Ex.refl _, ex_free r1.ex hD, upd_same, .nil, Nat.le_refl _⟩, ?_⟩
  rintro i m H' ⟨rfl, hi, ρ', Hs', acc, accD, hI, r2, wd2, e2, hn, hDl, ra, hlen⟩
  by_cases hlt : i < l.length
  · have hd' : l[i]? = some l[i] := List.getElem?_eq_getElem hlt
    obtain ⟨jg, jy⟩ := F.go i _ Hs' H' hd' e2 r2.ex
    refine .inr ⟨jg, fun H'' => i + 1 ≤ l.length ∧ ∃ ρ' Hs' acc accD, I (i + 1) ρ' accD ∧ Rel K an Hs0 H0 Hs' H'' σ ρ' ∧ Wd σ ρ ρ' Hs H Hs' H'' ∧ Ex Hs1 Hs' ∧ Hs' Dl = none ∧ H'' Dl = some (.lst acc) ∧ RpL K Hs' acc accD ∧ accD.length ≤ i + 1, fun H'' h => ⟨l.length - (i + 1), by omega, rfl, h⟩, fun x Hx hx => ?_⟩
    obtain ⟨Hs3, g3, rx⟩ := jy x Hx hx
    have hn3 := keepN g3 hn hDl
    have hDl3 := g3.ex _ _ hDl
    have r3 := (r2.stay g3).wipe hf
    refine hs i _ ρ' accD hd' hI _ Hs3 Hx x r3.toRl rx _ fun ρ2 σ2 w R2 t => ?_
    have ew : L2.wipe σ2 vs = L2.wipe σ vs := wipe_eq t.len fun k hk => t.same k fun z => hk (hj k z)
    refine ⟨ew, ?_⟩
    have r4 := r3.tg R2 t hfj
    -- the slots of the block are slots of the def
    have muB : ∀ a, Mu σ2 ρ2 a → Mu σ ρ a := fun a ⟨j, e, h1, h2⟩ => by
      obtain ⟨n1, h3⟩ := t.kp j e h1
      obtain ⟨n2, h4⟩ := wipeE_get h3
      obtain ⟨e', h5⟩ := wd2.kp j e h4
      rw [t.same j n1, wipe_get n2] at h2
      exact ⟨j, e', h5, h2⟩
    have kpB : ∀ (j : Nat) (e : D), ρ2[j]? = some (some (true, e)) → ∃ e' : D, ρ[j]? = some (some (true, e')) := fun j e h1 => by
      obtain ⟨n1, h3⟩ := t.kp j e h1
      obtain ⟨n2, h4⟩ := wipeE_get h3
      exact wd2.kp j e h4
    refine w Hs0 H0 σ2 Hs3 Hx r4 _ fun ρ3 b Hs4 H4 ⟨w1, w2⟩ r5 wd5 => ?_
    have back : ∀ {ρ5 : Env} {Hs5 H5 : Hp}, Rel K an Hs0 H0 Hs5 H5 σ2 ρ5 → Rel K an Hs0 H0 Hs5 H5 σ (wipeE ρ5 vs) := fun r6 => by
      have := r6.wipe hf
      rw [ew] at this
      exact this.unwipe hf
    have wdB : ∀ {ρ5 : Env} {Hs5 H5 : Hp}, Wd σ2 ρ2 ρ5 Hs3 Hx Hs5 H5 → Wd σ ρ (wipeE ρ5 vs) Hs H Hs5 H5 := fun wd => by
      refine ⟨(wd2.go0 g3).go.trans wd.go fun p hp => .inl (muB p hp), fun j e h1 => ?_⟩
      obtain ⟨n2, h4⟩ := wipeE_get h1
      obtain ⟨e', h5⟩ := wd.kp j e h4
      exact kpB j e' h5
    have nB : ¬ Mu σ2 ρ2 Dl := fun z => nMu (muB _ z)
    cases b with
    | true =>
      show te σ2 H4 _
      refine w1 rfl Hs0 H0 σ2 Hs4 H4 r5 _ fun ρ4 y v Hs5 H5 w6 r6 wd6 ry => ?_
      have wd7 := wd5.trans wd6
      have hDl5 : H5 Dl = some (.lst acc) := wd7.go.f _ _ hDl3 nB
      have hn5 := keepN wd7.go hn3 hDl3
      have e1 := ra.len
      have gw : Go (fun z => z = Dl) Hs5 H5 Hs5 (upd H5 Dl (.lst (acc ++ [v]))) := .write r6.ex hn5 (by rw [hDl5]; simp) (fun _ z => nomatch z)
      have wd8 := wdB wd7
      refine ⟨acc, hDl5, by omega, hlt, wipeE ρ4 vs, Hs5, acc ++ [v], accD ++ [y], w6, (back r6).aside gw (fun z => nMu (muK wd8 _ z)) nH0, ⟨wd8.go.trans gw fun p hp => .inr (by rw [hp]; exact hH), wd8.kp⟩, e2.trans (g3.s.trans wd7.go.s), hn5, upd_same, (ra.mono (g3.s.trans wd7.go.s)).snoc ry, ?_⟩
      rw [List.length_append]
      simp
      omega
    | false =>
      show i + 1 ≤ l.length ∧ ∃ ρ' Hs' acc accD, _
      exact ⟨hlt, wipeE ρ3 vs, Hs4, acc, accD, w2 rfl, back r5, wdB wd5, e2.trans (g3.s.trans wd5.go.s), keepN wd5.go hn3 hDl3, wd5.go.f _ _ hDl3 nB, ra.mono (g3.s.trans wd5.go.s), by omega⟩
  · have : i = l.length := by omega
    subst this
    refine .inl ⟨F.stop _ Hs' H' (Nat.le_refl _) e2 r2.ex, ?_⟩
    -- the list is stable from now on
    have nd : ¬ Mu σ ρ' Dl := fun z => nMu (muK wd2 _ z)
    have e3 : Ex Hs' (upd Hs' Dl (.lst acc)) := fun a u e => by rw [upd_ne (ne_of_none e hn)]; exact e
    refine q ρ' _ _ (upd Hs' Dl (.lst acc)) H' (hd ρ' accD hI) (r2.firm hn hDl nd nH0) ⟨⟨wd2.go.s.trans e3, fun a u e => ?_, fun a ha => ?_, wd2.go.f, wd2.go.d, wd2.go.t⟩, wd2.kp⟩ (.lst upd_same (ra.mono e3))
    · by_cases z : a = Dl
      · subst z; rw [upd_same] at e; cases e; exact hDl
      · rw [upd_ne z] at e; exact r2.ex a u e
    · by_cases z : a = Dl
      · subst z; exact .inr (.inl hH)
      · rw [upd_ne z] at ha; exact wd2.go.n a ha
end
end J

/-! ## LayF -/
/-! The data layer: locked dicts, stores into dicts as targets, new objects side by side. -/
namespace J
open PySem PySem.Spec PyProof.Rows L2
open Evl (Ex ex_rd ex_l ex_t)
def keysT (m : List (List Key × D)) : List D := m.map fun q => D.tup (q.1.map keyD)
theorem rpL_keyV {K : PySem.W.Frag} {H : Hp} : ∀ ks : List Key, RpL K H (ks.map kV) (ks.map keyD)
  | [] => .nil
  | k :: r => .cons (match k with | .inl i => .int i | .inr s => .str s) (rpL_keyV r)
section
variable {K : PySem.W.Frag} {an : An} {ρ ρ' : Env} {js vs : List Nat} {l : List D} {te tb : TE} {tt : TT} {g : TG} {wi : TI} {ts tu : TS} {Hs0 H0 Hs H Hs' H' : Hp} {σ σ' : L2.St} {d x y : D} {M : Env → Prop} {R : Env → D → Prop} {N : Env → Prop}
/-- the keys of a locked dict -/
theorem feeds_keysT {a : Addr} {od : Obj} {ps : List (List Key × V)} {m : List (List Key × D)} (ha : Hs a = some (.frz od (.dT ps))) (hk : ps.map Prod.fst = m.map Prod.fst) : Feeds K (Itkt a od ps) Hs (keysT m) where
  go := fun i d Hs' H' hd e1 e2 => by
    have h := e2 _ _ (e1 _ _ ha)
    unfold keysT at hd
    rw [List.getElem?_map, Option.map_eq_some_iff] at hd
    obtain ⟨q, hq, e⟩ := hd
    have hlen : ps.length = m.length := by simpa using congrArg List.length hk
    have hi : i < ps.length := by rw [hlen]; exact (List.getElem?_eq_some_iff.mp hq).1
    refine ⟨⟨h, hi⟩, fun x H3 hx => ?_⟩
    obtain ⟨e3, k, v, b, g1, g2, g3⟩ := hx
    subst e3
    subst g2
    subst e
    have ek : k = q.1 := by
      have h1 : (ps.map Prod.fst)[i]? = some k := by rw [List.getElem?_map, g1]; rfl
      have h2 : (m.map Prod.fst)[i]? = some q.1 := by rw [List.getElem?_map, hq]; rfl
      rw [hk, h2] at h1
      exact (Option.some.inj h1).symm
    subst ek
    refine ⟨upd Hs' b (.tup (q.1.map kV)), ⟨fun c u e => ?_, fun c u e => ?_, fun c hc => ?_, fun _ _ h _ => h, fun _ h => h, fun _ _ h => .inr h⟩, .tup upd_same (rpL_keyV _)⟩
    · by_cases z : c = b
      · subst z
        have := e2 _ _ e
        rw [g3] at this
        cases this
        exact upd_same
      · rw [upd_ne z]; exact e
    · by_cases z : c = b
      · subst z; rw [upd_same] at e; cases e; exact g3
      · rw [upd_ne z] at e; exact e2 _ _ e
    · by_cases z : c = b
      · subst z; exact .inr (.inr ⟨_, g3⟩)
      · rw [upd_ne z] at hc; exact .inl hc
  stop := fun i Hs' H' hl e1 e2 => by
    have hlen : ps.length = m.length := by simpa using congrArg List.length hk
    unfold keysT at hl
    rw [List.length_map] at hl
    exact ⟨e2 _ _ (e1 _ _ ha), by omega⟩
/-- [f(k) for k in d if ..], d an object that may change, not used on the way -/
theorem en_lcLockT {i : Nat} {m : List (List Key × D)} (p : D → Bool) (f : D → D) (hi : ρ[i]? = some (some (true, .dT m))) (hl : m.length < sizeLine) (hj : ∀ j ∈ js, j ∈ vs) (hfl : ∀ d ∈ keysT m, flD (f d) = true)
    (ht : ∀ d, d ∈ keysT m → WG K js g d (wipeE (ρ.set i none) vs) fun ρ' => EvT K tt ρ' (p d) ∧ (p d = true → Ev K te ρ' (f d))) : EvN K (tLockE (tLc (iKeys (tVar i)) g tt te vs)) ρ (.lst (pick p f (keysT m))) := fun σ Hs H r Q q => by
  obtain ⟨v, hv, mt⟩ := r.slotM hi
  cases mt with
  | @dT a ps _ h1 h2 hk rl =>
    refine ⟨a, .dT ps, h2, True.intro, fun od => ?_⟩
    refine ⟨.ref a, hv, a, od, rfl, .inr ⟨ps, upd_same, fun Dl hD => ?_⟩⟩
    have e0 : Ex Hs (upd Hs a (.frz od (.dT ps))) := fun b u e => by rw [upd_ne (ne_of_none e h1)]; exact e
    have RL : Rl K (upd Hs a (.frz od (.dT ps))) (upd H a (.frz od (.dT ps))) σ (ρ.set i none) := by
      refine ⟨fun b u e => ?_, paired_of (by rw [List.length_set]; exact r.sl.length) fun j u y' hu hy => ?_, fun j k e e' b ne g1 g2 g3 g4 => ?_⟩
      · by_cases z : b = a
        · subst z; rw [upd_same] at e ⊢; exact e
        · rw [upd_ne z] at e ⊢; exact r.ex b u e
      · rcases set_get hy with ⟨_, z⟩ | ⟨nz, hy⟩
        · subst z; cases u <;> trivial
        · obtain ⟨u', hu', s⟩ := Paired.get' r.sl hy
          rw [hu] at hu'; cases hu'
          cases y' with
          | none => cases u <;> trivial
          | some y' =>
            obtain ⟨b, d'⟩ := y'
            cases u with
            | none => cases b <;> exact s
            | some v' =>
              cases b with
              | false => exact Rp.mono e0 s
              | true =>
                have s' : Mt K Hs H v' d' := s
                have ne : v' ≠ .ref a := fun w => r.di j i d' _ a nz hy hi (by rw [hu, w]) hv
                show Mt K (upd Hs a (.frz od (.dT ps))) (upd H a (.frz od (.dT ps))) v' d'
                cases s' with
                | lst z1 z2 r => exact .lst (by rw [upd_ne (fun w => ne (by rw [w]))]; exact z1) (by rw [upd_ne (fun w => ne (by rw [w]))]; exact z2) (r.mono e0)
                | dK z1 z2 k r => exact .dK (by rw [upd_ne (fun w => ne (by rw [w]))]; exact z1) (by rw [upd_ne (fun w => ne (by rw [w]))]; exact z2) k (r.mono e0)
                | dT z1 z2 k r => exact .dT (by rw [upd_ne (fun w => ne (by rw [w]))]; exact z1) (by rw [upd_ne (fun w => ne (by rw [w]))]; exact z2) k (r.mono e0)
      · rcases set_get g1 with ⟨_, z⟩ | ⟨n1, g1⟩
        · cases z
        rcases set_get g2 with ⟨_, z⟩ | ⟨n2, g2⟩
        · cases z
        exact r.di j k e e' b ne g1 g2 g3 g4
    have lk : (keysT m).length < sizeLine := by unfold keysT; rw [List.length_map]; exact hl
    refine lcJ p f RL (feeds_keysT upd_same hk) lk hj ht hD fun Hs' H' acc g2 hn hDl ra => ?_
    have hs' : Hs' a = some (.frz od (.dT ps)) := g2.s _ _ upd_same
    have hh' : H' a = some (.frz od (.dT ps)) := g2.i _ _ hs'
    have nDa : Dl ≠ a := fun z => by rw [z, upd_same] at hD; cases hD
    refine ⟨hh', q Dl (wo Hs' a) (upd H' a (.dT ps)) ⟨fun b u e => ?_, fun b u e => ?_, fun b hb => ?_, fun b u e _ => ?_, fun b hb => ?_, fun b xs e => ?_⟩ ?_ (.lst (xs := acc) ?_ ?_ ?_)⟩
    · have nb : b ≠ a := ne_of_none e h1
      rw [wo_ne nb]
      exact g2.s b u (e0 b u e)
    · by_cases z : b = a
      · subst z; rw [wo_same] at e; cases e
      · rw [wo_ne z] at e; rw [upd_ne z]; exact g2.i b u e
    · by_cases z : b = a
      · subst z; rw [wo_same] at hb; exact absurd rfl hb
      · rw [wo_ne z] at hb
        have := g2.n b hb
        rw [upd_ne z, upd_ne z] at this
        exact this
    · by_cases z : b = a
      · subst z; rw [h2] at e; cases e; exact upd_same
      · rw [upd_ne z]
        exact g2.f b u (by rw [upd_ne z]; exact e) fun w => w
    · by_cases z : b = a
      · subst z; rw [upd_same]; simp
      · rw [upd_ne z]
        exact g2.d b (by rw [upd_ne z]; exact hb)
    · by_cases z : b = a
      · subst z; rw [upd_same] at e; cases e
      · rw [upd_ne z] at e
        have := g2.t b xs e
        rw [upd_ne z] at this
        exact this
    · have := hD
      rw [upd_ne nDa] at this
      exact this
    · rw [wo_ne nDa]; exact hn
    · rw [upd_ne nDa]; exact hDl
    · have nt : ∀ xs, Hs' a ≠ some (.tup xs) := fun xs e => by rw [hs'] at e; cases e
      have all : ∀ {vs : List V} {ds : List D}, RpL K Hs' vs ds → (∀ d ∈ ds, flD d = true) → RpL K (wo Hs' a) vs ds := by
        intro vs ds r
        induction vs generalizing ds with
        | nil => intro _; cases r; exact .nil
        | cons v vs ih =>
          intro hd
          cases r with
          | cons r1 r2 => exact .cons (rp_wo r1 (hd _ (List.mem_cons_self ..)) nt) (ih r2 fun d hd' => hd d (List.mem_cons_of_mem _ hd'))
      refine all ra fun d hd => ?_
      unfold pick at hd
      obtain ⟨k, hk1, hk2⟩ := List.mem_map.mp hd
      rw [← hk2]
      exact hfl k (List.mem_filter.mp hk1).1

/-! for k in d, d stable -/
def okL : D → Bool
  | .dT m => m.all fun q => flD q.2
  | d => flD d
mutual
theorem Rp.open {a : Addr} {od : Obj} {ps : List (Key × V)} (ha : Hs a = some (.frz od (.dK ps))) : ∀ {v : V} {d : D}, Rp K Hs v d → Rp K (upd Hs a (.dK ps)) v d
  | _, _, .non => .non
  | _, _, .bl b => .bl b
  | _, _, .int i => .int i
  | _, _, .str x => .str x
  | _, _, .lst h r => .lst (by rw [upd_ne (fun z => by rw [z, ha] at h; cases h)]; exact h) (RpL.open ha r)
  | _, _, .tup h r => .tup (by rw [upd_ne (fun z => by rw [z, ha] at h; cases h)]; exact h) (RpL.open ha r)
  | _, _, .dK h q r => .dK (by rw [upd_ne (fun z => by rw [z, ha] at h; cases h)]; exact h) q (RpL.open ha r)
  | _, _, .dF (a := b) (ps := ps') h q r => .dF (by
      by_cases z : b = a
      · subst z
        rcases h with h | ⟨o, h⟩
        · rw [ha] at h; cases h
        · rw [ha] at h; cases h
          exact .inl upd_same
      · rcases h with h | ⟨o, h⟩
        · exact .inl (by rw [upd_ne z]; exact h)
        · exact .inr ⟨o, by rw [upd_ne z]; exact h⟩) q (RpL.open ha r)
  | _, _, .dT (a := b) h q r => .dT (by
      have z : b ≠ a := fun z => by
        subst z
        rcases h with h | ⟨o, h⟩
        · rw [ha] at h; cases h
        · rw [ha] at h; cases h
      rcases h with h | ⟨o, h⟩
      · exact .inl (by rw [upd_ne z]; exact h)
      · exact .inr ⟨o, by rw [upd_ne z]; exact h⟩) q (RpL.open ha r)
  | _, _, .scr (a := b) h => .scr (by
      rcases h with h | h
      · have z : b ≠ a := fun z => by
          subst z
          rcases h with h | ⟨o, h⟩
          · rw [ha] at h; cases h
          · rw [ha] at h; cases h
        rcases h with h | ⟨o, h⟩
        · exact .inl (.inl (by rw [upd_ne z]; exact h))
        · exact .inl (.inr ⟨o, by rw [upd_ne z]; exact h⟩)
      · exact .inr h)
theorem RpL.open {a : Addr} {od : Obj} {ps : List (Key × V)} (ha : Hs a = some (.frz od (.dK ps))) : ∀ {vs : List V} {ds : List D}, RpL K Hs vs ds → RpL K (upd Hs a (.dK ps)) vs ds
  | _, _, .nil => .nil
  | _, _, .cons h r => .cons (Rp.open ha h) (RpL.open ha r)
end
theorem rp_lockF {a : Addr} {od : Obj} {ps : List (Key × V)} (ha : Hs a = some (.dK ps)) {v : V} {d : D} (r : Rp K Hs v d) (h : flD d = true) : Rp K (upd Hs a (.frz od (.dK ps))) v d := by
  cases r with
  | non => exact .non
  | bl b => exact .bl b
  | int i => exact .int i
  | str x => exact .str x
  | tup h1 h2 => exact .tup (by rw [upd_ne (fun z => by rw [z, ha] at h1; cases h1)]; exact h1) (rpL_sc h2 h)
  | _ => cases h
theorem rpL_lockF {a : Addr} {od : Obj} {ps : List (Key × V)} (ha : Hs a = some (.dK ps)) : ∀ {vs : List V} {ds : List D}, RpL K Hs vs ds → (∀ d ∈ ds, flD d = true) → RpL K (upd Hs a (.frz od (.dK ps))) vs ds
  | _, _, .nil, _ => .nil
  | _, _, .cons h r, hd => .cons (rp_lockF ha h (hd _ (List.mem_cons_self ..))) (rpL_lockF ha r fun d h => hd d (List.mem_cons_of_mem _ h))
theorem rp_lock {a : Addr} {od : Obj} {ps : List (Key × V)} (ha : Hs a = some (.dK ps)) {v : V} {d : D} (r : Rp K Hs v d) (h : okL d = true) : Rp K (upd Hs a (.frz od (.dK ps))) v d := by
  cases r with
  | @dT b qs m h1 h2 h3 =>
    have h' : (m.all fun q => flD q.2) = true := h
    rw [List.all_eq_true] at h'
    have z : b ≠ a := fun z => by
      subst z
      rcases h1 with h1 | ⟨o, h1⟩
      · rw [ha] at h1; cases h1
      · rw [ha] at h1; cases h1
    refine .dT ?_ h2 (rpL_lockF ha h3 fun d hd => ?_)
    · rcases h1 with h1 | ⟨o, h1⟩
      · exact .inl (by rw [upd_ne z]; exact h1)
      · exact .inr ⟨o, by rw [upd_ne z]; exact h1⟩
    · obtain ⟨q, hq, e⟩ := List.mem_map.mp hd
      rw [← e]
      exact h' q hq
  | non => exact .non
  | bl b => exact .bl b
  | int i => exact .int i
  | str x => exact .str x
  | tup h1 h2 => exact rp_lockF ha (.tup h1 h2) h
  | _ => cases h
theorem ws_forLockK {i j : Nat} {m : List (Key × D)} (I : Nat → Env → Prop) (hi : ρ[i]? = some (some (false, .dK m))) (hm : ∀ q ∈ m, flD q.2 = true) (ho : ∀ (k : Nat) b d, k ≠ i → ρ[k]? = some (some (b, d)) → b = false ∧ okL d = true)
    (h0 : I 0 (ρ.set i (some (false, .dF m)))) (hs : ∀ (k : Nat) q ρ', m[k]? = some q → I k ρ' → WS K none tu (ρ'.set j (some (false, keyD q.1))) (I (k + 1)) R) (hd : ∀ ρ', I m.length ρ' → N ρ') :
    WS K none (tLock (tFor (iKeys (tVar i)) (gName j) tu)) ρ N R := fun Hs0 H0 σ Hs H r Dn n q => by
  obtain ⟨v, hv, rv⟩ := r.slot hi
  obtain ⟨a, ps, rfl, ha, hk, rl⟩ := rv.dK_inv'
  have hlen : ps.length = m.length := by simpa using congrArg List.length hk
  have haH : H a = some (.dK ps) := r.ex _ _ ha
  refine ⟨a, .dK ps, haH, True.intro, fun od => ?_⟩
  refine ⟨.ref a, hv, a, od, rfl, .inl ⟨ps, upd_same, ?_⟩⟩
  have RL : Rel K none (upd Hs a (.frz od (.dK ps))) (upd H a (.frz od (.dK ps))) (upd Hs a (.frz od (.dK ps))) (upd H a (.frz od (.dK ps))) σ (ρ.set i (some (false, .dF m))) := by
    have ex : Ex (upd Hs a (.frz od (.dK ps))) (upd H a (.frz od (.dK ps))) := fun b u e => by
      by_cases z : b = a
      · subst z; rw [upd_same] at e ⊢; exact e
      · rw [upd_ne z] at e ⊢; exact r.ex b u e
    have nm : ∀ (k : Nat) (e : D), (ρ.set i (some (false, .dF m)))[k]? = some (some (true, e)) → False := fun k e h => by
      rcases set_get h with ⟨_, z⟩ | ⟨nz, h⟩
      · cases z
      · have := (ho k true e nz h).1
        cases this
    refine ⟨⟨ex, paired_of (by rw [List.length_set]; exact r.sl.length) fun k u y' hu hy => ?_, fun k k' e e' b ne g1 => (nm k e g1).elim⟩, .refl ex, (fun _ _ h => nomatch h), fun k e b g1 => (nm k e g1).elim⟩
    rcases set_get hy with ⟨z1, z⟩ | ⟨nz, hy⟩
    · subst z; subst z1
      rw [hv] at hu
      cases hu
      exact Rp.dF (.inr ⟨od, upd_same⟩) hk (rpL_lockF ha rl fun d hd => by
        obtain ⟨q, hq, e⟩ := List.mem_map.mp hd
        rw [← e]
        exact hm q hq)
    · obtain ⟨u', hu', s⟩ := Paired.get' r.sl hy
      rw [hu] at hu'; cases hu'
      cases y' with
      | none => cases u <;> trivial
      | some y' =>
        obtain ⟨b, d'⟩ := y'
        obtain ⟨z1, z2⟩ := ho k b d' nz hy
        subst z1
        cases u with
        | none => exact s
        | some v' => exact rp_lock ha s z2
  have out : ∀ {Hs' H' : Hp} {σ' : L2.St} {ρ' : Env}, Rel K none (upd Hs a (.frz od (.dK ps))) (upd H a (.frz od (.dK ps))) Hs' H' σ' ρ' →
      H' a = some (.frz od (.dK ps)) ∧ Hs' a = some (.frz od (.dK ps)) ∧ Rel K none Hs0 H0 (upd Hs' a (.dK ps)) (upd H' a (.dK ps)) σ' ρ' ∧ Ex Hs (upd Hs' a (.dK ps)) := fun {Hs' H' σ' ρ'} r' => by
    have hs' : Hs' a = some (.frz od (.dK ps)) := r'.go.s _ _ upd_same
    have hh' : H' a = some (.frz od (.dK ps)) := r'.ex _ _ hs'
    have gg : Go N0 Hs H (upd Hs' a (.dK ps)) (upd H' a (.dK ps)) := by
      have g2 := go_none r'
      refine ⟨fun b u e => ?_, fun b u e => ?_, fun b hb => ?_, fun b u e _ => ?_, fun b hb => ?_, fun b xs e => ?_⟩
      · by_cases z : b = a
        · subst z; rw [ha] at e; cases e; exact upd_same
        · rw [upd_ne z]; exact g2.s b u (by rw [upd_ne z]; exact e)
      · by_cases z : b = a
        · subst z; rw [upd_same] at e ⊢; exact e
        · rw [upd_ne z] at e ⊢; exact g2.i b u e
      · by_cases z : b = a
        · subst z; exact .inl (by rw [ha]; simp)
        · rw [upd_ne z] at hb
          have := g2.n b hb
          rw [upd_ne z, upd_ne z] at this
          exact this
      · by_cases z : b = a
        · subst z; rw [haH] at e; cases e; exact upd_same
        · rw [upd_ne z]; exact g2.f b u (by rw [upd_ne z]; exact e) fun w => w
      · by_cases z : b = a
        · subst z; rw [upd_same]; simp
        · rw [upd_ne z]; exact g2.d b (by rw [upd_ne z]; exact hb)
      · by_cases z : b = a
        · subst z; rw [upd_same] at e; cases e
        · rw [upd_ne z] at e
          have := g2.t b xs e
          rw [upd_ne z] at this
          exact this
    refine ⟨hh', hs', ⟨⟨gg.i, paired_of r'.sl.length fun k u y' hu hy => ?_, r'.di⟩, (go_none r).trans0 gg |>.weak fun _ z => z.elim, (fun _ _ h => nomatch h), fun k e b g1 g2 => ?_⟩, gg.s⟩
    · obtain ⟨u', hu', s⟩ := Paired.get' r'.sl hy
      rw [hu] at hu'; cases hu'
      cases y' with
      | none => cases u <;> trivial
      | some y' =>
        obtain ⟨b, d'⟩ := y'
        cases u with
        | none => cases b <;> exact s
        | some v' =>
          cases b with
          | false => exact Rp.open hs' s
          | true =>
            have s' : Mt K Hs' H' v' d' := s
            obtain ⟨b, eb, n1, n2⟩ := s'.ref
            have nb : b ≠ a := fun z => by rw [z, hs'] at n1; cases n1
            show Mt K (upd Hs' a (.dK ps)) (upd H' a (.dK ps)) v' d'
            cases s' with
            | lst z1 z2 r => cases eb; exact .lst (by rw [upd_ne nb]; exact z1) (by rw [upd_ne nb]; exact z2) (RpL.open hs' r)
            | dK z1 z2 k r => cases eb; exact .dK (by rw [upd_ne nb]; exact z1) (by rw [upd_ne nb]; exact z2) k (RpL.open hs' r)
            | dT z1 z2 k r => cases eb; exact .dT (by rw [upd_ne nb]; exact z1) (by rw [upd_ne nb]; exact z2) k (RpL.open hs' r)
    · rcases r'.fr k e b g1 g2 with z | ⟨_, z⟩
      · refine .inl ?_
        by_cases w : b = a
        · subst w; rw [upd_same] at z; cases z
        · rw [upd_ne w] at z
          exact go_free (go_none r) z
      · cases z
  refine ⟨fun k mm σ' H' => mm = ps.length - k ∧ k ≤ ps.length ∧ ∃ ρ' Hs', I k ρ' ∧ Rel K none (upd Hs a (.frz od (.dK ps))) (upd H a (.frz od (.dK ps))) Hs' H' σ' ρ', ⟨_, rfl, Nat.zero_le _, _, _, h0, RL⟩, ?_⟩
  rintro k mm σ' H' ⟨rfl, hkk, ρ', Hs', hI, r'⟩
  obtain ⟨o1, o2, o3, o4⟩ := out r'
  by_cases hlt : k < ps.length
  · refine .inr ⟨⟨o1, hlt⟩, fun σ2 H2 => ∃ ρ' Hs', I (k + 1) ρ' ∧ Rel K none (upd Hs a (.frz od (.dK ps))) (upd H a (.frz od (.dK ps))) Hs' H2 σ2 ρ', fun σ2 H2 ⟨ρ2, Hs2, w1, w2⟩ => ⟨ps.length - (k + 1), by omega, rfl, hlt, ρ2, Hs2, w1, w2⟩, fun y H2 hy => ?_⟩
    obtain ⟨e2, kk, v, hkv, ey⟩ := hy
    subst e2
    subst ey
    have hmk : k < m.length := by omega
    have hm' : m[k]? = some m[k] := List.getElem?_eq_getElem hmk
    have ek : kk = m[k].1 := by
      have h1 : (ps.map Prod.fst)[k]? = some kk := by rw [List.getElem?_map, hkv]; rfl
      have h2 : (m.map Prod.fst)[k]? = some m[k].1 := by rw [List.getElem?_map, hm']; rfl
      rw [hk, h2] at h1
      exact (Option.some.inj h1).symm
    subst ek
    have rk : Rp K Hs' (kV m[k].1) (keyD m[k].1) := by
      cases m[k].1 with
      | inl i => exact .int i
      | inr s => exact .str s
    exact hs k _ ρ' hm' hI _ _ _ Hs' H2 (r'.set rk (fun _ h => nomatch h)) _ (fun ρ3 σ3 Hs3 H3 hi3 r3 e3 => ⟨ρ3, Hs3, hi3, r3⟩) fun ρ3 d3 v3 σ3 Hs3 H3 w3 r3 rv3 => by
      obtain ⟨p1, p2, p3, p4⟩ := out r3
      exact ⟨p1, q ρ3 d3 v3 σ3 _ _ w3 p3 (Rp.open p2 rv3)⟩
  · have : k = m.length := by omega
    subst this
    exact .inl ⟨⟨o1, by omega⟩, o1, n ρ' σ' _ _ (hd ρ' hI) o3 o4⟩

/-! o[k] = .. as a target -/
theorem wm_subT {i : Nat} {m : List (List Key × D)} {ks : List Key} {ti : TE} (hi : ρ[i]? = some (some (true, .dT m))) (hk : Ev K ti ρ (.tup (ks.map keyD))) (hl : m.length < sizeLine) (h : M (ρ.set i (some (true, .dT (dPut m ks d))))) : WM K an (gSub (tVar i) ti rSetD) d ρ M := fun Hs0 H0 σ Hs H v r rv Q q => by
  obtain ⟨u, hsl, mt⟩ := r.slotM hi
  cases mt with
  | @dT a ps _ h1 h2 hq rl =>
    refine ⟨.ref a, hsl, hk σ Hs H r.toRl _ fun kv Hs2 H2 g rk => ?_⟩
    have h2' := g.ex _ _ h2
    have h1' : Hs2 a = none := by
      cases (Mt.stay (.dT h1 h2 hq rl : Mt K Hs H (.ref a) (.dT m)) g) with
      | dT z _ _ _ => exact z
    have hlen : ps.length = m.length := by
      have := congrArg List.length hq
      simpa using this
    obtain ⟨b, xs, rfl, hb, rb⟩ := rk.tup_inv
    rw [rpL_keys rb] at hb
    refine ⟨a, upd H2 a (.dT (putK ps ks v)), rfl, .inr ⟨ps, ks, b, h2', rfl, g.i _ _ hb, by rw [hlen]; exact hl, rfl⟩, ?_⟩
    obtain ⟨p1, p2⟩ := dict_put (k := ks) (rv.mono g.s) hq (rl.mono g.s)
    exact q _ σ Hs2 _ h ((r.stay g).turn hi hsl (fun _ z => nomatch z) (.dT h1' upd_same p1 p2)) g.s

/-! built-ins that give a new object -/
def OpCN (K : PySem.W.Frag) (r : List V → Hp → VK → Prop) (xs : List D) (z : D) : Prop := ∀ Hs H vs (Q : VK), Ex Hs H → RpL K Hs vs xs → (∀ p Hs' H', Go N0 Hs H Hs' H' → H p = none → Mt K Hs' H' (.ref p) z → Q (.ref p) H') → r vs H Q
theorem en_cb {r : List V → Hp → VK → Prop} {tA : TA} {xs : List D} (ha : EvA K tA ρ xs) (hr : OpCN K r xs d) : EvN K (tCB r tA) ρ d := fun σ Hs H R Q q =>
  ha σ Hs H R _ fun v Hs1 H1 g1 r1 => hr Hs1 H1 v Q g1.i r1 fun p Hs3 H3 g3 hp m => q p Hs3 H3 (g1.trans0 g3) (go_free g1 hp) m
theorem refs_of {Hs : Hp} : ∀ {vs : List V} {l : List (List Key × D)}, RpL K Hs vs (l.map fun p => .tup [.tup (p.1.map keyD), p.2]) →
    ∃ (ps : List Addr) (kts : List (List Key × Addr × V)), vs = ps.map V.ref ∧ Paired (fun p (kt : List Key × Addr × V) => Hs p = some (.tup [.ref kt.2.1, kt.2.2]) ∧ Hs kt.2.1 = some (.tup (kt.1.map kV))) ps kts ∧ kts.map (·.1) = l.map (·.1) ∧ RpL K Hs (kts.map fun x => x.2.2) (l.map (·.2))
  | _, [], h => by
    have h' : RpL K Hs _ [] := h
    cases h'
    exact ⟨[], [], rfl, .nil, rfl, .nil⟩
  | _, p :: l, h => by
    have h' : RpL K Hs _ (.tup [.tup (p.1.map keyD), p.2] :: l.map fun p => .tup [.tup (p.1.map keyD), p.2]) := h
    cases h' with
    | cons h1 h2 =>
      obtain ⟨ps, kts, e, hp, hk, hr⟩ := refs_of h2
      obtain ⟨b, xs, rfl, hb, rb⟩ := h1.tup_inv
      cases rb with
      | cons r1 rb =>
        cases rb with
        | cons r2 rb =>
          cases rb
          obtain ⟨kb, ys, rfl, hkb, rk⟩ := r1.tup_inv
          rw [rpL_keys rk] at hkb
          exact ⟨b :: ps, (p.1, kb, _) :: kts, by rw [e]; rfl, .cons ⟨hb, hkb⟩ hp, by rw [List.map_cons, List.map_cons, hk], .cons r2 hr⟩
theorem ocn_dictPT {l : List (List Key × D)} (nd : (l.map (·.1)).Nodup) : OpCN K (rDictPT K) [.lst (l.map fun p => .tup [.tup (p.1.map keyD), p.2])] (.dT l) := fun Hs H vs Q e rs q => by
  cases rs with
  | cons h1 h2 =>
    cases h2
    obtain ⟨a, xs, rfl, ha, r⟩ := h1.lst_inv
    obtain ⟨ps, kts, rfl, hp, hk, hr⟩ := refs_of r
    refine ⟨a, ps, kts, rfl, SqL.of (e _ _ ha), Paired.mapP hp fun p kt z => ⟨SqT.of (e _ _ z.1), e _ _ z.2⟩, by rw [hk]; exact nd, fun p hp' => q p Hs _ (.newM e hp') hp' (.dT (ex_free e hp') upd_same ?_ ?_)⟩
    · rw [List.map_map]
      exact hk
    · rw [List.map_map]
      exact hr

/-! loops over a source that changes objects -/
theorem ws_forW (I : Nat → Env → Prop) (h : WEI K an wi ρ fun ρ1 l => I 0 ρ1 ∧ (∀ j d ρ', l[j]? = some d → I j ρ' → WG K js g d ρ' fun ρ'' => WS K an tu ρ'' (I (j + 1)) R) ∧ ∀ ρ', I l.length ρ' → N ρ') (hf : Free an js := by first | exact free_none | exact free_j (by decide)) : WS K an (tFor wi g tu) ρ N R := fun Hs0 H0 σ Hs H r Dn n q =>
  h Hs0 H0 σ Hs H r _ fun ρ1 l J Hs1 H1 ⟨h0, hs, hd⟩ r1 wd1 F => by
    refine ⟨fun i m σ' H' => m = l.length - i ∧ i ≤ l.length ∧ ∃ ρ' Hs', I i ρ' ∧ Rel K an Hs0 H0 Hs' H' σ' ρ' ∧ Ex Hs1 Hs', ⟨_, rfl, Nat.zero_le _, ρ1, Hs1, h0, r1, Ex.refl _⟩, ?_⟩
    rintro i m σ' H' ⟨rfl, hi, ρ', Hs', hI, r', e⟩
    by_cases hlt : i < l.length
    · have hd' : l[i]? = some l[i] := List.getElem?_eq_getElem hlt
      obtain ⟨jg, jy⟩ := F.go i _ Hs' H' hd' e r'.ex
      refine .inr ⟨jg, fun σ2 H2 => ∃ ρ' Hs', I (i + 1) ρ' ∧ Rel K an Hs0 H0 Hs' H2 σ2 ρ' ∧ Ex Hs1 Hs', fun σ2 H2 w => ⟨l.length - (i + 1), by omega, rfl, hlt, w⟩, fun x Hx hx => ?_⟩
      obtain ⟨Hs3, g3, rx⟩ := jy x Hx hx
      refine hs i _ ρ' hd' hI σ' Hs3 Hx x (r'.stay g3).toRl rx _ fun ρ2 σ2 w R2 t => ?_
      exact w Hs0 H0 σ2 Hs3 Hx ((r'.stay g3).tg R2 t hf) _ (fun ρ3 σ3 Hs3' H3 hi3 r3 e3 => ⟨ρ3, Hs3', hi3, r3, e.trans (g3.s.trans e3)⟩) q
    · have : i = l.length := by omega
      subst this
      exact .inl ⟨F.stop _ Hs' H' (Nat.le_refl _) e r'.ex, n ρ' σ' Hs' H' (hd ρ' hI) r' (wd1.go.s.trans e)⟩

/-! a new object beside others: a, b = e1, new; a, b, c = e1, new, e2 -/
def newO : D → HO
  | .dK _ => .dK []
  | .dT _ => .dT []
  | _ => .lst []
/-- te lays a new object that holds d -/
def Lays (te : TE) (d : D) : Prop := ∀ σ H (Q : VK), (∀ p, H p = none → Q (.ref p) (upd H p (newO d))) → te σ H Q
theorem lays_lst : Lays (tLst tNil) (.lst []) := fun σ H Q q => ⟨Nat.zero_le _, q⟩
theorem lays_dK : Lays tDNewK (.dK []) := fun σ H Q q => q
theorem mt_new {p : Addr} (e : Ex Hs H) (hp : H p = none) (hd : d = .lst [] ∨ d = .dK [] ∨ d = .dT []) : Mt K Hs (upd H p (newO d)) (.ref p) d := by
  rcases hd with rfl | rfl | rfl
  · exact .lst (ex_free e hp) upd_same .nil
  · exact .dK (ex_free e hp) upd_same rfl .nil
  · exact .dT (ex_free e hp) upd_same rfl .nil
theorem nMu_of {p : Addr} (r : Rl K Hs H σ ρ) (hp : H p = none) : ¬ Mu σ ρ p := fun ⟨i, e, h1, h2⟩ => by
  obtain ⟨v, hv, m⟩ := r.slotM h1
  rw [h2] at hv; cases hv
  obtain ⟨b, eb, _, hb⟩ := m.ref
  cases eb
  exact hb hp
theorem Rel.laid {p : Addr} {o : HO} (r : Rel K an Hs0 H0 Hs H σ ρ) (hp : H p = none) : Rel K an Hs0 H0 Hs (upd H p o) σ ρ := r.aside (.newM r.ex hp) (nMu_of r.toRl hp) (go_free r.go hp)
theorem ws_parN {i j : Nat} {ta tn : TE} (hij : i ≠ j) (hd : d = .lst [] ∨ d = .dK [] ∨ d = .dT []) (hn : Lays tn d) (h : WE K an ta ρ fun ρ1 x => N ((ρ1.set i (some (false, x))).set j (some (true, d)))) (hf : Free an [i, j] := by first | exact free_none | exact free_j (by decide)) : WS K an (tPar i j (tCons ta (tCons tn tNil))) ρ N R := fun Hs0 H0 σ Hs H r Dn n q =>
  h Hs0 H0 σ Hs H r _ fun ρ1 x v Hs1 H1 w r1 wd rv => hn σ H1 _ fun p hp => ⟨v, .ref p, rfl, by
    have r2 := (r1.laid (o := newO d) hp).set (i := i) rv fun a e => hf i (by simp) a e
    refine n _ _ Hs1 _ w (r2.setM (i := j) (mt_new r1.ex hp hd) (go_free r1.go hp) (fun k e h1 h2 => ?_) fun a e => hf j (by simp) a e) wd.go.s
    rcases set_get h1 with ⟨_, z⟩ | ⟨nk, h1⟩
    · cases z
    rw [List.getElem?_set_ne (Ne.symm nk)] at h2
    exact nMu_of r1.toRl hp ⟨k, e, h1, h2⟩⟩
theorem ws_par3N {i j k : Nat} {ta tn tc : TE} (hij : i ≠ j) (hjk : j ≠ k) (hd : d = .lst [] ∨ d = .dK [] ∨ d = .dT []) (hn : Lays tn d) (h : WE K an ta ρ fun ρ1 x => WE K an tc ρ1 fun ρ2 z => N (((ρ2.set i (some (false, x))).set j (some (true, d))).set k (some (false, z)))) (hf : Free an [i, j, k] := by first | exact free_none | exact free_j (by decide)) : WS K an (tPar3 i j k (tCons ta (tCons tn (tCons tc tNil)))) ρ N R := fun Hs0 H0 σ Hs H r Dn n q =>
  h Hs0 H0 σ Hs H r _ fun ρ1 x v Hs1 H1 w r1 wd rv => hn σ H1 _ fun p hp => by
    have nM := nMu_of r1.toRl hp
    refine w Hs0 H0 σ Hs1 _ (r1.laid hp) _ fun ρ2 z u Hs2 H2 w2 r2 wd2 ru => ⟨v, .ref p, u, rfl, ?_⟩
    have nM2 : ¬ Mu σ ρ2 p := fun ⟨l, e, h1, h2⟩ => by
      obtain ⟨e', h3⟩ := wd2.kp l e h1
      exact nM ⟨l, e', h3, h2⟩
    have mt : Mt K Hs2 H2 (.ref p) d := Mt.far (mt_new r1.ex hp hd) wd2.go fun a ea => by cases ea; exact nM
    have r3 := r2.set (i := i) (rv.mono wd2.go.s) fun a e => hf i (by simp) a e
    have r4 := r3.setM (i := j) mt (go_free r1.go hp) (fun k' e h1 h2 => by
      rcases set_get h1 with ⟨_, z⟩ | ⟨nk, h1⟩
      · cases z
      rw [List.getElem?_set_ne (Ne.symm nk)] at h2
      exact nM2 ⟨k', e, h1, h2⟩) fun a e => hf j (by simp) a e
    exact n _ _ Hs2 H2 w2 (r4.set ru fun a e => hf k (by simp) a e) (wd.go.s.trans wd2.go.s)
end
end J

/-! ## Txt -/
namespace J
open PySem PySem.Spec PyProof.Rows L2
/-- a def that may be called by its name -/
structure Cal (P : Program) (w : World) (K : PySem.W.Frag) (mg : Str → Option Value) (base : Heap) (k : Nat) (x : Str) (sp : Sp) : Prop where
  ex : ∃ (f : Addr) (fd : FuncData) (ps : List Str), FnOk P w K mg base CX0 k f fd ps sp ∧ mg x = some (.ref f) ∧ PySem.W.keepIn K (.ref f) = true ∧ Binds K fd ps []
section
variable {X : Cx} {k j : Nat} {x : Str} {sp : Sp} {p pos : Pos} {e : Expr} {es : List Expr} {t : TA}
theorem pe_c (c : Cal X.prog X.w X.K X.mg X.base k x sp) (hr : Room j X.A) (hk : k ≤ j) (hg : Gl X x) (ha : PA X (e :: es) t)
    (hdb : (x == ("__debug__" : Str)) = false := by decide) (he : starEach (e :: es) X.env = (false, eval e X.env) :: starEach es X.env := by rfl) (hpl : (backTo pos (starEach es X.env)).any (·.1) = false := by rfl) :
    PE X (.Call (.Name x p) (e :: es) [] pos) (tCall sp [] E0 t) := by
  obtain ⟨f, fd, ps, F, hm, kp, b⟩ := c.ex
  exact pe_call F (hr.mono hk) hg hm kp b .nil pass0 ha hdb he hpl
theorem pe_gc {v : V} (hg : Gl X x) (h : ∃ u, X.mg x = some u ∧ RelV v u) (hd : (x == ("__debug__" : Str)) = false := by decide) : PE X (.Name x pos) (tC v) := by
  obtain ⟨u, h1, h2⟩ := h
  exact pe_glob hg h1 h2 hd
end
/-- what the head tells -/
structure Tx (K : PySem.W.Frag) (mg : Str → Option Value) : Prop where
  gl : ∀ (i : Nat) {x : Str}, Hd.fa[i]? = some (.glo x) → mg x = some (.ref (He.ga K x))
  fr : ∀ (i : Nat) {x : Str}, Hd.fa[i]? = some (.free x) → mg x = none
  c_LETTERS : ∃ u, mg "LETTERS" = some u ∧ RelV (.str "abcdefghijklmnopqrstuvwxyz") u
  c_FIGURES : ∃ u, mg "FIGURES" = some u ∧ RelV (.str "0123456789") u
  c_MOST_LETTERS : ∃ u, mg "MOST_LETTERS" = some u ∧ RelV (.int 6) u
  c_MOST_FIGURES : ∃ u, mg "MOST_FIGURES" = some u ∧ RelV (.int 3) u
  c_MOST_ROWS : ∃ u, mg "MOST_ROWS" = some u ∧ RelV (.int 2000) u
  df : ∀ (i : Nat) {d : He.DefD}, Hd.fn[i]? = some d → ∃ fd, FunD K d.name d.qual d.params d.body d.scope (d.dvs K) (d.kws K) (He.fAd K d.at_) fd
section
variable {P : Program} {w : World} {K : PySem.W.Frag} {mg : Str → Option Value} {base : Heap}
abbrev BindsBy (j : Nat) (x : Str) (ps : List Str) : Prop := ∀ (kV doc pm : Value) (an : Option Addr) (cdv ct : Value) (us : List Value), us.length = ps.length →
  bindArgs (PySem.W.fnOf x x (defArgs (Hd.top j)) (defBody (Hd.top j)) (defScope (Hd.top j)) .none kV doc pm an cdv ct) ⟨us, []⟩ = pure (ps.zip us)
theorem fnok_of (T : Tx K mg) (i : Nat) {j k : Nat} {x : Str} {N ps : List Str} {sp : Sp} (hi : Hd.fn[i]? = some (Hd.dd x j)) (S : FnScope N ps (defScope (Hd.top j))) (hb : BindsBy j x ps)
    (len : ∀ vs H Q E, sp vs H Q E → vs.length = ps.length)
    (hbody : ∀ (cdv : Value) (A : Around) (outer : List PySem.Env) (s : Shared) (H : Hp) (vs : List V) (Q : VK) (E : XK), Room k (A.deeper (envOfC x (defScope (Hd.top j)) s.heap.objs.size (He.ga K x) cdv)) → sp vs H Q E →
      ∃ t, PSs (cxOf CX0 P w K mg base N x (defScope (Hd.top j)) (He.ga K x) cdv A outer s H E).nox (defBody (Hd.top j)) t ∧ t { nx := fun _ H' => Q .non H', rt := Q } (L2.start N vs) H) :
    ∃ fd, FnOk P w K mg base CX0 (k + 1) (He.ga K x) fd ps sp ∧ PySem.W.keepIn K (.ref (He.ga K x)) = true ∧ Binds K fd ps [] ∧ FunD K x x (defArgs (Hd.top j)) (defBody (Hd.top j)) (defScope (Hd.top j)) [] [] (He.ga K x) fd := by
  obtain ⟨fd, F⟩ := T.df i hi
  have F' : FunD K x x (defArgs (Hd.top j)) (defBody (Hd.top j)) (defScope (Hd.top j)) [] [] (He.ga K x) fd := F
  refine ⟨fd, F'.ok S len fun cdv A outer s H vs Q E hr h => ?_, F'.kp, F'.bindsN hb, F'⟩
  obtain ⟨t, h1, h2⟩ := hbody cdv A outer s H vs Q E hr h
  exact ⟨t, h1.nox, h2⟩
theorem cal_of (T : Tx K mg) (i g : Nat) {j k : Nat} {x : Str} {N ps : List Str} {sp : Sp} (hi : Hd.fn[i]? = some (Hd.dd x j)) (hg : Hd.fa[g]? = some (.glo x)) (S : FnScope N ps (defScope (Hd.top j))) (hb : BindsBy j x ps)
    (len : ∀ vs H Q E, sp vs H Q E → vs.length = ps.length)
    (hbody : ∀ (cdv : Value) (A : Around) (outer : List PySem.Env) (s : Shared) (H : Hp) (vs : List V) (Q : VK) (E : XK), Room k (A.deeper (envOfC x (defScope (Hd.top j)) s.heap.objs.size (He.ga K x) cdv)) → sp vs H Q E →
      ∃ t, PSs (cxOf CX0 P w K mg base N x (defScope (Hd.top j)) (He.ga K x) cdv A outer s H E).nox (defBody (Hd.top j)) t ∧ t { nx := fun _ H' => Q .non H', rt := Q } (L2.start N vs) H) : Cal P w K mg base (k + 1) x sp := by
  obtain ⟨fd, F, kp, b, _⟩ := fnok_of (P := P) (w := w) (base := base) T i hi S hb len hbody
  exact ⟨⟨_, fd, ps, F, T.gl g hg, kp, b⟩⟩
end
end J

/-! ## Kinds -/
/-! The two kinds as the program has them. -/
namespace Q
open PySem
inductive Kd | h | b
deriving DecidableEq
abbrev Rk : Kd → Type
  | .h => Int
  | .b => Bw
instance (k : Kd) : KR (Rk k) := match k with | .h => inferInstanceAs (KR Int) | .b => inferInstanceAs (KR Bw)
def kd : Kd → Str
  | .h => "hours"
  | .b => "bits"
open KR
/-- a number of a kind, as the program's number -/
abbrev iD {k : Kd} (a : Rk k) : J.D := .int (io a)
theorem io_h (a : Rk .h) : io a = (a : Int) := rfl
theorem io_b (a : Rk .b) : io a = ((a.n : Nat) : Int) := rfl
/-! words -/
theorem nat_and_or_xor : ∀ (n a b : Nat), a ≤ n → (a ^^^ b) + (a &&& b) = (a ||| b)
  | 0, a, b, h => by
    have : a = 0 := by omega
    subst this
    simp
  | n + 1, a, b, h => by
    by_cases ha : a = 0
    · subst ha; simp
    · have ih := nat_and_or_xor n (a / 2) (b / 2) (by omega)
      have x1 : (a ^^^ b) / 2 = a / 2 ^^^ b / 2 := Nat.xor_div_two
      have x2 : (a &&& b) / 2 = a / 2 &&& b / 2 := Nat.and_div_two
      have x3 : (a ||| b) / 2 = a / 2 ||| b / 2 := Nat.or_div_two
      have y1 : (a ^^^ b) % 2 = (a % 2 + b % 2) % 2 := xor_mod2 a b
      have y2 : (a &&& b) % 2 = (a % 2) * (b % 2) := by
        have h1 := Nat.and_mod_two_pow (a := a) (b := b) (n := 1)
        rw [Nat.pow_one] at h1
        rw [h1]
        rcases Nat.mod_two_eq_zero_or_one a with z | z <;> rcases Nat.mod_two_eq_zero_or_one b with w | w <;> rw [z, w] <;> rfl
      have y3 : (a ||| b) % 2 = (a % 2) + (b % 2) - (a % 2) * (b % 2) := by
        have h1 := Nat.or_mod_two_pow (a := a) (b := b) (n := 1)
        rw [Nat.pow_one] at h1
        rw [h1]
        rcases Nat.mod_two_eq_zero_or_one a with z | z <;> rcases Nat.mod_two_eq_zero_or_one b with w | w <;> rw [z, w] <;> rfl
      rcases Nat.mod_two_eq_zero_or_one a with z | z <;> rcases Nat.mod_two_eq_zero_or_one b with w | w <;> rw [z, w] at y1 y2 y3 <;> omega
theorem bor_nat (a b : Nat) : Builtin.bitOr (a : Int) (b : Int) = ((a ||| b : Nat) : Int) := by
  have e : ∀ z : Int, Builtin.bitNot (Builtin.bitNot z) = z := fun z => by unfold Builtin.bitNot; omega
  have e2 : ∀ x : Nat, (decide ((0 : Int) ≤ Builtin.bitNot (x : Int))) = false := fun x => by
    rw [decide_eq_false_iff_not]; unfold Builtin.bitNot; omega
  have e3 : ∀ x : Nat, Builtin.bitNot (x : Int) = -(x : Int) - 1 := fun x => rfl
  unfold Builtin.bitOr Builtin.bitAnd
  rw [e2 a, e2 b]
  simp only [e, Int.toNat_natCast]
theorem band_nat (a b : Nat) : Builtin.bitAnd (a : Int) (b : Int) = ((a &&& b : Nat) : Int) := by
  have e : ∀ x : Nat, (decide ((0 : Int) ≤ (x : Int))) = true := fun x => by rw [decide_eq_true_iff]; omega
  unfold Builtin.bitAnd
  rw [e a, e b]
  simp only [Int.toNat_natCast]
theorem bxor_nat (a b : Nat) : Builtin.bitXor (a : Int) (b : Int) = ((a ^^^ b : Nat) : Int) := by
  unfold Builtin.bitXor
  rw [bor_nat, band_nat]
  have := nat_and_or_xor a a b (Nat.le_refl _)
  omega
theorem bits_nat (a : Nat) : Builtin.Int.intBits (a : Int) = len a := by
  unfold Builtin.Int.intBits len
  by_cases h : a = 0
  · subst h; rfl
  · have : ((a : Int) == 0) = false := by simpa using h
    rw [this, if_neg h]
    rfl
/-! sizes -/
/-- below 2 ^ n -/
def Sz (n : Nat) (i : Int) : Prop := i.natAbs < 2 ^ n
theorem Sz.mono {n m : Nat} {i : Int} (h : Sz n i) (h' : n ≤ m) : Sz m i := Nat.lt_of_lt_of_le h (Nat.pow_le_pow_right (by decide) h')
theorem Sz.le {n : Nat} {i j : Int} (h : Sz n i) (h' : j.natAbs ≤ i.natAbs) : Sz n j := Nat.lt_of_le_of_lt h' h
theorem Sz.mul {n m : Nat} {i j : Int} (h : Sz n i) (h' : Sz m j) : Sz (n + m) (i * j) := L2.wide_lt h h'
theorem Sz.add {n : Nat} {i j : Int} (h : Sz n i) (h' : Sz n j) : Sz (n + 1) (i + j) := by
  unfold Sz at *
  rw [Nat.pow_succ]
  omega
theorem Sz.sub {n : Nat} {i j : Int} (h : Sz n i) (h' : Sz n j) : Sz (n + 1) (i - j) := by
  unfold Sz at *
  rw [Nat.pow_succ]
  omega
theorem sz_nat {n a : Nat} : Sz n (a : Int) ↔ a < 2 ^ n := by unfold Sz; omega
theorem sz_len {n a : Nat} : Sz n (a : Int) ↔ len a ≤ n := sz_nat.trans len_le_iff.symm
theorem sz_zero {n : Nat} : Sz n 0 := by unfold Sz; exact Nat.pos_of_ne_zero (by simp)
theorem sz_one {n : Nat} (h : 0 < n) : Sz n 1 := by
  unfold Sz
  exact Nat.one_lt_two_pow (by omega)
end Q

/-! ## Sizes -/
/-! How great the numbers get. -/
namespace Q
open PySem KR
/-- size of a number -/
abbrev Szr {k : Kd} (n : Nat) (a : Rk k) : Prop := Sz n (io a)
section
variable {k : Kd}
theorem sz_red {n : Nat} {b r : Rk k} (h : red b r) (hb : Szr n b) : Szr n r := by
  cases k with
  | h =>
    obtain ⟨h1, h2⟩ := h
    have hb' : (b : Int).natAbs < 2 ^ n := hb
    show (r : Int).natAbs < 2 ^ n
    omega
  | b =>
    have h' : len r.n < len b.n := h
    exact sz_len.mpr (Nat.le_trans (Nat.le_of_lt h') (sz_len.mp hb))
theorem sz_addR {n : Nat} {a b : Rk k} (ha : Szr n a) (hb : Szr n b) : Szr (n + 1) (a + b) := by
  cases k with
  | h => exact Sz.add ha hb
  | b =>
    have h1 := sz_nat.mp ha
    have h2 := sz_nat.mp hb
    exact (sz_nat.mpr (Nat.xor_lt_two_pow h1 h2)).mono (Nat.le_succ n)
theorem sz_subR {n : Nat} {a b : Rk k} (ha : Szr n a) (hb : Szr n b) : Szr (n + 1) (a - b) := by
  cases k with
  | h => exact Sz.sub ha hb
  | b =>
    have h1 := sz_nat.mp ha
    have h2 := sz_nat.mp hb
    exact (sz_nat.mpr (Nat.xor_lt_two_pow h1 h2)).mono (Nat.le_succ n)
theorem sz_negR {n : Nat} {a : Rk k} (ha : Szr n a) : Szr n (-a) := by
  cases k with
  | h =>
    have : (a : Int).natAbs < 2 ^ n := ha
    show (-a : Int).natAbs < 2 ^ n
    omega
  | b => exact ha
theorem sz_mulR {n m : Nat} {a b : Rk k} (ha : Szr n a) (hb : Szr m b) : Szr (n + m) (a * b) := by
  cases k with
  | h => exact Sz.mul ha hb
  | b =>
    have h1 := sz_len.mp ha
    have h2 := sz_len.mp hb
    refine sz_len.mpr ?_
    show len (cm a.n b.n) ≤ n + m
    by_cases a0 : a.n = 0
    · rw [a0, cm_zeroL, len_zero]; omega
    · by_cases b0 : b.n = 0
      · rw [b0, cm_zeroR, len_zero]; omega
      · have := len_cm a0 b0
        omega
theorem sz_quo {n : Nat} {a b : Rk k} (h0 : b ≠ 0) (h1 : 0 ≤ io b) (ha : Szr n a) : Szr n (quo a b) := by
  cases k with
  | h =>
    have h1' : (0 : Int) ≤ b := h1
    have h0' : (b : Int) ≠ 0 := h0
    refine Sz.le ha ?_
    show ((a : Int) / b).natAbs ≤ (a : Int).natAbs
    exact Int.natAbs_ediv_le_natAbs a b
  | b =>
    have b0 : b.n ≠ 0 := fun q => h0 (Bw.ext q)
    have h2 := sz_len.mp ha
    refine sz_len.mpr ?_
    show len (dv a.n b.n).1 ≤ n
    obtain ⟨e, l⟩ := dv_ok (a := a.n) b0
    by_cases q0 : (dv a.n b.n).1 = 0
    · rw [q0, len_zero]; omega
    · have hl := len_cm b0 q0
      have pb : len b.n ≠ 0 := fun q => b0 (len_eq_zero.mp q)
      have pq : len (dv a.n b.n).1 ≠ 0 := fun q => q0 (len_eq_zero.mp q)
      -- the product's highest bit stands in a
      have h3 : len (cm b.n (dv a.n b.n).1) ≤ len a.n := by
        have e2 : cm b.n (dv a.n b.n).1 = a.n ^^^ (dv a.n b.n).2 := xor_cancel e.symm
        apply Nat.le_of_not_lt
        intro hlt
        have h4 : a.n ^^^ (dv a.n b.n).2 < 2 ^ (len (cm b.n (dv a.n b.n).1) - 1) := Nat.xor_lt_two_pow ((len_le_iff).mp (by omega)) ((len_le_iff).mp (by omega))
        rw [← e2] at h4
        have := len_le_of h4
        omega
      omega
theorem sz_zeroR {n : Nat} : Szr n (0 : Rk k) := by
  show Sz n (io (0 : Rk k))
  rw [io_zero]
  exact sz_zero
theorem sz_oneR {n : Nat} (h : 0 < n) : Szr n (1 : Rk k) := by
  show Sz n (io (1 : Rk k))
  rw [io_one]
  exact sz_one h
theorem sz_rst {n : Nat} {a b : Rk k} (h0 : 0 ≤ io b) (ha : Szr n a) (hb : Szr n b) : Szr n (rst a b) := by
  by_cases c : io b = 0
  · unfold rst
    rw [if_pos c]
    exact ha
  · exact sz_red (rst_red ⟨fun e => c (by rw [e, io_zero]), h0⟩) hb
theorem sz_gcdF {n : Nat} : ∀ (f : Nat) (a b : Rk k), 0 ≤ io a → 0 ≤ io b → Szr n a → Szr n b → Szr n (gcdF f a b)
  | 0, _, _, _, _, h, _ => h
  | f + 1, a, b, ha, hb, h1, h2 => by
    unfold gcdF
    by_cases c : io b = 0
    · rw [if_pos c]; exact h1
    · rw [if_neg c]
      exact sz_gcdF f b (rst a b) hb (rst_cnt ⟨fun e => c (by rw [e, io_zero]), hb⟩) h2 (sz_rst hb h1 h2)
theorem sz_gcd {n : Nat} {a b : Rk k} (ha : 0 ≤ io a) (hb : 0 ≤ io b) (h1 : Szr n a) (h2 : Szr n b) : Szr n (gcd a b) := sz_gcdF _ a b ha hb h1 h2
theorem sz_lcm {n m : Nat} {a b : Rk k} (ha : Ps a) (hb : Ps b) (h1 : Szr n a) (h2 : Szr m b) : Szr (n + m) (lcm a b) := by
  rw [lcm_eq ha hb]
  have g := gcd_ps ha hb.cnt
  exact sz_mulR (sz_quo g.ne g.cnt h1) h2
theorem sz_dv {n : Nat} {a b : Rk k} (h : Dv a b) (hb : Ps b) (ha : 0 ≤ io a) (hn : Szr n b) : Szr n a := by
  obtain ⟨c, h⟩ := h
  cases k with
  | h =>
    have b0 : (b : Int) ≠ 0 := hb.ne
    have h' : (b : Int) = a * c := h
    have hn' : (b : Int).natAbs < 2 ^ n := hn
    show (a : Int).natAbs < 2 ^ n
    have c0 : c.natAbs ≠ 0 := fun e => b0 (by rw [h', Int.natAbs_eq_zero.mp e, Int.mul_zero])
    have e := congrArg Int.natAbs h'
    rw [Int.natAbs_mul] at e
    have : (a : Int).natAbs * 1 ≤ (a : Int).natAbs * c.natAbs := Nat.mul_le_mul_left _ (by omega)
    omega
  | b => exact sz_len.mpr (Nat.le_trans (len_le_dvd (congrArg Bw.n h) fun q => hb.ne (Bw.ext q)) (sz_len.mp hn))
/-! the search for factors -/
/-- what keeps the factors small -/
def BI (n : Nat) (l r h t : Rk k) : Prop := match k, l, r, h, t with
  | .h, l, r, h, t => (h : Int).natAbs * (r : Int).natAbs + (t : Int).natAbs * (l : Int).natAbs < 2 ^ n ∧ (h : Int).natAbs < 2 ^ n ∧ l ≠ 0
  | .b, l, r, h, t => len h.n + n * len r.n ≤ n * n + 1 ∧ len t.n + n * len r.n ≤ n * n + 1
/-- a bound that is great enough -/
def bzB (n : Nat) : Nat := n * n + n + 2
theorem BI.h {n : Nat} {l r h t : Rk k} (b : BI n l r h t) : Szr (bzB n) h := by
  cases k with
  | h =>
    obtain ⟨_, b2, _⟩ := b
    exact Sz.mono (show Sz n (h : Int) from b2) (by unfold bzB; omega)
  | b =>
    obtain ⟨b1, _⟩ := b
    exact sz_len.mpr (by unfold bzB; omega)
theorem BI.t {n : Nat} {l r h t : Rk k} (b : BI n l r h t) : Szr (bzB n) t := by
  cases k with
  | h =>
    obtain ⟨b1, _, b3⟩ := b
    refine Sz.mono (show Sz n (t : Int) from ?_) (by unfold bzB; omega)
    show (t : Int).natAbs < 2 ^ n
    have l1 : 1 ≤ (l : Int).natAbs := Nat.one_le_iff_ne_zero.mpr fun e => b3 (Int.natAbs_eq_zero.mp e)
    have : (t : Int).natAbs * 1 ≤ (t : Int).natAbs * (l : Int).natAbs := Nat.mul_le_mul_left _ l1
    omega
  | b =>
    obtain ⟨_, b1⟩ := b
    exact sz_len.mpr (by unfold bzB; omega)
theorem BI.start {n : Nat} {a b : Rk k} (ha : a ≠ 0) (hb : Szr n b) (hn : 0 < n) : BI n a b 1 0 := by
  cases k with
  | h =>
    have hb' : (b : Int).natAbs < 2 ^ n := hb
    refine ⟨?_, Nat.one_lt_two_pow (by omega), ha⟩
    show (1 : Int).natAbs * (b : Int).natAbs + (0 : Int).natAbs * (a : Int).natAbs < 2 ^ n
    simpa using hb'
  | b =>
    have h2 := sz_len.mp hb
    have : n * len b.n ≤ n * n := Nat.mul_le_mul_left _ h2
    refine ⟨?_, ?_⟩
    · show len 1 + _ ≤ _
      rw [len_one]; omega
    · show len 0 + _ ≤ _
      rw [len_zero]; omega
theorem BI.step {n : Nat} {l r h t : Rk k} (b : BI n l r h t) (hl : 0 ≤ io l) (hr : Ps r) (hln : Szr n l) : BI n r (rst l r) t (h - quo l r * t) := by
  cases k with
  | h =>
    have bt := BI.t b
    obtain ⟨b1, b2, b3⟩ := b
    have r0 : (r : Int) ≠ 0 := hr.ne
    have rp : (0 : Int) ≤ r := hr.cnt
    have l0 : (0 : Int) ≤ l := hl
    have l3 : (l : Int) ≠ 0 := b3
    have e : rst l r = (l % r : Int) := rst_ps hr
    rw [e]
    have hdm := Int.mul_ediv_add_emod l r
    have m0 := Int.emod_nonneg l r0
    have q0 : 0 ≤ (l : Int) / r := Int.ediv_nonneg l0 rp
    refine ⟨?_, ?_, hr.ne⟩
    · show (t : Int).natAbs * (l % r : Int).natAbs + (h - l / r * t : Int).natAbs * (r : Int).natAbs < 2 ^ n
      have h1 : (h - l / r * t : Int).natAbs ≤ (h : Int).natAbs + ((l / r : Int)).natAbs * (t : Int).natAbs := by
        have := Int.natAbs_sub_le h (l / r * t : Int)
        rw [Int.natAbs_mul] at this
        exact this
      have h2 := Nat.mul_le_mul_right (r : Int).natAbs h1
      rw [Nat.add_mul] at h2
      have h3 : (l : Int).natAbs = (r : Int).natAbs * (l / r : Int).natAbs + (l % r : Int).natAbs := by
        have : ((l : Int).natAbs : Int) = ((r : Int).natAbs : Int) * ((l / r : Int).natAbs : Int) + ((l % r : Int).natAbs : Int) := by
          rw [Int.natAbs_of_nonneg l0, Int.natAbs_of_nonneg rp, Int.natAbs_of_nonneg q0, Int.natAbs_of_nonneg m0]
          exact hdm.symm
        exact_mod_cast this
      rw [h3, Nat.mul_add] at b1
      have h4 : (l / r : Int).natAbs * (t : Int).natAbs * (r : Int).natAbs = (t : Int).natAbs * ((r : Int).natAbs * (l / r : Int).natAbs) := by
        rw [Nat.mul_comm (l / r : Int).natAbs, Nat.mul_assoc, Nat.mul_comm (l / r : Int).natAbs]
      omega
    · show (t : Int).natAbs < 2 ^ n
      have l1 : 1 ≤ (l : Int).natAbs := Nat.one_le_iff_ne_zero.mpr fun e => b3 (Int.natAbs_eq_zero.mp e)
      have : (t : Int).natAbs * 1 ≤ (t : Int).natAbs * (l : Int).natAbs := Nat.mul_le_mul_left _ l1
      omega
  | b =>
    obtain ⟨b1, b2⟩ := b
    have hred : len (rst l r).n < len r.n := rst_red hr
    have hq : len (quo l r).n ≤ n := sz_len.mp (sz_quo hr.ne hr.cnt hln)
    have hm := sz_len.mp (sz_mulR (k := .b) (n := n) (m := len t.n) (a := quo l r) (b := t) (sz_len.mpr hq) (sz_len.mpr (Nat.le_refl _)))
    have hx : len ((h - quo l r * t : Bw).n) ≤ max (len h.n) (n + len t.n) := by
      refine len_le_of (Nat.xor_lt_two_pow ((len_le_iff).mp (Nat.le_max_left _ _)) ((len_le_iff).mp (Nat.le_trans hm (Nat.le_max_right _ _))))
    have hmul : n * len (rst l r).n + n ≤ n * len r.n := by
      have := Nat.mul_le_mul_left n (show len (rst l r).n + 1 ≤ len r.n from hred)
      rw [Nat.mul_add, Nat.mul_one] at this
      exact this
    refine ⟨by omega, ?_⟩
    show len ((h - quo l r * t : Bw).n) + n * len (rst l r).n ≤ n * n + 1
    rcases Nat.le_total (len h.n) (n + len t.n) with z | z
    · rw [Nat.max_eq_right z] at hx; omega
    · rw [Nat.max_eq_left z] at hx; omega
end
end Q

/-! ## Wr -/
/-! small rules for the walks -/
namespace Q
open KR
theorem ps_h {b : Rk .h} (h : Ps b) : @LT.lt Int _ 0 b := by
  have h1 : @LE.le Int _ 0 b := h.cnt
  have h2 : @Ne Int b 0 := h.ne
  omega
end Q
namespace J
open PySem PySem.Spec PyProof.Rows L2 Q
section
variable {K : PySem.W.Frag} {an : An} {ρ : Env} {te ta tb : TE} {tt : TT} {ts tu tw : TS} {d : D} {N : Env → Prop} {R : Env → D → Prop}
theorem ev_ifT (h : EvT K tt ρ true) (h1 : Ev K ta ρ d) : Ev K (tIf tt ta tb) ρ d := ev_if h (fun _ => h1) fun e => nomatch e
theorem ev_ifF (h : EvT K tt ρ false) (h1 : Ev K tb ρ d) : Ev K (tIf tt ta tb) ρ d := ev_if h (fun e => nomatch e) fun _ => h1
theorem ws_ifT (h : EvT K tt ρ true) (h1 : WS K an tu ρ N R) : WS K an (tIfS tt tu tw) ρ N R := ws_if h (fun _ => h1) fun e => nomatch e
theorem ws_ifF (h : EvT K tt ρ false) (h1 : WS K an tw ρ N R) : WS K an (tIfS tt tu tw) ρ N R := ws_if h (fun e => nomatch e) fun _ => h1
theorem et_h (h : Ev K te ρ (.str (kd .h))) : EvT K (tTest (tOp rEq te (tC (.str "hours")))) ρ true := et_is (et_test (ev_op h ev_str op_eqS)) (by decide +kernel)
theorem et_b (h : Ev K te ρ (.str (kd .b))) : EvT K (tTest (tOp rEq te (tC (.str "hours")))) ρ false := et_is (et_test (ev_op h ev_str op_eqS)) (by decide +kernel)
theorem szl {n : Nat} (h : n ≤ 1000000) : n ≤ sizeLine := by
  rw [sizeLine_eq]
  exact Nat.le_trans h (by decide)
theorem szb {ds : List D} (h : Nat.ble ds.length 1000000 = true) : ds.length ≤ sizeLine := szl (Nat.le_of_ble_eq_true h)
end
end J

/-! ## W1 -/
/-! The kinds' small defs. -/
namespace J
open PySem PySem.Spec PyProof.Rows L2 Q
open KR
theorem tb_nat (b k : Nat) : Builtin.bitAnd ((b : Int) / 2 ^ (k : Int).toNat) 1 = ((b / 2 ^ k % 2 : Nat) : Int) := by
  rw [bitAnd_m1, Int.toNat_natCast]
  have : (2 : Int) ^ k = ((2 ^ k : Nat) : Int) := (Int.natCast_pow 2 k).symm
  rw [this]
  omega
theorem cm_cut (a b k : Nat) : cm a (b % 2 ^ (k + 1)) = if b / 2 ^ k % 2 = 1 then cm a (b % 2 ^ k) ^^^ (a * 2 ^ k) else cm a (b % 2 ^ k) := by
  have lo : b % 2 ^ k < 2 ^ k := Nat.mod_lt _ (Nat.two_pow_pos k)
  have e : b % 2 ^ (k + 1) = (b / 2 ^ k % 2) * 2 ^ k + b % 2 ^ k := by
    rw [Nat.pow_succ, Nat.mod_mul, Nat.mul_comm, Nat.add_comm]
  split
  · rename_i h
    rw [e, h, ← xor_low_add lo, cm_xorR, Nat.shiftLeft_eq, Nat.one_mul, cm_pow, Nat.xor_comm]
  · rename_i h
    have : b / 2 ^ k % 2 = 0 := by omega
    rw [e, this, Nat.zero_mul, Nat.zero_add]
theorem shl_nat (a k : Nat) : (a : Int) * 2 ^ (k : Int).toNat = ((a * 2 ^ k : Nat) : Int) := by
  rw [Int.toNat_natCast]
  have : (2 : Int) ^ k = ((2 ^ k : Nat) : Int) := (Int.natCast_pow 2 k).symm
  rw [this, Int.natCast_mul]
section
variable {P : Program} {w : World} {K : PySem.W.Frag} {mg : Str → Option Value} {base : Heap}
def f_add_in : List D → D → Prop := fun ds d => ∃ (k : Kd) (a b : Rk k), ds = [.str (kd k), iD a, iD b] ∧ d = iD (a + b)
theorem s_add_in : FnScope [("kind" : Str), ("one" : Str), ("other" : Str)] ["kind", "one", "other"] (defScope (Hd.top 28)) := ⟨rfl, rfl, rfl, by decide +kernel, rfl, by decide +kernel, by decide +kernel⟩
theorem c_add_in (T : Tx K mg) (k : Nat) : Cal P w K mg base (k + 1) "add_in" (spD K f_add_in) := by
  have sc := s_add_in
  refine cal_of (k := k + 0) T 14 14 rfl rfl s_add_in (fun _ _ _ _ _ _ us hl => match us, hl with | [_, _, _], _ => rfl) (fun vs H Q E h => spD_len h (n := 3) (by rintro _ _ ⟨k, a, b, rfl, rfl⟩; rfl)) fun cdv A outer s H vs Q E hr h => ⟨_, PSs.nox (pss_one (ps_ret (pe_ifExp (pt_cmpR (op_eq) (pv 0) pe_str (nomark _)) (pe_op op_add (pv 1) (pv 2)) (pe_op op_xor (pv 1) (pv 2))))), spD_run h ?_⟩
  clear h
  rintro ds d ⟨k, a, b, rfl, rfl⟩
  show WS K none _ [some (false, _), some (false, _), some (false, _)] _ _
  refine ws_ret ?_ rfl
  cases k
  · exact ev_ifT (et_h (ev_var rfl)) (ev_op (ev_var rfl) (ev_var rfl) op_i0)
  · refine ev_ifF (et_b (ev_var rfl)) (ev_is (ev_op (ev_var rfl) (ev_var rfl) op_i0) ?_)
    exact congrArg D.int (bxor_nat _ _)

def f_less_in : List D → D → Prop := fun ds d => ∃ (k : Kd) (a b : Rk k), ds = [.str (kd k), iD a, iD b] ∧ d = iD (a - b)
theorem s_less_in : FnScope [("kind" : Str), ("one" : Str), ("other" : Str)] ["kind", "one", "other"] (defScope (Hd.top 29)) := ⟨rfl, rfl, rfl, by decide +kernel, rfl, by decide +kernel, by decide +kernel⟩
theorem c_less_in (T : Tx K mg) (k : Nat) : Cal P w K mg base (k + 1) "less_in" (spD K f_less_in) := by
  have sc := s_less_in
  refine cal_of (k := k + 0) T 15 15 rfl rfl s_less_in (fun _ _ _ _ _ _ us hl => match us, hl with | [_, _, _], _ => rfl) (fun vs H Q E h => spD_len h (n := 3) (by rintro _ _ ⟨k, a, b, rfl, rfl⟩; rfl)) fun cdv A outer s H vs Q E hr h => ⟨_, PSs.nox (pss_one (ps_ret (pe_ifExp (pt_cmpR (op_eq) (pv 0) pe_str (nomark _)) (pe_op op_sub (pv 1) (pv 2)) (pe_op op_xor (pv 1) (pv 2))))), spD_run h ?_⟩
  clear h
  rintro ds d ⟨k, a, b, rfl, rfl⟩
  show WS K none _ [some (false, _), some (false, _), some (false, _)] _ _
  refine ws_ret ?_ rfl
  cases k
  · exact ev_ifT (et_h (ev_var rfl)) (ev_op (ev_var rfl) (ev_var rfl) op_i0)
  · refine ev_ifF (et_b (ev_var rfl)) (ev_is (ev_op (ev_var rfl) (ev_var rfl) op_i0) ?_)
    exact congrArg D.int (bxor_nat _ _)

def f_turned_in : List D → D → Prop := fun ds d => ∃ (k : Kd) (a : Rk k), ds = [.str (kd k), iD a] ∧ d = iD (-a)
theorem s_turned_in : FnScope [("kind" : Str), ("number" : Str)] ["kind", "number"] (defScope (Hd.top 30)) := ⟨rfl, rfl, rfl, by decide +kernel, rfl, by decide +kernel, by decide +kernel⟩
theorem c_turned_in (T : Tx K mg) (k : Nat) : Cal P w K mg base (k + 1) "turned_in" (spD K f_turned_in) := by
  have sc := s_turned_in
  refine cal_of (k := k + 0) T 16 16 rfl rfl s_turned_in (fun _ _ _ _ _ _ us hl => match us, hl with | [_, _], _ => rfl) (fun vs H Q E h => spD_len h (n := 2) (by rintro _ _ ⟨k, a, rfl, rfl⟩; rfl)) fun cdv A outer s H vs Q E hr h => ⟨_, PSs.nox (pss_one (ps_ret (pe_ifExp (pt_cmpR (op_eq) (pv 0) pe_str (nomark _)) (pe_op op_sub pe_int (pv 1)) (pv 1)))), spD_run h ?_⟩
  clear h
  rintro ds d ⟨k, a, rfl, rfl⟩
  show WS K none _ [some (false, _), some (false, _)] _ _
  refine ws_ret ?_ rfl
  cases k
  · refine ev_ifT (et_h (ev_var rfl)) (ev_is (ev_op ev_int (ev_var rfl) op_i0) ?_)
    exact congrArg D.int (Int.zero_sub _)
  · exact ev_ifF (et_b (ev_var rfl)) (ev_var rfl)

def f_times_in : List D → D → Prop := fun ds d => ∃ (k : Kd) (a b : Rk k) (n m : Nat), ds = [.str (kd k), iD a, iD b] ∧ d = iD (a * b) ∧ Szr n a ∧ Szr m b ∧ n + m ≤ 100000000
theorem s_times_in : FnScope [("kind" : Str), ("one" : Str), ("other" : Str), ("found" : Str), ("place" : Str)] ["kind", "one", "other"] (defScope (Hd.top 31)) := ⟨rfl, rfl, rfl, by decide +kernel, rfl, by decide +kernel, by decide +kernel⟩
theorem c_times_in (T : Tx K mg) (k : Nat) : Cal P w K mg base (k + 1) "times_in" (spD K f_times_in) := by
  have sc := s_times_in
  refine cal_of (k := k + 0) T 17 17 rfl rfl s_times_in (fun _ _ _ _ _ _ us hl => match us, hl with | [_, _, _], _ => rfl) (fun vs H Q E h => spD_len h (n := 3) (by rintro _ _ ⟨k, a, b, n, m, rfl, rfl, ha, hb, hs⟩; rfl)) fun cdv A outer s H vs Q E hr h => ⟨_, PSs.nox (pss_cons (ps_if (pt_cmpR (op_eq) (pv 0) pe_str (nomark _)) (pss_one (ps_ret (pe_op op_mulX (pv 1) (pv 2)))) pss_nil) (pss_cons (ps_set (i := 3) sc.nd rfl (Or.inl rfl) pe_int) (pss_cons (ps_for PassesOwn.never rfl (pi_range1 (by rfl) (T.fr 85 rfl) (pa_cons (pe_bits (pv 2)) pa_nil)) (pg_name (i := 4) sc.nd rfl (Or.inl rfl)) (pss_one (ps_if (pt_cmpR (op_eq) (pe_op op_and (pe_op op_shr (pv 2) (pv 4)) pe_int) pe_int (nomark _)) (pss_one (ps_set (i := 3) sc.nd rfl (Or.inl rfl) (pe_op op_xor (pv 3) (pe_op op_shlW (pv 1) (pv 4))))) pss_nil))) (pss_one (ps_ret (pv 3)))))), spD_run h ?_⟩
  clear h
  rintro ds d ⟨k, a, b, n, m, rfl, rfl, ha, hb, hs⟩
  show WS K none _ [some (false, _), some (false, _), some (false, _), none, none] _ _
  cases k
  · exact ws_seq (ws_ifT (et_h (ev_var rfl)) (ws_ret (ev_op (ev_var rfl) (ev_var rfl) (op_iC (mulx_ok ha hb (by omega)))) rfl))
  · refine ws_seq (ws_ifF (et_b (ev_var rfl)) (ws_next ?_))
    refine ws_seq (ws_set ev_int ?_)
    have hb' := sz_len.mp hb
    refine ws_seq (ws_forR1 (fun i ρ' => ∃ pl, ρ' = [some (false, .str (kd .b)), some (false, iD a), some (false, iD b), some (false, .int ((cm a.n (b.n % 2 ^ i) : Nat) : Int)), pl]) (ea_cons (ev_bits (ev_var rfl)) ea_nil) ?_ ?_ ⟨none, ?_⟩ ?_ ?_)
    · rw [io_b, bits_nat]; omega
    · omega
    · rw [Nat.pow_zero, Nat.mod_one, cm_zeroR]; rfl
    · rintro i ρ' hi ⟨pl, rfl⟩
      rw [io_b, bits_nat] at hi
      refine ws_if (b := decide (b.n / 2 ^ i % 2 = 1)) (et_is (et_test (ev_op (ev_op (ev_op (ev_var rfl) (ev_var rfl) (op_iC (by omega))) ev_int op_i0) ev_int op_eqI)) ?_) (fun h => ?_) fun h => ws_next ⟨some (false, .int (i : Int)), ?_⟩
      · rw [io_b, tb_nat]
        apply decide_eq_decide.mpr
        omega
      · refine ws_set (ev_op (ev_var rfl) (ev_op (ev_var rfl) (ev_var rfl) (op_iC (shl_ok ha (by omega)))) op_i0) ⟨some (false, .int (i : Int)), ?_⟩
        rw [io_b, shl_nat, bxor_nat, cm_cut, if_pos (of_decide_eq_true h)]
        rfl
      · rw [cm_cut, if_neg (of_decide_eq_false h)]
        rfl
    · rintro ρ' ⟨pl, rfl⟩
      rw [io_b, bits_nat, Int.toNat_natCast, Nat.mod_eq_of_lt (len_lt b.n)]
      exact ws_ret (ev_var rfl) rfl

def f_divided_in : List D → D → Prop := fun ds d => ∃ (k : Kd) (a b : Rk k) (n : Nat), ds = [.str (kd k), iD a, iD b] ∧ d = .tup [iD (quo a b), iD (rem a b)] ∧ Ps b ∧ Szr 9000 b ∧ Szr n a ∧ n ≤ 100000000
theorem s_divided_in : FnScope [("kind" : Str), ("number" : Str), ("by" : Str), ("often" : Str), ("rest" : Str), ("place" : Str)] ["kind", "number", "by"] (defScope (Hd.top 32)) := ⟨rfl, rfl, rfl, by decide +kernel, rfl, by decide +kernel, by decide +kernel⟩
theorem c_divided_in (T : Tx K mg) (k : Nat) : Cal P w K mg base (k + 1) "divided_in" (spD K f_divided_in) := by
  have sc := s_divided_in
  refine cal_of (k := k + 0) T 18 18 rfl rfl s_divided_in (fun _ _ _ _ _ _ us hl => match us, hl with | [_, _, _], _ => rfl) (fun vs H Q E h => spD_len h (n := 3) (by rintro _ _ ⟨k, a, b, n, rfl, rfl, pb, hb, ha, hn⟩; rfl)) fun cdv A outer s H vs Q E hr h => ⟨_, PSs.nox (pss_cons (ps_if (pt_cmpR (op_eq) (pv 0) pe_str (nomark _)) (pss_one (ps_ret (pe_tup (pa_cons (pe_op op_fdivW (pv 1) (pv 2)) (pa_cons (pe_op op_modN (pv 1) (pv 2)) pa_nil))))) pss_nil) (pss_cons (ps_par (i := 3) (j := 4) (by rfl) sc.nd rfl rfl (by decide) rfl rfl (pa_cons pe_int (pa_cons (pv 1) pa_nil)) (by rfl)) (pss_cons (ps_while PassesOwn.never (pt_cmpR (op_ge) (pe_bits (pv 4)) (pe_bits (pv 2)) (nomark _)) (pss_cons (ps_set (i := 5) sc.nd rfl (Or.inl rfl) (pe_op op_sub (pe_bits (pv 4)) (pe_bits (pv 2)))) (pss_one (ps_par (i := 3) (j := 4) (by rfl) sc.nd rfl rfl (by decide) rfl rfl (pa_cons (pe_op op_or (pv 3) (pe_op op_shlW pe_int (pv 5))) (pa_cons (pe_op op_xor (pv 4) (pe_op op_shlW (pv 2) (pv 5))) pa_nil)) (by rfl))))) (pss_one (ps_ret (pe_tup (pa_cons (pv 3) (pa_cons (pv 4) pa_nil)))))))), spD_run h ?_⟩
  clear h
  rintro ds d ⟨k, a, b, n, rfl, rfl, pb, hb, ha, hn⟩
  show WS K none _ [some (false, _), some (false, _), some (false, _), none, none, none] _ _
  have b0 := pb.ne
  cases k
  · have bp := ps_h pb
    refine ws_seq (ws_ifT (et_h (ev_var rfl)) (ws_ret (ev_is (ev_tup (ea_cons (ev_op (ev_var rfl) (ev_var rfl) (op_iC (wide_div bp hb (by decide) (by decide)))) (ea_cons (ev_op (ev_var rfl) (ev_var rfl) (op_iC (Int.ne_of_gt bp))) ea_nil)) (szb rfl)) ?_) rfl))
    show D.tup [.int ((a : Int) / b), .int ((a : Int).fmod b)] = .tup [.int ((a : Int) / b), .int ((a : Int) % b)]
    rw [Int.fmod_eq_emod_of_nonneg _ (Int.le_of_lt bp)]
  · have bn : b.n ≠ 0 := fun q => b0 (Bw.ext q)
    have lb := sz_len.mp hb
    have la := sz_len.mp ha
    refine ws_seq (ws_ifF (et_b (ev_var rfl)) (ws_next ?_))
    refine ws_seq (ws_par (ea_cons ev_int (ea_cons (ev_var rfl) ea_nil)) ?_)
    refine ws_seq (ws_while (fun m ρ' => ∃ (o r : Nat) (pl : Option (Bool × D)), ρ' = [some (false, .str (kd .b)), some (false, iD a), some (false, iD b), some (false, .int (o : Int)), some (false, .int (r : Int)), pl] ∧ len r < m ∧ len r ≤ len a.n ∧ dvG m b.n o r = dv a.n b.n) ⟨len a.n + 1, 0, a.n, none, rfl, by omega, by omega, rfl⟩ ?_)
    rintro m ρ' ⟨o, r, pl, rfl, h1, h2, h3⟩
    refine ⟨decide (len b.n ≤ len r), et_is (et_test (ev_op (ev_bits (ev_var rfl)) (ev_bits (ev_var rfl)) op_b0)) ?_, fun h => ?_, fun h => ?_⟩
    · rw [io_b, bits_nat, bits_nat]
      exact decide_eq_decide.mpr (by omega)
    · have h := of_decide_eq_true h
      cases m with
      | zero => omega
      | succ m =>
        unfold dvG at h3
        rw [if_pos h] at h3
        have e1 : ((len r : Nat) : Int) - ((len b.n : Nat) : Int) = ((len r - len b.n : Nat) : Int) := by omega
        refine ws_seq (ws_set (ev_is (ev_op (ev_bits (ev_var rfl)) (ev_bits (ev_var rfl)) op_i0) (by rw [io_b, bits_nat, bits_nat, e1])) ?_)
        refine ws_par (ea_cons (ev_op (ev_var rfl) (ev_op ev_int (ev_var rfl) (op_iC (shl_ok (n := 1) (by decide) (by omega)))) op_i0) (ea_cons (ev_op (ev_var rfl) (ev_op (ev_var rfl) (ev_var rfl) (op_iC (shl_ok (n := 9000) hb (by omega)))) op_i0) ea_nil)) ?_
        have r0 : r ≠ 0 := fun q => by
          rw [q, len_zero] at h
          exact bn (len_eq_zero.mp (by omega))
        have el : len (b.n <<< (len r - len b.n)) = len r := by rw [len_shl bn]; omega
        have lt := len_xor_lt (x := r) (y := b.n <<< (len r - len b.n)) el.symm r0
        refine ⟨m, by omega, _, _, some (false, .int ((len r - len b.n : Nat) : Int)), ?_, ?_, ?_, h3⟩
        · have e2 : Builtin.bitOr (o : Int) (1 * 2 ^ ((len r - len b.n : Nat) : Int).toNat) = ((o ||| 1 <<< (len r - len b.n) : Nat) : Int) := by
            have := shl_nat 1 (len r - len b.n)
            rw [show (1 : Int) = ((1 : Nat) : Int) from rfl, this, bor_nat, Nat.shiftLeft_eq]
          have e3 : Builtin.bitXor (r : Int) (io b * 2 ^ ((len r - len b.n : Nat) : Int).toNat) = ((r ^^^ b.n <<< (len r - len b.n) : Nat) : Int) := by
            rw [io_b, shl_nat, bxor_nat, Nat.shiftLeft_eq]
          rw [e2, e3]
          rfl
        · omega
        · omega
    · have h := of_decide_eq_false h
      have e : dv a.n b.n = (o, r) := by
        rw [← h3]
        cases m with
        | zero => rfl
        | succ m => unfold dvG; rw [if_neg h]
      refine ws_ret (ev_tup (ea_cons (ev_var rfl) (ea_cons (ev_var rfl) ea_nil)) (szb rfl)) ?_
      show D.tup [.int (o : Int), .int (r : Int)] = .tup [.int ((dv a.n b.n).1 : Int), .int ((dv a.n b.n).2 : Int)]
      rw [e]

def f_rest_in : List D → D → Prop := fun ds d => ∃ (k : Kd) (a b : Rk k) (n : Nat), ds = [.str (kd k), iD a, iD b] ∧ d = iD (rst a b) ∧ 0 ≤ io b ∧ Szr 9000 b ∧ Szr n a ∧ n ≤ 100000000
theorem s_rest_in : FnScope [("kind" : Str), ("number" : Str), ("by" : Str)] ["kind", "number", "by"] (defScope (Hd.top 33)) := ⟨rfl, rfl, rfl, by decide +kernel, rfl, by decide +kernel, by decide +kernel⟩
theorem c_rest_in (T : Tx K mg) (k : Nat) : Cal P w K mg base (k + 2) "rest_in" (spD K f_rest_in) := by
  have c_divided_in := c_divided_in (P := P) (w := w) (base := base) T k
  have sc := s_rest_in
  refine cal_of (k := k + 1) T 19 19 rfl rfl s_rest_in (fun _ _ _ _ _ _ us hl => match us, hl with | [_, _, _], _ => rfl) (fun vs H Q E h => spD_len h (n := 3) (by rintro _ _ ⟨k, a, b, n, rfl, rfl, pb, hb, ha, hn⟩; rfl)) fun cdv A outer s H vs Q E hr h => ⟨_, PSs.nox (pss_one (ps_ret (pe_ifExp (pt_cmpR (op_eq) (pv 2) pe_int (nomark _)) (pv 1) (pe_ix ix_tup (pe_c c_divided_in hr (by omega) (by rfl) (pa_cons (pv 0) (pa_cons (pv 1) (pa_cons (pv 2) pa_nil)))) pe_int (fun _ _ => rfl))))), spD_run h ?_⟩
  clear h
  rintro ds d ⟨k, a, b, n, rfl, rfl, pb, hb, ha, hn⟩
  show WS K none _ [some (false, _), some (false, _), some (false, _)] _ _
  refine ws_ret (ev_if (et_test (ev_op (ev_var rfl) ev_int op_eqI)) (fun h => ?_) fun h => ?_) rfl
  · have h := of_decide_eq_true h
    unfold rst
    rw [if_pos h]
    exact ev_var rfl
  · have h := of_decide_eq_false h
    have hp : Ps b := ⟨fun e => h (by rw [e, io_zero]), pb⟩
    rw [rst_ps hp]
    exact ev_op (ev_call (ea_cons (ev_var rfl) (ea_cons (ev_var rfl) (ea_cons (ev_var rfl) ea_nil))) ⟨k, a, b, n, rfl, rfl, hp, hb, ha, hn⟩) ev_int (op_ixT rfl)

def f_over_in : List D → D → Prop := fun ds d => ∃ (k : Kd) (a b : Rk k) (n : Nat), ds = [.str (kd k), iD a, iD b] ∧ d = iD (quo a b) ∧ Ps b ∧ Szr 9000 b ∧ Szr n a ∧ n ≤ 100000000
theorem s_over_in : FnScope [("kind" : Str), ("number" : Str), ("by" : Str)] ["kind", "number", "by"] (defScope (Hd.top 34)) := ⟨rfl, rfl, rfl, by decide +kernel, rfl, by decide +kernel, by decide +kernel⟩
theorem c_over_in (T : Tx K mg) (k : Nat) : Cal P w K mg base (k + 2) "over_in" (spD K f_over_in) := by
  have c_divided_in := c_divided_in (P := P) (w := w) (base := base) T k
  have sc := s_over_in
  refine cal_of (k := k + 1) T 20 20 rfl rfl s_over_in (fun _ _ _ _ _ _ us hl => match us, hl with | [_, _, _], _ => rfl) (fun vs H Q E h => spD_len h (n := 3) (by rintro _ _ ⟨k, a, b, n, rfl, rfl, pb, hb, ha, hn⟩; rfl)) fun cdv A outer s H vs Q E hr h => ⟨_, PSs.nox (pss_one (ps_ret (pe_ix ix_tup (pe_c c_divided_in hr (by omega) (by rfl) (pa_cons (pv 0) (pa_cons (pv 1) (pa_cons (pv 2) pa_nil)))) pe_int (fun _ _ => rfl)))), spD_run h ?_⟩
  clear h
  rintro ds d ⟨k, a, b, n, rfl, rfl, pb, hb, ha, hn⟩
  show WS K none _ [some (false, _), some (false, _), some (false, _)] _ _
  exact ws_ret (ev_op (ev_call (ea_cons (ev_var rfl) (ea_cons (ev_var rfl) (ea_cons (ev_var rfl) ea_nil))) ⟨k, a, b, n, rfl, rfl, pb, hb, ha, hn⟩) ev_int (op_ixT rfl)) rfl

def f_is_multiple_in : List D → D → Prop := fun ds d => ∃ (k : Kd) (a b : Rk k) (n : Nat), ds = [.str (kd k), iD a, iD b] ∧ d = .bl (decide (io (rst a b) = 0)) ∧ 0 ≤ io b ∧ Szr 9000 b ∧ Szr n a ∧ n ≤ 100000000
theorem s_is_multiple_in : FnScope [("kind" : Str), ("number" : Str), ("by" : Str)] ["kind", "number", "by"] (defScope (Hd.top 35)) := ⟨rfl, rfl, rfl, by decide +kernel, rfl, by decide +kernel, by decide +kernel⟩
theorem c_is_multiple_in (T : Tx K mg) (k : Nat) : Cal P w K mg base (k + 3) "is_multiple_in" (spD K f_is_multiple_in) := by
  have c_rest_in := c_rest_in (P := P) (w := w) (base := base) T k
  have sc := s_is_multiple_in
  refine cal_of (k := k + 2) T 21 21 rfl rfl s_is_multiple_in (fun _ _ _ _ _ _ us hl => match us, hl with | [_, _, _], _ => rfl) (fun vs H Q E h => spD_len h (n := 3) (by rintro _ _ ⟨k, a, b, n, rfl, rfl, pb, hb, ha, hn⟩; rfl)) fun cdv A outer s H vs Q E hr h => ⟨_, PSs.nox (pss_one (ps_ret (pe_cmpR (op_eq) (pe_c c_rest_in hr (by omega) (by rfl) (pa_cons (pv 0) (pa_cons (pv 1) (pa_cons (pv 2) pa_nil)))) pe_int (nomark _)))), spD_run h ?_⟩
  clear h
  rintro ds d ⟨k, a, b, n, rfl, rfl, pb, hb, ha, hn⟩
  show WS K none _ [some (false, _), some (false, _), some (false, _)] _ _
  exact ws_ret (ev_op (ev_call (ea_cons (ev_var rfl) (ea_cons (ev_var rfl) (ea_cons (ev_var rfl) ea_nil))) ⟨k, a, b, n, rfl, rfl, pb, hb, ha, hn⟩) ev_int op_eqI) rfl

end
end J

/-! ## W2 -/
/-! Divisors, multiples, rests that meet: the program's. -/
namespace J
open PySem PySem.Spec PyProof.Rows L2 Q
open KR
/-- what a meeting gives -/
def oD {k : Kd} : Option (Rk k × Rk k) → D
  | none => .non
  | some (r, l) => .tup [iD r, iD l]
section
variable {P : Program} {w : World} {K : PySem.W.Frag} {mg : Str → Option Value} {base : Heap}
def f_divisor_in : List D → D → Prop := fun ds d => ∃ (k : Kd) (a b : Rk k), ds = [.str (kd k), iD a, iD b] ∧ d = iD (gcd a b) ∧ 0 ≤ io a ∧ 0 ≤ io b ∧ Szr 9000 a ∧ Szr 9000 b
theorem s_divisor_in : FnScope [("kind" : Str), ("one" : Str), ("other" : Str)] ["kind", "one", "other"] (defScope (Hd.top 36)) := ⟨rfl, rfl, rfl, by decide +kernel, rfl, by decide +kernel, by decide +kernel⟩
theorem c_divisor_in (T : Tx K mg) (k : Nat) : Cal P w K mg base (k + 3) "divisor_in" (spD K f_divisor_in) := by
  have c_rest_in := c_rest_in (P := P) (w := w) (base := base) T k
  have sc := s_divisor_in
  refine cal_of (k := k + 2) T 22 22 rfl rfl s_divisor_in (fun _ _ _ _ _ _ us hl => match us, hl with | [_, _, _], _ => rfl) (fun vs H Q E h => spD_len h (n := 3) (by rintro _ _ ⟨k, a, b, rfl, rfl, ca, cb, ha, hb⟩; rfl)) fun cdv A outer s H vs Q E hr h => ⟨_, PSs.nox (pss_cons (ps_while PassesOwn.never (pt_cmpR (op_ne) (pv 2) pe_int (nomark _)) (pss_one (ps_par (i := 1) (j := 2) (by rfl) sc.nd rfl rfl (by decide) rfl rfl (pa_cons (pv 2) (pa_cons (pe_c c_rest_in hr (by omega) (by rfl) (pa_cons (pv 0) (pa_cons (pv 1) (pa_cons (pv 2) pa_nil)))) pa_nil)) (by rfl)))) (pss_one (ps_ret (pv 1)))), spD_run h ?_⟩
  clear h
  rintro ds d ⟨k, a, b, rfl, rfl, ca, cb, ha, hb⟩
  show WS K none _ [some (false, _), some (false, _), some (false, _)] _ _
  refine ws_seq (ws_while (fun m ρ' => ∃ (a' b' : Rk k), ρ' = [some (false, .str (kd k)), some (false, iD a'), some (false, iD b')] ∧ mu b' < m ∧ 0 ≤ io a' ∧ 0 ≤ io b' ∧ Szr 9000 a' ∧ Szr 9000 b' ∧ gcdF m a' b' = gcd a b) ⟨mu b + 1, a, b, rfl, by omega, ca, cb, ha, hb, rfl⟩ ?_)
  rintro m ρ' ⟨a', b', rfl, hm, ca', cb', ha', hb', e⟩
  refine ⟨!decide (io b' = 0), et_test (ev_op (ev_var rfl) ev_int op_neI), fun h => ?_, fun h => ?_⟩
  · have h : ¬ io b' = 0 := by simpa using h
    have hp : Ps b' := ⟨fun e => h (by rw [e, io_zero]), cb'⟩
    cases m with
    | zero => omega
    | succ m =>
      unfold gcdF at e
      rw [if_neg h] at e
      refine ws_par (ea_cons (ev_var rfl) (ea_cons (ev_call (ea_cons (ev_var rfl) (ea_cons (ev_var rfl) (ea_cons (ev_var rfl) ea_nil))) ⟨k, a', b', 9000, rfl, rfl, cb', hb', ha', by omega⟩) ea_nil)) ?_
      exact ⟨m, by omega, b', rst a' b', rfl, by have := red_mu (rst_red (x := a') hp); omega, cb', rst_cnt hp, hb', sz_rst cb' ha' hb', e⟩
  · have h : io b' = 0 := by simpa using h
    refine ws_ret (ev_is (ev_var rfl) ?_) rfl
    cases m with
    | zero => omega
    | succ m =>
      unfold gcdF at e
      rw [if_pos h] at e
      rw [e]

def f_multiple_in : List D → D → Prop := fun ds d => ∃ (k : Kd) (a b : Rk k), ds = [.str (kd k), iD a, iD b] ∧ d = iD (lcm a b) ∧ Ps a ∧ Ps b ∧ Szr 9000 a ∧ Szr 9000 b
theorem s_multiple_in : FnScope [("kind" : Str), ("one" : Str), ("other" : Str)] ["kind", "one", "other"] (defScope (Hd.top 37)) := ⟨rfl, rfl, rfl, by decide +kernel, rfl, by decide +kernel, by decide +kernel⟩
theorem c_multiple_in (T : Tx K mg) (k : Nat) : Cal P w K mg base (k + 4) "multiple_in" (spD K f_multiple_in) := by
  have c_times_in := c_times_in (P := P) (w := w) (base := base) T k
  have c_over_in := c_over_in (P := P) (w := w) (base := base) T k
  have c_divisor_in := c_divisor_in (P := P) (w := w) (base := base) T k
  have sc := s_multiple_in
  refine cal_of (k := k + 3) T 23 23 rfl rfl s_multiple_in (fun _ _ _ _ _ _ us hl => match us, hl with | [_, _, _], _ => rfl) (fun vs H Q E h => spD_len h (n := 3) (by rintro _ _ ⟨k, a, b, rfl, rfl, pa, pb, ha, hb⟩; rfl)) fun cdv A outer s H vs Q E hr h => ⟨_, PSs.nox (pss_cons (ps_if (PW.pt (pw_or (pt_cmpR (op_eq) (pv 1) pe_int (nomark _)) (pw_or1 (pt_cmpR (op_eq) (pv 2) pe_int (nomark _))))) (pss_one (ps_ret pe_int)) pss_nil) (pss_one (ps_ret (pe_c c_times_in hr (by omega) (by rfl) (pa_cons (pv 0) (pa_cons (pe_c c_over_in hr (by omega) (by rfl) (pa_cons (pv 0) (pa_cons (pv 1) (pa_cons (pe_c c_divisor_in hr (by omega) (by rfl) (pa_cons (pv 0) (pa_cons (pv 1) (pa_cons (pv 2) pa_nil)))) pa_nil)))) (pa_cons (pv 2) pa_nil))))))), spD_run h ?_⟩
  clear h
  rintro ds d ⟨k, a, b, rfl, rfl, pa, pb, ha, hb⟩
  show WS K none _ [some (false, _), some (false, _), some (false, _)] _ _
  have na : ¬ io a = 0 := fun e => pa.ne (io_eq_zero.mp e)
  have nb : ¬ io b = 0 := fun e => pb.ne (io_eq_zero.mp e)
  have g := gcd_ps pa pb.cnt
  refine ws_seq (ws_ifF (et_is (et_or (et_test (ev_op (ev_var rfl) ev_int op_eqI)) fun _ => et_test (ev_op (ev_var rfl) ev_int op_eqI)) ?_) (ws_next ?_))
  · rw [decide_eq_false na, decide_eq_false nb]; rfl
  · refine ws_ret ?_ rfl
    rw [lcm_eq pa pb]
    refine ev_call (ea_cons (ev_var rfl) (ea_cons (ev_call (ea_cons (ev_var rfl) (ea_cons (ev_var rfl) (ea_cons (ev_call (ea_cons (ev_var rfl) (ea_cons (ev_var rfl) (ea_cons (ev_var rfl) ea_nil))) ⟨k, a, b, rfl, rfl, pa.cnt, pb.cnt, ha, hb⟩) ea_nil))) ⟨k, a, gcd a b, 9000, rfl, rfl, g, sz_gcd pa.cnt pb.cnt ha hb, ha, by omega⟩) (ea_cons (ev_var rfl) ea_nil)))
      ⟨k, quo a (gcd a b), b, 9000, 9000, rfl, rfl, sz_quo g.ne g.cnt ha, hb, by omega⟩

def f_bezout_in : List D → D → Prop := fun ds d => ∃ (k : Kd) (a b : Rk k), ds = [.str (kd k), iD a, iD b] ∧ d = iD (bez a b) ∧ Szr (bzB 2000) (bez a b) ∧ Ps a ∧ Ps b ∧ Szr 2000 a ∧ Szr 2000 b
theorem sz_bezF {k : Kd} {n : Nat} : ∀ (f : Nat) (l r h t : Rk k), BI n l r h t → 0 ≤ io l → 0 ≤ io r → Szr n l → Szr n r → Szr (bzB n) (bezF f l r h t)
  | 0, _, _, _, _, b, _, _, _, _ => b.h
  | f + 1, l, r, h, t, b, hl, hr, sl, sr => by
    unfold bezF
    by_cases c : io r = 0
    · rw [if_pos c]; exact b.h
    · rw [if_neg c]
      have hp : Ps r := ⟨fun e => c (by rw [e, io_zero]), hr⟩
      exact sz_bezF f r (rst l r) t (h - quo l r * t) (b.step hl hp sl) hr (rst_cnt hp) sr (sz_rst hr sl sr)
theorem sz_bez {k : Kd} {n : Nat} {a b : Rk k} (pa : Ps a) (pb : Ps b) (ha : Szr n a) (hb : Szr n b) (hn : 0 < n) : Szr (bzB n) (bez a b) := sz_bezF _ a b 1 0 (BI.start pa.ne hb hn) pa.cnt pb.cnt ha hb
theorem s_bezout_in : FnScope [("kind" : Str), ("one" : Str), ("other" : Str), ("left" : Str), ("right" : Str), ("here" : Str), ("there" : Str), ("often" : Str), ("rest" : Str)] ["kind", "one", "other"] (defScope (Hd.top 38)) := ⟨rfl, rfl, rfl, by decide +kernel, rfl, by decide +kernel, by decide +kernel⟩
theorem c_bezout_in (T : Tx K mg) (k : Nat) : Cal P w K mg base (k + 2) "bezout_in" (spD K f_bezout_in) := by
  have c_divided_in := c_divided_in (P := P) (w := w) (base := base) T k
  have c_less_in := c_less_in (P := P) (w := w) (base := base) T k
  have c_times_in := c_times_in (P := P) (w := w) (base := base) T k
  have sc := s_bezout_in
  refine cal_of (k := k + 1) T 24 24 rfl rfl s_bezout_in (fun _ _ _ _ _ _ us hl => match us, hl with | [_, _, _], _ => rfl) (fun vs H Q E h => spD_len h (n := 3) (by rintro _ _ ⟨k, a, b, rfl, rfl, sb, pa, pb, ha, hb⟩; rfl)) fun cdv A outer s H vs Q E hr h => ⟨_, PSs.nox (pss_cons (ps_asg (pe_tup (pa_cons (pv 1) (pa_cons (pv 2) (pa_cons pe_int (pa_cons pe_int pa_nil))))) (pg_tup rfl (pgs_cons (pg_name (i := 3) sc.nd rfl (Or.inl rfl)) (pgs_cons (pg_name (i := 4) sc.nd rfl (Or.inl rfl)) (pgs_cons (pg_name (i := 5) sc.nd rfl (Or.inl rfl)) (pgs_cons (pg_name (i := 6) sc.nd rfl (Or.inl rfl)) pgs_nil)))))) (pss_cons (ps_while PassesOwn.never (pt_cmpR (op_ne) (pv 4) pe_int (nomark _)) (pss_cons (ps_asg (pe_c c_divided_in hr (by omega) (by rfl) (pa_cons (pv 0) (pa_cons (pv 3) (pa_cons (pv 4) pa_nil)))) (pg_tup rfl (pgs_cons (pg_name (i := 7) sc.nd rfl (Or.inl rfl)) (pgs_cons (pg_name (i := 8) sc.nd rfl (Or.inl rfl)) pgs_nil)))) (pss_one (ps_asg (pe_tup (pa_cons (pv 4) (pa_cons (pv 8) (pa_cons (pv 6) (pa_cons (pe_c c_less_in hr (by omega) (by rfl) (pa_cons (pv 0) (pa_cons (pv 5) (pa_cons (pe_c c_times_in hr (by omega) (by rfl) (pa_cons (pv 0) (pa_cons (pv 7) (pa_cons (pv 6) pa_nil)))) pa_nil)))) pa_nil))))) (pg_tup rfl (pgs_cons (pg_name (i := 3) sc.nd rfl (Or.inl rfl)) (pgs_cons (pg_name (i := 4) sc.nd rfl (Or.inl rfl)) (pgs_cons (pg_name (i := 5) sc.nd rfl (Or.inl rfl)) (pgs_cons (pg_name (i := 6) sc.nd rfl (Or.inl rfl)) pgs_nil))))))))) (pss_one (ps_ret (pv 5))))), spD_run h ?_⟩
  clear h
  rintro ds d ⟨k, a, b, rfl, rfl, sb, pa, pb, ha, hb⟩
  show WS K none _ [some (false, _), some (false, _), some (false, _), none, none, none, none, none, none] _ _
  refine ws_seq (ws_asg (ev_tup (ea_cons (ev_var rfl) (ea_cons (ev_var rfl) (ea_cons ev_int (ea_cons ev_int ea_nil)))) (szb rfl)) (wg_tup rfl (wgs_cons (wg_name (wgs_cons (wg_name (wgs_cons (wg_name (wgs_cons (wg_name (wgs_nil ?_)))))))))))
  have i1 : (D.int 1) = iD (1 : Rk k) := congrArg D.int io_one.symm
  have i0 : (D.int 0) = iD (0 : Rk k) := congrArg D.int io_zero.symm
  rw [i1, i0]
  refine ws_seq (ws_while (fun m ρ' => ∃ (l r h t : Rk k) (p q : Option (Bool × D)), ρ' = [some (false, .str (kd k)), some (false, iD a), some (false, iD b), some (false, iD l), some (false, iD r), some (false, iD h), some (false, iD t), p, q] ∧ mu r < m ∧ BI 2000 l r h t ∧ 0 ≤ io l ∧ 0 ≤ io r ∧ Szr 2000 l ∧ Szr 2000 r ∧ bezF m l r h t = bez a b) ⟨mu b + 1, a, b, 1, 0, none, none, rfl, by omega, BI.start pa.ne hb (by omega), pa.cnt, pb.cnt, ha, hb, rfl⟩ ?_)
  rintro m ρ' ⟨l, r, h, t, p, q, rfl, hm, hi, cl, cr, sl, sr, e⟩
  refine ⟨!decide (io r = 0), et_test (ev_op (ev_var rfl) ev_int op_neI), fun c => ?_, fun c => ?_⟩
  · have c : ¬ io r = 0 := by simpa using c
    have hp : Ps r := ⟨fun e => c (by rw [e, io_zero]), cr⟩
    cases m with
    | zero => omega
    | succ m =>
      unfold bezF at e
      rw [if_neg c] at e
      have er : rem l r = rst l r := (rst_ps hp).symm
      refine ws_seq (ws_asg (ev_call (ea_cons (ev_var rfl) (ea_cons (ev_var rfl) (ea_cons (ev_var rfl) ea_nil))) ⟨k, l, r, 2000, rfl, rfl, hp, sr.mono (by omega), sl, by omega⟩) (wg_tup rfl (wgs_cons (wg_name (wgs_cons (wg_name (wgs_nil ?_)))))))
      rw [er]
      have st := hi.step cl hp sl
      have sq : Szr 2000 (quo l r) := sz_quo hp.ne hp.cnt sl
      refine ws_asg (ev_tup (ea_cons (ev_var rfl) (ea_cons (ev_var rfl) (ea_cons (ev_var rfl) (ea_cons (ev_call (ea_cons (ev_var rfl) (ea_cons (ev_var rfl) (ea_cons (ev_call (ea_cons (ev_var rfl) (ea_cons (ev_var rfl) (ea_cons (ev_var rfl) ea_nil))) ⟨k, quo l r, t, 2000, bzB 2000, rfl, rfl, sq, hi.t, by decide⟩) ea_nil))) ⟨k, h, quo l r * t, rfl, rfl⟩) ea_nil)))) (szb rfl)) (wg_tup rfl (wgs_cons (wg_name (wgs_cons (wg_name (wgs_cons (wg_name (wgs_cons (wg_name (wgs_nil ?_))))))))))
      exact ⟨m, by omega, r, rst l r, t, h - quo l r * t, some (false, iD (quo l r)), some (false, iD (rst l r)), rfl, by have := red_mu (rst_red (x := l) hp); omega, st, cr, rst_cnt hp, sr, sz_rst cr sl sr, e⟩
  · have c : io r = 0 := by simpa using c
    refine ws_ret (ev_is (ev_var rfl) ?_) rfl
    cases m with
    | zero => omega
    | succ m =>
      unfold bezF at e
      rw [if_pos c] at e
      rw [e]

def f_met_in : List D → D → Prop := fun ds d => ∃ (k : Kd) (o b t m : Rk k), ds = [.str (kd k), iD o, iD b, iD t, iD m] ∧ d = oD (met o b t m) ∧ Ps b ∧ Ps m ∧ Szr 1000 o ∧ Szr 1000 b ∧ Szr 1000 t ∧ Szr 1000 m
theorem s_met_in : FnScope [("kind" : Str), ("one" : Str), ("by" : Str), ("other" : Str), ("more" : Str), ("both" : Str), ("apart" : Str), ("together" : Str), ("steps" : Str), ("found" : Str)] ["kind", "one", "by", "other", "more"] (defScope (Hd.top 39)) := ⟨rfl, rfl, rfl, by decide +kernel, rfl, by decide +kernel, by decide +kernel⟩
theorem c_met_in (T : Tx K mg) (k : Nat) : Cal P w K mg base (k + 5) "met_in" (spD K f_met_in) := by
  have c_divisor_in := c_divisor_in (P := P) (w := w) (base := base) T k
  have c_less_in := c_less_in (P := P) (w := w) (base := base) T k
  have c_multiple_in := c_multiple_in (P := P) (w := w) (base := base) T k
  have c_times_in := c_times_in (P := P) (w := w) (base := base) T k
  have c_add_in := c_add_in (P := P) (w := w) (base := base) T k
  have c_is_multiple_in := c_is_multiple_in (P := P) (w := w) (base := base) T k
  have c_over_in := c_over_in (P := P) (w := w) (base := base) T k
  have c_bezout_in := c_bezout_in (P := P) (w := w) (base := base) T k
  have c_rest_in := c_rest_in (P := P) (w := w) (base := base) T k
  have sc := s_met_in
  refine cal_of (k := k + 4) T 25 25 rfl rfl s_met_in (fun _ _ _ _ _ _ us hl => match us, hl with | [_, _, _, _, _], _ => rfl) (fun vs H Q E h => spD_len h (n := 5) (by rintro _ _ ⟨k, o, b, t, m, rfl, rfl, pb, pm, ho, hb, ht, hm⟩; rfl)) fun cdv A outer s H vs Q E hr h => ⟨_, PSs.nox (pss_cons (ps_set (i := 5) sc.nd rfl (Or.inl rfl) (pe_c c_divisor_in hr (by omega) (by rfl) (pa_cons (pv 0) (pa_cons (pv 2) (pa_cons (pv 4) pa_nil))))) (pss_cons (ps_set (i := 6) sc.nd rfl (Or.inl rfl) (pe_c c_less_in hr (by omega) (by rfl) (pa_cons (pv 0) (pa_cons (pv 3) (pa_cons (pv 1) pa_nil))))) (pss_cons (ps_if (pt_not (pt_val (pe_c c_is_multiple_in hr (by omega) (by rfl) (pa_cons (pv 0) (pa_cons (pv 6) (pa_cons (pv 5) pa_nil)))))) (pss_one (ps_ret pe_non)) pss_nil) (pss_cons (ps_set (i := 7) sc.nd rfl (Or.inl rfl) (pe_c c_multiple_in hr (by omega) (by rfl) (pa_cons (pv 0) (pa_cons (pv 2) (pa_cons (pv 4) pa_nil))))) (pss_cons (ps_if (PW.pt (pw_or (pt_cmpR (op_eq) (pv 2) pe_int (nomark _)) (pw_or1 (pt_cmpR (op_eq) (pv 4) pe_int (nomark _))))) (pss_one (ps_ret (pe_tup (pa_cons (pe_ifExp (pt_cmpR (op_eq) (pv 2) pe_int (nomark _)) (pv 1) (pv 3)) (pa_cons pe_int pa_nil))))) pss_nil) (pss_cons (ps_set (i := 8) sc.nd rfl (Or.inl rfl) (pe_c c_times_in hr (by omega) (by rfl) (pa_cons (pv 0) (pa_cons (pe_c c_over_in hr (by omega) (by rfl) (pa_cons (pv 0) (pa_cons (pv 6) (pa_cons (pv 5) pa_nil)))) (pa_cons (pe_c c_bezout_in hr (by omega) (by rfl) (pa_cons (pv 0) (pa_cons (pv 2) (pa_cons (pv 4) pa_nil)))) pa_nil))))) (pss_cons (ps_set (i := 9) sc.nd rfl (Or.inl rfl) (pe_c c_add_in hr (by omega) (by rfl) (pa_cons (pv 0) (pa_cons (pv 1) (pa_cons (pe_ifExp (pt_cmpR (op_eq) (pv 0) pe_str (nomark _)) (pe_c c_times_in hr (by omega) (by rfl) (pa_cons (pv 0) (pa_cons (pv 2) (pa_cons (pv 8) pa_nil)))) (pe_c c_times_in hr (by omega) (by rfl) (pa_cons (pv 0) (pa_cons (pv 8) (pa_cons (pv 2) pa_nil))))) pa_nil))))) (pss_one (ps_ret (pe_tup (pa_cons (pe_c c_rest_in hr (by omega) (by rfl) (pa_cons (pv 0) (pa_cons (pv 9) (pa_cons (pv 7) pa_nil)))) (pa_cons (pv 7) pa_nil)))))))))))), spD_run h ?_⟩
  clear h
  rintro ds d ⟨k, o, b, t, m, rfl, rfl, pb, pm, ho, hb, ht, hm⟩
  show WS K none _ [some (false, _), some (false, _), some (false, _), some (false, _), some (false, _), none, none, none, none, none] _ _
  have nb : ¬ io b = 0 := fun e => pb.ne (io_eq_zero.mp e)
  have nm : ¬ io m = 0 := fun e => pm.ne (io_eq_zero.mp e)
  have g := gcd_ps pb pm.cnt
  have sg : Szr 1000 (gcd b m) := sz_gcd pb.cnt pm.cnt hb hm
  have sa : Szr 1001 (t - o) := sz_subR ht ho
  have pl := lcm_ps pb pm
  have sl : Szr 2000 (lcm b m) := sz_lcm pb pm hb hm
  refine ws_seq (ws_set (ev_call (ea_cons (ev_var rfl) (ea_cons (ev_var rfl) (ea_cons (ev_var rfl) ea_nil))) ⟨k, b, m, rfl, rfl, pb.cnt, pm.cnt, hb.mono (by omega), hm.mono (by omega)⟩) ?_)
  refine ws_seq (ws_set (ev_call (ea_cons (ev_var rfl) (ea_cons (ev_var rfl) (ea_cons (ev_var rfl) ea_nil))) ⟨k, t, o, rfl, rfl⟩) ?_)
  refine ws_seq (ws_when (et_not (et_test (ev_call (ea_cons (ev_var rfl) (ea_cons (ev_var rfl) (ea_cons (ev_var rfl) ea_nil))) ⟨k, t - o, gcd b m, 1001, rfl, rfl, g.cnt, sg.mono (by omega), sa, by omega⟩))) (fun c => ?_) fun c => ?_)
  · have c : ¬ io (rst (t - o) (gcd b m)) = 0 := by simpa using c
    refine ws_ret ev_non ?_
    unfold met
    rw [if_pos c]
    rfl
  · have c : io (rst (t - o) (gcd b m)) = 0 := by simpa using c
    refine ws_seq (ws_set (ev_call (ea_cons (ev_var rfl) (ea_cons (ev_var rfl) (ea_cons (ev_var rfl) ea_nil))) ⟨k, b, m, rfl, rfl, pb, pm, hb.mono (by omega), hm.mono (by omega)⟩) ?_)
    refine ws_seq (ws_ifF (et_is (et_or (et_test (ev_op (ev_var rfl) ev_int op_eqI)) fun _ => et_test (ev_op (ev_var rfl) ev_int op_eqI)) ?_) (ws_next ?_))
    · rw [decide_eq_false nb, decide_eq_false nm]; rfl
    have sq : Szr 1001 (quo (t - o) (gcd b m)) := sz_quo g.ne g.cnt sa
    have sz : Szr (bzB 2000) (bez b m) := sz_bez pb pm (hb.mono (by omega)) (hm.mono (by omega)) (by omega)
    have ss := sz_mulR sq sz
    refine ws_seq (ws_set (ev_call (ea_cons (ev_var rfl) (ea_cons (ev_call (ea_cons (ev_var rfl) (ea_cons (ev_var rfl) (ea_cons (ev_var rfl) ea_nil))) ⟨k, t - o, gcd b m, 1001, rfl, rfl, g, sg.mono (by omega), sa, by omega⟩) (ea_cons (ev_call (ea_cons (ev_var rfl) (ea_cons (ev_var rfl) (ea_cons (ev_var rfl) ea_nil))) ⟨k, b, m, rfl, rfl, sz, pb, pm, hb.mono (by omega), hm.mono (by omega)⟩) ea_nil)))
      ⟨k, quo (t - o) (gcd b m), bez b m, 1001, bzB 2000, rfl, rfl, sq, sz, by decide⟩) ?_)
    have sp := sz_mulR hb ss
    have sf := sz_addR (ho.mono (show 1000 ≤ 1000 + (1001 + bzB 2000) by omega)) sp
    refine ws_seq (ws_set (d := iD (o + b * (quo (t - o) (gcd b m) * bez b m))) (ev_call (ea_cons (ev_var rfl) (ea_cons (ev_var rfl) (ea_cons (x := iD (b * (quo (t - o) (gcd b m) * bez b m))) ?_ ea_nil))) ⟨k, o, b * (quo (t - o) (gcd b m) * bez b m), rfl, rfl⟩) ?_)
    · cases k
      · exact ev_ifT (et_h (ev_var rfl)) (ev_call (ea_cons (ev_var rfl) (ea_cons (ev_var rfl) (ea_cons (ev_var rfl) ea_nil))) ⟨.h, b, quo (t - o) (gcd b m) * bez b m, 1000, _, rfl, rfl, hb, ss, by decide⟩)
      · refine ev_ifF (et_b (ev_var rfl)) (ev_call (ea_cons (ev_var rfl) (ea_cons (ev_var rfl) (ea_cons (ev_var rfl) ea_nil))) ⟨.b, quo (t - o) (gcd b m) * bez b m, b, _, 1000, rfl, ?_, ss, hb, by decide⟩)
        rw [Lean.Grind.CommRing.mul_comm]
    · refine ws_ret (ev_is (ev_tup (ea_cons (ev_call (ea_cons (ev_var rfl) (ea_cons (ev_var rfl) (ea_cons (ev_var rfl) ea_nil))) ⟨k, o + b * (quo (t - o) (gcd b m) * bez b m), lcm b m, _, rfl, rfl, pl.cnt, sl.mono (by omega), sf, by decide⟩) (ea_cons (ev_var rfl) ea_nil)) (szb rfl)) ?_) rfl
      unfold met
      rw [if_neg (by rw [c]; simp), if_neg (by simp [nb, nm])]
      rfl

end
end J

/-! ## RuB -/
/-! Rules for data: isinstance, texts, comparisons. -/
namespace J
open PySem PySem.Spec PyProof.Rows L2
open Evl (Ex ex_rd ex_l ex_t)
mutual
def toP : D → PyData
  | .non => .none
  | .bl b => .bool b
  | .int i => .int i
  | .str s => .str s
  | .lst l => .list (toPs l)
  | .tup l => .tuple (toPs l)
  | .dK _ => .none
  | .dT _ => .none
  | .scr _ => .none
  | .dF _ => .none
def toPs : List D → List PyData
  | [] => []
  | d :: r => toP d :: toPs r
end
mutual
/-- no dict within -/
def plD : D → Bool
  | .non => true
  | .bl _ => true
  | .int _ => true
  | .str _ => true
  | .lst l => plDs l
  | .tup l => plDs l
  | .dK _ => false
  | .dT _ => false
  | .scr _ => false
  | .dF _ => false
def plDs : List D → Bool
  | [] => true
  | d :: r => plD d && plDs r
end
section
variable {K : PySem.W.Frag} {ρ : Env} {ta tb tc te : TE} {x y z d : D} {Hs H : Hp}
mutual
theorem Rp.dp (e : Ex Hs H) : ∀ {v : V} {d : D}, Rp K Hs v d → plD d = true → Dp K H v (toP d)
  | _, _, .non, _ => by unfold toP; exact .non
  | _, _, .bl b, _ => by unfold toP; exact .bl b
  | _, _, .int i, _ => by unfold toP; exact .int i
  | _, _, .str x, _ => by unfold toP; exact .str x
  | _, _, .lst h r, p => by
    unfold toP
    unfold plD at p
    exact .lst (SqL.of (e _ _ h)) (RpL.dp e r p)
  | _, _, .tup h r, p => by
    unfold toP
    unfold plD at p
    exact .tup (SqT.of (e _ _ h)) (RpL.dp e r p)
  | _, _, .dK _ _ _, p => by unfold plD at p; cases p
  | _, _, .dT _ _ _, p => by unfold plD at p; cases p
  | _, _, .dF _ _ _, p => by unfold plD at p; cases p
  | _, _, .scr _, p => by unfold plD at p; cases p
theorem RpL.dp (e : Ex Hs H) : ∀ {vs : List V} {ds : List D}, RpL K Hs vs ds → plDs ds = true → DpAll K H vs (toPs ds)
  | _, _, .nil, _ => by unfold toPs; exact .nil
  | _, _, .cons h r, p => by
    unfold toPs
    unfold plDs at p
    rw [Bool.and_eq_true] at p
    exact .cons (Rp.dp e h p.1) (RpL.dp e r p.2)
end
theorem op_eqDD (px : plD x = true) (py : plD y = true) (sx : SeqAt.shaped (toP x) = true) (sy : SeqAt.shaped (toP y) = true) : Op2 K (rEqD K) x y (.bl (PyData.eqv (toP x) (toP y))) := fun Hs H v w Q e r1 r2 q =>
  ⟨_, _, r1.dp e px, r2.dp e py, sx, sy, q _ Hs H (.refl e) (.bl _)⟩
theorem op_neDD (px : plD x = true) (py : plD y = true) (sx : SeqAt.shaped (toP x) = true) (sy : SeqAt.shaped (toP y) = true) : Op2 K (rNeD K) x y (.bl (!PyData.eqv (toP x) (toP y))) := fun Hs H v w Q e r1 r2 q =>
  ⟨_, _, r1.dp e px, r2.dp e py, sx, sy, q _ Hs H (.refl e) (.bl _)⟩
/-! lists of ints, of texts -/
theorem toPs_int : ∀ l : List Int, toPs (l.map D.int) = l.map PyData.int
  | [] => rfl
  | i :: l => by
    show toPs (.int i :: l.map D.int) = _
    unfold toPs
    rw [toPs_int l]
    rfl
theorem toPs_str : ∀ l : List Str, toPs (l.map D.str) = l.map PyData.str
  | [] => rfl
  | i :: l => by
    show toPs (.str i :: l.map D.str) = _
    unfold toPs
    rw [toPs_str l]
    rfl
theorem plDs_int : ∀ l : List Int, plDs (l.map D.int) = true
  | [] => rfl
  | i :: l => by
    show plDs (.int i :: l.map D.int) = _
    unfold plDs
    rw [plDs_int l]
    rfl
theorem plDs_str : ∀ l : List Str, plDs (l.map D.str) = true
  | [] => rfl
  | i :: l => by
    show plDs (.str i :: l.map D.str) = _
    unfold plDs
    rw [plDs_str l]
    rfl
theorem pl_ints (l : List Int) : plD (.lst (l.map D.int)) = true := by unfold plD; exact plDs_int l
theorem pl_strs (l : List Str) : plD (.lst (l.map D.str)) = true := by unfold plD; exact plDs_str l
theorem canLay_ints : ∀ l : List Int, PyData.canLayAll0 (l.map PyData.int) = true
  | [] => rfl
  | i :: l => by
    show PyData.canLayAll0 (.int i :: l.map PyData.int) = _
    unfold PyData.canLayAll0
    rw [canLay_ints l]
    rfl
theorem depth_ints : ∀ l : List Int, PyData.depthAll (l.map PyData.int) = 0
  | [] => rfl
  | i :: l => by
    show PyData.depthAll (.int i :: l.map PyData.int) = _
    unfold PyData.depthAll
    rw [depth_ints l]
    rfl
theorem sh_ints (l : List Int) : SeqAt.shaped (toP (.lst (l.map D.int))) = true := by
  unfold toP
  rw [toPs_int]
  unfold SeqAt.shaped PyData.canLay0 PyData.depth
  rw [canLay_ints, depth_ints]
  rfl
theorem canLay_strs : ∀ l : List Str, (∀ s ∈ l, PyData.strOk s = true) → PyData.canLayAll0 (l.map PyData.str) = true
  | [], _ => rfl
  | i :: l, h => by
    show PyData.canLayAll0 (.str i :: l.map PyData.str) = _
    unfold PyData.canLayAll0 PyData.canLay0
    rw [canLay_strs l fun s hs => h s (List.mem_cons_of_mem _ hs), h i (List.mem_cons_self ..)]
    rfl
theorem depth_strs : ∀ l : List Str, PyData.depthAll (l.map PyData.str) = 0
  | [] => rfl
  | i :: l => by
    show PyData.depthAll (.str i :: l.map PyData.str) = _
    unfold PyData.depthAll
    rw [depth_strs l]
    rfl
theorem sh_strs (l : List Str) (h : ∀ s ∈ l, PyData.strOk s = true) : SeqAt.shaped (toP (.lst (l.map D.str))) = true := by
  unfold toP
  rw [toPs_str]
  unfold SeqAt.shaped PyData.canLay0 PyData.depth
  rw [canLay_strs l h, depth_strs]
  rfl
theorem eqv_ints : ∀ l m : List Int, PyData.eqvAll (l.map PyData.int) (m.map PyData.int) = decide (l = m)
  | [], [] => rfl
  | [], _ :: _ => rfl
  | _ :: _, [] => rfl
  | a :: l, b :: m => by
    show PyData.eqvAll (.int a :: l.map PyData.int) (.int b :: m.map PyData.int) = _
    unfold PyData.eqvAll PyData.eqv
    rw [eqv_ints l m]
    by_cases e : a = b
    · subst e; by_cases f : l = m <;> simp [f]
    · simp [e]
theorem eqv_strs : ∀ l m : List Str, PyData.eqvAll (l.map PyData.str) (m.map PyData.str) = decide (l = m)
  | [], [] => rfl
  | [], _ :: _ => rfl
  | _ :: _, [] => rfl
  | a :: l, b :: m => by
    show PyData.eqvAll (.str a :: l.map PyData.str) (.str b :: m.map PyData.str) = _
    unfold PyData.eqvAll PyData.eqv
    rw [eqv_strs l m]
    by_cases e : a = b
    · subst e; by_cases f : l = m <;> simp [f]
    · simp [e]
theorem op_eqLI {l m : List Int} : Op2 K (rEqD K) (.lst (l.map D.int)) (.lst (m.map D.int)) (.bl (decide (l = m))) := fun Hs H v w Q e r1 r2 q => by
  have h : PyData.eqv (toP (.lst (l.map D.int))) (toP (.lst (m.map D.int))) = decide (l = m) := by
    unfold toP
    rw [toPs_int, toPs_int]
    unfold PyData.eqv
    exact eqv_ints l m
  rw [← h] at q
  exact op_eqDD (pl_ints l) (pl_ints m) (sh_ints l) (sh_ints m) Hs H v w Q e r1 r2 q
theorem op_neLI {l m : List Int} : Op2 K (rNeD K) (.lst (l.map D.int)) (.lst (m.map D.int)) (.bl (!decide (l = m))) := fun Hs H v w Q e r1 r2 q => by
  have h : PyData.eqv (toP (.lst (l.map D.int))) (toP (.lst (m.map D.int))) = decide (l = m) := by
    unfold toP
    rw [toPs_int, toPs_int]
    unfold PyData.eqv
    exact eqv_ints l m
  rw [← h] at q
  exact op_neDD (pl_ints l) (pl_ints m) (sh_ints l) (sh_ints m) Hs H v w Q e r1 r2 q
theorem op_neLS {l m : List Str} (hl : ∀ s ∈ l, PyData.strOk s = true) (hm : ∀ s ∈ m, PyData.strOk s = true) : Op2 K (rNeD K) (.lst (l.map D.str)) (.lst (m.map D.str)) (.bl (!decide (l = m))) := fun Hs H v w Q e r1 r2 q => by
  have h : PyData.eqv (toP (.lst (l.map D.str))) (toP (.lst (m.map D.str))) = decide (l = m) := by
    unfold toP
    rw [toPs_str, toPs_str]
    unfold PyData.eqv
    exact eqv_strs l m
  rw [← h] at q
  exact op_neDD (pl_strs l) (pl_strs m) (sh_strs l hl) (sh_strs m hm) Hs H v w Q e r1 r2 q
theorem op_eq00 : Op2 K (rEqD K) (.lst []) (.lst []) (.bl true) := op_eqLI (l := []) (m := [])
theorem op_ne00 : Op2 K (rNeD K) (.lst []) (.lst []) (.bl false) := op_neLI (l := []) (m := [])
/-! isinstance -/
def tyN : D → Option String
  | .non => some "NoneType"
  | .bl _ => some "bool"
  | .int _ => some "int"
  | .str _ => some "str"
  | .lst _ => some "list"
  | .tup _ => some "tuple"
  | _ => none
theorem ev_isi {n t : String} {b : Bool} (h : Ev K te ρ d) (ht : tyN d = some t) (hb : PySem.W.kitOne K (.type t) (.type n) = some b) : Ev K (tCB (rIsi K) (tCons te (tCons (tC (.ty n)) tNil))) ρ (.bl b) := fun σ Hs H R Q q =>
  h σ Hs H R _ fun v Hs1 H1 g r => by
    refine ⟨v, .ty n, .type t, .type n, b, rfl, .ty n, ?_, hb, q _ Hs1 H1 g (.bl b)⟩
    cases r with
    | non => cases ht; exact .base .non
    | bl b => cases ht; exact .base (.bl b)
    | int i => cases ht; exact .base (.int i)
    | str x => cases ht; exact .base (.str x)
    | lst h1 _ => cases ht; exact .base (.lst (g.i _ _ h1))
    | tup h1 _ => cases ht; exact .base (.tup (g.i _ _ h1))
    | _ => cases ht
theorem kit_same {n : String} : PySem.W.kitOne K (.type n) (.type n) = some true := by
  unfold PySem.W.kitOne
  rw [if_pos (by simp)]
/-! chains, texts -/
theorem ev_chain {r r' : R2} {b1 b2 : Bool} (ha : Ev K ta ρ x) (hb : Ev K tb ρ y) (h1 : Op2 K r x y (.bl b1)) (hc : b1 = true → Ev K tc ρ z ∧ Op2 K r' y z (.bl b2)) : Ev K (tChain r r' ta tb tc) ρ (.bl (b1 && b2)) := fun σ Hs H R Q q =>
  ha σ Hs H R _ fun v Hs1 H1 g1 r1 => hb σ Hs1 H1 (R.stay g1) _ fun w Hs2 H2 g2 r2 => h1 Hs2 H2 v w _ g2.i (r1.mono g2.s) r2 fun u Hs3 H3 g3 r3 => by
    refine ⟨b1, r3.bl_inv, ?_⟩
    have g123 := g1.trans0 (g2.trans0 g3)
    cases b1 with
    | true =>
      show tc σ H3 _
      obtain ⟨c1, c2⟩ := hc rfl
      refine c1 σ Hs3 H3 (R.stay g123) _ fun t Hs4 H4 g4 r4 => c2 Hs4 H4 w t Q g4.i (r2.mono (g3.s.trans g4.s)) r4 fun s Hs5 H5 g5 r5 => ?_
      exact q s Hs5 H5 (g123.trans0 (g4.trans0 g5)) r5
    | false =>
      show Q (.bl false) H3
      exact q _ Hs3 H3 g123 (.bl false)
theorem ev_bmS {r : V → List V → Hp → VK → Prop} {tA : TA} {s : Str} {ds : List D} (h : Ev K te ρ (.str s)) (ha : EvA K tA ρ ds) (hr : OpM K r (.str s) ds z) : Ev K (tBM K "str" r te tA) ρ z := fun σ Hs H R Q q =>
  h σ Hs H R _ fun v Hs1 H1 g1 r1 => by
    refine ⟨by cases r1; rfl, ha σ Hs1 H1 (R.stay g1) _ fun vs Hs2 H2 g2 rs => hr Hs2 H2 v vs Q g2.i (r1.mono g2.s) rs fun u Hs3 H3 g3 r3 => q u Hs3 H3 (g1.trans0 (g2.trans0 g3)) r3⟩
theorem om_rstrip {a b : Str} (ha : a.length ≤ sizeLine) : OpM K (fun x xs H Q => ∃ a b, x = .str a ∧ xs = [.str b] ∧ a.length ≤ sizeLine ∧ Q (.str (Txt.rstripChars a b)) H) (.str a) [.str b] (.str (Txt.rstripChars a b)) := fun Hs H v vs Q e r1 rs q => by
  cases r1
  cases rs with
  | cons r2 rs =>
    cases rs
    cases r2
    exact ⟨a, b, rfl, rfl, ha, q _ Hs H (.refl e) (.str _)⟩
theorem om_strip {a b : Str} (ha : a.length ≤ sizeLine) : OpM K (fun x xs H Q => ∃ a b, x = .str a ∧ xs = [.str b] ∧ a.length ≤ sizeLine ∧ Q (.str (Txt.stripChars a b)) H) (.str a) [.str b] (.str (Txt.stripChars a b)) := fun Hs H v vs Q e r1 rs q => by
  cases r1
  cases rs with
  | cons r2 rs =>
    cases rs
    cases r2
    exact ⟨a, b, rfl, rfl, ha, q _ Hs H (.refl e) (.str _)⟩
theorem ev_slS {tl th : TO} {s : Str} {lo hi : Option Int} (h : Ev K te ρ (.str s)) (h1 : EvO K tl ρ lo) (h2 : EvO K th ρ hi) (hl : s.length ≤ sizeLine) : Ev K (L2.tSl rSlS te tl th) ρ (.str (cutS s lo hi)) := fun σ Hs H R Q q =>
  h σ Hs H R _ fun v Hs1 H1 g1 r1 => h1 σ Hs1 H1 (R.stay g1) _ fun Hs2 H2 g2 => h2 σ Hs2 H2 ((R.stay g1).stay g2) _ fun Hs3 H3 g3 =>
    ⟨s, r1.str_inv, hl, q _ Hs3 H3 (g1.trans0 (g2.trans0 g3)) (.str _)⟩
theorem op_lenS {s : Str} (hl : s.length ≤ sizeLine) : OpC K (fun xs H Q => ∃ z, xs = [.str z] ∧ z.length ≤ sizeLine ∧ Q (.int z.length) H) [.str s] (.int s.length) := fun Hs H vs Q e rs q => by
  cases rs with
  | cons r1 rs =>
    cases rs
    cases r1
    exact ⟨s, rfl, hl, q _ Hs H (.refl e) (.int _)⟩
theorem op_geS {i j : Str} : Op2 K (fun x y H Q => ∃ i j, x = .str i ∧ y = .str j ∧ Q (.bl (!decide (i.cps.toList < j.cps.toList))) H) (.str i) (.str j) (.bl (!decide (i.cps.toList < j.cps.toList))) := fun Hs H v w Q e r1 r2 q =>
  ⟨i, j, r1.str_inv, r2.str_inv, q _ Hs H (.refl e) (.bl _)⟩
theorem op_ltS {i j : Str} : Op2 K (fun x y H Q => ∃ i j, x = .str i ∧ y = .str j ∧ Q (.bl (decide (i.cps.toList < j.cps.toList))) H) (.str i) (.str j) (.bl (decide (i.cps.toList < j.cps.toList))) := fun Hs H v w Q e r1 r2 q =>
  ⟨i, j, r1.str_inv, r2.str_inv, q _ Hs H (.refl e) (.bl _)⟩
/-- x in a list of texts -/
theorem inV_strs (m : Str) : ∀ l : List Str, inV (.str m) (l.map V.str) = decide (m ∈ l)
  | [] => rfl
  | a :: l => by
    show (eqV (.str a) (.str m) || inV (.str m) (l.map V.str)) = _
    rw [inV_strs m l]
    have : eqV (.str a) (.str m) = decide (m = a) := by
      show (a == m) = _
      by_cases e : m = a
      · subst e; simp
      · rw [decide_eq_false e]
        exact beq_eq_false_iff_ne.mpr fun z => e z.symm
    rw [this]
    by_cases h1 : m = a <;> by_cases h2 : m ∈ l <;> simp [h1, h2]
theorem flat_strs (l : List Str) : (l.map V.str).all flatV = true := by
  rw [List.all_eq_true]
  intro x hx
  obtain ⟨s, _, rfl⟩ := List.mem_map.mp hx
  rfl
theorem op_inLS {m : Str} {l : List Str} : Op2 K (rIn K false) (.str m) (.lst (l.map D.str)) (.bl (decide (m ∈ l))) := fun Hs H v w Q e r1 r2 q => by
  cases r1
  obtain ⟨p, xs, rfl, hp, rl⟩ := r2.lst_inv
  have ex := rl.strs_inv
  subst ex
  refine ⟨p, _, rfl, .inl (SqL.of (e _ _ hp)), rfl, flat_strs l, ?_⟩
  show Q (.bl (inV (.str m) (l.map V.str))) H
  rw [inV_strs]
  exact q _ Hs H (.refl e) (.bl _)
theorem op_ninLS {m : Str} {l : List Str} : Op2 K (rIn K true) (.str m) (.lst (l.map D.str)) (.bl (!decide (m ∈ l))) := fun Hs H v w Q e r1 r2 q => by
  cases r1
  obtain ⟨p, xs, rfl, hp, rl⟩ := r2.lst_inv
  have ex := rl.strs_inv
  subst ex
  refine ⟨p, _, rfl, .inl (SqL.of (e _ _ hp)), rfl, flat_strs l, ?_⟩
  show Q (.bl (!inV (.str m) (l.map V.str))) H
  rw [inV_strs]
  exact q _ Hs H (.refl e) (.bl _)
end
end J

/-! ## StrSet -/
/-! sorted(set(xs)) of a list of texts. -/
namespace J
open PySem PySem.Spec PyProof.Rows L2
def keyS (e : Int × Value) : Str := match e.2 with | .str k _ => k | _ => Str.empty
def GoodS (w : World) (e : Int × Value) : Prop := ∃ k tk, e.2 = Value.str k tk ∧ e.1 = hashStr w k
/-- at a the set of the texts of l; its table rises and can be walked -/
def SetS (w : World) (h : Heap) (a : Addr) (l : List Str) : Prop :=
  ∃ o es ep t, h.get? a = some o ∧ o.ExactSet ∧ o.data = .set es ep t ∧ (∀ e ∈ es.toList, GoodS w e) ∧ (es.toList.map keyS).Nodup ∧ (∀ k, k ∈ l ↔ k ∈ es.toList.map keyS) ∧
    es.size < scanBound ∧ es.size ≤ l.length ∧ t.fits es.size = true ∧ Ris t.place.toList ∧ (w.params.followText "set-order" = true ∨ t.led = true)
section
variable {P : Program} {w : World} {h h' : Heap} {a : Addr} {l : List Str}
theorem SetS.at (R : SetS w h a l) (k : ∀ o, h.get? a = some o → h'.get? a = some o) : SetS w h' a l := by
  obtain ⟨o, es, ep, t, ho, r⟩ := R
  exact ⟨o, es, ep, t, k o ho, r⟩
theorem goodS_elems {m : List (Int × Value)} (g : ∀ e ∈ m, GoodS w e) : ElemsOf (PySem.strKind P w) m := fun e he => by
  obtain ⟨k, tk, h1, h2⟩ := g e he
  exact ⟨⟨k, by rw [h1]; exact strKind_is P w k tk, h2⟩, by rw [h1] <;> rfl⟩
theorem goodS_is {e : Int × Value} (g : GoodS w e) (k : Str) : (PySem.strKind P w).is k e.2 = true ↔ keyS e = k := by
  obtain ⟨k0, tk, h1, _⟩ := g
  unfold keyS
  rw [h1]
  constructor
  · intro z
    exact ((PySem.strKind P w).inj _ _ _ z (strKind_is P w k0 tk)).symm
  · intro z
    subst z
    exact strKind_is P w _ tk
theorem goodS_mem {m : List (Int × Value)} (g : ∀ e ∈ m, GoodS w e) (k : Str) : k ∈ m.map keyS ↔ ∃ e ∈ m, (PySem.strKind P w).is k e.2 = true := by
  rw [List.mem_map]
  constructor
  · rintro ⟨e, he, q⟩
    exact ⟨e, he, (goodS_is (g e he) k).2 q⟩
  · rintro ⟨e, he, q⟩
    exact ⟨e, he, (goodS_is (g e he) k).1 q⟩
end
section
variable {P : Program} {w : World} {A : Around} {E : Value → Shared → Prop} {s : Shared} {a : Addr} {l : List Str}
theorem setS_tail {g : Bool → Sem Unit} (hg : ∀ (b : Bool) (s₁ : Shared) (Q' : Unit → Shared → Prop), Q' () s₁ → wpAny (model P w) A (g b) Q' E s₁)
    {o : Obj} {es : Array (Int × Value)} {ep : Nat} {t : SetTable} (ho : s.heap.get? a = some o) (hex : o.ExactSet) (hd : o.data = .set es ep t)
    {es1 : Array (Int × Value)} {t2 : SetTable} {l' : List Str} (g1 : ∀ e ∈ es1.toList, GoodS w e) (nd1 : (es1.toList.map keyS).Nodup) (m1 : ∀ k, k ∈ l' ↔ k ∈ es1.toList.map keyS)
    (hb1 : es1.size < scanBound) (hz : es1.size ≤ l'.length) (hf2 : t2.fits es1.size = true) (hr : Ris t2.place.toList) (hl : w.params.followText "set-order" = true ∨ t2.led = true) {wasDummy : Bool} {R : Option Bool → Shared → Prop}
    (hR : ∀ h', Heap.SameBut a s.heap h' → SetS w h' a l' → R (some true) { s with heap := h' }) :
    wpAny (model P w) A (do
        storeSet a es1 t2
        if (!wasDummy && t2.tooFull) = true then do
            g (relayAll t2 es1 (SetTable.grown es1.size)).2.2
            storeSet a (relayAll t2 es1 (SetTable.grown es1.size)).1 (relayAll t2 es1 (SetTable.grown es1.size)).2.1
            pure (some true)
          else pure (some true)) R E s := by
  refine wpAny_bind (wpAny_storeSet_of ho hd ?_ (fits_of_scanBound hb1))
  have ho1 := store_at (es' := es1) (t' := t2) ho hd
  have sb1 := Heap.SameBut.update s.heap a (Obj.putSet es1 t2)
  split
  · have pm := relayAll_perm t2 es1 (SetTable.grown es1.size)
    have hf3 := relayAll_fits t2 es1 (SetTable.grown es1.size)
    have hr3 := relayAll_ris t2 es1 (SetTable.grown es1.size)
    have hl3 := relayAll_led t2 es1 (SetTable.grown es1.size)
    generalize relayAll t2 es1 (SetTable.grown es1.size) = Z at pm hf3 hr3 hl3 ⊢
    obtain ⟨es2, t3, gave⟩ := Z
    dsimp only at pm hf3 hr3 hl3 ⊢
    have hsz : es2.size = es1.size := by rw [← Array.length_toList, pm.length_eq, Array.length_toList]
    have hb2 : es2.size < scanBound := by rw [hsz]; exact hb1
    refine wpAny_bind (hg _ _ _ ?_)
    refine wpAny_bind (wpAny_storeSet_of ho1 rfl ?_ (fits_of_scanBound hb2))
    have ho2 := store_at (es' := es2) (t' := t3) ho1 rfl
    refine wpAny_pure (hR _ (sb1.trans (Heap.SameBut.update _ a _)) ?_)
    exact ⟨_, es2, _, t3, ho2, hex, rfl, fun e he => g1 e (pm.mem_iff.mp he), (pm.map keyS).nodup_iff.mpr nd1, fun k => (m1 k).trans (pm.map keyS).mem_iff.symm, hb2, by rw [hsz]; exact hz, hf3, hr3,
      hl.imp id fun z => by rw [hl3]; exact z⟩
  · exact wpAny_pure (hR _ sb1 ⟨_, es1, _, t2, ho1, hex, rfl, g1, nd1, m1, hb1, hz, hf2, hr, hl⟩)
theorem setS_add {k : Str} {tk : Tok} {Q : Bool → Shared → Prop} (R : SetS w s.heap a l) (room : l.length + 1 < scanBound)
    (hQ : ∀ b h', Heap.SameBut a s.heap h' → SetS w h' a (k :: l) → Q b { s with heap := h' }) :
    wpAny (model P w) A (setAddHashed a (.str k tk) ((PySem.strKind P w).hash k)) Q E s := by
  obtain ⟨o, es, ep, t, ho, hex, hd, g, nd, hm, hb, hz, hf, hr, hl⟩ := R
  have hkey : (PySem.strKind P w).is k (.str k tk) = true := strKind_is P w k tk
  have hsc : (Value.str k tk).scannable = true := rfl
  have hel : ElemsOf (PySem.strKind P w) es.toList := goodS_elems g
  unfold setAddHashed setAddHashedIn
  refine wpAny_holding (wpAny_bind (wpAny_setState_of ho hd hf ?_))
  dsimp only
  rw [byScan_of hsc hb hel]
  simp only [↓reduceIte]
  unfold setAddByScan
  refine wpAny_bind ?_
  refine wpAny_bind (wpAny_rule ?_)
  refine wpAny_bind (wpAny_setScan_of hkey ho hd hf hel ?_)
  cases hfi : List.findIdx? (fun e => (PySem.strKind P w).is k e.2) es.toList with
  | some j =>
    dsimp only
    obtain ⟨hj, pj, _⟩ := List.findIdx?_eq_some_iff_getElem.mp hfi
    have hkl : k ∈ es.toList.map keyS := (goodS_mem (P := P) (w := w) g k).2 ⟨es.toList[j], List.getElem_mem hj, pj⟩
    refine wpAny_pure (wpAny_pure ?_)
    exact hQ _ s.heap (Heap.SameBut.refl a s.heap) ⟨o, es, ep, t, ho, hex, hd, g, nd, fun i => by
      rw [List.mem_cons, hm i]
      exact ⟨fun z => z.elim (fun e => e ▸ hkl) id, .inr⟩, hb, by rw [List.length_cons]; omega, hf, hr, hl⟩
  | none =>
    dsimp only
    have hnk : k ∉ es.toList.map keyS := fun z => by
      obtain ⟨e, he, q⟩ := (goodS_mem (P := P) (w := w) g k).1 z
      have c := List.findIdx?_eq_none_iff.mp hfi e he
      rw [q] at c
      cases c
    have hgw : ∀ (b : Bool) {s₁ : Shared} {Q' : Unit → Shared → Prop}, Q' () s₁ → wpAny (model P w) A (match b with | true => rule "set.scan.the-table-gave-way" | false => pure ()) Q' E s₁ :=
      fun b s₁ Q' q => by cases b <;> first | exact wpAny_pure q | exact wpAny_rule q
    have pm := layNew_perm t es ((PySem.strKind P w).hash k) (.str k tk)
    have hf1 := layNew_fits t es ((PySem.strKind P w).hash k) (.str k tk)
    have hr1 := layNew_ris t es ((PySem.strKind P w).hash k) (.str k tk) hr
    have hl1 := layNew_led t es ((PySem.strKind P w).hash k) (.str k tk)
    generalize layNew t es ((PySem.strKind P w).hash k) (.str k tk) = Z at pm hf1 hr1 hl1 ⊢
    obtain ⟨es1, t1, wasDummy, gave⟩ := Z
    dsimp only at pm hf1 hr1 hl1 ⊢
    rw [Array.toList_push] at pm
    have pc : es1.toList.Perm (((PySem.strKind P w).hash k, Value.str k tk) :: es.toList) := pm.trans (List.perm_append_singleton _ _)
    have pk : (es1.toList.map keyS).Perm (k :: es.toList.map keyS) := pc.map keyS
    have g1 : ∀ e ∈ es1.toList, GoodS w e := fun e he => by
      rcases List.mem_cons.mp (pc.mem_iff.mp he) with z | z
      · rw [z]; exact ⟨k, tk, rfl, rfl⟩
      · exact g e z
    have nd1 : (es1.toList.map keyS).Nodup := pk.nodup_iff.mpr (List.nodup_cons.mpr ⟨hnk, nd⟩)
    have m1 : ∀ i, i ∈ k :: l ↔ i ∈ es1.toList.map keyS := fun i => by
      rw [pk.mem_iff, List.mem_cons, List.mem_cons, hm i]
    have hsz : es1.size = es.size + 1 := by rw [← Array.length_toList, pc.length_eq, List.length_cons, Array.length_toList]
    have hz1 : es1.size ≤ (k :: l).length := by rw [List.length_cons]; omega
    have hb1 : es1.size < scanBound := by omega
    have hled : w.params.followText "set-order" = true ∨ t1.led = true := hl.imp id fun z => by rw [hl1]; exact z
    refine wpAny_bind (hgw _ ?_)
    split
    · refine wpAny_bind ?_
      rw [hashByValue_scannable 8 hsc]
      refine wpAny_pure ?_
      refine setS_tail ?_ ho hex hd g1 nd1 m1 hb1 hz1 ?_ ?_ ?_ ?_
      · intro b s₁ Q' q; cases b <;> first | exact wpAny_pure q | exact wpAny_rule q
      · first | (split <;> first | exact hf1 | exact SetTable.fits_plain_off hf1) | exact hf1
      · first | (split <;> exact hr1) | exact hr1
      · first | (split <;> exact hled) | exact hled
      · intro h' sb r; dsimp only; exact wpAny_pure (hQ _ h' sb r)
    · refine wpAny_bind (wpAny_pure ?_)
      simp only [↓reduceIte]
      refine setS_tail ?_ ho hex hd g1 nd1 m1 hb1 hz1 hf1 hr1 hled ?_
      · intro b s₁ Q' q; cases b <;> first | exact wpAny_pure q | exact wpAny_rule q
      · intro h' sb r; dsimp only; exact wpAny_pure (hQ _ h' sb r)
theorem setS_fresh {h : Heap} (w : World) : SetS w (h.push { cls := .type "set", dict := none, data := .set #[] 0 (.fresh 0 0 (!w.params.followText "set-order")) }) h.objs.size [] :=
  ⟨_, #[], 0, _, Heap.get?_push_size _ rfl, ⟨rfl, rfl, rfl⟩, rfl, (fun e he => by simp at he), (by simp), (fun k => by simp), (by decide), Nat.le_refl _, (by rfl), List.Pairwise.nil, by
    show _ ∨ (!w.params.followText "set-order") = true
    cases w.params.followText "set-order"
    · exact .inr rfl
    · exact .inl rfl⟩
end
section
variable {prog : Program} {w : World} {A : Around} {R : Result → Shared → Prop} {I : Addr} {fp wr : List Addr} {G : Array GenState → Array GenState → Prop} {n : Nat} {Pv : Nat → Value → Prop} {St : Nat → Shared → Prop}
/-- the texts of xs, one after another -/
theorem loopS (W : WalksS prog w A.in1 I fp wr G n Pv St) (S : Addr) (hSf : S ∉ fp) (xs : List Str) (hsz : xs.length = n) (hn1 : n + 1 < scanBound)
    (hval : ∀ i v, Pv i v → ∃ t, v = .str (xs.getD i Str.empty) t) :
    ∀ (k i : Nat) (s : Shared), n - i = k → i ≤ n → St i s → SetS w s.heap S (xs.take i).reverse →
      (∀ s', Moved (S :: wr) G s s' → SetS w s'.heap S xs.reverse → R (.ok (.ret .none)) s') →
      codeAny (model prog w) A (.builtin "set.update.loop" ⟨[.ref S, .ref I], []⟩) R s := by
  have hSw : S ∉ wr := fun h => hSf (W.sub _ h)
  have hsub : ∀ b ∈ wr, b ∈ S :: wr := fun b hb => List.mem_cons_of_mem _ hb
  intro k
  induction k with
  | zero =>
    intro i s hk hi hst hS hR
    have hin : i = n := by omega
    subst hin
    refine codeAny_builtin PyProof.Rows.F.entry_set_update_loop ?_
    rw [Around.under_plainId PyProof.Rows.F.plain_set_update_loop _]
    show wpAny _ A.in1 (pyNext (.ref I) >>= _) _ _ s
    refine wpAny_bind (W.done s _ _ hst fun s' hm => ?_)
    show wpAny _ A.in1 (ret Value.none) _ _ s'
    rw [← hsz, List.take_length] at hS
    exact wpAny_pure (hR s' (hm.mono hsub) (hS.at fun o e => hm.heap S _ hSw e))
  | succ k ih =>
    intro i s hk hi hst hS hR
    have hlt : i < n := by omega
    refine codeAny_builtin PyProof.Rows.F.entry_set_update_loop ?_
    rw [Around.under_plainId PyProof.Rows.F.plain_set_update_loop _]
    show wpAny _ A.in1 (pyNext (.ref I) >>= _) _ _ s
    refine wpAny_bind (W.item i s _ _ hlt hst fun v s' hP hst' hm => ?_)
    obtain ⟨t, rfl⟩ := hval i v hP
    have hS' : SetS w s'.heap S (xs.take i).reverse := hS.at fun o e => hm.heap S _ hSw e
    show wpAny _ A.in1 (holding [Value.str (xs.getD i Str.empty) t] (setAdd S (.str (xs.getD i Str.empty) t)) >>= _) _ _ s'
    refine wpAny_bind (wpAny_holding ?_)
    unfold setAdd
    refine wpAny_holding ?_
    refine wpAny_bind ((PySem.strKind prog w).pyHash (k := xs.getD i Str.empty) (strKind_is _ _ _ _) ?_)
    refine setS_add (s := { s' with toks := s'.toks + 1 }) hS' (by rw [List.length_reverse, List.length_take]; omega) fun b h' hsb hS2 => ?_
    have hSi : SetS w h' S (xs.take (i + 1)).reverse := by
      have hx : xs[i]? = some xs[i] := List.getElem?_eq_getElem (by omega)
      have e : (xs.take (i + 1)).reverse = xs.getD i Str.empty :: (xs.take i).reverse := by
        rw [List.take_add_one, hx, List.reverse_append]
        simp [List.getD, hx]
      rw [e]; exact hS2
    refine wpAny_pure ⟨plainId_quiet PyProof.Rows.F.plain_set_update_loop _, ih (i + 1) _ (by omega) hlt (W.frame _ s' _ _ hst' (Nat.le_succ _) fun b hb o e => ?_) hSi fun s'' hm'' hS'' => ?_⟩
    · rw [hsb.2 b (fun h : b = S => hSf (by rw [← h]; exact hb))]; exact e
    · refine hR s'' (Moved.trans W.gtrans ((hm.mono hsub).then_heap (Nat.le_succ _) fun b o hb e => ?_) hm'') hS''
      rw [hsb.2 b (fun h : b = S => hb (by rw [h]; exact List.mem_cons_self))]; exact e
end
section
variable {prog : Program} {w : World} {A : Around} {E : Value → Shared → Prop} {s : Shared}
theorem new_led (a : Value) {Q₁ : Value → Shared → Prop}
    (h : Q₁ (.ref s.heap.objs.size) { s with heap := s.heap.push { cls := .type "set", dict := none, data := .set #[] 0 (.fresh 0 0 (!w.params.followText "set-order")) } }) :
    codeAny (model prog w) A (.call (.builtin "set.__new__") ⟨[.type "set", a], []⟩) (wants Q₁ E) s := by
  refine codeAny_of_tree ?_
  show wpAny _ A.in1 (do checkBuiltinCall "set.__new__" ⟨[.type "set", a], []⟩; again (.builtin "set.__new__" ⟨[.type "set", a], []⟩)) _ _ s
  refine wpAny_bind (wpAny_of_eq (F.newCall_set_1 a) (wpAny_pure ⟨plainId_quiet F.plain_set_new _, codeAny_builtin F.entry_set_new ?_⟩))
  rw [Around.under_plainId F.plain_set_new _]
  unfold Builtin.«set.__new__» Builtin.Frozenset.newClass
  have hsub := sub_set_self
  obtain ⟨hp, g, d, tk, os⟩ := s
  dsimp only
  wp_walk
  refine wpAny_askSetting (wpAny_pure ?_)
  dsimp only
  simp only [newObj]
  refine wpAny_bind (wpAny_alloc (wpAny_pure ?_))
  exact wpAny_pure h
theorem call_setS {l : Addr} {items : Array Value} {xs : List Str} {Q : Value → Shared → Prop}
    (hh : A.handled = none) (hl : s.heap.IsList l items) (hi : PyProof.Rows.StrsAre items.toList xs) (hn1 : xs.length + 1 < scanBound)
    (h : ∀ (h' : Heap) (tk : Nat), SetS w h' s.heap.objs.size xs.reverse → (∀ b o, b < s.heap.objs.size → s.heap.get? b = some o → h'.get? b = some o) → Q (.ref s.heap.objs.size) { s with heap := h', toks := tk }) :
    wpAny (model prog w) A (call (.type "set") [.ref l]) Q E s := by
  obtain ⟨c, tl, hmro⟩ := PySem.F.called_set.mro
  have hmade := PySem.F.called_set.made
  have hsub := PySem.F.called_set.sub
  refine wpAny_call (codeAny_of_tree ?_)
  show wpAny _ _ (callAny (.type "set") _) _ _ _
  refine wpAny_pure ⟨Code.quiet_builtin _ (by decide +kernel), codeAny_builtin PySem.F.entry_type_call ?_⟩
  rw [Around.under_plain (weight_type_call_type "set" [.ref l] []) rfl]
  have h1 := PySem.F.called_set.notType
  have h2 := PySem.F.called_set.canCreate
  have hct := PySem.F.typeCall_set_1 (.ref l)
  repeat (any_goals (first | assumption | wp_step))
  refine codeAny_mono (new_led (.ref l) (E := E) (Q₁ := fun obj s₁ => obj = .ref s.heap.objs.size ∧ s₁ = { s with heap := s.heap.push { cls := .type "set", dict := none, data := .set #[] 0 (.fresh 0 0 (!w.params.followText "set-order")) } }) ⟨rfl, rfl⟩) fun r s₁ hr => ?_
  cases r with
  | error e => exact hr
  | ok fl =>
    cases fl with
    | ret obj =>
      obtain ⟨rfl, rfl⟩ := hr
      have fr := setS_fresh (h := s.heap) w
      generalize hled : (!w.params.followText "set-order") = led at fr ⊢
      have hS : (s.heap.push { cls := .type "set", dict := none, data := .set #[] 0 (.fresh 0 0 led) }).get? s.heap.objs.size = some { cls := .type "set", dict := none, data := .set #[] 0 (.fresh 0 0 led) } := Heap.get?_push_size _ rfl
      have hT : Shared.TypeIs { s with heap := s.heap.push { cls := .type "set", dict := none, data := .set #[] 0 (.fresh 0 0 led) } } (.ref s.heap.objs.size) "set" := ⟨_, hS, rfl⟩
      have hli := PySem.F.called_set.init.lookup
      have hbi := PySem.F.called_set.init.bind (.ref s.heap.objs.size)
      repeat (any_goals (first | assumption | wp_step))
      refine codeAny_mono (codeAny_call_builtin (R := wants (fun r s₂ => r = .none ∧ ∃ h' tk, s₂ = { s with heap := h', toks := tk } ∧ SetS w h' s.heap.objs.size xs.reverse ∧
          (∀ b o, b < s.heap.objs.size → s.heap.get? b = some o → h'.get? b = some o)) E) PySem.F.called_set.init.plain PySem.F.entry_set_init (check_set_init_1 hT ?_)) fun r₂ s₂ hr₂ => ?_
      · obtain ⟨ol, hol, hcl, nl, hdl⟩ := hl
        obtain ⟨ocls, odict, odata, oslots⟩ := ol
        simp only at hcl hdl
        subst hcl; subst hdl
        have hol' : (s.heap.push { cls := .type "set", dict := none, data := .set #[] 0 (.fresh 0 0 led) }).get? l = some { cls := .type "list", dict := odict, data := .seq items nl, slots := oslots } := Heap.get?_push_of_some _ hol
        have hsls := PySem.F.sub_list_set
        have hslf := PySem.F.sub_list_frozenset
        have hne : (Value.type "list" == Value.type "dict") = false := by decide
        have hl1 : (s.heap.push { cls := .type "set", dict := none, data := .set #[] 0 (.fresh 0 0 led) }).IsList l items := ⟨_, hol', rfl, nl, rfl⟩
        unfold Builtin.«set.__init__» noKeywords Builtin.Frozenset.updateFrom
        generalize hPI : pyIter = PI
        wp_walk
        subst hPI
        refine wpAny_pyIter_list hl1 ?_
        refine wpAny_bind (wpAny_runValue ?_)
        have hlS : l < s.heap.objs.size := Heap.lt_size hol
        have hh3 : A.in1.in1.in1.handled = none := by simp [hh]
        have hneI : l ≠ (s.heap.push { cls := .type "set", dict := none, data := .set #[] 0 (.fresh 0 0 led) }).objs.size := by
          rw [Heap.size_push]; exact Nat.ne_of_lt (Nat.lt_succ_of_lt hlS)
        have hSf : s.heap.objs.size ∉ [(s.heap.push { cls := .type "set", dict := none, data := .set #[] 0 (.fresh 0 0 led) }).objs.size, l] := by
          rw [Heap.size_push]; simp only [List.mem_cons, List.mem_singleton, List.not_mem_nil, or_false, not_or]
          exact ⟨Nat.ne_of_lt (Nat.lt_succ_self _), Nat.ne_of_gt hlS⟩
        have hsz : xs.length = items.size := by rw [← StrsAre.len_eq hi, Array.length_toList]
        have hval : ∀ (i : Nat) (v : Value), items[i]? = some v → ∃ t, v = .str (xs.getD i Str.empty) t := fun i v hv => SS.strs_at hi i v (by rw [Array.getElem?_toList]; exact hv)
        refine loopS ((Walks.list hh3 _ l hneI items).toS) s.heap.objs.size
          hSf xs hsz (by rw [← hsz]; exact hn1) hval (items.size - 0) 0 _ (by omega) (Nat.zero_le _)
          ⟨⟨_, Heap.get?_push_size _ rfl, rfl, rfl⟩, (hl1.push _)⟩ ?hS0 ?hR
        case hS0 => exact fr.at fun o e => Heap.get?_push_of_some _ e
        case hR =>
          intro s' hm hS'
          obtain ⟨h', g', d', tk', os'⟩ := s'
          have eg : g' = s.gens := hm.gens
          have ed : d' = s.drawn := hm.drawn
          have eo : os' = s.os := hm.os
          subst eg; subst ed; subst eo
          show wpAny _ _ _ _ _ _
          refine wpAny_pure ?_
          show wpAny _ _ (ret Value.none) _ _ _
          refine wpAny_pure ⟨rfl, h', tk', rfl, hS', fun b o hb e => ?_⟩
          have hb1 : b ≠ s.heap.objs.size := Nat.ne_of_lt hb
          have hb2 : b ≠ (s.heap.push { cls := .type "set", dict := none, data := .set #[] 0 (.fresh 0 0 led) }).objs.size := by
            rw [Heap.size_push]; exact Nat.ne_of_lt (Nat.lt_succ_of_lt hb)
          exact hm.heap b o (by simp only [List.mem_cons, List.mem_singleton, List.not_mem_nil, or_false, not_or]; exact ⟨hb1, hb2⟩) (Heap.get?_push_of_some _ (Heap.get?_push_of_some _ e))
      · cases r₂ with
        | error e => exact hr₂
        | ok fl₂ =>
          cases fl₂ with
          | ret r =>
            obtain ⟨rfl, h', tk, rfl, hS', hk'⟩ := hr₂
            repeat (any_goals (first | assumption | wp_step))
            exact h _ _ hS' hk'
          | _ => exact hr₂.elim
    | _ => exact hr.elim
theorem strs_of : ∀ (l : List (Int × Value)) (vs : List Value), vs = l.map (·.2) → (∀ e ∈ l, GoodS w e) → StrsAre vs (l.map keyS)
  | [], _, h, _ => by subst h; exact .nil
  | e :: l, _, h, g => by
    subst h
    obtain ⟨k, tk, h1, _⟩ := g e List.mem_cons_self
    have h2 : keyS e = k := by unfold keyS; rw [h1]
    rw [List.map_cons, List.map_cons, h1, h2]
    exact .cons k tk (strs_of l _ rfl fun u hu => g u (List.mem_cons_of_mem _ hu))
theorem strs_all : ∀ (vs : List Value), (∀ v ∈ vs, ∃ k tk, v = Value.str k tk) → StrsAre vs (vs.map fun v => match v with | .str k _ => k | _ => Str.empty)
  | [], _ => .nil
  | v :: l, h => by
    obtain ⟨k, tk, rfl⟩ := h v List.mem_cons_self
    exact .cons k tk (strs_all l fun u hu => h u (List.mem_cons_of_mem _ hu))
theorem sorted_setS {a : Addr} {l : List Str} {Q : Value → Shared → Prop} (R : SetS w s.heap a l) (hh : A.handled = none) (h64 : l.length < 64)
    (hQ : ∀ s' p (out : Array Value) (c : Nat) (ns : List Str), (∀ b o, s.heap.get? b = some o → s'.heap.get? b = some o) → s'.gens = s.gens → s'.os = s.os → s.heap.objs.size ≤ p →
      s'.heap.get? p = some (seqObj "list" out c) → StrsAre out.toList ns → sortedS ns = true → ns.Nodup → (∀ k, k ∈ ns ↔ k ∈ l) → ns.length ≤ l.length → Q (.ref p) s') :
    wpAny (model prog w) A (call (.builtin "sorted") [.ref a]) Q E s := by
  obtain ⟨o, es, ep, t, ho, hex, hd, g, nd, hm, hb, hz, hf, hr, hl⟩ := R
  refine Calls.call_function_entry kind_sorted plain_sorted entry_sorted (args_sorted1 _) ?_
  unfold Builtin.«sorted»
  refine wpAny_bind (m := checkCount "sorted" 1 1 _) (wpAny_pure ?_)
  refine wpAny_bind (collect_set (A := A.in1) hh ⟨o, ho, hex.1, hd⟩ hf hb hr hl fun s1 vs k1 hz1 g1 o1 pm => ?_)
  have hvl : vs.length ≤ l.length := by rw [pm.length_eq, List.length_map, Array.length_toList]; exact hz
  have hI : StrsAre vs (vs.map fun v => match v with | .str k _ => k | _ => Str.empty) := strs_all vs fun v hv => by
    obtain ⟨e, he, q⟩ := List.mem_map.mp (pm.mem_iff.mp hv)
    obtain ⟨k, tk, h1, _⟩ := g e he
    exact ⟨k, tk, by rw [← q]; exact h1⟩
  have pk : (vs.map fun v => match v with | .str k _ => k | _ => Str.empty).Perm (es.toList.map keyS) := by
    have q := pm.map fun v : Value => match v with | .str k _ => k | _ => Str.empty
    rw [List.map_map] at q
    exact q
  refine wpAny_bind (wpAny_newList ?_ (by rw [sizeLine_eq]; omega))
  have hoL : (s1.heap.push (seqObj "list" vs.toArray 0)).get? s1.heap.objs.size = some (seqObj "list" vs.toArray 0) := Heap.get?_push_size _ rfl
  refine wpAny_bind (wpAny_holding (wpAny_call_entry slot_list_sort ⟨_, hoL, rfl⟩ entry_list_sort (list_sort_treeK strKind_oneLt hoL hI.keysOf (fun v₁ v₂ rest e => keyKind_strs (by rw [← e]; exact hI)) (by omega) fun st' hp hs => ⟨_, rfl, ?_⟩) (args_list_sort _)))
  obtain ⟨ns', a1, a2, a3⟩ := sorted_out_str hI hp hs
  obtain ⟨c, hc⟩ := sortedHeap_at (vs := vs) (out := ((arrOf st').map (·.2))) hoL
  have pn : ns'.Perm (es.toList.map keyS) := a2.trans pk
  refine wpAny_pure ⟨_, rfl, hQ _ s1.heap.objs.size _ c ns' (fun b u e => ?_) g1 o1 hz1 hc a1 a3 (pn.nodup_iff.mpr nd) (fun k => by rw [pn.mem_iff, ← hm k]) ?_⟩
  · have q := k1 b u e
    have hlt := Heap.lt_size q
    show (sortedHeap (s1.heap.push (seqObj "list" vs.toArray 0)) s1.heap.objs.size vs _).get? b = some u
    rw [sortedHeap_old (Nat.ne_of_lt hlt) (by rw [size_push']; exact Nat.lt_succ_of_lt hlt)]
    exact Heap.get?_push_of_some _ q
  · rw [pn.length_eq, List.length_map, Array.length_toList]; exact hz
end
/-! the two calls -/
def SetSO (w : World) (a : Addr) (l : List Str) : HO := .ext fun h => SetS w h a l
section
variable {X : Cx}
theorem setSO_new {w : World} {P : Program} {H : Hp} {h : Heap} {a : Addr} {l : List Str} (R : SetS w h a l) : ObjOk P w H h a (SetSO w a l) := by
  have ⟨o, _, _, _, ho, _⟩ := R
  exact ⟨R, ⟨o, ho⟩, fun h1 h2 p k => SetS.at p k⟩
def rSetS (K : PySem.W.Frag) (w : World) : List V → Hp → VK → Prop := fun xs H Q => ∃ (a : Addr) (ls : List Str), xs = [.ref a] ∧ SqL K H a (ls.map V.str) ∧ ls.length < 64 ∧ ∀ p, H p = none → Q (.ref p) (upd H p (SetSO w p ls.reverse))
theorem cr_setS (hc : X.calm = true) : CallR X (.type "set") (rSetS X.K X.w) := by
  intro pins s σ H xs us Q I r h
  obtain ⟨a, ls, rfl, hs, h64, q⟩ := h
  obtain ⟨its, rv, pl, hz⟩ := I.list hs
  rw [Vals.ref1 r]
  refine call_setS (I.ok.hd hc) pl.isList (by simpa using strsAre_of rv) (by unfold scanBound; omega) fun h' tk new hk => ?_
  have hn := I.hok.fresh (Nat.le_refl s.heap.objs.size)
  exact ⟨.ref _, upd H s.heap.objs.size (SetSO X.w s.heap.objs.size ls.reverse), I.laid (t' := tk) (fun b u e => hk b u (Heap.lt_size e) e) (Nat.le_refl _) (setSO_new new), rfl, q _ hn⟩
def rSortedSetS (w : World) : List V → Hp → VK → Prop := fun vs H Q => ∃ (a : Addr) (l : List Str), vs = [V.ref a] ∧ H a = some (SetSO w a l) ∧ l.length < 64 ∧
  ∀ (ns : List Str) (p : Addr), sortedS ns = true → ns.Nodup → (∀ k, k ∈ ns ↔ k ∈ l) → ns.length ≤ l.length → H p = none → Q (.ref p) (upd H p (.lst (ns.map V.str)))
theorem cr_sortedSetS (hc : X.calm = true) : CallR X (.builtin "sorted") (rSortedSetS X.w) := by
  intro pins s σ H vs us Q I r h
  obtain ⟨a, l, rfl, ha, h64, q⟩ := h
  have R : SetS X.w s.heap a l := (I.hok a _ ha).1
  rw [Vals.ref1 r]
  refine sorted_setS R (I.ok.hd hc) h64 fun s' p out c ns k g o hp hg hi hs hnd hm hl => ?_
  have hlen : (ns.map V.str).length ≤ sizeLine := by rw [List.length_map, sizeLine_eq]; omega
  have hn : H p = none := I.hok.fresh hp
  have J : Inv X pins σ (upd H p (.lst (ns.map V.str))) { s with heap := s'.heap, gens := s'.gens, drawn := s'.drawn, toks := s'.toks } :=
    I.call (ch := []) (Un.laid k hp hn) (I.hok.laid k hp ⟨hlen, out.toList, c, vals_of_strs hi, hg⟩) (by rw [g]; exact I.bare) (fun _ z => nomatch z)
  have e : s' = { s with heap := s'.heap, gens := s'.gens, drawn := s'.drawn, toks := s'.toks } := by
    cases s'
    cases s
    cases o
    rfl
  rw [e]
  exact ⟨.ref p, _, J, rfl, q ns p hs hnd hm hl hn⟩
end
end J

/-! ## RuC -/
/-! Rules for data: sorted texts. -/
namespace J
open PySem PySem.Spec PyProof.Rows L2
open Evl (Ex ex_rd ex_l ex_t)
def strLt (a b : Str) : Prop := a.cps.toList < b.cps.toList
instance (a b : Str) : Decidable (strLt a b) := inferInstanceAs (Decidable (a.cps.toList < b.cps.toList))
/-- all names that are made here, in order -/
def NAMES : List Str := ["a", "b", "b0", "ba", "bb2", "c", "d", "e", "f", "x"]
theorem names_lt : NAMES.Pairwise strLt := by decide +kernel
theorem str_of_cps {x y : Str} (h : x.cps.toList = y.cps.toList) : x = y := by
  have hc : x.cps = y.cps := Array.toList_inj.mp h
  cases x
  cases y
  simp only [Str.mk.injEq]
  exact hc
theorem strLt_asymm {a b : Str} (h1 : ¬ strLt a b) (h2 : ¬ strLt b a) : a = b := by
  unfold strLt at h1 h2
  exact str_of_cps (List.le_antisymm (List.not_lt.mp h2) (List.not_lt.mp h1))
theorem strLt_le {a b : Str} (h : strLt a b) : ¬ strLt b a := by
  unfold strLt at *
  exact fun z => List.lt_irrefl _ (List.lt_trans h z)
theorem rising_pair : ∀ (l : List Str) (p : Str), risingS p l = true → (p :: l).Pairwise fun a b => ¬ strLt b a
  | [], p, _ => List.pairwise_singleton _ _
  | x :: r, p, h => by
    have h' : (!ltCps x.cps.toList p.cps.toList && risingS x r) = true := h
    rw [Bool.and_eq_true, ltCps_eq] at h'
    obtain ⟨h1, h2⟩ := h'
    have ih := rising_pair r x h2
    have n1 : ¬ strLt x p := by
      intro z
      have : decide (x.cps.toList < p.cps.toList) = true := decide_eq_true z
      rw [this] at h1
      cases h1
    refine List.pairwise_cons.mpr ⟨fun y hy => ?_, ih⟩
    rcases List.mem_cons.mp hy with z | z
    · rw [z]; exact n1
    · have n2 := (List.pairwise_cons.mp ih).1 y z
      unfold strLt at n1 n2 ⊢
      exact List.not_lt.mpr (List.le_trans (List.not_lt.mp n1) (List.not_lt.mp n2))
theorem sortedS_pair : ∀ {l : List Str}, sortedS l = true → l.Pairwise fun a b => ¬ strLt b a
  | [], _ => List.Pairwise.nil
  | x :: r, h => rising_pair r x h
/-- the names among xs, in order -/
def namesOf (xs : List Str) : List Str := NAMES.filter fun s => decide (s ∈ xs)
theorem namesOf_lt (xs : List Str) : (namesOf xs).Pairwise strLt := names_lt.filter _
theorem strLt_ne {a b : Str} (h : strLt a b) : a ≠ b := fun e => by
  subst e
  exact strLt_le h h
theorem lt_nodup {l : List Str} (h : l.Pairwise strLt) : l.Nodup := h.imp strLt_ne
theorem namesOf_nodup (xs : List Str) : (namesOf xs).Nodup := lt_nodup (namesOf_lt xs)
theorem mem_namesOf {xs : List Str} {s : Str} : s ∈ namesOf xs ↔ s ∈ NAMES ∧ s ∈ xs := by
  unfold namesOf
  rw [List.mem_filter]
  simp
theorem namesOf_uniq {xs ys : List Str} (hs : sortedS ys = true) (nd : ys.Nodup) (hm : ∀ k, k ∈ ys ↔ k ∈ xs) (hx : ∀ s ∈ xs, s ∈ NAMES) : ys = namesOf xs := by
  refine List.Perm.eq_of_pairwise (le := fun a b => ¬ strLt b a) (fun a b _ _ h1 h2 => strLt_asymm h2 h1) (sortedS_pair hs) ((namesOf_lt xs).imp strLt_le) ?_
  refine (List.perm_ext_iff_of_nodup nd (namesOf_nodup xs)).mpr fun s => ?_
  rw [hm, mem_namesOf]
  exact ⟨fun h => ⟨hx s h, h⟩, fun h => h.2⟩
theorem lt_uniq {xs ys : List Str} (hx : xs.Pairwise strLt) (hy : ys.Pairwise strLt) (hm : ∀ k, k ∈ ys ↔ k ∈ xs) : ys = xs := by
  refine List.Perm.eq_of_pairwise (le := fun a b => ¬ strLt b a) (fun a b _ _ h1 h2 => strLt_asymm h2 h1) (hy.imp strLt_le) (hx.imp strLt_le) ?_
  exact (List.perm_ext_iff_of_nodup (lt_nodup hy) (lt_nodup hx)).mpr hm
theorem namesOf_len (xs : List Str) : (namesOf xs).length ≤ 10 := Nat.le_trans (List.length_filter_le _ _) (by decide)
def nmD (ns : List Str) : D := .lst (ns.map D.str)
section
variable {K : PySem.W.Frag} {ρ : Env} {te : TE} {w : World}
/-- sorted(set(xs)) -/
theorem en_sortedSet {xs : List Str} (h : Ev K te ρ (nmD xs)) (hx : ∀ s ∈ xs, s ∈ NAMES) (hl : xs.length < 64) : EvN K (tCB (rSortedSetS w) (tCons (tCB (rSetS K w) (tCons te tNil)) tNil)) ρ (nmD (namesOf xs)) := fun σ Hs H R Q q =>
  h σ Hs H R _ fun v Hs1 H1 g1 rv => by
    obtain ⟨a, vs, rfl, ha, rl⟩ := rv.lst_inv
    have ev := rl.strs_inv
    subst ev
    refine ⟨a, xs, rfl, SqL.of (g1.i _ _ ha), hl, fun p hp => ?_⟩
    refine ⟨p, xs.reverse, rfl, upd_same, by rw [List.length_reverse]; exact hl, fun ns p' hs nd hm hlen hp' => ?_⟩
    have e : ns = namesOf xs := namesOf_uniq hs nd (fun k => by rw [hm, List.mem_reverse]) hx
    subst e
    have gA : Go N0 Hs1 H1 Hs1 (upd H1 p (SetSO w p xs.reverse)) := .newM g1.i hp
    exact q p' Hs1 _ ((g1.trans0 gA).trans0 (.newM gA.i hp')) (go_free (g1.trans0 gA) hp') (.lst (ex_free gA.i hp') upd_same (rpL_strs _))
/-- sorted(xs), xs names, each once -/
theorem ocn_sortedS {xs : List Str} (hx : ∀ s ∈ xs, s ∈ NAMES) (nd : xs.Nodup) (hl : xs.length < 64) : OpCN K (rSortedS K) [nmD xs] (nmD (namesOf xs)) := fun Hs H vs Q e rs q => by
  cases rs with
  | cons r1 rs =>
    cases rs
    obtain ⟨a, vs, rfl, ha, rl⟩ := r1.lst_inv
    have ev := rl.strs_inv
    subst ev
    refine ⟨a, xs, rfl, SqL.of (e _ _ ha), hl, fun ys p hp hs hn => ?_⟩
    have e2 : ys = namesOf xs := namesOf_uniq hs (hp.nodup_iff.mpr nd) (fun k => hp.mem_iff) hx
    subst e2
    exact q p Hs _ (.newM e hn) hn (.lst (ex_free e hn) upd_same (rpL_strs _))
/-- sorted(d), the keys names -/
theorem ocn_sortedD {m : List (Key × D)} {xs : List Str} (hm : m.map (·.1) = xs.map Sum.inr) (hx : ∀ s ∈ xs, s ∈ NAMES) (nd : xs.Nodup) (hl : xs.length < 64) :
    OpCN K (fun xs H Q => ∃ (a : Addr) (kvs : List (Key × V)) (ks : List Str), xs = [.ref a] ∧ Rd H a (.dK kvs) ∧ kvs.map (·.1) = ks.map Sum.inr ∧ ks.length < 64 ∧
    ∀ ys p, ys.Perm ks → sortedS ys = true → H p = none → Q (.ref p) (upd H p (.lst (ys.map V.str)))) [.dK m] (nmD (namesOf xs)) := fun Hs H vs Q e rs q => by
  cases rs with
  | cons r1 rs =>
    cases rs
    obtain ⟨a, ps, rfl, ha, hk, rl⟩ := r1.dK_inv
    refine ⟨a, ps, xs, rfl, ex_rd e ha, hk.trans hm, hl, fun ys p hp hs hn => ?_⟩
    have e2 : ys = namesOf xs := namesOf_uniq hs (hp.nodup_iff.mpr nd) (fun k => hp.mem_iff) hx
    subst e2
    exact q p Hs _ (.newM e hn) hn (.lst (ex_free e hn) upd_same (rpL_strs _))
end
end J

/-! ## W3 -/
/-! Lines closed: the program's. -/
namespace J
open PySem PySem.Spec PyProof.Rows L2 Q
open KR
/-! data -/
def kT (p : Str × Str) : List Key := [.inr p.1, .inr p.2]
def prD {k : Kd} (v : Rk k × Rk k) : D := .tup [iD v.1, iD v.2]
def clM {k : Kd} (ps : List (Str × Str)) (c : Cs Str (Rk k)) : List (List Key × D) := ps.map fun p => (kT p, prD (c p))
def clD {k : Kd} (ps : List (Str × Str)) (c : Cs Str (Rk k)) : D := .dT (clM ps c)
def lnD {k : Kd} (l : Ln Str (Rk k)) : D := .tup [.str l.1, .str l.2.1, iD l.2.2.1, iD l.2.2.2]

def lnsD {k : Kd} (ls : List (Ln Str (Rk k))) : D := .lst (ls.map lnD)
def coD {k : Kd} (ps : List (Str × Str)) : Option (Cs Str (Rk k)) → D
  | none => .non
  | some c => clD ps c
theorem kT_inj {p q : Str × Str} (h : kT p = kT q) : p = q := by
  unfold kT at h
  simp only [List.cons.injEq, Sum.inr.injEq, and_true] at h
  exact Prod.ext h.1 h.2
theorem dV_cl {k : Kd} {ps : List (Str × Str)} (c : Cs Str (Rk k)) {p : Str × Str} (h : p ∈ ps) : dV (clM ps c) (kT p) = some (prD (c p)) := by
  unfold dV clM
  induction ps with
  | nil => cases h
  | cons q ps ih =>
    rw [List.map_cons, List.find?_cons]
    by_cases e : q = p
    · subst e
      simp
    · have : (decide (kT q = kT p)) = false := decide_eq_false fun z => e (kT_inj z)
      simp only [this]
      exact ih ((List.mem_cons.mp h).resolve_left fun z => e z.symm)
theorem dPut_cl {k : Kd} {ps : List (Str × Str)} (c : Cs Str (Rk k)) {p : Str × Str} (h : p ∈ ps) (v : Rk k × Rk k) : dPut (clM ps c) (kT p) (prD v) = clM ps (put c p v) := by
  unfold dPut clM
  rw [if_pos (List.any_eq_true.mpr ⟨(kT p, prD (c p)), List.mem_map.mpr ⟨p, h, rfl⟩, by simp⟩), List.map_map]
  refine List.map_congr_left fun q _ => ?_
  show (if kT q = kT p then (kT q, prD v) else (kT q, prD (c q))) = (kT q, prD (put c p v q))
  by_cases e : q = p
  · subst e
    rw [if_pos rfl, put_same]
  · rw [if_neg fun z => e (kT_inj z), put_ne e]
theorem clM_len {k : Kd} (ps : List (Str × Str)) (c : Cs Str (Rk k)) : (clM ps c).length = ps.length := by unfold clM; rw [List.length_map]
theorem flatMap_len {α β : Type} {f : α → List β} {n : Nat} : ∀ {l : List α}, (∀ a ∈ l, (f a).length ≤ n) → (l.flatMap f).length ≤ l.length * n
  | [], _ => Nat.zero_le _
  | a :: l, h => by
    rw [List.flatMap_cons, List.length_append, List.length_cons, Nat.add_mul, Nat.one_mul]
    have h1 := h a (List.mem_cons_self ..)
    have h2 := flatMap_len (l := l) fun b hb => h b (List.mem_cons_of_mem _ hb)
    omega
theorem pairs_len {ns : List Str} : (pairs ns).length ≤ ns.length * ns.length := by
  unfold pairs
  exact flatMap_len fun a _ => by rw [List.length_map]; exact List.length_filter_le _ _
/-- sizes of what stands in a closing -/
structure Ok' {k : Kd} (P : Rk k) (c : Cs Str (Rk k)) : Prop where
  ok : Ok P c
  pP : Ps P
  sz : Szr 1000 P
theorem Ok'.by {k : Kd} {P : Rk k} {c : Cs Str (Rk k)} (h : Ok' P c) (p : Str × Str) : Szr 1000 (c p).2 := sz_dv (h.ok.dv p) h.pP (h.ok.ps p).cnt h.sz
theorem Ok'.rest {k : Kd} {P : Rk k} {c : Cs Str (Rk k)} (h : Ok' P c) (p : Str × Str) : Szr 1000 (c p).1 := sz_red (h.ok.rd p) (h.by p)
theorem op_isNo {K : PySem.W.Frag} {k : Kd} (x : Option (Rk k × Rk k)) : Op2 K (fun x y H Q => y = .non ∧ Q (.bl (decide (x = .non))) H) (oD x) .non (.bl x.isNone) := fun Hs H v w Q e r1 r2 q => by
  cases r2
  cases x with
  | none =>
    cases r1
    exact ⟨rfl, q _ Hs H (.refl e) (.bl true)⟩
  | some p =>
    obtain ⟨a, xs, rfl, _, _⟩ := Rp.tup_inv r1
    exact ⟨rfl, q _ Hs H (.refl e) (.bl false)⟩
theorem op_notIn2 {K : PySem.W.Frag} {m a b : Str} : Op2 K (rIn K true) (.str m) (.tup [.str a, .str b]) (.bl (!(decide (m = a) || decide (m = b)))) := fun Hs H v w Q e r1 r2 q => by
  cases r1
  obtain ⟨p, xs, rfl, hp, rl⟩ := r2.tup_inv
  have ex := RpL.strs_inv (ns := [a, b]) rl
  subst ex
  refine ⟨p, _, rfl, .inr (SqT.of (e _ _ hp)), rfl, rfl, ?_⟩
  have : (if true = true then !inV (.str m) ([a, b].map V.str) else inV (.str m) ([a, b].map V.str)) = (!(decide (m = a) || decide (m = b))) := by
    show (!(eqV (.str a) (.str m) || (eqV (.str b) (.str m) || false))) = _
    have h : ∀ x y : Str, eqV (.str x) (.str y) = decide (y = x) := fun x y => by
      show (x == y) = decide (y = x)
      by_cases e : y = x
      · subst e; simp
      · rw [decide_eq_false e]
        exact beq_eq_false_iff_ne.mpr fun z => e z.symm
    rw [h, h, Bool.or_false]
  rw [this]
  exact q _ Hs H (.refl e) (.bl _)
section
variable {P : Program} {w : World} {K : PySem.W.Frag} {mg : Str → Option Value} {base : Heap}
def strOf : D → Str
  | .str s => s
  | _ => ""
def f_nothing_told : List D → D → Prop := fun ds d => ∃ (k : Kd) (ns : List Str), ds = [nmD ns] ∧ d = clD (k := k) (pairs ns) start ∧ ns.length ≤ 100 ∧ ns.Nodup
theorem s_nothing_told : FnScope [("names" : Str), ("one" : Str), ("other" : Str)] ["names"] (defScope (Hd.top 42)) := ⟨rfl, rfl, rfl, by decide +kernel, rfl, by decide +kernel, by decide +kernel⟩
theorem c_nothing_told (T : Tx K mg) (k : Nat) : Cal P w K mg base (k + 1) "nothing_told" (spN K f_nothing_told) := by
  have sc := s_nothing_told
  refine cal_of (k := k + 0) T 27 27 rfl rfl s_nothing_told (fun _ _ _ _ _ _ us hl => match us, hl with | [_], _ => rfl) (fun vs H Q E h => spN_len h (n := 1) (by rintro _ _ ⟨kd, ns, rfl, rfl, hl, nd⟩; rfl)) fun cdv A outer s H vs Q E hr h => ⟨_, PSs.nox (pss_one (ps_ret (pe_callTy (call_dictPT rfl hr) (by rfl) (T.fr 78 rfl) (by decide +kernel) (pa_cons (pe_lc2 (own := [(("one" : Str), 1), (("other" : Str), 2)]) (g := gName 1) (g1 := gName 2) (vs1 := [2]) (wi1 := iList K (tVar 0)) rfl sc.nd  (pi_list (pv 0)) (blkOk_by (own := [(("one" : Str), 1), (("other" : Str), 2)]) (N := [("names" : Str), ("one" : Str), ("other" : Str)]) (sc := defScope (Hd.top 42)) (by decide +kernel)) (by decide) (fun _ _ _ _ _ => (pg_name (i := 1) sc.nd rfl (Or.inl rfl))) (fun _ _ _ _ _ => pts_nil) (fun _ _ _ _ _ => (pi_list (pv 0))) (fun _ _ _ _ _ => (pg_name (i := 2) sc.nd rfl (Or.inl rfl))) (fun _ _ _ _ _ => (pts_one (pt_cmpR (op_ne) (pv 1) (pv 2) (nomark _)))) (fun _ _ _ _ _ => (pe_tup (pa_cons (pe_tup (pa_cons (pv 1) (pa_cons (pv 2) pa_nil))) (pa_cons (pe_tup (pa_cons pe_int (pa_cons pe_int pa_nil))) pa_nil))))) pa_nil)))), spN_run h ?_⟩
  clear h
  rintro ds d ⟨kd, ns, rfl, rfl, hl, nd⟩
  show WN K _ [some (false, _), none, none] _
  have e : D.lst ((ns.map D.str).flatMap fun d => pick (fun e => !decide (strOf d = strOf e)) (fun e => .tup [.tup [d, e], .tup [.int 0, .int 1]]) (ns.map D.str)) = .lst ((clM (k := kd) (pairs ns) start).map fun p => .tup [.tup (p.1.map keyD), p.2]) := by
    congr 1
    unfold clM pairs
    rw [List.flatMap_map, List.map_map, List.map_flatMap]
    congr 1
    funext a
    unfold pick
    rw [List.filter_map, List.map_map, List.map_map]
    have i1 : (iD (1 : Rk kd)) = .int 1 := congrArg D.int io_one
    have i0 : (iD (0 : Rk kd)) = .int 0 := congrArg D.int io_zero
    refine List.map_congr_left fun b _ => ?_
    show D.tup [.tup [.str a, .str b], .tup [.int 0, .int 1]] = .tup [.tup [.str a, .str b], .tup [iD (0 : Rk kd), iD (1 : Rk kd)]]
    rw [i1, i0]
  refine wn_ret (en_cb (ea_cons (ev_is (en_lc2 (js := [1]) (js1 := [2]) (fun i d h => ?_) (fun _ => ns.map D.str) (fun d e => !decide (strOf d = strOf e)) (fun d e => .tup [.tup [d, e], .tup [.int 0, .int 1]]) (ei_list (ev_var rfl)) ?_ ?_ (by decide) (by decide) ?_).ev e) ea_nil) (ocn_dictPT ?_)) rfl
  · match i with
    | 0 => cases h
    | 1 => cases h
    | 2 => cases h
    | i + 3 => cases h
  · intro j
    have h1 : (((ns.map D.str).take j).flatMap fun d => pick (fun e => !decide (strOf d = strOf e)) (fun e => .tup [.tup [d, e], .tup [.int 0, .int 1]]) (ns.map D.str)).length ≤ ((ns.map D.str).take j).length * 100 := flatMap_len fun d _ => by
      unfold pick
      rw [List.length_map]
      exact Nat.le_trans (List.length_filter_le _ _) (by rw [List.length_map]; exact hl)
    have h2 : ((ns.map D.str).take j).length ≤ 100 := Nat.le_trans (List.length_take_le' _ _) (by rw [List.length_map]; exact hl)
    have h3 := szl (Nat.le_refl 1000000)
    omega
  · intro d _
    rw [List.length_map]
    omega
  · intro d hd
    obtain ⟨a, ha, rfl⟩ := List.mem_map.mp hd
    refine wg_name ⟨ei_list (ev_var rfl), fun e he => ?_⟩
    obtain ⟨b, hb, rfl⟩ := List.mem_map.mp he
    refine wg_name ⟨et_test (ev_op (ev_var rfl) (ev_var rfl) op_neS), fun _ => ev_tup (ea_cons (ev_tup (ea_cons (ev_var rfl) (ea_cons (ev_var rfl) ea_nil)) (szb rfl)) (ea_cons (ev_tup (ea_cons ev_int (ea_cons ev_int ea_nil)) (szb rfl)) ea_nil)) (szb rfl)⟩
  · unfold clM
    rw [List.map_map]
    exact List.pairwise_map.mpr ((pairs_nodup nd).imp fun ne e => ne (kT_inj e))

def f_met_at : List D → D → Prop := fun ds d => ∃ (k : Kd) (P : Rk k) (c : Cs Str (Rk k)) (ps : List (Str × Str)) (p : Str × Str) (a b : Rk k), ds = [.str (kd k), clD ps c, .tup [.str p.1, .str p.2], iD a, iD b] ∧ d = oD (metAt c p a b) ∧ p ∈ ps ∧ Ok' P c ∧ Ps b ∧ Szr 1000 b ∧ Szr 9000 a
theorem s_met_at : FnScope [("kind" : Str), ("closed" : Str), ("pair" : Str), ("ahead" : Str), ("by" : Str)] ["kind", "closed", "pair", "ahead", "by"] (defScope (Hd.top 43)) := ⟨rfl, rfl, rfl, by decide +kernel, rfl, by decide +kernel, by decide +kernel⟩
theorem c_met_at (T : Tx K mg) (k : Nat) : Cal P w K mg base (k + 6) "met_at" (spD K f_met_at) := by
  have c_met_in := c_met_in (P := P) (w := w) (base := base) T k
  have c_rest_in := c_rest_in (P := P) (w := w) (base := base) T k
  have sc := s_met_at
  refine cal_of (k := k + 5) T 28 28 rfl rfl s_met_at (fun _ _ _ _ _ _ us hl => match us, hl with | [_, _, _, _, _], _ => rfl) (fun vs H Q E h => spD_len h (n := 5) (by rintro _ _ ⟨k, P', c, ps, p, a, b, rfl, rfl, hp, ok, pb, hb, ha⟩; rfl)) fun cdv A outer s H vs Q E hr h => ⟨_, PSs.nox (pss_one (ps_ret (pe_c c_met_in hr (by omega) (by rfl) (pa_cons (pv 0) (pa_cons (pe_ix ix_tup (pe_dget (hu_of hr) (pv 1) (pv 2) (fun _ _ => rfl)) pe_int (fun _ _ => rfl)) (pa_cons (pe_ix ix_tup (pe_dget (hu_of hr) (pv 1) (pv 2) (fun _ _ => rfl)) pe_int (fun _ _ => rfl)) (pa_cons (pe_c c_rest_in hr (by omega) (by rfl) (pa_cons (pv 0) (pa_cons (pv 3) (pa_cons (pv 4) pa_nil)))) (pa_cons (pv 4) pa_nil)))))))), spD_run h ?_⟩
  clear h
  rintro ds d ⟨k, P', c, ps, p, a, b, rfl, rfl, hp, ok, pb, hb, ha⟩
  show WS K none _ [some (false, _), some (false, _), some (false, _), some (false, _), some (false, _)] _ _
  have get : Ev K (tDGet (tVar 1) (tVar 2)) [some (false, D.str (kd k)), some (false, clD ps c), some (false, .tup [.str p.1, .str p.2]), some (false, iD a), some (false, iD b)] (prD (c p)) := ev_dgetT (ks := kT p) (ev_var rfl) (ev_var rfl) (dV_cl c hp)
  refine ws_ret (ev_call (ea_cons (ev_var rfl) (ea_cons (ev_op get ev_int (op_ixT rfl)) (ea_cons (ev_op get ev_int (op_ixT rfl)) (ea_cons (ev_call (ea_cons (ev_var rfl) (ea_cons (ev_var rfl) (ea_cons (ev_var rfl) ea_nil))) ⟨k, a, b, 9000, rfl, rfl, pb.cnt, hb.mono (by omega), ha, by omega⟩) (ea_cons (ev_var rfl) ea_nil)))))
    ⟨k, (c p).1, (c p).2, rst a b, b, rfl, rfl, ok.ok.ps p, pb, ok.rest p, ok.by p, sz_red (rst_red pb) hb, hb⟩) rfl

def lsPost {k : Kd} (ps : List (Str × Str)) (c : Cs Str (Rk k)) (l : Ln Str (Rk k)) (m d : D) : Prop := match lineStep c l with
  | some c' => m = clD ps c' ∧ d = .bl true
  | none => d = .bl false
def f_put_line : List D → (D → D → Prop) → Prop := fun ds Po => ∃ (k : Kd) (P : Rk k) (c : Cs Str (Rk k)) (ps : List (Str × Str)) (l : Ln Str (Rk k)), ds = [.str (kd k), clD ps c, lnD l] ∧ Po = lsPost ps c l ∧ (l.1, l.2.1) ∈ ps ∧ (l.2.1, l.1) ∈ ps ∧ Ok' P c ∧ Ps l.2.2.2 ∧ Szr 1000 l.2.2.2 ∧ Szr 8000 l.2.2.1 ∧ ps.length ≤ 100000
theorem s_put_line : FnScope [("kind" : Str), ("closed" : Str), ("line" : Str), ("one" : Str), ("other" : Str), ("ahead" : Str), ("by" : Str), ("there" : Str), ("back" : Str)] ["kind", "closed", "line"] (defScope (Hd.top 44)) := ⟨rfl, rfl, rfl, by decide +kernel, rfl, by decide +kernel, by decide +kernel⟩
theorem c_put_line (T : Tx K mg) (k : Nat) : Cal P w K mg base (k + 7) "put_line" (spM K 1 f_put_line) := by
  have c_met_at := c_met_at (P := P) (w := w) (base := base) T k
  have c_turned_in := c_turned_in (P := P) (w := w) (base := base) T k
  have sc := s_put_line
  refine cal_of (k := k + 6) T 29 29 rfl rfl s_put_line (fun _ _ _ _ _ _ us hl => match us, hl with | [_, _, _], _ => rfl) (fun vs H Q E h => spM_len h (n := 3) (by rintro _ _ ⟨k, P', c, ps, l, rfl, rfl, h1, h2, ok, pb, hb, ha, hps⟩; rfl)) fun cdv A outer s H vs Q E hr h => ⟨_, PSs.nox (pss_cons (ps_asg (pv 2) (pg_tup rfl (pgs_cons (pg_name (i := 3) sc.nd rfl (Or.inl rfl)) (pgs_cons (pg_name (i := 4) sc.nd rfl (Or.inl rfl)) (pgs_cons (pg_name (i := 5) sc.nd rfl (Or.inl rfl)) (pgs_cons (pg_name (i := 6) sc.nd rfl (Or.inl rfl)) pgs_nil)))))) (pss_cons (ps_set (i := 7) sc.nd rfl (Or.inl rfl) (pe_c c_met_at hr (by omega) (by rfl) (pa_cons (pv 0) (pa_cons (pv 1) (pa_cons (pe_tup (pa_cons (pv 3) (pa_cons (pv 4) pa_nil))) (pa_cons (pv 5) (pa_cons (pv 6) pa_nil))))))) (pss_cons (ps_set (i := 8) sc.nd rfl (Or.inl rfl) (pe_c c_met_at hr (by omega) (by rfl) (pa_cons (pv 0) (pa_cons (pv 1) (pa_cons (pe_tup (pa_cons (pv 4) (pa_cons (pv 3) pa_nil))) (pa_cons (pe_c c_turned_in hr (by omega) (by rfl) (pa_cons (pv 0) (pa_cons (pv 5) pa_nil))) (pa_cons (pv 6) pa_nil))))))) (pss_cons (ps_if (PW.pt (pw_or (pt_cmpR (op_isN) (pv 7) pe_non (nomark _)) (pw_or1 (pt_cmpR (op_isN) (pv 8) pe_non (nomark _))))) (pss_one (ps_ret pe_bl)) pss_nil) (pss_cons (ps_asg (pe_tup (pa_cons (pv 7) (pa_cons (pv 8) pa_nil))) (pg_tup rfl (pgs_cons (pg_sub (pv 1) (pe_tup (pa_cons (pv 3) (pa_cons (pv 4) pa_nil))) (set_dict (hu_of hr))) (pgs_cons (pg_sub (pv 1) (pe_tup (pa_cons (pv 4) (pa_cons (pv 3) pa_nil))) (set_dict (hu_of hr))) pgs_nil)))) (pss_one (ps_ret pe_bl))))))), spM_run h ?_⟩
  clear h
  rintro an ds Po ⟨k, P', c, ps, l, rfl, rfl, h1, h2, ok, pb, hb, ha, hps⟩
  show WS K (some (1, an)) _ [some (false, _), some (true, _), some (false, _), none, none, none, none, none, none] _ _
  obtain ⟨one, other, ahead, by'⟩ := l
  have h1 : (one, other) ∈ ps := h1
  have h2 : (other, one) ∈ ps := h2
  have pb : Ps by' := pb
  have hb : Szr 1000 by' := hb
  have ha : Szr 8000 ahead := ha
  have fo : ∀ o : Option (Rk k × Rk k), flD (oD o) = true := fun o => by cases o <;> rfl
  have hlen : (clM ps c).length < sizeLine := by
    have h3 := szl (Nat.le_refl 1000000)
    rw [clM_len]
    omega
  refine ws_seq (ws_asg (ev_var rfl) (wg_tup rfl (wgs_cons (wg_name (wgs_cons (wg_name (wgs_cons (wg_name (wgs_cons (wg_name (wgs_nil ?_)))))))))))
  refine ws_seq (ws_set (ev_borrow (i := 1) rfl (ev_call (ea_cons (ev_var rfl) (ea_cons (ev_var rfl) (ea_cons (ev_tup (ea_cons (ev_var rfl) (ea_cons (ev_var rfl) ea_nil)) (szb rfl)) (ea_cons (ev_var rfl) (ea_cons (ev_var rfl) ea_nil))))) ⟨k, P', c, ps, (one, other), ahead, by', rfl, rfl, h1, ok, pb, hb, ha.mono (by omega)⟩) (fo _)) ?_)
  refine ws_seq (ws_set (ev_borrow (i := 1) rfl (ev_call (ea_cons (ev_var rfl) (ea_cons (ev_var rfl) (ea_cons (ev_tup (ea_cons (ev_var rfl) (ea_cons (ev_var rfl) ea_nil)) (szb rfl)) (ea_cons (ev_call (ea_cons (ev_var rfl) (ea_cons (ev_var rfl) ea_nil)) ⟨k, ahead, rfl, rfl⟩) (ea_cons (ev_var rfl) ea_nil))))) ⟨k, P', c, ps, (other, one), -ahead, by', rfl, rfl, h2, ok, pb, hb, (sz_negR ha).mono (by omega)⟩) (fo _)) ?_)
  refine ws_seq (ws_when (et_or (et_test (ev_op (ev_var rfl) ev_non (op_isNo _))) fun _ => et_test (ev_op (ev_var rfl) ev_non (op_isNo _))) (fun hh => ?_) fun hh => ?_)
  · refine ws_ret ev_bl ⟨_, rfl, ?_⟩
    have e : lineStep c (one, other, ahead, by') = none := by
      unfold lineStep
      cases m1 : metAt c (one, other) ahead by' with
      | none => simp only [m1]
      | some t =>
        cases m2 : metAt c (other, one) (-ahead) by' with
        | none => simp only [m1, m2]
        | some b => rw [m1, m2] at hh; cases hh
    unfold lsPost
    rw [e]
  · cases m1 : metAt c (one, other) ahead by' with
    | none => rw [m1] at hh; cases hh
    | some t =>
      cases m2 : metAt c (other, one) (-ahead) by' with
      | none => rw [m2] at hh; simp at hh
      | some b =>
        refine ws_seq (ws_asgM (ev_tup (ea_cons (ev_var rfl) (ea_cons (ev_var rfl) ea_nil)) (szb rfl)) (wm_tup rfl (wms_cons (wm_subT (ks := kT (one, other)) rfl (ev_tup (ea_cons (ev_var rfl) (ea_cons (ev_var rfl) ea_nil)) (szb rfl)) hlen (wms_cons (wm_subT (ks := kT (other, one)) rfl (ev_tup (ea_cons (ev_var rfl) (ea_cons (ev_var rfl) ea_nil)) (szb rfl)) ?_ (wms_nil ?_)))))))
        · show (dPut (clM ps c) (kT (one, other)) (prD t)).length < sizeLine
          rw [dPut_cl c h1, clM_len]
          rw [clM_len] at hlen
          exact hlen
        · refine ws_ret ev_bl ⟨_, rfl, ?_⟩
          have e : lineStep c (one, other, ahead, by') = some (put (put c (one, other) t) (other, one) b) := by
            unfold lineStep
            simp only [m1, m2]
          unfold lsPost
          rw [e]
          refine ⟨?_, rfl⟩
          show D.dT (dPut (dPut (clM ps c) (kT (one, other)) (prD t)) (kT (other, one)) (prD b)) = _
          rw [dPut_cl c h1, dPut_cl _ h2]
          rfl

def f_joined_at : List D → D → Prop := fun ds d => ∃ (k : Kd) (P : Rk k) (c : Cs Str (Rk k)) (ps : List (Str × Str)) (one m other : Str), ds = [.str (kd k), clD ps c, .str one, .str m, .str other] ∧ d = prD (join c m (one, other)) ∧ (one, m) ∈ ps ∧ (m, other) ∈ ps ∧ Ok' P c
theorem s_joined_at : FnScope [("kind" : Str), ("closed" : Str), ("one" : Str), ("middle" : Str), ("other" : Str), ("first" : Str), ("second" : Str)] ["kind", "closed", "one", "middle", "other"] (defScope (Hd.top 45)) := ⟨rfl, rfl, rfl, by decide +kernel, rfl, by decide +kernel, by decide +kernel⟩
theorem c_joined_at (T : Tx K mg) (k : Nat) : Cal P w K mg base (k + 4) "joined_at" (spD K f_joined_at) := by
  have c_add_in := c_add_in (P := P) (w := w) (base := base) T k
  have c_divisor_in := c_divisor_in (P := P) (w := w) (base := base) T k
  have sc := s_joined_at
  refine cal_of (k := k + 3) T 30 30 rfl rfl s_joined_at (fun _ _ _ _ _ _ us hl => match us, hl with | [_, _, _, _, _], _ => rfl) (fun vs H Q E h => spD_len h (n := 5) (by rintro _ _ ⟨k, P', c, ps, one, m, other, rfl, rfl, h1, h2, ok⟩; rfl)) fun cdv A outer s H vs Q E hr h => ⟨_, PSs.nox (pss_cons (ps_par (i := 5) (j := 6) (by rfl) sc.nd rfl rfl (by decide) rfl rfl (pa_cons (pe_dget (hu_of hr) (pv 1) (pe_tup (pa_cons (pv 2) (pa_cons (pv 3) pa_nil))) (fun _ _ => rfl)) (pa_cons (pe_dget (hu_of hr) (pv 1) (pe_tup (pa_cons (pv 3) (pa_cons (pv 4) pa_nil))) (fun _ _ => rfl)) pa_nil)) (by rfl)) (pss_one (ps_ret (pe_tup (pa_cons (pe_c c_add_in hr (by omega) (by rfl) (pa_cons (pv 0) (pa_cons (pe_ix ix_tup (pv 5) pe_int (fun _ _ => rfl)) (pa_cons (pe_ix ix_tup (pv 6) pe_int (fun _ _ => rfl)) pa_nil)))) (pa_cons (pe_c c_divisor_in hr (by omega) (by rfl) (pa_cons (pv 0) (pa_cons (pe_ix ix_tup (pv 5) pe_int (fun _ _ => rfl)) (pa_cons (pe_ix ix_tup (pv 6) pe_int (fun _ _ => rfl)) pa_nil)))) pa_nil)))))), spD_run h ?_⟩
  clear h
  rintro ds d ⟨k, P', c, ps, one, m, other, rfl, rfl, h1, h2, ok⟩
  show WS K none _ [some (false, _), some (false, _), some (false, _), some (false, _), some (false, _), none, none] _ _
  refine ws_seq (ws_par (ea_cons (ev_dgetT (ks := kT (one, m)) (ev_var rfl) (ev_tup (ea_cons (ev_var rfl) (ea_cons (ev_var rfl) ea_nil)) (szb rfl)) (dV_cl c h1)) (ea_cons (ev_dgetT (ks := kT (m, other)) (ev_var rfl) (ev_tup (ea_cons (ev_var rfl) (ea_cons (ev_var rfl) ea_nil)) (szb rfl)) (dV_cl c h2)) ea_nil)) ?_)
  exact ws_ret (ev_tup (ea_cons (ev_call (ea_cons (ev_var rfl) (ea_cons (ev_op (ev_var rfl) ev_int (op_ixT rfl)) (ea_cons (ev_op (ev_var rfl) ev_int (op_ixT rfl)) ea_nil))) ⟨k, (c (one, m)).1, (c (m, other)).1, rfl, rfl⟩) (ea_cons (ev_call (ea_cons (ev_var rfl) (ea_cons (ev_op (ev_var rfl) ev_int (op_ixT rfl)) (ea_cons (ev_op (ev_var rfl) ev_int (op_ixT rfl)) ea_nil))) ⟨k, (c (one, m)).2, (c (m, other)).2, rfl, rfl, (ok.ok.ps _).cnt, (ok.ok.ps _).cnt, (ok.by _).mono (by omega), (ok.by _).mono (by omega)⟩) ea_nil)) (szb rfl)) rfl

/-- lines that the program may close -/
structure GoodLs {k : Kd} (P : Rk k) (ls : List (Ln Str (Rk k))) (ns : List Str) : Prop where
  gl : ∀ l ∈ ls, GoodL P l
  nm : ∀ l ∈ ls, l.1 ∈ ns ∧ l.2.1 ∈ ns
  sz : ∀ l ∈ ls, Szr 8000 l.2.2.1
  pP : Ps P
  sP : Szr 1000 P
  nd : ns.Nodup
  ln : ns.length ≤ 100
theorem pairStep_ok {k : Kd} {P : Rk k} {c c' : Cs Str (Rk k)} {m : Str} {p : Str × Str} (ok : Ok P c) (h : pairStep m c p = some c') : Ok P c' := by
  unfold pairStep at h
  rw [Option.map_eq_some_iff] at h
  obtain ⟨v, h1, h2⟩ := h
  obtain ⟨z1, z2, z3, _⟩ := metAt_some ok (join_ps ok m p) (join_dv ok m p) h1
  have all : ∀ {F : Rk k × Rk k → Prop}, F v → (∀ q, F (c q)) → ∀ q, F (c' q) := fun {F} f1 f2 q => by
    by_cases e : q = p
    · rw [← h2, e, put_same]; exact f1
    · rw [← h2, put_ne e]; exact f2 q
  exact ⟨all (F := fun v => Ps v.2) z1 ok.ps, all (F := fun v => Dv v.2 P) z2 ok.dv, all (F := fun v => red v.2 v.1) z3 ok.rd⟩
theorem pairSteps_ok {k : Kd} {P : Rk k} {m : Str} : ∀ {ps : List (Str × Str)} {c c' : Cs Str (Rk k)}, Ok P c → ps.foldlM (pairStep m) c = some c' → Ok P c'
  | [], c, c', ok, h => by cases h; exact ok
  | p :: ps, c, c', ok, h => by
    rw [List.foldlM_cons] at h
    cases e : pairStep m c p with
    | none => rw [e] at h; cases h
    | some c1 => rw [e] at h; exact pairSteps_ok (pairStep_ok ok e) h
theorem foldlM_snoc {α β : Type} {f : β → α → Option β} {l : List α} {i : Nat} {a : α} {b : β} (h : l[i]? = some a) : (l.take (i + 1)).foldlM f b = ((l.take i).foldlM f b).bind fun c => f c a := by
  rw [List.take_add_one, h, List.foldlM_append]
  show ((l.take i).foldlM f b).bind (fun c => ([a]).foldlM f c) = _
  congr 1
  funext c
  show (f c a).bind _ = _
  cases f c a <;> rfl
theorem foldlM_none {α β : Type} {f : β → α → Option β} {l : List α} {i : Nat} {b : β} (h : (l.take i).foldlM f b = none) : l.foldlM f b = none := by
  have e : l = l.take i ++ l.drop i := (List.take_append_drop i l).symm
  rw [e, List.foldlM_append, h]
  rfl
def f_closed_in : List D → D → Prop := fun ds d => ∃ (k : Kd) (P : Rk k) (ls : List (Ln Str (Rk k))) (ns : List Str), ds = [.str (kd k), lnsD ls, nmD ns] ∧ d = coD (pairs ns) (closedF ls ns) ∧ GoodLs P ls ns
def midP (m : Str) : D → Bool
  | .tup [.str a, .str b] => !(decide (m = a) || decide (m = b))
  | _ => false
theorem pick_mid {k : Kd} (ns : List Str) (c : Cs Str (Rk k)) (m : Str) : pick (midP m) id (keysT (clM (pairs ns) c)) = (midPairs ns m).map fun q => .tup [.str q.1, .str q.2] := by
  unfold pick keysT clM midPairs
  rw [List.map_id, List.map_map, List.filter_map]
  rfl
theorem s_closed_in : FnScope [("kind" : Str), ("lines" : Str), ("names" : Str), ("closed" : Str), ("line" : Str), ("middle" : Str), ("one" : Str), ("other" : Str), ("ahead" : Str), ("by" : Str), ("there" : Str), ("pair" : Str)] ["kind", "lines", "names"] (defScope (Hd.top 46)) := ⟨rfl, rfl, rfl, by decide +kernel, rfl, by decide +kernel, by decide +kernel⟩
theorem c_closed_in (T : Tx K mg) (k : Nat) : Cal P w K mg base (k + 8) "closed_in" (spD K f_closed_in) := by
  have c_nothing_told := c_nothing_told (P := P) (w := w) (base := base) T k
  have c_put_line := c_put_line (P := P) (w := w) (base := base) T k
  have c_joined_at := c_joined_at (P := P) (w := w) (base := base) T k
  have c_met_at := c_met_at (P := P) (w := w) (base := base) T k
  have sc := s_closed_in
  refine cal_of (k := k + 7) T 31 31 rfl rfl s_closed_in (fun _ _ _ _ _ _ us hl => match us, hl with | [_, _, _], _ => rfl) (fun vs H Q E h => spD_len h (n := 3) (by rintro _ _ ⟨k, P', ls, ns, rfl, rfl, g⟩; rfl)) fun cdv A outer s H vs Q E hr h => ⟨_, PSs.nox (pss_cons (ps_set (i := 3) sc.nd rfl (Or.inl rfl) (pe_c c_nothing_told hr (by omega) (by rfl) (pa_cons (pv 2) pa_nil))) (pss_cons (ps_for PassesOwn.never rfl (pi_list (pv 1)) (pg_name (i := 4) sc.nd rfl (Or.inl rfl)) (pss_one (ps_if (pt_not (pt_val (pe_c c_put_line hr (by omega) (by rfl) (pa_cons (pv 0) (pa_cons (pv 3) (pa_cons (pv 4) pa_nil)))))) (pss_one (ps_ret pe_non)) pss_nil))) (pss_cons (ps_for PassesOwn.never rfl (pi_list (pv 2)) (pg_name (i := 5) sc.nd rfl (Or.inr rfl)) (pss_one (ps_for PassesOwn.never rfl (pi_list (pe_lock (pe_lc (own := [(("pair" : Str), 11)]) (g := gName 11) rfl sc.nd  (pi_keys (pv 3)) (blkOk_by (own := [(("pair" : Str), 11)]) (N := [("kind" : Str), ("lines" : Str), ("names" : Str), ("closed" : Str), ("line" : Str), ("middle" : Str), ("one" : Str), ("other" : Str), ("ahead" : Str), ("by" : Str), ("there" : Str), ("pair" : Str)]) (sc := defScope (Hd.top 46)) (by decide +kernel)) (fun _ _ _ _ _ => (pg_name (i := 11) sc.nd rfl (Or.inl rfl))) (fun _ _ _ _ _ => (pts_one (pt_cmpR (show OpR _ _ (rIn K true) from op_notIn_seq) (pv 5) (pv 11) (by rfl)))) (fun _ _ _ _ _ => (pv 11))))) (pg_tup rfl (pgs_cons (pg_name (i := 6) sc.nd rfl (Or.inl rfl)) (pgs_cons (pg_name (i := 7) sc.nd rfl (Or.inl rfl)) pgs_nil))) (pss_cons (ps_asg (pe_c c_joined_at hr (by omega) (by rfl) (pa_cons (pv 0) (pa_cons (pv 3) (pa_cons (pv 6) (pa_cons (pv 5) (pa_cons (pv 7) pa_nil)))))) (pg_tup rfl (pgs_cons (pg_name (i := 8) sc.nd rfl (Or.inl rfl)) (pgs_cons (pg_name (i := 9) sc.nd rfl (Or.inl rfl)) pgs_nil)))) (pss_cons (ps_set (i := 10) sc.nd rfl (Or.inl rfl) (pe_c c_met_at hr (by omega) (by rfl) (pa_cons (pv 0) (pa_cons (pv 3) (pa_cons (pe_tup (pa_cons (pv 6) (pa_cons (pv 7) pa_nil))) (pa_cons (pv 8) (pa_cons (pv 9) pa_nil))))))) (pss_cons (ps_if (pt_cmpR (op_isN) (pv 10) pe_non (nomark _)) (pss_one (ps_ret pe_non)) pss_nil) (pss_one (ps_dput (hu_of hr) (pv 3) (pe_tup (pa_cons (pv 6) (pa_cons (pv 7) pa_nil))) (pv 10) rfl)))))))) (pss_one (ps_ret (pv 3)))))), spD_run h ?_⟩
  clear h
  rintro ds d ⟨k, P', ls, ns, rfl, rfl, g⟩
  show WS K none _ [some (false, _), some (false, _), some (false, _), none, none, none, none, none, none, none, none, none] _ _
  have hpl : (pairs ns).length ≤ 10000 := Nat.le_trans pairs_len (Nat.mul_le_mul g.ln g.ln)
  have h3 := szl (Nat.le_refl 1000000)
  have fo : ∀ o : Option (Rk k × Rk k), flD (oD o) = true := fun o => by cases o <;> rfl
  refine ws_seq (ws_setN (ev_callN (ea_cons (ev_var rfl) ea_nil) ⟨k, ns, rfl, rfl, g.ln, g.nd⟩) ?_)
  -- the lines
  refine ws_seq (ws_forL (js := [4]) (fun i ρ' => ∃ (c : Cs Str (Rk k)) (x4 : Option (Bool × D)), ρ' = [some (false, .str (kd k)), some (false, lnsD ls), some (false, nmD ns), some (true, clD (pairs ns) c), x4, none, none, none, none, none, none, none] ∧ (ls.take i).foldlM lineStep start = some c) (ev_var rfl) ⟨start, none, rfl, rfl⟩ ?_ ?_)
  · rintro i d ρ' hd ⟨c, x4, rfl, hc⟩
    rw [List.getElem?_map, Option.map_eq_some_iff] at hd
    obtain ⟨l, hl, rfl⟩ := hd
    have hm := List.mem_of_getElem? hl
    obtain ⟨o1, o2, _⟩ := lines_some (start_ok P') start_AS (fun l h => g.gl l (List.mem_of_mem_take h)) hc
    have gl := g.gl l hm
    obtain ⟨n1, n2⟩ := g.nm l hm
    have st := foldlM_snoc (f := lineStep) (b := (start : Cs Str (Rk k))) hl
    rw [hc] at st
    have st : (ls.take (i + 1)).foldlM lineStep start = lineStep c l := st
    refine wg_name ?_
    refine ws_ifW (wt_not (wt_we (we_callM (i := 3) (j := 1) (P := lsPost (pairs ns) c l) rfl (em_next (ev_var rfl) (em_here (ea_cons (ev_var rfl) ea_nil))) ⟨k, P', c, pairs ns, l, rfl, rfl, mem_pairs.mpr ⟨n1, n2, gl.ne⟩, mem_pairs.mpr ⟨n2, n1, gl.ne.symm⟩, ⟨o1, g.pP, g.sP⟩, gl.ps, sz_dv gl.dv g.pP gl.ps.cnt g.sP, g.sz l hm, by omega⟩ fun m d hp => ?_)))
    unfold lsPost at hp
    cases e : lineStep c l with
    | none =>
      rw [e] at hp
      obtain rfl := hp
      refine ⟨false, rfl, fun _ => ws_ret ev_non ?_, fun h => nomatch h⟩
      unfold closedF
      rw [foldlM_none (i := i + 1) (st.trans e)]
      rfl
    | some c' =>
      rw [e] at hp
      obtain ⟨rfl, rfl⟩ := hp
      exact ⟨true, rfl, (fun h => nomatch h), fun _ => ws_next ⟨c', some (false, lnD l), rfl, st.trans e⟩⟩
  · rintro ρ' ⟨c1, x4, rfl, hc1⟩
    have hc1' : ls.foldlM lineStep start = some c1 := by
      have := hc1
      rw [show (ls.map lnD).length = ls.length from List.length_map .., List.take_length] at this
      exact this
    obtain ⟨o1, o2, _⟩ := lines_some (start_ok P') start_AS g.gl hc1'
    have cl1 : closedF ls ns = ns.foldlM (midStep ns) c1 := by
      unfold closedF
      rw [hc1']
      rfl
    -- the middles
    refine ws_seq (ws_forL (js := [5]) (fun i ρ' => ∃ (c : Cs Str (Rk k)) (x4 x5 x6 x7 x8 x9 x10 x11 : Option (Bool × D)), ρ' = [some (false, .str (kd k)), some (false, lnsD ls), some (false, nmD ns), some (true, clD (pairs ns) c), x4, x5, x6, x7, x8, x9, x10, x11] ∧ (ns.take i).foldlM (midStep ns) c1 = some c) (ev_var rfl) ⟨c1, x4, none, none, none, none, none, none, none, rfl, rfl⟩ ?_ ?_)
    · rintro i d ρ' hd ⟨c, x4, x5, x6, x7, x8, x9, x10, x11, rfl, hc⟩
      rw [List.getElem?_map, Option.map_eq_some_iff] at hd
      obtain ⟨m, hm, rfl⟩ := hd
      have hmm := List.mem_of_getElem? hm
      obtain ⟨p1, _⟩ := mids_some g.nd (g.nd.sublist (List.take_sublist i ns)) (fun _ h => List.mem_of_mem_take h) o1 o2 hc
      have st := foldlM_snoc (f := midStep ns) (b := c1) hm
      rw [hc] at st
      have st : (ns.take (i + 1)).foldlM (midStep ns) c1 = midStep ns c m := st
      refine wg_name ?_
      refine ws_forL (js := [6, 7]) (fun j ρ' => ∃ (c' : Cs Str (Rk k)) (x4 x6 x7 x8 x9 x10 x11 : Option (Bool × D)), ρ' = [some (false, .str (kd k)), some (false, lnsD ls), some (false, nmD ns), some (true, clD (pairs ns) c'), x4, some (false, .str m), x6, x7, x8, x9, x10, x11] ∧ ((midPairs ns m).take j).foldlM (pairStep m) c = some c')
        (ev_is (en_lcLockT (i := 3) (js := [11]) (m := clM (pairs ns) c) (midP m) id rfl (by rw [clM_len]; omega) (by decide) (fun d hd => ?_) fun d hd => ?_).ev (congrArg D.lst (pick_mid ns c m))) ⟨c, x4, x6, x7, x8, x9, x10, x11, rfl, rfl⟩ ?_ ?_
      · unfold keysT clM at hd
        rw [List.map_map] at hd
        obtain ⟨p, _, rfl⟩ := List.mem_map.mp hd
        rfl
      · unfold keysT clM at hd
        rw [List.map_map] at hd
        obtain ⟨p, _, rfl⟩ := List.mem_map.mp hd
        exact wg_name ⟨et_test (ev_op (ev_var rfl) (ev_var rfl) op_notIn2), fun _ => ev_var rfl⟩
      · rintro j d ρ' hd ⟨c', x4, x6, x7, x8, x9, x10, x11, rfl, hc'⟩
        rw [List.getElem?_map, Option.map_eq_some_iff] at hd
        obtain ⟨⟨one, other⟩, hp, rfl⟩ := hd
        obtain ⟨q1, q2, q3, q4, q5⟩ := mem_midPairs.mp (List.mem_of_getElem? hp)
        have ok' := pairSteps_ok p1 hc'
        have st2 := foldlM_snoc (f := pairStep m) (b := c) hp
        rw [hc'] at st2
        have st2 : ((midPairs ns m).take (j + 1)).foldlM (pairStep m) c = pairStep m c' (one, other) := st2
        have hpp : (one, other) ∈ pairs ns := mem_pairs.mpr ⟨q1, q2, q3⟩
        have okk : Ok' P' c' := ⟨ok', g.pP, g.sP⟩
        refine wg_tup rfl (wgs_cons (wg_name (wgs_cons (wg_name (wgs_nil ?_)))))
        refine ws_seq (ws_asg (ev_borrow (i := 3) rfl (ev_call (ea_cons (ev_var rfl) (ea_cons (ev_var rfl) (ea_cons (ev_var rfl) (ea_cons (ev_var rfl) (ea_cons (ev_var rfl) ea_nil))))) ⟨k, P', c', pairs ns, one, m, other, rfl, rfl, mem_pairs.mpr ⟨q1, hmm, q4.symm⟩, mem_pairs.mpr ⟨hmm, q2, q5⟩, okk⟩) rfl) (wg_tup rfl (wgs_cons (wg_name (wgs_cons (wg_name (wgs_nil ?_)))))))
        have jb : Szr 1000 (join c' m (one, other)).2 := sz_dv (join_dv ok' m _) g.pP (join_ps ok' m _).cnt g.sP
        refine ws_seq (ws_set (ev_borrow (i := 3) rfl (ev_call (ea_cons (ev_var rfl) (ea_cons (ev_var rfl) (ea_cons (ev_tup (ea_cons (ev_var rfl) (ea_cons (ev_var rfl) ea_nil)) (szb rfl)) (ea_cons (ev_var rfl) (ea_cons (ev_var rfl) ea_nil))))) ⟨k, P', c', pairs ns, (one, other), (join c' m (one, other)).1, (join c' m (one, other)).2, rfl, rfl, hpp, okk, join_ps ok' m _, jb, (sz_addR (okk.rest _) (okk.rest _)).mono (by omega)⟩) (fo _)) ?_)
        refine ws_seq (ws_when (et_test (ev_op (ev_var rfl) ev_non (op_isNo _))) (fun hh => ?_) fun hh => ?_)
        · refine ws_ret ev_non ?_
          rw [cl1]
          have e1 : pairStep m c' (one, other) = none := by
            unfold pairStep
            cases e : metAt c' (one, other) (join c' m (one, other)).1 (join c' m (one, other)).2 with
            | none => rfl
            | some v => rw [e] at hh; cases hh
          have e2 : midStep ns c m = none := foldlM_none (i := j + 1) (st2.trans e1)
          rw [foldlM_none (i := i + 1) (st.trans e2)]
          rfl
        · cases e : metAt c' (one, other) (join c' m (one, other)).1 (join c' m (one, other)).2 with
          | none => rw [e] at hh; cases hh
          | some v =>
            refine ws_dputT (i := 3) (ks := kT (one, other)) rfl (ev_var rfl) (ev_tup (ea_cons (ev_var rfl) (ea_cons (ev_var rfl) ea_nil)) (szb rfl)) (by rw [clM_len]; omega) ?_
            have e1 : pairStep m c' (one, other) = some (put c' (one, other) v) := by
              unfold pairStep
              rw [e]
              rfl
            refine ⟨put c' (one, other) v, x4, some (false, .str one), some (false, .str other), some (false, iD (join c' m (one, other)).1), some (false, iD (join c' m (one, other)).2), some (false, prD v), x11, ?_, st2.trans e1⟩
            have : clD (pairs ns) (put c' (one, other) v) = .dT (dPut (clM (pairs ns) c') (kT (one, other)) (prD v)) := by rw [dPut_cl c' hpp]; rfl
            rw [this]
            rfl
      · rintro ρ' ⟨c', x4, x6, x7, x8, x9, x10, x11, rfl, hc'⟩
        rw [List.length_map, List.take_length] at hc'
        exact ⟨c', x4, some (false, .str m), x6, x7, x8, x9, x10, x11, rfl, st.trans hc'⟩
    · rintro ρ' ⟨c, x4, x5, x6, x7, x8, x9, x10, x11, rfl, hc⟩
      rw [show (ns.map D.str).length = ns.length from List.length_map .., List.take_length] at hc
      refine ws_freeze0 (i := 3) rfl (ws_ret (ev_var rfl) ?_)
      rw [cl1, hc]
      rfl

end
end J

/-! ## W4 -/
/-! What the program takes as names, lines, books. -/
namespace J
open PySem PySem.Spec PyProof.Rows L2 Q
open KR
section
variable {K : PySem.W.Frag} {ρ : Env} {js vs : List Nat} {l : List D} {te : TE} {tt : TT} {g : TG} {wi : TI}
theorem et_nT (h : EvT K tt ρ true) : EvT K (tNot tt) ρ false := et_not h
theorem en_lcNone (h : EvI K wi ρ l) (hl : l.length < sizeLine) (hj : ∀ j ∈ js, j ∈ vs) (ht : ∀ d ∈ l, WG K js g d (wipeE ρ vs) fun ρ' => EvT K tt ρ' false) : EvN K (tLc wi g tt te vs) ρ (.lst []) := by
  have e : pick (fun _ => false) id l = [] := by unfold pick; simp
  have := en_lcI (K := K) (ρ := ρ) (js := js) (vs := vs) (te := te) (tt := tt) (g := g) (fun _ => false) id h hl hj fun d hd => by
    intro σ Hs H v R r Q q
    exact ht d hd σ Hs H v R r Q fun ρ' σ' m R' t => q ρ' σ' ⟨m, fun z => nomatch z⟩ R' t
  rwa [e] at this
def isN : D → Bool
  | .non => true
  | _ => false
theorem op_isNd (d : D) : Op2 K (fun x y H Q => y = .non ∧ Q (.bl (decide (x = .non))) H) d .non (.bl (isN d)) := fun Hs H v w Q e r1 r2 q => by
  cases r2
  refine ⟨rfl, ?_⟩
  have : decide (v = V.non) = isN d := by cases r1 <;> rfl
  rw [this]
  exact q _ Hs H (.refl e) (.bl _)
theorem op_notNd (d : D) : Op2 K (fun x y H Q => y = .non ∧ Q (.bl (!decide (x = .non))) H) d .non (.bl (!isN d)) := fun Hs H v w Q e r1 r2 q => by
  cases r2
  refine ⟨rfl, ?_⟩
  have : decide (v = V.non) = isN d := by cases r1 <;> rfl
  rw [this]
  exact q _ Hs H (.refl e) (.bl _)
theorem len_szl {l : List D} (h : l.length ≤ 100000) : l.length < sizeLine := by
  have := szl (Nat.le_refl 1000000)
  omega
end
def tailOf (s : Str) : Str := cutS s (some ((Txt.rstripChars s "0123456789").length : Int)) none
def nmOk (s : Str) : Bool :=
  decide (s.length ≤ 100) && decide (1 ≤ (Txt.rstripChars s "0123456789").length) && decide ((Txt.rstripChars s "0123456789").length ≤ 6) && decide (Txt.stripChars (Txt.rstripChars s "0123456789") "abcdefghijklmnopqrstuvwxyz" = "") &&
    decide ((tailOf s).length ≤ 3) && (decide (tailOf s ∈ [("" : Str), ("0" : Str)]) || (match atI (tailOf s).cps.toList 0 with | some c => !decide ((⟨#[c]⟩ : Str) = "0") | none => false)) && PyData.strOk s
theorem names_ok : NAMES.all nmOk = true := by decide +kernel
theorem nm_ok {s : Str} (h : s ∈ NAMES) : nmOk s = true := List.all_eq_true.mp names_ok s h
theorem sub_line {s t : Str} (h : s.length ≤ 100) : s.length ≤ sizeLine := szl (by omega)
section
variable {P : Program} {w : World} {K : PySem.W.Frag} {mg : Str → Option Value} {base : Heap}
def f_is_whole : List D → D → Prop := fun ds d => ∃ i : Int, ds = [.int i] ∧ d = .bl true
theorem kit_ib : PySem.W.kitOne K (.type "int") (.type "bool") = some false := by rfl
theorem s_is_whole : FnScope [("value" : Str)] ["value"] (defScope (Hd.top 14)) := ⟨rfl, rfl, rfl, by decide +kernel, rfl, by decide +kernel, by decide +kernel⟩
theorem c_is_whole (T : Tx K mg) (k : Nat) : Cal P w K mg base (k + 1) "is_whole" (spD K f_is_whole) := by
  have sc := s_is_whole
  refine cal_of (k := k + 0) T 0 0 rfl rfl s_is_whole (fun _ _ _ _ _ _ us hl => match us, hl with | [_], _ => rfl) (fun vs H Q E h => spD_len h (n := 1) (by rintro _ _ ⟨i, rfl, rfl⟩; rfl)) fun cdv A outer s H vs Q E hr h => ⟨_, PSs.nox (pss_one (ps_ret (pe_and (pe_callB call_isi (by rfl) (T.fr 81 rfl) (by decide +kernel) (pa_cons (pv 0) (pa_cons (pe_bltn (v := .ty "int") (by rfl) (T.fr 80 rfl) (by decide +kernel) rfl) pa_nil))) (pe_one (pe_not (pe_callB call_isi (by rfl) (T.fr 81 rfl) (by decide +kernel) (pa_cons (pv 0) (pa_cons (pe_bltn (v := .ty "bool") (by rfl) (T.fr 77 rfl) (by decide +kernel) rfl) pa_nil)))))))), spD_run h ?_⟩
  clear h
  rintro ds d ⟨i, rfl, rfl⟩
  show WS K none _ [some (false, _)] _ _
  exact ws_ret (ev_andV (ev_isi (t := "int") (ev_var rfl) rfl kit_same) fun _ => ev_notV (ev_isi (t := "int") (ev_var rfl) rfl kit_ib)) rfl

def f_is_count : List D → D → Prop := fun ds d => ∃ i : Int, ds = [.int i] ∧ d = .bl (decide (0 ≤ i))
theorem s_is_count : FnScope [("value" : Str)] ["value"] (defScope (Hd.top 15)) := ⟨rfl, rfl, rfl, by decide +kernel, rfl, by decide +kernel, by decide +kernel⟩
theorem c_is_count (T : Tx K mg) (k : Nat) : Cal P w K mg base (k + 2) "is_count" (spD K f_is_count) := by
  have c_is_whole := c_is_whole (P := P) (w := w) (base := base) T k
  have sc := s_is_count
  refine cal_of (k := k + 1) T 1 1 rfl rfl s_is_count (fun _ _ _ _ _ _ us hl => match us, hl with | [_], _ => rfl) (fun vs H Q E h => spD_len h (n := 1) (by rintro _ _ ⟨i, rfl, rfl⟩; rfl)) fun cdv A outer s H vs Q E hr h => ⟨_, PSs.nox (pss_one (ps_ret (pe_and (pe_c c_is_whole hr (by omega) (by rfl) (pa_cons (pv 0) pa_nil)) (pe_one (pe_cmpR (op_ge) (pv 0) pe_int (nomark _)))))), spD_run h ?_⟩
  clear h
  rintro ds d ⟨i, rfl, rfl⟩
  show WS K none _ [some (false, _)] _ _
  refine ws_ret (ev_is (ev_andV (ev_call (ea_cons (ev_var rfl) ea_nil) ⟨i, rfl, rfl⟩) fun _ => ev_op (ev_var rfl) ev_int op_b0) ?_) rfl
  show D.bl (true && decide (i ≥ 0)) = _
  rw [Bool.true_and]

def f_check_number : List D → D → Prop := fun ds d => ∃ i : Int, ds = [.int i, .int 0, .non] ∧ d = .non ∧ 0 ≤ i
theorem s_check_number : FnScope [("number" : Str), ("low" : Str), ("high" : Str)] ["number", "low", "high"] (defScope (Hd.top 16)) := ⟨rfl, rfl, rfl, by decide +kernel, rfl, by decide +kernel, by decide +kernel⟩
theorem c_check_number (T : Tx K mg) (k : Nat) : Cal P w K mg base (k + 2) "check_number" (spD K f_check_number) := by
  have c_is_whole := c_is_whole (P := P) (w := w) (base := base) T k
  have sc := s_check_number
  refine cal_of (k := k + 1) T 2 2 rfl rfl s_check_number (fun _ _ _ _ _ _ us hl => match us, hl with | [_, _, _], _ => rfl) (fun vs H Q E h => spD_len h (n := 3) (by rintro _ _ ⟨i, rfl, rfl, h⟩; rfl)) fun cdv A outer s H vs Q E hr h => ⟨_, PSs.nox (pss_one (ps_if (PW.pt (pw_or (pt_not (pt_val (pe_c c_is_whole hr (by omega) (by rfl) (pa_cons (pv 0) pa_nil)))) (pw_or (PW.pt (pw_and (pt_cmpR (op_notN) (pv 1) pe_non (nomark _)) (pw_and1 (pt_cmpR (op_lt) (pv 0) (pv 1) (nomark _))))) (pw_or1 (PW.pt (pw_and (pt_cmpR (op_notN) (pv 2) pe_non (nomark _)) (pw_and1 (pt_cmpR (op_gt) (pv 0) (pv 2) (nomark _))))))))) pss_never pss_nil)), spD_run h ?_⟩
  clear h
  rintro ds d ⟨i, rfl, rfl, h⟩
  show WS K none _ [some (false, _), some (false, _), some (false, _)] _ _
  refine ws_ifF (et_is (et_or (et_not (et_test (ev_call (ea_cons (ev_var rfl) ea_nil) ⟨i, rfl, rfl⟩))) fun _ => et_or (et_and (et_test (ev_op (ev_var rfl) ev_non (op_notNd _))) fun _ => et_test (ev_op (ev_var rfl) (ev_var rfl) op_b0)) fun _ => et_and (b := false) (et_test (ev_op (ev_var rfl) ev_non (op_notNd _))) fun z => nomatch z) ?_) (ws_next rfl)
  show (!true || ((!false && decide (i < 0)) || (!true && false))) = false
  have : decide (i < 0) = false := decide_eq_false (by omega)
  rw [this]
  rfl

def f_is_kind : List D → D → Prop := fun ds d => ∃ k : Kd, ds = [.str (kd k)] ∧ d = .bl true
theorem s_is_kind : FnScope [("value" : Str)] ["value"] (defScope (Hd.top 17)) := ⟨rfl, rfl, rfl, by decide +kernel, rfl, by decide +kernel, by decide +kernel⟩
theorem c_is_kind (T : Tx K mg) (k : Nat) : Cal P w K mg base (k + 1) "is_kind" (spD K f_is_kind) := by
  have sc := s_is_kind
  refine cal_of (k := k + 0) T 3 3 rfl rfl s_is_kind (fun _ _ _ _ _ _ us hl => match us, hl with | [_], _ => rfl) (fun vs H Q E h => spD_len h (n := 1) (by rintro _ _ ⟨k, rfl, rfl⟩; rfl)) fun cdv A outer s H vs Q E hr h => ⟨_, PSs.nox (pss_one (ps_ret (pe_and (pe_callB call_isi (by rfl) (T.fr 81 rfl) (by decide +kernel) (pa_cons (pv 0) (pa_cons (pe_bltn (v := .ty "str") (by rfl) (T.fr 89 rfl) (by decide +kernel) rfl) pa_nil))) (pe_one (pe_cmpR (op_in_seq) (pv 0) (pe_lst (pa_cons pe_str (pa_cons pe_str pa_nil))) (by rfl)))))), spD_run h ?_⟩
  clear h
  rintro ds d ⟨k, rfl, rfl⟩
  show WS K none _ [some (false, _)] _ _
  refine ws_ret (ev_is (ev_andV (ev_isi (t := "str") (ev_var rfl) rfl kit_same) fun _ => ev_op (ev_var rfl) (ev_lst (ea_cons ev_str (ea_cons ev_str ea_nil)) (szb rfl)) (op_inLS (l := [("hours" : Str), ("bits" : Str)]))) ?_) rfl
  cases k <;> exact congrArg D.bl (by decide +kernel)

def f_is_number_of : List D → D → Prop := fun ds d => ∃ (k : Kd) (a : Rk k), ds = [.str (kd k), iD a] ∧ d = .bl true
theorem s_is_number_of : FnScope [("kind" : Str), ("value" : Str)] ["kind", "value"] (defScope (Hd.top 18)) := ⟨rfl, rfl, rfl, by decide +kernel, rfl, by decide +kernel, by decide +kernel⟩
theorem c_is_number_of (T : Tx K mg) (k : Nat) : Cal P w K mg base (k + 3) "is_number_of" (spD K f_is_number_of) := by
  have c_is_whole := c_is_whole (P := P) (w := w) (base := base) T k
  have c_is_count := c_is_count (P := P) (w := w) (base := base) T k
  have sc := s_is_number_of
  refine cal_of (k := k + 2) T 4 4 rfl rfl s_is_number_of (fun _ _ _ _ _ _ us hl => match us, hl with | [_, _], _ => rfl) (fun vs H Q E h => spD_len h (n := 2) (by rintro _ _ ⟨k, a, rfl, rfl⟩; rfl)) fun cdv A outer s H vs Q E hr h => ⟨_, PSs.nox (pss_one (ps_ret (pe_ifExp (pt_cmpR (op_eq) (pv 0) pe_str (nomark _)) (pe_c c_is_whole hr (by omega) (by rfl) (pa_cons (pv 1) pa_nil)) (pe_c c_is_count hr (by omega) (by rfl) (pa_cons (pv 1) pa_nil))))), spD_run h ?_⟩
  clear h
  rintro ds d ⟨k, a, rfl, rfl⟩
  show WS K none _ [some (false, _), some (false, _)] _ _
  refine ws_ret ?_ rfl
  cases k
  · exact ev_ifT (et_h (ev_var rfl)) (ev_call (ea_cons (ev_var rfl) ea_nil) ⟨_, rfl, rfl⟩)
  · refine ev_ifF (et_b (ev_var rfl)) (ev_call (ea_cons (ev_var rfl) ea_nil) ⟨_, rfl, ?_⟩)
    rw [decide_eq_true (show 0 ≤ io a from Int.natCast_nonneg _)]

def f_name_fits : List D → D → Prop := fun ds d => ∃ s : Str, ds = [.str s] ∧ d = .bl true ∧ s ∈ NAMES
theorem s_name_fits : FnScope [("value" : Str), ("head" : Str), ("tail" : Str)] ["value"] (defScope (Hd.top 19)) := ⟨rfl, rfl, rfl, by decide +kernel, rfl, by decide +kernel, by decide +kernel⟩
theorem c_name_fits (T : Tx K mg) (k : Nat) : Cal P w K mg base (k + 1) "name_fits" (spD K f_name_fits) := by
  have sc := s_name_fits
  refine cal_of (k := k + 0) T 5 5 rfl rfl s_name_fits (fun _ _ _ _ _ _ us hl => match us, hl with | [_], _ => rfl) (fun vs H Q E h => spD_len h (n := 1) (by rintro _ _ ⟨s, rfl, rfl, hs⟩; rfl)) fun cdv A outer s H vs Q E hr h => ⟨_, PSs.nox (pss_cons (ps_if (pt_not (pt_val (pe_callB call_isi (by rfl) (T.fr 81 rfl) (by decide +kernel) (pa_cons (pv 0) (pa_cons (pe_bltn (v := .ty "str") (by rfl) (T.fr 89 rfl) (by decide +kernel) rfl) pa_nil))))) (pss_one (ps_ret pe_bl)) pss_nil) (pss_cons (ps_set (i := 1) sc.nd rfl (Or.inl rfl) (pe_bm PySem.F.plainAttrs_str PySem.F.slot_str_rstrip PySem.F.type_str_rstrip mt_rstripChars (pv 0) (pa_cons (pe_gc (by rfl) T.c_FIGURES) pa_nil))) (pss_cons (ps_set (i := 2) sc.nd rfl (Or.inl rfl) (pe_slice sl_str (pv 0) (po_some (pe_callB call_len_str (by rfl) (T.fr 82 rfl) (by decide +kernel) (pa_cons (pv 1) pa_nil))) po_none)) (pss_cons (ps_if (PW.pt (pw_or (pt_not (pt_chain (op_le) (op_le) pe_int (pe_callB call_len_str (by rfl) (T.fr 82 rfl) (by decide +kernel) (pa_cons (pv 1) pa_nil)) (pe_gc (by rfl) T.c_MOST_LETTERS))) (pw_or (pt_cmpR (op_ne) (pe_bm PySem.F.plainAttrs_str PySem.F.slot_str_strip PySem.F.type_str_strip mt_stripChars (pv 1) (pa_cons (pe_gc (by rfl) T.c_LETTERS) pa_nil)) pe_str (nomark _)) (pw_or1 (pt_cmpR (op_gt) (pe_callB call_len_str (by rfl) (T.fr 82 rfl) (by decide +kernel) (pa_cons (pv 2) pa_nil)) (pe_gc (by rfl) T.c_MOST_FIGURES) (nomark _)))))) (pss_one (ps_ret pe_bl)) pss_nil) (pss_one (ps_ret (pe_or (pe_cmpR (op_in_seq) (pv 2) (pe_lst (pa_cons pe_str (pa_cons pe_str pa_nil))) (by rfl)) (pe_one (pe_cmpR (op_ne) (pe_ix ix_str (pv 2) pe_int (fun _ _ => rfl)) pe_str (nomark _)))))))))), spD_run h ?_⟩
  clear h
  rintro ds d ⟨s, rfl, rfl, hs⟩
  show WS K none _ [some (false, _), none, none] _ _
  have ok := nm_ok hs
  unfold nmOk at ok
  simp only [Bool.and_eq_true, decide_eq_true_eq] at ok
  obtain ⟨⟨⟨⟨⟨⟨o0, o1⟩, o2⟩, o3⟩, o4⟩, o5⟩, _⟩ := ok
  have z0 : s.length ≤ sizeLine := szl (by omega)
  have z1 : (Txt.rstripChars s "0123456789").length ≤ sizeLine := szl (by omega)
  have z2 : (tailOf s).length ≤ sizeLine := szl (by omega)
  refine ws_seq (ws_ifF (et_nT (et_test (ev_isi (t := "str") (ev_var rfl) rfl kit_same))) (ws_next ?_))
  refine ws_seq (ws_set (ev_bmS (ev_var rfl) (ea_cons ev_str ea_nil) (om_rstrip z0)) ?_)
  refine ws_seq (ws_set (ev_slS (ev_var rfl) (eo_some (ev_cb (ea_cons (ev_var rfl) ea_nil) (op_lenS z1))) eo_none z0) ?_)
  refine ws_seq (ws_ifF (et_is (et_or (et_not (et_test (ev_chain ev_int (ev_cb (ea_cons (ev_var rfl) ea_nil) (op_lenS z1)) op_b0 fun _ => ⟨ev_int, op_b0⟩))) fun _ => et_or (et_test (ev_op (ev_bmS (ev_var rfl) (ea_cons ev_str ea_nil) (om_strip z1)) ev_str op_neS)) fun _ => et_test (ev_op (ev_cb (ea_cons (ev_var rfl) ea_nil) (op_lenS z2)) ev_int op_b0)) ?_) (ws_next ?_))
  · have e1 : decide ((1 : Int) ≤ ((Txt.rstripChars s "0123456789").length : Int)) = true := decide_eq_true (by omega)
    have e2 : decide (((Txt.rstripChars s "0123456789").length : Int) ≤ 6) = true := decide_eq_true (by omega)
    have e3 : decide (Txt.stripChars (Txt.rstripChars s "0123456789") "abcdefghijklmnopqrstuvwxyz" = "") = true := decide_eq_true o3
    have e4 : decide (((tailOf s).length : Int) > 3) = false := decide_eq_false (by omega)
    show (!(decide ((1 : Int) ≤ ((Txt.rstripChars s "0123456789").length : Int)) && decide (((Txt.rstripChars s "0123456789").length : Int) ≤ 6)) || ((!decide (Txt.stripChars (Txt.rstripChars s "0123456789") "abcdefghijklmnopqrstuvwxyz" = "")) || decide (((tailOf s).length : Int) > 3))) = false
    rw [e1, e2, e3, e4]
    rfl
  · refine ws_ret (d := .bl (decide (tailOf s ∈ [("" : Str), ("0" : Str)]) || true)) (ev_orV (b := true) (ev_op (ev_var rfl) (ev_lst (ea_cons ev_str (ea_cons ev_str ea_nil)) (szb rfl)) (op_inLS (l := [("" : Str), ("0" : Str)]))) fun hf => ?_) (by rw [Bool.or_true])
    rw [hf, Bool.false_or] at o5
    cases ha : atI (tailOf s).cps.toList 0 with
    | none => rw [ha] at o5; cases o5
    | some c =>
      rw [ha] at o5
      exact ev_is (ev_op (ev_op (ev_var rfl) ev_int (op_ixS z2 ha)) ev_str op_neS) (congrArg D.bl o5)

/-- a line that the program takes -/
structure Line0 {k : Kd} (l : Ln Str (Rk k)) : Prop where
  n1 : l.1 ∈ NAMES
  n2 : l.2.1 ∈ NAMES
  ne : l.1 ≠ l.2.1
  ct : 0 ≤ io l.2.2.2
  rd : io l.2.2.2 = 0 ∨ red l.2.2.2 l.2.2.1
def f_line_fits : List D → D → Prop := fun ds d => ∃ (k : Kd) (l : Ln Str (Rk k)), ds = [.str (kd k), lnD l] ∧ d = .bl true ∧ Line0 l
theorem et_bits {ρ : Env} {te : TE} (h : Ev K te ρ (.str (kd .b))) : EvT K (tTest (tOp rEq te (tC (.str "bits")))) ρ true := et_is (et_test (ev_op h ev_str op_eqS)) (by decide +kernel)
theorem et_bitsF {ρ : Env} {te : TE} (h : Ev K te ρ (.str (kd .h))) : EvT K (tTest (tOp rEq te (tC (.str "bits")))) ρ false := et_is (et_test (ev_op h ev_str op_eqS)) (by decide +kernel)
theorem s_line_fits : FnScope [("kind" : Str), ("value" : Str), ("one" : Str), ("other" : Str), ("ahead" : Str), ("by" : Str)] ["kind", "value"] (defScope (Hd.top 21)) := ⟨rfl, rfl, rfl, by decide +kernel, rfl, by decide +kernel, by decide +kernel⟩
theorem c_line_fits (T : Tx K mg) (k : Nat) : Cal P w K mg base (k + 4) "line_fits" (spD K f_line_fits) := by
  have c_name_fits := c_name_fits (P := P) (w := w) (base := base) T k
  have c_is_number_of := c_is_number_of (P := P) (w := w) (base := base) T k
  have c_is_count := c_is_count (P := P) (w := w) (base := base) T k
  have sc := s_line_fits
  refine cal_of (k := k + 3) T 7 7 rfl rfl s_line_fits (fun _ _ _ _ _ _ us hl => match us, hl with | [_, _], _ => rfl) (fun vs H Q E h => spD_len h (n := 2) (by rintro _ _ ⟨k, l, rfl, rfl, hl⟩; rfl)) fun cdv A outer s H vs Q E hr h => ⟨_, PSs.nox (pss_cons (ps_if (PW.pt (pw_or (pt_not (pt_val (pe_callB call_isi (by rfl) (T.fr 81 rfl) (by decide +kernel) (pa_cons (pv 1) (pa_cons (pe_bltn (v := .ty "tuple") (by rfl) (T.fr 91 rfl) (by decide +kernel) rfl) pa_nil))))) (pw_or (pt_cmpR (op_ne) (pe_callB call_len_seq (by rfl) (T.fr 82 rfl) (by decide +kernel) (pa_cons (pv 1) pa_nil)) pe_int (nomark _)) (pw_or (pt_not (pt_val (pe_c c_name_fits hr (by omega) (by rfl) (pa_cons (pe_ix ix_tup (pv 1) pe_int (fun _ _ => rfl)) pa_nil)))) (pw_or1 (pt_not (pt_val (pe_c c_name_fits hr (by omega) (by rfl) (pa_cons (pe_ix ix_tup (pv 1) pe_int (fun _ _ => rfl)) pa_nil))))))))) (pss_one (ps_ret pe_bl)) pss_nil) (pss_cons (ps_asg (pv 1) (pg_tup rfl (pgs_cons (pg_name (i := 2) sc.nd rfl (Or.inl rfl)) (pgs_cons (pg_name (i := 3) sc.nd rfl (Or.inl rfl)) (pgs_cons (pg_name (i := 4) sc.nd rfl (Or.inl rfl)) (pgs_cons (pg_name (i := 5) sc.nd rfl (Or.inl rfl)) pgs_nil)))))) (pss_cons (ps_if (PW.pt (pw_or (pt_cmpR (op_eq) (pv 2) (pv 3) (nomark _)) (pw_or (pt_not (pt_val (pe_c c_is_number_of hr (by omega) (by rfl) (pa_cons (pv 0) (pa_cons (pv 4) pa_nil))))) (pw_or1 (pt_not (pt_val (pe_c c_is_count hr (by omega) (by rfl) (pa_cons (pv 5) pa_nil)))))))) (pss_one (ps_ret pe_bl)) pss_nil) (pss_cons (ps_if (pt_cmpR (op_eq) (pv 0) pe_str (nomark _)) (pss_one (ps_ret (pe_or (pe_cmpR (op_eq) (pv 5) pe_int (nomark _)) (pe_one (pe_cmpR (op_lt) (pe_bits (pv 4)) (pe_bits (pv 5)) (nomark _)))))) pss_nil) (pss_one (ps_ret (pe_or (pe_cmpR (op_eq) (pv 5) pe_int (nomark _)) (pe_one (pe_chain (op_le) (op_lt) pe_int (pv 4) (pv 5)))))))))), spD_run h ?_⟩
  clear h
  rintro ds d ⟨k, l, rfl, rfl, hl⟩
  show WS K none _ [some (false, _), some (false, _), none, none, none, none] _ _
  obtain ⟨one, other, ahead, by'⟩ := l
  obtain ⟨n1, n2, ne, ct, rd⟩ := hl
  have n1 : one ∈ NAMES := n1
  have n2 : other ∈ NAMES := n2
  have ne : one ≠ other := ne
  have ct : 0 ≤ io by' := ct
  have rd : io by' = 0 ∨ red by' ahead := rd
  refine ws_seq (ws_ifF (et_is (et_or (et_not (et_test (ev_isi (t := "tuple") (ev_var rfl) rfl kit_same))) fun _ => et_or (et_test (ev_op (ev_cb (ea_cons (ev_var rfl) ea_nil) (op_lenT rfl)) ev_int op_neI)) fun _ => et_or (et_not (et_test (ev_call (ea_cons (ev_op (ev_var rfl) ev_int (op_ixT rfl)) ea_nil) ⟨one, rfl, rfl, n1⟩))) fun _ => et_not (et_test (ev_call (ea_cons (ev_op (ev_var rfl) ev_int (op_ixT rfl)) ea_nil) ⟨other, rfl, rfl, n2⟩))) (by rfl)) (ws_next ?_))
  refine ws_seq (ws_asg (ev_var rfl) (wg_tup rfl (wgs_cons (wg_name (wgs_cons (wg_name (wgs_cons (wg_name (wgs_cons (wg_name (wgs_nil ?_)))))))))))
  refine ws_seq (ws_ifF (et_is (et_or (et_test (ev_op (ev_var rfl) (ev_var rfl) op_eqS)) fun _ => et_or (et_not (et_test (ev_call (ea_cons (ev_var rfl) (ea_cons (ev_var rfl) ea_nil)) ⟨k, ahead, rfl, rfl⟩))) fun _ => et_not (et_test (ev_call (ea_cons (ev_var rfl) ea_nil) ⟨io by', rfl, rfl⟩))) ?_) (ws_next ?_))
  · rw [decide_eq_false ne, decide_eq_true ct]; rfl
  cases k
  · refine ws_seq (ws_ifF (et_bitsF (ev_var rfl)) (ws_next ?_))
    refine ws_ret (d := .bl (decide (io by' = 0) || true)) (ev_orV (b := true) (ev_op (ev_var rfl) ev_int op_eqI) fun hf => ?_) (by rw [Bool.or_true])
    obtain ⟨r1, r2⟩ := rd.resolve_left (of_decide_eq_false hf)
    refine ev_is (ev_chain ev_int (ev_var rfl) op_b0 fun _ => ⟨ev_var rfl, op_b0⟩) ?_
    show D.bl (decide ((0 : Int) ≤ ahead) && decide ((ahead : Int) < by')) = _
    rw [decide_eq_true r1, decide_eq_true r2]
    rfl
  · refine ws_seq (ws_ifT (et_bits (ev_var rfl)) ?_)
    refine ws_ret (d := .bl (decide (io by' = 0) || true)) (ev_orV (b := true) (ev_op (ev_var rfl) ev_int op_eqI) fun hf => ?_) (by rw [Bool.or_true])
    have r1 : len ahead.n < len by'.n := rd.resolve_left (of_decide_eq_false hf)
    refine ev_is (ev_op (ev_bits (ev_var rfl)) (ev_bits (ev_var rfl)) op_b0) ?_
    rw [io_b, io_b, bits_nat, bits_nat]
    exact congrArg D.bl (decide_eq_true (show ((len ahead.n : Nat) : Int) < ((len by'.n : Nat) : Int) by omega))

def f_lines_fit : List D → D → Prop := fun ds d => ∃ (k : Kd) (ls : List (Ln Str (Rk k))), ds = [.str (kd k), lnsD ls] ∧ d = .bl true ∧ (∀ l ∈ ls, Line0 l) ∧ ls.length ≤ 10000
theorem s_lines_fit : FnScope [("kind" : Str), ("value" : Str), ("item" : Str)] ["kind", "value"] (defScope (Hd.top 22)) := ⟨rfl, rfl, rfl, by decide +kernel, rfl, by decide +kernel, by decide +kernel⟩
theorem c_lines_fit (T : Tx K mg) (k : Nat) : Cal P w K mg base (k + 5) "lines_fit" (spD K f_lines_fit) := by
  have c_line_fits := c_line_fits (P := P) (w := w) (base := base) T k
  have sc := s_lines_fit
  refine cal_of (k := k + 4) T 8 8 rfl rfl s_lines_fit (fun _ _ _ _ _ _ us hl => match us, hl with | [_, _], _ => rfl) (fun vs H Q E h => spD_len h (n := 2) (by rintro _ _ ⟨k, ls, rfl, rfl, hl, hn⟩; rfl)) fun cdv A outer s H vs Q E hr h => ⟨_, PSs.nox (pss_one (ps_ret (pe_and (pe_callB call_isi (by rfl) (T.fr 81 rfl) (by decide +kernel) (pa_cons (pv 1) (pa_cons (pe_bltn (v := .ty "list") (by rfl) (T.fr 83 rfl) (by decide +kernel) rfl) pa_nil))) (pe_one (pe_cmpR (op_eqD hr.units) (pe_lc (own := [(("item" : Str), 2)]) (g := gName 2) rfl sc.nd  (pi_list (pv 1)) (blkOk_by (own := [(("item" : Str), 2)]) (N := [("kind" : Str), ("value" : Str), ("item" : Str)]) (sc := defScope (Hd.top 22)) (by decide +kernel)) (fun _ _ _ _ _ => (pg_name (i := 2) sc.nd rfl (Or.inl rfl))) (fun _ _ _ _ _ => (pts_one (pt_not (pt_val (pe_c c_line_fits hr (by omega) (by rfl) (pa_cons (pv 0) (pa_cons (pv 2) pa_nil))))))) (fun _ _ _ _ _ => (pv 2))) (pe_lst pa_nil) (nomark _)))))), spD_run h ?_⟩
  clear h
  rintro ds d ⟨k, ls, rfl, rfl, hl, hn⟩
  show WS K none _ [some (false, _), some (false, _), none] _ _
  refine ws_ret (ev_is (ev_andV (ev_isi (t := "list") (ev_var rfl) rfl kit_same) fun _ => ev_op (en_lcNone (js := [2]) (ei_list (ev_var rfl)) (len_szl (by rw [List.length_map]; omega)) (by decide) fun d hd => ?_).ev (ev_lst ea_nil (szb rfl)) op_eq00) rfl) rfl
  obtain ⟨l, hm, rfl⟩ := List.mem_map.mp hd
  exact wg_name (et_nT (et_test (ev_call (ea_cons (ev_var rfl) (ea_cons (ev_var rfl) ea_nil)) ⟨k, l, rfl, rfl, hl l hm⟩)))

def bkD {k : Kd} (ls : List (Ln Str (Rk k))) : D := .tup [.str (kd k), lnsD ls]
/-- lines of a book that the program takes -/
structure Bk {k : Kd} (ls : List (Ln Str (Rk k))) : Prop where
  l0 : ∀ l ∈ ls, Line0 l
  ln : ls.length ≤ 20
def f_book_fits : List D → D → Prop := fun ds d => ∃ (k : Kd) (ls : List (Ln Str (Rk k))), ds = [bkD ls] ∧ d = .bl true ∧ Bk ls
theorem s_book_fits : FnScope [("value" : Str)] ["value"] (defScope (Hd.top 23)) := ⟨rfl, rfl, rfl, by decide +kernel, rfl, by decide +kernel, by decide +kernel⟩
theorem c_book_fits (T : Tx K mg) (k : Nat) : Cal P w K mg base (k + 6) "book_fits" (spD K f_book_fits) := by
  have c_is_kind := c_is_kind (P := P) (w := w) (base := base) T k
  have c_lines_fit := c_lines_fit (P := P) (w := w) (base := base) T k
  have sc := s_book_fits
  refine cal_of (k := k + 5) T 9 9 rfl rfl s_book_fits (fun _ _ _ _ _ _ us hl => match us, hl with | [_], _ => rfl) (fun vs H Q E h => spD_len h (n := 1) (by rintro _ _ ⟨k, ls, rfl, rfl, b⟩; rfl)) fun cdv A outer s H vs Q E hr h => ⟨_, PSs.nox (pss_one (ps_ret (pe_and (pe_callB call_isi (by rfl) (T.fr 81 rfl) (by decide +kernel) (pa_cons (pv 0) (pa_cons (pe_bltn (v := .ty "tuple") (by rfl) (T.fr 91 rfl) (by decide +kernel) rfl) pa_nil))) (pe_and (pe_cmpR (op_eq) (pe_callB call_len_seq (by rfl) (T.fr 82 rfl) (by decide +kernel) (pa_cons (pv 0) pa_nil)) pe_int (nomark _)) (pe_and (pe_c c_is_kind hr (by omega) (by rfl) (pa_cons (pe_ix ix_tup (pv 0) pe_int (fun _ _ => rfl)) pa_nil)) (pe_one (pe_c c_lines_fit hr (by omega) (by rfl) (pa_cons (pe_ix ix_tup (pv 0) pe_int (fun _ _ => rfl)) (pa_cons (pe_ix ix_tup (pv 0) pe_int (fun _ _ => rfl)) pa_nil))))))))), spD_run h ?_⟩
  clear h
  rintro ds d ⟨k, ls, rfl, rfl, b⟩
  show WS K none _ [some (false, _)] _ _
  exact ws_ret (ev_is (ev_andV (ev_isi (t := "tuple") (ev_var rfl) rfl kit_same) fun _ => ev_andV (ev_op (ev_cb (ea_cons (ev_var rfl) ea_nil) (op_lenT rfl)) ev_int op_eqI) fun _ => ev_andV (ev_call (ea_cons (ev_op (ev_var rfl) ev_int (op_ixT rfl)) ea_nil) ⟨k, rfl, rfl⟩) fun _ => ev_call (ea_cons (ev_op (ev_var rfl) ev_int (op_ixT rfl)) (ea_cons (ev_op (ev_var rfl) ev_int (op_ixT rfl)) ea_nil)) ⟨k, ls, rfl, rfl, b.l0, Nat.le_trans b.ln (by decide)⟩) rfl) rfl

def f_check_book : List D → D → Prop := fun ds d => ∃ (k : Kd) (ls : List (Ln Str (Rk k))), ds = [bkD ls] ∧ d = .non ∧ Bk ls
theorem s_check_book : FnScope [("book" : Str)] ["book"] (defScope (Hd.top 24)) := ⟨rfl, rfl, rfl, by decide +kernel, rfl, by decide +kernel, by decide +kernel⟩
theorem c_check_book (T : Tx K mg) (k : Nat) : Cal P w K mg base (k + 7) "check_book" (spD K f_check_book) := by
  have c_book_fits := c_book_fits (P := P) (w := w) (base := base) T k
  have sc := s_check_book
  refine cal_of (k := k + 6) T 10 10 rfl rfl s_check_book (fun _ _ _ _ _ _ us hl => match us, hl with | [_], _ => rfl) (fun vs H Q E h => spD_len h (n := 1) (by rintro _ _ ⟨k, ls, rfl, rfl, b⟩; rfl)) fun cdv A outer s H vs Q E hr h => ⟨_, PSs.nox (pss_one (ps_if (pt_not (pt_val (pe_c c_book_fits hr (by omega) (by rfl) (pa_cons (pv 0) pa_nil)))) pss_never pss_nil)), spD_run h ?_⟩
  clear h
  rintro ds d ⟨k, ls, rfl, rfl, b⟩
  show WS K none _ [some (false, _)] _ _
  exact ws_ifF (et_nT (et_test (ev_call (ea_cons (ev_var rfl) ea_nil) ⟨k, ls, rfl, rfl, b⟩))) (ws_next rfl)

def pairD {k : Kd} (p : Str × Rk k) : D := .tup [.str p.1, iD p.2]
def f_pair_fits : List D → D → Prop := fun ds d => ∃ (k : Kd) (p : Str × Rk k), ds = [.str (kd k), pairD p] ∧ d = .bl true ∧ p.1 ∈ NAMES
theorem s_pair_fits : FnScope [("kind" : Str), ("value" : Str)] ["kind", "value"] (defScope (Hd.top 25)) := ⟨rfl, rfl, rfl, by decide +kernel, rfl, by decide +kernel, by decide +kernel⟩
theorem c_pair_fits (T : Tx K mg) (k : Nat) : Cal P w K mg base (k + 4) "pair_fits" (spD K f_pair_fits) := by
  have c_name_fits := c_name_fits (P := P) (w := w) (base := base) T k
  have c_is_number_of := c_is_number_of (P := P) (w := w) (base := base) T k
  have sc := s_pair_fits
  refine cal_of (k := k + 3) T 11 11 rfl rfl s_pair_fits (fun _ _ _ _ _ _ us hl => match us, hl with | [_, _], _ => rfl) (fun vs H Q E h => spD_len h (n := 2) (by rintro _ _ ⟨k, p, rfl, rfl, hp⟩; rfl)) fun cdv A outer s H vs Q E hr h => ⟨_, PSs.nox (pss_one (ps_ret (pe_and (pe_callB call_isi (by rfl) (T.fr 81 rfl) (by decide +kernel) (pa_cons (pv 1) (pa_cons (pe_bltn (v := .ty "tuple") (by rfl) (T.fr 91 rfl) (by decide +kernel) rfl) pa_nil))) (pe_and (pe_cmpR (op_eq) (pe_callB call_len_seq (by rfl) (T.fr 82 rfl) (by decide +kernel) (pa_cons (pv 1) pa_nil)) pe_int (nomark _)) (pe_and (pe_c c_name_fits hr (by omega) (by rfl) (pa_cons (pe_ix ix_tup (pv 1) pe_int (fun _ _ => rfl)) pa_nil)) (pe_one (pe_c c_is_number_of hr (by omega) (by rfl) (pa_cons (pv 0) (pa_cons (pe_ix ix_tup (pv 1) pe_int (fun _ _ => rfl)) pa_nil))))))))), spD_run h ?_⟩
  clear h
  rintro ds d ⟨k, p, rfl, rfl, hp⟩
  show WS K none _ [some (false, _), some (false, _)] _ _
  exact ws_ret (ev_is (ev_andV (ev_isi (t := "tuple") (ev_var rfl) rfl kit_same) fun _ => ev_andV (ev_op (ev_cb (ea_cons (ev_var rfl) ea_nil) (op_lenT rfl)) ev_int op_eqI) fun _ => ev_andV (ev_call (ea_cons (ev_op (ev_var rfl) ev_int (op_ixT rfl)) ea_nil) ⟨p.1, rfl, rfl, hp⟩) fun _ => ev_call (ea_cons (ev_var rfl) (ea_cons (ev_op (ev_var rfl) ev_int (op_ixT rfl)) ea_nil)) ⟨k, p.2, rfl, rfl⟩) rfl) rfl

def f_are_names : List D → D → Prop := fun ds d => ∃ ns : List Str, ds = [nmD ns] ∧ d = .bl true ∧ (∀ s ∈ ns, s ∈ NAMES) ∧ ns.Pairwise strLt ∧ ns.length ≤ 10000
theorem atI_nat {α : Type} {l : List α} {i : Nat} {a : α} (h : l[i]? = some a) : atI l (i : Int) = some a := by
  unfold atI
  rw [Evl.ixN_nat (List.getElem?_eq_some_iff.mp h).1]
  exact h
theorem s_are_names : FnScope [("value" : Str), ("at" : Str), ("item" : Str)] ["value"] (defScope (Hd.top 20)) := ⟨rfl, rfl, rfl, by decide +kernel, rfl, by decide +kernel, by decide +kernel⟩
theorem c_are_names (T : Tx K mg) (k : Nat) : Cal P w K mg base (k + 2) "are_names" (spD K f_are_names) := by
  have c_name_fits := c_name_fits (P := P) (w := w) (base := base) T k
  have sc := s_are_names
  refine cal_of (k := k + 1) T 6 6 rfl rfl s_are_names (fun _ _ _ _ _ _ us hl => match us, hl with | [_], _ => rfl) (fun vs H Q E h => spD_len h (n := 1) (by rintro _ _ ⟨ns, rfl, rfl, hn, hp, hl⟩; rfl)) fun cdv A outer s H vs Q E hr h => ⟨_, PSs.nox (pss_cons (ps_if (PW.pt (pw_or (pt_not (pt_val (pe_callB call_isi (by rfl) (T.fr 81 rfl) (by decide +kernel) (pa_cons (pv 0) (pa_cons (pe_bltn (v := .ty "list") (by rfl) (T.fr 83 rfl) (by decide +kernel) rfl) pa_nil))))) (pw_or1 (pt_cmpR (op_neD hr.units) (pe_lc (own := [(("item" : Str), 2)]) (g := gName 2) rfl sc.nd  (pi_list (pv 0)) (blkOk_by (own := [(("item" : Str), 2)]) (N := [("value" : Str), ("at" : Str), ("item" : Str)]) (sc := defScope (Hd.top 20)) (by decide +kernel)) (fun _ _ _ _ _ => (pg_name (i := 2) sc.nd rfl (Or.inl rfl))) (fun _ _ _ _ _ => (pts_one (pt_not (pt_val (pe_c c_name_fits hr (by omega) (by rfl) (pa_cons (pv 2) pa_nil)))))) (fun _ _ _ _ _ => (pv 2))) (pe_lst pa_nil) (nomark _))))) (pss_one (ps_ret pe_bl)) pss_nil) (pss_one (ps_ret (pe_cmpR (op_eqD hr.units) (pe_lc (own := [(("at" : Str), 1)]) (g := gName 1) rfl sc.nd  (pi_range2 (by rfl) (T.fr 85 rfl) (pa_cons pe_int (pa_cons (pe_callB call_len_seq (by rfl) (T.fr 82 rfl) (by decide +kernel) (pa_cons (pv 0) pa_nil)) pa_nil))) (blkOk_by (own := [(("at" : Str), 1)]) (N := [("value" : Str), ("at" : Str), ("item" : Str)]) (sc := defScope (Hd.top 20)) (by decide +kernel)) (fun _ _ _ _ _ => (pg_name (i := 1) sc.nd rfl (Or.inl rfl))) (fun _ _ _ _ _ => (pts_one (pt_cmpR (op_ge_str) (pe_ix (show IxR _ (rIxL K) from ix_list) (pv 0) (pe_op op_sub (pv 1) pe_int) (fun _ _ => rfl)) (pe_ix (show IxR _ (rIxL K) from ix_list) (pv 0) (pv 1) (fun _ _ => rfl)) (nomark _)))) (fun _ _ _ _ _ => (pv 1))) (pe_lst pa_nil) (nomark _))))), spD_run h ?_⟩
  clear h
  rintro ds d ⟨ns, rfl, rfl, hn, hp, hl⟩
  show WS K none _ [some (false, _), none, none] _ _
  refine ws_seq (ws_ifF (et_is (et_or (et_not (et_test (ev_isi (t := "list") (ev_var rfl) rfl kit_same))) fun _ => et_test (ev_op (en_lcNone (js := [2]) (ei_list (ev_var rfl)) (len_szl (by rw [List.length_map]; omega)) (by decide) fun d hd => ?_).ev (ev_lst ea_nil (szb rfl)) op_ne00)) (by rfl)) (ws_next ?_))
  · obtain ⟨s, hm, rfl⟩ := List.mem_map.mp hd
    exact wg_name (et_nT (et_test (ev_call (ea_cons (ev_var rfl) ea_nil) ⟨s, rfl, rfl, hn s hm⟩)))
  · refine ws_ret (ev_op (en_lcNone (js := [1]) (ei_rng2 (m := 1) (n := ((ns.map D.str).length : Int)) (ea_cons ev_int (ea_cons (ev_cb (ea_cons (ev_var rfl) ea_nil) (op_lenL rfl)) ea_nil)) (by rw [List.length_map]; omega) (by omega) (by decide) (by decide)) (len_szl (by unfold intsD; rw [List.length_map, List.length_range, List.length_map]; omega)) (by decide) fun d hd => ?_).ev (ev_lst ea_nil (szb rfl)) op_eq00) rfl
    unfold intsD at hd
    obtain ⟨i, hi, rfl⟩ := List.mem_map.mp hd
    rw [List.mem_range, List.length_map] at hi
    have hi1 : i + 1 < ns.length := by omega
    have g1 : ns[i]? = some ns[i] := List.getElem?_eq_getElem (by omega)
    have g2 : ns[i + 1]? = some ns[i + 1] := List.getElem?_eq_getElem hi1
    have lt : strLt ns[i] ns[i + 1] := List.pairwise_iff_getElem.mp hp i (i + 1) (by omega) hi1 (by omega)
    refine wg_name (et_is (et_test (ev_op (ev_op (ev_var rfl) (ev_is (ev_op (ev_var rfl) ev_int op_i0) (show _ = D.int (i : Int) from congrArg D.int (by omega))) (op_ixL (atI_nat (by rw [List.getElem?_map, g1]; rfl)))) (ev_op (ev_var rfl) (ev_is (ev_var rfl) (show _ = D.int ((i + 1 : Nat) : Int) from congrArg D.int (by omega))) (op_ixL (atI_nat (by rw [List.getElem?_map, g2]; rfl)))) op_geS)) ?_)
    rw [decide_eq_true (show ns[i].cps.toList < ns[i + 1].cps.toList from lt)]
    rfl

def f_numbers_fit : List D → D → Prop := fun ds d => ∃ (k : Kd) (ps : List (Str × Rk k)), ds = [.str (kd k), .lst (ps.map pairD)] ∧ d = .bl true ∧ (∀ p ∈ ps, p.1 ∈ NAMES) ∧ (ps.map (·.1)).Pairwise strLt ∧ ps.length ≤ 10000
theorem s_numbers_fit : FnScope [("kind" : Str), ("value" : Str), ("name" : Str), ("number" : Str), ("item" : Str)] ["kind", "value"] (defScope (Hd.top 26)) := ⟨rfl, rfl, rfl, by decide +kernel, rfl, by decide +kernel, by decide +kernel⟩
theorem c_numbers_fit (T : Tx K mg) (k : Nat) : Cal P w K mg base (k + 5) "numbers_fit" (spD K f_numbers_fit) := by
  have c_are_names := c_are_names (P := P) (w := w) (base := base) T k
  have c_pair_fits := c_pair_fits (P := P) (w := w) (base := base) T k
  have sc := s_numbers_fit
  refine cal_of (k := k + 4) T 12 12 rfl rfl s_numbers_fit (fun _ _ _ _ _ _ us hl => match us, hl with | [_, _], _ => rfl) (fun vs H Q E h => spD_len h (n := 2) (by rintro _ _ ⟨k, ps, rfl, rfl, hn, hp, hl⟩; rfl)) fun cdv A outer s H vs Q E hr h => ⟨_, PSs.nox (pss_cons (ps_if (PW.pt (pw_or (pt_not (pt_val (pe_callB call_isi (by rfl) (T.fr 81 rfl) (by decide +kernel) (pa_cons (pv 1) (pa_cons (pe_bltn (v := .ty "list") (by rfl) (T.fr 83 rfl) (by decide +kernel) rfl) pa_nil))))) (pw_or1 (pt_cmpR (op_neD hr.units) (pe_lc (own := [(("item" : Str), 4)]) (g := gName 4) rfl sc.nd  (pi_list (pv 1)) (blkOk_by (own := [(("item" : Str), 4)]) (N := [("kind" : Str), ("value" : Str), ("name" : Str), ("number" : Str), ("item" : Str)]) (sc := defScope (Hd.top 26)) (by decide +kernel)) (fun _ _ _ _ _ => (pg_name (i := 4) sc.nd rfl (Or.inl rfl))) (fun _ _ _ _ _ => (pts_one (pt_not (pt_val (pe_c c_pair_fits hr (by omega) (by rfl) (pa_cons (pv 0) (pa_cons (pv 4) pa_nil))))))) (fun _ _ _ _ _ => (pv 4))) (pe_lst pa_nil) (nomark _))))) (pss_one (ps_ret pe_bl)) pss_nil) (pss_one (ps_ret (pe_c c_are_names hr (by omega) (by rfl) (pa_cons (pe_lc (own := [(("name" : Str), 2), (("number" : Str), 3)]) (g := gTup K 2 (gCons (gName 2) (gCons (gName 3) gNil))) rfl sc.nd  (pi_list (pv 1)) (blkOk_by (own := [(("name" : Str), 2), (("number" : Str), 3)]) (N := [("kind" : Str), ("value" : Str), ("name" : Str), ("number" : Str), ("item" : Str)]) (sc := defScope (Hd.top 26)) (by decide +kernel)) (fun _ _ _ _ _ => (pg_tup rfl (pgs_cons (pg_name (i := 2) sc.nd rfl (Or.inl rfl)) (pgs_cons (pg_name (i := 3) sc.nd rfl (Or.inl rfl)) pgs_nil)))) (fun _ _ _ _ _ => pts_nil) (fun _ _ _ _ _ => (pv 2))) pa_nil))))), spD_run h ?_⟩
  clear h
  rintro ds d ⟨k, ps, rfl, rfl, hn, hp, hl⟩
  show WS K none _ [some (false, _), some (false, _), none, none, none] _ _
  refine ws_seq (ws_ifF (et_is (et_or (et_not (et_test (ev_isi (t := "list") (ev_var rfl) rfl kit_same))) fun _ => et_test (ev_op (en_lcNone (js := [4]) (ei_list (ev_var rfl)) (len_szl (by rw [List.length_map]; omega)) (by decide) fun d hd => ?_).ev (ev_lst ea_nil (szb rfl)) op_ne00)) (by rfl)) (ws_next ?_))
  · obtain ⟨p, hm, rfl⟩ := List.mem_map.mp hd
    exact wg_name (et_nT (et_test (ev_call (ea_cons (ev_var rfl) (ea_cons (ev_var rfl) ea_nil)) ⟨k, p, rfl, rfl, hn p hm⟩)))
  · refine ws_ret (ev_call (ea_cons (ev_is (en_lcI (js := [2, 3]) (fun _ => true) (fun d => match d with | .tup (a :: _) => a | _ => .non) (ei_list (ev_var rfl)) (len_szl (by rw [List.length_map]; omega)) (by decide) fun d hd => ?_).ev (show _ = nmD (ps.map (·.1)) from ?_)) ea_nil) ⟨ps.map (·.1), rfl, rfl, ?_, hp, by rw [List.length_map]; exact hl⟩) rfl
    · obtain ⟨p, hm, rfl⟩ := List.mem_map.mp hd
      exact wg_tup rfl (wgs_cons (wg_name (wgs_cons (wg_name (wgs_nil ⟨et_yes, fun _ => ev_var rfl⟩)))))
    · unfold pick nmD
      rw [List.filter_eq_self.mpr fun _ _ => rfl, List.map_map, List.map_map]
      rfl
    · intro s hs
      obtain ⟨p, hm, rfl⟩ := List.mem_map.mp hs
      exact hn p hm

end
end J

/-! ## Ro -/
/-! Rows: told rests, choices, numbers. -/
namespace Q
open KR
section
variable {R : Type} [KR R] {ν : Type} [DecidableEq ν]
/-! a point that many cosets share -/
theorem isC_opp {B : R → Prop} (h : IsC B) : IsC (fun z => B (-z)) := by
  obtain ⟨m, r, hm, hB⟩ := h
  refine ⟨m, -r, hm, fun x => ?_⟩
  show B (-x) ↔ _
  rw [hB]
  constructor
  · rintro ⟨c, e⟩
    exact ⟨-c, by grind⟩
  · rintro ⟨c, e⟩
    exact ⟨-c, by grind⟩
theorem isC_all : ∀ {As : List (R → Prop)} {e : R}, (∀ A ∈ As, IsC A) → (∀ A ∈ As, A e) → IsC (fun x => ∀ A ∈ As, A x)
  | [], e, _, _ => ⟨1, 0, by rw [io_one]; decide, fun x => ⟨fun _ => Cg.one _ _, fun _ _ h => nomatch h⟩⟩
  | A :: As, e, hC, he => by
    obtain ⟨m, r, hm, h⟩ := isC_and (hC A (List.mem_cons_self ..)) (isC_all (e := e) (fun B hB => hC B (List.mem_cons_of_mem _ hB)) fun B hB => he B (List.mem_cons_of_mem _ hB)) (he A (List.mem_cons_self ..)) fun B hB => he B (List.mem_cons_of_mem _ hB)
    refine ⟨m, r, hm, fun x => ?_⟩
    rw [← h]
    exact ⟨fun w => ⟨w A (List.mem_cons_self ..), fun B hB => w B (List.mem_cons_of_mem _ hB)⟩, fun ⟨w1, w2⟩ B hB => (List.mem_cons.mp hB).elim (fun z => z ▸ w1) (w2 B)⟩
theorem meet_one : ∀ {As : List (R → Prop)} {B : R → Prop} {e : R}, (∀ A ∈ As, IsC A) → IsC B → (∀ A ∈ As, A e) → (∀ A ∈ As, ∃ x, A x ∧ B x) → ∃ x, (∀ A ∈ As, A x) ∧ B x
  | [], B, _, _, hB, _, _ => by
    obtain ⟨m, r, _, h⟩ := hB
    exact ⟨r, (fun _ h => nomatch h), (h r).mpr (Cg.refl _ _)⟩
  | A :: As, B, e, hC, hB, he, hm => by
    have hC' : ∀ A ∈ As, IsC A := fun X hX => hC X (List.mem_cons_of_mem _ hX)
    have he' : ∀ A ∈ As, A e := fun X hX => he X (List.mem_cons_of_mem _ hX)
    obtain ⟨x2, h1, h2⟩ := meet_one hC' hB he' fun X hX => hm X (List.mem_cons_of_mem _ hX)
    obtain ⟨x1, g1, g2⟩ := hm A (List.mem_cons_self ..)
    have op : ∀ x, B x → B (-(-x)) := fun x hx => by
      have : -(-x) = x := by grind
      rw [this]; exact hx
    obtain ⟨y, z, ⟨q1, q2⟩, q3, q4⟩ := dist (x := 0) (hC A (List.mem_cons_self ..)) (isC_all hC' he') (isC_opp hB) (he A (List.mem_cons_self ..)) he'
      ⟨x1, -x1, g1, op x1 g2, by grind⟩ ⟨x2, -x2, h1, op x2 h2, by grind⟩
    have : -z = y := by grind
    rw [this] at q3
    exact ⟨y, fun X hX => (List.mem_cons.mp hX).elim (fun w => w ▸ q1) (q2 X), q3⟩
theorem meet_all : ∀ {As : List (R → Prop)}, (∀ A ∈ As, IsC A) → As.Pairwise (fun A B => ∃ x, A x ∧ B x) → ∃ x, ∀ A ∈ As, A x
  | [], _, _ => ⟨0, fun _ h => nomatch h⟩
  | B :: As, hC, hp => by
    rw [List.pairwise_cons] at hp
    obtain ⟨e, he⟩ := meet_all (fun X hX => hC X (List.mem_cons_of_mem _ hX)) hp.2
    obtain ⟨x, h1, h2⟩ := meet_one (fun X hX => hC X (List.mem_cons_of_mem _ hX)) (hC B (List.mem_cons_self ..)) he fun X hX => by
      obtain ⟨x, z1, z2⟩ := hp.1 X hX
      exact ⟨x, z2, z1⟩
    exact ⟨x, fun X hX => (List.mem_cons.mp hX).elim (fun w => w ▸ h2) (h1 X)⟩

/-! what the numbers so far tell -/
def toldS (c : Cs ν R) (n : ν) (acc : R × R) (p : ν × R) : Option (R × R) := met acc.1 acc.2 (rst (p.2 + (c (p.1, n)).1) (c (p.1, n)).2) (c (p.1, n)).2
def told (c : Cs ν R) (pre : List (ν × R)) (n : ν) : Option (R × R) := pre.foldlM (toldS c n) (0, 1)
def byOf (c : Cs ν R) (ms : List ν) (n : ν) : R := ms.foldl (fun b m => lcm b (c (m, n)).2) 1
def Con (c : Cs ν R) (pre : List (ν × R)) : Prop := pre.Pairwise fun p q => S c p.1 q.1 (q.2 - p.2)
variable {P : R} {c : Cs ν R}
theorem told_fold (ok : Ok P c) {n : ν} : ∀ {pre : List (ν × R)} {r0 b0 e : R}, Ps b0 → Dv b0 P → red b0 r0 → Cg b0 e r0 → (∀ p ∈ pre, S c p.1 n (e - p.2)) →
    ∃ r, pre.foldlM (toldS c n) (r0, b0) = some (r, (pre.map Prod.fst).foldl (fun b m => lcm b (c (m, n)).2) b0) ∧ red ((pre.map Prod.fst).foldl (fun b m => lcm b (c (m, n)).2) b0) r ∧ Ps ((pre.map Prod.fst).foldl (fun b m => lcm b (c (m, n)).2) b0) ∧
      Dv ((pre.map Prod.fst).foldl (fun b m => lcm b (c (m, n)).2) b0) P ∧ ∀ x, Cg ((pre.map Prod.fst).foldl (fun b m => lcm b (c (m, n)).2) b0) x r ↔ Cg b0 x r0 ∧ ∀ p ∈ pre, S c p.1 n (x - p.2)
  | [], r0, b0, e, pb, dv, rd, ce, _ => ⟨r0, rfl, rd, pb, dv, fun x => ⟨fun h => ⟨h, fun _ h => nomatch h⟩, fun h => h.1⟩⟩
  | p :: pre, r0, b0, e, pb, dv, rd, ce, hp => by
    have pm := ok.ps (p.1, n)
    have sh : ∀ x, S c p.1 n (x - p.2) ↔ Cg (c (p.1, n)).2 x (rst (p.2 + (c (p.1, n)).1) (c (p.1, n)).2) := fun x => by
      constructor
      · rintro ⟨t, ht⟩
        exact Cg.trans ⟨t, by grind⟩ (rst_cg pm).symm
      · intro h
        obtain ⟨t, ht⟩ := h.trans (rst_cg pm)
        exact ⟨t, by grind⟩
    obtain ⟨r1, hr1⟩ := met_isSome pb pm ce ((sh e).mp (hp p (List.mem_cons_self ..)))
    obtain ⟨_, m2, m3⟩ := met_some pb pm hr1
    have dl := lcm_least pb pm dv (ok.dv (p.1, n))
    obtain ⟨r, i1, i2, i3, i4, i5⟩ := told_fold ok (pre := pre) (e := e) (lcm_ps pb pm) dl m2 ((m3 e).mpr ⟨ce, (sh e).mp (hp p (List.mem_cons_self ..))⟩) fun q hq => hp q (List.mem_cons_of_mem _ hq)
    refine ⟨r, ?_, i2, i3, i4, fun x => ?_⟩
    · rw [List.foldlM_cons]
      have : toldS c n (r0, b0) p = some (r1, lcm b0 (c (p.1, n)).2) := hr1
      rw [this]
      exact i1
    · have i5 := i5 x
      rw [m3, ← sh] at i5
      refine i5.trans ⟨fun ⟨⟨a, b⟩, d⟩ => ⟨a, fun q hq => (List.mem_cons.mp hq).elim (fun w => w ▸ b) (d q)⟩, fun ⟨a, b⟩ => ⟨⟨a, b p (List.mem_cons_self ..)⟩, fun q hq => b q (List.mem_cons_of_mem _ hq)⟩⟩
/-- the names stand apart, the closing holds -/
structure Nm (P : R) (ls : List (Ln ν R)) (ns : List ν) (c : Cs ν R) (os : List ν) : Prop where
  cl : Closed P ls ns c
  nd : os.Nodup
  sub : ∀ n ∈ os, n ∈ ns
variable {ls : List (Ln ν R)} {ns : List ν}
theorem told_ok {pre : List (ν × R)} {n : ν} {os : List ν} (h : Nm P ls ns c (pre.map Prod.fst ++ n :: os)) (hc : Con c pre) :
    ∃ r, told c pre n = some (r, byOf c (pre.map Prod.fst) n) ∧ red (byOf c (pre.map Prod.fst) n) r ∧ Ps (byOf c (pre.map Prod.fst) n) ∧ Dv (byOf c (pre.map Prod.fst) n) P ∧
      ∀ x, Cg (byOf c (pre.map Prod.fst) n) x r ↔ ∀ p ∈ pre, S c p.1 n (x - p.2) := by
  have ok := h.cl.ok
  have nd := h.nd
  rw [List.nodup_append] at nd
  obtain ⟨nd1, nd2, nd3⟩ := nd
  have nin : ∀ p ∈ pre, p.1 ≠ n := fun p hp => nd3 _ (List.mem_map_of_mem hp) _ (List.mem_cons_self ..)
  obtain ⟨e, he⟩ := meet_all (As := pre.map fun p x => S c p.1 n (x - p.2)) (fun A hA => by
    obtain ⟨p, _, rfl⟩ := List.mem_map.mp hA
    refine ⟨(c (p.1, n)).2, p.2 + (c (p.1, n)).1, (ok.ps _).cnt, fun x => ?_⟩
    constructor
    · rintro ⟨t, ht⟩
      exact ⟨t, by grind⟩
    · rintro ⟨t, ht⟩
      exact ⟨t, by grind⟩) (by
    rw [List.pairwise_map]
    have nd1' : pre.Pairwise fun p q => p.1 ≠ q.1 := List.pairwise_map.mp nd1
    have both := List.pairwise_and_iff.mpr ⟨hc, nd1'⟩
    refine List.Pairwise.imp_of_mem ?_ both
    rintro p q hp hq ⟨h1, h2⟩
    have mp : ∀ z ∈ pre, z.1 ∈ ns := fun z hz => h.sub _ (List.mem_append_left _ (List.mem_map_of_mem hz))
    have mn : n ∈ ns := h.sub _ (List.mem_append_right _ (List.mem_cons_self ..))
    obtain ⟨y, z, y1, z1, yz⟩ := h.cl.pc p.1 q.1 n (mp p hp) (mp q hq) mn h2 (fun e => nin p hp e.symm) (fun e => nin q hq e.symm) _ h1
    refine ⟨p.2 + y, ?_, ?_⟩
    · have : p.2 + y - p.2 = y := by grind
      show S c p.1 n (p.2 + y - p.2)
      rw [this]; exact y1
    · have : p.2 + y - q.2 = -z := by grind
      show S c q.1 n (p.2 + y - q.2)
      rw [this]; exact h.cl.as _ _ _ z1)
  obtain ⟨r, i1, i2, i3, i4, i5⟩ := told_fold ok (n := n) (pre := pre) (r0 := 0) (b0 := 1) (e := e) ps_one (Dv.one P) (red_zero one_ne (by rw [io_one]; decide)) (Cg.one _ _) fun p hp => he _ (List.mem_map_of_mem (f := fun p x => S c p.1 n (x - p.2)) hp)
  exact ⟨r, i1, i2, i3, i4, fun x => (i5 x).trans ⟨fun h => h.2, fun h => ⟨Cg.one _ _, h⟩⟩⟩
theorem byOf_ok (ok : Ok P c) (n : ν) : ∀ (ms : List ν) {b : R}, Ps b → Dv b P → Ps (ms.foldl (fun b m => lcm b (c (m, n)).2) b) ∧ Dv (ms.foldl (fun b m => lcm b (c (m, n)).2) b) P
  | [], b, h1, h2 => ⟨h1, h2⟩
  | m :: ms, b, h1, h2 => byOf_ok ok n ms (lcm_ps h1 (ok.ps _)) (lcm_least h1 (ok.ps _) h2 (ok.dv _))
theorem byOf_ps (ok : Ok P c) (ms : List ν) (n : ν) : Ps (byOf c ms n) := (byOf_ok ok n ms ps_one (Dv.one P)).1
theorem byOf_dv (ok : Ok P c) (ms : List ν) (n : ν) : Dv (byOf c ms n) P := (byOf_ok ok n ms ps_one (Dv.one P)).2

/-! the rows by their numbers -/
def prodN : List Nat → Nat
  | [] => 1
  | a :: l => a * prodN l
def basesF (P : R) (c : Cs ν R) : List ν → List ν → List Nat
  | _, [] => []
  | ms, n :: os => ch P (byOf c ms n) :: basesF P c (ms ++ [n]) os
def rowF (P : R) (c : Cs ν R) : List (ν × R) → List ν → Nat → List R
  | _, [], _ => []
  | pre, n :: os, k =>
    let later := prodN (basesF P c (pre.map Prod.fst ++ [n]) os)
    let t := (told c pre n).getD (0, 1)
    at_ t.1 t.2 (k / later) :: rowF P c (pre ++ [(n, at_ t.1 t.2 (k / later))]) os (k % later)
def numF (P : R) (c : Cs ν R) : List ν → List ν → List R → Nat
  | ms, n :: os, x :: xs => pl (byOf c ms n) x * prodN (basesF P c (ms ++ [n]) os) + numF P c (ms ++ [n]) os xs
  | _, _, _ => 0
/-- xs goes on from pre -/
def Comp (P : R) (c : Cs ν R) : List (ν × R) → List ν → List R → Prop
  | _, [], [] => True
  | pre, n :: os, x :: xs => red P x ∧ (∀ p ∈ pre, S c p.1 n (x - p.2)) ∧ Comp P c (pre ++ [(n, x)]) os xs
  | _, _, _ => False
/-- earlier in order -/
def ltR : List R → List R → Prop
  | x :: xs, y :: ys => io x < io y ∨ (x = y ∧ ltR xs ys)
  | _, _ => False
theorem con_snoc {pre : List (ν × R)} {n : ν} {x : R} (hc : Con c pre) (h : ∀ p ∈ pre, S c p.1 n (x - p.2)) : Con c (pre ++ [(n, x)]) :=
  List.pairwise_append.mpr ⟨hc, List.pairwise_singleton .., fun p hp q hq => by cases List.mem_singleton.mp hq; exact h p hp⟩
theorem nm_snoc {pre : List (ν × R)} {n : ν} {x : R} {os : List ν} (h : Nm P ls ns c (pre.map Prod.fst ++ n :: os)) : Nm P ls ns c ((pre ++ [(n, x)]).map Prod.fst ++ os) := by
  have e : (pre ++ [(n, x)]).map Prod.fst ++ os = pre.map Prod.fst ++ n :: os := by simp
  rw [e]; exact h
theorem rowF_ok (pP : Ps P) : ∀ {os : List ν} {pre : List (ν × R)} {k : Nat}, Nm P ls ns c (pre.map Prod.fst ++ os) → Con c pre → k < prodN (basesF P c (pre.map Prod.fst) os) →
    Comp P c pre os (rowF P c pre os k) ∧ numF P c (pre.map Prod.fst) os (rowF P c pre os k) = k
  | [], pre, k, _, _, hk => by
    have : k < 1 := hk
    exact ⟨True.intro, by show 0 = k; omega⟩
  | n :: os, pre, k, h, hc, hk => by
    obtain ⟨r, t1, t2, t3, t4, t5⟩ := told_ok h hc
    have hk' : k < ch P (byOf c (pre.map Prod.fst) n) * prodN (basesF P c (pre.map Prod.fst ++ [n]) os) := hk
    have lp : 0 < prodN (basesF P c (pre.map Prod.fst ++ [n]) os) := Nat.pos_of_ne_zero fun e => by rw [e, Nat.mul_zero] at hk'; omega
    have hd : k / prodN (basesF P c (pre.map Prod.fst ++ [n]) os) < ch P (byOf c (pre.map Prod.fst) n) := Nat.div_lt_of_lt_mul (by rw [Nat.mul_comm]; exact hk')
    unfold rowF
    simp only [t1, Option.getD_some]
    obtain ⟨d, hdv⟩ := t4
    obtain ⟨a1, a2⟩ := at_mem pP.ne pP.cnt t3.cnt hdv t2 hd
    have a3 := (t5 _).mp a2
    have hmap : (pre ++ [(n, at_ r (byOf c (pre.map Prod.fst) n) (k / prodN (basesF P c (pre.map Prod.fst ++ [n]) os)))]).map Prod.fst = pre.map Prod.fst ++ [n] := by simp
    obtain ⟨i1, i2⟩ := rowF_ok pP (k := k % prodN (basesF P c (pre.map Prod.fst ++ [n]) os)) (nm_snoc h) (con_snoc hc a3) (by rw [hmap]; exact Nat.mod_lt _ lp)
    rw [hmap] at i2
    refine ⟨⟨a1, a3, i1⟩, ?_⟩
    unfold numF
    rw [i2, pl_at _ t3.cnt t2, Nat.mul_comm]
    exact Nat.div_add_mod _ _
theorem numF_ok (pP : Ps P) : ∀ {os : List ν} {pre : List (ν × R)} {xs : List R}, Nm P ls ns c (pre.map Prod.fst ++ os) → Con c pre → Comp P c pre os xs →
    numF P c (pre.map Prod.fst) os xs < prodN (basesF P c (pre.map Prod.fst) os) ∧ rowF P c pre os (numF P c (pre.map Prod.fst) os xs) = xs
  | [], pre, [], _, _, _ => ⟨Nat.zero_lt_one, rfl⟩
  | [], pre, _ :: _, _, _, h => h.elim
  | _ :: _, pre, [], _, _, h => h.elim
  | n :: os, pre, x :: xs, h, hc, hx => by
    obtain ⟨x1, x2, x3⟩ := hx
    obtain ⟨r, t1, t2, t3, t4, t5⟩ := told_ok h hc
    have hmap : (pre ++ [(n, x)]).map Prod.fst = pre.map Prod.fst ++ [n] := by simp
    obtain ⟨i1, i2⟩ := numF_ok pP (nm_snoc h) (con_snoc hc x2) x3
    rw [hmap] at i1 i2
    obtain ⟨d, hdv⟩ := t4
    obtain ⟨a1, a2⟩ := at_pl pP.ne pP.cnt t3.cnt hdv t2 x1 ((t5 x).mpr x2)
    have eN : numF P c (pre.map Prod.fst) (n :: os) (x :: xs) = pl (byOf c (pre.map Prod.fst) n) x * prodN (basesF P c (pre.map Prod.fst ++ [n]) os) + numF P c (pre.map Prod.fst ++ [n]) os xs := rfl
    rw [eN]
    have lp : 0 < prodN (basesF P c (pre.map Prod.fst ++ [n]) os) := by omega
    have e1 : (pl (byOf c (pre.map Prod.fst) n) x * prodN (basesF P c (pre.map Prod.fst ++ [n]) os) + numF P c (pre.map Prod.fst ++ [n]) os xs) / prodN (basesF P c (pre.map Prod.fst ++ [n]) os) = pl (byOf c (pre.map Prod.fst) n) x := by
      rw [Nat.mul_comm, Nat.mul_add_div lp, Nat.div_eq_of_lt i1, Nat.add_zero]
    have e2 : (pl (byOf c (pre.map Prod.fst) n) x * prodN (basesF P c (pre.map Prod.fst ++ [n]) os) + numF P c (pre.map Prod.fst ++ [n]) os xs) % prodN (basesF P c (pre.map Prod.fst ++ [n]) os) = numF P c (pre.map Prod.fst ++ [n]) os xs := by
      rw [Nat.mul_comm, Nat.mul_add_mod, Nat.mod_eq_of_lt i1]
    refine ⟨?_, ?_⟩
    · show _ < ch P (byOf c (pre.map Prod.fst) n) * prodN (basesF P c (pre.map Prod.fst ++ [n]) os)
      have h2 : (pl (byOf c (pre.map Prod.fst) n) x + 1) * prodN (basesF P c (pre.map Prod.fst ++ [n]) os) ≤ ch P (byOf c (pre.map Prod.fst) n) * prodN (basesF P c (pre.map Prod.fst ++ [n]) os) := Nat.mul_le_mul_right _ a1
      rw [Nat.add_mul, Nat.one_mul] at h2
      omega
    · unfold rowF
      simp only [t1, Option.getD_some]
      rw [e1, e2, a2, i2]
theorem rowF_mono (pP : Ps P) : ∀ {os : List ν} {pre : List (ν × R)} {k l : Nat}, Nm P ls ns c (pre.map Prod.fst ++ os) → Con c pre → k < l → l < prodN (basesF P c (pre.map Prod.fst) os) → ltR (rowF P c pre os k) (rowF P c pre os l)
  | [], pre, k, l, _, _, hkl, hl => by
    have : l < 1 := hl
    omega
  | n :: os, pre, k, l, h, hc, hkl, hl => by
    obtain ⟨r, t1, t2, t3, t4, t5⟩ := told_ok h hc
    have hl' : l < ch P (byOf c (pre.map Prod.fst) n) * prodN (basesF P c (pre.map Prod.fst ++ [n]) os) := hl
    have lp : 0 < prodN (basesF P c (pre.map Prod.fst ++ [n]) os) := Nat.pos_of_ne_zero fun e => by rw [e, Nat.mul_zero] at hl'; omega
    have hd : k / prodN (basesF P c (pre.map Prod.fst ++ [n]) os) < ch P (byOf c (pre.map Prod.fst) n) := Nat.div_lt_of_lt_mul (by rw [Nat.mul_comm]; omega)
    unfold rowF
    simp only [t1, Option.getD_some]
    rcases Nat.lt_or_ge (k / prodN (basesF P c (pre.map Prod.fst ++ [n]) os)) (l / prodN (basesF P c (pre.map Prod.fst ++ [n]) os)) with z | z
    · exact .inl (at_mono t3.cnt t2 z)
    · have e : k / prodN (basesF P c (pre.map Prod.fst ++ [n]) os) = l / prodN (basesF P c (pre.map Prod.fst ++ [n]) os) := Nat.le_antisymm (Nat.div_le_div_right (Nat.le_of_lt hkl)) z
      have hm : k % prodN (basesF P c (pre.map Prod.fst ++ [n]) os) < l % prodN (basesF P c (pre.map Prod.fst ++ [n]) os) := by
        have h1 := Nat.div_add_mod k (prodN (basesF P c (pre.map Prod.fst ++ [n]) os))
        have h2 := Nat.div_add_mod l (prodN (basesF P c (pre.map Prod.fst ++ [n]) os))
        rw [e] at h1
        omega
      obtain ⟨d, hdv⟩ := t4
      obtain ⟨a1, a2⟩ := at_mem pP.ne pP.cnt t3.cnt hdv t2 hd
      have a3 := (t5 _).mp a2
      rw [← e]
      refine .inr ⟨rfl, rowF_mono pP (nm_snoc h) (con_snoc hc a3) hm ?_⟩
      have hmap : (pre ++ [(n, at_ r (byOf c (pre.map Prod.fst) n) (k / prodN (basesF P c (pre.map Prod.fst ++ [n]) os)))]).map Prod.fst = pre.map Prod.fst ++ [n] := by simp
      rw [hmap]
      exact Nat.mod_lt _ lp

/-! rows as they are said -/
theorem comp_iff : ∀ {os : List ν} {pre : List (ν × R)} {xs : List R}, Con c pre → (Comp P c pre os xs ↔ xs.length = os.length ∧ (∀ x ∈ xs, red P x) ∧ Con c (pre ++ os.zip xs))
  | [], pre, [], hc => ⟨fun _ => ⟨rfl, (fun _ h => nomatch h), by simpa using hc⟩, fun _ => True.intro⟩
  | [], pre, _ :: _, _ => ⟨fun h => h.elim, fun h => by simp at h⟩
  | _ :: _, pre, [], _ => ⟨fun h => h.elim, fun h => by simp at h⟩
  | n :: os, pre, x :: xs, hc => by
    have e : pre ++ (n, x) :: os.zip xs = (pre ++ [(n, x)]) ++ os.zip xs := by simp
    show (red P x ∧ (∀ p ∈ pre, S c p.1 n (x - p.2)) ∧ Comp P c (pre ++ [(n, x)]) os xs) ↔ _
    constructor
    · rintro ⟨h1, h2, h3⟩
      obtain ⟨i1, i2, i3⟩ := (comp_iff (con_snoc hc h2)).mp h3
      refine ⟨by simp [i1], fun y hy => (List.mem_cons.mp hy).elim (fun z => z ▸ h1) (i2 y), ?_⟩
      show Con c (pre ++ (n, x) :: os.zip xs)
      rw [e]; exact i3
    · rintro ⟨h1, h2, h3⟩
      have h3' : Con c (pre ++ (n, x) :: os.zip xs) := h3
      rw [e] at h3'
      have hp : ∀ p ∈ pre, S c p.1 n (x - p.2) := fun p hp => by
        have := List.pairwise_append.mp h3
        exact this.2.2 p hp (n, x) (List.mem_cons_self ..)
      exact ⟨h2 x (List.mem_cons_self ..), hp, (comp_iff (con_snoc hc hp)).mpr ⟨by simpa using h1, fun y hy => h2 y (List.mem_cons_of_mem _ hy), h3'⟩⟩
/-- the number of a name in a row -/
def asg (os : List ν) (xs : List R) (n : ν) : R := ((os.zip xs).lookup n).getD 0
theorem asg_mem {os : List ν} {xs : List R} (nd : os.Nodup) {n : ν} {x : R} (h : (n, x) ∈ os.zip xs) : asg os xs n = x := by
  unfold asg
  induction os generalizing xs with
  | nil => simp at h
  | cons a os ih =>
    cases xs with
    | nil => simp at h
    | cons y xs =>
      rw [List.nodup_cons] at nd
      rw [List.zip_cons_cons] at h ⊢
      rw [List.lookup_cons]
      rcases List.mem_cons.mp h with z | z
      · cases z
        simp
      · have : n ≠ a := fun e => nd.1 (e ▸ (List.of_mem_zip z).1)
        have hb : (n == a) = false := by simpa using this
        rw [hb]
        exact ih nd.2 z
theorem zip_mem {os : List ν} {xs : List R} (hl : xs.length = os.length) {n : ν} (h : n ∈ os) : ∃ x, (n, x) ∈ os.zip xs := by
  induction os generalizing xs with
  | nil => cases h
  | cons a os ih =>
    cases xs with
    | nil => simp at hl
    | cons y xs =>
      rcases List.mem_cons.mp h with z | z
      · subst z
        exact ⟨y, List.mem_cons_self ..⟩
      · obtain ⟨x, hx⟩ := ih (xs := xs) (by simpa using hl) z
        exact ⟨x, List.mem_cons_of_mem _ hx⟩
/-- any two of a row -/
theorem con_any (cl : Closed P ls ns c) {l : List (ν × R)} (hc : Con c l) {p q : ν × R} (hp : p ∈ l) (hq : q ∈ l) (hne : p ≠ q) : S c p.1 q.1 (q.2 - p.2) := by
  induction l with
  | nil => cases hp
  | cons a l ih =>
    have hc' := List.pairwise_cons.mp hc
    rcases List.mem_cons.mp hp with z | z
    · rcases List.mem_cons.mp hq with w | w
      · exact absurd (z.trans w.symm) hne
      · rw [z]; exact hc'.1 q w
    · rcases List.mem_cons.mp hq with w | w
      · rw [w]
        have := cl.as _ _ _ (hc'.1 p z)
        have e : -(p.2 - a.2) = a.2 - p.2 := by grind
        rwa [e] at this
      · exact ih hc'.2 z w
theorem con_keeps {os : List ν} {xs : List R} (cl : Closed P ls ns c) (nd : os.Nodup) (hin : ∀ l ∈ ls, l.1 ∈ os ∧ l.2.1 ∈ os ∧ l.1 ≠ l.2.1) (hl : xs.length = os.length) (hc : Con c (os.zip xs)) : ∀ l ∈ ls, keepsL l (asg os xs) := fun l h => by
  obtain ⟨h1, h2, h3⟩ := hin l h
  obtain ⟨x, hx⟩ := zip_mem hl h1
  obtain ⟨y, hy⟩ := zip_mem hl h2
  have := con_any cl hc hx hy (fun e => h3 (congrArg Prod.fst e))
  have := cl.ln l h _ this
  unfold keepsL
  rw [asg_mem nd hx, asg_mem nd hy]
  exact this
theorem keeps_con {os : List ν} {xs : List R} (cl : Closed P ls ns c) (nd : os.Nodup) (hl : xs.length = os.length) (hk : ∀ l ∈ ls, keepsL l (asg os xs)) : Con c (os.zip xs) := by
  have so := cl.so _ hk
  refine List.Pairwise.imp_of_mem (R := fun _ _ => True) ?_ ?_
  · rintro ⟨n, x⟩ ⟨m, y⟩ hp hq _
    have := so n m
    rw [asg_mem nd hp, asg_mem nd hq] at this
    exact this
  · exact List.pairwise_of_forall fun _ _ => True.intro
/-- a row by what its lines say -/
theorem comp_keeps {os : List ν} {xs : List R} (cl : Closed P ls ns c) (nd : os.Nodup) (hin : ∀ l ∈ ls, l.1 ∈ os ∧ l.2.1 ∈ os ∧ l.1 ≠ l.2.1) :
    Comp P c [] os xs ↔ xs.length = os.length ∧ (∀ x ∈ xs, red P x) ∧ ∀ l ∈ ls, keepsL l (asg os xs) := by
  rw [comp_iff (pre := []) List.Pairwise.nil]
  constructor
  · rintro ⟨h1, h2, h3⟩
    exact ⟨h1, h2, con_keeps cl nd hin h1 h3⟩
  · rintro ⟨h1, h2, h3⟩
    exact ⟨h1, h2, keeps_con cl nd h1 h3⟩
theorem zip_rev {α β : Type} : ∀ {l : List α} {m : List β}, l.length = m.length → l.reverse.zip m.reverse = (l.zip m).reverse
  | [], [], _ => rfl
  | [], _ :: _, h => by simp at h
  | _ :: _, [], h => by simp at h
  | a :: l, b :: m, h => by
    have h' : l.length = m.length := by simpa using h
    rw [List.reverse_cons, List.reverse_cons, List.zip_append (by simpa using h'), zip_rev h']
    show _ = ((a, b) :: l.zip m).reverse
    rw [List.reverse_cons]
    rfl
theorem comp_rev {os : List ν} {xs : List R} (cl : Closed P ls ns c) (h : Comp P c [] os xs) : Comp P c [] os.reverse xs.reverse := by
  obtain ⟨h1, h2, h3⟩ := (comp_iff (pre := []) List.Pairwise.nil).mp h
  refine (comp_iff (pre := []) List.Pairwise.nil).mpr ⟨by simpa using h1, fun x hx => h2 x (List.mem_reverse.mp hx), ?_⟩
  show Con c ([] ++ os.reverse.zip xs.reverse)
  rw [List.nil_append, zip_rev h1.symm]
  refine List.pairwise_reverse.mpr (h3.imp fun {p q} z => ?_)
  have := cl.as _ _ _ z
  have e : -(q.2 - p.2) = p.2 - q.2 := by grind
  rwa [e] at this
/-- all rows -/
def rowsL (P : R) (c : Cs ν R) (os : List ν) : List (List R) := (List.range (prodN (basesF P c [] os))).map (rowF P c [] os)
theorem mem_rowsL (pP : Ps P) {os : List ν} (h : Nm P ls ns c os) {xs : List R} : xs ∈ rowsL P c os ↔ Comp P c [] os xs := by
  unfold rowsL
  rw [List.mem_map]
  constructor
  · rintro ⟨k, hk, rfl⟩
    exact (rowF_ok (pre := []) pP h List.Pairwise.nil (List.mem_range.mp hk)).1
  · intro hx
    obtain ⟨h1, h2⟩ := numF_ok (pre := []) pP h List.Pairwise.nil hx
    exact ⟨_, List.mem_range.mpr h1, h2⟩
theorem rowsL_sorted (pP : Ps P) {os : List ν} (h : Nm P ls ns c os) : (rowsL P c os).Pairwise ltR := by
  unfold rowsL
  rw [List.pairwise_map]
  refine List.Pairwise.imp_of_mem ?_ List.pairwise_lt_range
  intro a b ha hb hab
  exact rowF_mono (pre := []) pP h List.Pairwise.nil hab (List.mem_range.mp hb)
theorem ltR_irrefl : ∀ xs : List R, ¬ ltR xs xs
  | [], h => h
  | x :: xs, h => h.elim (fun h => by omega) fun h => ltR_irrefl xs h.2
theorem rowsL_nodup (pP : Ps P) {os : List ν} (h : Nm P ls ns c os) : (rowsL P c os).Nodup := (rowsL_sorted pP h).imp fun {a b} z (e : a = b) => ltR_irrefl b (by rw [e] at z; exact z)
theorem rowsL_len (P : R) (c : Cs ν R) (os : List ν) : (rowsL P c os).length = prodN (basesF P c [] os) := by
  unfold rowsL
  rw [List.length_map, List.length_range]
theorem nm_rev {os : List ν} (h : Nm P ls ns c os) : Nm P ls ns c os.reverse := ⟨h.cl, List.pairwise_reverse.mpr (h.nd.imp fun ne e => ne e.symm), fun n hn => h.sub n (List.mem_reverse.mp hn)⟩
theorem rev_inj {os : List ν} (pP : Ps P) (h : Nm P ls ns c os) : prodN (basesF P c [] os) ≤ prodN (basesF P c [] os.reverse) := by
  rw [← rowsL_len P c os, ← rowsL_len P c os.reverse, ← List.length_map (f := List.reverse) (as := rowsL P c os)]
  refine List.Nodup.length_le_of_subset ?_ fun y hy => ?_
  · exact List.pairwise_map.mpr ((rowsL_nodup pP h).imp fun ne e => ne (List.reverse_inj.mp e))
  · obtain ⟨x, hx, rfl⟩ := List.mem_map.mp hy
    exact (mem_rowsL pP (nm_rev h)).mpr (comp_rev h.cl ((mem_rowsL pP h).mp hx))
/-- as many rows in the other order -/
theorem prod_rev {os : List ν} (pP : Ps P) (h : Nm P ls ns c os) : prodN (basesF P c [] os.reverse) = prodN (basesF P c [] os) := by
  refine Nat.le_antisymm ?_ (rev_inj pP h)
  have := rev_inj pP (nm_rev h)
  rwa [List.reverse_reverse] at this
end
end Q

/-! ## W5 -/
/-! Rests told, choices, bases. -/
namespace J
open PySem PySem.Spec PyProof.Rows L2 Q
open KR
def endsOf {k : Kd} (ls : List (Ln Str (Rk k))) : List Str := ls.flatMap fun l => [l.1, l.2.1]
def nsOf {k : Kd} (ls : List (Ln Str (Rk k))) : List Str := namesOf (endsOf ls)
theorem endsOf_len {k : Kd} (ls : List (Ln Str (Rk k))) : (endsOf ls).length ≤ ls.length * 2 := flatMap_len fun _ _ => Nat.le_refl 2
theorem mem_endsOf {k : Kd} {ls : List (Ln Str (Rk k))} {s : Str} : s ∈ endsOf ls ↔ ∃ l ∈ ls, s = l.1 ∨ s = l.2.1 := by
  unfold endsOf
  rw [List.mem_flatMap]
  simp
theorem Bk.names {k : Kd} {ls : List (Ln Str (Rk k))} (b : Bk ls) : ∀ s ∈ endsOf ls, s ∈ NAMES := fun s hs => by
  obtain ⟨l, hl, e⟩ := mem_endsOf.mp hs
  rcases e with e | e
  · rw [e]; exact (b.l0 l hl).n1
  · rw [e]; exact (b.l0 l hl).n2
/-- the words told so far -/
def wdM {k : Kd} (ws : List (Str × Rk k)) : List (Key × D) := ws.map fun p => (.inr p.1, iD p.2)
def wdD {k : Kd} (ws : List (Str × Rk k)) : D := .dK (wdM ws)
theorem dV_wd {k : Kd} {ws : List (Str × Rk k)} {n : Str} {x : Rk k} (nd : (ws.map Prod.fst).Nodup) (h : (n, x) ∈ ws) : dV (wdM ws) (.inr n) = some (iD x) := by
  unfold dV wdM
  induction ws with
  | nil => cases h
  | cons q ws ih =>
    rw [List.map_cons, List.nodup_cons] at nd
    rw [List.map_cons, List.find?_cons]
    rcases List.mem_cons.mp h with e | e
    · rw [← e]
      simp
    · have : q.1 ≠ n := fun z => nd.1 (z ▸ List.mem_map_of_mem e)
      have : (decide ((.inr q.1 : Key) = .inr n)) = false := decide_eq_false fun z => this (by cases z; rfl)
      simp only [this]
      exact ih nd.2 e
theorem wd_none {k : Kd} {ws : List (Str × Rk k)} {n : Str} (h : n ∉ ws.map Prod.fst) : dV (wdM ws) (.inr n) = none := by
  unfold dV wdM
  rw [Option.map_eq_none_iff, List.find?_eq_none]
  intro q hq
  obtain ⟨p, hp, rfl⟩ := List.mem_map.mp hq
  simp only [decide_eq_true_eq]
  intro z
  exact h (List.mem_map.mpr ⟨p, hp, by cases z; rfl⟩)
theorem dPut_wd {k : Kd} {ws : List (Str × Rk k)} {n : Str} {x : Rk k} (h : n ∉ ws.map Prod.fst) : dPut (wdM ws) (.inr n) (iD x) = wdM (ws ++ [(n, x)]) := by
  unfold dPut wdM
  have e : ((ws.map fun p => ((.inr p.1 : Key), iD p.2)).any fun kv => decide (kv.1 = .inr n)) = false := by
    rw [List.any_eq_false]
    intro q hq
    obtain ⟨p, hp, rfl⟩ := List.mem_map.mp hq
    simp only [decide_eq_true_eq]
    intro z
    exact h (List.mem_map.mpr ⟨p, hp, by cases z; rfl⟩)
  rw [e]
  simp
theorem wdM_len {k : Kd} (ws : List (Str × Rk k)) : (wdM ws).length = ws.length := by unfold wdM; rw [List.length_map]
/-! told rests stay small -/
theorem told_inv {k : Kd} {P : Rk k} {c : Cs Str (Rk k)} (ok : Ok P c) {n : Str} : ∀ {pre : List (Str × Rk k)} {r0 b0 : Rk k} {v : Rk k × Rk k}, Ps b0 → Dv b0 P → red b0 r0 → pre.foldlM (toldS c n) (r0, b0) = some v → Ps v.2 ∧ Dv v.2 P ∧ red v.2 v.1
  | [], r0, b0, v, h1, h2, h3, h => by cases h; exact ⟨h1, h2, h3⟩
  | p :: pre, r0, b0, v, h1, h2, h3, h => by
    rw [List.foldlM_cons] at h
    cases e : toldS c n (r0, b0) p with
    | none => rw [e] at h; cases h
    | some u =>
      rw [e] at h
      obtain ⟨r, l⟩ := u
      obtain ⟨rfl, m2, _⟩ := met_some h1 (ok.ps _) e
      exact told_inv ok (lcm_ps h1 (ok.ps _)) (lcm_least h1 (ok.ps _) h2 (ok.dv _)) m2 h
/-- a period and the lines' rests by it -/
def byRests {k : Kd} (P : Rk k) (ls : List (Ln Str (Rk k))) : List (Ln Str (Rk k)) := ls.map fun l => if 0 < io l.2.2.2 then l else (l.1, l.2.1, rst l.2.2.1 P, P)
structure BkP {k : Kd} (P : Rk k) (ls : List (Ln Str (Rk k))) : Prop where
  bk : Bk ls
  pP : Ps P
  sP : Szr 200 P
  dv : ∀ l ∈ ls, 0 < io l.2.2.2 → Dv l.2.2.2 P
  sz : ∀ l ∈ ls, Szr 8000 l.2.2.1
section
variable {k : Kd} {P : Rk k} {ls : List (Ln Str (Rk k))}
theorem byRests_ends : endsOf (byRests P ls) = endsOf ls := by
  unfold endsOf byRests
  rw [List.flatMap_map]
  congr 1
  funext l
  by_cases h : 0 < io l.2.2.2
  · simp only [if_pos h]
  · simp only [if_neg h]
theorem byRests_ns : nsOf (byRests P ls) = nsOf ls := by unfold nsOf; rw [byRests_ends]
theorem byRests_len : (byRests P ls).length = ls.length := by unfold byRests; rw [List.length_map]
theorem ps_of_pos {b : Rk k} (h : 0 < io b) : Ps b := ⟨fun e => (by rw [e, io_zero] at h; cases h), by omega⟩
theorem BkP.good (b : BkP P ls) : GoodLs P (byRests P ls) (nsOf ls) := by
  have nm : ∀ l ∈ ls, l.1 ∈ nsOf ls ∧ l.2.1 ∈ nsOf ls := fun l hl => ⟨mem_namesOf.mpr ⟨(b.bk.l0 l hl).n1, mem_endsOf.mpr ⟨l, hl, .inl rfl⟩⟩, mem_namesOf.mpr ⟨(b.bk.l0 l hl).n2, mem_endsOf.mpr ⟨l, hl, .inr rfl⟩⟩⟩
  have each : ∀ l' ∈ byRests P ls, GoodL P l' ∧ (l'.1 ∈ nsOf ls ∧ l'.2.1 ∈ nsOf ls) ∧ Szr 8000 l'.2.2.1 := fun l' hl' => by
    unfold byRests at hl'
    obtain ⟨l, hl, e⟩ := List.mem_map.mp hl'
    by_cases h : 0 < io l.2.2.2
    · rw [if_pos h] at e
      rw [← e]
      exact ⟨⟨(b.bk.l0 l hl).ne, ps_of_pos h, b.dv l hl h⟩, nm l hl, b.sz l hl⟩
    · rw [if_neg h] at e
      rw [← e]
      exact ⟨⟨(b.bk.l0 l hl).ne, b.pP, Dv.refl P⟩, nm l hl, (sz_red (rst_red b.pP) b.sP).mono (by omega)⟩
  exact ⟨fun l h => (each l h).1, fun l h => (each l h).2.1, fun l h => (each l h).2.2, b.pP, b.sP.mono (by omega), namesOf_nodup _, Nat.le_trans (namesOf_len _) (by decide)⟩
end
section
variable {P : Program} {w : World} {K : PySem.W.Frag} {mg : Str → Option Value} {base : Heap}
def f_names_in_lines : List D → D → Prop := fun ds d => ∃ (k : Kd) (ls : List (Ln Str (Rk k))), ds = [lnsD ls] ∧ d = nmD (nsOf ls) ∧ Bk ls
theorem s_names_in_lines : FnScope [("lines" : Str), ("found" : Str), ("one" : Str), ("other" : Str), ("ahead" : Str), ("by" : Str)] ["lines"] (defScope (Hd.top 27)) := ⟨rfl, rfl, rfl, by decide +kernel, rfl, by decide +kernel, by decide +kernel⟩
theorem c_names_in_lines (T : Tx K mg) (k : Nat) : Cal P w K mg base (k + 1) "names_in_lines" (spD K f_names_in_lines) := by
  have sc := s_names_in_lines
  refine cal_of (k := k + 0) T 13 13 rfl rfl s_names_in_lines (fun _ _ _ _ _ _ us hl => match us, hl with | [_], _ => rfl) (fun vs H Q E h => spD_len h (n := 1) (by rintro _ _ ⟨k, ls, rfl, rfl, b⟩; rfl)) fun cdv A outer s H vs Q E hr h => ⟨_, PSs.nox (pss_cons (ps_set (i := 1) sc.nd rfl (Or.inl rfl) (pe_lst pa_nil)) (pss_cons (ps_for PassesOwn.never rfl (pi_list (pv 0)) (pg_tup rfl (pgs_cons (pg_name (i := 2) sc.nd rfl (Or.inl rfl)) (pgs_cons (pg_name (i := 3) sc.nd rfl (Or.inl rfl)) (pgs_cons (pg_name (i := 4) sc.nd rfl (Or.inl rfl)) (pgs_cons (pg_name (i := 5) sc.nd rfl (Or.inl rfl)) pgs_nil))))) (pss_one (ps_set (i := 1) sc.nd rfl (Or.inl rfl) (pe_op op_cat (pv 1) (pe_lst (pa_cons (pv 2) (pa_cons (pv 3) pa_nil))))))) (pss_one (ps_ret (pe_callB (cr_sortedSetS rfl) (by rfl) (T.fr 88 rfl) (by decide +kernel) (pa_cons (pe_callTy (cr_setS rfl) (by rfl) (T.fr 87 rfl) (by decide +kernel) (pa_cons (pv 1) pa_nil)) pa_nil)))))), spD_run h ?_⟩
  clear h
  rintro ds d ⟨k, ls, rfl, rfl, b⟩
  show WS K none _ [some (false, _), none, none, none, none, none] _ _
  have hz := szl (Nat.le_refl 1000000)
  have hln := b.ln
  refine ws_seq (ws_set (ev_lst ea_nil (szb rfl)) ?_)
  refine ws_seq (ws_forL (js := [2, 3, 4, 5]) (fun i ρ' => ∃ (x2 x3 x4 x5 : Option (Bool × D)), ρ' = [some (false, lnsD ls), some (false, nmD (endsOf (ls.take i))), x2, x3, x4, x5]) (ev_var rfl) ⟨none, none, none, none, rfl⟩ ?_ ?_)
  · rintro i d ρ' hd ⟨x2, x3, x4, x5, rfl⟩
    rw [List.getElem?_map, Option.map_eq_some_iff] at hd
    obtain ⟨l, hl, rfl⟩ := hd
    have e : endsOf (ls.take (i + 1)) = endsOf (ls.take i) ++ [l.1, l.2.1] := by
      unfold endsOf
      rw [List.take_add_one, hl, List.flatMap_append]
      rfl
    refine wg_tup rfl (wgs_cons (wg_name (wgs_cons (wg_name (wgs_cons (wg_name (wgs_cons (wg_name (wgs_nil ?_)))))))))
    refine ws_set (ev_op (ev_var rfl) (ev_lst (ea_cons (ev_var rfl) (ea_cons (ev_var rfl) ea_nil)) (szb rfl)) (op_catL ?_)) ⟨some (false, .str l.1), some (false, .str l.2.1), some (false, iD l.2.2.1), some (false, iD l.2.2.2), ?_⟩
    · rw [List.length_map]
      have h1 := endsOf_len (ls.take i)
      have h2 : (ls.take i).length ≤ ls.length := List.length_take_le' _ _
      show (endsOf (ls.take i)).length + 2 ≤ sizeLine
      omega
    · rw [e]
      unfold nmD
      rw [List.map_append]
      rfl
  · rintro ρ' ⟨x2, x3, x4, x5, rfl⟩
    rw [List.length_map, List.take_length]
    refine ws_ret (en_sortedSet (ev_var rfl) b.names ?_).ev rfl
    have h1 := endsOf_len ls
    omega

def f_told_rest : List D → D → Prop := fun ds d => ∃ (k : Kd) (P : Rk k) (c : Cs Str (Rk k)) (ps : List (Str × Str)) (ws : List (Str × Rk k)) (n : Str), ds = [.str (kd k), clD ps c, wdD ws, .str n] ∧ d = oD (told c ws n) ∧ Ok' P c ∧ (ws.map Prod.fst).Nodup ∧ (∀ p ∈ ws, (p.1, n) ∈ ps ∧ Szr 2000 p.2)
theorem flD_pr {k : Kd} (v : Rk k × Rk k) : flD (prD v) = true := rfl
theorem fl_cl {k : Kd} (ps : List (Str × Str)) (c : Cs Str (Rk k)) : okL (clD ps c) = true := by
  show ((clM ps c).all fun q => flD q.2) = true
  rw [List.all_eq_true]
  intro q hq
  unfold clM at hq
  obtain ⟨p, _, rfl⟩ := List.mem_map.mp hq
  rfl
theorem s_told_rest : FnScope [("kind" : Str), ("closed" : Str), ("words" : Str), ("name" : Str), ("rest" : Str), ("by" : Str), ("mate" : Str), ("ahead" : Str), ("more" : Str), ("both" : Str)] ["kind", "closed", "words", "name"] (defScope (Hd.top 49)) := ⟨rfl, rfl, rfl, by decide +kernel, rfl, by decide +kernel, by decide +kernel⟩
theorem c_told_rest (T : Tx K mg) (k : Nat) : Cal P w K mg base (k + 6) "told_rest" (spD K f_told_rest) := by
  have c_met_in := c_met_in (P := P) (w := w) (base := base) T k
  have c_rest_in := c_rest_in (P := P) (w := w) (base := base) T k
  have c_add_in := c_add_in (P := P) (w := w) (base := base) T k
  have sc := s_told_rest
  refine cal_of (k := k + 5) T 33 33 rfl rfl s_told_rest (fun _ _ _ _ _ _ us hl => match us, hl with | [_, _, _, _], _ => rfl) (fun vs H Q E h => spD_len h (n := 4) (by rintro _ _ ⟨k, P', c, ps, ws, n, rfl, rfl, ok, nd, hw⟩; rfl)) fun cdv A outer s H vs Q E hr h => ⟨_, PSs.nox (pss_cons (ps_asg (pe_tup (pa_cons pe_int (pa_cons pe_int pa_nil))) (pg_tup rfl (pgs_cons (pg_name (i := 4) sc.nd rfl (Or.inl rfl)) (pgs_cons (pg_name (i := 5) sc.nd rfl (Or.inl rfl)) pgs_nil)))) (pss_cons (ps_lock (ps_for PassesOwn.never rfl (pi_keys (pv 2)) (pg_name (i := 6) sc.nd rfl (Or.inl rfl)) (pss_cons (ps_asg (pe_dget (hu_of hr) (pv 1) (pe_tup (pa_cons (pv 6) (pa_cons (pv 3) pa_nil))) (fun _ _ => rfl)) (pg_tup rfl (pgs_cons (pg_name (i := 7) sc.nd rfl (Or.inl rfl)) (pgs_cons (pg_name (i := 8) sc.nd rfl (Or.inl rfl)) pgs_nil)))) (pss_cons (ps_set (i := 9) sc.nd rfl (Or.inl rfl) (pe_c c_met_in hr (by omega) (by rfl) (pa_cons (pv 0) (pa_cons (pv 4) (pa_cons (pv 5) (pa_cons (pe_c c_rest_in hr (by omega) (by rfl) (pa_cons (pv 0) (pa_cons (pe_c c_add_in hr (by omega) (by rfl) (pa_cons (pv 0) (pa_cons (pe_dget (hu_of hr) (pv 2) (pv 6) (fun _ _ => rfl)) (pa_cons (pv 7) pa_nil)))) (pa_cons (pv 8) pa_nil)))) (pa_cons (pv 8) pa_nil))))))) (pss_cons (ps_if (pt_cmpR (op_isN) (pv 9) pe_non (nomark _)) (pss_one (ps_ret pe_non)) pss_nil) (pss_one (ps_asg (pv 9) (pg_tup rfl (pgs_cons (pg_name (i := 4) sc.nd rfl (Or.inl rfl)) (pgs_cons (pg_name (i := 5) sc.nd rfl (Or.inl rfl)) pgs_nil)))))))))) (pss_one (ps_ret (pe_tup (pa_cons (pv 4) (pa_cons (pv 5) pa_nil))))))), spD_run h ?_⟩
  clear h
  rintro ds d ⟨k, P', c, ps, ws, n, rfl, rfl, ok, nd, hw⟩
  show WS K none _ [some (false, _), some (false, _), some (false, _), some (false, _), none, none, none, none, none, none] _ _
  have i1 : (D.int 1) = iD (1 : Rk k) := congrArg D.int io_one.symm
  have i0 : (D.int 0) = iD (0 : Rk k) := congrArg D.int io_zero.symm
  refine ws_seq (ws_asg (ev_tup (ea_cons ev_int (ea_cons ev_int ea_nil)) (szb rfl)) (wg_tup rfl (wgs_cons (wg_name (wgs_cons (wg_name (wgs_nil ?_)))))))
  rw [i1, i0]
  refine ws_seq (ws_forLockK (i := 2) (j := 6) (m := wdM ws) (fun i ρ' => ∃ (r b : Rk k) (x6 x7 x8 x9 : Option (Bool × D)), ρ' = [some (false, .str (kd k)), some (false, clD ps c), some (false, .dF (wdM ws)), some (false, .str n), some (false, iD r), some (false, iD b), x6, x7, x8, x9] ∧ (ws.take i).foldlM (toldS c n) (0, 1) = some (r, b)) rfl (fun q hq => ?_) (fun j b d hj hd => ?_) ⟨0, 1, none, none, none, none, rfl, rfl⟩ ?_ ?_)
  · unfold wdM at hq
    obtain ⟨p, _, rfl⟩ := List.mem_map.mp hq
    rfl
  · match j with
    | 0 => cases hd; exact ⟨rfl, rfl⟩
    | 1 => cases hd; exact ⟨rfl, fl_cl ps c⟩
    | 2 => exact absurd rfl hj
    | 3 => cases hd; exact ⟨rfl, rfl⟩
    | 4 => cases hd; exact ⟨rfl, rfl⟩
    | 5 => cases hd; exact ⟨rfl, rfl⟩
    | 6 => cases hd
    | 7 => cases hd
    | 8 => cases hd
    | 9 => cases hd
    | j + 10 => cases hd
  · rintro i q ρ' hq ⟨r, b, x6, x7, x8, x9, rfl, hf⟩
    unfold wdM at hq
    rw [List.getElem?_map, Option.map_eq_some_iff] at hq
    obtain ⟨⟨m, x⟩, hp, rfl⟩ := hq
    have hm := List.mem_of_getElem? hp
    obtain ⟨h1, h2⟩ := hw _ hm
    have h1 : (m, n) ∈ ps := h1
    have h2 : Szr 2000 x := h2
    obtain ⟨v1, v2, v3⟩ := told_inv ok.ok (n := n) ps_one (Dv.one P') (red_zero one_ne (by rw [io_one]; decide)) hf
    have v1 : Ps b := v1
    have v2 : Dv b P' := v2
    have v3 : red b r := v3
    have sb : Szr 1000 b := sz_dv v2 ok.pP v1.cnt ok.sz
    have st := foldlM_snoc (f := toldS c n) (b := ((0 : Rk k), (1 : Rk k))) hp
    rw [hf] at st
    have st : (ws.take (i + 1)).foldlM (toldS c n) (0, 1) = met r b (rst (x + (c (m, n)).1) (c (m, n)).2) (c (m, n)).2 := st
    have pm := ok.ok.ps (m, n)
    refine ws_seq (ws_asg (ev_dgetT (ks := kT (m, n)) (ev_var rfl) (ev_tup (ea_cons (ev_var rfl) (ea_cons (ev_var rfl) ea_nil)) (szb rfl)) (dV_cl c h1)) (wg_tup rfl (wgs_cons (wg_name (wgs_cons (wg_name (wgs_nil ?_)))))))
    refine ws_seq (ws_set (ev_call (ea_cons (ev_var rfl) (ea_cons (ev_var rfl) (ea_cons (ev_var rfl) (ea_cons (ev_call (ea_cons (ev_var rfl) (ea_cons (ev_call (ea_cons (ev_var rfl) (ea_cons (ev_dgetF (ev_var rfl) (ev_var rfl) (dV_wd nd hm)) (ea_cons (ev_var rfl) ea_nil))) ⟨k, x, (c (m, n)).1, rfl, rfl⟩) (ea_cons (ev_var rfl) ea_nil))) ⟨k, x + (c (m, n)).1, (c (m, n)).2, 9000, rfl, rfl, pm.cnt, (ok.by _).mono (by omega), (sz_addR h2 ((ok.rest _).mono (show 1000 ≤ 2000 by omega))).mono (by omega), by omega⟩) (ea_cons (ev_var rfl) ea_nil)))))
      ⟨k, r, b, rst (x + (c (m, n)).1) (c (m, n)).2, (c (m, n)).2, rfl, rfl, v1, pm, sz_red v3 sb, sb, sz_red (rst_red pm) (ok.by _), ok.by _⟩) ?_)
    refine ws_seq (ws_when (et_test (ev_op (ev_var rfl) ev_non (op_isNo _))) (fun hh => ?_) fun hh => ?_)
    · refine ws_ret ev_non ?_
      cases e : met r b (rst (x + (c (m, n)).1) (c (m, n)).2) (c (m, n)).2 with
      | none =>
        have : told c ws n = none := foldlM_none (i := i + 1) (st.trans e)
        rw [this]
        rfl
      | some v => rw [e] at hh; cases hh
    · cases e : met r b (rst (x + (c (m, n)).1) (c (m, n)).2) (c (m, n)).2 with
      | none => rw [e] at hh; cases hh
      | some v =>
        obtain ⟨r', b'⟩ := v
        refine ws_asg (ev_var rfl) (wg_tup rfl (wgs_cons (wg_name (wgs_cons (wg_name (wgs_nil ?_))))))
        exact ⟨r', b', some (false, .str m), some (false, iD (c (m, n)).1), some (false, iD (c (m, n)).2), some (false, oD (some (r', b'))), rfl, st.trans e⟩
  · rintro ρ' ⟨r, b, x6, x7, x8, x9, rfl, hf⟩
    rw [wdM_len, List.take_length] at hf
    refine ws_ret (ev_tup (ea_cons (ev_var rfl) (ea_cons (ev_var rfl) ea_nil)) (szb rfl)) ?_
    have : told c ws n = some (r, b) := hf
    rw [this]
    rfl

def f_check_period : List D → D → Prop := fun ds d => ∃ (k : Kd) (P : Rk k) (ls : List (Ln Str (Rk k))), ds = [bkD ls, iD P] ∧ d = .non ∧ BkP P ls
theorem io_pos {k : Kd} {b : Rk k} (h : Ps b) : 0 < io b := by
  have h1 := h.cnt
  have h2 : io b ≠ 0 := fun e => h.ne (io_eq_zero.mp e)
  omega
theorem s_check_period : FnScope [("book" : Str), ("period" : Str), ("one" : Str), ("other" : Str), ("ahead" : Str), ("by" : Str)] ["book", "period"] (defScope (Hd.top 53)) := ⟨rfl, rfl, rfl, by decide +kernel, rfl, by decide +kernel, by decide +kernel⟩
theorem c_check_period (T : Tx K mg) (k : Nat) : Cal P w K mg base (k + 8) "check_period" (spD K f_check_period) := by
  have c_check_book := c_check_book (P := P) (w := w) (base := base) T k
  have c_is_whole := c_is_whole (P := P) (w := w) (base := base) T k
  have c_is_multiple_in := c_is_multiple_in (P := P) (w := w) (base := base) T k
  have sc := s_check_period
  refine cal_of (k := k + 7) T 35 35 rfl rfl s_check_period (fun _ _ _ _ _ _ us hl => match us, hl with | [_, _], _ => rfl) (fun vs H Q E h => spD_len h (n := 2) (by rintro _ _ ⟨k, P', ls, rfl, rfl, b⟩; rfl)) fun cdv A outer s H vs Q E hr h => ⟨_, PSs.nox (pss_cons (ps_expr (pe_c c_check_book hr (by omega) (by rfl) (pa_cons (pv 0) pa_nil))) (pss_cons (ps_if (PW.pt (pw_or (pt_not (pt_val (pe_c c_is_whole hr (by omega) (by rfl) (pa_cons (pv 1) pa_nil)))) (pw_or1 (pt_cmpR (op_lt) (pv 1) pe_int (nomark _))))) pss_never pss_nil) (pss_one (ps_if (pt_cmpR (op_neD hr.units) (pe_lc (own := [(("one" : Str), 2), (("other" : Str), 3), (("ahead" : Str), 4), (("by" : Str), 5)]) (g := gTup K 4 (gCons (gName 2) (gCons (gName 3) (gCons (gName 4) (gCons (gName 5) gNil))))) rfl sc.nd  (pi_list (pe_ix (show IxR _ (rIxT K) from ix_tup) (pv 0) pe_int (fun _ _ => rfl))) (blkOk_by (own := [(("one" : Str), 2), (("other" : Str), 3), (("ahead" : Str), 4), (("by" : Str), 5)]) (N := [("book" : Str), ("period" : Str), ("one" : Str), ("other" : Str), ("ahead" : Str), ("by" : Str)]) (sc := defScope (Hd.top 53)) (by decide +kernel)) (fun _ _ _ _ _ => (pg_tup rfl (pgs_cons (pg_name (i := 2) sc.nd rfl (Or.inl rfl)) (pgs_cons (pg_name (i := 3) sc.nd rfl (Or.inl rfl)) (pgs_cons (pg_name (i := 4) sc.nd rfl (Or.inl rfl)) (pgs_cons (pg_name (i := 5) sc.nd rfl (Or.inl rfl)) pgs_nil)))))) (fun _ _ _ _ _ => (pts_one (PW.pt (pw_and (pt_cmpR (op_gt) (pv 5) pe_int (nomark _)) (pw_and1 (pt_not (pt_val (pe_c c_is_multiple_in hr (by omega) (by rfl) (pa_cons (pe_ix (show IxR _ (rIxT K) from ix_tup) (pv 0) pe_int (fun _ _ => rfl)) (pa_cons (pv 1) (pa_cons (pv 5) pa_nil))))))))))) (fun _ _ _ _ _ => pe_int)) (pe_lst pa_nil) (nomark _)) pss_never pss_nil)))), spD_run h ?_⟩
  clear h
  rintro ds d ⟨k, P', ls, rfl, rfl, b⟩
  show WS K none _ [some (false, _), some (false, _), none, none, none, none] _ _
  refine ws_seq (ws_drop (ev_call (ea_cons (ev_var rfl) ea_nil) ⟨k, ls, rfl, rfl, b.bk⟩) ?_)
  refine ws_seq (ws_ifF (et_is (et_or (et_not (et_test (ev_call (ea_cons (ev_var rfl) ea_nil) ⟨io P', rfl, rfl⟩))) fun _ => et_test (ev_op (ev_var rfl) ev_int op_b0)) ?_) (ws_next ?_))
  · have := io_pos b.pP
    show (!true || decide (io P' < 1)) = false
    rw [decide_eq_false (by omega)]
    rfl
  · refine ws_ifF (et_is (et_test (ev_op (en_lcNone (js := [2, 3, 4, 5]) (ei_list (ev_op (ev_var rfl) ev_int (op_ixT rfl))) (len_szl (by rw [List.length_map]; have := b.bk.ln; omega)) (by decide) fun d hd => ?_).ev (ev_lst ea_nil (szb rfl)) op_ne00)) rfl) (ws_next rfl)
    obtain ⟨l, hm, rfl⟩ := List.mem_map.mp hd
    refine wg_tup rfl (wgs_cons (wg_name (wgs_cons (wg_name (wgs_cons (wg_name (wgs_cons (wg_name (wgs_nil ?_)))))))))
    by_cases h : 0 < io l.2.2.2
    · have pb := ps_of_pos h
      have sb : Szr 200 l.2.2.2 := sz_dv (b.dv l hm h) b.pP pb.cnt b.sP
      refine et_is (et_and (et_test (ev_op (ev_var rfl) ev_int op_b0)) fun _ => et_nT (et_is (et_test (ev_call (ea_cons (ev_op (ev_var rfl) ev_int (op_ixT rfl)) (ea_cons (ev_var rfl) (ea_cons (ev_var rfl) ea_nil))) ⟨k, P', l.2.2.2, 200, rfl, rfl, pb.cnt, sb.mono (by omega), b.sP, by omega⟩)) ?_)) (by rw [Bool.and_false])
      refine decide_eq_true ?_
      rw [(rst_zero pb).mpr, io_zero]
      obtain ⟨q, hq⟩ := b.dv l hm h
      exact ⟨q, by rw [hq]; grind⟩
    · exact et_is (et_and (b := false) (et_test (ev_op (ev_var rfl) ev_int op_b0)) fun z => absurd (of_decide_eq_true z) h) (by rw [Bool.and_false])

def f_by_rests : List D → D → Prop := fun ds d => ∃ (k : Kd) (P : Rk k) (ls : List (Ln Str (Rk k))), ds = [bkD ls, iD P] ∧ d = lnsD (byRests P ls) ∧ BkP P ls
theorem s_by_rests : FnScope [("book" : Str), ("period" : Str), ("found" : Str), ("one" : Str), ("other" : Str), ("ahead" : Str), ("by" : Str)] ["book", "period"] (defScope (Hd.top 54)) := ⟨rfl, rfl, rfl, by decide +kernel, rfl, by decide +kernel, by decide +kernel⟩
theorem c_by_rests (T : Tx K mg) (k : Nat) : Cal P w K mg base (k + 3) "by_rests" (spD K f_by_rests) := by
  have c_rest_in := c_rest_in (P := P) (w := w) (base := base) T k
  have sc := s_by_rests
  refine cal_of (k := k + 2) T 36 36 rfl rfl s_by_rests (fun _ _ _ _ _ _ us hl => match us, hl with | [_, _], _ => rfl) (fun vs H Q E h => spD_len h (n := 2) (by rintro _ _ ⟨k, P', ls, rfl, rfl, b⟩; rfl)) fun cdv A outer s H vs Q E hr h => ⟨_, PSs.nox (pss_cons (ps_set (i := 2) sc.nd rfl (Or.inl rfl) (pe_lst pa_nil)) (pss_cons (ps_for PassesOwn.never rfl (pi_list (pe_ix ix_tup (pv 0) pe_int (fun _ _ => rfl))) (pg_tup rfl (pgs_cons (pg_name (i := 3) sc.nd rfl (Or.inl rfl)) (pgs_cons (pg_name (i := 4) sc.nd rfl (Or.inl rfl)) (pgs_cons (pg_name (i := 5) sc.nd rfl (Or.inl rfl)) (pgs_cons (pg_name (i := 6) sc.nd rfl (Or.inl rfl)) pgs_nil))))) (pss_one (ps_expr (pe_bm PySem.F.plainAttrs_list PySem.F.slot_list_append PySem.F.type_list_append mt_append (pv 2) (pa_cons (pe_ifExp (pt_cmpR (op_gt) (pv 6) pe_int (nomark _)) (pe_tup (pa_cons (pv 3) (pa_cons (pv 4) (pa_cons (pv 5) (pa_cons (pv 6) pa_nil))))) (pe_tup (pa_cons (pv 3) (pa_cons (pv 4) (pa_cons (pe_c c_rest_in hr (by omega) (by rfl) (pa_cons (pe_ix ix_tup (pv 0) pe_int (fun _ _ => rfl)) (pa_cons (pv 5) (pa_cons (pv 1) pa_nil)))) (pa_cons (pv 1) pa_nil)))))) pa_nil))))) (pss_one (ps_ret (pv 2))))), spD_run h ?_⟩
  clear h
  rintro ds d ⟨k, P', ls, rfl, rfl, b⟩
  show WS K none _ [some (false, _), some (false, _), none, none, none, none, none] _ _
  have hln := b.bk.ln
  refine ws_seq (ws_setN (en_lst ea_nil (szb rfl)) ?_)
  refine ws_seq (ws_forL (js := [3, 4, 5, 6]) (fun i ρ' => ∃ (x3 x4 x5 x6 : Option (Bool × D)), ρ' = [some (false, bkD ls), some (false, iD P'), some (true, lnsD (byRests P' (ls.take i))), x3, x4, x5, x6]) (ev_op (ev_var rfl) ev_int (op_ixT rfl)) ⟨none, none, none, none, rfl⟩ ?_ ?_)
  · rintro i d ρ' hd ⟨x3, x4, x5, x6, rfl⟩
    rw [List.getElem?_map, Option.map_eq_some_iff] at hd
    obtain ⟨l, hl, rfl⟩ := hd
    have hm := List.mem_of_getElem? hl
    refine wg_tup rfl (wgs_cons (wg_name (wgs_cons (wg_name (wgs_cons (wg_name (wgs_cons (wg_name (wgs_nil ?_)))))))))
    have e : byRests P' (ls.take (i + 1)) = byRests P' (ls.take i) ++ [if 0 < io l.2.2.2 then l else (l.1, l.2.1, rst l.2.2.1 P', P')] := by
      unfold byRests
      rw [List.take_add_one, hl, List.map_append]
      rfl
    refine ws_app (i := 2) (d := lnD (if 0 < io l.2.2.2 then l else (l.1, l.2.1, rst l.2.2.1 P', P'))) rfl (ev_if (et_test (ev_op (ev_var rfl) ev_int op_b0)) (fun h => ?_) fun h => ?_) ?_ ⟨some (false, .str l.1), some (false, .str l.2.1), some (false, iD l.2.2.1), some (false, iD l.2.2.2), ?_⟩
    · rw [if_pos (of_decide_eq_true h)]
      exact ev_tup (ea_cons (ev_var rfl) (ea_cons (ev_var rfl) (ea_cons (ev_var rfl) (ea_cons (ev_var rfl) ea_nil)))) (szb rfl)
    · rw [if_neg (of_decide_eq_false h)]
      exact ev_tup (ea_cons (ev_var rfl) (ea_cons (ev_var rfl) (ea_cons (ev_call (ea_cons (ev_op (ev_var rfl) ev_int (op_ixT rfl)) (ea_cons (ev_var rfl) (ea_cons (ev_var rfl) ea_nil))) ⟨k, l.2.2.1, P', 8000, rfl, rfl, b.pP.cnt, b.sP.mono (by omega), b.sz l hm, by omega⟩) (ea_cons (ev_var rfl) ea_nil)))) (szb rfl)
    · refine len_szl ?_
      rw [List.length_map, byRests_len]
      have : (ls.take i).length ≤ ls.length := List.length_take_le' _ _
      omega
    · rw [e]
      unfold lnsD
      rw [List.map_append]
      rfl
  · rintro ρ' ⟨x3, x4, x5, x6, rfl⟩
    rw [List.length_map, List.take_length]
    exact ws_freeze0 (i := 2) rfl (ws_ret (ev_var rfl) rfl)

def f_choices_of : List D → D → Prop := fun ds d => ∃ (k : Kd) (P b : Rk k), ds = [.str (kd k), iD P, iD b] ∧ d = .int (ch P b : Nat) ∧ Ps P ∧ Ps b ∧ Dv b P ∧ Szr 9000 P
theorem s_choices_of : FnScope [("kind" : Str), ("period" : Str), ("by" : Str)] ["kind", "period", "by"] (defScope (Hd.top 55)) := ⟨rfl, rfl, rfl, by decide +kernel, rfl, by decide +kernel, by decide +kernel⟩
theorem c_choices_of (T : Tx K mg) (k : Nat) : Cal P w K mg base (k + 1) "choices_of" (spD K f_choices_of) := by
  have sc := s_choices_of
  refine cal_of (k := k + 0) T 37 37 rfl rfl s_choices_of (fun _ _ _ _ _ _ us hl => match us, hl with | [_, _, _], _ => rfl) (fun vs H Q E h => spD_len h (n := 3) (by rintro _ _ ⟨k, P', b, rfl, rfl, pP, pb, dv, sP⟩; rfl)) fun cdv A outer s H vs Q E hr h => ⟨_, PSs.nox (pss_one (ps_ret (pe_ifExp (pt_cmpR (op_eq) (pv 0) pe_str (nomark _)) (pe_op op_fdivW (pv 1) (pv 2)) (pe_op op_shlW pe_int (pe_op op_sub (pe_bits (pv 1)) (pe_bits (pv 2))))))), spD_run h ?_⟩
  clear h
  rintro ds d ⟨k, P', b, rfl, rfl, pP, pb, dv, sP⟩
  show WS K none _ [some (false, _), some (false, _), some (false, _)] _ _
  have sb : Szr 9000 b := sz_dv dv pP pb.cnt sP
  refine ws_ret ?_ rfl
  cases k
  · refine ev_ifT (et_h (ev_var rfl)) (ev_is (ev_op (ev_var rfl) (ev_var rfl) (op_iC (wide_div (ps_h pb) sb (by decide) (by decide)))) ?_)
    have h1 : @LE.le Int _ 0 P' := pP.cnt
    have h2 : @LE.le Int _ 0 b := pb.cnt
    have h3 : @LE.le Int _ 0 ((P' : Int) / b) := Int.ediv_nonneg h1 h2
    exact congrArg D.int (show ((P' : Int) / b) = (((P' : Int) / b).toNat : Int) from (Int.toNat_of_nonneg h3).symm)
  · have lb : len b.n ≤ len P'.n := by
      obtain ⟨c, hc⟩ := dv
      exact len_le_dvd (congrArg Bw.n hc) fun q => pP.ne (Bw.ext q)
    have lP : len P'.n ≤ 9000 := sz_len.mp sP
    refine ev_ifF (et_b (ev_var rfl)) (ev_is (ev_op ev_int (ev_is (ev_op (ev_bits (ev_var rfl)) (ev_bits (ev_var rfl)) op_i0) (show _ = D.int ((len P'.n - len b.n : Nat) : Int) from ?_)) (op_iC (shl_ok (n := 1) (by decide) (by omega)))) ?_)
    · rw [io_b, io_b, bits_nat, bits_nat]
      exact congrArg D.int (by omega)
    · have := shl_nat 1 (len P'.n - len b.n)
      rw [Nat.one_mul] at this
      exact congrArg D.int this

def f_choice_at : List D → D → Prop := fun ds d => ∃ (k : Kd) (r b : Rk k) (i : Nat), ds = [.str (kd k), iD r, iD b, .int (i : Int)] ∧ d = iD (at_ r b i) ∧ Ps b ∧ red b r ∧ Szr 1000 b ∧ Sz 1000 (i : Int)
theorem s_choice_at : FnScope [("kind" : Str), ("rest" : Str), ("by" : Str), ("place" : Str), ("top" : Str)] ["kind", "rest", "by", "place"] (defScope (Hd.top 56)) := ⟨rfl, rfl, rfl, by decide +kernel, rfl, by decide +kernel, by decide +kernel⟩
theorem c_choice_at (T : Tx K mg) (k : Nat) : Cal P w K mg base (k + 3) "choice_at" (spD K f_choice_at) := by
  have c_rest_in := c_rest_in (P := P) (w := w) (base := base) T k
  have sc := s_choice_at
  refine cal_of (k := k + 2) T 38 38 rfl rfl s_choice_at (fun _ _ _ _ _ _ us hl => match us, hl with | [_, _, _, _], _ => rfl) (fun vs H Q E h => spD_len h (n := 4) (by rintro _ _ ⟨k, r, b, i, rfl, rfl, pb, hr', sb, si⟩; rfl)) fun cdv A outer s H vs Q E hr h => ⟨_, PSs.nox (pss_cons (ps_if (pt_cmpR (op_eq) (pv 0) pe_str (nomark _)) (pss_one (ps_ret (pe_op op_add (pv 1) (pe_op op_mulX (pv 3) (pv 2))))) pss_nil) (pss_cons (ps_set (i := 4) sc.nd rfl (Or.inl rfl) (pe_op op_shlW (pv 3) (pe_op op_sub (pe_bits (pv 2)) pe_int))) (pss_one (ps_ret (pe_op op_xor (pv 4) (pe_c c_rest_in hr (by omega) (by rfl) (pa_cons (pv 0) (pa_cons (pe_op op_xor (pv 4) (pv 1)) (pa_cons (pv 2) pa_nil))))))))), spD_run h ?_⟩
  clear h
  rintro ds d ⟨k, r, b, i, rfl, rfl, pb, hr', sb, si⟩
  show WS K none _ [some (false, _), some (false, _), some (false, _), some (false, _), none] _ _
  cases k
  · refine ws_seq (ws_ifT (et_h (ev_var rfl)) (ws_ret (ev_op (ev_var rfl) (ev_op (ev_var rfl) (ev_var rfl) (op_iC (mulx_ok si sb (by decide)))) op_i0) rfl))
  · have b0 : b.n ≠ 0 := fun q => pb.ne (Bw.ext q)
    have pl : len b.n ≠ 0 := fun q => b0 (len_eq_zero.mp q)
    have lb : len b.n ≤ 1000 := sz_len.mp sb
    have li : len i ≤ 1000 := sz_len.mp si
    refine ws_seq (ws_ifF (et_b (ev_var rfl)) (ws_next ?_))
    refine ws_seq (ws_set (ev_is (ev_op (ev_var rfl) (ev_is (ev_op (ev_bits (ev_var rfl)) ev_int op_i0) (show _ = D.int ((len b.n - 1 : Nat) : Int) from ?_)) (op_iC (shl_ok si (by omega)))) (show _ = iD (k := .b) (⟨i <<< (len b.n - 1)⟩ : Bw) from ?_)) ?_)
    · rw [io_b, bits_nat]
      exact congrArg D.int (by omega)
    · rw [shl_nat, ← Nat.shiftLeft_eq]
      rfl
    · have hlt : len (i <<< (len b.n - 1)) ≤ 2000 := by
        by_cases i0 : i = 0
        · rw [i0, Nat.zero_shiftLeft, len_zero]; omega
        · rw [len_shl i0]; omega
      have hlr : len r.n < len b.n := hr'
      have hlx : len ((i <<< (len b.n - 1)) ^^^ r.n) ≤ 2000 := len_le_of (Nat.xor_lt_two_pow (len_le_iff.mp hlt) (len_le_iff.mp (by omega)))
      have ex : (D.int (Builtin.bitXor (io (R := Rk .b) (⟨i <<< (len b.n - 1)⟩ : Bw)) (io r))) = iD (k := .b) (⟨(i <<< (len b.n - 1)) ^^^ r.n⟩ : Bw) := congrArg D.int (bxor_nat _ _)
      refine ws_ret (ev_is (ev_op (ev_var rfl) (ev_call (ea_cons (ev_var rfl) (ea_cons (ev_is (ev_op (ev_var rfl) (ev_var rfl) op_i0) ex) (ea_cons (ev_var rfl) ea_nil))) ⟨.b, (⟨(i <<< (len b.n - 1)) ^^^ r.n⟩ : Bw), b, 2000, rfl, rfl, pb.cnt, sb.mono (by omega), sz_len.mpr hlx, by omega⟩) op_i0) ?_) rfl
      rw [rst_ps pb]
      exact congrArg D.int (bxor_nat _ _)

def f_place_of : List D → D → Prop := fun ds d => ∃ (k : Kd) (b x : Rk k), ds = [.str (kd k), iD b, iD x] ∧ d = .int (pl b x : Nat) ∧ Ps b ∧ 0 ≤ io x ∧ Szr 9000 b
theorem s_place_of : FnScope [("kind" : Str), ("by" : Str), ("number" : Str)] ["kind", "by", "number"] (defScope (Hd.top 57)) := ⟨rfl, rfl, rfl, by decide +kernel, rfl, by decide +kernel, by decide +kernel⟩
theorem c_place_of (T : Tx K mg) (k : Nat) : Cal P w K mg base (k + 1) "place_of" (spD K f_place_of) := by
  have sc := s_place_of
  refine cal_of (k := k + 0) T 39 39 rfl rfl s_place_of (fun _ _ _ _ _ _ us hl => match us, hl with | [_, _, _], _ => rfl) (fun vs H Q E h => spD_len h (n := 3) (by rintro _ _ ⟨k, b, x, rfl, rfl, pb, hx, sb⟩; rfl)) fun cdv A outer s H vs Q E hr h => ⟨_, PSs.nox (pss_one (ps_ret (pe_ifExp (pt_cmpR (op_eq) (pv 0) pe_str (nomark _)) (pe_op op_fdivW (pv 2) (pv 1)) (pe_op op_shr (pv 2) (pe_op op_sub (pe_bits (pv 1)) pe_int))))), spD_run h ?_⟩
  clear h
  rintro ds d ⟨k, b, x, rfl, rfl, pb, hx, sb⟩
  show WS K none _ [some (false, _), some (false, _), some (false, _)] _ _
  refine ws_ret ?_ rfl
  cases k
  · refine ev_ifT (et_h (ev_var rfl)) (ev_is (ev_op (ev_var rfl) (ev_var rfl) (op_iC (wide_div (ps_h pb) sb (by decide) (by decide)))) ?_)
    have h2 : @LE.le Int _ 0 b := pb.cnt
    have h3 : @LE.le Int _ 0 ((x : Int) / b) := Int.ediv_nonneg hx h2
    exact congrArg D.int (show ((x : Int) / b) = (((x : Int) / b).toNat : Int) from (Int.toNat_of_nonneg h3).symm)
  · have b0 : b.n ≠ 0 := fun q => pb.ne (Bw.ext q)
    have pl : len b.n ≠ 0 := fun q => b0 (len_eq_zero.mp q)
    refine ev_ifF (et_b (ev_var rfl)) (ev_is (ev_op (ev_var rfl) (ev_is (ev_op (ev_bits (ev_var rfl)) ev_int op_i0) (show _ = D.int ((len b.n - 1 : Nat) : Int) from ?_)) (op_iC (by omega))) ?_)
    · rw [io_b, bits_nat]
      exact congrArg D.int (by omega)
    · rw [Int.toNat_natCast, io_b]
      have : (2 : Int) ^ (len b.n - 1) = ((2 ^ (len b.n - 1) : Nat) : Int) := (Int.natCast_pow 2 _).symm
      rw [this]
      show D.int ((x.n : Int) / ((2 ^ (len b.n - 1) : Nat) : Int)) = .int ((x.n >>> (len b.n - 1) : Nat) : Int)
      rw [Nat.shiftRight_eq_div_pow]
      exact congrArg D.int (Int.natCast_ediv _ _).symm

end
end J

/-! ## W6 -/
/-! Bases, products, rows by number. -/
namespace J
open PySem PySem.Spec PyProof.Rows L2 Q
open KR
def natsD (l : List Nat) : D := .lst (l.map fun a : Nat => D.int (a : Int))
section
variable {R : Type} [KR R] {P : R} {c : Cs Str R}
theorem basesF_len : ∀ (ms os : List Str), (basesF P c ms os).length = os.length
  | _, [] => rfl
  | ms, n :: os => by
    unfold basesF
    rw [List.length_cons, List.length_cons, basesF_len]
theorem basesF_drop : ∀ (i : Nat) (ms os : List Str), (basesF P c ms os).drop i = basesF P c (ms ++ os.take i) (os.drop i)
  | 0, ms, os => by simp
  | i + 1, ms, [] => by simp [basesF]
  | i + 1, ms, n :: os => by
    show (basesF P c (ms ++ [n]) os).drop i = _
    rw [basesF_drop i]
    simp
theorem basesF_get {i : Nat} {ms os : List Str} {n : Str} (h : os[i]? = some n) : (basesF P c ms os)[i]? = some (ch P (byOf c (ms ++ os.take i) n)) := by
  have h1 : (basesF P c ms os).drop i = basesF P c (ms ++ os.take i) (os.drop i) := basesF_drop i ms os
  have h2 : os.drop i = n :: os.drop (i + 1) := by
    rw [List.drop_eq_getElem_cons (List.getElem?_eq_some_iff.mp h).1, (List.getElem?_eq_some_iff.mp h).2]
  rw [h2] at h1
  have h3 : ((basesF P c ms os).drop i)[0]? = some (ch P (byOf c (ms ++ os.take i) n)) := by rw [h1]; rfl
  rw [List.getElem?_drop] at h3
  exact h3
theorem basesF_take {i : Nat} {ms os : List Str} {n : Str} (h : os[i]? = some n) : (basesF P c ms os).take (i + 1) = (basesF P c ms os).take i ++ [ch P (byOf c (ms ++ os.take i) n)] := by
  rw [List.take_add_one, basesF_get h]
  rfl
theorem prodN_snoc : ∀ (l : List Nat) (a : Nat), prodN (l ++ [a]) = prodN l * a
  | [], a => by show a * 1 = 1 * a; omega
  | b :: l, a => by
    show b * prodN (l ++ [a]) = b * prodN l * a
    rw [prodN_snoc l a, Nat.mul_assoc]
theorem prodN_sz {n : Nat} : ∀ {l : List Nat}, (∀ a ∈ l, a < 2 ^ n) → prodN l < 2 ^ (n * l.length + 1)
  | [], _ => Nat.one_lt_two_pow (by omega)
  | a :: l, h => by
    have h1 := h a (List.mem_cons_self ..)
    have h2 := prodN_sz (l := l) fun b hb => h b (List.mem_cons_of_mem _ hb)
    have e : n * (a :: l).length + 1 = n + (n * l.length + 1) := by rw [List.length_cons, Nat.mul_add, Nat.mul_one]; omega
    rw [e, Nat.pow_add]
    show a * prodN l < _
    exact Nat.mul_lt_mul'' h1 h2
end
theorem ch_sz {k : Kd} {n : Nat} {P b : Rk k} (pP : Ps P) (pb : Ps b) (dv : Dv b P) (sP : Szr n P) : ch P b < 2 ^ n := by
  cases k
  · have h1 : @LE.le Int _ 0 P := pP.cnt
    have h2 : @LT.lt Int _ 0 b := ps_h pb
    have h3 : @LE.le Int _ ((P : Int) / b) P := Int.ediv_le_self _ h1
    have h4 : (P : Int).natAbs < 2 ^ n := sP
    show ((P : Int) / b).toNat < 2 ^ n
    omega
  · have b0 : b.n ≠ 0 := fun q => pb.ne (Bw.ext q)
    have pl : len b.n ≠ 0 := fun q => b0 (len_eq_zero.mp q)
    have P0 : P.n ≠ 0 := fun q => pP.ne (Bw.ext q)
    have lP : len P.n ≤ n := sz_len.mp sP
    have pP' : len P.n ≠ 0 := fun q => P0 (len_eq_zero.mp q)
    show 2 ^ (len P.n - len b.n) < 2 ^ n
    exact Nat.pow_lt_pow_right (by decide) (by omega)
theorem basesF_sz {k : Kd} {n : Nat} {P : Rk k} {c : Cs Str (Rk k)} (ok : Ok P c) (pP : Ps P) (sP : Szr n P) : ∀ {os ms : List Str}, ∀ a ∈ basesF P c ms os, a < 2 ^ n
  | [], ms, a, h => nomatch h
  | o :: os, ms, a, h => by
    have h' : a ∈ ch P (byOf c ms o) :: basesF P c (ms ++ [o]) os := h
    rcases List.mem_cons.mp h' with z | z
    · rw [z]; exact ch_sz pP (byOf_ps ok _ _) (byOf_dv ok _ _) sP
    · exact basesF_sz ok pP sP a z
theorem cut_take (l : List D) (i : Nat) (h : i ≤ l.length) : cutD l none (some (i : Int)) = l.take i := by
  have h1 : HT.sIx l.length 0 none = 0 := rfl
  have h2 : HT.sIx l.length l.length (some (i : Int)) = i := by rw [HT.sIx_nat]; omega
  unfold cutD
  rw [h1, h2]
  simp
theorem cut_drop (l : List D) (i : Nat) (h : i ≤ l.length) : cutD l (some (i : Int)) none = l.drop i := by
  have h1 : HT.sIx l.length l.length none = l.length := rfl
  have h2 : HT.sIx l.length 0 (some (i : Int)) = i := by rw [HT.sIx_nat]; omega
  unfold cutD
  rw [h1, h2]
  exact List.take_of_length_le (by rw [List.length_drop]; exact Nat.le_refl _)
section
variable {P : Program} {w : World} {K : PySem.W.Frag} {mg : Str → Option Value} {base : Heap}
def f_bases_in : List D → D → Prop := fun ds d => ∃ (k : Kd) (P : Rk k) (c : Cs Str (Rk k)) (ps : List (Str × Str)) (ns : List Str), ds = [.str (kd k), iD P, clD ps c, nmD ns] ∧ d = natsD (basesF P c [] ns) ∧ Ok' P c ∧ ns.length ≤ 100 ∧ ns.Nodup ∧ (∀ a ∈ ns, ∀ b ∈ ns, a ≠ b → (a, b) ∈ ps)
theorem s_bases_in : FnScope [("kind" : Str), ("period" : Str), ("closed" : Str), ("names" : Str), ("found" : Str), ("at" : Str), ("name" : Str), ("by" : Str), ("mate" : Str)] ["kind", "period", "closed", "names"] (defScope (Hd.top 58)) := ⟨rfl, rfl, rfl, by decide +kernel, rfl, by decide +kernel, by decide +kernel⟩
theorem c_bases_in (T : Tx K mg) (k : Nat) : Cal P w K mg base (k + 5) "bases_in" (spD K f_bases_in) := by
  have c_multiple_in := c_multiple_in (P := P) (w := w) (base := base) T k
  have c_choices_of := c_choices_of (P := P) (w := w) (base := base) T k
  have sc := s_bases_in
  refine cal_of (k := k + 4) T 40 40 rfl rfl s_bases_in (fun _ _ _ _ _ _ us hl => match us, hl with | [_, _, _, _], _ => rfl) (fun vs H Q E h => spD_len h (n := 4) (by rintro _ _ ⟨k, P', c, ps, ns, rfl, rfl, ok, hln, nd, hps⟩; rfl)) fun cdv A outer s H vs Q E hr h => ⟨_, PSs.nox (pss_cons (ps_set (i := 4) sc.nd rfl (Or.inl rfl) (pe_lst pa_nil)) (pss_cons (ps_for PassesOwn.never rfl (pi_enum (by rfl) (T.fr 79 rfl) (pa_cons (pv 3) pa_nil)) (pg_tup rfl (pgs_cons (pg_name (i := 5) sc.nd rfl (Or.inl rfl)) (pgs_cons (pg_name (i := 6) sc.nd rfl (Or.inl rfl)) pgs_nil))) (pss_cons (ps_set (i := 7) sc.nd rfl (Or.inl rfl) pe_int) (pss_cons (ps_for PassesOwn.never rfl (pi_list (pe_slice sl_list (pv 3) po_none (po_some (pv 5)))) (pg_name (i := 8) sc.nd rfl (Or.inl rfl)) (pss_one (ps_set (i := 7) sc.nd rfl (Or.inl rfl) (pe_c c_multiple_in hr (by omega) (by rfl) (pa_cons (pv 0) (pa_cons (pv 7) (pa_cons (pe_ix ix_tup (pe_dget (hu_of hr) (pv 2) (pe_tup (pa_cons (pv 8) (pa_cons (pv 6) pa_nil))) (fun _ _ => rfl)) pe_int (fun _ _ => rfl)) pa_nil))))))) (pss_one (ps_expr (pe_bm PySem.F.plainAttrs_list PySem.F.slot_list_append PySem.F.type_list_append mt_append (pv 4) (pa_cons (pe_c c_choices_of hr (by omega) (by rfl) (pa_cons (pv 0) (pa_cons (pv 1) (pa_cons (pv 7) pa_nil)))) pa_nil))))))) (pss_one (ps_ret (pv 4))))), spD_run h ?_⟩
  clear h
  rintro ds d ⟨k, P', c, ps, ns, rfl, rfl, ok, hln, nd, hps⟩
  show WS K none _ [some (false, _), some (false, _), some (false, _), some (false, _), none, none, none, none, none] _ _
  have i1 : (D.int 1) = iD (1 : Rk k) := congrArg D.int io_one.symm
  refine ws_seq (ws_setN (en_lst ea_nil (szb rfl)) ?_)
  refine ws_seq (ws_forE (js := [5, 6]) (fun i ρ' => ∃ (x5 x6 x7 x8 : Option (Bool × D)), ρ' = [some (false, .str (kd k)), some (false, iD P'), some (false, clD ps c), some (false, nmD ns), some (true, natsD ((basesF P' c [] ns).take i)), x5, x6, x7, x8]) (ea_cons (ev_var rfl) ea_nil) ⟨none, none, none, none, rfl⟩ ?_ ?_)
  · rintro i d ρ' hd ⟨x5, x6, x7, x8, rfl⟩
    rw [List.getElem?_map, Option.map_eq_some_iff] at hd
    obtain ⟨n, hn, rfl⟩ := hd
    have hnm := List.mem_of_getElem? hn
    have hil : i < ns.length := (List.getElem?_eq_some_iff.mp hn).1
    refine wg_tup rfl (wgs_cons (wg_name (wgs_cons (wg_name (wgs_nil ?_)))))
    refine ws_seq (ws_set ev_int ?_)
    rw [i1]
    refine ws_seq (ws_forL (js := [8]) (fun j ρ' => ∃ (b : Rk k) (x8 : Option (Bool × D)), ρ' = [some (false, .str (kd k)), some (false, iD P'), some (false, clD ps c), some (false, nmD ns), some (true, natsD ((basesF P' c [] ns).take i)), some (false, .int (i : Int)), some (false, .str n), some (false, iD b), x8] ∧ b = byOf c ((ns.take i).take j) n)
      (ev_is (en_slL (ev_var rfl) eo_none (eo_some (ev_var rfl))).ev (congrArg D.lst (cut_take (ns.map D.str) i (by rw [List.length_map]; omega)))) ⟨1, x8, rfl, rfl⟩ ?_ ?_)
    · rintro j d ρ' hd ⟨b, x8, rfl, hb⟩
      rw [← List.map_take, List.getElem?_map, Option.map_eq_some_iff] at hd
      obtain ⟨m, hm, rfl⟩ := hd
      have hmt := List.mem_of_getElem? hm
      have hmn : m ∈ ns := List.mem_of_mem_take hmt
      have ne : m ≠ n := by
        obtain ⟨q, hq, e⟩ := List.mem_iff_getElem.mp hmt
        rw [List.length_take] at hq
        rw [List.getElem_take] at e
        obtain ⟨_, en⟩ := List.getElem?_eq_some_iff.mp hn
        intro z
        have := (List.getElem_inj nd (h₀ := by omega) (h₁ := hil)).mp (e.trans (z.trans en.symm))
        omega
      have pb : Ps b := by rw [hb]; exact byOf_ps ok.ok _ _
      have db : Dv b P' := by rw [hb]; exact byOf_dv ok.ok _ _
      have sb : Szr 1000 b := sz_dv db ok.pP pb.cnt ok.sz
      refine wg_name (ws_set (ev_call (ea_cons (ev_var rfl) (ea_cons (ev_var rfl) (ea_cons (ev_op (ev_dgetT (ks := kT (m, n)) (ev_var rfl) (ev_tup (ea_cons (ev_var rfl) (ea_cons (ev_var rfl) ea_nil)) (szb rfl)) (dV_cl c (hps m hmn n hnm ne))) ev_int (op_ixT rfl)) ea_nil))) ⟨k, b, (c (m, n)).2, rfl, rfl, pb, ok.ok.ps _, sb.mono (by omega), (ok.by _).mono (by omega)⟩) ⟨_, some (false, .str m), rfl, ?_⟩)
      rw [List.take_add_one, hm, hb]
      unfold byOf
      rw [List.foldl_append]
      rfl
    · rintro ρ' ⟨b, x8, rfl, hb⟩
      rw [List.length_take, List.length_map, Nat.min_eq_left (by omega)] at hb
      rw [List.take_of_length_le (by rw [List.length_take]; omega)] at hb
      have pb : Ps b := by rw [hb]; exact byOf_ps ok.ok _ _
      have db : Dv b P' := by rw [hb]; exact byOf_dv ok.ok _ _
      refine ws_app (i := 4) rfl (ev_call (ea_cons (ev_var rfl) (ea_cons (ev_var rfl) (ea_cons (ev_var rfl) ea_nil))) ⟨k, P', b, rfl, rfl, ok.pP, pb, db, ok.sz.mono (by omega)⟩) ?_ ⟨some (false, .int (i : Int)), some (false, .str n), some (false, iD b), x8, ?_⟩
      · refine len_szl ?_
        rw [List.length_map]
        have : ((basesF P' c [] ns).take i).length ≤ (basesF P' c [] ns).length := List.length_take_le' _ _
        rw [basesF_len] at this
        omega
      · rw [basesF_take hn, List.nil_append, ← hb]
        unfold natsD
        rw [List.map_append]
        rfl
  · rintro ρ' ⟨x5, x6, x7, x8, rfl⟩
    rw [List.length_map, List.take_of_length_le (by rw [basesF_len]; exact Nat.le_refl _)]
    exact ws_freeze0 (i := 4) rfl (ws_ret (ev_var rfl) rfl)

def f_product_of : List D → D → Prop := fun ds d => ∃ l : List Nat, ds = [natsD l] ∧ d = .int (prodN l : Nat) ∧ (∀ a ∈ l, a < 2 ^ 1000) ∧ l.length ≤ 100
theorem s_product_of : FnScope [("counts" : Str), ("found" : Str), ("count" : Str)] ["counts"] (defScope (Hd.top 59)) := ⟨rfl, rfl, rfl, by decide +kernel, rfl, by decide +kernel, by decide +kernel⟩
theorem c_product_of (T : Tx K mg) (k : Nat) : Cal P w K mg base (k + 1) "product_of" (spD K f_product_of) := by
  have sc := s_product_of
  refine cal_of (k := k + 0) T 41 41 rfl rfl s_product_of (fun _ _ _ _ _ _ us hl => match us, hl with | [_], _ => rfl) (fun vs H Q E h => spD_len h (n := 1) (by rintro _ _ ⟨l, rfl, rfl, hl, hn⟩; rfl)) fun cdv A outer s H vs Q E hr h => ⟨_, PSs.nox (pss_cons (ps_set (i := 1) sc.nd rfl (Or.inl rfl) pe_int) (pss_cons (ps_for PassesOwn.never rfl (pi_list (pv 0)) (pg_name (i := 2) sc.nd rfl (Or.inl rfl)) (pss_one (ps_set (i := 1) sc.nd rfl (Or.inl rfl) (pe_op op_mulX (pv 1) (pv 2))))) (pss_one (ps_ret (pv 1))))), spD_run h ?_⟩
  clear h
  rintro ds d ⟨l, rfl, rfl, hl, hn⟩
  show WS K none _ [some (false, _), none, none] _ _
  refine ws_seq (ws_set ev_int ?_)
  refine ws_seq (ws_forL (js := [2]) (fun i ρ' => ∃ (x2 : Option (Bool × D)), ρ' = [some (false, natsD l), some (false, .int (prodN (l.take i) : Nat)), x2]) (ev_var rfl) ⟨none, rfl⟩ ?_ ?_)
  · rintro i d ρ' hd ⟨x2, rfl⟩
    rw [List.getElem?_map, Option.map_eq_some_iff] at hd
    obtain ⟨a, ha, rfl⟩ := hd
    have ham := List.mem_of_getElem? ha
    have hs : Sz (1000 * 100 + 1) ((prodN (l.take i) : Nat) : Int) := by
      refine sz_nat.mpr (Nat.lt_of_lt_of_le (prodN_sz (n := 1000) fun b hb => hl b (List.mem_of_mem_take hb)) (Nat.pow_le_pow_right (by decide) ?_))
      have : (l.take i).length ≤ l.length := List.length_take_le' _ _
      omega
    refine wg_name (ws_set (ev_op (ev_var rfl) (ev_var rfl) (op_iC (mulx_ok hs (sz_nat.mpr (hl a ham)) (by decide)))) ⟨some (false, .int (a : Int)), ?_⟩)
    have e : l.take (i + 1) = l.take i ++ [a] := by rw [List.take_add_one, ha]; rfl
    rw [e, prodN_snoc, Int.natCast_mul]
    rfl
  · rintro ρ' ⟨x2, rfl⟩
    rw [List.length_map, List.take_length]
    exact ws_ret (ev_var rfl) rfl

/-- the closing of a book's lines by a period -/
def clo {k : Kd} (P : Rk k) (ls : List (Ln Str (Rk k))) : Option (Cs Str (Rk k)) := closedF (byRests P ls) (nsOf ls)
def f_closed_rows : List D → D → Prop := fun ds d => ∃ (k : Kd) (P : Rk k) (ls : List (Ln Str (Rk k))), ds = [bkD ls, iD P] ∧ d = coD (pairs (nsOf ls)) (clo P ls) ∧ BkP P ls
theorem BkP.bkR {k : Kd} {P : Rk k} {ls : List (Ln Str (Rk k))} (b : BkP P ls) : Bk (byRests P ls) := ⟨fun l' hl' => by
  unfold byRests at hl'
  obtain ⟨l, hl, e⟩ := List.mem_map.mp hl'
  have l0 := b.bk.l0 l hl
  by_cases h : 0 < io l.2.2.2
  · rw [if_pos h] at e; rw [← e]; exact l0
  · rw [if_neg h] at e; rw [← e]; exact ⟨l0.n1, l0.n2, l0.ne, b.pP.cnt, .inr (rst_red b.pP)⟩, by rw [byRests_len]; exact b.bk.ln⟩
theorem s_closed_rows : FnScope [("book" : Str), ("period" : Str), ("lines" : Str)] ["book", "period"] (defScope (Hd.top 60)) := ⟨rfl, rfl, rfl, by decide +kernel, rfl, by decide +kernel, by decide +kernel⟩
theorem c_closed_rows (T : Tx K mg) (k : Nat) : Cal P w K mg base (k + 9) "closed_rows" (spD K f_closed_rows) := by
  have c_by_rests := c_by_rests (P := P) (w := w) (base := base) T k
  have c_closed_in := c_closed_in (P := P) (w := w) (base := base) T k
  have c_names_in_lines := c_names_in_lines (P := P) (w := w) (base := base) T k
  have sc := s_closed_rows
  refine cal_of (k := k + 8) T 42 42 rfl rfl s_closed_rows (fun _ _ _ _ _ _ us hl => match us, hl with | [_, _], _ => rfl) (fun vs H Q E h => spD_len h (n := 2) (by rintro _ _ ⟨k, P', ls, rfl, rfl, b⟩; rfl)) fun cdv A outer s H vs Q E hr h => ⟨_, PSs.nox (pss_cons (ps_set (i := 2) sc.nd rfl (Or.inl rfl) (pe_c c_by_rests hr (by omega) (by rfl) (pa_cons (pv 0) (pa_cons (pv 1) pa_nil)))) (pss_one (ps_ret (pe_c c_closed_in hr (by omega) (by rfl) (pa_cons (pe_ix ix_tup (pv 0) pe_int (fun _ _ => rfl)) (pa_cons (pv 2) (pa_cons (pe_c c_names_in_lines hr (by omega) (by rfl) (pa_cons (pv 2) pa_nil)) pa_nil))))))), spD_run h ?_⟩
  clear h
  rintro ds d ⟨k, P', ls, rfl, rfl, b⟩
  show WS K none _ [some (false, _), some (false, _), none] _ _
  refine ws_seq (ws_set (ev_call (ea_cons (ev_var rfl) (ea_cons (ev_var rfl) ea_nil)) ⟨k, P', ls, rfl, rfl, b⟩) ?_)
  refine ws_ret (ev_call (ea_cons (ev_op (ev_var rfl) ev_int (op_ixT rfl)) (ea_cons (ev_var rfl) (ea_cons (ev_is (ev_call (ea_cons (ev_var rfl) ea_nil) ⟨k, byRests P' ls, rfl, rfl, b.bkR⟩) (show _ = nmD (nsOf ls) from ?_)) ea_nil))) ⟨k, P', byRests P' ls, nsOf ls, rfl, rfl, b.good⟩) rfl
  rw [byRests_ns]

def manyF {k : Kd} (P : Rk k) (ls : List (Ln Str (Rk k))) : Nat := match clo P ls with
  | none => 0
  | some c => prodN (basesF P c [] (nsOf ls))
theorem BkP.cl {k : Kd} {P : Rk k} {ls : List (Ln Str (Rk k))} {c : Cs Str (Rk k)} (b : BkP P ls) (h : clo P ls = some c) : Closed P (byRests P ls) (nsOf ls) c := closed_some b.good.nd b.good.gl h
theorem BkP.ok {k : Kd} {P : Rk k} {ls : List (Ln Str (Rk k))} {c : Cs Str (Rk k)} (b : BkP P ls) (h : clo P ls = some c) : Ok' P c := ⟨(b.cl h).ok, b.pP, b.sP.mono (by omega)⟩
theorem nsOf_pairs {k : Kd} (ls : List (Ln Str (Rk k))) : ∀ a ∈ nsOf ls, ∀ b ∈ nsOf ls, a ≠ b → (a, b) ∈ pairs (nsOf ls) := fun a ha b hb ne => mem_pairs.mpr ⟨ha, hb, ne⟩
theorem nsOf_len {k : Kd} (ls : List (Ln Str (Rk k))) : (nsOf ls).length ≤ 10 := namesOf_len _
theorem nsOf_nd {k : Kd} (ls : List (Ln Str (Rk k))) : (nsOf ls).Nodup := namesOf_nodup _
def f_many_rows : List D → D → Prop := fun ds d => ∃ (k : Kd) (P : Rk k) (ls : List (Ln Str (Rk k))), ds = [bkD ls, iD P] ∧ d = .int (manyF P ls : Nat) ∧ BkP P ls
theorem s_many_rows : FnScope [("book" : Str), ("period" : Str), ("closed" : Str)] ["book", "period"] (defScope (Hd.top 61)) := ⟨rfl, rfl, rfl, by decide +kernel, rfl, by decide +kernel, by decide +kernel⟩
theorem c_many_rows (T : Tx K mg) (k : Nat) : Cal P w K mg base (k + 10) "many_rows" (spD K f_many_rows) := by
  have c_closed_rows := c_closed_rows (P := P) (w := w) (base := base) T k
  have c_product_of := c_product_of (P := P) (w := w) (base := base) T k
  have c_bases_in := c_bases_in (P := P) (w := w) (base := base) T k
  have c_names_in_lines := c_names_in_lines (P := P) (w := w) (base := base) T k
  have sc := s_many_rows
  refine cal_of (k := k + 9) T 43 43 rfl rfl s_many_rows (fun _ _ _ _ _ _ us hl => match us, hl with | [_, _], _ => rfl) (fun vs H Q E h => spD_len h (n := 2) (by rintro _ _ ⟨k, P', ls, rfl, rfl, b⟩; rfl)) fun cdv A outer s H vs Q E hr h => ⟨_, PSs.nox (pss_cons (ps_set (i := 2) sc.nd rfl (Or.inl rfl) (pe_c c_closed_rows hr (by omega) (by rfl) (pa_cons (pv 0) (pa_cons (pv 1) pa_nil)))) (pss_one (ps_ret (pe_ifExp (pt_cmpR (op_isN) (pv 2) pe_non (nomark _)) pe_int (pe_c c_product_of hr (by omega) (by rfl) (pa_cons (pe_c c_bases_in hr (by omega) (by rfl) (pa_cons (pe_ix ix_tup (pv 0) pe_int (fun _ _ => rfl)) (pa_cons (pv 1) (pa_cons (pv 2) (pa_cons (pe_c c_names_in_lines hr (by omega) (by rfl) (pa_cons (pe_ix ix_tup (pv 0) pe_int (fun _ _ => rfl)) pa_nil)) pa_nil))))) pa_nil)))))), spD_run h ?_⟩
  clear h
  rintro ds d ⟨k, P', ls, rfl, rfl, b⟩
  show WS K none _ [some (false, _), some (false, _), none] _ _
  have hl := nsOf_len ls
  refine ws_seq (ws_set (ev_call (ea_cons (ev_var rfl) (ea_cons (ev_var rfl) ea_nil)) ⟨k, P', ls, rfl, rfl, b⟩) ?_)
  refine ws_ret (ev_if (et_test (ev_op (ev_var rfl) ev_non (op_isNd _))) (fun h => ?_) fun h => ?_) rfl
  · unfold manyF
    cases e : clo P' ls with
    | none => exact ev_int
    | some c => rw [e] at h; cases h
  · unfold manyF
    cases e : clo P' ls with
    | none => rw [e] at h; cases h
    | some c =>
      have ok := b.ok e
      refine ev_call (ea_cons (ev_call (ea_cons (ev_op (ev_var rfl) ev_int (op_ixT rfl)) (ea_cons (ev_var rfl) (ea_cons (ev_var rfl) (ea_cons (ev_call (ea_cons (ev_op (ev_var rfl) ev_int (op_ixT rfl)) ea_nil) ⟨k, ls, rfl, rfl, b.bk⟩) ea_nil)))) ⟨k, P', c, pairs (nsOf ls), nsOf ls, rfl, rfl, ok, by omega, nsOf_nd ls, nsOf_pairs ls⟩) ea_nil) ⟨_, rfl, rfl, basesF_sz ok.ok b.pP (b.sP.mono (by omega)), by rw [basesF_len]; omega⟩

def f_how_many_rows : List D → D → Prop := fun ds d => ∃ (k : Kd) (P : Rk k) (ls : List (Ln Str (Rk k))), ds = [bkD ls, iD P] ∧ d = .int (manyF P ls : Nat) ∧ BkP P ls
theorem s_how_many_rows : FnScope [("book" : Str), ("period" : Str)] ["book", "period"] (defScope (Hd.top 62)) := ⟨rfl, rfl, rfl, by decide +kernel, rfl, by decide +kernel, by decide +kernel⟩
theorem c_how_many_rows (T : Tx K mg) (k : Nat) : Cal P w K mg base (k + 11) "how_many_rows" (spD K f_how_many_rows) := by
  have c_check_period := c_check_period (P := P) (w := w) (base := base) T k
  have c_many_rows := c_many_rows (P := P) (w := w) (base := base) T k
  have sc := s_how_many_rows
  refine cal_of (k := k + 10) T 44 44 rfl rfl s_how_many_rows (fun _ _ _ _ _ _ us hl => match us, hl with | [_, _], _ => rfl) (fun vs H Q E h => spD_len h (n := 2) (by rintro _ _ ⟨k, P', ls, rfl, rfl, b⟩; rfl)) fun cdv A outer s H vs Q E hr h => ⟨_, PSs.nox (pss_cons (ps_expr (pe_c c_check_period hr (by omega) (by rfl) (pa_cons (pv 0) (pa_cons (pv 1) pa_nil)))) (pss_one (ps_ret (pe_c c_many_rows hr (by omega) (by rfl) (pa_cons (pv 0) (pa_cons (pv 1) pa_nil)))))), spD_run h ?_⟩
  clear h
  rintro ds d ⟨k, P', ls, rfl, rfl, b⟩
  show WS K none _ [some (false, _), some (false, _)] _ _
  refine ws_seq (ws_drop (ev_call (ea_cons (ev_var rfl) (ea_cons (ev_var rfl) ea_nil)) ⟨k, P', ls, rfl, rfl, b⟩) ?_)
  exact ws_ret (ev_call (ea_cons (ev_var rfl) (ea_cons (ev_var rfl) ea_nil)) ⟨k, P', ls, rfl, rfl, b⟩) rfl

end
end J

/-! ## RuD -/
/-! A new object within a tuple that is unpacked at once; dicts of pairs. -/
namespace J
open PySem PySem.Spec PyProof.Rows L2
open Evl (Ex ex_rd ex_l ex_t)
section
variable {K : PySem.W.Frag} {an : An} {ρ : Env} {te ta tn tc : TE} {d : D} {N : Env → Prop} {R : Env → D → Prop}
theorem ws_tup3N {i j k : Nat} (hij : i ≠ j) (hjk : j ≠ k) (hd : d = .lst [] ∨ d = .dK [] ∨ d = .dT []) (hn : Lays tn d) (h : WE K an ta ρ fun ρ1 x => WE K an tc ρ1 fun ρ2 z => N (((ρ2.set i (some (false, x))).set j (some (true, d))).set k (some (false, z)))) (hf : Free an [i, j, k] := by first | exact free_none | exact free_j (by decide)) :
    WS K an (tAsg (tTup (tCons ta (tCons tn (tCons tc tNil)))) (gTup K 3 (gCons (gName i) (gCons (gName j) (gCons (gName k) gNil))))) ρ N R := fun Hs0 H0 σ Hs H r Dn n q =>
  h Hs0 H0 σ Hs H r _ fun ρ1 x v Hs1 H1 w r1 wd rv => hn σ H1 _ fun p hp => by
    have nM := nMu_of r1.toRl hp
    refine w Hs0 H0 σ Hs1 _ (r1.laid hp) _ fun ρ2 z u Hs2 H2 w2 r2 wd2 ru => ?_
    refine ⟨show 3 ≤ sizeLine from szl3, fun T hT => ?_⟩
    have gT : Go N0 Hs2 H2 Hs2 (upd H2 T (.tup [v, .ref p, u])) := .newM r2.ex hT
    refine ⟨T, _, rfl, .inl (.inl upd_same), rfl, v, _, rfl, .ref p, _, rfl, u, _, rfl, rfl, ?_⟩
    have nM2 : ¬ Mu σ ρ2 p := fun ⟨l, e, h1, h2⟩ => by
      obtain ⟨e', h3⟩ := wd2.kp l e h1
      exact nM ⟨l, e', h3, h2⟩
    have mt : Mt K Hs2 H2 (.ref p) d := Mt.far (mt_new r1.ex hp hd) wd2.go fun a ea => by cases ea; exact nM
    have r3 := (r2.stay gT).set (i := i) (rv.mono wd2.go.s) fun a e => hf i (by simp) a e
    have r4 := r3.setM (i := j) (mt.stay gT) (go_free r1.go hp) (fun k' e h1 h2 => by
      rcases set_get h1 with ⟨_, z⟩ | ⟨nk, h1⟩
      · cases z
      rw [List.getElem?_set_ne (Ne.symm nk)] at h2
      exact nM2 ⟨k', e, h1, h2⟩) fun a e => hf j (by simp) a e
    exact n _ _ Hs2 _ w2 (r4.set ru fun a e => hf k (by simp) a e) (wd.go.s.trans wd2.go.s)
where szl3 : 3 ≤ sizeLine := by rw [sizeLine_eq]; decide
/-! dict(pairs), text keys, each once -/
theorem refs_ofK {Hs : Hp} : ∀ {vs : List V} {l : List (Str × D)}, RpL K Hs vs (l.map fun p => .tup [.str p.1, p.2]) →
    ∃ (ps : List Addr) (kvs : List (Key × V)), vs = ps.map V.ref ∧ Paired (fun p (kv : Key × V) => Hs p = some (.tup [kV kv.1, kv.2])) ps kvs ∧ kvs.map (·.1) = l.map (fun p => (.inr p.1 : Key)) ∧ RpL K Hs (kvs.map (·.2)) (l.map (·.2))
  | _, [], h => by
    have h' : RpL K Hs _ [] := h
    cases h'
    exact ⟨[], [], rfl, .nil, rfl, .nil⟩
  | _, p :: l, h => by
    have h' : RpL K Hs _ (.tup [.str p.1, p.2] :: l.map fun p => .tup [.str p.1, p.2]) := h
    cases h' with
    | cons h1 h2 =>
      obtain ⟨ps, kvs, e, hp, hk, hr⟩ := refs_ofK h2
      obtain ⟨b, xs, rfl, hb, rb⟩ := h1.tup_inv
      cases rb with
      | cons r1 rb =>
        cases rb with
        | cons r2 rb =>
          cases rb
          cases r1
          exact ⟨b :: ps, (.inr p.1, _) :: kvs, by rw [e]; rfl, .cons hb hp, by rw [List.map_cons, List.map_cons, hk], .cons r2 hr⟩
theorem mergeK_fresh : ∀ (more acc : List (Key × V)), ((acc ++ more).map (·.1)).Nodup → mergeK acc more = acc ++ more
  | [], acc, _ => by simp [mergeK]
  | p :: more, acc, nd => by
    have e : mergeK acc (p :: more) = mergeK (putK acc p.1 p.2) more := rfl
    have nin : p.1 ∉ acc.map (·.1) := by
      rw [List.map_append, List.map_cons, List.nodup_append] at nd
      intro z
      exact nd.2.2 _ z _ (List.mem_cons_self ..) rfl
    have ep : putK acc p.1 p.2 = acc ++ [p] := by
      unfold putK
      have : (acc.any fun kv => decide (kv.1 = p.1)) = false := by
        rw [List.any_eq_false]
        intro q hq
        simp only [decide_eq_true_eq]
        intro z
        exact nin (z ▸ List.mem_map_of_mem hq)
      rw [this]
      rfl
    rw [e, ep, mergeK_fresh more (acc ++ [p]) (by rw [List.append_assoc]; exact nd), List.append_assoc]
    rfl
theorem ocn_dictP {l : List (Str × D)} (nd : (l.map (·.1)).Nodup) : OpCN K (fun xs H Q => ∃ (a : Addr) (ps : List Addr) (kvs : List (Key × V)), xs = [.ref a] ∧ SqL K H a (ps.map V.ref) ∧ Paired (fun p kv => SqT K H p [kV kv.1, kv.2]) ps kvs ∧
    ∀ p, H p = none → Q (.ref p) (upd H p (.dK (mergeK [] kvs)))) [.lst (l.map fun p => .tup [.str p.1, p.2])] (.dK (l.map fun p => (.inr p.1, p.2))) := fun Hs H vs Q e rs q => by
  cases rs with
  | cons h1 h2 =>
    cases h2
    obtain ⟨a, xs, rfl, ha, r⟩ := h1.lst_inv
    obtain ⟨ps, kvs, rfl, hp, hk, hr⟩ := refs_ofK r
    refine ⟨a, ps, kvs, rfl, SqL.of (e _ _ ha), Paired.mapP hp fun p kt z => SqT.of (e _ _ z), fun p hp' => ?_⟩
    have ndk : (kvs.map (·.1)).Nodup := by
      rw [hk]
      have e2 : l.map (fun p => (.inr p.1 : Key)) = (l.map (·.1)).map fun s => (.inr s : Key) := by rw [List.map_map]; rfl
      rw [e2]
      exact List.pairwise_map.mpr (nd.imp fun ne z => ne (by cases z; rfl))
    rw [mergeK_fresh kvs [] (by simpa using ndk), List.nil_append]
    refine q p Hs _ (.newM e hp') hp' (.dK (ex_free e hp') upd_same ?_ ?_)
    · rw [List.map_map]
      exact hk
    · rw [List.map_map]
      exact hr
end
end J

/-! ## ZipS -/
/-! zip(xs, ys, strict=True) of two lists of one length, as the argument of dict. -/
namespace J
open PySem PySem.Spec PyProof.Rows L2
abbrev IsZipS (h : Heap) (z TI TO : Addr) (f0 : Value) : Prop :=
  h.get? z = some { cls := .type "zip", dict := none, data := .fields #[f0, .bool false, .bool true, .ref TI, .ref TO], slots := #[] }
abbrev IsZipSHeld (h : Heap) (z TI TO T : Addr) (f : Bool) : Prop :=
  h.get? z = some { cls := .type "zip", dict := none, data := .fields #[rawInt T, .bool f, .bool true, .ref TI, .ref TO], slots := #[] }
section
variable {prog : Program} {w : World} {A : Around} {E : Value → Shared → Prop} {s : Shared}
theorem draw_item {it l : Addr} {i : Nat} {items : Array Value} {x : Value} {Q : Option Value → Shared → Prop} (hit : s.heap.IsListIter it l i) (hl : s.heap.IsList l items) (hx : items[i]? = some x)
    (hQ : ∀ h', h'.IsListIter it l (i + 1) → Heap.SameBut it s.heap h' → Q (some x) { s with heap := h' }) : wpAny (model prog w) A (Builtin.SmallTypes.nextOrEnd (.ref it)) Q E s := by
  unfold Builtin.SmallTypes.nextOrEnd
  exact wpAny_bind (wpAny_attempt (wpAny_nextOf_list_item hit hl hx fun h' a b => wpAny_pure (hQ h' a b)))
theorem draw_end {it l : Addr} {i : Nat} {items : Array Value} {Q : Option Value → Shared → Prop} (hh : A.handled = none) (hit : s.heap.IsListIter it l i) (hl : s.heap.IsList l items) (hx : items[i]? = none)
    (hQ : ∀ h', Heap.ExtBut it s.heap h' → Q none { s with heap := h' }) : wpAny (model prog w) A (Builtin.SmallTypes.nextOrEnd (.ref it)) Q E s := by
  unfold Builtin.SmallTypes.nextOrEnd
  refine wpAny_bind (wpAny_attempt (wpAny_nextOf_list_end hh hit hl hx fun h' e hk he => ?_))
  obtain ⟨o, ho, hc⟩ := he
  exact wpAny_bind (wpAny_isInstance (T := "StopIteration") (b := true) ⟨o, ho, hc⟩ isSubtype_stop (wpAny_pure (hQ h' hk)))
theorem stop_new {Q : PySem.Fin → Shared → Prop} (hh : A.handled = none) (hE : ∀ h' e, (∀ b o, s.heap.get? b = some o → h'.get? b = some o) → (∃ o, h'.get? e = some o ∧ o.cls = .type "StopIteration") → E (.ref e) { s with heap := h' }) :
    wpAny (model prog w) A (Builtin.SmallTypes.stopIteration : Sem PySem.Fin) Q E s := by
  unfold Builtin.SmallTypes.stopIteration
  refine wpAny_bind ?_
  simp only [newExc, newTuple]
  refine wpAny_bind (wpAny_newObj_type ?_ (by size_fits))
  refine wpAny_bind (m := firstArgMember _ _) (wpAny_of_eq (a := Value.none) (by first | rfl | (simp only [firstArgMember]; rfl)) ?_)
  refine wpAny_newObj_type ?_ (by size_fits)
  simp only [raiseNew]
  refine wpAny_bind (wpAny_handled ?_)
  rw [hh]
  refine wpAny_bind (wpAny_pure (wpAny_throw ?_))
  exact hE _ _ (fun b o e => Heap.get?_push_of_some _ (Heap.get?_push_of_some _ e)) ⟨_, Heap.get?_push_size _ rfl, rfl⟩
theorem zipS_item {z TI TO i1 i2 l1 l2 : Addr} {k1 k2 : Nat} {xs ys : Array Value} {x y a b : Value} {Q : Value → Shared → Prop} (D : ZipApart z TI TO i1 i2 l1 l2)
    (hz : IsZipS s.heap z TI TO .none) (hTI : IsPair s.heap TI (.ref i1) (.ref i2)) (hTO : IsPair s.heap TO a b)
    (h1 : s.heap.IsListIter i1 l1 k1) (h2 : s.heap.IsListIter i2 l2 k2) (hl1 : s.heap.IsList l1 xs) (hl2 : s.heap.IsList l2 ys) (hx : xs[k1]? = some x) (hy : ys[k2]? = some y)
    (hQ : ∀ h', IsZipS h' z TI TO (rawInt s.heap.objs.size) → h'.IsListIter i1 l1 (k1 + 1) → h'.IsListIter i2 l2 (k2 + 1) → IsPair h' s.heap.objs.size x y → h'.objs.size = s.heap.objs.size + 1 →
      (∀ c o, c ≠ z → c ≠ TO → c ≠ i1 → c ≠ i2 → s.heap.get? c = some o → h'.get? c = some o) → Q (.ref s.heap.objs.size) { s with heap := h' }) :
    wpAny (model prog w) A (Builtin.«zip.__next__» ⟨[.ref z], []⟩) (fun fin s' => ∃ v, fin = .done (.ret v) ∧ Q v s') E s := by
  show wpAny _ _ (field (.ref z) 2 >>= _) _ _ _
  refine wpAny_bind (wpAny_field hz rfl (x := .bool true) rfl ?_)
  show wpAny _ _ (field (.ref z) 3 >>= _) _ _ _
  refine wpAny_bind (wpAny_field hz rfl (x := .ref TI) rfl ?_)
  refine wpAny_bind (wpAny_seqItems hTI rfl ?_)
  show wpAny _ _ (Builtin.SmallTypes.ownedTupleIsFree (.ref z) >>= _) _ _ _
  refine wpAny_bind ?_
  unfold Builtin.SmallTypes.ownedTupleIsFree
  refine wpAny_bind (wpAny_field hz rfl (x := .none) rfl (wpAny_pure ?_))
  simp only [if_true]
  refine wpAny_bind (wpAny_rule ?_)
  refine wpAny_bind (wpAny_field hz rfl (x := .ref TO) rfl ?_)
  refine wpAny_bind (wpAny_setField_rec hz (by simp) fun h₁ hz₁ hs₁ => ?_)
  replace hz₁ : IsZipS h₁ z TI TO .ellipsis := hz₁
  refine wpAny_bind ?_
  simp only [List.zipIdx_cons, List.zipIdx_nil, List.forIn_cons, List.forIn_nil]
  refine wpAny_bind (wpAny_bind (wpAny_onRaise ?_))
  show wpAny _ _ (Builtin.SmallTypes.nextOrEnd (.ref i1)) _ _ _
  refine draw_item (s := { s with heap := h₁ }) (h1.extBut hs₁.extBut D.i1z) (hl1.extBut hs₁.extBut D.l1z) hx fun h₂ h1₂ hs₂ => ?_
  have hTO₂ : IsPair h₂ TO a b := hs₂.extBut _ _ D.TOi1 (hs₁.extBut _ _ D.TOz hTO)
  refine wpAny_bind (wpAny_seqItems hTO₂ rfl ?_)
  refine wpAny_bind (wpAny_updateSeq_pair (s := { s with heap := h₂ }) hTO₂ fun h₃ hTO₃ hs₃ => ?_)
  replace hTO₃ : IsPair h₃ TO x b := hTO₃
  refine wpAny_bind (wpAny_letGo (wpAny_pure ?_))
  refine wpAny_bind (wpAny_bind (wpAny_onRaise ?_))
  show wpAny _ _ (Builtin.SmallTypes.nextOrEnd (.ref i2)) _ _ _
  refine draw_item (s := { s with heap := h₃ }) (((h2.extBut hs₁.extBut D.i2z).extBut hs₂.extBut D.i12.symm).extBut hs₃.extBut D.TOi2.symm)
    (((hl2.extBut hs₁.extBut D.l2z).extBut hs₂.extBut D.l2i1).extBut hs₃.extBut D.l2TO) hy fun h₄ h2₄ hs₄ => ?_
  have hTO₄ : IsPair h₄ TO x b := hs₄.extBut _ _ D.TOi2 hTO₃
  refine wpAny_bind (wpAny_seqItems hTO₄ rfl ?_)
  refine wpAny_bind (wpAny_updateSeq_pair (s := { s with heap := h₄ }) hTO₄ fun h₅ hTO₅ hs₅ => ?_)
  replace hTO₅ : IsPair h₅ TO x y := hTO₅
  refine wpAny_bind (wpAny_letGo (wpAny_pure (wpAny_pure ?_)))
  refine wpAny_bind (wpAny_seqItems hTO₅ rfl ?_)
  refine wpAny_bind (wpAny_newTuple ?_)
  have hsz : h₅.objs.size = s.heap.objs.size := by rw [hs₅.1, hs₄.1, hs₃.1, hs₂.1, hs₁.1]
  have hz₅ : IsZipS h₅ z TI TO .ellipsis := hs₅.extBut _ _ D.TOz.symm (hs₄.extBut _ _ D.i2z.symm (hs₃.extBut _ _ D.TOz.symm (hs₂.extBut _ _ D.i1z.symm hz₁)))
  have hk₅ : ∀ c o, c ≠ z → c ≠ TO → c ≠ i1 → c ≠ i2 → s.heap.get? c = some o → h₅.get? c = some o := fun c o c1 c2 c3 c4 e =>
    hs₅.extBut _ _ c2 (hs₄.extBut _ _ c4 (hs₃.extBut _ _ c2 (hs₂.extBut _ _ c3 (hs₁.extBut _ _ c1 e))))
  have h1₅ : h₅.IsListIter i1 l1 (k1 + 1) := ((h1₂.extBut hs₃.extBut D.TOi1.symm).extBut hs₄.extBut D.i12).extBut hs₅.extBut D.TOi1.symm
  have h2₅ : h₅.IsListIter i2 l2 (k2 + 1) := h2₄.extBut hs₅.extBut D.TOi2.symm
  have hzlt : z < h₅.objs.size := Heap.lt_size hz₅
  show wpAny _ _ (Builtin.SmallTypes.ownedTupleHandOut (.ref z) (.ref h₅.objs.size) >>= _) _ _ _
  refine wpAny_bind ?_
  unfold Builtin.SmallTypes.ownedTupleHandOut
  have hz₆ : IsZipS (h₅.push { cls := .type "tuple", data := .seq #[x, y] }) z TI TO .ellipsis := Heap.get?_push_of_some _ hz₅
  refine wpAny_bind (wpAny_setField_rec hz₆ (by simp) fun h₇ hz₇ hs₇ => ?_)
  replace hz₇ : IsZipS h₇ z TI TO (rawInt h₅.objs.size) := hz₇
  refine wpAny_setField_rec hz₇ (by simp) fun h₈ hz₈ hs₈ => ?_
  replace hz₈ : IsZipS h₈ z TI TO (rawInt h₅.objs.size) := hz₈
  have up : ∀ c o, c ≠ z → h₅.get? c = some o → h₈.get? c = some o := fun c o c1 e => hs₈.extBut _ _ c1 (hs₇.extBut _ _ c1 (Heap.get?_push_of_some _ e))
  have hT₈ : IsPair h₈ h₅.objs.size x y := hs₈.extBut _ _ (Nat.ne_of_gt hzlt) (hs₇.extBut _ _ (Nat.ne_of_gt hzlt) (Heap.get?_push_size _ rfl))
  have hz8 : h₈.objs.size = h₅.objs.size + 1 := by rw [hs₈.1, hs₇.1, Heap.size_push]
  rw [hsz] at hz₈ hT₈ hz8
  refine wpAny_pure ⟨_, rfl, ?_⟩
  show Q (.ref h₅.objs.size) _
  rw [hsz]
  exact hQ h₈ hz₈ (h1₅.at fun o e => up _ o D.i1z e) (h2₅.at fun o e => up _ o D.i2z e) hT₈ hz8 fun c o c1 c2 c3 c4 e => up c o c1 (hk₅ c o c1 c2 c3 c4 e)
theorem zipS_end {z TI TO i1 i2 l1 l2 : Addr} {k1 k2 : Nat} {xs ys : Array Value} {a b : Value} {Q : PySem.Fin → Shared → Prop} (hh : A.handled = none) (D : ZipApart z TI TO i1 i2 l1 l2)
    (hz : IsZipS s.heap z TI TO .none) (hTI : IsPair s.heap TI (.ref i1) (.ref i2)) (hTO : IsPair s.heap TO a b)
    (h1 : s.heap.IsListIter i1 l1 k1) (h2 : s.heap.IsListIter i2 l2 k2) (hl1 : s.heap.IsList l1 xs) (hl2 : s.heap.IsList l2 ys) (hx : xs[k1]? = none) (hy : ys[k2]? = none)
    (hE : ∀ h' e, (∀ c o, c ≠ z → c ≠ TO → c ≠ i1 → c ≠ i2 → s.heap.get? c = some o → h'.get? c = some o) → (∃ o, h'.get? e = some o ∧ o.cls = .type "StopIteration") → E (.ref e) { s with heap := h' }) :
    wpAny (model prog w) A (Builtin.«zip.__next__» ⟨[.ref z], []⟩) Q E s := by
  show wpAny _ _ (field (.ref z) 2 >>= _) _ _ _
  refine wpAny_bind (wpAny_field hz rfl (x := .bool true) rfl ?_)
  show wpAny _ _ (field (.ref z) 3 >>= _) _ _ _
  refine wpAny_bind (wpAny_field hz rfl (x := .ref TI) rfl ?_)
  refine wpAny_bind (wpAny_seqItems hTI rfl ?_)
  show wpAny _ _ (Builtin.SmallTypes.ownedTupleIsFree (.ref z) >>= _) _ _ _
  refine wpAny_bind ?_
  unfold Builtin.SmallTypes.ownedTupleIsFree
  refine wpAny_bind (wpAny_field hz rfl (x := .none) rfl (wpAny_pure ?_))
  simp only [if_true]
  refine wpAny_bind (wpAny_rule ?_)
  refine wpAny_bind (wpAny_field hz rfl (x := .ref TO) rfl ?_)
  refine wpAny_bind (wpAny_setField_rec hz (by simp) fun h₁ hz₁ hs₁ => ?_)
  replace hz₁ : IsZipS h₁ z TI TO .ellipsis := hz₁
  refine wpAny_bind ?_
  simp only [List.zipIdx_cons, List.zipIdx_nil, List.forIn_cons, List.forIn_nil]
  refine wpAny_bind (wpAny_bind (wpAny_onRaise ?_))
  show wpAny _ _ (Builtin.SmallTypes.nextOrEnd (.ref i1)) _ _ _
  refine draw_end (s := { s with heap := h₁ }) hh (h1.extBut hs₁.extBut D.i1z) (hl1.extBut hs₁.extBut D.l1z) hx fun h₂ hs₂ => ?_
  have hz₂ : IsZipS h₂ z TI TO .ellipsis := hs₂ _ _ D.i1z.symm hz₁
  refine wpAny_bind (wpAny_setField_rec (s := { s with heap := h₂ }) hz₂ (by simp) fun h₃ _ hs₃ => ?_)
  refine wpAny_bind ?_
  show wpAny _ _ (_ >>= _) _ _ _
  refine wpAny_bind ?_
  simp only [List.drop_succ_cons, List.drop_zero, List.zipIdx_cons, List.zipIdx_nil, List.forIn_cons, List.forIn_nil]
  refine wpAny_bind ?_
  refine wpAny_bind (draw_end (s := { s with heap := h₃ }) hh (((h2.extBut hs₁.extBut D.i2z).extBut hs₂ D.i12.symm).extBut hs₃.extBut D.i2z) (((hl2.extBut hs₁.extBut D.l2z).extBut hs₂ D.l2i1).extBut hs₃.extBut D.l2z) hy fun h₄ hs₄ => ?_)
  refine wpAny_pure (wpAny_pure ?_)
  refine wpAny_bind (wpAny_rule (stop_new (s := { s with heap := h₄ }) hh fun h₅ e hk he => ?_))
  exact hE h₅ e (fun c o c1 c2 c3 c4 x => hk _ _ (hs₄ _ _ c4 (hs₃.extBut _ _ c1 (hs₂ _ _ c3 (hs₁.extBut _ _ c1 x))))) he
theorem held_free {z TI TO T : Addr} {f : Bool} {oT : Obj} {Q : Bool → Shared → Prop} (hz : IsZipSHeld s.heap z TI TO T f) (hT : s.heap.get? T = some oT)
    (h : ∀ h', IsZipSHeld h' z TI TO T true → Heap.SameBut z s.heap h' → Q false { s with heap := h' }) : wpAny (model prog w) A (Builtin.SmallTypes.ownedTupleIsFree (.ref z)) Q E s := by
  unfold Builtin.SmallTypes.ownedTupleIsFree
  refine wpAny_bind (wpAny_field hz rfl (x := rawInt T) rfl ?_)
  show wpAny _ _ (loadIfAlive ((T : Int).toNat) >>= _) _ _ _
  rw [Int.toNat_natCast]
  refine wpAny_bind (PySem.W.kdx_alive hT ?_)
  simp only [Option.isNone_some, Bool.false_eq_true, if_false]
  refine wpAny_bind (wpAny_field hz rfl (x := .bool f) rfl ?_)
  cases f with
  | true =>
    rw [if_neg (show ¬ ((Value.bool true != Value.bool true) = true) from Bool.false_ne_true)]
    exact wpAny_pure (h s.heap hz (Heap.SameBut.refl _ _))
  | false =>
    rw [if_pos (show (Value.bool false != Value.bool true) = true from rfl)]
    exact wpAny_bind (wpAny_setField_rec hz (by simp) fun h₁ hz₁ hs₁ => wpAny_pure (h h₁ hz₁ hs₁))
theorem zipS_item_held {z TI TO T i1 i2 l1 l2 : Addr} {f : Bool} {oT : Obj} {k1 k2 : Nat} {xs ys : Array Value} {x y : Value} {Q : Value → Shared → Prop} (D : ZipApart z TI TO i1 i2 l1 l2)
    (hz : IsZipSHeld s.heap z TI TO T f) (hT : s.heap.get? T = some oT) (hTI : IsPair s.heap TI (.ref i1) (.ref i2))
    (h1 : s.heap.IsListIter i1 l1 k1) (h2 : s.heap.IsListIter i2 l2 k2) (hl1 : s.heap.IsList l1 xs) (hl2 : s.heap.IsList l2 ys) (hx : xs[k1]? = some x) (hy : ys[k2]? = some y)
    (hQ : ∀ h', IsZipSHeld h' z TI TO T true → h'.IsListIter i1 l1 (k1 + 1) → h'.IsListIter i2 l2 (k2 + 1) → IsPair h' s.heap.objs.size x y → h'.objs.size = s.heap.objs.size + 1 →
      (∀ c o, c ≠ z → c ≠ i1 → c ≠ i2 → s.heap.get? c = some o → h'.get? c = some o) → Q (.ref s.heap.objs.size) { s with heap := h' }) :
    wpAny (model prog w) A (Builtin.«zip.__next__» ⟨[.ref z], []⟩) (fun fin s' => ∃ v, fin = .done (.ret v) ∧ Q v s') E s := by
  show wpAny _ _ (field (.ref z) 2 >>= _) _ _ _
  refine wpAny_bind (wpAny_field hz rfl (x := .bool true) rfl ?_)
  show wpAny _ _ (field (.ref z) 3 >>= _) _ _ _
  refine wpAny_bind (wpAny_field hz rfl (x := .ref TI) rfl ?_)
  refine wpAny_bind (wpAny_seqItems hTI rfl ?_)
  show wpAny _ _ (Builtin.SmallTypes.ownedTupleIsFree (.ref z) >>= _) _ _ _
  refine wpAny_bind (held_free hz hT fun h₁ hz₁ hs₁ => ?_)
  simp only [Bool.false_eq_true, if_false]
  refine wpAny_bind ?_
  rw [← Array.forIn_toList]
  simp only [List.forIn_cons, List.forIn_nil]
  refine wpAny_bind (wpAny_bind (wpAny_holding ?_))
  show wpAny _ _ (Builtin.SmallTypes.nextOrEnd (.ref i1)) _ _ _
  refine draw_item (s := { s with heap := h₁ }) (h1.extBut hs₁.extBut D.i1z) (hl1.extBut hs₁.extBut D.l1z) hx fun h₂ h1₂ hs₂ => wpAny_pure ?_
  refine wpAny_bind (wpAny_bind (wpAny_holding ?_))
  show wpAny _ _ (Builtin.SmallTypes.nextOrEnd (.ref i2)) _ _ _
  refine draw_item (s := { s with heap := h₂ }) ((h2.extBut hs₁.extBut D.i2z).extBut hs₂.extBut D.i12.symm) ((hl2.extBut hs₁.extBut D.l2z).extBut hs₂.extBut D.l2i1) hy fun h₃ h2₃ hs₃ => wpAny_pure (wpAny_pure ?_)
  show wpAny _ _ (newTuple [x, y] >>= _) _ _ _
  refine wpAny_bind (wpAny_newTuple ?_)
  have hsz : h₃.objs.size = s.heap.objs.size := by rw [hs₃.1, hs₂.1, hs₁.1]
  have hz₃ : IsZipSHeld h₃ z TI TO T true := hs₃.extBut _ _ D.i2z.symm (hs₂.extBut _ _ D.i1z.symm hz₁)
  have hk : ∀ c o, c ≠ z → c ≠ i1 → c ≠ i2 → s.heap.get? c = some o → h₃.get? c = some o := fun c o c1 c2 c3 e => hs₃.extBut _ _ c3 (hs₂.extBut _ _ c2 (hs₁.extBut _ _ c1 e))
  have h1₃ : h₃.IsListIter i1 l1 (k1 + 1) := h1₂.extBut hs₃.extBut D.i12
  refine wpAny_pure ⟨_, rfl, ?_⟩
  show Q (.ref h₃.objs.size) _
  have hp : IsPair (h₃.push { cls := .type "tuple", data := .seq #[x, y] }) h₃.objs.size x y := Heap.get?_push_size _ rfl
  have hz4 : (h₃.push { cls := .type "tuple", data := .seq #[x, y] }).objs.size = h₃.objs.size + 1 := Heap.size_push ..
  rw [hsz] at hp hz4 ⊢
  exact hQ _ (Heap.get?_push_of_some _ hz₃) (h1₃.at fun o e => Heap.get?_push_of_some _ e) (h2₃.at fun o e => Heap.get?_push_of_some _ e) hp hz4 fun c o c1 c2 c3 e => Heap.get?_push_of_some _ (hk c o c1 c2 c3 e)
theorem zipS_end_held {z TI TO T i1 i2 l1 l2 : Addr} {f : Bool} {oT : Obj} {k1 k2 : Nat} {xs ys : Array Value} {Q : PySem.Fin → Shared → Prop} (hh : A.handled = none) (D : ZipApart z TI TO i1 i2 l1 l2)
    (hz : IsZipSHeld s.heap z TI TO T f) (hT : s.heap.get? T = some oT) (hTI : IsPair s.heap TI (.ref i1) (.ref i2))
    (h1 : s.heap.IsListIter i1 l1 k1) (h2 : s.heap.IsListIter i2 l2 k2) (hl1 : s.heap.IsList l1 xs) (hl2 : s.heap.IsList l2 ys) (hx : xs[k1]? = none) (hy : ys[k2]? = none)
    (hE : ∀ h' e, (∀ c o, c ≠ z → c ≠ i1 → c ≠ i2 → s.heap.get? c = some o → h'.get? c = some o) → (∃ o, h'.get? e = some o ∧ o.cls = .type "StopIteration") → E (.ref e) { s with heap := h' }) :
    wpAny (model prog w) A (Builtin.«zip.__next__» ⟨[.ref z], []⟩) Q E s := by
  show wpAny _ _ (field (.ref z) 2 >>= _) _ _ _
  refine wpAny_bind (wpAny_field hz rfl (x := .bool true) rfl ?_)
  show wpAny _ _ (field (.ref z) 3 >>= _) _ _ _
  refine wpAny_bind (wpAny_field hz rfl (x := .ref TI) rfl ?_)
  refine wpAny_bind (wpAny_seqItems hTI rfl ?_)
  show wpAny _ _ (Builtin.SmallTypes.ownedTupleIsFree (.ref z) >>= _) _ _ _
  refine wpAny_bind (held_free hz hT fun h₁ hz₁ hs₁ => ?_)
  simp only [Bool.false_eq_true, if_false]
  refine wpAny_bind ?_
  rw [← Array.forIn_toList]
  simp only [List.forIn_cons, List.forIn_nil]
  refine wpAny_bind (wpAny_bind (wpAny_holding ?_))
  show wpAny _ _ (Builtin.SmallTypes.nextOrEnd (.ref i1)) _ _ _
  refine draw_end (s := { s with heap := h₁ }) hh (h1.extBut hs₁.extBut D.i1z) (hl1.extBut hs₁.extBut D.l1z) hx fun h₂ hs₂ => ?_
  refine wpAny_bind ?_
  show wpAny _ _ (_ >>= _) _ _ _
  refine wpAny_bind ?_
  simp only [List.drop_succ_cons, List.drop_zero, List.zipIdx_cons, List.zipIdx_nil, List.forIn_cons, List.forIn_nil]
  refine wpAny_bind ?_
  refine wpAny_bind (draw_end (s := { s with heap := h₂ }) hh ((h2.extBut hs₁.extBut D.i2z).extBut hs₂ D.i12.symm) ((hl2.extBut hs₁.extBut D.l2z).extBut hs₂ D.l2i1) hy fun h₄ hs₄ => ?_)
  refine wpAny_pure (wpAny_pure ?_)
  refine wpAny_bind (wpAny_rule (stop_new (s := { s with heap := h₄ }) hh fun h₅ e hk he => ?_))
  exact hE h₅ e (fun c o c1 c3 c4 x => hk _ _ (hs₄ _ _ c4 (hs₂ _ _ c3 (hs₁.extBut _ _ c1 x)))) he
theorem nextS_item {z TI TO i1 i2 l1 l2 : Addr} {k1 k2 : Nat} {xs ys : Array Value} {x y a b : Value} {Q : Option Value → Shared → Prop} (D : ZipApart z TI TO i1 i2 l1 l2)
    (hz : IsZipS s.heap z TI TO .none) (hTI : IsPair s.heap TI (.ref i1) (.ref i2)) (hTO : IsPair s.heap TO a b)
    (h1 : s.heap.IsListIter i1 l1 k1) (h2 : s.heap.IsListIter i2 l2 k2) (hl1 : s.heap.IsList l1 xs) (hl2 : s.heap.IsList l2 ys) (hx : xs[k1]? = some x) (hy : ys[k2]? = some y)
    (hQ : ∀ h', IsZipS h' z TI TO (rawInt s.heap.objs.size) → h'.IsListIter i1 l1 (k1 + 1) → h'.IsListIter i2 l2 (k2 + 1) → IsPair h' s.heap.objs.size x y → h'.objs.size = s.heap.objs.size + 1 →
      (∀ c o, c ≠ z → c ≠ TO → c ≠ i1 → c ≠ i2 → s.heap.get? c = some o → h'.get? c = some o) → Q (some (.ref s.heap.objs.size)) { s with heap := h' }) :
    wpAny (model prog w) A (pyNext (.ref z)) Q E s := by
  have hT : s.TypeIs (.ref z) "zip" := ⟨_, hz, rfl⟩
  unfold pyNext
  exact wpAny_bind (wpAny_attempt (wpAny_callSpecial?_slot (name := Str.ofString "__next__") hT F.slot_zip_next
    (wpAny_call_entry F.slot_zip_next hT F.entry_zip_next
      (zipS_item D hz hTI hTO h1 h2 hl1 hl2 hx hy fun h' a1 a3 a4 a5 a6 a7 => wpAny_pure (hQ h' a1 a3 a4 a5 a6 a7)) (F.args_zip_next_1 _))))
theorem nextS_end {z TI TO i1 i2 l1 l2 : Addr} {k1 k2 : Nat} {xs ys : Array Value} {a b : Value} {Q : Option Value → Shared → Prop} (hh : A.handled = none) (D : ZipApart z TI TO i1 i2 l1 l2)
    (hz : IsZipS s.heap z TI TO .none) (hTI : IsPair s.heap TI (.ref i1) (.ref i2)) (hTO : IsPair s.heap TO a b)
    (h1 : s.heap.IsListIter i1 l1 k1) (h2 : s.heap.IsListIter i2 l2 k2) (hl1 : s.heap.IsList l1 xs) (hl2 : s.heap.IsList l2 ys) (hx : xs[k1]? = none) (hy : ys[k2]? = none)
    (hQ : ∀ h', (∀ c o, c ≠ z → c ≠ TO → c ≠ i1 → c ≠ i2 → s.heap.get? c = some o → h'.get? c = some o) → Q none { s with heap := h' }) : wpAny (model prog w) A (pyNext (.ref z)) Q E s := by
  have hT : s.TypeIs (.ref z) "zip" := ⟨_, hz, rfl⟩
  unfold pyNext
  refine wpAny_bind (wpAny_attempt (wpAny_callSpecial?_slot (name := Str.ofString "__next__") hT F.slot_zip_next
    (wpAny_call_entry F.slot_zip_next hT F.entry_zip_next (zipS_end hh D hz hTI hTO h1 h2 hl1 hl2 hx hy fun h' e hk he => ?_) (F.args_zip_next_1 _))))
  obtain ⟨o, ho, hc⟩ := he
  refine wpAny_bind (wpAny_isInstance (T := "StopIteration") (b := true) ⟨o, ho, hc⟩ isSubtype_stop ?_)
  exact wpAny_pure (hQ _ hk)
theorem nextS_item_held {z TI TO T i1 i2 l1 l2 : Addr} {f : Bool} {oT : Obj} {k1 k2 : Nat} {xs ys : Array Value} {x y : Value} {Q : Option Value → Shared → Prop} (D : ZipApart z TI TO i1 i2 l1 l2)
    (hz : IsZipSHeld s.heap z TI TO T f) (hT : s.heap.get? T = some oT) (hTI : IsPair s.heap TI (.ref i1) (.ref i2))
    (h1 : s.heap.IsListIter i1 l1 k1) (h2 : s.heap.IsListIter i2 l2 k2) (hl1 : s.heap.IsList l1 xs) (hl2 : s.heap.IsList l2 ys) (hx : xs[k1]? = some x) (hy : ys[k2]? = some y)
    (hQ : ∀ h', IsZipSHeld h' z TI TO T true → h'.IsListIter i1 l1 (k1 + 1) → h'.IsListIter i2 l2 (k2 + 1) → IsPair h' s.heap.objs.size x y → h'.objs.size = s.heap.objs.size + 1 →
      (∀ c o, c ≠ z → c ≠ i1 → c ≠ i2 → s.heap.get? c = some o → h'.get? c = some o) → Q (some (.ref s.heap.objs.size)) { s with heap := h' }) :
    wpAny (model prog w) A (pyNext (.ref z)) Q E s := by
  have hTy : s.TypeIs (.ref z) "zip" := ⟨_, hz, rfl⟩
  unfold pyNext
  exact wpAny_bind (wpAny_attempt (wpAny_callSpecial?_slot (name := Str.ofString "__next__") hTy F.slot_zip_next
    (wpAny_call_entry F.slot_zip_next hTy F.entry_zip_next
      (zipS_item_held D hz hT hTI h1 h2 hl1 hl2 hx hy fun h' a1 a3 a4 a5 a6 a7 => wpAny_pure (hQ h' a1 a3 a4 a5 a6 a7)) (F.args_zip_next_1 _))))
theorem nextS_end_held {z TI TO T i1 i2 l1 l2 : Addr} {f : Bool} {oT : Obj} {k1 k2 : Nat} {xs ys : Array Value} {Q : Option Value → Shared → Prop} (hh : A.handled = none) (D : ZipApart z TI TO i1 i2 l1 l2)
    (hz : IsZipSHeld s.heap z TI TO T f) (hT : s.heap.get? T = some oT) (hTI : IsPair s.heap TI (.ref i1) (.ref i2))
    (h1 : s.heap.IsListIter i1 l1 k1) (h2 : s.heap.IsListIter i2 l2 k2) (hl1 : s.heap.IsList l1 xs) (hl2 : s.heap.IsList l2 ys) (hx : xs[k1]? = none) (hy : ys[k2]? = none)
    (hQ : ∀ h', (∀ c o, c ≠ z → c ≠ i1 → c ≠ i2 → s.heap.get? c = some o → h'.get? c = some o) → Q none { s with heap := h' }) : wpAny (model prog w) A (pyNext (.ref z)) Q E s := by
  have hTy : s.TypeIs (.ref z) "zip" := ⟨_, hz, rfl⟩
  unfold pyNext
  refine wpAny_bind (wpAny_attempt (wpAny_callSpecial?_slot (name := Str.ofString "__next__") hTy F.slot_zip_next
    (wpAny_call_entry F.slot_zip_next hTy F.entry_zip_next (zipS_end_held hh D hz hT hTI h1 h2 hl1 hl2 hx hy fun h' e hk he => ?_) (F.args_zip_next_1 _))))
  obtain ⟨o, ho, hc⟩ := he
  refine wpAny_bind (wpAny_isInstance (T := "StopIteration") (b := true) ⟨o, ho, hc⟩ isSubtype_stop ?_)
  exact wpAny_pure (hQ _ hk)
theorem iterS {z TI TO : Addr} {f0 : Value} {Q : Value → Shared → Prop} (hz : IsZipS s.heap z TI TO f0) (h : Q (.ref z) s) : wpAny (model prog w) A (pyIter (.ref z)) Q E s := by
  have hT : s.TypeIs (.ref z) "zip" := ⟨_, hz, rfl⟩
  refine wpAny_pyIter_slot hT F.slot_zip_iter (wpAny_call_entry F.slot_zip_iter hT F.entry_zip_iter ?_ (F.args_zip_iter_1 _))
  show wpAny _ _ (ret (.ref z)) _ _ s
  exact wpAny_pure ⟨_, rfl, "zip", _, hT, F.slot_zip_next.lookup, h⟩
end
section
variable {prog : Program} {w : World}
theorem argZipS (z TI TO i1 i2 l1 l2 : Addr) (D : ZipApart z TI TO i1 i2 l1 l2) (xs ys : Array Value) (hxy : xs.size = ys.size) :
    PairArg prog w "zip" z [z, TI, TO, i1, i2, l1, l2] [z, TO, i1, i2] xs.size (fun i k v => xs[i]? = some k ∧ ys[i]? = some v)
      (fun h => IsZipS h z TI TO .none ∧ IsPair h TI (.ref i1) (.ref i2) ∧ (∃ a b, IsPair h TO a b) ∧ h.IsListIter i1 l1 0 ∧ h.IsListIter i2 l2 0 ∧ h.IsList l1 xs ∧ h.IsList l2 ys) where
  type := fun s ok => ⟨_, ok.1, rfl⟩
  notDict := by decide
  keep := fun h h' ok hk => by
    obtain ⟨hz, hTI, ⟨a, b, hTO⟩, h1, h2, hl1, hl2⟩ := ok
    exact ⟨hk _ _ hz, hk _ _ hTI, ⟨a, b, hk _ _ hTO⟩, h1.at fun o e => hk _ o e, h2.at fun o e => hk _ o e, hl1.at fun o e => hk _ o e, hl2.at fun o e => hk _ o e⟩
  there := fun h ok b hb => by
    obtain ⟨hz, hTI, ⟨a, c, hTO⟩, ⟨o1, h1, _⟩, ⟨o2, h2, _⟩, ⟨o3, hl1, _⟩, ⟨o4, hl2, _⟩⟩ := ok
    simp only [List.mem_cons, List.not_mem_nil, or_false] at hb
    rcases hb with rfl | rfl | rfl | rfl | rfl | rfl | rfl
    all_goals first | exact ⟨_, hz⟩ | exact ⟨_, hTI⟩ | exact ⟨_, hTO⟩ | exact ⟨_, h1⟩ | exact ⟨_, h2⟩ | exact ⟨_, hl1⟩ | exact ⟨_, hl2⟩
  sub := fun b hb => by simp at hb ⊢; rcases hb with rfl | rfl | rfl | rfl <;> simp
  noKeys := fun A s Q E hA ok h => getAttrOr_miss_zip ok.1 rfl rfl rfl zip_no_keys (by decide +kernel) hA h
  iter := fun A s d Q E hA ok hd hdf h => by
    obtain ⟨hz, hTI, ⟨a, b, hTO⟩, h1, h2, hl1, hl2⟩ := ok
    simp only [List.mem_cons, List.not_mem_nil, or_false, not_or] at hdf
    obtain ⟨dz, dTI, dTO, di1, di2, dl1, dl2⟩ := hdf
    refine iterS hz (h z [z, TO, i1, i2] (fun i h => IsPair h TI (.ref i1) (.ref i2) ∧ h.IsListIter i1 l1 i ∧ h.IsListIter i2 l2 i ∧ h.IsList l1 xs ∧ h.IsList l2 ys ∧
      ((IsZipS h z TI TO .none ∧ ∃ a b, IsPair h TO a b) ∨ ∃ T f oT, IsZipSHeld h z TI TO T f ∧ h.get? T = some oT ∧ T ≠ z ∧ T ≠ i1 ∧ T ≠ i2 ∧ T ≠ d)) s.heap s.toks ?_
      ⟨hTI, h1, h2, hl1, hl2, .inl ⟨hz, a, b, hTO⟩⟩ (fun _ _ e => e) fun b hb => .inl hb)
    exact {
      off := fun hm => by
        simp only [List.mem_cons, List.not_mem_nil, or_false] at hm
        rcases hm with e | e | e | e
        · exact dz e
        · exact dTO e
        · exact di1 e
        · exact di2 e
      frame := fun i h₁ h₂ st hk => by
        obtain ⟨hTI, h1, h2, hl1, hl2, hz⟩ := st
        refine ⟨hk _ _ (Ne.symm dTI) hTI, h1.at fun o e => hk _ o (Ne.symm di1) e, h2.at fun o e => hk _ o (Ne.symm di2) e, hl1.at fun o e => hk _ o (Ne.symm dl1) e, hl2.at fun o e => hk _ o (Ne.symm dl2) e, ?_⟩
        rcases hz with ⟨hz, a, b, hTO⟩ | ⟨T, f, oT, hz, hT, r1, r2, r3, r4⟩
        · exact .inl ⟨hk _ _ (Ne.symm dz) hz, a, b, hk _ _ (Ne.symm dTO) hTO⟩
        · exact .inr ⟨T, f, oT, hk _ _ (Ne.symm dz) hz, hk _ _ r4 hT, r1, r2, r3, r4⟩
      item := fun i s₁ Q₁ E₁ hi st hds hQ => by
        obtain ⟨hTI, h1, h2, hl1, hl2, hz⟩ := st
        have ex := Array.getElem?_eq_getElem hi
        have ey := Array.getElem?_eq_getElem (show i < ys.size by omega)
        have lt : ∀ {c o}, s₁.heap.get? c = some o → s₁.heap.objs.size ≠ c := fun e => Nat.ne_of_gt (Heap.lt_size e)
        have n1 : s₁.heap.objs.size ≠ i1 := let ⟨_, e, _⟩ := h1; lt e
        have n2 : s₁.heap.objs.size ≠ i2 := let ⟨_, e, _⟩ := h2; lt e
        rcases hz with ⟨hz, a, b, hTO⟩ | ⟨T, f, oT, hz, hT, r1, r2, r3, r4⟩
        · refine nextS_item D hz hTI hTO h1 h2 hl1 hl2 ex ey fun h' a1 a3 a4 a5 a6 hk => ?_
          exact hQ s₁.heap.objs.size _ _ h' s₁.toks ⟨ex, ey⟩ (.inl ⟨_, a5, rfl, _, rfl⟩)
            ⟨hk _ _ D.TIz D.TITO D.TIi1 D.TIi2 hTI, a3, a4, hl1.at fun o e => hk _ o D.l1z D.l1TO D.l1i1 D.l1i2 e, hl2.at fun o e => hk _ o D.l2z D.l2TO D.l2i1 D.l2i2 e,
              .inr ⟨s₁.heap.objs.size, false, _, a1, a5, lt hz, n1, n2, Nat.ne_of_gt hds⟩⟩
            fun c o hc e => hk c o (fun x => hc (by simp [x])) (fun x => hc (by simp [x])) (fun x => hc (by simp [x])) (fun x => hc (by simp [x])) e
        · refine nextS_item_held D hz hT hTI h1 h2 hl1 hl2 ex ey fun h' a1 a3 a4 a5 a6 hk => ?_
          exact hQ s₁.heap.objs.size _ _ h' s₁.toks ⟨ex, ey⟩ (.inl ⟨_, a5, rfl, _, rfl⟩)
            ⟨hk _ _ D.TIz D.TIi1 D.TIi2 hTI, a3, a4, hl1.at fun o e => hk _ o D.l1z D.l1i1 D.l1i2 e, hl2.at fun o e => hk _ o D.l2z D.l2i1 D.l2i2 e,
              .inr ⟨T, true, oT, a1, hk _ _ r1 r2 r3 hT, r1, r2, r3, r4⟩⟩
            fun c o hc e => hk c o (fun x => hc (by simp [x])) (fun x => hc (by simp [x])) (fun x => hc (by simp [x])) e
      done := fun s₁ Q₁ E₁ st hQ => by
        obtain ⟨hTI, h1, h2, hl1, hl2, hz⟩ := st
        have ex : xs[xs.size]? = none := Array.getElem?_eq_none (Nat.le_refl _)
        have ey : ys[xs.size]? = none := Array.getElem?_eq_none (by omega)
        rcases hz with ⟨hz, a, b, hTO⟩ | ⟨T, f, oT, hz, hT, r1, r2, r3, r4⟩
        · exact nextS_end hA D hz hTI hTO h1 h2 hl1 hl2 ex ey fun h' hk => hQ h' s₁.toks fun c o hc e => hk c o (fun x => hc (by simp [x])) (fun x => hc (by simp [x])) (fun x => hc (by simp [x])) (fun x => hc (by simp [x])) e
        · exact nextS_end_held hA D hz hT hTI h1 h2 hl1 hl2 ex ey fun h' hk => hQ h' s₁.toks fun c o hc e => hk c o (fun x => hc (by simp [x])) (fun x => hc (by simp [x])) (fun x => hc (by simp [x])) e }
theorem typeCall_strict (a b c : Value) : checkTypeCall "zip" ⟨[a, b], [(Str.ofString "strict", c)]⟩ = pure () := by kernel_rfl
theorem newCall_strict (a b c : Value) : checkBuiltinCall "zip.__new__" ⟨[.type "zip", a, b], [(Str.ofString "strict", c)]⟩ = pure () := by kernel_rfl
theorem args_strict (obj a b c : Value) : argsOk "object.__init__" ⟨[obj, a, b], [(Str.ofString "strict", c)]⟩ := by unfold argsOk; kernel_rfl
abbrev zipHS (h : Heap) (l1 l2 : Addr) : Heap := (zipH4 h l1 l2).push { cls := .type "zip", data := .fields #[.none, .bool false, .bool true, .ref (zipH2 h l1 l2).objs.size, .ref (zipH3 h l1 l2).objs.size] }
theorem meets_strict (l1 l2 : Addr) (xs ys : Array Value) :
    Meets (Builtin.«zip.__new__» ⟨[.type "zip", .ref l1, .ref l2], [(Str.ofString "strict", .bool true)]⟩) (fun _ R s => s.heap.IsList l1 xs ∧ s.heap.IsList l2 ys ∧
      R (.ok (.ret (.ref (zipH4 s.heap l1 l2).objs.size))) { s with heap := zipHS s.heap l1 l2 }) :=
  .of_wp fun prog w A R s h => by
    obtain ⟨hp, g, d, tk, os⟩ := s; obtain ⟨hl1, hl2, h⟩ := h
    have hsub := sub_zip
    have hL1 : Heap.IsList (Shared.heap ⟨hp, g, d, tk, os⟩) l1 xs := hl1
    have hL2 : Heap.IsList (Shared.heap ⟨hp.push { cls := .type "list_iterator", data := .fields #[.ref l1, .int 0 0] }, g, d, tk, os⟩) l2 ys := Heap.IsList.push hl2 _
    have e1 : (Str.ofString "strict" != ("strict" : Str)) = false := by decide +kernel
    wp_walk using wpAny_pyIter_list hL1, wpAny_pyIter_list hL2
    exact ⟨_, rfl, h⟩
end
end J

/-! ## ZipT -/
/-! dict(zip(xs, ys, strict=True)). -/
namespace J
open PySem PySem.Spec PyProof.Rows L2
section
variable {prog : Program} {w : World} {A : Around} {E : Value → Shared → Prop} {s : Shared}
theorem call_zipS {l1 l2 : Addr} {xs ys : Array Value} {Q : Value → Shared → Prop} (hl1 : s.heap.IsList l1 xs) (hl2 : s.heap.IsList l2 ys)
    (h : ∀ h', IsZipS h' (s.heap.objs.size + 4) (s.heap.objs.size + 2) (s.heap.objs.size + 3) .none → IsPair h' (s.heap.objs.size + 2) (.ref s.heap.objs.size) (.ref (s.heap.objs.size + 1)) →
      IsPair h' (s.heap.objs.size + 3) .none .none → h'.IsListIter s.heap.objs.size l1 0 → h'.IsListIter (s.heap.objs.size + 1) l2 0 → h'.objs.size = s.heap.objs.size + 5 →
      (∀ c o, s.heap.get? c = some o → h'.get? c = some o) → Q (.ref (s.heap.objs.size + 4)) { s with heap := h' }) :
    wpAny (model prog w) A (call (.type "zip") [.ref l1, .ref l2] [(Str.ofString "strict", .bool true)]) Q E s := by
  refine callType_newKw F.called_zip (by decide) (typeCall_strict _ _ _) (newCall_strict _ _ _) (fun obj => args_strict obj _ _ _) F.entry_zip_new
    (meets_strict l1 l2 xs ys) ⟨hl1, hl2, ?_⟩
  have z1 : (zipH1 s.heap l1).objs.size = s.heap.objs.size + 1 := Heap.size_push ..
  have z2 : (zipH2 s.heap l1 l2).objs.size = s.heap.objs.size + 2 := by rw [Heap.size_push, z1]
  have z3 : (zipH3 s.heap l1 l2).objs.size = s.heap.objs.size + 3 := by rw [Heap.size_push, z2]
  have z4 : (zipH4 s.heap l1 l2).objs.size = s.heap.objs.size + 4 := by rw [Heap.size_push, z3]
  have z5 : (zipHS s.heap l1 l2).objs.size = s.heap.objs.size + 5 := by rw [Heap.size_push, z4]
  have g5 : (zipHS s.heap l1 l2).get? (zipH4 s.heap l1 l2).objs.size = some _ := Heap.get?_push_size _ rfl
  have g4 : (zipHS s.heap l1 l2).get? (zipH3 s.heap l1 l2).objs.size = some _ := Heap.get?_push_of_some _ (Heap.get?_push_size _ rfl)
  have g3 : (zipHS s.heap l1 l2).get? (zipH2 s.heap l1 l2).objs.size = some _ := Heap.get?_push_of_some _ (Heap.get?_push_of_some _ (Heap.get?_push_size _ rfl))
  have g2 : (zipHS s.heap l1 l2).get? (zipH1 s.heap l1).objs.size = some _ := Heap.get?_push_of_some _ (Heap.get?_push_of_some _ (Heap.get?_push_of_some _ (Heap.get?_push_size _ rfl)))
  have g1 : (zipHS s.heap l1 l2).get? s.heap.objs.size = some _ := Heap.get?_push_of_some _ (Heap.get?_push_of_some _ (Heap.get?_push_of_some _ (Heap.get?_push_of_some _ (Heap.get?_push_size _ rfl))))
  show _ ∧ _
  rw [z2, z3, z4] at g5
  rw [z1, z2] at g3
  rw [z3] at g4
  rw [z1] at g2
  rw [z4]
  exact ⟨⟨_, g5, rfl⟩, h _ g5 g3 g4 ⟨_, g1, rfl, rfl⟩ ⟨_, g2, rfl, rfl⟩ z5 fun c o x =>
    Heap.get?_push_of_some _ (Heap.get?_push_of_some _ (Heap.get?_push_of_some _ (Heap.get?_push_of_some _ (Heap.get?_push_of_some _ x))))⟩
theorem callWith_typeKw {env : PySem.Env} {pos : Pos} {T : String} {e : Expr} {rest : List Expr} {kws : List Keyword} {Q : Value → Shared → Prop}
    (h : wpAny (model prog w) A (spliced (backTo pos (starEach (e :: rest) env))) (fun vs s₁ => wpAny (model prog w) A (evalAll ((backToKw pos (keywordEach kws env)).map (·.2)))
      (fun kvs s₂ => wpAny (model prog w) A (call (.type T) vs (((backToKw pos (keywordEach kws env)).filterMap (·.1)).zip kvs)) Q E s₂) E s₁) E s)
    (he : backTo pos (starEach (e :: rest) env) = (false, eval e env) :: backTo pos (starEach rest env) := by rfl)
    (hplain : (backTo pos (starEach (e :: rest) env)).any (·.1) = false := by rfl)
    (hall : (backToKw pos (keywordEach kws env)).all (·.1.isSome) = true := by rfl)
    (hkw : (backToKw pos (keywordEach kws env)).any (·.1.isNone) = false := by rfl) :
    wpAny (model prog w) A (callWith pos (.type T) [] (backTo pos (starEach (e :: rest) env)) (backToKw pos (keywordEach kws env))) Q E s := by
  unfold callWith
  refine wpAny_bind (wpAny_holding (wpAny_mono (Q := fun (a : Args) s₁ => wpAny (model prog w) A (call (.type T) ([] ++ a.pos) a.kw) Q E s₁) (E := E) ?_ (fun a s₁ h₁ => wpAny_bind (wpAny_standAt ?_)) fun _ _ x => x))
  · rw [he] at h ⊢
    exact evalArgs_kwB hall h
  · simp only [hplain, hkw, Bool.or_false]
    refine wpAny_bind (wpAny_pure ?_)
    exact wpAny_bind (wpAny_mono h₁ (fun r s₂ hr => wpAny_bind (wpAny_holding (wpAny_point (wpAny_pure hr)))) fun _ _ x => x)
end
/-- keys, and their values -/
def zipK : List Str → List V → List (Key × V)
  | k :: ks, v :: vs => (.inr k, v) :: zipK ks vs
  | _, _ => []
theorem zipK_len : ∀ {ks : List Str} {vs : List V}, ks.length = vs.length → (zipK ks vs).length = ks.length
  | [], [], _ => rfl
  | k :: ks, v :: vs, h => by
    rw [zipK, List.length_cons, List.length_cons, zipK_len (Nat.succ.inj h)]
  | [], _ :: _, h => nomatch h
  | _ :: _, [], h => nomatch h
theorem zipK_keys : ∀ {ks : List Str} {vs : List V}, ks.length = vs.length → (zipK ks vs).map (·.1) = ks.map Sum.inr
  | [], [], _ => rfl
  | k :: ks, v :: vs, h => by
    rw [zipK, List.map_cons, List.map_cons, zipK_keys (Nat.succ.inj h)]
  | [], _ :: _, h => nomatch h
  | _ :: _, [], h => nomatch h
theorem zip_kv : ∀ {ks : List Str} {vs : List V} {us ws : List Value}, ks.length = vs.length → Vals (ks.map V.str) us → Vals vs ws →
    ∃ rs : List (Key × Value), KV (zipK ks vs) rs ∧ rs.length = ks.length ∧ ∀ (i : Nat) (u y : Value), us[i]? = some u → ws[i]? = some y → ∃ k, rs[i]? = some (k, y) ∧ keyIs k u = true
  | [], [], _, _, _, r1, r2 => by
    cases r1
    cases r2
    exact ⟨[], .nil, rfl, fun i u y e => by simp at e⟩
  | k :: ks, v :: vs, _, _, h, r1, r2 => by
    rw [List.map_cons] at r1
    cases r1 with
    | cons a1 r1 =>
      cases r2 with
      | cons a2 r2 =>
        obtain ⟨rs, h1, h2, h3⟩ := zip_kv (Nat.succ.inj h) r1 r2
        rename_i u us y ws
        refine ⟨(.inr k, y) :: rs, .cons ⟨rfl, a2⟩ h1, by rw [List.length_cons, List.length_cons, h2], fun i u' y' e1 e2 => ?_⟩
        cases i with
        | zero =>
          cases Option.some.inj e1
          cases Option.some.inj e2
          obtain ⟨t, rfl⟩ := (show ∃ t, u = Value.str k t from a1)
          exact ⟨.inr k, rfl, keyIs_str k t⟩
        | succ i => exact h3 i u' y' (by simpa using e1) (by simpa using e2)
  | [], _ :: _, _, _, h, _, _ => nomatch h
  | _ :: _, [], _, _, h, _, _ => nomatch h
def tDictZip (K : PySem.W.Frag) (t : TA) (tk : TE) : TE := fun σ H Q => t σ H fun vs H1 => tk σ H1 fun z H2 => z = .bl true ∧ ∃ (l1 l2 : Addr) (ks : List Str) (ys : List V),
  vs = [.ref l1, .ref l2] ∧ SqL K H2 l1 (ks.map V.str) ∧ SqL K H2 l2 ys ∧ ks.length = ys.length ∧ ks.Nodup ∧ ∀ p, H2 p = none → Q (.ref p) (upd H2 p (.dK (zipK ks ys)))
section
variable {X : Cx}
theorem pe_dictZip {e1 e2 ek : Expr} {ta : TA} {tk : TE} {p p2 q pos kp : Pos} (hc : X.calm = true) (hg : Gl X "dict") (hm : X.mg "dict" = none) (hg2 : Gl X "zip") (hm2 : X.mg "zip" = none) (ha : PA X [e1, e2] ta) (hk : PE X ek tk)
    (na : starEach [.Call (.Name "zip" p2) [e1, e2] [⟨some (Str.ofString "strict"), ek, kp⟩] q] X.env = (false, eval (.Call (.Name "zip" p2) [e1, e2] [⟨some (Str.ofString "strict"), ek, kp⟩] q) X.env) :: starEach [] X.env := by rfl)
    (nb : backTo q (starEach [e1, e2] X.env) = (false, eval e1 X.env) :: backTo q (starEach [e2] X.env) := by rfl)
    (nc : (backTo q (starEach [e1, e2] X.env)).any (·.1) = false := by rfl) :
    PE X (.Call (.Name "dict" p) [.Call (.Name "zip" p2) [e1, e2] [⟨some (Str.ofString "strict"), ek, kp⟩] q] [] pos) (tDictZip X.K ta tk) := by
  refine ⟨fun pins s σ H Q I h => ?_⟩
  refine Call_ (ld_blt I hg hm PyProof.Rows.boot_dict ?_)
  refine PyProof.Rows.callWith_type1 (PyProof.Rows.args_cons ?_ na) na rfl
  refine wpAny_Call_Name_kw (ld_blt I hg2 hm2 PyProof.Rows.boot_zip ?_)
  refine callWith_typeKw (thn (ha.run q pins s σ H _ I h) fun us s1 ⟨vs, H1, I1, r1, q1⟩ => ?_) nb nc (by rfl) (by rfl)
  refine kws_cons (thn (hk.run pins s1 σ H1 _ I1 q1) fun b s2 h2 => kws_nil ?_)
  obtain ⟨z, H2, I2, rz, ez, l1, l2, ks, ys, ev, a1, a2, hl, nd, q2⟩ := h2
  subst ez ev
  obtain ⟨u1, u2, eu, ru1, ru2⟩ := vals2 r1
  subst eu
  obtain rfl : u1 = Value.ref l1 := ru1
  obtain rfl : u2 = Value.ref l2 := ru2
  obtain rfl : b = Value.bool true := rz
  obtain ⟨us, rv1, pl1, hz1⟩ := I2.list a1
  obtain ⟨ws, rv2, pl2, hz2⟩ := I2.list a2
  obtain ⟨rs, kv, hrl, hrs⟩ := zip_kv hl rv1 rv2
  have lu : us.length = ks.length := by rw [← rv1.length, List.length_map]
  have lw : ws.length = ks.length := by rw [← rv2.length, hl]
  show wpAny _ _ (call (.type "zip") [.ref l1, .ref l2] [(Str.ofString "strict", .bool true)]) _ _ _
  refine call_zipS pl1.isList pl2.isList fun h' hz hTI hTO h1 h2 hsz hk' => ?_
  refine PyProof.Rows.args_nil ?_
  have kept := hk'
  have z1 : l1 < s2.heap.objs.size := by
    obtain ⟨o, _, ho, _⟩ := pl1
    exact Heap.lt_size ho
  have z2 : l2 < s2.heap.objs.size := by
    obtain ⟨o, _, ho, _⟩ := pl2
    exact Heap.lt_size ho
  refine call_dict_pairs (s := { s2 with heap := h' }) (knd := mixKind X.prog X.w) (kvs := rs) (argZipS _ _ _ _ _ l1 l2 (zipApart_new z1 z2) us.toArray ws.toArray (by simp [lu, lw])) (I2.ok.hd hc)
    ⟨hz, hTI, ⟨_, _, hTO⟩, h1, h2, pl1.isList.at fun o e => hk' _ o e, pl2.isList.at fun o e => hk' _ o e⟩ ⟨by simp [lu, hrl], fun i k v e => ?_⟩ (by simp [lu]; simpa using hz1) fun h'' tk' hd' hkp => ?_
  · obtain ⟨e1, e2⟩ := e
    exact hrs i k v (by simpa using e1) (by simpa using e2)
  · have big : sysModules < h'.objs.size := Nat.lt_of_lt_of_le I2.big (by rw [hsz]; exact Nat.le_add_right _ _)
    have hm : (h'.objs.size == sysModules) = false := beq_eq_false_iff_ne.mpr (Nat.ne_of_gt big)
    have hn : H2 h'.objs.size = none := I2.hok.fresh (by rw [hsz]; exact Nat.le_add_right _ _)
    have nk : (rs.map (·.1)).Nodup := by
      have e : rs.map (·.1) = (zipK ks ys).map (·.1) := by
        clear hrs hd' hkp hrl
        revert kv
        generalize zipK ks ys = l
        intro kv
        induction kv with
        | nil => rfl
        | cons a b ih => rw [List.map_cons, List.map_cons, ih, a.1]
      rw [e, zipK_keys hl]
      exact List.pairwise_map.mpr (nd.imp fun ne z => ne (by cases z; rfl))
    rw [merged_nil_of_nodup rs nk] at hd'
    refine ⟨.ref h'.objs.size, upd H2 h'.objs.size (.dK (zipK ks ys)), I2.laid (t' := tk') (fun b o e => hkp b o (fun hb => ?_) (hk' b o e)) (by rw [hsz]; exact Nat.le_add_right _ _) ⟨by rw [zipK_len hl]; simpa using hz1, hm, rs, kv, hd'⟩, rfl, q2 _ hn⟩
    have := Heap.lt_size e
    simp only [List.mem_cons, List.not_mem_nil, or_false] at hb
    have no : ∀ n, b = s2.heap.objs.size + n → False := fun n e => Nat.lt_irrefl _ (Nat.lt_of_le_of_lt (Nat.le_add_right _ n) (e ▸ this))
    rcases hb with e | e | e | e
    · exact no _ e
    · exact no _ e
    · exact no 0 e
    · exact no _ e
end
/-! on data -/
def wdZ : List Str → List D → List (Key × D)
  | k :: ks, v :: vs => (.inr k, v) :: wdZ ks vs
  | _, _ => []
theorem rp_zip {K : PySem.W.Frag} {Hs : Hp} : ∀ {ks : List Str} {ds : List D} {vs : List V}, ks.length = ds.length → RpL K Hs vs ds → (zipK ks vs).map (·.1) = (wdZ ks ds).map (·.1) ∧ RpL K Hs ((zipK ks vs).map (·.2)) ((wdZ ks ds).map (·.2))
  | [], [], _, _, r => by
    cases r
    exact ⟨rfl, .nil⟩
  | k :: ks, d :: ds, _, h, r => by
    cases r with
    | cons r1 r =>
      obtain ⟨h1, h2⟩ := rp_zip (Nat.succ.inj h) r
      refine ⟨?_, ?_⟩
      · rw [zipK, wdZ, List.map_cons, List.map_cons, h1]
      · rw [zipK, wdZ, List.map_cons, List.map_cons]
        exact .cons r1 h2
  | [], _ :: _, _, h, _ => nomatch h
  | _ :: _, [], _, h, _ => nomatch h
section
variable {K : PySem.W.Frag} {ρ : Env} {ta tb tk : TE}
theorem en_dictZip {ks : List Str} {ds : List D} (ha : Ev K ta ρ (nmD ks)) (hb : Ev K tb ρ (.lst ds)) (hk : Ev K tk ρ (.bl true)) (hl : ks.length = ds.length) (nd : ks.Nodup) :
    EvN K (tDictZip K (tCons ta (tCons tb tNil)) tk) ρ (.dK (wdZ ks ds)) := fun σ Hs H R Q q =>
  ha σ Hs H R _ fun v Hs1 H1 g1 rv => hb σ Hs1 H1 (R.stay g1) _ fun u Hs2 H2 g2 ru => hk σ Hs2 H2 ((R.stay g1).stay g2) _ fun z Hs3 H3 g3 rz => by
    cases rz
    obtain ⟨a, vs, rfl, h1, rl⟩ := rv.lst_inv
    have ev := rl.strs_inv
    subst ev
    obtain ⟨b, ys, rfl, h2, ry⟩ := ru.lst_inv
    have ll : ks.length = ys.length := by rw [hl]; exact ry.len.symm
    refine ⟨rfl, a, b, ks, ys, rfl, SqL.of (g3.i _ _ (g3.s _ _ (g2.s _ _ h1))), SqL.of (g3.i _ _ (g3.s _ _ h2)), ll, nd, fun p hp => ?_⟩
    obtain ⟨e1, e2⟩ := rp_zip hl (ry.mono g3.s)
    have gA : Go N0 Hs3 H3 Hs3 (upd H3 p (.dK (zipK ks ys))) := .newM g3.i hp
    exact q p Hs3 _ ((g1.trans0 (g2.trans0 g3)).trans0 gA) (go_free ((g1.trans0 (g2.trans0 g3))) hp) (.dK (ex_free g3.i hp) upd_same e1 e2)
end
end J

/-! ## W7 -/
/-! Rows kept; words denied; some numbers told. -/
namespace J
open PySem PySem.Spec PyProof.Rows L2 Q
open KR
def rwD {k : Kd} (xs : List (Rk k)) : D := .lst (xs.map fun x => iD x)
theorem wdZ_eq {k : Kd} : ∀ {ns : List Str} {xs : List (Rk k)}, wdZ ns (xs.map fun x => iD x) = wdM (ns.zip xs)
  | [], [] => rfl
  | n :: ns, x :: xs => by
    rw [List.map_cons, wdZ, wdZ_eq (ns := ns) (xs := xs)]
    rfl
  | [], _ :: _ => rfl
  | _ :: _, [] => rfl
theorem zip_fst {α β : Type} : ∀ {l : List α} {m : List β}, l.length = m.length → (l.zip m).map Prod.fst = l
  | [], [], _ => rfl
  | a :: l, b :: m, h => by
    rw [List.zip_cons_cons, List.map_cons, zip_fst (Nat.succ.inj h)]
  | [], _ :: _, h => nomatch h
  | _ :: _, [], h => nomatch h
theorem zip_snd_mem {α β : Type} {l : List α} {m : List β} {p : α × β} (h : p ∈ l.zip m) : p.2 ∈ m := (List.of_mem_zip h).2
theorem io_cg {k : Kd} {b x : Rk k} (pb : Ps b) : io (rst x b) = 0 ↔ Cg b x 0 := io_eq_zero.trans (rst_zero pb)
theorem cg_sub {k : Kd} {b x y a : Rk k} : Cg b (y - (x + a)) 0 ↔ Cg b (y - x) a := by
  constructor
  · rintro ⟨c, hc⟩
    exact ⟨c, by rw [← hc]; grind⟩
  · rintro ⟨c, hc⟩
    exact ⟨c, by rw [← hc]; grind⟩
theorem szl_bits {n : Nat} {a : Rk .b} (h : Szr n a) : len a.n ≤ n := sz_len.mp h
section
variable {P : Program} {w : World} {K : PySem.W.Frag} {mg : Str → Option Value} {base : Heap}
def f_keeps_in : List D → D → Prop := fun ds d => ∃ (k : Kd) (l : Ln Str (Rk k)) (ws : List (Str × Rk k)) (x y : Rk k), ds = [.str (kd k), lnD l, wdD ws] ∧ d = .bl true ∧ (ws.map Prod.fst).Nodup ∧ (l.1, x) ∈ ws ∧ (l.2.1, y) ∈ ws ∧ Ps l.2.2.2 ∧ Szr 9000 l.2.2.2 ∧ Szr 9000 l.2.2.1 ∧ Szr 2000 x ∧ Szr 2000 y ∧ Cg l.2.2.2 (y - x) l.2.2.1
theorem s_keeps_in : FnScope [("kind" : Str), ("line" : Str), ("words" : Str), ("one" : Str), ("other" : Str), ("ahead" : Str), ("by" : Str)] ["kind", "line", "words"] (defScope (Hd.top 40)) := ⟨rfl, rfl, rfl, by decide +kernel, rfl, by decide +kernel, by decide +kernel⟩
theorem c_keeps_in (T : Tx K mg) (k : Nat) : Cal P w K mg base (k + 4) "keeps_in" (spD K f_keeps_in) := by
  have c_is_multiple_in := c_is_multiple_in (P := P) (w := w) (base := base) T k
  have c_less_in := c_less_in (P := P) (w := w) (base := base) T k
  have c_add_in := c_add_in (P := P) (w := w) (base := base) T k
  have sc := s_keeps_in
  refine cal_of (k := k + 3) T 26 26 rfl rfl s_keeps_in (fun _ _ _ _ _ _ us hl => match us, hl with | [_, _, _], _ => rfl) (fun vs H Q E h => spD_len h (n := 3) (by rintro _ _ ⟨k, l, ws, x, y, rfl, rfl, nd, hx, hy, pb, sb, sa, sx, sy, hc⟩; rfl)) fun cdv A outer s H vs Q E hr h => ⟨_, PSs.nox (pss_cons (ps_asg (pv 1) (pg_tup rfl (pgs_cons (pg_name (i := 3) sc.nd rfl (Or.inl rfl)) (pgs_cons (pg_name (i := 4) sc.nd rfl (Or.inl rfl)) (pgs_cons (pg_name (i := 5) sc.nd rfl (Or.inl rfl)) (pgs_cons (pg_name (i := 6) sc.nd rfl (Or.inl rfl)) pgs_nil)))))) (pss_one (ps_ret (pe_c c_is_multiple_in hr (by omega) (by rfl) (pa_cons (pv 0) (pa_cons (pe_c c_less_in hr (by omega) (by rfl) (pa_cons (pv 0) (pa_cons (pe_dget (hu_of hr) (pv 2) (pv 4) (fun _ _ => rfl)) (pa_cons (pe_c c_add_in hr (by omega) (by rfl) (pa_cons (pv 0) (pa_cons (pe_dget (hu_of hr) (pv 2) (pv 3) (fun _ _ => rfl)) (pa_cons (pv 5) pa_nil)))) pa_nil)))) (pa_cons (pv 6) pa_nil))))))), spD_run h ?_⟩
  clear h
  rintro ds d ⟨k, l, ws, x, y, rfl, rfl, nd, hx, hy, pb, sb, sa, sx, sy, hc⟩
  show WS K none _ [some (false, _), some (false, _), some (false, _), none, none, none, none] _ _
  refine ws_seq (ws_asg (ev_var rfl) (wg_tup rfl (wgs_cons (wg_name (wgs_cons (wg_name (wgs_cons (wg_name (wgs_cons (wg_name (wgs_nil ?_)))))))))))
  refine ws_ret (ev_is (ev_call (ea_cons (ev_var rfl) (ea_cons (ev_call (ea_cons (ev_var rfl) (ea_cons (ev_dgetK (k := .inr l.2.1) rfl (ev_var rfl) (ev_var rfl) (dV_wd nd hy)) (ea_cons (ev_call (ea_cons (ev_var rfl) (ea_cons (ev_dgetK (k := .inr l.1) rfl (ev_var rfl) (ev_var rfl) (dV_wd nd hx)) (ea_cons (ev_var rfl) ea_nil))) ⟨k, x, l.2.2.1, rfl, rfl⟩) ea_nil))) ⟨k, y, x + l.2.2.1, rfl, rfl⟩) (ea_cons (ev_var rfl) ea_nil)))
    ⟨k, y - (x + l.2.2.1), l.2.2.2, 20000, rfl, rfl, pb.cnt, sb, (sz_subR (n := 9001) (sy.mono (by omega)) (sz_addR (sx.mono (by omega)) sa)).mono (by omega), by omega⟩) ?_) rfl
  exact congrArg D.bl (decide_eq_true ((io_cg pb).mpr (cg_sub.mpr hc)))

def f_denied_in : List D → D → Prop := fun ds d => ∃ (k : Kd) (P : Rk k) (c : Cs Str (Rk k)) (ps : List (Str × Str)) (ws : List (Str × Rk k)), ds = [.str (kd k), clD ps c, wdD ws] ∧ d = .non ∧ Ok' P c ∧ (ws.map Prod.fst).Nodup ∧ (∀ n ∈ ws.map Prod.fst, n ∈ NAMES) ∧ ws.length < 64 ∧ (∀ a ∈ ws.map Prod.fst, ∀ b ∈ ws.map Prod.fst, a ≠ b → (a, b) ∈ ps) ∧ (∀ p ∈ ws, Szr 2000 p.2) ∧
  ∀ p ∈ ws, ∀ q ∈ ws, p.1 ≠ q.1 → S c p.1 q.1 (q.2 - p.2)
theorem wdM_keys {k : Kd} (ws : List (Str × Rk k)) : (wdM ws).map (·.1) = (ws.map Prod.fst).map Sum.inr := by
  unfold wdM
  rw [List.map_map, List.map_map]
  rfl
theorem s_denied_in : FnScope [("kind" : Str), ("closed" : Str), ("words" : Str), ("names" : Str), ("at" : Str), ("one" : Str), ("other" : Str), ("ahead" : Str), ("by" : Str)] ["kind", "closed", "words"] (defScope (Hd.top 50)) := ⟨rfl, rfl, rfl, by decide +kernel, rfl, by decide +kernel, by decide +kernel⟩
theorem c_denied_in (T : Tx K mg) (k : Nat) : Cal P w K mg base (k + 4) "denied_in" (spD K f_denied_in) := by
  have c_is_multiple_in := c_is_multiple_in (P := P) (w := w) (base := base) T k
  have c_less_in := c_less_in (P := P) (w := w) (base := base) T k
  have c_add_in := c_add_in (P := P) (w := w) (base := base) T k
  have sc := s_denied_in
  refine cal_of (k := k + 3) T 34 34 rfl rfl s_denied_in (fun _ _ _ _ _ _ us hl => match us, hl with | [_, _, _], _ => rfl) (fun vs H Q E h => spD_len h (n := 3) (by rintro _ _ ⟨k, P', c, ps, ws, rfl, rfl, ok, nd, hN, hl, hps, hz, hS⟩; rfl)) fun cdv A outer s H vs Q E hr h => ⟨_, PSs.nox (pss_cons (ps_set (i := 3) sc.nd rfl (Or.inl rfl) (pe_callB (call_sortedD rfl) (by rfl) (T.fr 88 rfl) (by decide +kernel) (pa_cons (pv 2) pa_nil))) (pss_cons (ps_for PassesOwn.never rfl (pi_enum (by rfl) (T.fr 79 rfl) (pa_cons (pv 3) pa_nil)) (pg_tup rfl (pgs_cons (pg_name (i := 4) sc.nd rfl (Or.inl rfl)) (pgs_cons (pg_name (i := 5) sc.nd rfl (Or.inl rfl)) pgs_nil))) (pss_one (ps_for PassesOwn.never rfl (pi_list (pe_slice sl_list (pv 3) (po_some (pe_op op_add (pv 4) pe_int)) po_none)) (pg_name (i := 6) sc.nd rfl (Or.inl rfl)) (pss_cons (ps_asg (pe_dget (hu_of hr) (pv 1) (pe_tup (pa_cons (pv 5) (pa_cons (pv 6) pa_nil))) (fun _ _ => rfl)) (pg_tup rfl (pgs_cons (pg_name (i := 7) sc.nd rfl (Or.inl rfl)) (pgs_cons (pg_name (i := 8) sc.nd rfl (Or.inl rfl)) pgs_nil)))) (pss_one (ps_if (pt_not (pt_val (pe_c c_is_multiple_in hr (by omega) (by rfl) (pa_cons (pv 0) (pa_cons (pe_c c_less_in hr (by omega) (by rfl) (pa_cons (pv 0) (pa_cons (pe_dget (hu_of hr) (pv 2) (pv 6) (fun _ _ => rfl)) (pa_cons (pe_c c_add_in hr (by omega) (by rfl) (pa_cons (pv 0) (pa_cons (pe_dget (hu_of hr) (pv 2) (pv 5) (fun _ _ => rfl)) (pa_cons (pv 7) pa_nil)))) pa_nil)))) (pa_cons (pv 8) pa_nil)))))) (pss_one (ps_ret (pe_tup (pa_cons (pv 5) (pa_cons (pv 6) (pa_cons (pv 7) (pa_cons (pv 8) pa_nil))))))) pss_nil)))))) (pss_one (ps_ret pe_non)))), spD_run h ?_⟩
  clear h
  rintro ds d ⟨k, P', c, ps, ws, rfl, rfl, ok, nd, hN, hl, hps, hz, hS⟩
  show WS K none _ [some (false, _), some (false, _), some (false, _), none, none, none, none, none, none] _ _
  have mN : ∀ n, n ∈ namesOf (ws.map Prod.fst) → n ∈ ws.map Prod.fst := fun n h => (mem_namesOf.mp h).2
  have lN := namesOf_len (ws.map Prod.fst)
  refine ws_seq (ws_set (en_cb (ea_cons (ev_var rfl) ea_nil) (ocn_sortedD (wdM_keys ws) hN nd (by rw [List.length_map]; exact hl))).ev ?_)
  refine ws_seq (ws_forE (js := [4, 5]) (fun i ρ' => ∃ (x4 x5 x6 x7 x8 : Option (Bool × D)), ρ' = [some (false, .str (kd k)), some (false, clD ps c), some (false, wdD ws), some (false, nmD (namesOf (ws.map Prod.fst))), x4, x5, x6, x7, x8]) (ea_cons (ev_var rfl) ea_nil) ⟨none, none, none, none, none, rfl⟩ ?_ ?_)
  · rintro i d ρ' hd ⟨x4, x5, x6, x7, x8, rfl⟩
    rw [List.getElem?_map, Option.map_eq_some_iff] at hd
    obtain ⟨a, ha, rfl⟩ := hd
    have hil : i < (namesOf (ws.map Prod.fst)).length := (List.getElem?_eq_some_iff.mp ha).1
    refine wg_tup rfl (wgs_cons (wg_name (wgs_cons (wg_name (wgs_nil ?_)))))
    refine ws_forL (js := [6]) (fun j ρ' => ∃ (x6 x7 x8 : Option (Bool × D)), ρ' = [some (false, .str (kd k)), some (false, clD ps c), some (false, wdD ws), some (false, nmD (namesOf (ws.map Prod.fst))), some (false, .int (i : Int)), some (false, .str a), x6, x7, x8])
      (ev_is (en_slL (ev_var rfl) (eo_some (ev_is (ev_op (ev_var rfl) ev_int op_i0) (show _ = D.int ((i + 1 : Nat) : Int) from rfl))) eo_none).ev (congrArg D.lst (cut_drop _ (i + 1) (by rw [List.length_map]; omega)))) ⟨x6, x7, x8, rfl⟩ ?_ ?_
    · rintro j d ρ' hd ⟨x6, x7, x8, rfl⟩
      rw [← List.map_drop, List.getElem?_map, Option.map_eq_some_iff] at hd
      obtain ⟨b, hb, rfl⟩ := hd
      have hb2 : (namesOf (ws.map Prod.fst))[i + 1 + j]? = some b := by rw [← List.getElem?_drop]; exact hb
      have ne : a ≠ b := fun z => by
        obtain ⟨h1, e1⟩ := List.getElem?_eq_some_iff.mp ha
        obtain ⟨h2, e2⟩ := List.getElem?_eq_some_iff.mp hb2
        have := (List.getElem_inj (namesOf_nodup _) (h₀ := h1) (h₁ := h2)).mp (e1.trans (z.trans e2.symm))
        omega
      have ma := mN a (List.mem_of_getElem? ha)
      have mb := mN b (List.mem_of_getElem? hb2)
      obtain ⟨⟨a', x⟩, hx, rfl⟩ := List.mem_map.mp ma
      obtain ⟨⟨b', y⟩, hy, rfl⟩ := List.mem_map.mp mb
      have pm := ok.ok.ps (a', b')
      have sx : Szr 2000 x := hz _ hx
      have sy : Szr 2000 y := hz _ hy
      refine wg_name (ws_seq (ws_asg (ev_dgetT (ks := kT (a', b')) (ev_var rfl) (ev_tup (ea_cons (ev_var rfl) (ea_cons (ev_var rfl) ea_nil)) (szb rfl)) (dV_cl c (hps _ ma _ mb ne))) (wg_tup rfl (wgs_cons (wg_name (wgs_cons (wg_name (wgs_nil ?_))))))))
      refine ws_ifno (et_nT (et_is (et_test (ev_call (ea_cons (ev_var rfl) (ea_cons (ev_call (ea_cons (ev_var rfl) (ea_cons (ev_dgetK (k := .inr b') rfl (ev_var rfl) (ev_var rfl) (dV_wd nd hy)) (ea_cons (ev_call (ea_cons (ev_var rfl) (ea_cons (ev_dgetK (k := .inr a') rfl (ev_var rfl) (ev_var rfl) (dV_wd nd hx)) (ea_cons (ev_var rfl) ea_nil))) ⟨k, x, (c (a', b')).1, rfl, rfl⟩) ea_nil))) ⟨k, y, x + (c (a', b')).1, rfl, rfl⟩) (ea_cons (ev_var rfl) ea_nil)))
        ⟨k, y - (x + (c (a', b')).1), (c (a', b')).2, 20000, rfl, rfl, pm.cnt, (ok.by _).mono (by omega), (sz_subR (n := 2001) (sy.mono (by omega)) (sz_addR sx ((ok.rest _).mono (show 1000 ≤ 2000 by omega)))).mono (by omega), by omega⟩)) ?_)) ⟨_, _, _, rfl⟩
      exact decide_eq_true ((io_cg pm).mpr (cg_sub.mpr (hS _ hx _ hy ne)))
    · rintro ρ' ⟨x6, x7, x8, rfl⟩
      exact ⟨_, _, _, _, _, rfl⟩
  · rintro ρ' ⟨x4, x5, x6, x7, x8, rfl⟩
    exact ws_ret ev_non rfl

def f_check_some : List D → D → Prop := fun ds d => ∃ (k : Kd) (ls : List (Ln Str (Rk k))) (ps : List (Str × Rk k)), ds = [bkD ls, .lst (ps.map pairD)] ∧ d = .non ∧ Bk ls ∧ (∀ p ∈ ps, p.1 ∈ nsOf ls) ∧ (ps.map (·.1)).Pairwise strLt ∧ ps.length ≤ 10000
theorem s_check_some : FnScope [("book" : Str), ("numbers" : Str), ("names" : Str), ("name" : Str), ("number" : Str)] ["book", "numbers"] (defScope (Hd.top 48)) := ⟨rfl, rfl, rfl, by decide +kernel, rfl, by decide +kernel, by decide +kernel⟩
theorem c_check_some (T : Tx K mg) (k : Nat) : Cal P w K mg base (k + 8) "check_some" (spD K f_check_some) := by
  have c_check_book := c_check_book (P := P) (w := w) (base := base) T k
  have c_names_in_lines := c_names_in_lines (P := P) (w := w) (base := base) T k
  have c_numbers_fit := c_numbers_fit (P := P) (w := w) (base := base) T k
  have sc := s_check_some
  refine cal_of (k := k + 7) T 32 32 rfl rfl s_check_some (fun _ _ _ _ _ _ us hl => match us, hl with | [_, _], _ => rfl) (fun vs H Q E h => spD_len h (n := 2) (by rintro _ _ ⟨k, ls, ps, rfl, rfl, b, hp, hs, hl⟩; rfl)) fun cdv A outer s H vs Q E hr h => ⟨_, PSs.nox (pss_cons (ps_expr (pe_c c_check_book hr (by omega) (by rfl) (pa_cons (pv 0) pa_nil))) (pss_cons (ps_if (pt_not (pt_val (pe_c c_numbers_fit hr (by omega) (by rfl) (pa_cons (pe_ix ix_tup (pv 0) pe_int (fun _ _ => rfl)) (pa_cons (pv 1) pa_nil))))) pss_never pss_nil) (pss_cons (ps_set (i := 2) sc.nd rfl (Or.inr rfl) (pe_c c_names_in_lines hr (by omega) (by rfl) (pa_cons (pe_ix ix_tup (pv 0) pe_int (fun _ _ => rfl)) pa_nil))) (pss_one (ps_if (pt_cmpR (op_neD hr.units) (pe_lc (own := [(("name" : Str), 3), (("number" : Str), 4)]) (g := gTup K 2 (gCons (gName 3) (gCons (gName 4) gNil))) rfl sc.nd  (pi_list (pv 1)) (blkOk_by (own := [(("name" : Str), 3), (("number" : Str), 4)]) (N := [("book" : Str), ("numbers" : Str), ("names" : Str), ("name" : Str), ("number" : Str)]) (sc := defScope (Hd.top 48)) (by decide +kernel)) (fun _ _ _ _ _ => (pg_tup rfl (pgs_cons (pg_name (i := 3) sc.nd rfl (Or.inl rfl)) (pgs_cons (pg_name (i := 4) sc.nd rfl (Or.inl rfl)) pgs_nil)))) (fun _ _ _ _ _ => (pts_one (pt_cmpR (show OpR _ _ (rIn K true) from op_notIn_seq) (pv 3) (pv 2) (by rfl)))) (fun _ _ _ _ _ => (pv 3))) (pe_lst pa_nil) (nomark _)) pss_never pss_nil))))), spD_run h ?_⟩
  clear h
  rintro ds d ⟨k, ls, ps, rfl, rfl, b, hp, hs, hl⟩
  show WS K none _ [some (false, _), some (false, _), none, none, none] _ _
  refine ws_seq (ws_drop (ev_call (ea_cons (ev_var rfl) ea_nil) ⟨k, ls, rfl, rfl, b⟩) ?_)
  refine ws_seq (ws_ifno (et_nT (et_test (ev_call (ea_cons (ev_op (ev_var rfl) ev_int (op_ixT rfl)) (ea_cons (ev_var rfl) ea_nil)) ⟨k, ps, rfl, rfl, fun p h => (mem_namesOf.mp (hp p h)).1, hs, hl⟩))) ?_)
  refine ws_seq (ws_set (ev_call (ea_cons (ev_op (ev_var rfl) ev_int (op_ixT rfl)) ea_nil) ⟨k, ls, rfl, rfl, b⟩) ?_)
  refine ws_ifno (et_test (ev_op (en_lcNone (js := [3, 4]) (ei_list (ev_var rfl)) (len_szl (by rw [List.length_map]; omega)) (by decide) fun d hd => ?_).ev (ev_lst ea_nil (szb rfl)) op_ne00)) rfl
  obtain ⟨p, hm, rfl⟩ := List.mem_map.mp hd
  refine wg_tup rfl (wgs_cons (wg_name (wgs_cons (wg_name (wgs_nil ?_)))))
  refine et_is (et_test (ev_op (ev_var rfl) (ev_var rfl) op_ninLS)) ?_
  rw [decide_eq_true (hp p hm)]
  rfl

def f_is_within : List D → D → Prop := fun ds d => ∃ (k : Kd) (P x : Rk k), ds = [.str (kd k), iD P, iD x] ∧ d = .bl true ∧ red P x
theorem s_is_within : FnScope [("kind" : Str), ("period" : Str), ("value" : Str)] ["kind", "period", "value"] (defScope (Hd.top 63)) := ⟨rfl, rfl, rfl, by decide +kernel, rfl, by decide +kernel, by decide +kernel⟩
theorem c_is_within (T : Tx K mg) (k : Nat) : Cal P w K mg base (k + 3) "is_within" (spD K f_is_within) := by
  have c_is_count := c_is_count (P := P) (w := w) (base := base) T k
  have sc := s_is_within
  refine cal_of (k := k + 2) T 45 45 rfl rfl s_is_within (fun _ _ _ _ _ _ us hl => match us, hl with | [_, _, _], _ => rfl) (fun vs H Q E h => spD_len h (n := 3) (by rintro _ _ ⟨k, P', x, rfl, rfl, hx⟩; rfl)) fun cdv A outer s H vs Q E hr h => ⟨_, PSs.nox (pss_cons (ps_if (pt_not (pt_val (pe_c c_is_count hr (by omega) (by rfl) (pa_cons (pv 2) pa_nil)))) (pss_one (ps_ret pe_bl)) pss_nil) (pss_one (ps_ret (pe_ifExp (pt_cmpR (op_eq) (pv 0) pe_str (nomark _)) (pe_cmpR (op_lt) (pv 2) (pv 1) (nomark _)) (pe_cmpR (op_lt) (pe_bits (pv 2)) (pe_bits (pv 1)) (nomark _)))))), spD_run h ?_⟩
  clear h
  rintro ds d ⟨k, P', x, rfl, rfl, hx⟩
  show WS K none _ [some (false, _), some (false, _), some (false, _)] _ _
  refine ws_seq (ws_ifno (et_nT (et_is (et_test (ev_call (ea_cons (ev_var rfl) ea_nil) ⟨io x, rfl, rfl⟩)) (decide_eq_true (red_cnt hx)))) ?_)
  refine ws_ret ?_ rfl
  cases k
  · have h : @LT.lt Int _ x P' := hx.2
    exact ev_ifT (et_h (ev_var rfl)) (ev_is (ev_op (ev_var rfl) (ev_var rfl) op_b0) (congrArg D.bl (decide_eq_true h)))
  · have h : len x.n < len P'.n := hx
    refine ev_ifF (et_b (ev_var rfl)) (ev_is (ev_op (ev_bits (ev_var rfl)) (ev_bits (ev_var rfl)) op_b0) ?_)
    rw [io_b, io_b, bits_nat, bits_nat]
    exact congrArg D.bl (decide_eq_true (by omega))

/-- a row of a book, by a period -/
structure RowOf {k : Kd} (P : Rk k) (ls : List (Ln Str (Rk k))) (xs : List (Rk k)) : Prop where
  b : BkP P ls
  len : xs.length = (nsOf ls).length
  red : ∀ x ∈ xs, red P x
  keeps : ∀ l ∈ byRests P ls, keepsL l (asg (nsOf ls) xs)
def f_row_keeps : List D → D → Prop := fun ds d => ∃ (k : Kd) (P : Rk k) (ls : List (Ln Str (Rk k))) (xs : List (Rk k)), ds = [bkD ls, iD P, rwD xs] ∧ d = .bl true ∧ RowOf P ls xs
theorem s_row_keeps : FnScope [("book" : Str), ("period" : Str), ("value" : Str), ("names" : Str), ("words" : Str), ("item" : Str), ("line" : Str)] ["book", "period", "value"] (defScope (Hd.top 64)) := ⟨rfl, rfl, rfl, by decide +kernel, rfl, by decide +kernel, by decide +kernel⟩
theorem c_row_keeps (T : Tx K mg) (k : Nat) : Cal P w K mg base (k + 5) "row_keeps" (spD K f_row_keeps) := by
  have c_names_in_lines := c_names_in_lines (P := P) (w := w) (base := base) T k
  have c_by_rests := c_by_rests (P := P) (w := w) (base := base) T k
  have c_is_within := c_is_within (P := P) (w := w) (base := base) T k
  have c_keeps_in := c_keeps_in (P := P) (w := w) (base := base) T k
  have sc := s_row_keeps
  refine cal_of (k := k + 4) T 46 46 rfl rfl s_row_keeps (fun _ _ _ _ _ _ us hl => match us, hl with | [_, _, _], _ => rfl) (fun vs H Q E h => spD_len h (n := 3) (by rintro _ _ ⟨k, P', ls, xs, rfl, rfl, r⟩; rfl)) fun cdv A outer s H vs Q E hr h => ⟨_, PSs.nox (pss_cons (ps_set (i := 3) sc.nd rfl (Or.inl rfl) (pe_c c_names_in_lines hr (by omega) (by rfl) (pa_cons (pe_ix ix_tup (pv 0) pe_int (fun _ _ => rfl)) pa_nil))) (pss_cons (ps_if (PW.pt (pw_or (pt_not (pt_val (pe_callB call_isi (by rfl) (T.fr 81 rfl) (by decide +kernel) (pa_cons (pv 2) (pa_cons (pe_bltn (v := .ty "list") (by rfl) (T.fr 83 rfl) (by decide +kernel) rfl) pa_nil))))) (pw_or1 (pt_cmpR (op_ne) (pe_callB call_len_seq (by rfl) (T.fr 82 rfl) (by decide +kernel) (pa_cons (pv 2) pa_nil)) (pe_callB call_len_seq (by rfl) (T.fr 82 rfl) (by decide +kernel) (pa_cons (pv 3) pa_nil)) (nomark _))))) (pss_one (ps_ret pe_bl)) pss_nil) (pss_cons (ps_if (pt_cmpR (op_neD hr.units) (pe_lc (own := [(("item" : Str), 5)]) (g := gName 5) rfl sc.nd  (pi_list (pv 2)) (blkOk_by (own := [(("item" : Str), 5)]) (N := [("book" : Str), ("period" : Str), ("value" : Str), ("names" : Str), ("words" : Str), ("item" : Str), ("line" : Str)]) (sc := defScope (Hd.top 64)) (by decide +kernel)) (fun _ _ _ _ _ => (pg_name (i := 5) sc.nd rfl (Or.inl rfl))) (fun _ _ _ _ _ => (pts_one (pt_not (pt_val (pe_c c_is_within hr (by omega) (by rfl) (pa_cons (pe_ix (show IxR _ (rIxT K) from ix_tup) (pv 0) pe_int (fun _ _ => rfl)) (pa_cons (pv 1) (pa_cons (pv 5) pa_nil)))))))) (fun _ _ _ _ _ => (pv 5))) (pe_lst pa_nil) (nomark _)) (pss_one (ps_ret pe_bl)) pss_nil) (pss_cons (ps_set (i := 4) sc.nd rfl (Or.inr rfl) (pe_dictZip rfl (by rfl) (T.fr 78 rfl) (by rfl) (T.fr 92 rfl) (pa_cons (pv 3) (pa_cons (pv 2) pa_nil)) pe_bl)) (pss_one (ps_ret (pe_cmpR (op_eqD hr.units) (pe_lc (own := [(("line" : Str), 6)]) (g := gName 6) rfl sc.nd  (pi_list (pe_c c_by_rests hr (by omega) (by rfl) (pa_cons (pv 0) (pa_cons (pv 1) pa_nil)))) (blkOk_by (own := [(("line" : Str), 6)]) (N := [("book" : Str), ("period" : Str), ("value" : Str), ("names" : Str), ("words" : Str), ("item" : Str), ("line" : Str)]) (sc := defScope (Hd.top 64)) (by decide +kernel)) (fun _ _ _ _ _ => (pg_name (i := 6) sc.nd rfl (Or.inl rfl))) (fun _ _ _ _ _ => (pts_one (pt_not (pt_val (pe_c c_keeps_in hr (by omega) (by rfl) (pa_cons (pe_ix (show IxR _ (rIxT K) from ix_tup) (pv 0) pe_int (fun _ _ => rfl)) (pa_cons (pv 6) (pa_cons (pv 4) pa_nil)))))))) (fun _ _ _ _ _ => (pv 6))) (pe_lst pa_nil) (nomark _)))))))), spD_run h ?_⟩
  clear h
  rintro ds d ⟨k, P', ls, xs, rfl, rfl, r⟩
  show WS K none _ [some (false, _), some (false, _), some (false, _), none, none, none, none] _ _
  have b := r.b
  have hln := nsOf_len ls
  have hrl := r.len
  refine ws_seq (ws_set (ev_call (ea_cons (ev_op (ev_var rfl) ev_int (op_ixT rfl)) ea_nil) ⟨k, ls, rfl, rfl, b.bk⟩) ?_)
  refine ws_seq (ws_ifno (et_is (et_or (et_nT (et_test (ev_isi (ev_var rfl) rfl kit_same))) fun _ => et_test (ev_op (ev_cb (ea_cons (ev_var rfl) ea_nil) (op_lenL rfl)) (ev_cb (ea_cons (ev_var rfl) ea_nil) (op_lenL rfl)) op_neI)) ?_) ?_)
  · rw [List.length_map, List.length_map, hrl]
    simp
  refine ws_seq (ws_ifno (et_test (ev_op (en_lcNone (js := [5]) (ei_list (ev_var rfl)) (len_szl (by rw [List.length_map]; omega)) (by decide) fun d hd => ?_).ev (ev_lst ea_nil (szb rfl)) op_ne00)) ?_)
  · obtain ⟨x, hm, rfl⟩ := List.mem_map.mp hd
    exact wg_name (et_nT (et_test (ev_call (ea_cons (ev_op (ev_var rfl) ev_int (op_ixT rfl)) (ea_cons (ev_var rfl) (ea_cons (ev_var rfl) ea_nil))) ⟨k, P', x, rfl, rfl, r.red x hm⟩)))
  refine ws_seq (ws_set (ev_is (en_dictZip (ev_var rfl) (ev_var rfl) ev_bl (by rw [List.length_map]; exact hrl.symm) (nsOf_nd ls)).ev (show _ = wdD ((nsOf ls).zip xs) from congrArg D.dK wdZ_eq)) ?_)
  have hz := zip_fst hrl.symm
  refine ws_ret (ev_op (en_lcNone (js := [6]) (ei_list (ev_call (ea_cons (ev_var rfl) (ea_cons (ev_var rfl) ea_nil)) ⟨k, P', ls, rfl, rfl, b⟩)) (len_szl (by rw [List.length_map, byRests_len]; have := b.bk.ln; omega)) (by decide) fun d hd => ?_).ev (ev_lst ea_nil (szb rfl)) op_eq00) rfl
  obtain ⟨l, hm, rfl⟩ := List.mem_map.mp hd
  have gl := b.good.gl l hm
  obtain ⟨n1, n2⟩ := b.good.nm l hm
  obtain ⟨x, hx⟩ := zip_mem hrl n1
  obtain ⟨y, hy⟩ := zip_mem hrl n2
  have kp := r.keeps l hm
  have kp : Cg l.2.2.2 (asg (nsOf ls) xs l.2.1 - asg (nsOf ls) xs l.1) l.2.2.1 := kp
  rw [asg_mem (nsOf_nd ls) hx, asg_mem (nsOf_nd ls) hy] at kp
  have sx : Szr 200 x := sz_red (r.red _ (zip_snd_mem hx)) b.sP
  have sy : Szr 200 y := sz_red (r.red _ (zip_snd_mem hy)) b.sP
  have sb : Szr 200 l.2.2.2 := sz_dv gl.dv b.pP gl.ps.cnt b.sP
  exact wg_name (et_nT (et_test (ev_call (ea_cons (ev_op (ev_var rfl) ev_int (op_ixT rfl)) (ea_cons (ev_var rfl) (ea_cons (ev_var rfl) ea_nil))) ⟨k, l, (nsOf ls).zip xs, x, y, rfl, rfl, by rw [hz]; exact nsOf_nd ls, hx, hy, gl.ps, sb.mono (by omega), (b.good.sz l hm).mono (by omega), sx.mono (by omega), sy.mono (by omega), kp⟩)))

def f_keeps_row : List D → D → Prop := fun ds d => ∃ (k : Kd) (P : Rk k) (ls : List (Ln Str (Rk k))) (xs : List (Rk k)), ds = [bkD ls, iD P, rwD xs] ∧ d = .bl true ∧ RowOf P ls xs
theorem s_keeps_row : FnScope [("book" : Str), ("period" : Str), ("value" : Str)] ["book", "period", "value"] (defScope (Hd.top 65)) := ⟨rfl, rfl, rfl, by decide +kernel, rfl, by decide +kernel, by decide +kernel⟩
theorem c_keeps_row (T : Tx K mg) (k : Nat) : Cal P w K mg base (k + 9) "keeps_row" (spD K f_keeps_row) := by
  have c_check_period := c_check_period (P := P) (w := w) (base := base) T k
  have c_row_keeps := c_row_keeps (P := P) (w := w) (base := base) T k
  have sc := s_keeps_row
  refine cal_of (k := k + 8) T 47 47 rfl rfl s_keeps_row (fun _ _ _ _ _ _ us hl => match us, hl with | [_, _, _], _ => rfl) (fun vs H Q E h => spD_len h (n := 3) (by rintro _ _ ⟨k, P', ls, xs, rfl, rfl, r⟩; rfl)) fun cdv A outer s H vs Q E hr h => ⟨_, PSs.nox (pss_cons (ps_expr (pe_c c_check_period hr (by omega) (by rfl) (pa_cons (pv 0) (pa_cons (pv 1) pa_nil)))) (pss_one (ps_ret (pe_c c_row_keeps hr (by omega) (by rfl) (pa_cons (pv 0) (pa_cons (pv 1) (pa_cons (pv 2) pa_nil))))))), spD_run h ?_⟩
  clear h
  rintro ds d ⟨k, P', ls, xs, rfl, rfl, r⟩
  show WS K none _ [some (false, _), some (false, _), some (false, _)] _ _
  refine ws_seq (ws_drop (ev_call (ea_cons (ev_var rfl) (ea_cons (ev_var rfl) ea_nil)) ⟨k, P', ls, rfl, rfl, r.b⟩) ?_)
  exact ws_ret (ev_call (ea_cons (ev_var rfl) (ea_cons (ev_var rfl) (ea_cons (ev_var rfl) ea_nil))) ⟨k, P', ls, xs, rfl, rfl, r⟩) rfl

def f_check_row : List D → D → Prop := fun ds d => ∃ (k : Kd) (P : Rk k) (ls : List (Ln Str (Rk k))) (xs : List (Rk k)), ds = [bkD ls, iD P, rwD xs] ∧ d = .non ∧ RowOf P ls xs
theorem s_check_row : FnScope [("book" : Str), ("period" : Str), ("row" : Str)] ["book", "period", "row"] (defScope (Hd.top 70)) := ⟨rfl, rfl, rfl, by decide +kernel, rfl, by decide +kernel, by decide +kernel⟩
theorem c_check_row (T : Tx K mg) (k : Nat) : Cal P w K mg base (k + 9) "check_row" (spD K f_check_row) := by
  have c_check_period := c_check_period (P := P) (w := w) (base := base) T k
  have c_row_keeps := c_row_keeps (P := P) (w := w) (base := base) T k
  have sc := s_check_row
  refine cal_of (k := k + 8) T 52 52 rfl rfl s_check_row (fun _ _ _ _ _ _ us hl => match us, hl with | [_, _, _], _ => rfl) (fun vs H Q E h => spD_len h (n := 3) (by rintro _ _ ⟨k, P', ls, xs, rfl, rfl, r⟩; rfl)) fun cdv A outer s H vs Q E hr h => ⟨_, PSs.nox (pss_cons (ps_expr (pe_c c_check_period hr (by omega) (by rfl) (pa_cons (pv 0) (pa_cons (pv 1) pa_nil)))) (pss_one (ps_if (pt_not (pt_val (pe_c c_row_keeps hr (by omega) (by rfl) (pa_cons (pv 0) (pa_cons (pv 1) (pa_cons (pv 2) pa_nil)))))) pss_never pss_nil))), spD_run h ?_⟩
  clear h
  rintro ds d ⟨k, P', ls, xs, rfl, rfl, r⟩
  show WS K none _ [some (false, _), some (false, _), some (false, _)] _ _
  refine ws_seq (ws_drop (ev_call (ea_cons (ev_var rfl) (ea_cons (ev_var rfl) ea_nil)) ⟨k, P', ls, rfl, rfl, r.b⟩) ?_)
  exact ws_ifno (et_nT (et_test (ev_call (ea_cons (ev_var rfl) (ea_cons (ev_var rfl) (ea_cons (ev_var rfl) ea_nil))) ⟨k, P', ls, xs, rfl, rfl, r⟩))) rfl

end
end J

/-! ## W8 -/
/-! Rows by their numbers. -/
namespace J
open PySem PySem.Spec PyProof.Rows L2 Q
open KR
section
variable {k : Kd} {P : Rk k} {ls : List (Ln Str (Rk k))} {c : Cs Str (Rk k)}
theorem BkP.nm (b : BkP P ls) (h : clo P ls = some c) : Nm P (byRests P ls) (nsOf ls) c (nsOf ls) := ⟨b.cl h, nsOf_nd ls, fun _ h => h⟩
theorem ns_split {os : List Str} {i : Nat} {n : Str} (h : os[i]? = some n) : os.drop i = n :: os.drop (i + 1) ∧ os.take (i + 1) = os.take i ++ [n] := by
  obtain ⟨h1, h2⟩ := List.getElem?_eq_some_iff.mp h
  refine ⟨?_, by rw [List.take_add_one, h]; rfl⟩
  rw [List.drop_eq_getElem_cons h1, h2]
theorem prod_drop (os : List Str) (i : Nat) : (basesF P c [] os).drop i = basesF P c (os.take i) (os.drop i) := basesF_drop i [] os
theorem nodup_split {os : List Str} {i : Nat} {n : Str} (nd : os.Nodup) (h : os[i]? = some n) : n ∉ os.take i := fun hm => by
  obtain ⟨q, hq, e⟩ := List.mem_iff_getElem.mp hm
  rw [List.length_take] at hq
  rw [List.getElem_take] at e
  obtain ⟨h1, en⟩ := List.getElem?_eq_some_iff.mp h
  have := (List.getElem_inj nd (h₀ := by omega) (h₁ := h1)).mp (e.trans en.symm)
  omega
/-- the words of a row, read in the order of the names -/
def wdAt (m : List (Key × D)) : D → D
  | .str s => (dV m (.inr s)).getD .non
  | _ => .non
theorem wdAt_all {ws : List (Str × Rk k)} (nd : (ws.map Prod.fst).Nodup) : ∀ {us : List (Str × Rk k)}, (∀ p ∈ us, p ∈ ws) → (us.map Prod.fst).map (fun s => wdAt (wdM ws) (D.str s)) = (us.map Prod.snd).map fun x => iD x
  | [], _ => rfl
  | p :: us, h => by
    have ih := wdAt_all nd (us := us) fun q hq => h q (List.mem_cons_of_mem _ hq)
    rw [List.map_cons, List.map_cons, List.map_cons, List.map_cons, ih]
    have e : dV (wdM ws) (.inr p.1) = some (iD p.2) := dV_wd nd (h p (List.mem_cons_self ..))
    show ((dV (wdM ws) (.inr p.1)).getD .non) :: _ = _
    rw [e]
    rfl
theorem wdAt_row {ws : List (Str × Rk k)} (nd : (ws.map Prod.fst).Nodup) : pick (fun _ => true) (wdAt (wdM ws)) ((ws.map Prod.fst).map D.str) = (ws.map Prod.snd).map fun x => iD x := by
  have h := wdAt_all nd (us := ws) fun _ h => h
  unfold pick
  rw [List.filter_eq_self.mpr fun _ _ => rfl, List.map_map]
  exact h
theorem basesF_pos {ms os : List Str} {n : Nat} (h : n < prodN (basesF P c ms os)) : 0 < prodN (basesF P c ms os) := by omega
theorem prod_sz (ok : Ok P c) (pP : Ps P) (sP : Szr 200 P) {ms os : List Str} (h : os.length ≤ 10) : prodN (basesF P c ms os) < 2 ^ 2001 := by
  refine Nat.lt_of_lt_of_le (prodN_sz (basesF_sz ok pP sP)) (Nat.pow_le_pow_right (by decide) ?_)
  rw [basesF_len]
  omega
end
section
variable {P : Program} {w : World} {K : PySem.W.Frag} {mg : Str → Option Value} {base : Heap}
def f_row_in : List D → D → Prop := fun ds d => ∃ (k : Kd) (P : Rk k) (ls : List (Ln Str (Rk k))) (c : Cs Str (Rk k)) (n : Nat), ds = [bkD ls, iD P, clD (pairs (nsOf ls)) c, .int (n : Int)] ∧ d = rwD (rowF P c [] (nsOf ls) n) ∧ BkP P ls ∧ clo P ls = some c ∧ n < prodN (basesF P c [] (nsOf ls))
theorem s_row_in : FnScope [("book" : Str), ("period" : Str), ("closed" : Str), ("number" : Str), ("names" : Str), ("bases" : Str), ("words" : Str), ("left" : Str), ("at" : Str), ("name" : Str), ("later" : Str), ("rest" : Str), ("by" : Str)] ["book", "period", "closed", "number"] (defScope (Hd.top 67)) := ⟨rfl, rfl, rfl, by decide +kernel, rfl, by decide +kernel, by decide +kernel⟩
theorem c_row_in (T : Tx K mg) (k : Nat) : Cal P w K mg base (k + 7) "row_in" (spN K f_row_in) := by
  have c_names_in_lines := c_names_in_lines (P := P) (w := w) (base := base) T k
  have c_bases_in := c_bases_in (P := P) (w := w) (base := base) T k
  have c_product_of := c_product_of (P := P) (w := w) (base := base) T k
  have c_told_rest := c_told_rest (P := P) (w := w) (base := base) T k
  have c_choice_at := c_choice_at (P := P) (w := w) (base := base) T k
  have sc := s_row_in
  refine cal_of (k := k + 6) T 49 49 rfl rfl s_row_in (fun _ _ _ _ _ _ us hl => match us, hl with | [_, _, _, _], _ => rfl) (fun vs H Q E h => spN_len h (n := 4) (by rintro _ _ ⟨k, P', ls, c, n, rfl, rfl, b, hc, hn⟩; rfl)) fun cdv A outer s H vs Q E hr h => ⟨_, PSs.nox (pss_cons (ps_set (i := 4) sc.nd rfl (Or.inl rfl) (pe_c c_names_in_lines hr (by omega) (by rfl) (pa_cons (pe_ix ix_tup (pv 0) pe_int (fun _ _ => rfl)) pa_nil))) (pss_cons (ps_asg (pe_tup (pa_cons (pe_c c_bases_in hr (by omega) (by rfl) (pa_cons (pe_ix ix_tup (pv 0) pe_int (fun _ _ => rfl)) (pa_cons (pv 1) (pa_cons (pv 2) (pa_cons (pv 4) pa_nil))))) (pa_cons pe_dnewK (pa_cons (pv 3) pa_nil)))) (pg_tup rfl (pgs_cons (pg_name (i := 5) sc.nd rfl (Or.inl rfl)) (pgs_cons (pg_name (i := 6) sc.nd rfl (Or.inr rfl)) (pgs_cons (pg_name (i := 7) sc.nd rfl (Or.inl rfl)) pgs_nil))))) (pss_cons (ps_for PassesOwn.never rfl (pi_enum (by rfl) (T.fr 79 rfl) (pa_cons (pv 4) pa_nil)) (pg_tup rfl (pgs_cons (pg_name (i := 8) sc.nd rfl (Or.inl rfl)) (pgs_cons (pg_name (i := 9) sc.nd rfl (Or.inl rfl)) pgs_nil))) (pss_cons (ps_set (i := 10) sc.nd rfl (Or.inl rfl) (pe_c c_product_of hr (by omega) (by rfl) (pa_cons (pe_slice sl_list (pv 5) (po_some (pe_op op_add (pv 8) pe_int)) po_none) pa_nil))) (pss_cons (ps_asg (pe_c c_told_rest hr (by omega) (by rfl) (pa_cons (pe_ix ix_tup (pv 0) pe_int (fun _ _ => rfl)) (pa_cons (pv 2) (pa_cons (pv 6) (pa_cons (pv 9) pa_nil))))) (pg_tup rfl (pgs_cons (pg_name (i := 11) sc.nd rfl (Or.inl rfl)) (pgs_cons (pg_name (i := 12) sc.nd rfl (Or.inl rfl)) pgs_nil)))) (pss_cons (ps_dput (hu_of hr) (pv 6) (pv 9) (pe_c c_choice_at hr (by omega) (by rfl) (pa_cons (pe_ix ix_tup (pv 0) pe_int (fun _ _ => rfl)) (pa_cons (pv 11) (pa_cons (pv 12) (pa_cons (pe_op op_fdivW (pv 7) (pv 10)) pa_nil))))) rfl) (pss_one (ps_set (i := 7) sc.nd rfl (Or.inl rfl) (pe_op op_modN (pv 7) (pv 10)))))))) (pss_one (ps_ret (pe_lc (own := [(("name" : Str), 9)]) (g := gName 9) rfl sc.nd  (pi_list (pv 4)) (blkOk_by (own := [(("name" : Str), 9)]) (N := [("book" : Str), ("period" : Str), ("closed" : Str), ("number" : Str), ("names" : Str), ("bases" : Str), ("words" : Str), ("left" : Str), ("at" : Str), ("name" : Str), ("later" : Str), ("rest" : Str), ("by" : Str)]) (sc := defScope (Hd.top 67)) (by decide +kernel)) (fun _ _ _ _ _ => (pg_name (i := 9) sc.nd rfl (Or.inl rfl))) (fun _ _ _ _ _ => pts_nil) (fun _ _ _ _ _ => (pe_dget (hu_of hr) (pv 6) (pv 9) (fun _ _ => rfl))))))))), spN_run h ?_⟩
  clear h
  rintro ds d ⟨k, P', ls, c, n, rfl, rfl, b, hc, hn⟩
  show WN K _ [some (false, _), some (false, _), some (false, _), some (false, _), none, none, none, none, none, none, none, none, none] _
  have ok := b.ok hc
  have nm := b.nm hc
  have hln := nsOf_len ls
  refine wn_seq (ws_set (ev_call (ea_cons (ev_op (ev_var rfl) ev_int (op_ixT rfl)) ea_nil) ⟨k, ls, rfl, rfl, b.bk⟩) ?_)
  refine wn_seq (ws_tup3N (by decide) (by decide) (.inr (.inl rfl)) lays_dK (we_ev (ev_call (ea_cons (ev_op (ev_var rfl) ev_int (op_ixT rfl)) (ea_cons (ev_var rfl) (ea_cons (ev_var rfl) (ea_cons (ev_var rfl) ea_nil)))) ⟨k, P', c, pairs (nsOf ls), nsOf ls, rfl, rfl, ok, by omega, nsOf_nd ls, nsOf_pairs ls⟩) (we_ev (ev_var rfl) ?_)))
  refine wn_seq (ws_forE (js := [8, 9]) (fun i ρ' => ∃ (pre : List (Str × Rk k)) (left : Nat) (x8 x9 x10 x11 x12 : Option (Bool × D)), ρ' = [some (false, bkD ls), some (false, iD P'), some (false, clD (pairs (nsOf ls)) c), some (false, .int (n : Int)), some (false, nmD (nsOf ls)), some (false, natsD (basesF P' c [] (nsOf ls))), some (true, wdD pre), some (false, .int (left : Int)), x8, x9, x10, x11, x12] ∧
      pre.map Prod.fst = (nsOf ls).take i ∧ Con c pre ∧ left < prodN (basesF P' c ((nsOf ls).take i) ((nsOf ls).drop i)) ∧ pre.map Prod.snd ++ rowF P' c pre ((nsOf ls).drop i) left = rowF P' c [] (nsOf ls) n ∧ ∀ p ∈ pre, Szr 200 p.2)
    (ea_cons (ev_var rfl) ea_nil) ⟨[], n, none, none, none, none, none, rfl, rfl, List.Pairwise.nil, by simpa using hn, by simp, fun _ h => nomatch h⟩ ?_ ?_)
  · rintro i d ρ' hd ⟨pre, left, x8, x9, x10, x11, x12, rfl, hp, hcon, hlt, hrow, hsz⟩
    rw [List.getElem?_map, Option.map_eq_some_iff] at hd
    obtain ⟨m, hm, rfl⟩ := hd
    have hil : i < (nsOf ls).length := (List.getElem?_eq_some_iff.mp hm).1
    obtain ⟨sp1, sp2⟩ := ns_split hm
    rw [sp1] at hlt hrow
    have nm' : Nm P' (byRests P' ls) (nsOf ls) c (pre.map Prod.fst ++ m :: (nsOf ls).drop (i + 1)) := by
      rw [hp, ← sp1, List.take_append_drop]
      exact nm
    obtain ⟨r, t1, t2, t3, t4, t5⟩ := told_ok nm' hcon
    rw [hp] at t1 t2 t3 t4 t5
    have hlt2 : left < ch P' (byOf c ((nsOf ls).take i) m) * prodN (basesF P' c ((nsOf ls).take i ++ [m]) ((nsOf ls).drop (i + 1))) := hlt
    have lp : 0 < prodN (basesF P' c ((nsOf ls).take i ++ [m]) ((nsOf ls).drop (i + 1))) := Nat.pos_of_ne_zero fun e => by rw [e, Nat.mul_zero] at hlt2; omega
    have hq : left / prodN (basesF P' c ((nsOf ls).take i ++ [m]) ((nsOf ls).drop (i + 1))) < ch P' (byOf c ((nsOf ls).take i) m) := Nat.div_lt_of_lt_mul (by rw [Nat.mul_comm]; exact hlt2)
    have hch : ch P' (byOf c ((nsOf ls).take i) m) < 2 ^ 200 := ch_sz b.pP t3 t4 b.sP
    have hlz : prodN (basesF P' c ((nsOf ls).take i ++ [m]) ((nsOf ls).drop (i + 1))) < 2 ^ 2001 := prod_sz ok.ok b.pP b.sP (by rw [List.length_drop]; omega)
    have nin : m ∉ pre.map Prod.fst := by rw [hp]; exact nodup_split (nsOf_nd ls) hm
    have ndp : (pre.map Prod.fst).Nodup := by rw [hp]; exact (List.take_sublist _ _).nodup (nsOf_nd ls)
    obtain ⟨d0, hdv⟩ := id t4
    obtain ⟨a1, a2⟩ := at_mem b.pP.ne b.pP.cnt t3.cnt hdv t2 hq
    have a3 := (t5 _).mp a2
    generalize hL : prodN (basesF P' c ((nsOf ls).take i ++ [m]) ((nsOf ls).drop (i + 1))) = L at *
    generalize hB : byOf c ((nsOf ls).take i) m = B at *
    have sB : Szr 200 B := sz_dv t4 b.pP t3.cnt b.sP
    refine wg_tup rfl (wgs_cons (wg_name (wgs_cons (wg_name (wgs_nil ?_)))))
    refine ws_seq (ws_set (ev_is (ev_call (ea_cons (ev_is (en_slL (ev_var rfl) (eo_some (ev_is (ev_op (ev_var rfl) ev_int op_i0) (show _ = D.int ((i + 1 : Nat) : Int) from rfl))) eo_none).ev ((congrArg D.lst (cut_drop _ (i + 1) (by rw [List.length_map, basesF_len]; omega))).trans (congrArg D.lst List.map_drop.symm))) ea_nil)
      ⟨(basesF P' c [] (nsOf ls)).drop (i + 1), rfl, rfl, fun a ha => basesF_sz ok.ok b.pP (b.sP.mono (by omega)) a (List.mem_of_mem_drop ha), by rw [List.length_drop, basesF_len]; omega⟩) (show _ = D.int (L : Int) from ?_)) ?_)
    · rw [prod_drop, sp2, hL]
    refine ws_seq (ws_asg (ev_borrow (i := 6) rfl (ev_is (ev_call (ea_cons (ev_op (ev_var rfl) ev_int (op_ixT rfl)) (ea_cons (ev_var rfl) (ea_cons (ev_var rfl) (ea_cons (ev_var rfl) ea_nil)))) ⟨k, P', c, pairs (nsOf ls), pre, m, rfl, rfl, ok, ndp, fun p h => ⟨nsOf_pairs ls _ ?_ _ (List.mem_of_getElem? hm) fun z => nin (z ▸ List.mem_map_of_mem h), (hsz p h).mono (by omega)⟩⟩) (show _ = D.tup [iD r, iD B] from ?_)) rfl) (wg_tup rfl (wgs_cons (wg_name (wgs_cons (wg_name (wgs_nil ?_)))))))
    · have : p.1 ∈ (nsOf ls).take i := by rw [← hp]; exact List.mem_map_of_mem h
      exact List.mem_of_mem_take this
    · rw [t1]
      rfl
    have ediv : ((left : Int) / (L : Int)) = ((left / L : Nat) : Int) := (Int.natCast_ediv _ _).symm
    refine ws_seq (ws_dputK (i := 6) (d := iD (at_ r B (left / L))) rfl (ev_call (ea_cons (ev_op (ev_var rfl) ev_int (op_ixT rfl)) (ea_cons (ev_var rfl) (ea_cons (ev_var rfl) (ea_cons (ev_is (ev_op (ev_var rfl) (ev_var rfl) (op_iC (wide_div (b := 2001) (by omega) (by rw [Int.natAbs_natCast]; exact hlz) (by decide) (by decide)))) (congrArg D.int ediv)) ea_nil)))) ⟨k, r, B, left / L, rfl, rfl, t3, t2, sB.mono (by omega), sz_nat.mpr (Nat.lt_of_lt_of_le (Nat.lt_trans hq hch) (Nat.pow_le_pow_right (by decide) (by omega)))⟩) (ev_var rfl) ?_ ?_)
    · have hz := szl (Nat.le_refl 1000000)
      rw [wdM_len]
      have h1 : (pre.map Prod.fst).length ≤ 10 := by rw [hp, List.length_take]; omega
      rw [List.length_map] at h1
      omega
    rw [dPut_wd nin]
    have emod : (Int.fmod (left : Int) (L : Int)) = ((left % L : Nat) : Int) := by rw [Int.fmod_eq_emod_of_nonneg _ (by omega), Int.natCast_emod]
    refine ws_set (ev_is (ev_op (ev_var rfl) (ev_var rfl) (op_iC (by omega))) (congrArg D.int emod)) ⟨pre ++ [(m, at_ r B (left / L))], left % L, some (false, .int (i : Int)), some (false, .str m), some (false, .int (L : Int)), some (false, iD r), some (false, iD B), rfl, by rw [List.map_append, hp, sp2]; rfl, con_snoc hcon a3, by rw [sp2, hL]; exact Nat.mod_lt _ lp, ?_, fun p h => ?_⟩
    · rw [← hrow]
      have er : rowF P' c pre (m :: (nsOf ls).drop (i + 1)) left = at_ r B (left / L) :: rowF P' c (pre ++ [(m, at_ r B (left / L))]) ((nsOf ls).drop (i + 1)) (left % L) := by
        show (at_ ((told c pre m).getD (0, 1)).1 ((told c pre m).getD (0, 1)).2 (left / prodN (basesF P' c (pre.map Prod.fst ++ [m]) ((nsOf ls).drop (i + 1)))) :: _) = _
        rw [t1, hp, hL]
        rfl
      rw [er, List.map_append]
      simp
    · rcases List.mem_append.mp h with h | h
      · exact hsz p h
      · cases List.mem_singleton.mp h
        exact sz_red a1 b.sP
  · rintro ρ' ⟨pre, left, x8, x9, x10, x11, x12, rfl, hp, hcon, hlt, hrow, hsz⟩
    rw [List.length_map, List.take_length] at hp
    rw [List.length_map, List.drop_length] at hrow
    have hrow : pre.map Prod.snd = rowF P' c [] (nsOf ls) n := by rw [← hrow]; exact (List.append_nil _).symm
    have ndp : (pre.map Prod.fst).Nodup := by rw [hp]; exact nsOf_nd ls
    refine wn_ret (en_lcL (js := [9]) (fun _ => true) (wdAt (wdM pre)) (ev_var rfl) (len_szl (by rw [List.length_map]; omega)) (by decide) fun d hd => ?_) ?_
    · obtain ⟨m, hm, rfl⟩ := List.mem_map.mp hd
      rw [← hp] at hm
      obtain ⟨p, hpm, rfl⟩ := List.mem_map.mp hm
      have e : dV (wdM pre) (.inr p.1) = some (iD p.2) := dV_wd ndp hpm
      refine wg_name ⟨et_yes, fun _ => ?_⟩
      refine ev_borrow (i := 6) rfl (ev_is (ev_dgetK (k := .inr p.1) rfl (ev_var rfl) (ev_var rfl) e) ?_) ?_
      · show _ = (dV (wdM pre) (.inr p.1)).getD .non
        rw [e]
        rfl
      · show flD ((dV (wdM pre) (.inr p.1)).getD .non) = true
        rw [e]
        rfl
    · have h2 := wdAt_row ndp
      rw [hp, hrow] at h2
      exact congrArg D.lst h2

end
end J

/-! ## KwC -/
/-! Calls by names alone, the names in the reverse of the def's order. -/
namespace J
open PySem PySem.Spec PyProof.Rows L2
def gRev {α : Type} : List α → List α → List α
  | [], ws => ws.reverse
  | _ :: _, _ => []
theorem vals_rev : ∀ {vs : List V} {us : List Value}, Vals vs us → Vals vs.reverse us.reverse
  | _, _, .nil => .nil
  | _, _, .cons h t => by
    rw [List.reverse_cons, List.reverse_cons]
    exact (vals_rev t).append (.cons h .nil)
/-- a def that keeps its promise, its function object known -/
structure CalF (P : Program) (w : World) (K : PySem.W.Frag) (mg : Str → Option Value) (base : Heap) (k : Nat) (x : Str) (j : Nat) (ps : List Str) (sp : Sp) : Prop where
  ex : ∃ fd, FnOk P w K mg base CX0 k (He.ga K x) fd ps sp ∧ mg x = some (.ref (He.ga K x)) ∧ PySem.W.keepIn K (.ref (He.ga K x)) = true ∧ Binds K fd ps [] ∧ FunD K x x (defArgs (Hd.top j)) (defBody (Hd.top j)) (defScope (Hd.top j)) [] [] (He.ga K x) fd
section
variable {P : Program} {w : World} {K : PySem.W.Frag} {mg : Str → Option Value} {base : Heap} {k j : Nat} {x : Str} {ps : List Str} {sp : Sp}
theorem CalF.cal (c : CalF P w K mg base k x j ps sp) : Cal P w K mg base k x sp := by
  obtain ⟨fd, h1, h2, h3, h4, _⟩ := c.ex
  exact ⟨⟨_, fd, ps, h1, h2, h3, h4⟩⟩
abbrev BindsRev (j : Nat) (x : Str) (ps : List Str) : Prop := ∀ (kV doc pm : Value) (an : Option Addr) (cdv ct : Value) (ws : List Value), ws.length = ps.length →
  bindArgs (PySem.W.fnOf x x (defArgs (Hd.top j)) (defBody (Hd.top j)) (defScope (Hd.top j)) .none kV doc pm an cdv ct) ⟨[], ps.reverse.zip ws⟩ = pure (ps.zip ws.reverse)
structure CalK (P : Program) (w : World) (K : PySem.W.Frag) (mg : Str → Option Value) (base : Heap) (k : Nat) (x : Str) (ks : List Str) (sp : Sp) : Prop where
  ex : ∃ (f : Addr) (fd : FuncData) (ps : List Str), FnOk P w K mg base CX0 k f fd ps sp ∧ mg x = some (.ref f) ∧ PySem.W.keepIn K (.ref f) = true ∧ KBinds K fd ps ks gRev gRev
theorem CalF.calK (c : CalF P w K mg base k x j ps sp) (hb : BindsRev j x ps) (hp : 0 < ps.length) : CalK P w K mg base k x ps.reverse sp := by
  obtain ⟨fd, h1, h2, h3, h4, F⟩ := c.ex
  refine ⟨⟨_, fd, ps, h1, h2, h3, ⟨fun s us ws hk hl => ?_, fun {vs us zs ws} r1 r2 => ?_⟩⟩⟩
  · cases us with
    | cons u us =>
      have hl : 0 = ps.length := hl
      omega
    | nil =>
      have hl : ws.reverse.length = ps.length := hl
      rw [List.length_reverse] at hl
      obtain ⟨oc, od, dV, kV, doc, pm, an, cdv, ct, osl, rfl, lk, hcd, hD, hK⟩ := F.ex
      rcases hD with ⟨_, rfl⟩ | ⟨e, _⟩
      · exact .of_eq (hb kV doc pm an cdv ct ws hl)
      · exact absurd rfl e
  · cases r1 with
    | nil => exact vals_rev r2
    | cons _ _ => exact .nil
theorem calf_of (T : Tx K mg) (i g : Nat) {j k : Nat} {x : Str} {N ps : List Str} {sp : Sp} (hi : Hd.fn[i]? = some (Hd.dd x j)) (hg : Hd.fa[g]? = some (.glo x)) (S : FnScope N ps (defScope (Hd.top j))) (hb : BindsBy j x ps)
    (len : ∀ vs H Q E, sp vs H Q E → vs.length = ps.length)
    (hbody : ∀ (cdv : Value) (A : Around) (outer : List PySem.Env) (s : Shared) (H : Hp) (vs : List V) (Q : VK) (E : XK), Room k (A.deeper (envOfC x (defScope (Hd.top j)) s.heap.objs.size (He.ga K x) cdv)) → sp vs H Q E →
      ∃ t, PSs (cxOf CX0 P w K mg base N x (defScope (Hd.top j)) (He.ga K x) cdv A outer s H E).nox (defBody (Hd.top j)) t ∧ t { nx := fun _ H' => Q .non H', rt := Q } (L2.start N vs) H) : CalF P w K mg base (k + 1) x j ps sp := by
  obtain ⟨fd, F, kp, b, FD⟩ := fnok_of (P := P) (w := w) (base := base) T i hi S hb len hbody
  exact ⟨fd, F, T.gl g hg, kp, b, FD⟩
end
section
variable {X : Cx} {k j : Nat} {x : Str} {sp : Sp} {p pos : Pos} {kws : List Keyword} {tk : TA} {ks : List Str}
theorem pe_cK (c : CalK X.prog X.w X.K X.mg X.base k x ks sp) (hr : Room j X.A) (hk : k ≤ j) (hg : Gl X x) (hkw : PK X kws tk)
    (hdb : (x == ("__debug__" : Str)) = false := by decide) (hall : (backToKw pos (keywordEach kws X.env)).all (·.1.isSome) = true := by rfl) (hks : (backToKw pos (keywordEach kws X.env)).filterMap (·.1) = ks := by rfl)
    (hpl : ((backTo pos (starEach [] X.env)).any (·.1) || (backToKw pos (keywordEach kws X.env)).any (·.1.isNone)) = false := by rfl) :
    PE X (.Call (.Name x p) [] kws pos) (tCallK sp gRev E0 tNil tk) := by
  obtain ⟨f, fd, ps, F, hm, kp, b⟩ := c.ex
  refine ⟨fun pins s σ H Q I h => ?_⟩
  refine wpAny_Call_Name_kw (ld_glob I hg hm ?_ hdb)
  refine PySem.W.callWith_KW0 (h₀ := X.base) I.ok.mod.kin kp hall (thn (hkw.run pos pins s σ H _ I h) fun ws s2 ⟨zs, H2, I2, rz, q2⟩ => ⟨I2.kIn, ?_⟩) hpl
  rw [hks]
  exact run_fnk (us := []) (vs := []) F (hr.mono hk) b pass0 I2 .nil rz q2
end
/-! on data -/
section
variable {K : PySem.W.Frag} {ρ : Env} {tk : TA}
theorem rpL_rev {Hs : Hp} : ∀ {vs : List V} {ds : List D}, RpL K Hs vs ds → RpL K Hs vs.reverse ds.reverse
  | _, _, h => h.rev
theorem ev_callK {ds : List D} {d : D} {E : XK} {F : List D → D → Prop} (ha : EvA K tk ρ ds) (f : F ds.reverse d) : Ev K (tCallK (spD K F) gRev E tNil tk) ρ d := fun σ Hs H R Q q =>
  ha σ Hs H R _ fun vs Hs1 H1 g1 rv => ⟨ds.reverse, d, Hs1, f, g1.i, rv.rev, fun v Hs' H' g r => q v Hs' H' (g1.trans0 g) r⟩
end
end J

/-! ## W9 -/
/-! Rows, numbers of rows, choices left. -/
namespace J
open PySem PySem.Spec PyProof.Rows L2 Q
open KR
section
variable {k : Kd} {P : Rk k} {ls : List (Ln Str (Rk k))} {c : Cs Str (Rk k)}
theorem manyF_some (h : clo P ls = some c) : manyF P ls = prodN (basesF P c [] (nsOf ls)) := by unfold manyF; rw [h]
theorem manyF_none (h : clo P ls = none) : manyF P ls = 0 := by unfold manyF; rw [h]
theorem clo_of {n : Nat} (h : n < manyF P ls) : ∃ c, clo P ls = some c := by
  cases e : clo P ls with
  | none => rw [manyF_none e] at h; omega
  | some c => exact ⟨c, rfl⟩
/-- the row of a number -/
def rowO (P : Rk k) (ls : List (Ln Str (Rk k))) (n : Nat) : List (Rk k) := match clo P ls with
  | none => []
  | some c => rowF P c [] (nsOf ls) n
theorem rowO_some (h : clo P ls = some c) (n : Nat) : rowO P ls n = rowF P c [] (nsOf ls) n := by unfold rowO; rw [h]
/-- the number of a row -/
def numO (P : Rk k) (ls : List (Ln Str (Rk k))) (xs : List (Rk k)) : Nat := match clo P ls with
  | none => 0
  | some c => numF P c [] (nsOf ls) xs
theorem numO_some (h : clo P ls = some c) (xs : List (Rk k)) : numO P ls xs = numF P c [] (nsOf ls) xs := by unfold numO; rw [h]
theorem RowOf.clo (r : RowOf P ls xs) : ∃ c, clo P ls = some c := by
  cases e : J.clo P ls with
  | none => exact absurd r.keeps (closed_none r.b.good.nd r.b.good.gl e _)
  | some c => exact ⟨c, rfl⟩
theorem RowOf.comp {xs : List (Rk k)} (r : RowOf P ls xs) (h : J.clo P ls = some c) : Comp P c [] (nsOf ls) xs :=
  (comp_keeps (r.b.cl h) (nsOf_nd ls) fun l hl => ⟨(r.b.good.nm l hl).1, (r.b.good.nm l hl).2, (r.b.good.gl l hl).ne⟩).mpr ⟨r.len, r.red, r.keeps⟩
theorem RowOf.lt {xs : List (Rk k)} (r : RowOf P ls xs) : numO P ls xs < manyF P ls ∧ rowO P ls (numO P ls xs) = xs := by
  obtain ⟨c, hc⟩ := r.clo
  rw [numO_some hc, manyF_some hc, rowO_some hc]
  exact numF_ok (pre := []) r.b.pP (r.b.nm hc) List.Pairwise.nil (r.comp hc)
theorem rowOf_rowO (b : BkP P ls) {n : Nat} (h : n < manyF P ls) : RowOf P ls (rowO P ls n) ∧ numO P ls (rowO P ls n) = n := by
  obtain ⟨c, hc⟩ := clo_of h
  rw [manyF_some hc] at h
  rw [rowO_some hc, numO_some hc]
  obtain ⟨h1, h2⟩ := rowF_ok (pre := []) b.pP (b.nm hc) List.Pairwise.nil h
  obtain ⟨h3, h4, h5⟩ := (comp_keeps (b.cl hc) (nsOf_nd ls) fun l hl => ⟨(b.good.nm l hl).1, (b.good.nm l hl).2, (b.good.gl l hl).ne⟩).mp h1
  exact ⟨⟨b, h3, h4, h5⟩, h2⟩
theorem pick_all (f : D → D) (l : List D) : pick (fun _ => true) f l = l.map f := by
  unfold pick
  rw [List.filter_eq_self.mpr fun _ _ => rfl]
theorem con_take {l : List (Str × Rk k)} (h : Con c l) (i : Nat) : Con c (l.take i) := List.Pairwise.sublist (List.take_sublist _ _) h
theorem comp_con {xs : List (Rk k)} {os : List Str} (h : Comp P c [] os xs) : xs.length = os.length ∧ (∀ x ∈ xs, red P x) ∧ Con c (os.zip xs) := by
  have h1 := (comp_iff (pre := []) List.Pairwise.nil).mp h
  exact h1
theorem zip_take {α β : Type} : ∀ {l : List α} {m : List β} (i : Nat), (l.zip m).take i = (l.take i).zip (m.take i)
  | [], m, i => by simp
  | a :: l, [], i => by simp
  | a :: l, b :: m, 0 => rfl
  | a :: l, b :: m, i + 1 => by
    rw [List.zip_cons_cons, List.take_succ_cons, List.take_succ_cons, List.take_succ_cons, List.zip_cons_cons, zip_take i]
end
section
variable {P : Program} {w : World} {K : PySem.W.Frag} {mg : Str → Option Value} {base : Heap}
def f_row_numbered : List D → D → Prop := fun ds d => ∃ (k : Kd) (P : Rk k) (ls : List (Ln Str (Rk k))) (n : Nat), ds = [bkD ls, iD P, .int (n : Int)] ∧ d = (if n < manyF P ls then rwD (rowO P ls n) else .non) ∧ BkP P ls
theorem s_row_numbered : FnScope [("book" : Str), ("period" : Str), ("number" : Str)] ["book", "period", "number"] (defScope (Hd.top 68)) := ⟨rfl, rfl, rfl, by decide +kernel, rfl, by decide +kernel, by decide +kernel⟩
theorem o_row_numbered (T : Tx K mg) (k : Nat) : CalF P w K mg base (k + 11) "row_numbered" 68 ["book", "period", "number"] (spD K f_row_numbered) := by
  have c_check_period := c_check_period (P := P) (w := w) (base := base) T k
  have c_check_number := c_check_number (P := P) (w := w) (base := base) T k
  have c_row_in := c_row_in (P := P) (w := w) (base := base) T k
  have c_many_rows := c_many_rows (P := P) (w := w) (base := base) T k
  have c_closed_rows := c_closed_rows (P := P) (w := w) (base := base) T k
  have sc := s_row_numbered
  refine calf_of (k := k + 10) T 50 50 rfl rfl s_row_numbered (fun _ _ _ _ _ _ us hl => match us, hl with | [_, _, _], _ => rfl) (fun vs H Q E h => spD_len h (n := 3) (by rintro _ _ ⟨k, P', ls, n, rfl, rfl, b⟩; rfl)) fun cdv A outer s H vs Q E hr h => ⟨_, PSs.nox (pss_cons (ps_expr (pe_c c_check_period hr (by omega) (by rfl) (pa_cons (pv 0) (pa_cons (pv 1) pa_nil)))) (pss_cons (ps_expr (pe_c c_check_number hr (by omega) (by rfl) (pa_cons (pv 2) (pa_cons pe_int (pa_cons pe_non pa_nil))))) (pss_cons (ps_if (pt_cmpR (op_ge) (pv 2) (pe_c c_many_rows hr (by omega) (by rfl) (pa_cons (pv 0) (pa_cons (pv 1) pa_nil))) (nomark _)) (pss_one (ps_ret pe_non)) pss_nil) (pss_one (ps_ret (pe_c c_row_in hr (by omega) (by rfl) (pa_cons (pv 0) (pa_cons (pv 1) (pa_cons (pe_c c_closed_rows hr (by omega) (by rfl) (pa_cons (pv 0) (pa_cons (pv 1) pa_nil))) (pa_cons (pv 2) pa_nil)))))))))), spD_run h ?_⟩
  clear h
  rintro ds d ⟨k, P', ls, n, rfl, rfl, b⟩
  show WS K none _ [some (false, _), some (false, _), some (false, _)] _ _
  refine ws_seq (ws_drop (ev_call (ea_cons (ev_var rfl) (ea_cons (ev_var rfl) ea_nil)) ⟨k, P', ls, rfl, rfl, b⟩) ?_)
  refine ws_seq (ws_drop (ev_call (ea_cons (ev_var rfl) (ea_cons ev_int (ea_cons ev_non ea_nil))) ⟨_, rfl, rfl, by omega⟩) ?_)
  refine ws_seq (ws_when (et_test (ev_op (ev_var rfl) (ev_call (ea_cons (ev_var rfl) (ea_cons (ev_var rfl) ea_nil)) ⟨k, P', ls, rfl, rfl, b⟩) op_b0)) (fun h => ?_) fun h => ?_)
  · have h := of_decide_eq_true h
    exact ws_ret ev_non (if_neg (by omega)).symm
  · have h := of_decide_eq_false h
    have hn : n < manyF P' ls := by omega
    obtain ⟨c, hc⟩ := clo_of hn
    refine ws_ret (ev_callN (ea_cons (ev_var rfl) (ea_cons (ev_var rfl) (ea_cons (ev_is (ev_call (ea_cons (ev_var rfl) (ea_cons (ev_var rfl) ea_nil)) ⟨k, P', ls, rfl, rfl, b⟩) (show _ = clD (pairs (nsOf ls)) c from by rw [hc]; rfl)) (ea_cons (ev_var rfl) ea_nil)))) ⟨k, P', ls, c, n, rfl, rfl, b, hc, by rw [← manyF_some hc]; exact hn⟩).ev ?_
    rw [if_pos hn, rowO_some hc]
theorem c_row_numbered (T : Tx K mg) (k : Nat) : Cal P w K mg base (k + 11) "row_numbered" (spD K f_row_numbered) := (o_row_numbered T k).cal
theorem c_row_numberedK (T : Tx K mg) (k : Nat) : CalK P w K mg base (k + 11) "row_numbered" ["number", "period", "book"] (spD K f_row_numbered) := (o_row_numbered T k).calK (fun _ _ _ _ _ _ ws hl => match ws, hl with | [_, _, _], _ => rfl) (by decide)

def f_row_numberedN : List D → D → Prop := fun ds d => ∃ (k : Kd) (P : Rk k) (ls : List (Ln Str (Rk k))) (n : Nat), ds = [bkD ls, iD P, .int (n : Int)] ∧ d = rwD (rowO P ls n) ∧ BkP P ls ∧ n < manyF P ls
theorem c_row_numberedN (T : Tx K mg) (k : Nat) : Cal P w K mg base (k + 11) "row_numbered" (spN K f_row_numberedN) := by
  have c_check_period := c_check_period (P := P) (w := w) (base := base) T k
  have c_check_number := c_check_number (P := P) (w := w) (base := base) T k
  have c_row_in := c_row_in (P := P) (w := w) (base := base) T k
  have c_many_rows := c_many_rows (P := P) (w := w) (base := base) T k
  have c_closed_rows := c_closed_rows (P := P) (w := w) (base := base) T k
  have sc := s_row_numbered
  refine cal_of (k := k + 10) T 50 50 rfl rfl s_row_numbered (fun _ _ _ _ _ _ us hl => match us, hl with | [_, _, _], _ => rfl) (fun vs H Q E h => spN_len h (n := 3) (by rintro _ _ ⟨k, P', ls, n, rfl, rfl, b, hn⟩; rfl)) fun cdv A outer s H vs Q E hr h => ⟨_, PSs.nox (pss_cons (ps_expr (pe_c c_check_period hr (by omega) (by rfl) (pa_cons (pv 0) (pa_cons (pv 1) pa_nil)))) (pss_cons (ps_expr (pe_c c_check_number hr (by omega) (by rfl) (pa_cons (pv 2) (pa_cons pe_int (pa_cons pe_non pa_nil))))) (pss_cons (ps_if (pt_cmpR (op_ge) (pv 2) (pe_c c_many_rows hr (by omega) (by rfl) (pa_cons (pv 0) (pa_cons (pv 1) pa_nil))) (nomark _)) (pss_one (ps_ret pe_non)) pss_nil) (pss_one (ps_ret (pe_c c_row_in hr (by omega) (by rfl) (pa_cons (pv 0) (pa_cons (pv 1) (pa_cons (pe_c c_closed_rows hr (by omega) (by rfl) (pa_cons (pv 0) (pa_cons (pv 1) pa_nil))) (pa_cons (pv 2) pa_nil)))))))))), spN_run h ?_⟩
  clear h
  rintro ds d ⟨k, P', ls, n, rfl, rfl, b, hn⟩
  show WN K _ [some (false, _), some (false, _), some (false, _)] _
  refine wn_seq (ws_drop (ev_call (ea_cons (ev_var rfl) (ea_cons (ev_var rfl) ea_nil)) ⟨k, P', ls, rfl, rfl, b⟩) ?_)
  refine wn_seq (ws_drop (ev_call (ea_cons (ev_var rfl) (ea_cons ev_int (ea_cons ev_non ea_nil))) ⟨_, rfl, rfl, by omega⟩) ?_)
  refine wn_seq (ws_ifno (et_is (et_test (ev_op (ev_var rfl) (ev_call (ea_cons (ev_var rfl) (ea_cons (ev_var rfl) ea_nil)) ⟨k, P', ls, rfl, rfl, b⟩) op_b0)) (decide_eq_false (by omega))) ?_)
  obtain ⟨c, hc⟩ := clo_of hn
  refine wn_ret (ev_callN (ea_cons (ev_var rfl) (ea_cons (ev_var rfl) (ea_cons (ev_is (ev_call (ea_cons (ev_var rfl) (ea_cons (ev_var rfl) ea_nil)) ⟨k, P', ls, rfl, rfl, b⟩) (show _ = clD (pairs (nsOf ls)) c from by rw [hc]; rfl)) (ea_cons (ev_var rfl) ea_nil)))) ⟨k, P', ls, c, n, rfl, rfl, b, hc, by rw [← manyF_some hc]; exact hn⟩) ?_
  rw [rowO_some hc]

def f_number_in : List D → D → Prop := fun ds d => ∃ (k : Kd) (P : Rk k) (ls : List (Ln Str (Rk k))) (xs : List (Rk k)), ds = [bkD ls, iD P, rwD xs] ∧ d = .int (numO P ls xs : Nat) ∧ RowOf P ls xs
theorem s_number_in : FnScope [("book" : Str), ("period" : Str), ("row" : Str), ("closed" : Str), ("names" : Str), ("found" : Str), ("bases" : Str), ("at" : Str), ("name" : Str), ("words" : Str), ("by" : Str)] ["book", "period", "row"] (defScope (Hd.top 69)) := ⟨rfl, rfl, rfl, by decide +kernel, rfl, by decide +kernel, by decide +kernel⟩
theorem c_number_in (T : Tx K mg) (k : Nat) : Cal P w K mg base (k + 10) "number_in" (spD K f_number_in) := by
  have c_bases_in := c_bases_in (P := P) (w := w) (base := base) T k
  have c_closed_rows := c_closed_rows (P := P) (w := w) (base := base) T k
  have c_names_in_lines := c_names_in_lines (P := P) (w := w) (base := base) T k
  have c_told_rest := c_told_rest (P := P) (w := w) (base := base) T k
  have c_place_of := c_place_of (P := P) (w := w) (base := base) T k
  have sc := s_number_in
  refine cal_of (k := k + 9) T 51 51 rfl rfl s_number_in (fun _ _ _ _ _ _ us hl => match us, hl with | [_, _, _], _ => rfl) (fun vs H Q E h => spD_len h (n := 3) (by rintro _ _ ⟨k, P', ls, xs, rfl, rfl, r⟩; rfl)) fun cdv A outer s H vs Q E hr h => ⟨_, PSs.nox (pss_cons (ps_par3 (i := 3) (j := 4) (l := 5) (by rfl) sc.nd rfl rfl rfl (by decide) (by decide) (by decide) rfl rfl rfl (pa_cons (pe_c c_closed_rows hr (by omega) (by rfl) (pa_cons (pv 0) (pa_cons (pv 1) pa_nil))) (pa_cons (pe_c c_names_in_lines hr (by omega) (by rfl) (pa_cons (pe_ix ix_tup (pv 0) pe_int (fun _ _ => rfl)) pa_nil)) (pa_cons pe_int pa_nil))) (by rfl)) (pss_cons (ps_set (i := 6) sc.nd rfl (Or.inl rfl) (pe_c c_bases_in hr (by omega) (by rfl) (pa_cons (pe_ix ix_tup (pv 0) pe_int (fun _ _ => rfl)) (pa_cons (pv 1) (pa_cons (pv 3) (pa_cons (pv 4) pa_nil)))))) (pss_cons (ps_for PassesOwn.never rfl (pi_enum (by rfl) (T.fr 79 rfl) (pa_cons (pv 4) pa_nil)) (pg_tup rfl (pgs_cons (pg_name (i := 7) sc.nd rfl (Or.inl rfl)) (pgs_cons (pg_name (i := 8) sc.nd rfl (Or.inl rfl)) pgs_nil))) (pss_cons (ps_set (i := 9) sc.nd rfl (Or.inl rfl) (pe_dictZip rfl (by rfl) (T.fr 78 rfl) (by rfl) (T.fr 92 rfl) (pa_cons (pe_slice sl_list (pv 4) po_none (po_some (pv 7))) (pa_cons (pe_slice sl_list (pv 2) po_none (po_some (pv 7))) pa_nil)) pe_bl)) (pss_cons (ps_set (i := 10) sc.nd rfl (Or.inl rfl) (pe_ix ix_tup (pe_c c_told_rest hr (by omega) (by rfl) (pa_cons (pe_ix ix_tup (pv 0) pe_int (fun _ _ => rfl)) (pa_cons (pv 3) (pa_cons (pv 9) (pa_cons (pv 8) pa_nil))))) pe_int (fun _ _ => rfl))) (pss_one (ps_set (i := 5) sc.nd rfl (Or.inl rfl) (pe_op op_add (pe_op op_mulX (pv 5) (pe_ix ix_list (pv 6) (pv 7) (fun _ _ => rfl))) (pe_c c_place_of hr (by omega) (by rfl) (pa_cons (pe_ix ix_tup (pv 0) pe_int (fun _ _ => rfl)) (pa_cons (pv 10) (pa_cons (pe_ix ix_list (pv 2) (pv 7) (fun _ _ => rfl)) pa_nil)))))))))) (pss_one (ps_ret (pv 5)))))), spD_run h ?_⟩
  clear h
  rintro ds d ⟨k, P', ls, xs, rfl, rfl, r⟩
  show WS K none _ [some (false, _), some (false, _), some (false, _), none, none, none, none, none, none, none, none] _ _
  have b := r.b
  obtain ⟨c, hc⟩ := r.clo
  have ok := b.ok hc
  have nm := b.nm hc
  have hln := nsOf_len ls
  have hcp := r.comp hc
  obtain ⟨hxl, hxr, hxc⟩ := comp_con hcp
  have hlt := (numF_ok (pre := []) b.pP nm List.Pairwise.nil hcp).1
  have hlt : numF P' c [] (nsOf ls) xs < prodN (basesF P' c [] (nsOf ls)) := hlt
  have hbig : prodN (basesF P' c [] (nsOf ls)) < 2 ^ 2001 := prod_sz ok.ok b.pP b.sP hln
  refine ws_seq (ws_par3 (ea_cons (ev_is (ev_call (ea_cons (ev_var rfl) (ea_cons (ev_var rfl) ea_nil)) ⟨k, P', ls, rfl, rfl, b⟩) (show _ = clD (pairs (nsOf ls)) c from by rw [hc]; rfl)) (ea_cons (ev_call (ea_cons (ev_op (ev_var rfl) ev_int (op_ixT rfl)) ea_nil) ⟨k, ls, rfl, rfl, b.bk⟩) (ea_cons ev_int ea_nil))) ?_)
  refine ws_seq (ws_set (ev_call (ea_cons (ev_op (ev_var rfl) ev_int (op_ixT rfl)) (ea_cons (ev_var rfl) (ea_cons (ev_var rfl) (ea_cons (ev_var rfl) ea_nil)))) ⟨k, P', c, pairs (nsOf ls), nsOf ls, rfl, rfl, ok, by omega, nsOf_nd ls, nsOf_pairs ls⟩) ?_)
  refine ws_seq (ws_forE (js := [7, 8]) (fun i ρ' => ∃ (f : Nat) (x7 x8 x9 x10 : Option (Bool × D)), ρ' = [some (false, bkD ls), some (false, iD P'), some (false, rwD xs), some (false, clD (pairs (nsOf ls)) c), some (false, nmD (nsOf ls)), some (false, .int (f : Int)), some (false, natsD (basesF P' c [] (nsOf ls))), x7, x8, x9, x10] ∧
      f * prodN (basesF P' c ((nsOf ls).take i) ((nsOf ls).drop i)) + numF P' c ((nsOf ls).take i) ((nsOf ls).drop i) (xs.drop i) = numF P' c [] (nsOf ls) xs ∧ (i < (nsOf ls).length → 0 < prodN (basesF P' c ((nsOf ls).take i) ((nsOf ls).drop i))))
    (ea_cons (ev_var rfl) ea_nil) ⟨0, none, none, none, none, rfl, by simp, fun _ => by show 0 < prodN (basesF P' c [] (nsOf ls)); omega⟩ ?_ ?_)
  · rintro i d ρ' hd ⟨f, x7, x8, x9, x10, rfl, hf, hpos⟩
    rw [List.getElem?_map, Option.map_eq_some_iff] at hd
    obtain ⟨m, hm, rfl⟩ := hd
    have hil : i < (nsOf ls).length := (List.getElem?_eq_some_iff.mp hm).1
    have hpos := hpos hil
    obtain ⟨sp1, sp2⟩ := ns_split hm
    obtain ⟨x, hx⟩ : ∃ x, xs[i]? = some x := ⟨_, List.getElem?_eq_getElem (by omega)⟩
    have hxm := List.mem_of_getElem? hx
    have xs1 : xs.drop i = x :: xs.drop (i + 1) := by
      obtain ⟨h1, h2⟩ := List.getElem?_eq_some_iff.mp hx
      rw [List.drop_eq_getElem_cons h1, h2]
    have hz : ((nsOf ls).take i).length = (xs.take i).length := by rw [List.length_take, List.length_take, hxl]
    have hpre : (((nsOf ls).take i).zip (xs.take i)).map Prod.fst = (nsOf ls).take i := zip_fst hz
    have hcon : Con c (((nsOf ls).take i).zip (xs.take i)) := by rw [← zip_take]; exact con_take hxc i
    have nm' : Nm P' (byRests P' ls) (nsOf ls) c ((((nsOf ls).take i).zip (xs.take i)).map Prod.fst ++ m :: (nsOf ls).drop (i + 1)) := by
      rw [hpre, ← sp1, List.take_append_drop]
      exact nm
    obtain ⟨r', t1, t2, t3, t4, t5⟩ := told_ok nm' hcon
    rw [hpre] at t1 t2 t3 t4
    have nin : m ∉ (nsOf ls).take i := nodup_split (nsOf_nd ls) hm
    have nd2 : ((nsOf ls).take i).Nodup := (List.take_sublist _ _).nodup (nsOf_nd ls)
    have sB : Szr 200 (byOf c ((nsOf ls).take i) m) := sz_dv t4 b.pP t3.cnt b.sP
    have hbi : (basesF P' c [] (nsOf ls))[i]? = some (ch P' (byOf c ((nsOf ls).take i) m)) := by
      have := basesF_get (P := P') (c := c) (ms := []) hm
      rw [List.nil_append] at this
      exact this
    rw [sp1, xs1] at hf
    rw [sp1] at hpos
    have hf2 : f * (ch P' (byOf c ((nsOf ls).take i) m) * prodN (basesF P' c ((nsOf ls).take i ++ [m]) ((nsOf ls).drop (i + 1)))) + (pl (byOf c ((nsOf ls).take i) m) x * prodN (basesF P' c ((nsOf ls).take i ++ [m]) ((nsOf ls).drop (i + 1))) + numF P' c ((nsOf ls).take i ++ [m]) ((nsOf ls).drop (i + 1)) (xs.drop (i + 1))) = numF P' c [] (nsOf ls) xs := hf
    have hpos2 : 0 < ch P' (byOf c ((nsOf ls).take i) m) * prodN (basesF P' c ((nsOf ls).take i ++ [m]) ((nsOf ls).drop (i + 1))) := hpos
    have lp : 0 < prodN (basesF P' c ((nsOf ls).take i ++ [m]) ((nsOf ls).drop (i + 1))) := Nat.pos_of_ne_zero fun e => by rw [e, Nat.mul_zero] at hpos2; omega
    have fz : f < 2 ^ 2001 := by
      have : f ≤ f * (ch P' (byOf c ((nsOf ls).take i) m) * prodN (basesF P' c ((nsOf ls).take i ++ [m]) ((nsOf ls).drop (i + 1)))) := Nat.le_mul_of_pos_right _ hpos2
      omega
    have hch : ch P' (byOf c ((nsOf ls).take i) m) < 2 ^ 200 := ch_sz b.pP t3 t4 b.sP
    generalize hL : prodN (basesF P' c ((nsOf ls).take i ++ [m]) ((nsOf ls).drop (i + 1))) = L at *
    generalize hB : byOf c ((nsOf ls).take i) m = B at *
    refine wg_tup rfl (wgs_cons (wg_name (wgs_cons (wg_name (wgs_nil ?_)))))
    refine ws_seq (ws_set (ev_is (en_dictZip (ks := (nsOf ls).take i) (ds := (xs.take i).map fun x => iD x) (ev_is (en_slL (ev_var rfl) eo_none (eo_some (ev_var rfl))).ev ((congrArg D.lst (cut_take ((nsOf ls).map D.str) i (by rw [List.length_map]; omega))).trans (congrArg D.lst List.map_take.symm))) (ev_is (en_slL (ev_var rfl) eo_none (eo_some (ev_var rfl))).ev ((congrArg D.lst (cut_take (xs.map fun x => iD x) i (by rw [List.length_map]; omega))).trans (congrArg D.lst List.map_take.symm))) ev_bl (by rw [List.length_map]; exact hz) nd2).ev (show _ = wdD (((nsOf ls).take i).zip (xs.take i)) from congrArg D.dK wdZ_eq)) ?_)
    refine ws_seq (ws_set (ev_op (ev_is (ev_call (ea_cons (ev_op (ev_var rfl) ev_int (op_ixT rfl)) (ea_cons (ev_var rfl) (ea_cons (ev_var rfl) (ea_cons (ev_var rfl) ea_nil)))) ⟨k, P', c, pairs (nsOf ls), ((nsOf ls).take i).zip (xs.take i), m, rfl, rfl, ok, by rw [hpre]; exact nd2, fun p h => ?_⟩) (show _ = D.tup [iD r', iD B] from by rw [t1]; rfl)) ev_int (op_ixT rfl)) ?_)
    · have h1 : p.1 ∈ (nsOf ls).take i := (List.of_mem_zip h).1
      have h2 : p.2 ∈ xs := List.mem_of_mem_take (List.of_mem_zip h).2
      exact ⟨nsOf_pairs ls _ (List.mem_of_mem_take h1) _ (List.mem_of_getElem? hm) fun z => nin (z ▸ h1), (sz_red (hxr _ h2) b.sP).mono (by omega)⟩
    refine ws_set (ev_op (ev_op (ev_var rfl) (ev_op (ev_var rfl) (ev_var rfl) (op_ixL (atI_nat (by rw [List.getElem?_map, hbi]; rfl)))) (op_iC (mulx_ok (sz_nat.mpr fz) (sz_nat.mpr hch) (by decide)))) (ev_call (ea_cons (ev_op (ev_var rfl) ev_int (op_ixT rfl)) (ea_cons (ev_var rfl) (ea_cons (ev_op (ev_var rfl) (ev_var rfl) (op_ixL (atI_nat (by rw [List.getElem?_map, hx]; rfl)))) ea_nil))) ⟨k, B, x, rfl, rfl, t3, red_cnt (hxr x hxm), sB.mono (by omega)⟩) op_i0) ⟨f * ch P' B + pl B x, some (false, .int (i : Int)), some (false, .str m), some (false, wdD (((nsOf ls).take i).zip (xs.take i))), some (false, iD B), ?_, ?_, fun hi2 => ?_⟩
    · rw [Int.natCast_add, Int.natCast_mul]
      rfl
    · rw [sp2, hL, Nat.add_mul, Nat.mul_assoc]
      omega
    · rw [sp2, hL]
      exact lp
  · rintro ρ' ⟨f, x7, x8, x9, x10, rfl, hf, _⟩
    rw [List.length_map, List.drop_length] at hf
    have hf : f * 1 + 0 = numF P' c [] (nsOf ls) xs := hf
    refine ws_ret (ev_var rfl) ?_
    rw [numO_some hc, ← hf, Nat.mul_one]
    rfl

def f_number_of_row : List D → D → Prop := fun ds d => ∃ (k : Kd) (P : Rk k) (ls : List (Ln Str (Rk k))) (xs : List (Rk k)), ds = [bkD ls, iD P, rwD xs] ∧ d = .int (numO P ls xs : Nat) ∧ RowOf P ls xs
theorem s_number_of_row : FnScope [("book" : Str), ("period" : Str), ("row" : Str)] ["book", "period", "row"] (defScope (Hd.top 71)) := ⟨rfl, rfl, rfl, by decide +kernel, rfl, by decide +kernel, by decide +kernel⟩
theorem o_number_of_row (T : Tx K mg) (k : Nat) : CalF P w K mg base (k + 11) "number_of_row" 71 ["book", "period", "row"] (spD K f_number_of_row) := by
  have c_check_row := c_check_row (P := P) (w := w) (base := base) T k
  have c_number_in := c_number_in (P := P) (w := w) (base := base) T k
  have sc := s_number_of_row
  refine calf_of (k := k + 10) T 53 53 rfl rfl s_number_of_row (fun _ _ _ _ _ _ us hl => match us, hl with | [_, _, _], _ => rfl) (fun vs H Q E h => spD_len h (n := 3) (by rintro _ _ ⟨k, P', ls, xs, rfl, rfl, r⟩; rfl)) fun cdv A outer s H vs Q E hr h => ⟨_, PSs.nox (pss_cons (ps_expr (pe_c c_check_row hr (by omega) (by rfl) (pa_cons (pv 0) (pa_cons (pv 1) (pa_cons (pv 2) pa_nil))))) (pss_one (ps_ret (pe_c c_number_in hr (by omega) (by rfl) (pa_cons (pv 0) (pa_cons (pv 1) (pa_cons (pv 2) pa_nil))))))), spD_run h ?_⟩
  clear h
  rintro ds d ⟨k, P', ls, xs, rfl, rfl, r⟩
  show WS K none _ [some (false, _), some (false, _), some (false, _)] _ _
  refine ws_seq (ws_drop (ev_call (ea_cons (ev_var rfl) (ea_cons (ev_var rfl) (ea_cons (ev_var rfl) ea_nil))) ⟨k, P', ls, xs, rfl, rfl, r⟩) ?_)
  exact ws_ret (ev_call (ea_cons (ev_var rfl) (ea_cons (ev_var rfl) (ea_cons (ev_var rfl) ea_nil))) ⟨k, P', ls, xs, rfl, rfl, r⟩) rfl
theorem c_number_of_row (T : Tx K mg) (k : Nat) : Cal P w K mg base (k + 11) "number_of_row" (spD K f_number_of_row) := (o_number_of_row T k).cal
theorem c_number_of_rowK (T : Tx K mg) (k : Nat) : CalK P w K mg base (k + 11) "number_of_row" ["row", "period", "book"] (spD K f_number_of_row) := (o_number_of_row T k).calK (fun _ _ _ _ _ _ ws hl => match ws, hl with | [_, _, _], _ => rfl) (by decide)

def f_all_rows : List D → D → Prop := fun ds d => ∃ (k : Kd) (P : Rk k) (ls : List (Ln Str (Rk k))), ds = [bkD ls, iD P] ∧ d = .lst ((List.range (manyF P ls)).map fun n => rwD (rowO P ls n)) ∧ BkP P ls ∧ manyF P ls ≤ 2000
theorem s_all_rows : FnScope [("book" : Str), ("period" : Str), ("many" : Str), ("closed" : Str), ("number" : Str)] ["book", "period"] (defScope (Hd.top 72)) := ⟨rfl, rfl, rfl, by decide +kernel, rfl, by decide +kernel, by decide +kernel⟩
theorem o_all_rows (T : Tx K mg) (k : Nat) : CalF P w K mg base (k + 11) "all_rows" 72 ["book", "period"] (spD K f_all_rows) := by
  have c_check_period := c_check_period (P := P) (w := w) (base := base) T k
  have c_many_rows := c_many_rows (P := P) (w := w) (base := base) T k
  have c_closed_rows := c_closed_rows (P := P) (w := w) (base := base) T k
  have c_row_in := c_row_in (P := P) (w := w) (base := base) T k
  have sc := s_all_rows
  refine calf_of (k := k + 10) T 54 54 rfl rfl s_all_rows (fun _ _ _ _ _ _ us hl => match us, hl with | [_, _], _ => rfl) (fun vs H Q E h => spD_len h (n := 2) (by rintro _ _ ⟨k, P', ls, rfl, rfl, b, hm⟩; rfl)) fun cdv A outer s H vs Q E hr h => ⟨_, PSs.nox (pss_cons (ps_expr (pe_c c_check_period hr (by omega) (by rfl) (pa_cons (pv 0) (pa_cons (pv 1) pa_nil)))) (pss_cons (ps_set (i := 2) sc.nd rfl (Or.inl rfl) (pe_c c_many_rows hr (by omega) (by rfl) (pa_cons (pv 0) (pa_cons (pv 1) pa_nil)))) (pss_cons (ps_if (pt_cmpR (op_gt) (pv 2) (pe_gc (by rfl) T.c_MOST_ROWS) (nomark _)) pss_never pss_nil) (pss_cons (ps_set (i := 3) sc.nd rfl (Or.inr rfl) (pe_c c_closed_rows hr (by omega) (by rfl) (pa_cons (pv 0) (pa_cons (pv 1) pa_nil)))) (pss_one (ps_ret (pe_lc (own := [(("number" : Str), 4)]) (g := gName 4) rfl sc.nd  (pi_range1 (by rfl) (T.fr 85 rfl) (pa_cons (pv 2) pa_nil)) (blkOk_by (own := [(("number" : Str), 4)]) (N := [("book" : Str), ("period" : Str), ("many" : Str), ("closed" : Str), ("number" : Str)]) (sc := defScope (Hd.top 72)) (by decide +kernel)) (fun _ _ _ _ _ => (pg_name (i := 4) sc.nd rfl (Or.inl rfl))) (fun _ _ _ _ _ => pts_nil) (fun _ _ _ _ _ => (pe_c c_row_in hr (by omega) (by rfl) (pa_cons (pv 0) (pa_cons (pv 1) (pa_cons (pv 3) (pa_cons (pv 4) pa_nil))))))))))))), spD_run h ?_⟩
  clear h
  rintro ds d ⟨k, P', ls, rfl, rfl, b, hm⟩
  show WS K none _ [some (false, _), some (false, _), none, none, none] _ _
  refine ws_seq (ws_drop (ev_call (ea_cons (ev_var rfl) (ea_cons (ev_var rfl) ea_nil)) ⟨k, P', ls, rfl, rfl, b⟩) ?_)
  refine ws_seq (ws_set (ev_call (ea_cons (ev_var rfl) (ea_cons (ev_var rfl) ea_nil)) ⟨k, P', ls, rfl, rfl, b⟩) ?_)
  refine ws_seq (ws_ifno (et_is (et_test (ev_op (ev_var rfl) ev_int op_b0)) (decide_eq_false (by omega))) ?_)
  refine ws_seq (ws_set (ev_call (ea_cons (ev_var rfl) (ea_cons (ev_var rfl) ea_nil)) ⟨k, P', ls, rfl, rfl, b⟩) ?_)
  refine ws_ret (en_lcI (js := [4]) (fun _ => true) (fun d => match d with | .int i => rwD (rowO P' ls i.toNat) | _ => .non) (ei_rng1 (ea_cons (ev_var rfl) ea_nil) (by omega) (by omega)) (len_szl ?_) (by decide) fun d hd => ?_).ev ?_
  · unfold intsD
    rw [List.length_map, List.length_range]
    omega
  · unfold intsD at hd
    obtain ⟨n, hn, rfl⟩ := List.mem_map.mp hd
    rw [List.mem_range] at hn
    have hn : n < manyF P' ls := by omega
    obtain ⟨c, hc⟩ := clo_of hn
    refine wg_name ⟨et_yes, fun _ => ev_is (ev_callN (ea_cons (ev_var rfl) (ea_cons (ev_var rfl) (ea_cons (ev_is (ev_var rfl) (show _ = clD (pairs (nsOf ls)) c from by rw [hc]; rfl)) (ea_cons (ev_is (ev_var rfl) (show _ = D.int (n : Int) from by rw [Int.zero_add])) ea_nil)))) ⟨k, P', ls, c, n, rfl, rfl, b, hc, by rw [← manyF_some hc]; exact hn⟩).ev ?_⟩
    show _ = rwD (rowO P' ls (0 + (n : Int)).toNat)
    rw [Int.zero_add, Int.toNat_natCast, rowO_some hc]
  · rw [pick_all]
    unfold intsD
    rw [List.map_map]
    refine congrArg D.lst ?_
    rw [Int.toNat_natCast]
    refine List.map_congr_left fun n _ => ?_
    show rwD (rowO P' ls (0 + (n : Int)).toNat) = _
    rw [Int.zero_add, Int.toNat_natCast]
theorem c_all_rows (T : Tx K mg) (k : Nat) : Cal P w K mg base (k + 11) "all_rows" (spD K f_all_rows) := (o_all_rows T k).cal
theorem c_all_rowsK (T : Tx K mg) (k : Nat) : CalK P w K mg base (k + 11) "all_rows" ["period", "book"] (spD K f_all_rows) := (o_all_rows T k).calK (fun _ _ _ _ _ _ ws hl => match ws, hl with | [_, _], _ => rfl) (by decide)

def f_next_row : List D → D → Prop := fun ds d => ∃ (k : Kd) (P : Rk k) (ls : List (Ln Str (Rk k))) (xs : List (Rk k)), ds = [bkD ls, iD P, rwD xs] ∧ d = (if numO P ls xs + 1 < manyF P ls then rwD (rowO P ls (numO P ls xs + 1)) else .non) ∧ RowOf P ls xs
theorem s_next_row : FnScope [("book" : Str), ("period" : Str), ("row" : Str), ("number" : Str)] ["book", "period", "row"] (defScope (Hd.top 73)) := ⟨rfl, rfl, rfl, by decide +kernel, rfl, by decide +kernel, by decide +kernel⟩
theorem o_next_row (T : Tx K mg) (k : Nat) : CalF P w K mg base (k + 11) "next_row" 73 ["book", "period", "row"] (spD K f_next_row) := by
  have c_check_row := c_check_row (P := P) (w := w) (base := base) T k
  have c_number_in := c_number_in (P := P) (w := w) (base := base) T k
  have c_row_in := c_row_in (P := P) (w := w) (base := base) T k
  have c_many_rows := c_many_rows (P := P) (w := w) (base := base) T k
  have c_closed_rows := c_closed_rows (P := P) (w := w) (base := base) T k
  have sc := s_next_row
  refine calf_of (k := k + 10) T 55 55 rfl rfl s_next_row (fun _ _ _ _ _ _ us hl => match us, hl with | [_, _, _], _ => rfl) (fun vs H Q E h => spD_len h (n := 3) (by rintro _ _ ⟨k, P', ls, xs, rfl, rfl, r⟩; rfl)) fun cdv A outer s H vs Q E hr h => ⟨_, PSs.nox (pss_cons (ps_expr (pe_c c_check_row hr (by omega) (by rfl) (pa_cons (pv 0) (pa_cons (pv 1) (pa_cons (pv 2) pa_nil))))) (pss_cons (ps_set (i := 3) sc.nd rfl (Or.inl rfl) (pe_op op_add (pe_c c_number_in hr (by omega) (by rfl) (pa_cons (pv 0) (pa_cons (pv 1) (pa_cons (pv 2) pa_nil)))) pe_int)) (pss_one (ps_ret (pe_ifExp (pt_cmpR (op_lt) (pv 3) (pe_c c_many_rows hr (by omega) (by rfl) (pa_cons (pv 0) (pa_cons (pv 1) pa_nil))) (nomark _)) (pe_c c_row_in hr (by omega) (by rfl) (pa_cons (pv 0) (pa_cons (pv 1) (pa_cons (pe_c c_closed_rows hr (by omega) (by rfl) (pa_cons (pv 0) (pa_cons (pv 1) pa_nil))) (pa_cons (pv 3) pa_nil))))) pe_non))))), spD_run h ?_⟩
  clear h
  rintro ds d ⟨k, P', ls, xs, rfl, rfl, r⟩
  show WS K none _ [some (false, _), some (false, _), some (false, _), none] _ _
  have b := r.b
  refine ws_seq (ws_drop (ev_call (ea_cons (ev_var rfl) (ea_cons (ev_var rfl) (ea_cons (ev_var rfl) ea_nil))) ⟨k, P', ls, xs, rfl, rfl, r⟩) ?_)
  refine ws_seq (ws_set (ev_is (ev_op (ev_call (ea_cons (ev_var rfl) (ea_cons (ev_var rfl) (ea_cons (ev_var rfl) ea_nil))) ⟨k, P', ls, xs, rfl, rfl, r⟩) ev_int op_i0) (show _ = D.int ((numO P' ls xs + 1 : Nat) : Int) from rfl)) ?_)
  refine ws_ret (ev_if (et_test (ev_op (ev_var rfl) (ev_call (ea_cons (ev_var rfl) (ea_cons (ev_var rfl) ea_nil)) ⟨k, P', ls, rfl, rfl, b⟩) op_b0)) (fun h => ?_) fun h => ?_) rfl
  · have h := of_decide_eq_true h
    have hn : numO P' ls xs + 1 < manyF P' ls := by omega
    obtain ⟨c, hc⟩ := clo_of hn
    refine ev_is (ev_callN (ea_cons (ev_var rfl) (ea_cons (ev_var rfl) (ea_cons (ev_is (ev_call (ea_cons (ev_var rfl) (ea_cons (ev_var rfl) ea_nil)) ⟨k, P', ls, rfl, rfl, b⟩) (show _ = clD (pairs (nsOf ls)) c from by rw [hc]; rfl)) (ea_cons (ev_var rfl) ea_nil)))) ⟨k, P', ls, c, numO P' ls xs + 1, rfl, rfl, b, hc, by rw [← manyF_some hc]; exact hn⟩).ev ?_
    rw [if_pos hn, rowO_some hc]
  · have h := of_decide_eq_false h
    exact ev_is ev_non (if_neg (by omega)).symm
theorem c_next_row (T : Tx K mg) (k : Nat) : Cal P w K mg base (k + 11) "next_row" (spD K f_next_row) := (o_next_row T k).cal
theorem c_next_rowK (T : Tx K mg) (k : Nat) : CalK P w K mg base (k + 11) "next_row" ["row", "period", "book"] (spD K f_next_row) := (o_next_row T k).calK (fun _ _ _ _ _ _ ws hl => match ws, hl with | [_, _, _], _ => rfl) (by decide)

end
end J

/-! ## W10 -/
/-! Choices left; rows with some numbers told. -/
namespace J
open PySem PySem.Spec PyProof.Rows L2 Q
open KR
theorem names_strOk : ∀ s ∈ NAMES, PyData.strOk s = true := by decide +kernel
theorem namesOf_of_lt {ys : List Str} (hs : ys.Pairwise strLt) (hN : ∀ n ∈ ys, n ∈ NAMES) : namesOf ys = ys := by
  refine (List.Perm.eq_of_pairwise (le := fun a b => ¬ strLt b a) (fun a b _ _ h1 h2 => strLt_asymm h2 h1) (hs.imp strLt_le) ((namesOf_lt ys).imp strLt_le) ?_).symm
  refine (List.perm_ext_iff_of_nodup (lt_nodup hs) (namesOf_nodup ys)).mpr fun s => ?_
  rw [mem_namesOf]
  exact ⟨fun h => ⟨hN s h, h⟩, fun h => h.2⟩
theorem find_fst {k : Kd} : ∀ {ps : List (Str × Rk k)} {p : Str × Rk k}, (ps.map Prod.fst).Nodup → p ∈ ps → ps.find? (fun q => decide (q.1 = p.1)) = some p
  | [], _, _, h => nomatch h
  | q :: ps, p, nd, h => by
    rw [List.map_cons, List.nodup_cons] at nd
    rw [List.find?_cons]
    rcases List.mem_cons.mp h with e | e
    · rw [← e]
      simp
    · have ne : q.1 ≠ p.1 := fun z => nd.1 (z ▸ List.mem_map_of_mem e)
      rw [decide_eq_false ne]
      exact find_fst nd.2 e
theorem op_lenD {K : PySem.W.Frag} {m : List (Key × D)} : OpC K (fun xs H Q => ∃ a kvs, xs = [V.ref a] ∧ H a = some (.dK kvs) ∧ Q (.int kvs.length) H) [.dK m] (.int m.length) := fun Hs H vs Q e rs q => by
  cases rs with
  | cons h1 h2 =>
    cases h2
    obtain ⟨a, ps, rfl, ha, hk, rl⟩ := h1.dK_inv'
    refine ⟨a, ps, rfl, e _ _ ha, ?_⟩
    have : ps.length = m.length := by
      have := congrArg List.length hk
      rwa [List.length_map, List.length_map] at this
    rw [this]
    exact q _ Hs H (.refl e) (.int _)
section
variable {k : Kd} {P : Rk k} {ls : List (Ln Str (Rk k))} {c : Cs Str (Rk k)}
/-- the bases of a book's names in an order -/
def basesO (P : Rk k) (ls : List (Ln Str (Rk k))) (os : List Str) : List Nat := match clo P ls with
  | none => []
  | some c => basesF P c [] os
def wdsR (P : Rk k) (ps : List (Str × Rk k)) : List (Str × Rk k) := ps.map fun p => (p.1, rst p.2 P)
theorem wdsR_fst (ps : List (Str × Rk k)) : (wdsR P ps).map Prod.fst = ps.map Prod.fst := by
  unfold wdsR
  rw [List.map_map]
  rfl
/-- the order in which words are asked, when some are told -/
def askO (ps : List (Str × Rk k)) (ls : List (Ln Str (Rk k))) : List Str := namesOf (ps.map Prod.fst) ++ (nsOf ls).filter fun n => !decide (n ∈ ps.map Prod.fst)
end
section
variable {P : Program} {w : World} {K : PySem.W.Frag} {mg : Str → Option Value} {base : Heap}
def f_choices_left : List D → D → Prop := fun ds d => ∃ (k : Kd) (P : Rk k) (ls : List (Ln Str (Rk k))) (os : List Str), ds = [bkD ls, iD P, nmD os] ∧ d = natsD (basesO P ls os) ∧ BkP P ls ∧ os.Nodup ∧ (∀ n ∈ os, n ∈ nsOf ls) ∧ namesOf os = nsOf ls ∧ os.length ≤ 10
theorem s_choices_left : FnScope [("book" : Str), ("period" : Str), ("names" : Str), ("told" : Str), ("closed" : Str), ("name" : Str)] ["book", "period", "names"] (defScope (Hd.top 66)) := ⟨rfl, rfl, rfl, by decide +kernel, rfl, by decide +kernel, by decide +kernel⟩
theorem c_choices_left (T : Tx K mg) (k : Nat) : Cal P w K mg base (k + 10) "choices_left" (spD K f_choices_left) := by
  have c_check_period := c_check_period (P := P) (w := w) (base := base) T k
  have c_names_in_lines := c_names_in_lines (P := P) (w := w) (base := base) T k
  have c_closed_rows := c_closed_rows (P := P) (w := w) (base := base) T k
  have c_bases_in := c_bases_in (P := P) (w := w) (base := base) T k
  have sc := s_choices_left
  refine cal_of (k := k + 9) T 48 48 rfl rfl s_choices_left (fun _ _ _ _ _ _ us hl => match us, hl with | [_, _, _], _ => rfl) (fun vs H Q E h => spD_len h (n := 3) (by rintro _ _ ⟨k, P', ls, os, rfl, rfl, b, nd, hsub, hN, hl⟩; rfl)) fun cdv A outer s H vs Q E hr h => ⟨_, PSs.nox (pss_cons (ps_expr (pe_c c_check_period hr (by omega) (by rfl) (pa_cons (pv 0) (pa_cons (pv 1) pa_nil)))) (pss_cons (ps_set (i := 3) sc.nd rfl (Or.inl rfl) (pe_c c_names_in_lines hr (by omega) (by rfl) (pa_cons (pe_ix ix_tup (pv 0) pe_int (fun _ _ => rfl)) pa_nil))) (pss_cons (ps_if (PW.pt (pw_or (pt_not (pt_val (pe_callB call_isi (by rfl) (T.fr 81 rfl) (by decide +kernel) (pa_cons (pv 2) (pa_cons (pe_bltn (v := .ty "list") (by rfl) (T.fr 83 rfl) (by decide +kernel) rfl) pa_nil))))) (pw_or1 (pt_cmpR (op_neD hr.units) (pe_lc (own := [(("name" : Str), 5)]) (g := gName 5) rfl sc.nd  (pi_list (pv 2)) (blkOk_by (own := [(("name" : Str), 5)]) (N := [("book" : Str), ("period" : Str), ("names" : Str), ("told" : Str), ("closed" : Str), ("name" : Str)]) (sc := defScope (Hd.top 66)) (by decide +kernel)) (fun _ _ _ _ _ => (pg_name (i := 5) sc.nd rfl (Or.inl rfl))) (fun _ _ _ _ _ => (pts_one (pt_not (pt_val (pe_callB (show CallR _ (.builtin "isinstance") (rIsi K) from call_isi) (by rfl) (T.fr 81 rfl) (by decide +kernel) (pa_cons (pv 5) (pa_cons (pe_bltn (v := .ty "str") (by rfl) (T.fr 89 rfl) (by decide +kernel) rfl) pa_nil))))))) (fun _ _ _ _ _ => (pv 5))) (pe_lst pa_nil) (nomark _))))) pss_never pss_nil) (pss_cons (ps_if (pt_cmpR (op_neD hr.units) (pe_callB cr_sortedS (by rfl) (T.fr 88 rfl) (by decide +kernel) (pa_cons (pv 2) pa_nil)) (pv 3) (nomark _)) pss_never pss_nil) (pss_cons (ps_set (i := 4) sc.nd rfl (Or.inl rfl) (pe_c c_closed_rows hr (by omega) (by rfl) (pa_cons (pv 0) (pa_cons (pv 1) pa_nil)))) (pss_one (ps_ret (pe_ifExp (pt_cmpR (op_isN) (pv 4) pe_non (nomark _)) (pe_lst pa_nil) (pe_c c_bases_in hr (by omega) (by rfl) (pa_cons (pe_ix ix_tup (pv 0) pe_int (fun _ _ => rfl)) (pa_cons (pv 1) (pa_cons (pv 4) (pa_cons (pv 2) pa_nil))))))))))))), spD_run h ?_⟩
  clear h
  rintro ds d ⟨k, P', ls, os, rfl, rfl, b, nd, hsub, hN, hl⟩
  show WS K none _ [some (false, _), some (false, _), some (false, _), none, none, none] _ _
  have hln := nsOf_len ls
  have inN : ∀ n ∈ os, n ∈ NAMES := fun n h => (mem_namesOf.mp (hsub n h)).1
  refine ws_seq (ws_drop (ev_call (ea_cons (ev_var rfl) (ea_cons (ev_var rfl) ea_nil)) ⟨k, P', ls, rfl, rfl, b⟩) ?_)
  refine ws_seq (ws_set (ev_call (ea_cons (ev_op (ev_var rfl) ev_int (op_ixT rfl)) ea_nil) ⟨k, ls, rfl, rfl, b.bk⟩) ?_)
  refine ws_seq (ws_ifno (et_is (et_or (et_nT (et_test (ev_isi (ev_var rfl) rfl kit_same))) fun _ => et_test (ev_op (en_lcNone (js := [5]) (ei_list (ev_var rfl)) (len_szl (by rw [List.length_map]; omega)) (by decide) fun d hd => ?_).ev (ev_lst ea_nil (szb rfl)) op_ne00)) rfl) ?_)
  · obtain ⟨n, hm, rfl⟩ := List.mem_map.mp hd
    exact wg_name (et_nT (et_test (ev_isi (ev_var rfl) rfl kit_same)))
  refine ws_seq (ws_ifno (et_is (et_test (ev_op (en_cb (ea_cons (ev_var rfl) ea_nil) (ocn_sortedS inN nd (by omega))).ev (ev_var rfl) (op_neLS (fun s h => names_strOk s (mem_namesOf.mp h).1) (fun s h => names_strOk s (mem_namesOf.mp h).1)))) ?_) ?_)
  · rw [decide_eq_true hN]
    rfl
  refine ws_seq (ws_set (ev_call (ea_cons (ev_var rfl) (ea_cons (ev_var rfl) ea_nil)) ⟨k, P', ls, rfl, rfl, b⟩) ?_)
  refine ws_ret (ev_if (et_test (ev_op (ev_var rfl) ev_non (op_isNd _))) (fun h => ?_) fun h => ?_) rfl
  · unfold basesO
    cases e : clo P' ls with
    | none => exact ev_lst ea_nil (szb rfl)
    | some c => rw [e] at h; cases h
  · unfold basesO
    cases e : clo P' ls with
    | none => rw [e] at h; cases h
    | some c => exact ev_call (ea_cons (ev_op (ev_var rfl) ev_int (op_ixT rfl)) (ea_cons (ev_var rfl) (ea_cons (ev_var rfl) (ea_cons (ev_var rfl) ea_nil)))) ⟨k, P', c, pairs (nsOf ls), os, rfl, rfl, b.ok e, by omega, nd, fun a ha b hb ne => nsOf_pairs ls a (hsub a ha) b (hsub b hb) ne⟩

def f_how_many_with : List D → D → Prop := fun ds d => ∃ (k : Kd) (P : Rk k) (ls : List (Ln Str (Rk k))) (c : Cs Str (Rk k)) (ps : List (Str × Rk k)), ds = [bkD ls, iD P, .lst (ps.map pairD)] ∧ d = .int (prodN ((basesF P c [] (askO ps ls)).drop ps.length) : Nat) ∧ BkP P ls ∧ clo P ls = some c ∧ (∀ p ∈ ps, p.1 ∈ nsOf ls) ∧ (ps.map (·.1)).Pairwise strLt ∧ (∀ p ∈ ps, Szr 9000 p.2) ∧
  (∀ p ∈ wdsR P ps, ∀ q ∈ wdsR P ps, p.1 ≠ q.1 → S c p.1 q.1 (q.2 - p.2))
theorem s_how_many_with : FnScope [("book" : Str), ("period" : Str), ("numbers" : Str), ("closed" : Str), ("words" : Str), ("names" : Str), ("name" : Str), ("number" : Str)] ["book", "period", "numbers"] (defScope (Hd.top 74)) := ⟨rfl, rfl, rfl, by decide +kernel, rfl, by decide +kernel, by decide +kernel⟩
theorem c_how_many_with (T : Tx K mg) (k : Nat) : Cal P w K mg base (k + 10) "how_many_with" (spD K f_how_many_with) := by
  have c_check_period := c_check_period (P := P) (w := w) (base := base) T k
  have c_check_some := c_check_some (P := P) (w := w) (base := base) T k
  have c_closed_rows := c_closed_rows (P := P) (w := w) (base := base) T k
  have c_product_of := c_product_of (P := P) (w := w) (base := base) T k
  have c_denied_in := c_denied_in (P := P) (w := w) (base := base) T k
  have c_bases_in := c_bases_in (P := P) (w := w) (base := base) T k
  have c_rest_in := c_rest_in (P := P) (w := w) (base := base) T k
  have c_names_in_lines := c_names_in_lines (P := P) (w := w) (base := base) T k
  have sc := s_how_many_with
  refine cal_of (k := k + 9) T 56 56 rfl rfl s_how_many_with (fun _ _ _ _ _ _ us hl => match us, hl with | [_, _, _], _ => rfl) (fun vs H Q E h => spD_len h (n := 3) (by rintro _ _ ⟨k, P', ls, c, ps, rfl, rfl, b, hc, hin, hs, hz, hS⟩; rfl)) fun cdv A outer s H vs Q E hr h => ⟨_, PSs.nox (pss_cons (ps_expr (pe_c c_check_period hr (by omega) (by rfl) (pa_cons (pv 0) (pa_cons (pv 1) pa_nil)))) (pss_cons (ps_expr (pe_c c_check_some hr (by omega) (by rfl) (pa_cons (pv 0) (pa_cons (pv 2) pa_nil)))) (pss_cons (ps_set (i := 3) sc.nd rfl (Or.inl rfl) (pe_c c_closed_rows hr (by omega) (by rfl) (pa_cons (pv 0) (pa_cons (pv 1) pa_nil)))) (pss_cons (ps_set (i := 4) sc.nd rfl (Or.inr rfl) (pe_callTy (call_dictP rfl) (by rfl) (T.fr 78 rfl) (by decide +kernel) (pa_cons (pe_lc (own := [(("name" : Str), 6), (("number" : Str), 7)]) (g := gTup K 2 (gCons (gName 6) (gCons (gName 7) gNil))) rfl sc.nd  (pi_list (pv 2)) (blkOk_by (own := [(("name" : Str), 6), (("number" : Str), 7)]) (N := [("book" : Str), ("period" : Str), ("numbers" : Str), ("closed" : Str), ("words" : Str), ("names" : Str), ("name" : Str), ("number" : Str)]) (sc := defScope (Hd.top 74)) (by decide +kernel)) (fun _ _ _ _ _ => (pg_tup rfl (pgs_cons (pg_name (i := 6) sc.nd rfl (Or.inl rfl)) (pgs_cons (pg_name (i := 7) sc.nd rfl (Or.inl rfl)) pgs_nil)))) (fun _ _ _ _ _ => pts_nil) (fun _ _ _ _ _ => (pe_tup (pa_cons (pv 6) (pa_cons (pe_c c_rest_in hr (by omega) (by rfl) (pa_cons (pe_ix (show IxR _ (rIxT K) from ix_tup) (pv 0) pe_int (fun _ _ => rfl)) (pa_cons (pv 7) (pa_cons (pv 1) pa_nil)))) pa_nil))))) pa_nil))) (pss_cons (ps_if (PW.pt (pw_or (pt_cmpR (op_isN) (pv 3) pe_non (nomark _)) (pw_or1 (pt_cmpR (op_notN) (pe_c c_denied_in hr (by omega) (by rfl) (pa_cons (pe_ix ix_tup (pv 0) pe_int (fun _ _ => rfl)) (pa_cons (pv 3) (pa_cons (pv 4) pa_nil)))) pe_non (nomark _))))) (pss_one (ps_ret pe_int)) pss_nil) (pss_cons (ps_set (i := 5) sc.nd rfl (Or.inl rfl) (pe_op op_cat (pe_callB (call_sortedD rfl) (by rfl) (T.fr 88 rfl) (by decide +kernel) (pa_cons (pv 4) pa_nil)) (pe_lc (own := [(("name" : Str), 6)]) (g := gName 6) rfl sc.nd  (pi_list (pe_c c_names_in_lines hr (by omega) (by rfl) (pa_cons (pe_ix (show IxR _ (rIxT K) from ix_tup) (pv 0) pe_int (fun _ _ => rfl)) pa_nil))) (blkOk_by (own := [(("name" : Str), 6)]) (N := [("book" : Str), ("period" : Str), ("numbers" : Str), ("closed" : Str), ("words" : Str), ("names" : Str), ("name" : Str), ("number" : Str)]) (sc := defScope (Hd.top 74)) (by decide +kernel)) (fun _ _ _ _ _ => (pg_name (i := 6) sc.nd rfl (Or.inl rfl))) (fun _ _ _ _ _ => (pts_one (pt_cmp (pc_dnotin (hu_of hr) (pv 6) (pv 4))))) (fun _ _ _ _ _ => (pv 6))))) (pss_one (ps_ret (pe_c c_product_of hr (by omega) (by rfl) (pa_cons (pe_slice sl_list (pe_c c_bases_in hr (by omega) (by rfl) (pa_cons (pe_ix ix_tup (pv 0) pe_int (fun _ _ => rfl)) (pa_cons (pv 1) (pa_cons (pv 3) (pa_cons (pv 5) pa_nil))))) (po_some (pe_callB call_lenD (by rfl) (T.fr 82 rfl) (by decide +kernel) (pa_cons (pv 4) pa_nil))) po_none) pa_nil)))))))))), spD_run h ?_⟩
  clear h
  rintro ds d ⟨k, P', ls, c, ps, rfl, rfl, b, hc, hin, hs, hz, hS⟩
  show WS K none _ [some (false, _), some (false, _), some (false, _), none, none, none, none, none] _ _
  have hln := nsOf_len ls
  have ok := b.ok hc
  have nd : (ps.map Prod.fst).Nodup := lt_nodup hs
  have inN : ∀ n ∈ ps.map Prod.fst, n ∈ NAMES := fun n h => by
    obtain ⟨p, hp, rfl⟩ := List.mem_map.mp h
    exact (mem_namesOf.mp (hin p hp)).1
  have ins : ∀ n ∈ ps.map Prod.fst, n ∈ nsOf ls := fun n h => by
    obtain ⟨p, hp, rfl⟩ := List.mem_map.mp h
    exact hin p hp
  have hpl : ps.length ≤ 10 := by
    have h1 : namesOf (ps.map Prod.fst) = ps.map Prod.fst := namesOf_of_lt hs inN
    have h2 := namesOf_len (ps.map Prod.fst)
    rw [h1, List.length_map] at h2
    exact h2
  refine ws_seq (ws_drop (ev_call (ea_cons (ev_var rfl) (ea_cons (ev_var rfl) ea_nil)) ⟨k, P', ls, rfl, rfl, b⟩) ?_)
  refine ws_seq (ws_drop (ev_call (ea_cons (ev_var rfl) (ea_cons (ev_var rfl) ea_nil)) ⟨k, ls, ps, rfl, rfl, b.bk, hin, hs, by omega⟩) ?_)
  refine ws_seq (ws_set (ev_is (ev_call (ea_cons (ev_var rfl) (ea_cons (ev_var rfl) ea_nil)) ⟨k, P', ls, rfl, rfl, b⟩) (show _ = clD (pairs (nsOf ls)) c from by rw [hc]; rfl)) ?_)
  refine ws_seq (ws_set (ev_is (en_cb (ea_cons (ev_is (en_lcL (js := [6, 7]) (fun _ => true) (fun d => match d with | .tup [.str s, .int i] => .tup [.str s, match (ps.find? fun p => decide (p.1 = s)) with | some p => iD (rst p.2 P') | none => .non] | _ => .non) (ev_var rfl) (len_szl (by rw [List.length_map]; omega)) (by decide) fun d hd => ?_).ev (show _ = D.lst (((wdsR P' ps).map fun p => (p.1, iD p.2)).map fun p => .tup [.str p.1, p.2]) from ?_)) ea_nil) (ocn_dictP ?_)).ev (show _ = wdD (wdsR P' ps) from ?_)) ?_)
  · obtain ⟨p, hm, rfl⟩ := List.mem_map.mp hd
    have e : ps.find? (fun q => decide (q.1 = p.1)) = some p := find_fst nd hm
    refine wg_tup rfl (wgs_cons (wg_name (wgs_cons (wg_name (wgs_nil ⟨et_yes, fun _ => ?_⟩)))))
    refine ev_is (ev_tup (ea_cons (ev_var rfl) (ea_cons (ev_call (ea_cons (ev_op (ev_var rfl) ev_int (op_ixT rfl)) (ea_cons (ev_var rfl) (ea_cons (ev_var rfl) ea_nil))) ⟨k, p.2, P', 9000, rfl, rfl, b.pP.cnt, b.sP.mono (by omega), hz p hm, by omega⟩) ea_nil)) (szb rfl)) ?_
    show _ = D.tup [.str p.1, match (ps.find? fun q => decide (q.1 = p.1)) with | some p => iD (rst p.2 P') | none => .non]
    rw [e]
  · rw [pick_all, List.map_map, List.map_map]
    unfold wdsR
    rw [List.map_map]
    refine congrArg D.lst (List.map_congr_left fun p hm => ?_)
    have e : ps.find? (fun q => decide (q.1 = p.1)) = some p := find_fst nd hm
    show D.tup [.str p.1, match (ps.find? fun q => decide (q.1 = p.1)) with | some p => iD (rst p.2 P') | none => .non] = _
    rw [e]
    rfl
  · rw [List.map_map]
    have : ((fun x : Str × D => x.1) ∘ fun p : Str × Rk k => (p.1, iD p.2)) = Prod.fst := rfl
    rw [this, wdsR_fst]
    exact nd
  · refine congrArg D.dK ?_
    rw [List.map_map]
    rfl
  have hwf : (wdsR P' ps).map Prod.fst = ps.map Prod.fst := wdsR_fst ps
  refine ws_seq (ws_ifno (et_is (et_or (et_test (ev_op (ev_var rfl) ev_non (op_isNd _))) fun _ => et_test (ev_op (ev_call (ea_cons (ev_op (ev_var rfl) ev_int (op_ixT rfl)) (ea_cons (ev_var rfl) (ea_cons (ev_var rfl) ea_nil))) ⟨k, P', c, pairs (nsOf ls), wdsR P' ps, rfl, rfl, ok, by rw [hwf]; exact nd, by rw [hwf]; exact inN, by unfold wdsR; rw [List.length_map]; omega, ?_, ?_, hS⟩) ev_non (op_notNd _))) rfl) ?_)
  · rw [hwf]
    exact fun a ha b hb ne => nsOf_pairs ls a (ins a ha) b (ins b hb) ne
  · intro p hp
    unfold wdsR at hp
    obtain ⟨q, hq, rfl⟩ := List.mem_map.mp hp
    exact (sz_red (rst_red b.pP) b.sP).mono (by omega)
  refine ws_seq (ws_set (ev_is (ev_op (en_cb (ea_cons (ev_var rfl) ea_nil) (ocn_sortedD (xs := ps.map Prod.fst) (by rw [wdM_keys, hwf]) inN nd (by rw [List.length_map]; omega))).ev (en_lcL (js := [6]) (fun d => match d with | .str s => !(dV (wdM (wdsR P' ps)) (.inr s)).isSome | _ => false) (fun d => d) (ev_call (ea_cons (ev_op (ev_var rfl) ev_int (op_ixT rfl)) ea_nil) ⟨k, ls, rfl, rfl, b.bk⟩) (len_szl (by rw [List.length_map]; omega)) (by decide) fun d hd => ?_).ev (op_catL ?_)) (show _ = nmD (askO ps ls) from ?_)) ?_)
  · obtain ⟨n, hm, rfl⟩ := List.mem_map.mp hd
    exact wg_name ⟨et_test (ev_dninK (ev_var rfl) (ev_var rfl)), fun _ => ev_var rfl⟩
  · have h1 := namesOf_len (ps.map Prod.fst)
    have h2 : (pick (fun d => match d with | .str s => !(dV (wdM (wdsR P' ps)) (.inr s)).isSome | _ => false) (fun d => d) ((nsOf ls).map D.str)).length ≤ 10 := by
      unfold pick
      rw [List.length_map]
      refine Nat.le_trans (List.length_filter_le _ _) ?_
      rw [List.length_map]
      exact hln
    have hz' := szl (Nat.le_refl 1000000)
    rw [List.length_map]
    omega
  · unfold askO nmD
    rw [List.map_append]
    refine congrArg (fun z => D.lst ((namesOf (ps.map Prod.fst)).map D.str ++ z)) ?_
    unfold pick
    rw [List.map_id', List.filter_map]
    refine congrArg (List.map D.str) (List.filter_congr fun n _ => ?_)
    show (!(dV (wdM (wdsR P' ps)) (.inr n)).isSome) = !decide (n ∈ ps.map Prod.fst)
    by_cases h : n ∈ ps.map Prod.fst
    · rw [decide_eq_true h]
      rw [← hwf] at h
      obtain ⟨q, hq, rfl⟩ := List.mem_map.mp h
      have e : dV (wdM (wdsR P' ps)) (.inr q.1) = some (iD q.2) := dV_wd (by rw [hwf]; exact nd) hq
      rw [e]
      rfl
    · rw [decide_eq_false h]
      rw [← hwf] at h
      rw [wd_none h]
      rfl
  have asub : ∀ n ∈ askO ps ls, n ∈ nsOf ls := fun n h => by
    rcases List.mem_append.mp h with h | h
    · exact ins n (mem_namesOf.mp h).2
    · exact (List.mem_filter.mp h).1
  have and' : (askO ps ls).Nodup := by
    unfold askO
    rw [List.nodup_append]
    refine ⟨namesOf_nodup _, List.Pairwise.sublist List.filter_sublist (nsOf_nd ls), fun a ha b hb e => ?_⟩
    have h1 := (mem_namesOf.mp ha).2
    have h2 := (List.mem_filter.mp hb).2
    rw [← e, decide_eq_true h1] at h2
    cases h2
  have alen : (askO ps ls).length ≤ 20 := by
    unfold askO
    rw [List.length_append]
    have h1 := namesOf_len (ps.map Prod.fst)
    have h2 : ((nsOf ls).filter fun n => !decide (n ∈ ps.map Prod.fst)).length ≤ (nsOf ls).length := List.length_filter_le _ _
    omega
  have plen : ps.length ≤ (askO ps ls).length := by
    unfold askO
    have h1 : namesOf (ps.map Prod.fst) = ps.map Prod.fst := namesOf_of_lt hs inN
    rw [List.length_append, h1, List.length_map]
    omega
  refine ws_ret (ev_call (ea_cons (ev_is (en_slL (ev_call (ea_cons (ev_op (ev_var rfl) ev_int (op_ixT rfl)) (ea_cons (ev_var rfl) (ea_cons (ev_var rfl) (ea_cons (ev_var rfl) ea_nil)))) ⟨k, P', c, pairs (nsOf ls), askO ps ls, rfl, rfl, ok, by omega, and', fun a ha b hb ne => nsOf_pairs ls a (asub a ha) b (asub b hb) ne⟩) (eo_some (ev_is (ev_cb (ea_cons (ev_var rfl) ea_nil) op_lenD) (show _ = D.int (ps.length : Int) from ?_))) eo_none).ev ((congrArg D.lst (cut_drop _ ps.length (by rw [List.length_map, basesF_len]; exact plen))).trans (congrArg D.lst List.map_drop.symm))) ea_nil) ⟨(basesF P' c [] (askO ps ls)).drop ps.length, rfl, rfl, fun a ha => basesF_sz ok.ok b.pP (b.sP.mono (by omega)) a (List.mem_of_mem_drop ha), by rw [List.length_drop, basesF_len]; omega⟩) rfl
  rw [wdM_len]
  unfold wdsR
  rw [List.length_map]

end
end J

/-! ## V1 -/
/-! The law's own numbers drawn. -/
namespace J
open PySem PySem.Spec PyProof.Rows L2 Q
open KR
open Evl (ex_rd ex_l ex_t)
section
variable {X : Cx}
def CPowW (i j : Int) : Prop := 0 ≤ j ∧ (Builtin.Int.intBits i : Int) * j ≤ 2 ^ 27
theorem op_powW : OpR X (binaryOp .Pow) (rI CPowW fun i j => .int (i ^ j.toNat)) := opI fun _ _ _ _ _ _ _ hc q => pow_int hc.1 hc.2 q
end
section
variable {K : PySem.W.Frag} {ρ : Env} {te : TE}
theorem op_int1 {i : Int} : OpC K (fun xs H Q => (∃ i, xs = [.int i] ∧ Q (.int i) H) ∨ ∃ k, xs = [.bl k] ∧ Q (.int (if k then 1 else 0)) H) [.int i] (.int i) := fun Hs H vs Q e rs q => by
  cases rs with
  | cons r1 rs =>
    cases rs
    cases r1
    exact .inl ⟨i, rfl, q _ Hs H (.refl e) (.int _)⟩
theorem op_max2 {i j : Int} : OpC K (fun xs H Q => ∃ i j, xs = [.int i, .int j] ∧ Q (.int (if j > i then j else i)) H) [.int i, .int j] (.int (if j > i then j else i)) := fun Hs H vs Q e rs q => by
  cases rs with
  | cons r1 rs =>
    cases rs with
    | cons r2 rs =>
      cases rs
      cases r1
      cases r2
      exact ⟨i, j, rfl, q _ Hs H (.refl e) (.int _)⟩
theorem op_ixScr {ns : List Int} {i z : Int} (h : atI ns i = some z) : Op2 K (rIxL K) (.scr ns) (.int i) (.int z) := fun Hs H v w Q e r1 r2 q => by
  obtain ⟨a, rfl, ha⟩ := r1.scr_inv
  cases r2
  exact ⟨a, ns.map V.int, i, .int z, rfl, rfl, ex_l e ha, atI_map h, q _ Hs H (.refl e) (.int _)⟩
where atI_map {ns : List Int} {i z : Int} (h : atI ns i = some z) : atI (ns.map V.int) i = some (.int z) := by
        unfold atI at h ⊢
        rw [List.length_map]
        cases e : ixN ns.length i with
        | none => rw [e] at h; cases h
        | some j =>
          rw [e] at h
          have h' : ns[j]? = some z := h
          show (ns.map V.int)[j]? = _
          rw [List.getElem?_map, h']
          rfl
theorem op_lenScr {ns : List Int} : OpC K (fun xs H Q => ∃ p ys, xs = [V.ref p] ∧ (SqL K H p ys ∨ SqT K H p ys) ∧ Q (.int ys.length) H) [.scr ns] (.int ns.length) := fun Hs H vs Q e rs q => by
  cases rs with
  | cons r1 rs =>
    cases rs
    obtain ⟨a, rfl, ha⟩ := r1.scr_inv
    refine ⟨a, ns.map V.int, rfl, .inl (ex_l e ha), ?_⟩
    rw [List.length_map]
    exact q _ Hs H (.refl e) (.int _)
def cutI (ns : List Int) (lo hi : Option Int) : List Int := (ns.drop (HT.sIx ns.length 0 lo)).take (HT.sIx ns.length ns.length hi - HT.sIx ns.length 0 lo)
theorem ev_sumScr {tl th : TO} {ns : List Int} {lo hi : Option Int} (h : Ev K te ρ (.scr ns)) (h1 : EvO K tl ρ lo) (h2 : EvO K th ρ hi) : Ev K (tCB (rSum K) (tCons (tSl (rSlL K) te tl th) tNil)) ρ (.int (cutI ns lo hi).sum) := fun σ Hs H R Q q =>
  h σ Hs H R _ fun v Hs1 H1 g1 r1 => h1 σ Hs1 H1 (R.stay g1) _ fun Hs2 H2 g2 => h2 σ Hs2 H2 ((R.stay g1).stay g2) _ fun Hs3 H3 g3 => by
    obtain ⟨a, rfl, ha⟩ := (r1.mono (g2.s.trans g3.s)).scr_inv
    refine ⟨a, ns.map V.int, rfl, ex_l g3.i ha, fun p hp => ?_⟩
    have gA : Go N0 Hs3 H3 Hs3 (upd H3 p (.lst (L2.cutV (ns.map V.int) lo hi))) := .newM g3.i hp
    refine ⟨p, cutI ns lo hi, rfl, ?_, q _ Hs3 _ ((g1.trans0 (g2.trans0 g3)).trans0 gA) (.int _)⟩
    have e : L2.cutV (ns.map V.int) lo hi = (cutI ns lo hi).map V.int := cut_map
    rw [e]
    exact SqL.of upd_same
where cut_map {ns : List Int} {lo hi : Option Int} : L2.cutV (ns.map V.int) lo hi = (cutI ns lo hi).map V.int := by
        unfold L2.cutV cutI
        rw [List.length_map, List.map_take, List.map_drop]
end
/-! numbers drawn -/
def hashA (s n : Int) : Int := (s * 1140671 + 27644437 * n * n + 131 * n + 19).fmod 2147483629
def hashB (s n : Int) : Int := (hashA s n * hashA s n + 62089 * n + 32416187).fmod 2147483587
def hashF (s n : Int) : Int := (hashB s n * 48271).fmod 2147483647
theorem hash_rng (s n : Int) : 0 ≤ hashF s n ∧ hashF s n < 2147483647 := ⟨Int.fmod_nonneg_of_pos _ (by decide), Int.fmod_lt_of_pos _ (by decide)⟩
theorem hashA_sz (s n : Int) : Sz 31 (hashA s n) := by
  have h1 : 0 ≤ hashA s n := Int.fmod_nonneg_of_pos _ (by decide)
  have h2 : hashA s n < 2147483629 := Int.fmod_lt_of_pos _ (by decide)
  unfold Sz
  omega
theorem hashB_sz (s n : Int) : Sz 31 (hashB s n) := by
  have h1 : 0 ≤ hashB s n := Int.fmod_nonneg_of_pos _ (by decide)
  have h2 : hashB s n < 2147483587 := Int.fmod_lt_of_pos _ (by decide)
  unfold Sz
  omega
/-- the generator's state, its counter at most N -/
def GenOk (N : Nat) (g : D) : Prop := ∃ a s n : Int, g = .lst [.int a, .int s, .int n] ∧ 0 ≤ a ∧ 0 ≤ s ∧ s < 2147483647 ∧ 0 ≤ n ∧ n ≤ (N : Int)
theorem GenOk.mono {N M : Nat} {g : D} (h : GenOk N g) (hm : N ≤ M) : GenOk M g := by
  obtain ⟨a, s, n, e, h1, h2, h3, h4, h5⟩ := h
  exact ⟨a, s, n, e, h1, h2, h3, h4, by omega⟩
section
variable {P : Program} {w : World} {K : PySem.W.Frag} {mg : Str → Option Value} {base : Heap}
def f_law_hash : List D → D → Prop := fun ds d => ∃ s n : Int, ds = [.int s, .int n] ∧ d = .int (hashF s n) ∧ Sz 31 s ∧ Sz 64 n
theorem s_law_hash : FnScope [("_law_seed" : Str), ("_law_index" : Str), ("_law_mixed" : Str)] ["_law_seed", "_law_index"] (defScope (Hd.top 76)) := ⟨rfl, rfl, rfl, by decide +kernel, rfl, by decide +kernel, by decide +kernel⟩
theorem c_law_hash (T : Tx K mg) (k : Nat) : Cal P w K mg base (k + 1) "_law_hash" (spD K f_law_hash) := by
  have sc := s_law_hash
  refine cal_of (k := k + 0) T 57 57 rfl rfl s_law_hash (fun _ _ _ _ _ _ us hl => match us, hl with | [_, _], _ => rfl) (fun vs H Q E h => spD_len h (n := 2) (by rintro _ _ ⟨s, n, rfl, rfl, hs, hn⟩; rfl)) fun cdv A outer s H vs Q E hr h => ⟨_, PSs.nox (pss_cons (ps_set (i := 2) sc.nd rfl (Or.inl rfl) (pe_op op_modN (pe_callTy call_int1 (by rfl) (T.fr 80 rfl) (by decide +kernel) (pa_cons (pe_op op_add (pe_op op_add (pe_op op_add (pe_op op_mulX (pv 0) pe_int) (pe_op op_mulX (pe_op op_mulX pe_int (pv 1)) (pv 1))) (pe_op op_mulX pe_int (pv 1))) pe_int) pa_nil)) pe_int)) (pss_cons (ps_set (i := 2) sc.nd rfl (Or.inl rfl) (pe_op op_modN (pe_callTy call_int1 (by rfl) (T.fr 80 rfl) (by decide +kernel) (pa_cons (pe_op op_add (pe_op op_add (pe_op op_mulX (pv 2) (pv 2)) (pe_op op_mulX pe_int (pv 1))) pe_int) pa_nil)) pe_int)) (pss_one (ps_ret (pe_op op_modN (pe_callTy call_int1 (by rfl) (T.fr 80 rfl) (by decide +kernel) (pa_cons (pe_op op_mulX (pv 2) pe_int) pa_nil)) pe_int))))), spD_run h ?_⟩
  clear h
  rintro ds d ⟨s, n, rfl, rfl, hs, hn⟩
  show WS K none _ [some (false, _), some (false, _), none] _ _
  refine ws_seq (ws_set (ev_op (ev_cb (ea_cons (ev_op (ev_op (ev_op (ev_op (ev_var rfl) ev_int (op_iC (mulx_ok (b := 31) hs (by decide) (by decide)))) (ev_op (ev_op ev_int (ev_var rfl) (op_iC (mulx_ok (a := 31) (by decide) hn (by decide)))) (ev_var rfl) (op_iC (mulx_ok (Sz.mul (n := 31) (by unfold Sz; decide) hn) hn (by decide)))) op_i0) (ev_op ev_int (ev_var rfl) (op_iC (mulx_ok (a := 31) (by decide) hn (by decide)))) op_i0) ev_int op_i0) ea_nil) op_int1) ev_int (op_iC (by decide))) ?_)
  refine ws_seq (ws_set (ev_op (ev_cb (ea_cons (ev_op (ev_op (ev_op (ev_var rfl) (ev_var rfl) (op_iC (mulx_ok (hashA_sz s n) (hashA_sz s n) (by decide)))) (ev_op ev_int (ev_var rfl) (op_iC (mulx_ok (a := 31) (by decide) hn (by decide)))) op_i0) ev_int op_i0) ea_nil) op_int1) ev_int (op_iC (by decide))) ?_)
  exact ws_ret (ev_op (ev_cb (ea_cons (ev_op (ev_var rfl) ev_int (op_iC (mulx_ok (b := 31) (hashB_sz s n) (by decide) (by decide)))) ea_nil) op_int1) ev_int (op_iC (by decide))) rfl

def f_law_random : List D → (D → D → Prop) → Prop := fun ds Po => ∃ (g : D) (N : Nat) (b : Int), ds = [g, .int b] ∧ Po = (fun m d => GenOk (N + 100) m ∧ ∃ r : Nat, d = .int (r : Int) ∧ (r : Int) < b) ∧ GenOk N g ∧ 0 < b ∧ Sz 2100 b ∧ N ≤ 1000000
theorem et_gx {K : PySem.W.Frag} {ρ : Env} {a s n : Int} {i : Nat} (h : ρ[0]? = some (some (true, .lst [.int a, .int s, .int n]))) {z : Int} (hz : atI [D.int a, .int s, .int n] (i : Int) = some (.int z)) : Ev K (tOp (rIxL K) (tVar 0) (tC (.int (i : Int)))) ρ (.int z) := by
  refine ev_borrow (i := 0) h (ev_op (ev_var ?_) ev_int (op_ixL hz)) rfl
  rw [List.getElem?_set_self (List.getElem?_eq_some_iff.mp h).1]
theorem s_law_random : FnScope [("_law_generator_here" : Str), ("_law_bound" : Str), ("_law_drawn" : Str), ("_law_turn" : Str)] ["_law_generator_here", "_law_bound"] (defScope (Hd.top 77)) := ⟨rfl, rfl, rfl, by decide +kernel, rfl, by decide +kernel, by decide +kernel⟩
theorem c_law_random (T : Tx K mg) (k : Nat) : Cal P w K mg base (k + 2) "_law_random" (spM K 0 f_law_random) := by
  have c_law_hash := c_law_hash (P := P) (w := w) (base := base) T k
  have sc := s_law_random
  refine cal_of (k := k + 1) T 58 58 rfl rfl s_law_random (fun _ _ _ _ _ _ us hl => match us, hl with | [_, _], _ => rfl) (fun vs H Q E h => spM_len h (n := 2) (by rintro _ _ ⟨g, N, b, rfl, rfl, ⟨a, s, n, rfl, ha, hs0, hs1, hn0, hn1⟩, hb, hbz, hN⟩; rfl)) fun cdv A outer s H vs Q E hr h => ⟨_, PSs.nox (pss_cons (ps_if (pt_cmpR (op_gt) (pe_ix ix_list (pv 0) pe_int (fun _ _ => rfl)) pe_int (nomark _)) (pss_cons (ps_set (i := 2) sc.nd rfl (Or.inl rfl) (pe_op op_modN (pe_callTy call_int1 (by rfl) (T.fr 80 rfl) (by decide +kernel) (pa_cons (pe_ix ix_list (pv 0) pe_int (fun _ _ => rfl)) pa_nil)) (pv 1))) (pss_cons (ps_asg (pe_op op_fdivW (pe_ix ix_list (pv 0) pe_int (fun _ _ => rfl)) (pv 1)) (pg_sub (pv 0) pe_int set_list)) (pss_one (ps_ret (pv 2))))) pss_nil) (pss_cons (ps_set (i := 2) sc.nd rfl (Or.inl rfl) pe_int) (pss_cons (ps_for PassesOwn.never rfl (pi_range1 (by rfl) (T.fr 85 rfl) (pa_cons (pe_op op_add pe_int (pe_op op_fdivW (pe_bits (pv 1)) pe_int)) pa_nil)) (pg_name (i := 3) sc.nd rfl (Or.inl rfl)) (pss_cons (ps_asg (pe_op op_add (pe_ix ix_list (pv 0) pe_int (fun _ _ => rfl)) pe_int) (pg_sub (pv 0) pe_int set_list)) (pss_one (ps_set (i := 2) sc.nd rfl (Or.inl rfl) (pe_op op_add (pe_op op_mulX (pv 2) pe_int) (pe_c c_law_hash hr (by omega) (by rfl) (pa_cons (pe_ix ix_list (pv 0) pe_int (fun _ _ => rfl)) (pa_cons (pe_ix ix_list (pv 0) pe_int (fun _ _ => rfl)) pa_nil)))))))) (pss_one (ps_ret (pe_op op_modN (pe_callTy call_int1 (by rfl) (T.fr 80 rfl) (by decide +kernel) (pa_cons (pv 2) pa_nil)) (pv 1))))))), spM_run h ?_⟩
  clear h
  rintro an ds Po ⟨g, N, b, rfl, rfl, ⟨a, s, n, rfl, ha, hs0, hs1, hn0, hn1⟩, hb, hbz, hN⟩
  show WS K (some (0, an)) _ [some (true, _), some (false, _), none, none] _ _
  have szs : Sz 31 s := by unfold Sz; omega
  refine ws_seq (ws_when (et_test (ev_op (et_gx (i := 0) rfl rfl) ev_int op_b0)) (fun h => ?_) fun h => ?_)
  · have h := of_decide_eq_true h
    refine ws_seq (ws_set (ev_op (ev_cb (ea_cons (et_gx (i := 0) rfl rfl) ea_nil) op_int1) (ev_var rfl) (op_iC (by omega))) ?_)
    refine ws_seq (ws_setL (i := 0) (j := 0) rfl (ev_op (et_gx (i := 0) rfl rfl) (ev_var rfl) (op_iC (wide_div hb hbz (by decide) (by decide)))) (Nat.lt_of_sub_eq_succ rfl) ?_)
    have f0 : 0 ≤ a.fmod b := Int.fmod_nonneg_of_pos _ hb
    have f1 : a.fmod b < b := Int.fmod_lt_of_pos _ hb
    refine ws_ret (ev_var rfl) ⟨_, rfl, ⟨a / b, s, n, rfl, Int.ediv_nonneg ha (by omega), hs0, hs1, hn0, by omega⟩, (a.fmod b).toNat, congrArg D.int (Int.toNat_of_nonneg f0).symm, by omega⟩
  · have hbb : Builtin.Int.intBits b ≤ 2100 := PyProof.Rows.intBits_le hbz
    refine ws_seq (ws_set ev_int ?_)
    refine ws_seq (ws_forR1 (j := 3) (n := 1 + ((Builtin.Int.intBits b : Nat) : Int) / 30) (fun t ρ' => ∃ (x : Int) (x3 : Option (Bool × D)), ρ' = [some (true, .lst [.int a, .int s, .int (n + (t : Int))]), some (false, .int b), some (false, .int x), x3] ∧ 0 ≤ x ∧ Sz (32 * t + 1) x)
      (ea_cons (ev_op ev_int (ev_op (ev_bits (ev_var rfl)) ev_int (op_iC (wide_div (b := 31) (by decide) (by decide) (by decide) (by decide)))) op_i0) ea_nil) (by omega) (by omega) ⟨0, none, by rw [show n + ((0 : Nat) : Int) = n from by omega]; rfl, Int.le_refl 0, by unfold Sz; decide⟩ ?_ ?_)
    · rintro t ρ' ht ⟨x, x3, rfl, hx0, hxz⟩
      have htl : t ≤ 70 := by omega
      refine ws_seq (ws_setL (i := 0) (j := 2) rfl (ev_op (et_gx (i := 2) rfl rfl) ev_int op_i0) (Nat.lt_of_sub_eq_succ rfl) ?_)
      have hh := hash_rng s (n + (t : Int) + 1)
      refine ws_set (ev_op (ev_op (ev_var rfl) ev_int (op_iC (mulx_ok (b := 31) hxz (by decide) (by omega)))) (ev_call (ea_cons (et_gx (i := 1) rfl rfl) (ea_cons (et_gx (i := 2) rfl rfl) ea_nil)) ⟨s, n + (t : Int) + 1, rfl, rfl, szs, ?_⟩) op_i0) ⟨x * 2147483587 + hashF s (n + (t : Int) + 1), some (false, .int (t : Int)), ?_, ?_, ?_⟩
      · unfold Sz
        omega
      · rw [show n + ((t + 1 : Nat) : Int) = n + (t : Int) + 1 from by omega]
        rfl
      · omega
      · unfold Sz at hxz ⊢
        have e : 32 * (t + 1) + 1 = (32 * t + 1) + 32 := by omega
        rw [e, Nat.pow_add]
        have : (2 : Nat) ^ 32 = 4294967296 := by decide
        rw [this]
        omega
    · rintro ρ' ⟨x, x3, rfl, hx0, hxz⟩
      have f0 : 0 ≤ x.fmod b := Int.fmod_nonneg_of_pos _ hb
      have f1 : x.fmod b < b := Int.fmod_lt_of_pos _ hb
      exact ws_ret (ev_op (ev_cb (ea_cons (ev_var rfl) ea_nil) op_int1) (ev_var rfl) (op_iC (by omega))) ⟨_, rfl, ⟨a, s, n + (((1 + ((Builtin.Int.intBits b : Nat) : Int) / 30).toNat : Nat) : Int), rfl, ha, hs0, hs1, by omega, by omega⟩, (x.fmod b).toNat, congrArg D.int (Int.toNat_of_nonneg f0).symm, by omega⟩

def cellF (ns : List Int) (i : Nat) : Int := if i < ns.length then ns.getD i 0 else (cutI ns none (some 1)).sum.fmod 1000003
def f_law_cell : List D → D → Prop := fun ds d => ∃ (ns : List Int) (i : Nat), ds = [.scr ns, .int (i : Int)] ∧ d = .int (cellF ns i)
theorem s_law_cell : FnScope [("_law_script" : Str), ("_law_index" : Str)] ["_law_script", "_law_index"] (defScope (Hd.top 78)) := ⟨rfl, rfl, rfl, by decide +kernel, rfl, by decide +kernel, by decide +kernel⟩
theorem c_law_cell (T : Tx K mg) (k : Nat) : Cal P w K mg base (k + 1) "_law_cell" (spD K f_law_cell) := by
  have sc := s_law_cell
  refine cal_of (k := k + 0) T 59 59 rfl rfl s_law_cell (fun _ _ _ _ _ _ us hl => match us, hl with | [_, _], _ => rfl) (fun vs H Q E h => spD_len h (n := 2) (by rintro _ _ ⟨ns, i, rfl, rfl⟩; rfl)) fun cdv A outer s H vs Q E hr h => ⟨_, PSs.nox (pss_cons (ps_if (pt_cmpR (op_lt) (pv 1) (pe_callB call_len_seq (by rfl) (T.fr 82 rfl) (by decide +kernel) (pa_cons (pv 0) pa_nil)) (nomark _)) (pss_one (ps_ret (pe_ix ix_list (pv 0) (pv 1) (fun _ _ => rfl)))) pss_nil) (pss_one (ps_ret (pe_op op_modN (pe_callB (cr_sum rfl) (by rfl) (T.fr 90 rfl) (by decide +kernel) (pa_cons (pe_slice sl_list (pv 0) po_none (po_some pe_int)) pa_nil)) pe_int)))), spD_run h ?_⟩
  clear h
  rintro ds d ⟨ns, i, rfl, rfl⟩
  show WS K none _ [some (false, _), some (false, _)] _ _
  unfold cellF
  refine ws_seq (ws_when (et_test (ev_op (ev_var rfl) (ev_cb (ea_cons (ev_var rfl) ea_nil) op_lenScr) op_b0)) (fun h => ?_) fun h => ?_)
  · have h := of_decide_eq_true h
    have hi : i < ns.length := by omega
    refine ws_ret (ev_op (ev_var rfl) (ev_var rfl) (op_ixScr (z := ns.getD i 0) (atI_nat ?_))) (by rw [if_pos hi])
    rw [List.getD_eq_getElem?_getD, List.getElem?_eq_getElem hi]
    rfl
  · have h := of_decide_eq_false h
    exact ws_ret (ev_op (ev_sumScr (ev_var rfl) eo_none (eo_some ev_int)) ev_int (op_iC (by decide))) (by rw [if_neg (by omega)])

def genF (c : Int) (i : Nat) : D := .lst [.int ((if (0 : Int) > c - 10 ^ (18 : Int).toNat then 0 else c - 10 ^ (18 : Int).toNat).fmod ((10 ^ (60 : Int).toNat) ^ (10 : Int).toNat)), .int (c.fmod 2147483647), .int (1000 * (i : Int))]
theorem genF_ok (c : Int) {i : Nat} (h : i ≤ 2) : GenOk 2000 (genF c i) := ⟨_, _, _, rfl, Int.fmod_nonneg_of_pos _ (by decide), Int.fmod_nonneg_of_pos _ (by decide), Int.fmod_lt_of_pos _ (by decide), by omega, by omega⟩
def f_law_generator : List D → D → Prop := fun ds d => ∃ (ns : List Int) (i : Nat), ds = [.scr ns, .int (i : Int)] ∧ d = genF (cellF ns i) i ∧ i ≤ 2
theorem s_law_generator : FnScope [("_law_script" : Str), ("_law_index" : Str), ("_law_seed" : Str)] ["_law_script", "_law_index"] (defScope (Hd.top 79)) := ⟨rfl, rfl, rfl, by decide +kernel, rfl, by decide +kernel, by decide +kernel⟩
theorem c_law_generator (T : Tx K mg) (k : Nat) : Cal P w K mg base (k + 2) "_law_generator" (spN K f_law_generator) := by
  have c_law_cell := c_law_cell (P := P) (w := w) (base := base) T k
  have sc := s_law_generator
  refine cal_of (k := k + 1) T 60 60 rfl rfl s_law_generator (fun _ _ _ _ _ _ us hl => match us, hl with | [_, _], _ => rfl) (fun vs H Q E h => spN_len h (n := 2) (by rintro _ _ ⟨ns, i, rfl, rfl, hi⟩; rfl)) fun cdv A outer s H vs Q E hr h => ⟨_, PSs.nox (pss_cons (ps_set (i := 2) sc.nd rfl (Or.inl rfl) (pe_c c_law_cell hr (by omega) (by rfl) (pa_cons (pv 0) (pa_cons (pv 1) pa_nil)))) (pss_one (ps_ret (pe_lst (pa_cons (pe_op op_modN (pe_callTy call_int1 (by rfl) (T.fr 80 rfl) (by decide +kernel) (pa_cons (pe_callB (call_max2 rfl) (by rfl) (T.fr 84 rfl) (by decide +kernel) (pa_cons (pe_op op_sub (pv 2) (pe_op op_pow pe_int pe_int)) (pa_cons pe_int pa_nil))) pa_nil)) (pe_op op_powW (pe_op op_pow pe_int pe_int) pe_int)) (pa_cons (pe_op op_modN (pe_callTy call_int1 (by rfl) (T.fr 80 rfl) (by decide +kernel) (pa_cons (pv 2) pa_nil)) pe_int) (pa_cons (pe_op op_mulX pe_int (pv 1)) pa_nil))))))), spN_run h ?_⟩
  clear h
  rintro ds d ⟨ns, i, rfl, rfl, hi⟩
  show WN K _ [some (false, _), some (false, _), none] _
  refine wn_seq (ws_set (ev_call (ea_cons (ev_var rfl) (ea_cons (ev_var rfl) ea_nil)) ⟨ns, i, rfl, rfl⟩) ?_)
  exact wn_ret (en_lst (ea_cons (ev_op (ev_cb (ea_cons (ev_cb (ea_cons (ev_op (ev_var rfl) (ev_op ev_int ev_int (op_iC ⟨by decide, by decide, by decide⟩)) op_i0) (ea_cons ev_int ea_nil)) op_max2) ea_nil) op_int1) (ev_op (ev_op ev_int ev_int (op_iC ⟨by decide, by decide, by decide⟩)) ev_int (op_iC ⟨by decide, by decide +kernel⟩)) (op_iC (by decide +kernel))) (ea_cons (ev_op (ev_cb (ea_cons (ev_var rfl) ea_nil) op_int1) ev_int (op_iC (by decide))) (ea_cons (ev_op ev_int (ev_var rfl) (op_iC (mulx_ok (a := 31) (b := 31) (by decide) (by omega) (by decide)))) ea_nil))) (szb rfl)) rfl

/-! the law's own sums of numbers -/
def f_law_rest : List D → D → Prop := fun ds d => ∃ (k : Kd) (a b : Rk k), ds = [.str (kd k), iD a, iD b] ∧ d = iD (rst a b) ∧ 0 ≤ io b ∧ Szr 9000 b ∧ Szr 100000 a
theorem s_law_rest : FnScope [("_law_kind" : Str), ("_law_number" : Str), ("_law_by" : Str)] ["_law_kind", "_law_number", "_law_by"] (defScope (Hd.top 80)) := ⟨rfl, rfl, rfl, by decide +kernel, rfl, by decide +kernel, by decide +kernel⟩
theorem c_law_rest (T : Tx K mg) (k : Nat) : Cal P w K mg base (k + 1) "_law_rest" (spD K f_law_rest) := by
  have sc := s_law_rest
  refine cal_of (k := k + 0) T 61 61 rfl rfl s_law_rest (fun _ _ _ _ _ _ us hl => match us, hl with | [_, _, _], _ => rfl) (fun vs H Q E h => spD_len h (n := 3) (by rintro _ _ ⟨k, a, b, rfl, rfl, hb, sb, sa⟩; rfl)) fun cdv A outer s H vs Q E hr h => ⟨_, PSs.nox (pss_cons (ps_if (pt_cmpR (op_eq) (pv 2) pe_int (nomark _)) (pss_one (ps_ret (pv 1))) pss_nil) (pss_cons (ps_if (pt_cmpR (op_eq) (pv 0) pe_str (nomark _)) (pss_one (ps_ret (pe_op op_modN (pe_callTy call_int1 (by rfl) (T.fr 80 rfl) (by decide +kernel) (pa_cons (pv 1) pa_nil)) (pv 2)))) pss_nil) (pss_cons (ps_while PassesOwn.never (pt_cmpR (op_ge) (pe_bits (pv 1)) (pe_bits (pv 2)) (nomark _)) (pss_one (ps_set (i := 1) sc.nd rfl (Or.inl rfl) (pe_op op_xor (pv 1) (pe_op op_shlW (pv 2) (pe_op op_sub (pe_bits (pv 1)) (pe_bits (pv 2)))))))) (pss_one (ps_ret (pv 1)))))), spD_run h ?_⟩
  clear h
  rintro ds d ⟨k, a, b, rfl, rfl, hb, sb, sa⟩
  show WS K none _ [some (false, _), some (false, _), some (false, _)] _ _
  refine ws_seq (ws_when (et_test (ev_op (ev_var rfl) ev_int op_eqI)) (fun h => ?_) fun h => ?_)
  · have h := of_decide_eq_true h
    refine ws_ret (ev_var rfl) ?_
    unfold rst
    rw [if_pos h]
  · have h0 := of_decide_eq_false h
    have pb : Ps b := ⟨fun e => h0 (io_eq_zero.mpr e), hb⟩
    rw [rst_ps pb]
    cases k
    · have bp := ps_h pb
      refine ws_seq (ws_ifT (et_h (ev_var rfl)) (ws_ret (ev_is (ev_op (ev_cb (ea_cons (ev_var rfl) ea_nil) op_int1) (ev_var rfl) (op_iC (Int.ne_of_gt bp))) ?_) rfl))
      show D.int ((a : Int).fmod b) = .int ((a : Int) % b)
      rw [Int.fmod_eq_emod_of_nonneg _ (Int.le_of_lt bp)]
    · have bn : b.n ≠ 0 := fun q => pb.ne (Bw.ext q)
      have lb := sz_len.mp sb
      have la := sz_len.mp sa
      refine ws_seq (ws_ifF (et_b (ev_var rfl)) (ws_next ?_))
      refine ws_seq (ws_while (fun m ρ' => ∃ (o r : Nat), ρ' = [some (false, .str (kd .b)), some (false, .int (r : Int)), some (false, iD b)] ∧ len r < m ∧ len r ≤ len a.n ∧ dvG m b.n o r = dv a.n b.n) ⟨len a.n + 1, 0, a.n, rfl, by omega, by omega, rfl⟩ ?_)
      rintro m ρ' ⟨o, r, rfl, h1, h2, h3⟩
      refine ⟨decide (len b.n ≤ len r), et_is (et_test (ev_op (ev_bits (ev_var rfl)) (ev_bits (ev_var rfl)) op_b0)) ?_, fun h => ?_, fun h => ?_⟩
      · rw [io_b, bits_nat, bits_nat]
        exact decide_eq_decide.mpr (by omega)
      · have h := of_decide_eq_true h
        cases m with
        | zero => omega
        | succ m =>
          unfold dvG at h3
          rw [if_pos h] at h3
          have e1 : ((len r : Nat) : Int) - ((len b.n : Nat) : Int) = ((len r - len b.n : Nat) : Int) := by omega
          have r0 : r ≠ 0 := fun q => by
            rw [q, len_zero] at h
            exact bn (len_eq_zero.mp (by omega))
          have el : len (b.n <<< (len r - len b.n)) = len r := by rw [len_shl bn]; omega
          have lt := len_xor_lt (x := r) (y := b.n <<< (len r - len b.n)) el.symm r0
          have e3 : Builtin.bitXor (r : Int) (io b * 2 ^ ((len r - len b.n : Nat) : Int).toNat) = ((r ^^^ b.n <<< (len r - len b.n) : Nat) : Int) := by
            rw [io_b, shl_nat, bxor_nat, Nat.shiftLeft_eq]
          refine ws_set (ev_is (ev_op (ev_var rfl) (ev_op (ev_var rfl) (ev_is (ev_op (ev_bits (ev_var rfl)) (ev_bits (ev_var rfl)) op_i0) (by rw [io_b, bits_nat, bits_nat, e1])) (op_iC (shl_ok (n := 9000) sb (by omega)))) op_i0) (congrArg D.int e3)) ⟨m, by omega, _, _, rfl, ?_, ?_, h3⟩
          · omega
          · omega
      · have h := of_decide_eq_false h
        have e : dv a.n b.n = (o, r) := by
          rw [← h3]
          cases m with
          | zero => rfl
          | succ m => unfold dvG; rw [if_neg h]
        refine ws_ret (ev_var rfl) ?_
        show D.int (r : Int) = .int ((dv a.n b.n).2 : Int)
        rw [e]

def f_law_less : List D → D → Prop := fun ds d => ∃ (k : Kd) (a b : Rk k), ds = [.str (kd k), iD a, iD b] ∧ d = iD (a - b)
theorem s_law_less : FnScope [("_law_kind" : Str), ("_law_one" : Str), ("_law_other" : Str)] ["_law_kind", "_law_one", "_law_other"] (defScope (Hd.top 81)) := ⟨rfl, rfl, rfl, by decide +kernel, rfl, by decide +kernel, by decide +kernel⟩
theorem c_law_less (T : Tx K mg) (k : Nat) : Cal P w K mg base (k + 1) "_law_less" (spD K f_law_less) := by
  have sc := s_law_less
  refine cal_of (k := k + 0) T 62 62 rfl rfl s_law_less (fun _ _ _ _ _ _ us hl => match us, hl with | [_, _, _], _ => rfl) (fun vs H Q E h => spD_len h (n := 3) (by rintro _ _ ⟨k, a, b, rfl, rfl⟩; rfl)) fun cdv A outer s H vs Q E hr h => ⟨_, PSs.nox (pss_one (ps_ret (pe_ifExp (pt_cmpR (op_eq) (pv 0) pe_str (nomark _)) (pe_op op_sub (pv 1) (pv 2)) (pe_op op_xor (pv 1) (pv 2))))), spD_run h ?_⟩
  clear h
  rintro ds d ⟨k, a, b, rfl, rfl⟩
  show WS K none _ [some (false, _), some (false, _), some (false, _)] _ _
  cases k
  · exact ws_ret (ev_ifT (et_h (ev_var rfl)) (ev_op (ev_var rfl) (ev_var rfl) op_i0)) rfl
  · exact ws_ret (ev_ifF (et_b (ev_var rfl)) (ev_is (ev_op (ev_var rfl) (ev_var rfl) op_i0) (congrArg D.int (bxor_nat _ _)))) rfl

def f_law_plus : List D → D → Prop := fun ds d => ∃ (k : Kd) (a b : Rk k), ds = [.str (kd k), iD a, iD b] ∧ d = iD (a + b)
theorem s_law_plus : FnScope [("_law_kind" : Str), ("_law_one" : Str), ("_law_other" : Str)] ["_law_kind", "_law_one", "_law_other"] (defScope (Hd.top 82)) := ⟨rfl, rfl, rfl, by decide +kernel, rfl, by decide +kernel, by decide +kernel⟩
theorem c_law_plus (T : Tx K mg) (k : Nat) : Cal P w K mg base (k + 1) "_law_plus" (spD K f_law_plus) := by
  have sc := s_law_plus
  refine cal_of (k := k + 0) T 63 63 rfl rfl s_law_plus (fun _ _ _ _ _ _ us hl => match us, hl with | [_, _, _], _ => rfl) (fun vs H Q E h => spD_len h (n := 3) (by rintro _ _ ⟨k, a, b, rfl, rfl⟩; rfl)) fun cdv A outer s H vs Q E hr h => ⟨_, PSs.nox (pss_one (ps_ret (pe_ifExp (pt_cmpR (op_eq) (pv 0) pe_str (nomark _)) (pe_op op_add (pv 1) (pv 2)) (pe_op op_xor (pv 1) (pv 2))))), spD_run h ?_⟩
  clear h
  rintro ds d ⟨k, a, b, rfl, rfl⟩
  show WS K none _ [some (false, _), some (false, _), some (false, _)] _ _
  cases k
  · exact ws_ret (ev_ifT (et_h (ev_var rfl)) (ev_op (ev_var rfl) (ev_var rfl) op_i0)) rfl
  · exact ws_ret (ev_ifF (et_b (ev_var rfl)) (ev_is (ev_op (ev_var rfl) (ev_var rfl) op_i0) (congrArg D.int (bxor_nat _ _)))) rfl

/-- how many numbers there are by a period -/
def sizeF {k : Kd} (P : Rk k) : Nat := ch P 1
def f_law_size : List D → D → Prop := fun ds d => ∃ (k : Kd) (P : Rk k), ds = [.str (kd k), iD P] ∧ d = .int (sizeF P : Nat) ∧ Ps P ∧ Szr 9000 P
theorem s_law_size : FnScope [("_law_kind" : Str), ("_law_period_here" : Str)] ["_law_kind", "_law_period_here"] (defScope (Hd.top 84)) := ⟨rfl, rfl, rfl, by decide +kernel, rfl, by decide +kernel, by decide +kernel⟩
theorem c_law_size (T : Tx K mg) (k : Nat) : Cal P w K mg base (k + 1) "_law_size" (spD K f_law_size) := by
  have sc := s_law_size
  refine cal_of (k := k + 0) T 64 64 rfl rfl s_law_size (fun _ _ _ _ _ _ us hl => match us, hl with | [_, _], _ => rfl) (fun vs H Q E h => spD_len h (n := 2) (by rintro _ _ ⟨k, P', rfl, rfl, pP, sP⟩; rfl)) fun cdv A outer s H vs Q E hr h => ⟨_, PSs.nox (pss_one (ps_ret (pe_ifExp (pt_cmpR (op_eq) (pv 0) pe_str (nomark _)) (pv 1) (pe_op op_shlW pe_int (pe_op op_sub (pe_bits (pv 1)) pe_int))))), spD_run h ?_⟩
  clear h
  rintro ds d ⟨k, P', rfl, rfl, pP, sP⟩
  show WS K none _ [some (false, _), some (false, _)] _ _
  cases k
  · have h1 : @LE.le Int _ 0 P' := pP.cnt
    refine ws_ret (ev_ifT (et_h (ev_var rfl)) (ev_is (ev_var rfl) ?_)) rfl
    refine congrArg D.int ?_
    show (P' : Int) = (((P' : Int) / 1).toNat : Int)
    rw [Int.ediv_one]
    exact (Int.toNat_of_nonneg h1).symm
  · have P0 : P'.n ≠ 0 := fun q => pP.ne (Bw.ext q)
    have pl : len P'.n ≠ 0 := fun q => P0 (len_eq_zero.mp q)
    have lP : len P'.n ≤ 9000 := sz_len.mp sP
    refine ws_ret (ev_ifF (et_b (ev_var rfl)) (ev_is (ev_op ev_int (ev_is (ev_op (ev_bits (ev_var rfl)) ev_int op_i0) (show _ = D.int ((len P'.n - 1 : Nat) : Int) from ?_)) (op_iC (shl_ok (n := 1) (by decide) (by omega)))) ?_)) rfl
    · rw [io_b, bits_nat]
      exact congrArg D.int (by omega)
    · have := shl_nat 1 (len P'.n - 1)
      rw [Nat.one_mul] at this
      exact congrArg D.int this

def f_law_product : List D → D → Prop := fun ds d => ∃ l : List Nat, ds = [natsD l] ∧ d = .int (prodN l : Nat) ∧ (∀ a ∈ l, a < 2 ^ 1000) ∧ l.length ≤ 100
theorem s_law_product : FnScope [("_law_counts" : Str), ("_law_found" : Str), ("_law_count" : Str)] ["_law_counts"] (defScope (Hd.top 99)) := ⟨rfl, rfl, rfl, by decide +kernel, rfl, by decide +kernel, by decide +kernel⟩
theorem c_law_product (T : Tx K mg) (k : Nat) : Cal P w K mg base (k + 1) "_law_product" (spD K f_law_product) := by
  have sc := s_law_product
  refine cal_of (k := k + 0) T 70 70 rfl rfl s_law_product (fun _ _ _ _ _ _ us hl => match us, hl with | [_], _ => rfl) (fun vs H Q E h => spD_len h (n := 1) (by rintro _ _ ⟨l, rfl, rfl, hl, hn⟩; rfl)) fun cdv A outer s H vs Q E hr h => ⟨_, PSs.nox (pss_cons (ps_set (i := 1) sc.nd rfl (Or.inl rfl) pe_int) (pss_cons (ps_for PassesOwn.never rfl (pi_list (pv 0)) (pg_name (i := 2) sc.nd rfl (Or.inl rfl)) (pss_one (ps_set (i := 1) sc.nd rfl (Or.inl rfl) (pe_op op_mulX (pv 1) (pv 2))))) (pss_one (ps_ret (pv 1))))), spD_run h ?_⟩
  clear h
  rintro ds d ⟨l, rfl, rfl, hl, hn⟩
  show WS K none _ [some (false, _), none, none] _ _
  refine ws_seq (ws_set ev_int ?_)
  refine ws_seq (ws_forL (js := [2]) (fun i ρ' => ∃ (x2 : Option (Bool × D)), ρ' = [some (false, natsD l), some (false, .int (prodN (l.take i) : Nat)), x2]) (ev_var rfl) ⟨none, rfl⟩ ?_ ?_)
  · rintro i d ρ' hd ⟨x2, rfl⟩
    rw [List.getElem?_map, Option.map_eq_some_iff] at hd
    obtain ⟨a, ha, rfl⟩ := hd
    have ham := List.mem_of_getElem? ha
    have hs : Sz (1000 * 100 + 1) ((prodN (l.take i) : Nat) : Int) := by
      refine sz_nat.mpr (Nat.lt_of_lt_of_le (prodN_sz (n := 1000) fun b hb => hl b (List.mem_of_mem_take hb)) (Nat.pow_le_pow_right (by decide) ?_))
      have : (l.take i).length ≤ l.length := List.length_take_le' _ _
      omega
    refine wg_name (ws_set (ev_op (ev_var rfl) (ev_var rfl) (op_iC (mulx_ok hs (sz_nat.mpr (hl a ham)) (by decide)))) ⟨some (false, .int (a : Int)), ?_⟩)
    have e : l.take (i + 1) = l.take i ++ [a] := by rw [List.take_add_one, ha]; rfl
    rw [e, prodN_snoc, Int.natCast_mul]
    rfl
  · rintro ρ' ⟨x2, rfl⟩
    rw [List.length_map, List.take_length]
    exact ws_ret (ev_var rfl) rfl

end
end J

/-! ## V2 -/
/-! The law's books. -/
namespace J
open PySem PySem.Spec PyProof.Rows L2 Q
open KR
open Evl (ex_rd ex_l ex_t)
theorem sz_lit {b : Int} (h : decide (b.natAbs < 2 ^ 64) = true) : Sz 2100 b := Nat.lt_of_lt_of_le (of_decide_eq_true h) (Nat.pow_le_pow_right (by decide) (by decide))
def rndP (N : Nat) (b : Int) (m d : D) : Prop := GenOk (N + 100) m ∧ ∃ r : Nat, d = .int (r : Int) ∧ (r : Int) < b
section
variable {K : PySem.W.Frag} {an : An} {ρ : Env} {te : TE} {M : Env → Prop}
theorem we_rnd {i N : Nat} {g : D} {b : Int} {E : XK} {F : Env → D → Prop} (hi : ρ[i]? = some (some (true, g))) (hb : Ev K te ρ (.int b)) (hg : GenOk N g) (b0 : 0 < b) (bz : Sz 2100 b) (hN : N ≤ 1000000)
    (n : ∀ m (r : Nat), GenOk (N + 100) m → (r : Int) < b → F (ρ.set i (some (true, m))) (.int (r : Int))) : WE K an (tCall (spM K 0 f_law_random) [] E (tCons (tVar i) (tCons te tNil))) ρ F :=
  we_callM (P := rndP N b) hi (em_here (ea_cons hb ea_nil)) ⟨g, N, b, rfl, rfl, hg, b0, bz, hN⟩ fun m d ⟨h1, r, e, h2⟩ => by
    subst e
    exact n m r h1 h2
theorem wm_unl {gs : TGs} {ds : List D} {n : Nat} (hn : ds.length = n) (h : WMs K an gs ds ρ M) : WM K an (gUnl K n gs) (.lst ds) ρ M := fun Hs0 H0 σ Hs H v r rv Q q => by
  obtain ⟨a, xs, rfl, ha, rl⟩ := rv.lst_inv
  exact ⟨a, xs, rfl, SqL.of (r.ex _ _ ha), by rw [rl.len]; exact hn, h Hs0 H0 σ Hs H xs r rl Q q⟩
end
/-! numbers of a kind -/
def ofN : (k : Kd) → Nat → Rk k
  | .h, n => ((n : Int) : Int)
  | .b, n => (⟨n⟩ : Bw)
theorem io_ofN : ∀ (k : Kd) (n : Nat), io (ofN k n) = (n : Int)
  | .h, n => rfl
  | .b, n => rfl
theorem ofN_io {k : Kd} {x : Rk k} (h : 0 ≤ io x) : ofN k (io x).toNat = x := by
  cases k
  · exact Int.toNat_of_nonneg h
  · exact Bw.ext (by show ((x.n : Nat) : Int).toNat = x.n; rw [Int.toNat_natCast])
theorem red_ofN {k : Kd} {P : Rk k} (pP : Ps P) (n : Nat) : red P (ofN k n) ↔ n < sizeF P := by
  cases k
  · have h1 : @LT.lt Int _ 0 P := ps_h pP
    have e : sizeF (k := .h) P = (P : Int).toNat := by
      show ((P : Int) / 1).toNat = _
      rw [Int.ediv_one]
    rw [e]
    show (0 ≤ (n : Int) ∧ (n : Int) < P) ↔ _
    have : (P : Int) = ((P : Int).toNat : Int) := (Int.toNat_of_nonneg (Int.le_of_lt h1)).symm
    omega
  · have P0 : P.n ≠ 0 := fun q => pP.ne (Bw.ext q)
    have pl : len P.n ≠ 0 := fun q => P0 (len_eq_zero.mp q)
    show len n < len P.n ↔ n < 2 ^ (len P.n - 1)
    rw [← len_le_iff]
    omega
theorem sizeF_pos {k : Kd} {P : Rk k} (pP : Ps P) : 0 < sizeF P := by
  have : red P (ofN k 0) := by
    have e : ofN k 0 = 0 := io_inj (by rw [io_ofN, io_zero]; rfl)
    rw [e]
    exact red_zero pP.ne pP.cnt
  exact (red_ofN pP 0).mp this
theorem red_lt {k : Kd} {P x : Rk k} (pP : Ps P) (h : red P x) : (io x).toNat < sizeF P := by
  have e := ofN_io (red_cnt h)
  rw [← e] at h
  exact (red_ofN pP _).mp h
theorem dv_of {k : Kd} {P b : Rk k} (pb : Ps b) (h : io (rst P b) = 0) : Dv b P := by
  obtain ⟨c, hc⟩ := (io_cg pb).mp h
  exact ⟨c, by rw [← hc]; grind⟩
structure PerOk {k : Kd} (P : Rk k) (bs : List (Rk k)) : Prop where
  ps : Ps P
  sz : Szr 4 P
  size : sizeF P ≤ 12
  dvs : ∀ b ∈ bs, Ps b ∧ Dv b P
  len : 0 < bs.length ∧ bs.length ≤ 6
def perB {k : Kd} (P : Rk k) (bs : List (Rk k)) : Bool := decide (0 < io P) && decide (io P < 16) && decide (sizeF P ≤ 12) && decide (0 < bs.length) && decide (bs.length ≤ 6) && bs.all fun b => decide (0 < io b) && decide (io (rst P b) = 0)
theorem perOk_of {k : Kd} {P : Rk k} {bs : List (Rk k)} (h : perB P bs = true) : PerOk P bs := by
  unfold perB at h
  simp only [Bool.and_eq_true, decide_eq_true_eq, List.all_eq_true] at h
  obtain ⟨⟨⟨⟨⟨h1, h2⟩, h3⟩, h4⟩, h5⟩, h6⟩ := h
  refine ⟨ps_of_pos h1, ?_, h3, fun b hb => ?_, h4, h5⟩
  · unfold Szr Sz
    omega
  · obtain ⟨g1, g2⟩ := h6 b hb
    exact ⟨ps_of_pos g1, dv_of (ps_of_pos g1) g2⟩
def perD {k : Kd} (P : Rk k) (bs : List (Rk k)) : D := .lst [.str (kd k), iD P, .lst (bs.map fun b => iD b)]
def perP (N : Nat) (m d : D) : Prop := GenOk (N + 200) m ∧ ∃ (k : Kd) (P : Rk k) (bs : List (Rk k)), d = perD P bs ∧ PerOk P bs
theorem per_h (N : Nat) (m : D) (P : Int) (bs : List Int) (h : perB (k := .h) P bs = true) (hg : GenOk (N + 200) m) : perP N m (.lst [.str "hours", .int P, .lst (bs.map D.int)]) := ⟨hg, .h, P, bs, rfl, perOk_of h⟩
theorem per_b (N : Nat) (m : D) (P : Nat) (bs : List Nat) (h : perB (k := .b) ⟨P⟩ (bs.map fun n => (⟨n⟩ : Bw)) = true) (hg : GenOk (N + 200) m) : perP N m (.lst [.str "bits", .int (P : Int), .lst (bs.map fun n : Nat => D.int (n : Int))]) := ⟨hg, .b, (⟨P⟩ : Bw), bs.map fun n => (⟨n⟩ : Bw), by unfold perD; rw [List.map_map]; rfl, perOk_of h⟩
section
variable {P : Program} {w : World} {K : PySem.W.Frag} {mg : Str → Option Value} {base : Heap}
def f_law_period : List D → (D → D → Prop) → Prop := fun ds Po => ∃ (g : D) (N : Nat), ds = [g] ∧ Po = perP N ∧ GenOk N g ∧ N ≤ 100000
theorem s_law_period : FnScope [("_law_generator_here" : Str)] ["_law_generator_here"] (defScope (Hd.top 85)) := ⟨rfl, rfl, rfl, by decide +kernel, rfl, by decide +kernel, by decide +kernel⟩
theorem c_law_period (T : Tx K mg) (k : Nat) : Cal P w K mg base (k + 3) "_law_period" (spM K 0 f_law_period) := by
  have c_law_random := c_law_random (P := P) (w := w) (base := base) T k
  have sc := s_law_period
  refine cal_of (k := k + 2) T 65 65 rfl rfl s_law_period (fun _ _ _ _ _ _ us hl => match us, hl with | [_], _ => rfl) (fun vs H Q E h => spM_len h (n := 1) (by rintro _ _ ⟨g, N, rfl, rfl, hg, hN⟩; rfl)) fun cdv A outer s H vs Q E hr h => ⟨_, PSs.nox (pss_cons (ps_if (pt_cmpR (op_eq) (pe_c c_law_random hr (by omega) (by rfl) (pa_cons (pv 0) (pa_cons pe_int pa_nil))) pe_int (nomark _)) (pss_one (ps_ret (pe_op op_cat (pe_lst (pa_cons pe_str pa_nil)) (pe_ix ix_list (pe_lst (pa_cons (pe_lst (pa_cons pe_int (pa_cons (pe_lst (pa_cons pe_int (pa_cons pe_int (pa_cons pe_int (pa_cons pe_int pa_nil))))) pa_nil))) (pa_cons (pe_lst (pa_cons pe_int (pa_cons (pe_lst (pa_cons pe_int (pa_cons pe_int (pa_cons pe_int (pa_cons pe_int (pa_cons pe_int (pa_cons pe_int pa_nil))))))) pa_nil))) (pa_cons (pe_lst (pa_cons pe_int (pa_cons (pe_lst (pa_cons pe_int (pa_cons pe_int (pa_cons pe_int pa_nil)))) pa_nil))) (pa_cons (pe_lst (pa_cons pe_int (pa_cons (pe_lst (pa_cons pe_int (pa_cons pe_int (pa_cons pe_int pa_nil)))) pa_nil))) pa_nil))))) (pe_c c_law_random hr (by omega) (by rfl) (pa_cons (pv 0) (pa_cons pe_int pa_nil))) (fun _ _ => rfl))))) pss_nil) (pss_one (ps_ret (pe_op op_cat (pe_lst (pa_cons pe_str pa_nil)) (pe_ix ix_list (pe_lst (pa_cons (pe_lst (pa_cons pe_int (pa_cons (pe_lst (pa_cons pe_int (pa_cons pe_int (pa_cons pe_int (pa_cons pe_int pa_nil))))) pa_nil))) (pa_cons (pe_lst (pa_cons pe_int (pa_cons (pe_lst (pa_cons pe_int (pa_cons pe_int (pa_cons pe_int (pa_cons pe_int (pa_cons pe_int (pa_cons pe_int pa_nil))))))) pa_nil))) (pa_cons (pe_lst (pa_cons pe_int (pa_cons (pe_lst (pa_cons pe_int (pa_cons pe_int (pa_cons pe_int (pa_cons pe_int (pa_cons pe_int pa_nil)))))) pa_nil))) (pa_cons (pe_lst (pa_cons pe_int (pa_cons (pe_lst (pa_cons pe_int (pa_cons pe_int (pa_cons pe_int pa_nil)))) pa_nil))) pa_nil))))) (pe_c c_law_random hr (by omega) (by rfl) (pa_cons (pv 0) (pa_cons pe_int pa_nil))) (fun _ _ => rfl)))))), spM_run h ?_⟩
  clear h
  rintro an ds Po ⟨g, N, rfl, rfl, hg, hN⟩
  show WS K (some (0, an)) _ [some (true, _)] _ _
  refine ws_seq (ws_ifW (wt_we (we_op (we_rnd (i := 0) rfl ev_int hg (by decide) (sz_lit rfl) (by omega) fun m r hg1 hr => ?_))))
  refine we_ev ev_int ⟨_, op_eqI, _, rfl, fun h => ?_, fun h => ?_⟩
  · refine ws_retW (we_op (we_ev (ev_lst (ea_cons ev_str ea_nil) (szb rfl)) (we_op (we_ev (ev_lst (ea_cons (ev_lst (ea_cons ev_int (ea_cons (ev_lst (ea_cons ev_int (ea_cons ev_int (ea_cons ev_int (ea_cons ev_int ea_nil)))) (szb rfl)) ea_nil)) (szb rfl)) (ea_cons (ev_lst (ea_cons ev_int (ea_cons (ev_lst (ea_cons ev_int (ea_cons ev_int (ea_cons ev_int (ea_cons ev_int (ea_cons ev_int (ea_cons ev_int ea_nil)))))) (szb rfl)) ea_nil)) (szb rfl)) (ea_cons (ev_lst (ea_cons ev_int (ea_cons (ev_lst (ea_cons ev_int (ea_cons ev_int (ea_cons ev_int ea_nil))) (szb rfl)) ea_nil)) (szb rfl)) (ea_cons (ev_lst (ea_cons ev_int (ea_cons (ev_lst (ea_cons ev_int (ea_cons ev_int (ea_cons ev_int ea_nil))) (szb rfl)) ea_nil)) (szb rfl)) ea_nil)))) (szb rfl)) (we_rnd (i := 0) rfl ev_int hg1 (by decide) (sz_lit rfl) (by omega) fun m2 r2 hg2 hr2 => ?_)))))
    have hg2 : GenOk (N + 200) m2 := hg2
    match r2, hr2 with
    | 0, _ => exact ⟨_, op_ixL rfl, _, op_catL (szl (by decide)), _, rfl, per_h N m2 6 [1, 2, 3, 6] (by decide +kernel) hg2⟩
    | 1, _ => exact ⟨_, op_ixL rfl, _, op_catL (szl (by decide)), _, rfl, per_h N m2 12 [1, 2, 3, 4, 6, 12] (by decide +kernel) hg2⟩
    | 2, _ => exact ⟨_, op_ixL rfl, _, op_catL (szl (by decide)), _, rfl, per_h N m2 8 [2, 4, 8] (by decide +kernel) hg2⟩
    | 3, _ => exact ⟨_, op_ixL rfl, _, op_catL (szl (by decide)), _, rfl, per_h N m2 10 [2, 5, 10] (by decide +kernel) hg2⟩
    | r2 + 4, h => omega
  · refine ws_next (ws_retW (we_op (we_ev (ev_lst (ea_cons ev_str ea_nil) (szb rfl)) (we_op (we_ev (ev_lst (ea_cons (ev_lst (ea_cons ev_int (ea_cons (ev_lst (ea_cons ev_int (ea_cons ev_int (ea_cons ev_int (ea_cons ev_int ea_nil)))) (szb rfl)) ea_nil)) (szb rfl)) (ea_cons (ev_lst (ea_cons ev_int (ea_cons (ev_lst (ea_cons ev_int (ea_cons ev_int (ea_cons ev_int (ea_cons ev_int (ea_cons ev_int (ea_cons ev_int ea_nil)))))) (szb rfl)) ea_nil)) (szb rfl)) (ea_cons (ev_lst (ea_cons ev_int (ea_cons (ev_lst (ea_cons ev_int (ea_cons ev_int (ea_cons ev_int (ea_cons ev_int (ea_cons ev_int ea_nil))))) (szb rfl)) ea_nil)) (szb rfl)) (ea_cons (ev_lst (ea_cons ev_int (ea_cons (ev_lst (ea_cons ev_int (ea_cons ev_int (ea_cons ev_int ea_nil))) (szb rfl)) ea_nil)) (szb rfl)) ea_nil)))) (szb rfl)) (we_rnd (i := 0) rfl ev_int hg1 (by decide) (sz_lit rfl) (by omega) fun m2 r2 hg2 hr2 => ?_))))))
    have hg2 : GenOk (N + 200) m2 := hg2
    match r2, hr2 with
    | 0, _ => exact ⟨_, op_ixL rfl, _, op_catL (szl (by decide)), _, rfl, per_b N m2 6 [1, 2, 3, 6] (by decide +kernel) hg2⟩
    | 1, _ => exact ⟨_, op_ixL rfl, _, op_catL (szl (by decide)), _, rfl, per_b N m2 10 [1, 2, 3, 5, 6, 10] (by decide +kernel) hg2⟩
    | 2, _ => exact ⟨_, op_ixL rfl, _, op_catL (szl (by decide)), _, rfl, per_b N m2 12 [2, 3, 4, 6, 12] (by decide +kernel) hg2⟩
    | 3, _ => exact ⟨_, op_ixL rfl, _, op_catL (szl (by decide)), _, rfl, per_b N m2 14 [2, 7, 14] (by decide +kernel) hg2⟩
    | r2 + 4, h => omega

/-! the names in a book's lines, as the law finds them -/
def f_law_names : List D → D → Prop := fun ds d => ∃ (k : Kd) (ls : List (Ln Str (Rk k))), ds = [bkD ls] ∧ d = nmD (nsOf ls) ∧ (∀ s ∈ endsOf ls, s ∈ NAMES) ∧ ls.length ≤ 20
theorem namesOf_congr {xs ys : List Str} (h : ∀ s, s ∈ xs ↔ s ∈ ys) : namesOf xs = namesOf ys := by
  unfold namesOf
  refine List.filter_congr fun s _ => ?_
  rw [decide_eq_decide]
  exact h s
theorem s_law_names : FnScope [("_law_book_here" : Str), ("_law_line_here" : Str)] ["_law_book_here"] (defScope (Hd.top 87)) := ⟨rfl, rfl, rfl, by decide +kernel, rfl, by decide +kernel, by decide +kernel⟩
theorem c_law_names (T : Tx K mg) (k : Nat) : Cal P w K mg base (k + 1) "_law_names" (spD K f_law_names) := by
  have sc := s_law_names
  refine cal_of (k := k + 0) T 67 67 rfl rfl s_law_names (fun _ _ _ _ _ _ us hl => match us, hl with | [_], _ => rfl) (fun vs H Q E h => spD_len h (n := 1) (by rintro _ _ ⟨k, ls, rfl, rfl, hN, hl⟩; rfl)) fun cdv A outer s H vs Q E hr h => ⟨_, PSs.nox (pss_one (ps_ret (pe_callB (cr_sortedSetS rfl) (by rfl) (T.fr 88 rfl) (by decide +kernel) (pa_cons (pe_callTy (cr_setS rfl) (by rfl) (T.fr 87 rfl) (by decide +kernel) (pa_cons (pe_op op_cat (pe_lc (own := [(("_law_line_here" : Str), 1)]) (g := gName 1) rfl sc.nd  (pi_list (pe_ix (show IxR _ (rIxT K) from ix_tup) (pv 0) pe_int (fun _ _ => rfl))) (blkOk_by (own := [(("_law_line_here" : Str), 1)]) (N := [("_law_book_here" : Str), ("_law_line_here" : Str)]) (sc := defScope (Hd.top 87)) (by decide +kernel)) (fun _ _ _ _ _ => (pg_name (i := 1) sc.nd rfl (Or.inl rfl))) (fun _ _ _ _ _ => pts_nil) (fun _ _ _ _ _ => (pe_ix (show IxR _ (rIxT K) from ix_tup) (pv 1) pe_int (fun _ _ => rfl)))) (pe_lc (own := [(("_law_line_here" : Str), 1)]) (g := gName 1) rfl sc.nd  (pi_list (pe_ix (show IxR _ (rIxT K) from ix_tup) (pv 0) pe_int (fun _ _ => rfl))) (blkOk_by (own := [(("_law_line_here" : Str), 1)]) (N := [("_law_book_here" : Str), ("_law_line_here" : Str)]) (sc := defScope (Hd.top 87)) (by decide +kernel)) (fun _ _ _ _ _ => (pg_name (i := 1) sc.nd rfl (Or.inl rfl))) (fun _ _ _ _ _ => pts_nil) (fun _ _ _ _ _ => (pe_ix (show IxR _ (rIxT K) from ix_tup) (pv 1) pe_int (fun _ _ => rfl))))) pa_nil)) pa_nil)))), spD_run h ?_⟩
  clear h
  rintro ds d ⟨k, ls, rfl, rfl, hN, hl⟩
  show WS K none _ [some (false, _), none] _ _
  have e : namesOf ((ls.map fun l => l.1) ++ (ls.map fun l => l.2.1)) = nsOf ls := by
    refine namesOf_congr fun s => ?_
    rw [mem_endsOf, List.mem_append, List.mem_map, List.mem_map]
    constructor
    · rintro (⟨l, h1, h2⟩ | ⟨l, h1, h2⟩)
      · exact ⟨l, h1, .inl h2.symm⟩
      · exact ⟨l, h1, .inr h2.symm⟩
    · rintro ⟨l, h1, h2 | h2⟩
      · exact .inl ⟨l, h1, h2.symm⟩
      · exact .inr ⟨l, h1, h2.symm⟩
  have hmem : ∀ s ∈ (ls.map fun l => l.1) ++ (ls.map fun l => l.2.1), s ∈ NAMES := fun s hs => by
    refine hN s (mem_endsOf.mpr ?_)
    rcases List.mem_append.mp hs with h | h
    · obtain ⟨l, h1, h2⟩ := List.mem_map.mp h
      exact ⟨l, h1, .inl h2.symm⟩
    · obtain ⟨l, h1, h2⟩ := List.mem_map.mp h
      exact ⟨l, h1, .inr h2.symm⟩
  have hz := szl (Nat.le_refl 1000000)
  refine ws_ret (ev_is (en_sortedSet (xs := (ls.map fun l => l.1) ++ (ls.map fun l => l.2.1)) (ev_is (ev_op (en_lcL (js := [1]) (fun _ => true) (fun d => match d with | .tup (x :: _) => x | _ => .non) (ev_op (ev_var rfl) ev_int (op_ixT rfl)) (len_szl (by rw [List.length_map]; omega)) (by decide) fun d hd => ?_).ev (en_lcL (js := [1]) (fun _ => true) (fun d => match d with | .tup (_ :: x :: _) => x | _ => .non) (ev_op (ev_var rfl) ev_int (op_ixT rfl)) (len_szl (by rw [List.length_map]; omega)) (by decide) fun d hd => ?_).ev (op_catL ?_)) ?_) hmem ?_).ev (congrArg nmD e)) rfl
  · obtain ⟨l, hm, rfl⟩ := List.mem_map.mp hd
    exact wg_name ⟨et_yes, fun _ => ev_op (ev_var rfl) ev_int (op_ixT rfl)⟩
  · obtain ⟨l, hm, rfl⟩ := List.mem_map.mp hd
    exact wg_name ⟨et_yes, fun _ => ev_op (ev_var rfl) ev_int (op_ixT rfl)⟩
  · rw [pick_all, pick_all]
    simp only [List.length_map]
    omega
  · rw [pick_all, pick_all, List.map_map, List.map_map]
    unfold nmD
    rw [List.map_append, List.map_map, List.map_map]
    rfl
  · rw [List.length_append, List.length_map, List.length_map]
    omega

end
end J

/-! ## V3 -/
/-! The law's small books. -/
namespace J
open PySem PySem.Spec PyProof.Rows L2 Q
open KR
open Evl (ex_rd ex_l ex_t)
def nm3 : List (List Str) := [["a", "b", "c"], ["a", "b0", "x"], ["a", "b"]]
theorem nm3_ok : ∀ ns ∈ nm3, (∀ n ∈ ns, n ∈ NAMES) ∧ ns.Nodup ∧ 2 ≤ ns.length ∧ ns.length ≤ 3 := by decide +kernel
/-- a line of a small book -/
structure LnB {k : Kd} (bs : List (Rk k)) (ns : List Str) (l : Ln Str (Rk k)) : Prop where
  n1 : l.1 ∈ ns
  n2 : l.2.1 ∈ ns
  ne : l.1 ≠ l.2.1
  by0 : l.2.2.2 = 0 ∨ l.2.2.2 ∈ bs
  rd : io l.2.2.2 = 0 ∨ red l.2.2.2 l.2.2.1
  ah : Szr 25 l.2.2.1
/-- a small book -/
structure SmB {k : Kd} (P : Rk k) (ls : List (Ln Str (Rk k))) : Prop where
  bkp : BkP P ls
  sz : Szr 4 P
  size : sizeF P ≤ 12
  nslen : (nsOf ls).length ≤ 3
  sml : ∀ l ∈ ls, Szr 30 l.2.2.1 ∧ Szr 30 l.2.2.2
theorem filter_len {xs ys : List Str} (h : ∀ s ∈ xs, s ∈ ys) : (namesOf xs).length ≤ (namesOf ys).length := by
  unfold namesOf
  rw [← List.countP_eq_length_filter, ← List.countP_eq_length_filter]
  exact List.countP_mono_left fun s _ hs => by
    simp only [decide_eq_true_eq] at hs ⊢
    exact h s hs
theorem nm3_len : ∀ ns ∈ nm3, (namesOf ns).length ≤ 3 := by decide +kernel
theorem smB_of {k : Kd} {P : Rk k} {bs : List (Rk k)} {ns : List Str} {ls : List (Ln Str (Rk k))} (per : PerOk P bs) (hns : ns ∈ nm3) (hl : ∀ l ∈ ls, LnB bs ns l) (hn : ls.length ≤ 20) : SmB P ls := by
  obtain ⟨h1, h2, h3, h4⟩ := nm3_ok ns hns
  have byp : ∀ l ∈ ls, 0 < io l.2.2.2 → Ps l.2.2.2 ∧ Dv l.2.2.2 P := fun l h hp => by
    rcases (hl l h).by0 with e | e
    · rw [e, io_zero] at hp
      cases hp
    · exact per.dvs _ e
  refine ⟨⟨⟨fun l h => ⟨h1 _ (hl l h).n1, h1 _ (hl l h).n2, (hl l h).ne, ?_, (hl l h).rd⟩, hn⟩, per.ps, per.sz.mono (by omega), fun l h hp => (byp l h hp).2, fun l h => (hl l h).ah.mono (by omega)⟩, per.sz, per.size, Nat.le_trans (filter_len fun s hs => ?_) (nm3_len ns hns), fun l h => ⟨(hl l h).ah.mono (by omega), ?_⟩⟩
  · rcases (hl l h).by0 with e | e
    · rw [e, io_zero]
      exact Int.le_refl _
    · exact (per.dvs _ e).1.cnt
  · obtain ⟨l, hm, e⟩ := mem_endsOf.mp hs
    rcases e with e | e
    · rw [e]; exact (hl l hm).n1
    · rw [e]; exact (hl l hm).n2
  · rcases (hl l h).by0 with e | e
    · rw [e]; exact sz_zeroR
    · obtain ⟨p1, p2⟩ := per.dvs _ e
      exact (sz_dv p2 per.ps p1.cnt per.sz).mono (by omega)
theorem SmB.sub {k : Kd} {P : Rk k} {ls ms : List (Ln Str (Rk k))} (b : SmB P ls) (h : ∀ l ∈ ms, l ∈ ls) (hn : ms.length ≤ ls.length) : SmB P ms := by
  have h0 := b.bkp
  refine ⟨⟨⟨fun l hl => h0.bk.l0 l (h l hl), Nat.le_trans hn h0.bk.ln⟩, h0.pP, h0.sP, fun l hl => h0.dv l (h l hl), fun l hl => h0.sz l (h l hl)⟩, b.sz, b.size, Nat.le_trans (filter_len fun s hs => ?_) b.nslen, fun l hl => b.sml l (h l hl)⟩
  obtain ⟨l, hm, e⟩ := mem_endsOf.mp hs
  exact mem_endsOf.mpr ⟨l, h l hm, e⟩
def smP (N : Nat) (m d : D) : Prop := GenOk (N + 10000) m ∧ ∃ (k : Kd) (P : Rk k) (ls : List (Ln Str (Rk k))), d = .lst [bkD ls, iD P] ∧ SmB P ls
theorem intsD_get {m : Int} {n i : Nat} {d : D} (h : (intsD m n)[i]? = some d) : d = .int (m + (i : Int)) := by
  unfold intsD at h
  rw [List.getElem?_map, Option.map_eq_some_iff] at h
  obtain ⟨j, hj, rfl⟩ := h
  obtain ⟨h1, h2⟩ := List.getElem?_eq_some_iff.mp hj
  rw [List.getElem_range] at h2
  rw [h2]
theorem op_is {K : PySem.W.Frag} {r : R2} {x y z z' : D} (h : Op2 K r x y z) (e : z = z') : Op2 K r x y z' := e ▸ h
theorem mate_ok {n a r : Nat} (ha : a < n) (hr : r < n - 1) : (a + 1 + r) % n < n ∧ (a + 1 + r) % n ≠ a := by
  refine ⟨Nat.mod_lt _ (by omega), ?_⟩
  by_cases h : a + 1 + r < n
  · rw [Nat.mod_eq_of_lt h]; omega
  · rw [Nat.mod_eq_sub_mod (by omega), Nat.mod_eq_of_lt (by omega)]; omega
abbrev bkE {k : Kd} (P : Rk k) (bs : List (Rk k)) (ns : List Str) (hs : List (Rk k)) (o : Bool) (m : D) (ls : List (Ln Str (Rk k))) (x9 x10 x11 x12 x13 : Option (Bool × D)) : Env :=
  [some (true, m), some (false, .int 3), some (false, .str (kd k)), some (false, iD P), some (false, .lst (bs.map fun b => iD b)), some (false, nmD ns), some (false, rwD hs), some (true, lnsD ls), some (false, .bl o), x9, x10, x11, x12, x13, none]
section
variable {P : Program} {w : World} {K : PySem.W.Frag} {mg : Str → Option Value} {base : Heap}
def f_law_book : List D → (D → D → Prop) → Prop := fun ds Po => ∃ (g : D) (N : Nat), ds = [g, .int 3] ∧ Po = smP N ∧ GenOk N g ∧ N ≤ 10000
theorem s_law_book : FnScope [("_law_generator_here" : Str), ("_law_most" : Str), ("_law_kind" : Str), ("_law_period_here" : Str), ("_law_bys" : Str), ("_law_names_here" : Str), ("_law_hidden" : Str), ("_law_lines" : Str), ("_law_odd" : Str), ("_law_turn" : Str), ("_law_at" : Str), ("_law_mate" : Str), ("_law_by" : Str), ("_law_ahead" : Str), ("_law_name" : Str)] ["_law_generator_here", "_law_most"] (defScope (Hd.top 86)) := ⟨rfl, rfl, rfl, by decide +kernel, rfl, by decide +kernel, by decide +kernel⟩
theorem c_law_book (T : Tx K mg) (k : Nat) : Cal P w K mg base (k + 4) "_law_book" (spM K 0 f_law_book) := by
  have c_law_period := c_law_period (P := P) (w := w) (base := base) T k
  have c_law_random := c_law_random (P := P) (w := w) (base := base) T k
  have c_law_less := c_law_less (P := P) (w := w) (base := base) T k
  have c_law_plus := c_law_plus (P := P) (w := w) (base := base) T k
  have c_law_size := c_law_size (P := P) (w := w) (base := base) T k
  have c_law_rest := c_law_rest (P := P) (w := w) (base := base) T k
  have sc := s_law_book
  refine cal_of (k := k + 3) T 66 66 rfl rfl s_law_book (fun _ _ _ _ _ _ us hl => match us, hl with | [_, _], _ => rfl) (fun vs H Q E h => spM_len h (n := 2) (by rintro _ _ ⟨g, N, rfl, rfl, hg, hN⟩; rfl)) fun cdv A outer s H vs Q E hr h => ⟨_, PSs.nox (pss_cons (ps_asg (pe_c c_law_period hr (by omega) (by rfl) (pa_cons (pv 0) pa_nil)) (pg_unl rfl (pgs_cons (pg_name (i := 2) sc.nd rfl (Or.inr rfl)) (pgs_cons (pg_name (i := 3) sc.nd rfl (Or.inr rfl)) (pgs_cons (pg_name (i := 4) sc.nd rfl (Or.inl rfl)) pgs_nil))))) (pss_cons (ps_set (i := 5) sc.nd rfl (Or.inl rfl) (pe_ix ix_list (pe_lst (pa_cons (pe_lst (pa_cons pe_str (pa_cons pe_str (pa_cons pe_str pa_nil)))) (pa_cons (pe_lst (pa_cons pe_str (pa_cons pe_str (pa_cons pe_str pa_nil)))) (pa_cons (pe_lst (pa_cons pe_str (pa_cons pe_str pa_nil))) (pa_cons (pe_lst (pa_cons pe_str (pa_cons pe_str (pa_cons pe_str (pa_cons pe_str pa_nil))))) pa_nil))))) (pe_c c_law_random hr (by omega) (by rfl) (pa_cons (pv 0) (pa_cons (pv 1) pa_nil))) (fun _ _ => rfl))) (pss_cons (ps_if (pt_cmpR (op_eq) (pe_callB call_len_seq (by rfl) (T.fr 82 rfl) (by decide +kernel) (pa_cons (pv 5) pa_nil)) pe_int (nomark _)) (pss_one (ps_asg (pe_ix ix_list (pe_lst (pa_cons (pe_lst (pa_cons pe_str (pa_cons pe_int (pa_cons (pe_lst (pa_cons pe_int (pa_cons pe_int (pa_cons pe_int (pa_cons pe_int pa_nil))))) pa_nil)))) (pa_cons (pe_lst (pa_cons pe_str (pa_cons pe_int (pa_cons (pe_lst (pa_cons pe_int (pa_cons pe_int pa_nil))) pa_nil)))) (pa_cons (pe_lst (pa_cons pe_str (pa_cons pe_int (pa_cons (pe_lst (pa_cons pe_int (pa_cons pe_int (pa_cons pe_int (pa_cons pe_int pa_nil))))) pa_nil)))) pa_nil)))) (pe_c c_law_random hr (by omega) (by rfl) (pa_cons (pv 0) (pa_cons pe_int pa_nil))) (fun _ _ => rfl)) (pg_tup rfl (pgs_cons (pg_name (i := 2) sc.nd rfl (Or.inr rfl)) (pgs_cons (pg_name (i := 3) sc.nd rfl (Or.inr rfl)) (pgs_cons (pg_name (i := 4) sc.nd rfl (Or.inl rfl)) pgs_nil)))))) pss_nil) (pss_cons (ps_par3 (i := 6) (j := 7) (l := 8) (by rfl) sc.nd rfl rfl rfl (by decide) (by decide) (by decide) rfl rfl rfl (pa_cons (pe_lc (own := [(("_law_name" : Str), 14)]) (g := gName 14) rfl sc.nd  (pi_list (pv 5)) (blkOk_by (own := [(("_law_name" : Str), 14)]) (N := [("_law_generator_here" : Str), ("_law_most" : Str), ("_law_kind" : Str), ("_law_period_here" : Str), ("_law_bys" : Str), ("_law_names_here" : Str), ("_law_hidden" : Str), ("_law_lines" : Str), ("_law_odd" : Str), ("_law_turn" : Str), ("_law_at" : Str), ("_law_mate" : Str), ("_law_by" : Str), ("_law_ahead" : Str), ("_law_name" : Str)]) (sc := defScope (Hd.top 86)) (by decide +kernel)) (fun _ _ _ _ _ => (pg_name (i := 14) sc.nd rfl (Or.inl rfl))) (fun _ _ _ _ _ => pts_nil) (fun _ _ _ _ _ => (pe_c c_law_random hr (by omega) (by rfl) (pa_cons (pv 0) (pa_cons (pe_c c_law_size hr (by omega) (by rfl) (pa_cons (pv 2) (pa_cons (pv 3) pa_nil))) pa_nil))))) (pa_cons (pe_lst pa_nil) (pa_cons (pe_cmpR (op_eq) (pe_c c_law_random hr (by omega) (by rfl) (pa_cons (pv 0) (pa_cons pe_int pa_nil))) pe_int (nomark _)) pa_nil))) (by rfl)) (pss_cons (ps_for PassesOwn.never rfl (pi_range1 (by rfl) (T.fr 85 rfl) (pa_cons (pe_c c_law_random hr (by omega) (by rfl) (pa_cons (pv 0) (pa_cons pe_int pa_nil))) pa_nil)) (pg_name (i := 9) sc.nd rfl (Or.inl rfl)) (pss_cons (ps_set (i := 10) sc.nd rfl (Or.inl rfl) (pe_c c_law_random hr (by omega) (by rfl) (pa_cons (pv 0) (pa_cons (pe_callB call_len_seq (by rfl) (T.fr 82 rfl) (by decide +kernel) (pa_cons (pv 5) pa_nil)) pa_nil)))) (pss_cons (ps_set (i := 11) sc.nd rfl (Or.inl rfl) (pe_op op_modN (pe_callTy call_int1 (by rfl) (T.fr 80 rfl) (by decide +kernel) (pa_cons (pe_op op_add (pe_op op_add (pv 10) pe_int) (pe_c c_law_random hr (by omega) (by rfl) (pa_cons (pv 0) (pa_cons (pe_op op_sub (pe_callB call_len_seq (by rfl) (T.fr 82 rfl) (by decide +kernel) (pa_cons (pv 5) pa_nil)) pe_int) pa_nil)))) pa_nil)) (pe_callB call_len_seq (by rfl) (T.fr 82 rfl) (by decide +kernel) (pa_cons (pv 5) pa_nil)))) (pss_cons (ps_set (i := 12) sc.nd rfl (Or.inl rfl) (pe_ifExp (pt_cmpR (op_eq) (pe_c c_law_random hr (by omega) (by rfl) (pa_cons (pv 0) (pa_cons pe_int pa_nil))) pe_int (nomark _)) pe_int (pe_ix ix_list (pv 4) (pe_c c_law_random hr (by omega) (by rfl) (pa_cons (pv 0) (pa_cons (pe_callB call_len_seq (by rfl) (T.fr 82 rfl) (by decide +kernel) (pa_cons (pv 4) pa_nil)) pa_nil))) (fun _ _ => rfl)))) (pss_cons (ps_set (i := 13) sc.nd rfl (Or.inl rfl) (pe_c c_law_less hr (by omega) (by rfl) (pa_cons (pv 2) (pa_cons (pe_ix ix_list (pv 6) (pv 11) (fun _ _ => rfl)) (pa_cons (pe_ix ix_list (pv 6) (pv 10) (fun _ _ => rfl)) pa_nil))))) (pss_cons (ps_if (PW.pt (pw_and (pt_val (pv 8)) (pw_and1 (pt_cmpR (op_eq) (pe_c c_law_random hr (by omega) (by rfl) (pa_cons (pv 0) (pa_cons pe_int pa_nil))) pe_int (nomark _))))) (pss_one (ps_set (i := 13) sc.nd rfl (Or.inl rfl) (pe_c c_law_plus hr (by omega) (by rfl) (pa_cons (pv 2) (pa_cons (pv 13) (pa_cons pe_int pa_nil)))))) pss_nil) (pss_one (ps_expr (pe_bm PySem.F.plainAttrs_list PySem.F.slot_list_append PySem.F.type_list_append mt_append (pv 7) (pa_cons (pe_tup (pa_cons (pe_ix ix_list (pv 5) (pv 10) (fun _ _ => rfl)) (pa_cons (pe_ix ix_list (pv 5) (pv 11) (fun _ _ => rfl)) (pa_cons (pe_c c_law_rest hr (by omega) (by rfl) (pa_cons (pv 2) (pa_cons (pv 13) (pa_cons (pv 12) pa_nil)))) (pa_cons (pv 12) pa_nil))))) pa_nil)))))))))) (pss_one (ps_ret (pe_lst (pa_cons (pe_tup (pa_cons (pv 2) (pa_cons (pv 7) pa_nil))) (pa_cons (pv 3) pa_nil)))))))))), spM_run h ?_⟩
  clear h
  rintro an ds Po ⟨g, N, rfl, rfl, hg, hN⟩
  show WS K (some (0, an)) _ [some (true, _), some (false, _), none, none, none, none, none, none, none, none, none, none, none, none, none] _ _
  have hz := szl (Nat.le_refl 1000000)
  refine ws_seq (ws_asgW (we_callM (i := 0) (j := 0) (P := perP N) rfl (em_here ea_nil) ⟨g, N, rfl, rfl, hg, by omega⟩ fun m d hp => ?_))
  obtain ⟨hg1, k, P', bs, rfl, per⟩ := hp
  have pP := per.ps
  have i1 : (D.int 1) = iD (1 : Rk k) := congrArg D.int io_one.symm
  have i0 : (D.int 0) = iD (0 : Rk k) := congrArg D.int io_zero.symm
  refine wm_unl rfl (wms_cons (wm_name (wms_cons (wm_name (wms_cons (wm_name (wms_nil ?_)))))))
  refine ws_seq (ws_mono (N := fun ρ' => ∃ (m : D) (ns : List Str), ρ' = [some (true, m), some (false, .int 3), some (false, .str (kd k)), some (false, iD P'), some (false, .lst (bs.map fun b => iD b)), some (false, nmD ns), none, none, none, none, none, none, none, none, none] ∧ ns ∈ nm3 ∧ GenOk (N + 300) m)
    (ws_setW (we_op (we_ev (ev_lst (ea_cons (ev_lst (ea_cons ev_str (ea_cons ev_str (ea_cons ev_str ea_nil))) (szb rfl)) (ea_cons (ev_lst (ea_cons ev_str (ea_cons ev_str (ea_cons ev_str ea_nil))) (szb rfl)) (ea_cons (ev_lst (ea_cons ev_str (ea_cons ev_str ea_nil)) (szb rfl)) (ea_cons (ev_lst (ea_cons ev_str (ea_cons ev_str (ea_cons ev_str (ea_cons ev_str ea_nil)))) (szb rfl)) ea_nil)))) (szb rfl)) (we_rnd (i := 0) rfl (ev_var rfl) hg1 (by decide) (sz_lit rfl) (by omega) fun m2 r hg2 hr => ?_)))) ?_ fun _ _ h => h)
  · match r, hr with
    | 0, _ => exact ⟨_, op_ixL rfl, m2, ["a", "b", "c"], rfl, by decide, hg2⟩
    | 1, _ => exact ⟨_, op_ixL rfl, m2, ["a", "b0", "x"], rfl, by decide, hg2⟩
    | 2, _ => exact ⟨_, op_ixL rfl, m2, ["a", "b"], rfl, by decide, hg2⟩
    | r + 3, h => omega
  rintro ρ' ⟨m1, ns, rfl, hns, hg2⟩
  obtain ⟨n1, n2, n3, n4⟩ := nm3_ok ns hns
  have hll : (ns.map D.str).length = ns.length := List.length_map ..
  refine ws_seq (ws_ifno (et_is (et_test (ev_op (ev_cb (ea_cons (ev_var rfl) ea_nil) (op_lenL rfl)) ev_int op_eqI)) (decide_eq_false (by rw [hll]; omega))) ?_)
  have sP : Szr 200 P' := per.sz.mono (by omega)
  have sz0 := sizeF_pos pP
  have sz1 := per.size
  refine ws_seq (ws_par3N (by decide) (by decide) (.inl rfl) lays_lst (we_lcI (fun i ρ' acc => ∃ (m : D) (hs : List (Rk k)), ρ' = [some (true, m), some (false, .int 3), some (false, .str (kd k)), some (false, iD P'), some (false, .lst (bs.map fun b => iD b)), some (false, nmD ns), none, none, none, none, none, none, none, none, none] ∧ acc = hs.map (fun x => iD x) ∧ hs.length = i ∧ (∀ x ∈ hs, red P' x) ∧ GenOk (N + 300 + 100 * i) m) (js := [14]) (by decide) (free_j (by decide))
    (wei_ev (ei_list (ev_var rfl)) ⟨len_szl (by rw [hll]; omega), ⟨m1, [], rfl, rfl, rfl, (fun _ h => nomatch h), hg2⟩, ?_, ?_⟩)) (free_j (by decide)))
  · rintro i d ρ' acc hd ⟨m, hs, rfl, rfl, rfl, hr, hgm⟩
    have hil : hs.length < ns.length := by
      have := (List.getElem?_eq_some_iff.mp hd).1
      rwa [hll] at this
    rw [List.getElem?_map, Option.map_eq_some_iff] at hd
    obtain ⟨nn, _, rfl⟩ := hd
    refine wg_name (wt_et et_yes ⟨fun _ => we_rnd (i := 0) rfl (ev_call (ea_cons (ev_var rfl) (ea_cons (ev_var rfl) ea_nil)) ⟨k, P', rfl, rfl, pP, sP.mono (by omega)⟩) hgm (by omega) (by unfold Sz; refine Nat.lt_of_le_of_lt (m := 12) ?_ (Nat.lt_of_lt_of_le (show 12 < 2 ^ 4 by decide) (Nat.pow_le_pow_right (by decide) (by omega))); omega) (by omega) fun m2 r hgm2 hr2 => ?_, fun h => nomatch h⟩)
    refine ⟨m2, hs ++ [ofN k r], rfl, ?_, by rw [List.length_append]; rfl, fun x hx => ?_, hgm2.mono (by omega)⟩
    · rw [List.map_append]
      refine congrArg (fun z => (hs.map fun x => iD x) ++ [z]) ?_
      exact congrArg D.int (io_ofN k r).symm
    · rcases List.mem_append.mp hx with h | h
      · exact hr x h
      · cases List.mem_singleton.mp h
        exact (red_ofN pP r).mpr (by omega)
  · rintro ρ' acc ⟨m, hs, rfl, rfl, hhl, hr', hgm⟩
    rw [hll] at hhl
    refine we_op (we_rnd (i := 0) rfl ev_int hgm (by decide) (sz_lit rfl) (by omega) fun m2 r hgm2 _ => we_ev ev_int ⟨.bl (decide ((r : Int) = 0)), op_eqI, ?_⟩)
    generalize decide ((r : Int) = 0) = o
    refine ws_seq (ws_forW (js := [9]) (fun t ρ' => ∃ (m : D) (ls : List (Ln Str (Rk k))) (x9 x10 x11 x12 x13 : Option (Bool × D)), ρ' = bkE P' bs ns hs o m ls x9 x10 x11 x12 x13 ∧ GenOk (N + 2000 + 600 * t) m ∧ ls.length = t ∧ ∀ l ∈ ls, LnB bs ns l)
      (wei_rng1 (wea_cons (we_rnd (i := 0) rfl ev_int hgm2 (by decide) (sz_lit rfl) (by omega) fun m3 rt hgm3 hrt => wea_nil ⟨_, rfl, by omega, by omega, ?_⟩))))
    have il : (intsD 0 ((rt : Int).toNat)).length = rt := by
      unfold intsD
      rw [List.length_map, List.length_range, Int.toNat_natCast]
    refine ⟨⟨m3, [], none, none, none, none, none, rfl, hgm3.mono (by omega), rfl, fun _ h => nomatch h⟩, ?_, ?_⟩
    · rintro t d ρ' hd ⟨m, ls, x9, x10, x11, x12, x13, rfl, hgt, hlt, hls⟩
      have htr : t < rt := by
        have := (List.getElem?_eq_some_iff.mp hd).1
        rwa [il] at this
      obtain rfl : d = .int ((0 : Int) + (t : Int)) := (intsD_get hd)
      refine wg_name ?_
      have hli : ((ns.map D.str).length : Int) = (ns.length : Int) := by rw [hll]
      have lenN : ∀ {ρ : Env}, ρ[5]? = some (some (false, nmD ns)) → Ev K (tCB (fun xs H Q => ∃ p ys, xs = [V.ref p] ∧ (SqL K H p ys ∨ SqT K H p ys) ∧ Q (.int ys.length) H) (tCons (tVar 5) tNil)) ρ (.int (ns.length : Int)) := fun h => ev_is (ev_cb (ea_cons (ev_var h) ea_nil) (op_lenL rfl)) (congrArg D.int hli)
      have szN : ∀ i : Int, 0 ≤ i → i ≤ 20 → Sz 2100 i := fun i h0 h1 => Nat.lt_of_lt_of_le (show i.natAbs < 2 ^ 5 by omega) (Nat.pow_le_pow_right (by decide) (by omega))
      refine ws_seq (ws_setW (we_rnd (i := 0) rfl (lenN rfl) hgt (by omega) (szN _ (by omega) (by omega)) (by omega) fun ma a hga ha => ?_))
      have ha : a < ns.length := by omega
      refine ws_seq (ws_setW (we_op (we_cb (wea_cons (we_op (we_ev (ev_op (ev_var rfl) ev_int op_i0) (we_rnd (i := 0) rfl (ev_op (lenN rfl) ev_int op_i0) hga (by omega) (szN _ (by omega) (by omega)) (by omega) fun mb r hgb hr => ⟨_, op_i0, wea_nil ⟨_, op_int1, we_ev (lenN rfl) ⟨.int (((a + 1 + r) % ns.length : Nat) : Int), op_is (op_iC (by omega)) ?_, ?_⟩⟩⟩)))))))
      · rw [Int.fmod_eq_emod_of_nonneg _ (by omega), Int.natCast_emod, Int.natCast_add, Int.natCast_add]
        rfl
      have hr : r < ns.length - 1 := by omega
      obtain ⟨hm1, hm2⟩ := mate_ok ha hr
      generalize (a + 1 + r) % ns.length = mt at *
      have hbl : (bs.map fun b => iD b : List D).length = bs.length := List.length_map ..
      obtain ⟨b1, b2⟩ := per.len
      refine ws_seq (ws_mono (N := fun ρ' => ∃ (m : D) (b : Rk k), ρ' = bkE P' bs ns hs o m ls (some (false, .int ((0 : Int) + (t : Int)))) (some (false, .int (a : Int))) (some (false, .int (mt : Int))) (some (false, iD b)) x13 ∧ GenOk (N + 2000 + 600 * t + 400) m ∧ (b = 0 ∨ b ∈ bs))
        (ws_setW (we_ifW (wt_we (we_op (we_rnd (i := 0) rfl ev_int hgb (by decide) (sz_lit rfl) (by omega) fun mc r2 hgc _ => we_ev ev_int ⟨_, op_eqI, _, rfl, fun _ => we_ev ev_int ⟨mc, 0, ?_, hgc.mono (by omega), .inl rfl⟩, fun _ => we_op (we_ev (ev_var rfl) (we_rnd (i := 0) rfl (ev_is (ev_cb (ea_cons (ev_var rfl) ea_nil) (op_lenL rfl)) (congrArg (fun n : Nat => D.int (n : Int)) hbl)) hgc (by omega) (szN _ (by omega) (by omega)) (by omega) fun md r3 hgd hr3 => ?_))⟩))))) ?_ fun _ _ h => h)
      · rw [i0]
        rfl
      · have h3 : r3 < bs.length := by omega
        refine ⟨iD bs[r3], op_ixL (atI_nat (by rw [List.getElem?_map, List.getElem?_eq_getElem h3]; rfl)), md, bs[r3], rfl, hgd.mono (by omega), .inr (List.getElem_mem h3)⟩
      rintro ρ' ⟨mb2, b, rfl, hgb2, hb0⟩
      have hsl : hs.length = ns.length := hhl
      obtain ⟨xa, hxa⟩ : ∃ x, hs[a]? = some x := ⟨_, List.getElem?_eq_getElem (by omega)⟩
      obtain ⟨xm, hxm⟩ : ∃ x, hs[mt]? = some x := ⟨_, List.getElem?_eq_getElem (by omega)⟩
      obtain ⟨na, hna⟩ : ∃ x, ns[a]? = some x := ⟨_, List.getElem?_eq_getElem (by omega)⟩
      obtain ⟨nm, hnm⟩ : ∃ x, ns[mt]? = some x := ⟨_, List.getElem?_eq_getElem (by omega)⟩
      have sxa : Szr 4 xa := sz_red (hr' xa (List.mem_of_getElem? hxa)) per.sz
      have sxm : Szr 4 xm := sz_red (hr' xm (List.mem_of_getElem? hxm)) per.sz
      refine ws_seq (ws_set (ev_call (ea_cons (ev_var rfl) (ea_cons (ev_op (ev_var rfl) (ev_var rfl) (op_ixL (atI_nat (by rw [List.getElem?_map, hxm]; rfl)))) (ea_cons (ev_op (ev_var rfl) (ev_var rfl) (op_ixL (atI_nat (by rw [List.getElem?_map, hxa]; rfl)))) ea_nil))) ⟨k, xm, xa, rfl, rfl⟩) ?_)
      refine ws_seq (ws_mono (N := fun ρ' => ∃ (m : D) (ah : Rk k), ρ' = bkE P' bs ns hs o m ls (some (false, .int ((0 : Int) + (t : Int)))) (some (false, .int (a : Int))) (some (false, .int (mt : Int))) (some (false, iD b)) (some (false, iD ah)) ∧ GenOk (N + 2000 + 600 * t + 500) m ∧ Szr 20 ah)
        (ws_ifW (wt_and (wt_et (et_test (ev_var rfl)) ⟨fun _ => wt_we (we_op (we_rnd (i := 0) rfl ev_int hgb2 (by decide) (sz_lit rfl) (by omega) fun mc r2 hgc _ => we_ev ev_int ⟨_, op_eqI, _, rfl, fun _ => ws_set (ev_call (ea_cons (ev_var rfl) (ea_cons (ev_var rfl) (ea_cons (ev_is ev_int i1) ea_nil))) ⟨k, xm - xa, 1, rfl, rfl⟩) ⟨mc, xm - xa + 1, rfl, hgc.mono (by omega), ?_⟩, fun _ => ws_next ⟨mc, xm - xa, rfl, hgc.mono (by omega), (sz_subR sxm sxa).mono (by omega)⟩⟩)), fun _ => ⟨(fun h => nomatch h), fun _ => ws_next ⟨mb2, xm - xa, rfl, hgb2.mono (by omega), (sz_subR sxm sxa).mono (by omega)⟩⟩⟩))) ?_ fun _ _ h => h)
      · exact (sz_addR (sz_subR sxm sxa) (sz_oneR (by omega))).mono (by omega)
      rintro ρ' ⟨mc, ah, rfl, hgc, hah⟩
      have hbp : 0 ≤ io b ∧ Szr 4 b := by
        rcases hb0 with e | e
        · rw [e, io_zero]
          exact ⟨Int.le_refl _, sz_zeroR⟩
        · obtain ⟨p1, p2⟩ := per.dvs b e
          exact ⟨p1.cnt, sz_dv p2 pP p1.cnt per.sz⟩
      refine ws_app (i := 7) (d := lnD (na, nm, rst ah b, b)) rfl (ev_tup (ea_cons (ev_op (ev_var rfl) (ev_var rfl) (op_ixL (atI_nat (by rw [List.getElem?_map, hna]; rfl)))) (ea_cons (ev_op (ev_var rfl) (ev_var rfl) (op_ixL (atI_nat (by rw [List.getElem?_map, hnm]; rfl)))) (ea_cons (ev_call (ea_cons (ev_var rfl) (ea_cons (ev_var rfl) (ea_cons (ev_var rfl) ea_nil))) ⟨k, ah, b, rfl, rfl, hbp.1, hbp.2.mono (by omega), hah.mono (by omega)⟩) (ea_cons (ev_var rfl) ea_nil)))) (szb rfl)) (len_szl (by rw [List.length_map]; omega)) ⟨mc, ls ++ [(na, nm, rst ah b, b)], some (false, .int ((0 : Int) + (t : Int))), some (false, .int (a : Int)), some (false, .int (mt : Int)), some (false, iD b), some (false, iD ah), ?_, hgc.mono (by omega), by rw [List.length_append, hlt]; rfl, fun l hl => ?_⟩
      · unfold bkE lnsD
        rw [List.map_append]
        rfl
      · rcases List.mem_append.mp hl with h | h
        · exact hls l h
        · cases List.mem_singleton.mp h
          refine ⟨List.mem_of_getElem? hna, List.mem_of_getElem? hnm, fun e => ?_, hb0, ?_, ?_⟩
          · obtain ⟨q1, e1⟩ := List.getElem?_eq_some_iff.mp hna
            obtain ⟨q2, e2⟩ := List.getElem?_eq_some_iff.mp hnm
            exact hm2 ((List.getElem_inj n2 (h₀ := q2) (h₁ := q1)).mp (e2.trans (e.symm.trans e1.symm)))
          · by_cases hb : io b = 0
            · exact .inl hb
            · exact .inr (rst_red ⟨fun e => hb (io_eq_zero.mpr e), hbp.1⟩)
          · exact (sz_rst hbp.1 hah (hbp.2.mono (by omega))).mono (by omega)
    · rintro ρ' ⟨m, ls, x9, x10, x11, x12, x13, rfl, hgt, hlt, hls⟩
      rw [il] at hgt hlt
      refine ws_freeze (i := 7) rfl (fun a h => nomatch h) (fun j a h => by cases h; exact ⟨m, rfl⟩) ?_
      refine ws_ret (ev_lst (ea_cons (ev_tup (ea_cons (ev_var rfl) (ea_cons (ev_var rfl) ea_nil)) (szb rfl)) (ea_cons (ev_var rfl) ea_nil)) (szb rfl)) ⟨m, rfl, hgt.mono (by omega), k, P', ls, rfl, smB_of per hns hls (by omega)⟩

end
end J

/-! ## V4 -/
/-! The law's small books, its periods, its rows. -/
namespace J
open PySem PySem.Spec PyProof.Rows L2 Q
open KR
open Evl (ex_rd ex_l ex_t)
def tmP {k : Kd} (N : Nat) (P : Rk k) (ls : List (Ln Str (Rk k))) (m d : D) : Prop := GenOk (N + 100) m ∧ ∃ P' : Rk k, d = iD P' ∧ BkP P' ls ∧ sizeF P' ≤ 24
theorem BkP.up {k : Kd} {P P' : Rk k} {ls : List (Ln Str (Rk k))} (b : BkP P ls) (p : Ps P') (s : Szr 200 P') (d : Dv P P') : BkP P' ls := ⟨b.bk, p, s, fun l h hp => (b.dv l h hp).trans d, b.sz⟩
def ltC : D → Bool
  | .tup (.str a :: .str b :: _) => decide (a.cps.toList < ("c" : Str).cps.toList) && decide (b.cps.toList < ("c" : Str).cps.toList)
  | _ => false
theorem ocn_copyD {K : PySem.W.Frag} {m : List (Key × D)} : OpCN K (fun xs H Q => ∃ (a : Addr) (kvs : List (Key × V)), xs = [.ref a] ∧ Rd H a (.dK kvs) ∧ ∀ p, H p = none → Q (.ref p) (upd H p (.dK kvs))) [.dK m] (.dK m) := fun Hs H vs Q e rs q => by
  cases rs with
  | cons r1 rs =>
    cases rs
    obtain ⟨a, ps, rfl, ha, hk, rl⟩ := r1.dK_inv
    exact ⟨a, ps, rfl, ex_rd e ha, fun p hp => q p Hs _ (.newM e hp) hp (.dK (ex_free e hp) upd_same hk rl)⟩
section
variable {P : Program} {w : World} {K : PySem.W.Frag} {mg : Str → Option Value} {base : Heap}
def f_law_small : List D → (D → D → Prop) → Prop := fun ds Po => ∃ (g : D) (N : Nat), ds = [g] ∧ Po = smP N ∧ GenOk N g ∧ N ≤ 10000
theorem s_law_small : FnScope [("_law_generator_here" : Str), ("_law_book_here" : Str), ("_law_period_here" : Str), ("_law_line_here" : Str)] ["_law_generator_here"] (defScope (Hd.top 101)) := ⟨rfl, rfl, rfl, by decide +kernel, rfl, by decide +kernel, by decide +kernel⟩
theorem c_law_small (T : Tx K mg) (k : Nat) : Cal P w K mg base (k + 5) "_law_small" (spM K 0 f_law_small) := by
  have c_law_book := c_law_book (P := P) (w := w) (base := base) T k
  have c_law_size := c_law_size (P := P) (w := w) (base := base) T k
  have c_law_names := c_law_names (P := P) (w := w) (base := base) T k
  have sc := s_law_small
  refine cal_of (k := k + 4) T 72 72 rfl rfl s_law_small (fun _ _ _ _ _ _ us hl => match us, hl with | [_], _ => rfl) (fun vs H Q E h => spM_len h (n := 1) (by rintro _ _ ⟨g, N, rfl, rfl, hg, hN⟩; rfl)) fun cdv A outer s H vs Q E hr h => ⟨_, PSs.nox (pss_cons (ps_asg (pe_c c_law_book hr (by omega) (by rfl) (pa_cons (pv 0) (pa_cons pe_int pa_nil))) (pg_unl rfl (pgs_cons (pg_name (i := 1) sc.nd rfl (Or.inl rfl)) (pgs_cons (pg_name (i := 2) sc.nd rfl (Or.inl rfl)) pgs_nil)))) (pss_cons (ps_if (PW.pt (pw_and (pt_cmpR (op_gt) (pe_c c_law_size hr (by omega) (by rfl) (pa_cons (pe_ix ix_tup (pv 1) pe_int (fun _ _ => rfl)) (pa_cons (pv 2) pa_nil))) pe_int (nomark _)) (pw_and1 (pt_cmpR (op_gt) (pe_callB call_len_seq (by rfl) (T.fr 82 rfl) (by decide +kernel) (pa_cons (pe_c c_law_names hr (by omega) (by rfl) (pa_cons (pv 1) pa_nil)) pa_nil)) pe_int (nomark _))))) (pss_one (ps_set (i := 1) sc.nd rfl (Or.inl rfl) (pe_tup (pa_cons (pe_ix ix_tup (pv 1) pe_int (fun _ _ => rfl)) (pa_cons (pe_lc (own := [(("_law_line_here" : Str), 3)]) (g := gName 3) rfl sc.nd  (pi_list (pe_ix (show IxR _ (rIxT K) from ix_tup) (pv 1) pe_int (fun _ _ => rfl))) (blkOk_by (own := [(("_law_line_here" : Str), 3)]) (N := [("_law_generator_here" : Str), ("_law_book_here" : Str), ("_law_period_here" : Str), ("_law_line_here" : Str)]) (sc := defScope (Hd.top 101)) (by decide +kernel)) (fun _ _ _ _ _ => (pg_name (i := 3) sc.nd rfl (Or.inl rfl))) (fun _ _ _ _ _ => (pts_one (PW.pt (pw_and (pt_cmpR (op_lt_str) (pe_ix (show IxR _ (rIxT K) from ix_tup) (pv 3) pe_int (fun _ _ => rfl)) pe_str (nomark _)) (pw_and1 (pt_cmpR (op_lt_str) (pe_ix (show IxR _ (rIxT K) from ix_tup) (pv 3) pe_int (fun _ _ => rfl)) pe_str (nomark _))))))) (fun _ _ _ _ _ => (pv 3))) pa_nil))))) pss_nil) (pss_one (ps_ret (pe_lst (pa_cons (pv 1) (pa_cons (pv 2) pa_nil))))))), spM_run h ?_⟩
  clear h
  rintro an ds Po ⟨g, N, rfl, rfl, hg, hN⟩
  show WS K (some (0, an)) _ [some (true, _), none, none, none] _ _
  refine ws_seq (ws_asgW (we_callM (i := 0) (j := 0) (P := smP N) rfl (em_here (ea_cons ev_int ea_nil)) ⟨g, N, rfl, rfl, hg, hN⟩ fun m d hp => ?_))
  obtain ⟨hg1, k, P', ls, rfl, sm⟩ := hp
  have b := sm.bkp
  have hln := b.bk.ln
  refine wm_unl rfl (wms_cons (wm_name (wms_cons (wm_name (wms_nil ?_)))))
  refine ws_seq (ws_mono (N := fun ρ' => ∃ ls' : List (Ln Str (Rk k)), ρ' = [some (true, m), some (false, bkD ls'), some (false, iD P'), none] ∧ SmB P' ls')
    (ws_when (et_and (et_test (ev_op (ev_call (ea_cons (ev_op (ev_var rfl) ev_int (op_ixT rfl)) (ea_cons (ev_var rfl) ea_nil)) ⟨k, P', rfl, rfl, b.pP, b.sP.mono (by omega)⟩) ev_int op_b0)) fun _ => et_test (ev_op (ev_cb (ea_cons (ev_call (ea_cons (ev_var rfl) ea_nil) ⟨k, ls, rfl, rfl, b.bk.names, b.bk.ln⟩) ea_nil) (op_lenL rfl)) ev_int op_b0)) (fun _ => ?_) fun _ => ⟨ls, rfl, sm⟩) ?_ fun _ _ h => h)
  · refine ws_set (ev_is (ev_tup (ea_cons (ev_op (ev_var rfl) ev_int (op_ixT rfl)) (ea_cons (en_lcL (js := [3]) ltC (fun d => d) (ev_op (ev_var rfl) ev_int (op_ixT rfl)) (len_szl (by rw [List.length_map]; omega)) (by decide) fun d hd => ?_).ev ea_nil)) (szb rfl)) (show _ = bkD (ls.filter fun l => ltC (lnD l)) from ?_)) ⟨_, rfl, sm.sub (fun l h => (List.mem_filter.mp h).1) (List.length_filter_le _ _)⟩
    · obtain ⟨l, hm, rfl⟩ := List.mem_map.mp hd
      exact wg_name ⟨et_and (et_test (ev_op (ev_op (ev_var rfl) ev_int (op_ixT rfl)) ev_str op_ltS)) fun _ => et_test (ev_op (ev_op (ev_var rfl) ev_int (op_ixT rfl)) ev_str op_ltS), fun _ => ev_var rfl⟩
    · unfold bkD lnsD pick
      rw [List.map_id', List.filter_map]
      rfl
  rintro ρ' ⟨ls', rfl, sm'⟩
  exact ws_ret (ev_lst (ea_cons (ev_var rfl) (ea_cons (ev_var rfl) ea_nil)) (szb rfl)) ⟨m, rfl, hg1, k, P', ls', rfl, sm'⟩

def f_law_times : List D → (D → D → Prop) → Prop := fun ds Po => ∃ (g : D) (N : Nat) (k : Kd) (P : Rk k) (ls : List (Ln Str (Rk k))), ds = [g, bkD ls, iD P] ∧ Po = tmP N P ls ∧ GenOk N g ∧ N ≤ 100000 ∧ SmB P ls
theorem s_law_times : FnScope [("_law_generator_here" : Str), ("_law_book_here" : Str), ("_law_period_here" : Str)] ["_law_generator_here", "_law_book_here", "_law_period_here"] (defScope (Hd.top 100)) := ⟨rfl, rfl, rfl, by decide +kernel, rfl, by decide +kernel, by decide +kernel⟩
theorem c_law_times (T : Tx K mg) (k : Nat) : Cal P w K mg base (k + 3) "_law_times" (spM K 0 f_law_times) := by
  have c_law_random := c_law_random (P := P) (w := w) (base := base) T k
  have sc := s_law_times
  refine cal_of (k := k + 2) T 71 71 rfl rfl s_law_times (fun _ _ _ _ _ _ us hl => match us, hl with | [_, _, _], _ => rfl) (fun vs H Q E h => spM_len h (n := 3) (by rintro _ _ ⟨g, N, k, P', ls, rfl, rfl, hg, hN, sm⟩; rfl)) fun cdv A outer s H vs Q E hr h => ⟨_, PSs.nox (pss_cons (ps_if (pt_cmpR (op_eq) (pe_ix ix_tup (pv 1) pe_int (fun _ _ => rfl)) pe_str (nomark _)) (pss_one (ps_ret (pe_op op_shlW (pv 2) (pe_c c_law_random hr (by omega) (by rfl) (pa_cons (pv 0) (pa_cons pe_int pa_nil)))))) pss_nil) (pss_one (ps_ret (pe_op op_mulX (pv 2) (pe_op op_add pe_int (pe_c c_law_random hr (by omega) (by rfl) (pa_cons (pv 0) (pa_cons pe_int pa_nil)))))))), spM_run h ?_⟩
  clear h
  rintro an ds Po ⟨g, N, k, P', ls, rfl, rfl, hg, hN, sm⟩
  show WS K (some (0, an)) _ [some (true, _), some (false, _), some (false, _)] _ _
  have b := sm.bkp
  have pP := b.pP
  cases k
  · have bp := ps_h pP
    refine ws_seq (ws_ifno (et_bitsF (ev_op (ev_var rfl) ev_int (op_ixT rfl))) ?_)
    refine ws_retW (we_op (we_ev (ev_var rfl) (we_op (we_ev ev_int (we_rnd (i := 0) rfl ev_int hg (by decide) (sz_lit rfl) (by omega) fun m r hg1 hr => ⟨_, op_i0, _, op_iC (mulx_ok (a := 200) (b := 31) b.sP (by omega) (by decide)), m, rfl, hg1, ((P' : Int) * (1 + (r : Int)) : Int), rfl, b.up ?_ ?_ ?_, ?_⟩)))))
    · exact ps_of_pos (show (0 : Int) < (P' : Int) * (1 + (r : Int)) from Int.mul_pos bp (by omega))
    · have h4 : Sz 4 (P' : Int) := sm.sz
      exact (Sz.mul h4 (show Sz 4 (1 + (r : Int)) from by unfold Sz; omega)).mono (by omega)
    · exact ⟨((1 + (r : Int) : Int) : Rk .h), rfl⟩
    · have h1 : sizeF (k := .h) P' ≤ 12 := sm.size
      have e : ∀ x : Int, sizeF (k := .h) x = x.toNat := fun x => by
        show ((x : Int) / 1).toNat = _
        rw [Int.ediv_one]
      rw [e] at h1 ⊢
      have toNat_le : ∀ x : Int, x.toNat ≤ 12 → x ≤ 12 := fun x h => by omega
      have hr : r = 0 ∨ r = 1 := by omega
      have h2 : @LE.le Int _ P' 12 := toNat_le P' h1
      have key : ∀ x : Int, x ≤ 12 → ∀ c : Nat, c = 0 ∨ c = 1 → (x * (1 + (c : Int))).toNat ≤ 24 := fun x hx c hc => by
        rcases hc with e | e
        · rw [e]; omega
        · rw [e]; omega
      exact key P' h2 r hr
  · have P0 : P'.n ≠ 0 := fun q => pP.ne (Bw.ext q)
    have pl : len P'.n ≠ 0 := fun q => P0 (len_eq_zero.mp q)
    have l4 : len P'.n ≤ 4 := sz_len.mp sm.sz
    refine ws_seq (ws_ifT (et_bits (ev_op (ev_var rfl) ev_int (op_ixT rfl))) ?_)
    refine ws_retW (we_op (we_ev (ev_var rfl) (we_rnd (i := 0) rfl ev_int hg (by decide) (sz_lit rfl) (by omega) fun m r hg1 hr => ⟨_, op_iC (shl_ok (n := 200) b.sP (by omega)), m, rfl, hg1, (⟨P'.n <<< r⟩ : Bw), ?_, b.up ?_ ?_ ?_, ?_⟩)))
    · rw [io_b, shl_nat, ← Nat.shiftLeft_eq]
      rfl
    · refine ⟨fun q => ?_, Int.natCast_nonneg _⟩
      have : P'.n <<< r = 0 := congrArg Bw.n q
      rw [Nat.shiftLeft_eq] at this
      rcases Nat.mul_eq_zero.mp this with z | z
      · exact P0 z
      · exact absurd z (Nat.pos_iff_ne_zero.mp (Nat.pow_pos (by decide)))
    · refine sz_len.mpr ?_
      show len (P'.n <<< r) ≤ 200
      rw [len_shl P0]
      omega
    · refine ⟨(⟨2 ^ r⟩ : Bw), Bw.ext ?_⟩
      show P'.n <<< r = cm P'.n (2 ^ r)
      rw [cm_pow, Nat.shiftLeft_eq]
    · have h1 : 2 ^ (len P'.n - 1) ≤ 12 := sm.size
      show 2 ^ (len (P'.n <<< r) - 1) ≤ 24
      rw [len_shl P0]
      have hr : r = 0 ∨ r = 1 := by omega
      rcases hr with e | e
      · rw [e, Nat.add_zero]; omega
      · rw [e, show len P'.n + 1 - 1 = (len P'.n - 1) + 1 from by omega, Nat.pow_succ]; omega

end
end J

/-! ## V5 -/
/-! The law's rows, all tried. -/
namespace J
open PySem PySem.Spec PyProof.Rows L2 Q
open KR
open Evl (ex_rd ex_l ex_t)
section
variable {k : Kd}
def asgW (ws : List (Str × Rk k)) (n : Str) : Rk k := (ws.lookup n).getD 0
theorem asgW_mem {ws : List (Str × Rk k)} {n : Str} {x : Rk k} (nd : (ws.map Prod.fst).Nodup) (h : (n, x) ∈ ws) : asgW ws n = x := by
  unfold asgW
  induction ws with
  | nil => cases h
  | cons q ws ih =>
    rw [List.map_cons, List.nodup_cons] at nd
    obtain ⟨a, y⟩ := q
    rw [List.lookup_cons]
    rcases List.mem_cons.mp h with e | e
    · cases e
      rw [beq_self_eq_true]
      rfl
    · have ne : n ≠ a := fun z => nd.1 (List.mem_map.mpr ⟨(n, x), e, z⟩)
      rw [beq_eq_false_iff_ne.mpr ne]
      exact ih nd.2 e
/-- a line's own rest, or the period -/
def byP (P : Rk k) (l : Ln Str (Rk k)) : Rk k := if 0 < io l.2.2.2 then l.2.2.2 else P
def lkB (P : Rk k) (name : Str) (ws : List (Str × Rk k)) (l : Ln Str (Rk k)) : Bool :=
  if (name = l.1 ∨ name = l.2.1) ∧ l.1 ∈ ws.map Prod.fst ∧ l.2.1 ∈ ws.map Prod.fst then decide (io (rst (asgW ws l.2.1 - (asgW ws l.1 + l.2.2.1)) (byP P l)) = 0) else true
def extB (P : Rk k) (ls : List (Ln Str (Rk k))) (name : Str) (ws : List (Str × Rk k)) (n : Nat) : List (List (Str × Rk k)) :=
  ((List.range n).map fun j => ws ++ [(name, ofN k j)]).filter fun v => ls.all (lkB P name v)
def cntB (P : Rk k) (ns : List Str) (name : Str) : Nat := if ns[0]? = some name then 1 else sizeF P
def stepB (P : Rk k) (ls : List (Ln Str (Rk k))) (ns : List Str) (rows : List (List (Str × Rk k))) (name : Str) : List (List (Str × Rk k)) := rows.flatMap fun ws => extB P ls name ws (cntB P ns name)
def rowsB (P : Rk k) (ls : List (Ln Str (Rk k))) (ns : List Str) (ms : List Str) : List (List (Str × Rk k)) := ms.foldl (stepB P ls ns) [[]]
theorem extB_succ (P : Rk k) (ls : List (Ln Str (Rk k))) (name : Str) (ws : List (Str × Rk k)) (n : Nat) :
    extB P ls name ws (n + 1) = extB P ls name ws n ++ (if ls.all (lkB P name (ws ++ [(name, ofN k n)])) then [ws ++ [(name, ofN k n)]] else []) := by
  unfold extB
  rw [List.range_succ, List.map_append, List.filter_append]
  show _ ++ List.filter _ [ws ++ [(name, ofN k n)]] = _
  rw [List.filter_cons]
  rfl
theorem extB_mem {P : Rk k} {ls : List (Ln Str (Rk k))} {name : Str} {ws v : List (Str × Rk k)} {n : Nat} : v ∈ extB P ls name ws n ↔ ∃ j, j < n ∧ v = ws ++ [(name, ofN k j)] ∧ ∀ l ∈ ls, lkB P name v l = true := by
  unfold extB
  rw [List.mem_filter, List.mem_map, List.all_eq_true]
  constructor
  · rintro ⟨⟨j, hj, rfl⟩, h⟩
    exact ⟨j, List.mem_range.mp hj, rfl, h⟩
  · rintro ⟨j, hj, rfl, h⟩
    exact ⟨⟨j, List.mem_range.mpr hj, rfl⟩, h⟩
theorem extB_len (P : Rk k) (ls : List (Ln Str (Rk k))) (name : Str) (ws : List (Str × Rk k)) (n : Nat) : (extB P ls name ws n).length ≤ n := by
  unfold extB
  refine Nat.le_trans (List.length_filter_le _ _) ?_
  rw [List.length_map, List.length_range]
  exact Nat.le_refl _
theorem cntB_le {P : Rk k} (pP : Ps P) (ns : List Str) (name : Str) : cntB P ns name ≤ sizeF P := by
  unfold cntB
  split
  · exact sizeF_pos pP
  · exact Nat.le_refl _
theorem rowsB_snoc (P : Rk k) (ls : List (Ln Str (Rk k))) (ns ms : List Str) (n : Str) : rowsB P ls ns (ms ++ [n]) = stepB P ls ns (rowsB P ls ns ms) n := by
  unfold rowsB
  rw [List.foldl_append]
  rfl
theorem rowsB_keys {P : Rk k} {ls : List (Ln Str (Rk k))} {ns : List Str} (pP : Ps P) : ∀ (i : Nat), i ≤ ns.length → ∀ ws ∈ rowsB P ls ns (ns.take i), ws.map Prod.fst = ns.take i ∧ ∀ p ∈ ws, red P p.2
  | 0, _, ws, h => by
    have h' : ws ∈ ([[]] : List (List (Str × Rk k))) := h
    cases List.mem_singleton.mp h'
    exact ⟨rfl, fun _ h => nomatch h⟩
  | i + 1, hi, ws, h => by
    have e : ns.take (i + 1) = ns.take i ++ [ns[i]] := by rw [List.take_add_one, List.getElem?_eq_getElem (by omega)]; rfl
    rw [e, rowsB_snoc] at h
    obtain ⟨u, hu, hv⟩ := List.mem_flatMap.mp h
    obtain ⟨j, hj, rfl, _⟩ := extB_mem.mp hv
    obtain ⟨h1, h2⟩ := rowsB_keys pP i (by omega) u hu
    refine ⟨by rw [List.map_append, h1, e]; rfl, fun p hp => ?_⟩
    rcases List.mem_append.mp hp with z | z
    · exact h2 p z
    · cases List.mem_singleton.mp z
      exact (red_ofN pP j).mpr (Nat.lt_of_lt_of_le hj (cntB_le pP _ _))
theorem rowsB_len {P : Rk k} {ls : List (Ln Str (Rk k))} {ns : List Str} (pP : Ps P) {n : Nat} (hn : sizeF P ≤ n) : ∀ (i : Nat), i ≤ ns.length → (rowsB P ls ns (ns.take i)).length ≤ n ^ i
  | 0, _ => Nat.le_refl 1
  | i + 1, hi => by
    have e : ns.take (i + 1) = ns.take i ++ [ns[i]] := by rw [List.take_add_one, List.getElem?_eq_getElem (by omega)]; rfl
    rw [e, rowsB_snoc]
    unfold stepB
    refine Nat.le_trans (flatMap_len fun ws _ => Nat.le_trans (extB_len P ls _ ws _) (Nat.le_trans (cntB_le pP _ _) hn)) ?_
    rw [Nat.pow_succ]
    exact Nat.mul_le_mul_right _ (rowsB_len pP hn i (by omega))
theorem wd_some {ws : List (Str × Rk k)} {n : Str} (nd : (ws.map Prod.fst).Nodup) : (dV (wdM ws) (.inr n)).isSome = decide (n ∈ ws.map Prod.fst) := by
  by_cases h : n ∈ ws.map Prod.fst
  · rw [decide_eq_true h]
    obtain ⟨p, hp, rfl⟩ := List.mem_map.mp h
    rw [dV_wd (x := p.2) nd hp]
    rfl
  · rw [decide_eq_false h, wd_none h]
    rfl
end
section
variable {P : Program} {w : World} {K : PySem.W.Frag} {mg : Str → Option Value} {base : Heap}
def rowsD {k : Kd} (rows : List (List (Str × Rk k))) : D := .lst (rows.map wdD)
def f_law_rows : List D → D → Prop := fun ds d => ∃ (k : Kd) (P : Rk k) (ls : List (Ln Str (Rk k))), ds = [bkD ls, iD P] ∧ d = rowsD (rowsB P ls (nsOf ls) (nsOf ls)) ∧ BkP P ls ∧ sizeF P ≤ 24 ∧ (nsOf ls).length ≤ 3
theorem s_law_rows : FnScope [("_law_book_here" : Str), ("_law_period_here" : Str), ("_law_kind" : Str), ("_law_names_here" : Str), ("_law_rows_here" : Str), ("_law_name" : Str), ("_law_longer" : Str), ("_law_row" : Str), ("_law_number" : Str), ("_law_made" : Str), ("_law_good" : Str), ("_law_one" : Str), ("_law_other" : Str), ("_law_ahead" : Str), ("_law_by" : Str), ("_law_apart" : Str)] ["_law_book_here", "_law_period_here"] (defScope (Hd.top 90)) := ⟨rfl, rfl, rfl, by decide +kernel, rfl, by decide +kernel, by decide +kernel⟩
theorem c_law_rows (T : Tx K mg) (k : Nat) : Cal P w K mg base (k + 2) "_law_rows" (spD K f_law_rows) := by
  have c_law_names := c_law_names (P := P) (w := w) (base := base) T k
  have c_law_size := c_law_size (P := P) (w := w) (base := base) T k
  have c_law_less := c_law_less (P := P) (w := w) (base := base) T k
  have c_law_plus := c_law_plus (P := P) (w := w) (base := base) T k
  have c_law_rest := c_law_rest (P := P) (w := w) (base := base) T k
  have sc := s_law_rows
  refine cal_of (k := k + 1) T 68 68 rfl rfl s_law_rows (fun _ _ _ _ _ _ us hl => match us, hl with | [_, _], _ => rfl) (fun vs H Q E h => spD_len h (n := 2) (by rintro _ _ ⟨k, P', ls, rfl, rfl, b, hs, hn⟩; rfl)) fun cdv A outer s H vs Q E hr h => ⟨_, PSs.nox (pss_cons (ps_par3 (i := 2) (j := 3) (l := 4) (by rfl) sc.nd rfl rfl rfl (by decide) (by decide) (by decide) rfl rfl rfl (pa_cons (pe_ix ix_tup (pv 0) pe_int (fun _ _ => rfl)) (pa_cons (pe_c c_law_names hr (by omega) (by rfl) (pa_cons (pv 0) pa_nil)) (pa_cons (pe_lst (pa_cons pe_dnewK pa_nil)) pa_nil))) (by rfl)) (pss_cons (ps_for PassesOwn.never rfl (pi_list (pv 3)) (pg_name (i := 5) sc.nd rfl (Or.inl rfl)) (pss_cons (ps_set (i := 6) sc.nd rfl (Or.inl rfl) (pe_lst pa_nil)) (pss_cons (ps_for PassesOwn.never rfl (pi_list (pv 4)) (pg_name (i := 7) sc.nd rfl (Or.inl rfl)) (pss_one (ps_for PassesOwn.never rfl (pi_range1 (by rfl) (T.fr 85 rfl) (pa_cons (pe_ifExp (pt_cmpR (op_ne) (pv 5) (pe_ix ix_list (pv 3) pe_int (fun _ _ => rfl)) (nomark _)) (pe_c c_law_size hr (by omega) (by rfl) (pa_cons (pv 2) (pa_cons (pv 1) pa_nil))) pe_int) pa_nil)) (pg_name (i := 8) sc.nd rfl (Or.inl rfl)) (pss_cons (ps_set (i := 9) sc.nd rfl (Or.inl rfl) (pe_callTy call_dictD (by rfl) (T.fr 78 rfl) (by decide +kernel) (pa_cons (pv 7) pa_nil))) (pss_cons (ps_dput (hu_of hr) (pv 9) (pv 5) (pv 8) rfl) (pss_cons (ps_set (i := 10) sc.nd rfl (Or.inl rfl) pe_bl) (pss_cons (ps_for PassesOwn.never rfl (pi_list (pe_ix ix_tup (pv 0) pe_int (fun _ _ => rfl))) (pg_tup rfl (pgs_cons (pg_name (i := 11) sc.nd rfl (Or.inl rfl)) (pgs_cons (pg_name (i := 12) sc.nd rfl (Or.inl rfl)) (pgs_cons (pg_name (i := 13) sc.nd rfl (Or.inl rfl)) (pgs_cons (pg_name (i := 14) sc.nd rfl (Or.inl rfl)) pgs_nil))))) (pss_one (ps_if (PW.pt (pw_and (pt_cmpR (op_in_seq) (pv 5) (pe_lst (pa_cons (pv 11) (pa_cons (pv 12) pa_nil))) (by rfl)) (pw_and (pt_cmp (pc_din (hu_of hr) (pv 11) (pv 9))) (pw_and1 (pt_cmp (pc_din (hu_of hr) (pv 12) (pv 9))))))) (pss_cons (ps_set (i := 15) sc.nd rfl (Or.inl rfl) (pe_c c_law_less hr (by omega) (by rfl) (pa_cons (pv 2) (pa_cons (pe_dget (hu_of hr) (pv 9) (pv 12) (fun _ _ => rfl)) (pa_cons (pe_c c_law_plus hr (by omega) (by rfl) (pa_cons (pv 2) (pa_cons (pe_dget (hu_of hr) (pv 9) (pv 11) (fun _ _ => rfl)) (pa_cons (pv 13) pa_nil)))) pa_nil))))) (pss_one (ps_set (i := 10) sc.nd rfl (Or.inl rfl) (pe_and (pv 10) (pe_one (pe_cmpR (op_eq) (pe_c c_law_rest hr (by omega) (by rfl) (pa_cons (pv 2) (pa_cons (pv 15) (pa_cons (pe_ifExp (pt_cmpR (op_gt) (pv 14) pe_int (nomark _)) (pv 14) (pv 1)) pa_nil)))) pe_int (nomark _))))))) pss_nil))) (pss_one (ps_if (pt_val (pv 10)) (pss_one (ps_expr (pe_bm PySem.F.plainAttrs_list PySem.F.slot_list_append PySem.F.type_list_append mt_append (pv 6) (pa_cons (pv 9) pa_nil)))) pss_nil))))))))) (pss_one (ps_set (i := 4) sc.nd rfl (Or.inl rfl) (pv 6)))))) (pss_one (ps_ret (pv 4))))), spD_run h ?_⟩
  clear h
  rintro ds d ⟨k, P', ls, rfl, rfl, b, hs, hn⟩
  show WS K none _ [some (false, _), some (false, _), none, none, none, none, none, none, none, none, none, none, none, none, none, none] _ _
  have pP := b.pP
  have hln := b.bk.ln
  have nd := nsOf_nd ls
  have cap : ∀ i, i ≤ (nsOf ls).length → (rowsB P' ls (nsOf ls) ((nsOf ls).take i)).length ≤ 13824 := fun i hi => by
    refine Nat.le_trans (rowsB_len pP hs i hi) ?_
    exact Nat.le_trans (Nat.pow_le_pow_right (by decide) (show i ≤ 3 by omega)) (by decide)
  refine ws_seq (ws_par3 (ea_cons (ev_op (ev_var rfl) ev_int (op_ixT rfl)) (ea_cons (ev_call (ea_cons (ev_var rfl) ea_nil) ⟨k, ls, rfl, rfl, b.bk.names, hln⟩) (ea_cons (ev_lst (ea_cons en_dnewK.ev ea_nil) (szb rfl)) ea_nil))) ?_)
  refine ws_seq (ws_forL (js := [5]) (fun i ρ' => ∃ (x5 x6 x7 x8 x9 x10 x11 x12 x13 x14 x15 : Option (Bool × D)), ρ' = [some (false, bkD ls), some (false, iD P'), some (false, .str (kd k)), some (false, nmD (nsOf ls)), some (false, rowsD (rowsB P' ls (nsOf ls) ((nsOf ls).take i))), x5, x6, x7, x8, x9, x10, x11, x12, x13, x14, x15]) (ev_var rfl) ⟨none, none, none, none, none, none, none, none, none, none, none, rfl⟩ ?_ ?_)
  · rintro i d ρ' hd ⟨x5, x6, x7, x8, x9, x10, x11, x12, x13, x14, x15, rfl⟩
    rw [List.getElem?_map, Option.map_eq_some_iff] at hd
    obtain ⟨name, hname, rfl⟩ := hd
    have hil : i < (nsOf ls).length := (List.getElem?_eq_some_iff.mp hname).1
    obtain ⟨sp1, sp2⟩ := ns_split hname
    have nin : name ∉ (nsOf ls).take i := nodup_split nd hname
    have h0 : ∃ n0, (nsOf ls)[0]? = some n0 := ⟨_, List.getElem?_eq_getElem (by omega)⟩
    obtain ⟨n0, hn0⟩ := h0
    have hcnt : cntB P' (nsOf ls) name = if n0 = name then 1 else sizeF P' := by
      unfold cntB
      rw [hn0]
      by_cases e : n0 = name
      · rw [if_pos e, if_pos (congrArg some e)]
      · rw [if_neg e, if_neg fun z => e (Option.some.inj z)]
    have hcl := cntB_le pP (nsOf ls) name
    have hkeys := rowsB_keys (ls := ls) (ns := nsOf ls) pP i (by omega)
    have hcap := cap i (by omega)
    have hcap2 := cap (i + 1) (by omega)
    rw [sp2, rowsB_snoc] at hcap2
    generalize hrows : rowsB P' ls (nsOf ls) ((nsOf ls).take i) = rows at *
    refine wg_name (ws_seq (ws_setN (en_lst ea_nil (szb rfl)) ?_))
    refine ws_seq (ws_forL (js := [7]) (fun a ρ' => ∃ (x7 x8 x9 x10 x11 x12 x13 x14 x15 : Option (Bool × D)), ρ' = [some (false, bkD ls), some (false, iD P'), some (false, .str (kd k)), some (false, nmD (nsOf ls)), some (false, rowsD rows), some (false, .str name), some (true, rowsD ((rows.take a).flatMap fun ws => extB P' ls name ws (cntB P' (nsOf ls) name))), x7, x8, x9, x10, x11, x12, x13, x14, x15]) (ev_var rfl) ⟨x7, x8, x9, x10, x11, x12, x13, x14, x15, rfl⟩ ?_ ?_)
    · rintro a d ρ' hd ⟨x7, x8, x9, x10, x11, x12, x13, x14, x15, rfl⟩
      rw [List.getElem?_map, Option.map_eq_some_iff] at hd
      obtain ⟨ws, hws, rfl⟩ := hd
      have hwm := List.mem_of_getElem? hws
      obtain ⟨k1, k2⟩ := hkeys ws hwm
      have hal : a < rows.length := (List.getElem?_eq_some_iff.mp hws).1
      have htk : rows.take (a + 1) = rows.take a ++ [ws] := by rw [List.take_add_one, hws]; rfl
      have ninw : name ∉ ws.map Prod.fst := by rw [k1]; exact nin
      have hpl : ((rows.take a).flatMap fun ws => extB P' ls name ws (cntB P' (nsOf ls) name)).length ≤ 13824 * 24 := by
        refine Nat.le_trans (flatMap_len fun ws _ => Nat.le_trans (extB_len P' ls _ ws _) (Nat.le_trans hcl hs)) ?_
        refine Nat.mul_le_mul_right _ (Nat.le_trans (List.length_take_le' _ _) hcap)
      have hwl : ws.length ≤ 3 := by
        have := congrArg List.length k1
        rw [List.length_map, List.length_take] at this
        omega
      generalize hprev : ((rows.take a).flatMap fun ws => extB P' ls name ws (cntB P' (nsOf ls) name)) = prev at *
      refine wg_name (ws_forR1 (j := 8) (n := ((cntB P' (nsOf ls) name : Nat) : Int)) (fun t ρ' => ∃ (x8 x9 x10 x11 x12 x13 x14 x15 : Option (Bool × D)), ρ' = [some (false, bkD ls), some (false, iD P'), some (false, .str (kd k)), some (false, nmD (nsOf ls)), some (false, rowsD rows), some (false, .str name), some (true, rowsD (prev ++ extB P' ls name ws t)), some (false, wdD ws), x8, x9, x10, x11, x12, x13, x14, x15])
        (ea_cons (ev_if (et_test (ev_op (ev_var rfl) (ev_op (ev_var rfl) ev_int (op_ixL (atI_nat (i := 0) (by rw [List.getElem?_map, hn0]; rfl)))) op_neS)) (fun h => ?_) fun h => ?_) ea_nil) (by omega) (by omega) ⟨x8, x9, x10, x11, x12, x13, x14, x15, ?_⟩ ?_ ?_)
      · have h : ¬ name = n0 := by simpa using h
        refine ev_is (ev_call (ea_cons (ev_var rfl) (ea_cons (ev_var rfl) ea_nil)) ⟨k, P', rfl, rfl, pP, b.sP.mono (by omega)⟩) ?_
        rw [hcnt, if_neg fun e => h e.symm]
      · have h : name = n0 := by simpa using h
        refine ev_is ev_int ?_
        rw [hcnt, if_pos h.symm]
        rfl
      · show _ = _
        unfold extB
        rw [List.range_zero, List.map_nil, List.filter_nil, List.append_nil]
        rfl
      · rintro t ρ' ht ⟨x8, x9, x10, x11, x12, x13, x14, x15, rfl⟩
        have ht : t < cntB P' (nsOf ls) name := by omega
        have hrt : red P' (ofN k t) := (red_ofN pP t).mpr (by omega)
        have ndv : ((ws ++ [(name, ofN k t)]).map Prod.fst).Nodup := by
          rw [List.map_append, List.nodup_append]
          refine ⟨by rw [k1]; exact (List.take_sublist _ _).nodup nd, List.pairwise_singleton .., fun x hx y hy e => ?_⟩
          have hy : y = name := List.mem_singleton.mp hy
          exact ninw (by rw [← hy, ← e]; exact hx)
        have hvr : ∀ p ∈ ws ++ [(name, ofN k t)], Szr 200 p.2 := fun p hp => by
          rcases List.mem_append.mp hp with z | z
          · exact sz_red (k2 p z) b.sP
          · cases List.mem_singleton.mp z
            exact sz_red hrt b.sP
        refine ws_seq (ws_setN (en_cb (ea_cons (ev_var rfl) ea_nil) ocn_copyD) ?_)
        refine ws_seq (ws_dputK (i := 9) (d := iD (ofN k t)) rfl (ev_is (ev_var rfl) (congrArg D.int (io_ofN k t).symm)) (ev_var rfl) ?_ ?_)
        · have hz := szl (Nat.le_refl 1000000)
          rw [wdM_len]
          omega
        rw [dPut_wd ninw]
        generalize hv : ws ++ [(name, ofN k t)] = v at *
        refine ws_freeze0 (i := 9) rfl ?_
        refine ws_seq (ws_set ev_bl ?_)
        refine ws_seq (ws_forL (js := [11, 12, 13, 14]) (fun u ρ' => ∃ (x11 x12 x13 x14 x15 : Option (Bool × D)), ρ' = [some (false, bkD ls), some (false, iD P'), some (false, .str (kd k)), some (false, nmD (nsOf ls)), some (false, rowsD rows), some (false, .str name), some (true, rowsD (prev ++ extB P' ls name ws t)), some (false, wdD ws), some (false, .int (t : Int)), some (false, wdD v), some (false, .bl ((ls.take u).all (lkB P' name v))), x11, x12, x13, x14, x15])
          (ev_op (ev_var rfl) ev_int (op_ixT rfl)) ⟨x11, x12, x13, x14, x15, rfl⟩ ?_ ?_)
        · rintro u d ρ' hd ⟨x11, x12, x13, x14, x15, rfl⟩
          rw [List.getElem?_map, Option.map_eq_some_iff] at hd
          obtain ⟨l, hl, rfl⟩ := hd
          have hlm := List.mem_of_getElem? hl
          have htu : ls.take (u + 1) = ls.take u ++ [l] := by rw [List.take_add_one, hl]; rfl
          have hall : (ls.take (u + 1)).all (lkB P' name v) = ((ls.take u).all (lkB P' name v) && lkB P' name v l) := by
            rw [htu, List.all_append, List.all_cons, List.all_nil, Bool.and_true]
          refine wg_tup rfl (wgs_cons (wg_name (wgs_cons (wg_name (wgs_cons (wg_name (wgs_cons (wg_name (wgs_nil ?_)))))))))
          refine ws_when (et_and (et_test (ev_op (ev_var rfl) (ev_lst (ea_cons (ev_var rfl) (ea_cons (ev_var rfl) ea_nil)) (szb rfl)) (op_inLS (l := [l.1, l.2.1])))) fun _ => et_and (et_test (ev_dinK (ev_var rfl) (ev_var rfl))) fun _ => et_test (ev_dinK (ev_var rfl) (ev_var rfl))) (fun h => ?_) fun h => ?_
          · rw [wd_some ndv, wd_some ndv, Bool.and_eq_true, Bool.and_eq_true, decide_eq_true_eq, decide_eq_true_eq, decide_eq_true_eq] at h
            obtain ⟨h1, h2, h3⟩ := h
            obtain ⟨p, hp, e1⟩ := List.mem_map.mp h2
            obtain ⟨q, hq, e2⟩ := List.mem_map.mp h3
            have hp' : (l.1, p.2) ∈ v := e1 ▸ hp
            have hq' : (l.2.1, q.2) ∈ v := e2 ▸ hq
            have a1 := asgW_mem ndv hp'
            have a2 := asgW_mem ndv hq'
            have elk : lkB P' name v l = decide (io (rst (q.2 - (p.2 + l.2.2.1)) (byP P' l)) = 0) := by
              unfold lkB
              rw [a1, a2, if_pos]
              exact ⟨by simpa using h1, h2, h3⟩
            have hby : Ps (byP P' l) ∧ Szr 200 (byP P' l) ∧ (0 < io l.2.2.2 → byP P' l = l.2.2.2) ∧ (¬ 0 < io l.2.2.2 → byP P' l = P') := by
              unfold byP
              by_cases z : 0 < io l.2.2.2
              · have pb := ps_of_pos z
                rw [if_pos z]
                exact ⟨pb, sz_dv (b.dv l hlm z) pP pb.cnt b.sP, fun _ => rfl, fun y => absurd z y⟩
              · rw [if_neg z]
                exact ⟨pP, b.sP, fun y => absurd y z, fun _ => rfl⟩
            obtain ⟨b1, b2, b3, b4⟩ := hby
            refine ws_seq (ws_set (ev_call (ea_cons (ev_var rfl) (ea_cons (ev_dgetK (k := .inr l.2.1) rfl (ev_var rfl) (ev_var rfl) (dV_wd ndv hq')) (ea_cons (ev_call (ea_cons (ev_var rfl) (ea_cons (ev_dgetK (k := .inr l.1) rfl (ev_var rfl) (ev_var rfl) (dV_wd ndv hp')) (ea_cons (ev_var rfl) ea_nil))) ⟨k, p.2, l.2.2.1, rfl, rfl⟩) ea_nil))) ⟨k, q.2, p.2 + l.2.2.1, rfl, rfl⟩) ?_)
            refine ws_set (ev_is (ev_andV (ev_var rfl) fun _ => ev_op (ev_call (ea_cons (ev_var rfl) (ea_cons (ev_var rfl) (ea_cons (ev_if (d := iD (byP P' l)) (et_test (ev_op (ev_var rfl) ev_int op_b0)) (fun z => ?_) fun z => ?_) ea_nil))) ⟨k, q.2 - (p.2 + l.2.2.1), byP P' l, rfl, rfl, b1.cnt, b2.mono (by omega), (sz_subR (n := 8001) ((hvr _ hq).mono (by omega)) (sz_addR ((hvr _ hp).mono (by omega)) (b.sz l hlm))).mono (by omega)⟩) ev_int op_eqI) (show _ = D.bl ((ls.take (u + 1)).all (lkB P' name v)) from by rw [hall, elk])) ⟨some (false, .str l.1), some (false, .str l.2.1), some (false, iD l.2.2.1), some (false, iD l.2.2.2), some (false, iD (q.2 - (p.2 + l.2.2.1))), rfl⟩
            · rw [b3 (of_decide_eq_true z)]
              exact ev_var rfl
            · rw [b4 (of_decide_eq_false z)]
              exact ev_var rfl
          · rw [wd_some ndv, wd_some ndv] at h
            have elk : lkB P' name v l = true := by
              unfold lkB
              rw [if_neg]
              rintro ⟨h1, h2, h3⟩
              have h1 : name ∈ [l.1, l.2.1] := by simpa using h1
              rw [decide_eq_true h1, decide_eq_true h2, decide_eq_true h3] at h
              cases h
            refine ⟨some (false, .str l.1), some (false, .str l.2.1), some (false, iD l.2.2.1), some (false, iD l.2.2.2), x15, ?_⟩
            rw [hall, elk, Bool.and_true]
            rfl
        · rintro ρ' ⟨x11, x12, x13, x14, x15, rfl⟩
          rw [List.length_map, List.take_length]
          have hex := extB_succ P' ls name ws t
          rw [hv] at hex
          refine ws_when (et_test (ev_var rfl)) (fun h => ?_) fun h => ?_
          · refine ws_app (i := 6) (d := wdD v) rfl (ev_var rfl) ?_ ⟨some (false, .int (t : Int)), some (false, wdD v), some (false, .bl (ls.all (lkB P' name v))), x11, x12, x13, x14, x15, ?_⟩
            · have hz := szl (Nat.le_refl 1000000)
              have h1 := extB_len P' ls name ws t
              rw [List.length_map, List.length_append]
              omega
            · have e : rowsD (prev ++ extB P' ls name ws t ++ [v]) = .lst ((prev ++ extB P' ls name ws t).map wdD ++ [wdD v]) := congrArg D.lst (by simp)
              rw [hex, if_pos h, ← List.append_assoc, e]
              rfl
          · refine ⟨some (false, .int (t : Int)), some (false, wdD v), some (false, .bl (ls.all (lkB P' name v))), x11, x12, x13, x14, x15, ?_⟩
            rw [hex, if_neg (by rw [h]; decide), List.append_nil]
      · rintro ρ' ⟨x8, x9, x10, x11, x12, x13, x14, x15, rfl⟩
        refine ⟨some (false, wdD ws), x8, x9, x10, x11, x12, x13, x14, x15, ?_⟩
        rw [htk, List.flatMap_append, hprev, Int.toNat_natCast]
        show _ = [_, _, _, _, _, _, some (true, rowsD (prev ++ [ws].flatMap _)), _, _, _, _, _, _, _, _, _]
        rw [List.flatMap_singleton]
    · rintro ρ' ⟨x7, x8, x9, x10, x11, x12, x13, x14, x15, rfl⟩
      rw [List.length_map, List.take_length]
      refine ws_freeze0 (i := 6) rfl (ws_set (ev_var rfl) ⟨some (false, .str name), some (false, rowsD (stepB P' ls (nsOf ls) rows name)), x7, x8, x9, x10, x11, x12, x13, x14, x15, ?_⟩)
      rw [sp2, rowsB_snoc, hrows]
      rfl
  · rintro ρ' ⟨x5, x6, x7, x8, x9, x10, x11, x12, x13, x14, x15, rfl⟩
    rw [List.length_map, List.take_length]
    exact ws_ret (ev_var rfl) rfl

end
end J

/-! ## RuE -/
/-! sorted(rows), rows of ints. -/
namespace J
open PySem PySem.Spec PyProof.Rows L2 PySem.W
def encR (b : V × List Int) : PyData := .list (b.2.map .int)
def rSortedRows (K : PySem.W.Frag) : List V → Hp → VK → Prop := fun vs H Q => ∃ (a : Addr) (bs : List (V × List Int)), vs = [.ref a] ∧ SqL K H a (bs.map (·.1)) ∧ (∀ b ∈ bs, Dp K H b.1 (encR b)) ∧
  ∀ p, H p = none → Q (.ref p) (upd H p (.lst ((bs.mergeSort (fun p q => decide (p.2 ≤ q.2))).map (·.1))))
theorem each_of : ∀ {bs : List (V × List Int)} {its : List Value}, Vals (bs.map (·.1)) its → EachIs (fun v b => RelV b.1 v) its bs
  | [], _, h => by
    cases h
    exact .nil
  | b :: bs, _, h => by
    rw [List.map_cons] at h
    cases h with
    | cons h1 h2 => exact .cons h1 (each_of h2)
theorem vals_each : ∀ {bs : List (V × List Int)} {its : List Value}, EachIs (fun v b => RelV b.1 v) its bs → Vals (bs.map (·.1)) its
  | _, _, .nil => .nil
  | _, _, .cons h1 h2 => .cons h1 (vals_each h2)
theorem each_memR {α β : Type} {R : α → β → Prop} : ∀ {l : List α} {m : List β}, EachIs R l m → EachIs (fun a b => R a b ∧ b ∈ m) l m
  | _, _, .nil => .nil
  | _, _, .cons h t => .cons ⟨h, List.mem_cons_self ..⟩ ((each_memR t).mono fun _ _ ⟨z, w⟩ => ⟨z, List.mem_cons_of_mem _ w⟩)
section
variable {X : Cx} {k : Nat}
theorem cr_sortedRows (hr : Room k X.A) : CallR X (.builtin "sorted") (rSortedRows X.K) := by
  intro pins s σ H vs us Q I r h
  obtain ⟨a, bs, rfl, hs, hx, q⟩ := h
  obtain ⟨its, rv, hl, hz⟩ := I.list hs
  rw [Vals.ref1 r]
  rw [List.length_map] at hz
  have e := each_of rv
  have er : EachIs (fun v b => ∃ as, Reads s.heap v (encR b) as) its bs := (each_memR e).mono fun v b ⟨z, hb⟩ => Dp.reads I _ _ _ (hx b hb) z
  have hle : dataLe false encR = fun (p q : V × List Int) => decide (p.2 ≤ q.2) := dataLe_rows (fun b : V × List Int => b.2)
  refine sorted_data (enc := encR) hl.isList e er (AllAlike.of fun b b' => ?_) (Sortable.others fun b => ⟨(fun z => nomatch z), fun xs z => nomatch z⟩) hz (fun b hb => ?_) fun out ho eo => ?_
  · show alike (.list (b.2.map .int)) (.list (b'.2.map .int)) = true
    unfold alike
    exact alike_ints b.2 b'.2
  · have hd : (encR b).depth ≤ 1 := by
      show (PyData.list (b.2.map .int)).depth ≤ 1
      unfold PyData.depth
      rw [depth_ints]
      exact Nat.le_refl _
    have := hr.un
    omega
  · rw [hle] at eo
    obtain ⟨ep, he'⟩ := PyProof.Rows.sortedAll_at s.heap its out.toArray
    have hlen : ((bs.mergeSort (fun p q => decide (p.2 ≤ q.2))).map (·.1)).length ≤ sizeLine := by
      rw [List.length_map, List.length_mergeSort]
      exact hz
    exact ⟨.ref _, upd H (s.heap.objs.size + 1) (.lst _), I.laid (t' := s.toks) (fun _ _ => PyProof.Rows.sortedAll_old) (Nat.le_succ _) ⟨hlen, out, ep, vals_each eo, he'⟩, rfl, q _ (I.hok.fresh (Nat.le_succ _))⟩
end
/-! on data -/
theorem merge_map {α β : Type} {f : α → β} {le : α → α → Bool} {le' : β → β → Bool} (h : ∀ a b, le a b = le' (f a) (f b)) (l : List α) : (l.mergeSort le).map f = (l.map f).mergeSort le' := by
  exact List.map_mergeSort fun a _ b _ => h a b
theorem split_rows {K : PySem.W.Frag} {Hs : Hp} : ∀ {xss : List (List Int)} {vs : List V}, RpL K Hs vs (xss.map fun xs => D.lst (xs.map D.int)) → ∃ bs : List (V × List Int), bs.map (·.1) = vs ∧ bs.map (·.2) = xss ∧ ∀ b ∈ bs, Rp K Hs b.1 (.lst (b.2.map D.int))
  | [], _, h => by
    cases h
    exact ⟨[], rfl, rfl, fun _ h => nomatch h⟩
  | xs :: xss, _, h => by
    rw [List.map_cons] at h
    cases h with
    | cons h1 h2 =>
      obtain ⟨bs, e1, e2, e3⟩ := split_rows h2
      refine ⟨(_, xs) :: bs, by rw [List.map_cons, e1], by rw [List.map_cons, e2], fun b hb => ?_⟩
      rcases List.mem_cons.mp hb with e | e
      · rw [e]; exact h1
      · exact e3 b e
theorem rpL_rows {K : PySem.W.Frag} {Hs : Hp} : ∀ {bs : List (V × List Int)}, (∀ b ∈ bs, Rp K Hs b.1 (.lst (b.2.map D.int))) → RpL K Hs (bs.map (·.1)) ((bs.map (·.2)).map fun xs => D.lst (xs.map D.int))
  | [], _ => .nil
  | b :: bs, h => .cons (h b (List.mem_cons_self ..)) (rpL_rows fun c hc => h c (List.mem_cons_of_mem _ hc))
theorem ocn_rows {K : PySem.W.Frag} {xss : List (List Int)} : OpCN K (rSortedRows K) [.lst (xss.map fun xs => D.lst (xs.map D.int))] (.lst ((xss.mergeSort fun p q => decide (p ≤ q)).map fun xs => D.lst (xs.map D.int))) := fun Hs H vs Q e rs q => by
  cases rs with
  | cons r1 rs =>
    cases rs
    obtain ⟨a, ws, rfl, ha, rl⟩ := r1.lst_inv
    obtain ⟨bs, rfl, rfl, hb⟩ := split_rows rl
    refine ⟨a, bs, rfl, SqL.of (e _ _ ha), fun b hm => ?_, fun p hp => ?_⟩
    · have h1 := (hb b hm).dp e (pl_ints b.2)
      have e2 : toP (.lst (b.2.map D.int)) = encR b := by
        unfold toP encR
        rw [toPs_int]
      rw [e2] at h1
      exact h1
    · refine q p Hs _ (.newM e hp) hp (.lst (ex_free e hp) upd_same ?_)
      have h1 := rpL_rows (bs := bs.mergeSort fun p q => decide (p.2 ≤ q.2)) fun b hm => hb b (List.mem_mergeSort.mp hm)
      have h2 : (bs.mergeSort fun p q => decide (p.2 ≤ q.2)).map (·.2) = (bs.map (·.2)).mergeSort fun p q => decide (p ≤ q) := merge_map (f := Prod.snd) (le := fun p q => decide (p.2 ≤ q.2)) (le' := fun p q => decide (p ≤ q)) (fun a b => rfl) bs
      rw [h2] at h1
      exact h1
end J

/-! ## V6 -/
/-! The law's rows, all of them. -/
namespace J
open PySem PySem.Spec PyProof.Rows L2 Q
open KR
open Evl (ex_rd ex_l ex_t)
section
variable {k : Kd}
def moveB (P : Rk k) (ns : List Str) (ws : List (Str × Rk k)) (m : Nat) : List (Rk k) := ns.map fun n => rst (asgW ws n + ofN k m) P
def foundB (P : Rk k) (ns : List Str) (rows : List (List (Str × Rk k))) : List (List (Rk k)) := rows.flatMap fun ws => (List.range (sizeF P)).map (moveB P ns ws)
def allI (P : Rk k) (ls : List (Ln Str (Rk k))) : List (List Int) := if nsOf ls = [] then [[]] else ((foundB P (nsOf ls) (rowsB P ls (nsOf ls) (nsOf ls))).map fun xs => xs.map io).mergeSort fun p q => decide (p ≤ q)
/-- rows of ints, as data -/
def rwsD (xss : List (List Int)) : D := .lst (xss.map fun xs => D.lst (xs.map D.int))
theorem rwsD_rw (xss : List (List (Rk k))) : D.lst (xss.map rwD) = rwsD (xss.map fun xs => xs.map io) := by
  unfold rwsD rwD
  rw [List.map_map]
  refine congrArg D.lst (List.map_congr_left fun xs _ => ?_)
  show _ = D.lst ((xs.map io).map D.int)
  rw [List.map_map]
  rfl
end
section
variable {P : Program} {w : World} {K : PySem.W.Frag} {mg : Str → Option Value} {base : Heap}
def f_law_all : List D → D → Prop := fun ds d => ∃ (k : Kd) (P : Rk k) (ls : List (Ln Str (Rk k))), ds = [bkD ls, iD P] ∧ d = rwsD (allI P ls) ∧ BkP P ls ∧ sizeF P ≤ 24 ∧ (nsOf ls).length ≤ 3
theorem s_law_all : FnScope [("_law_book_here" : Str), ("_law_period_here" : Str), ("_law_names_here" : Str), ("_law_found" : Str), ("_law_row" : Str), ("_law_move" : Str), ("_law_name" : Str)] ["_law_book_here", "_law_period_here"] (defScope (Hd.top 98)) := ⟨rfl, rfl, rfl, by decide +kernel, rfl, by decide +kernel, by decide +kernel⟩
theorem c_law_all (T : Tx K mg) (k : Nat) : Cal P w K mg base (k + 3) "_law_all" (spD K f_law_all) := by
  have c_law_rows := c_law_rows (P := P) (w := w) (base := base) T k
  have c_law_names := c_law_names (P := P) (w := w) (base := base) T k
  have c_law_size := c_law_size (P := P) (w := w) (base := base) T k
  have c_law_rest := c_law_rest (P := P) (w := w) (base := base) T k
  have c_law_plus := c_law_plus (P := P) (w := w) (base := base) T k
  have sc := s_law_all
  refine cal_of (k := k + 2) T 69 69 rfl rfl s_law_all (fun _ _ _ _ _ _ us hl => match us, hl with | [_, _], _ => rfl) (fun vs H Q E h => spD_len h (n := 2) (by rintro _ _ ⟨k, P', ls, rfl, rfl, b, hs, hn⟩; rfl)) fun cdv A outer s H vs Q E hr h => ⟨_, PSs.nox (pss_cons (ps_par (i := 2) (j := 3) (by rfl) sc.nd rfl rfl (by decide) rfl rfl (pa_cons (pe_c c_law_names hr (by omega) (by rfl) (pa_cons (pv 0) pa_nil)) (pa_cons (pe_lst pa_nil) pa_nil)) (by rfl)) (pss_cons (ps_for PassesOwn.never rfl (pi_list (pe_c c_law_rows hr (by omega) (by rfl) (pa_cons (pv 0) (pa_cons (pv 1) pa_nil)))) (pg_name (i := 4) sc.nd rfl (Or.inr rfl)) (pss_one (ps_for PassesOwn.never rfl (pi_range1 (by rfl) (T.fr 85 rfl) (pa_cons (pe_c c_law_size hr (by omega) (by rfl) (pa_cons (pe_ix ix_tup (pv 0) pe_int (fun _ _ => rfl)) (pa_cons (pv 1) pa_nil))) pa_nil)) (pg_name (i := 5) sc.nd rfl (Or.inr rfl)) (pss_one (ps_expr (pe_bm PySem.F.plainAttrs_list PySem.F.slot_list_append PySem.F.type_list_append mt_append (pv 3) (pa_cons (pe_lc (own := [(("_law_name" : Str), 6)]) (g := gName 6) rfl sc.nd  (pi_list (pv 2)) (blkOk_by (own := [(("_law_name" : Str), 6)]) (N := [("_law_book_here" : Str), ("_law_period_here" : Str), ("_law_names_here" : Str), ("_law_found" : Str), ("_law_row" : Str), ("_law_move" : Str), ("_law_name" : Str)]) (sc := defScope (Hd.top 98)) (by decide +kernel)) (fun _ _ _ _ _ => (pg_name (i := 6) sc.nd rfl (Or.inl rfl))) (fun _ _ _ _ _ => pts_nil) (fun _ _ _ _ _ => (pe_c c_law_rest hr (by omega) (by rfl) (pa_cons (pe_ix (show IxR _ (rIxT K) from ix_tup) (pv 0) pe_int (fun _ _ => rfl)) (pa_cons (pe_c c_law_plus hr (by omega) (by rfl) (pa_cons (pe_ix (show IxR _ (rIxT K) from ix_tup) (pv 0) pe_int (fun _ _ => rfl)) (pa_cons (pe_dget (hu_of hr) (pv 4) (pv 6) (fun _ _ => rfl)) (pa_cons (pv 5) pa_nil)))) (pa_cons (pv 1) pa_nil)))))) pa_nil))))))) (pss_one (ps_ret (pe_ifExp (pt_cmpR (op_neD hr.units) (pv 2) (pe_lst pa_nil) (nomark _)) (pe_callB (cr_sortedRows hr) (by rfl) (T.fr 88 rfl) (by decide +kernel) (pa_cons (pv 3) pa_nil)) (pe_lst (pa_cons (pe_lst pa_nil) pa_nil))))))), spD_run h ?_⟩
  clear h
  rintro ds d ⟨k, P', ls, rfl, rfl, b, hs, hn⟩
  show WS K none _ [some (false, _), some (false, _), none, none, none, none, none] _ _
  have pP := b.pP
  have hln := b.bk.ln
  have nd := nsOf_nd ls
  have cap : (rowsB P' ls (nsOf ls) (nsOf ls)).length ≤ 13824 := by
    have h := rowsB_len (ls := ls) (ns := nsOf ls) pP hs (nsOf ls).length (Nat.le_refl _)
    rw [List.take_length] at h
    refine Nat.le_trans h ?_
    exact Nat.le_trans (Nat.pow_le_pow_right (by decide) hn) (by decide)
  have hkeys := rowsB_keys (ls := ls) (ns := nsOf ls) pP (nsOf ls).length (Nat.le_refl _)
  rw [List.take_length] at hkeys
  refine ws_seq (ws_parN (by decide) (.inl rfl) lays_lst (we_ev (ev_call (ea_cons (ev_var rfl) ea_nil) ⟨k, ls, rfl, rfl, b.bk.names, hln⟩) ?_))
  generalize hrows : rowsB P' ls (nsOf ls) (nsOf ls) = rows at *
  have flen : ∀ a, (foundB P' (nsOf ls) (rows.take a)).length ≤ 331776 := fun a => by
    unfold foundB
    refine Nat.le_trans (flatMap_len (n := 24) fun ws _ => ?_) ?_
    · rw [List.length_map, List.length_range]
      exact hs
    · have : (rows.take a).length ≤ rows.length := List.length_take_le' _ _
      omega
  refine ws_seq (ws_forL (js := [4]) (fun a ρ' => ∃ (x4 x5 x6 : Option (Bool × D)), ρ' = [some (false, bkD ls), some (false, iD P'), some (false, nmD (nsOf ls)), some (true, .lst ((foundB P' (nsOf ls) (rows.take a)).map rwD)), x4, x5, x6]) (ev_is (ev_call (ea_cons (ev_var rfl) (ea_cons (ev_var rfl) ea_nil)) ⟨k, P', ls, rfl, rfl, b, hs, hn⟩) (show _ = D.lst (rows.map wdD) from by rw [hrows]; rfl)) ⟨none, none, none, rfl⟩ ?_ ?_)
  · rintro a d ρ' hd ⟨x4, x5, x6, rfl⟩
    rw [List.getElem?_map, Option.map_eq_some_iff] at hd
    obtain ⟨ws, hws, rfl⟩ := hd
    have hwm := List.mem_of_getElem? hws
    obtain ⟨k1, k2⟩ := hkeys ws hwm
    have ndw : (ws.map Prod.fst).Nodup := by rw [k1]; exact nd
    have htk : rows.take (a + 1) = rows.take a ++ [ws] := by rw [List.take_add_one, hws]; rfl
    have hfl := flen a
    generalize hprev : foundB P' (nsOf ls) (rows.take a) = prev at *
    refine wg_name (ws_forR1 (j := 5) (n := ((sizeF P' : Nat) : Int)) (fun t ρ' => ∃ (x5 x6 : Option (Bool × D)), ρ' = [some (false, bkD ls), some (false, iD P'), some (false, nmD (nsOf ls)), some (true, .lst ((prev ++ (List.range t).map (moveB P' (nsOf ls) ws)).map rwD)), some (false, wdD ws), x5, x6])
      (ea_cons (ev_call (ea_cons (ev_op (ev_var rfl) ev_int (op_ixT rfl)) (ea_cons (ev_var rfl) ea_nil)) ⟨k, P', rfl, rfl, pP, b.sP.mono (by omega)⟩) ea_nil) (by omega) (by omega) ⟨x5, x6, ?_⟩ ?_ ?_)
    · rw [List.range_zero, List.map_nil, List.append_nil]
      rfl
    · rintro t ρ' ht ⟨x5, x6, rfl⟩
      have ht : t < sizeF P' := by omega
      have hrt : red P' (ofN k t) := (red_ofN pP t).mpr ht
      refine ws_app (i := 3) (d := rwD (moveB P' (nsOf ls) ws t)) rfl (ev_is (en_lcL (js := [6]) (fun _ => true) (fun d => match d with | .str s => iD (rst (asgW ws s + ofN k t) P') | _ => .non) (ev_var rfl) (len_szl (by rw [List.length_map]; omega)) (by decide) fun d hd => ?_).ev ?_) ?_ ⟨some (false, .int (t : Int)), x6, ?_⟩
      · obtain ⟨n, hm, rfl⟩ := List.mem_map.mp hd
        have hm' : n ∈ ws.map Prod.fst := by rw [k1]; exact hm
        obtain ⟨p, hp, rfl⟩ := List.mem_map.mp hm'
        have ea := asgW_mem (x := p.2) ndw hp
        have sx : Szr 200 p.2 := sz_red (k2 p hp) b.sP
        refine wg_name ⟨et_yes, fun _ => ev_is (ev_call (ea_cons (ev_op (ev_var rfl) ev_int (op_ixT rfl)) (ea_cons (ev_call (ea_cons (ev_op (ev_var rfl) ev_int (op_ixT rfl)) (ea_cons (ev_dgetK (k := .inr p.1) rfl (ev_var rfl) (ev_var rfl) (dV_wd ndw hp)) (ea_cons (ev_is (ev_var rfl) (congrArg D.int (io_ofN k t).symm)) ea_nil))) ⟨k, p.2, ofN k t, rfl, rfl⟩) (ea_cons (ev_var rfl) ea_nil))) ⟨k, p.2 + ofN k t, P', rfl, rfl, pP.cnt, b.sP.mono (by omega), (sz_addR sx (sz_red hrt b.sP)).mono (by omega)⟩) ?_⟩
        show _ = iD (rst (asgW ws p.1 + ofN k t) P')
        rw [ea]
      · rw [pick_all, List.map_map]
        unfold rwD moveB
        rw [List.map_map]
        rfl
      · have hz := szl (Nat.le_refl 1000000)
        rw [List.length_map, List.length_append, List.length_map, List.length_range]
        omega
      · have e : D.lst ((prev ++ (List.range (t + 1)).map (moveB P' (nsOf ls) ws)).map rwD) = D.lst ((prev ++ (List.range t).map (moveB P' (nsOf ls) ws)).map rwD ++ [rwD (moveB P' (nsOf ls) ws t)]) := by
          rw [List.range_succ]
          exact congrArg D.lst (by simp)
        rw [e]
        rfl
    · rintro ρ' ⟨x5, x6, rfl⟩
      refine ⟨some (false, wdD ws), x5, x6, ?_⟩
      have e : foundB P' (nsOf ls) (rows.take (a + 1)) = prev ++ (List.range (sizeF P')).map (moveB P' (nsOf ls) ws) := by
        rw [htk, ← hprev]
        unfold foundB
        rw [List.flatMap_append, List.flatMap_singleton]
      rw [e, Int.toNat_natCast]
  · rintro ρ' ⟨x4, x5, x6, rfl⟩
    rw [List.length_map, List.take_length]
    have hfin : allI P' ls = if nsOf ls = [] then [[]] else ((foundB P' (nsOf ls) rows).map fun xs => xs.map io).mergeSort fun p q => decide (p ≤ q) := by
      unfold allI
      rw [hrows]
    rw [hfin]
    refine ws_freeze0 (i := 3) rfl (ws_ret (ev_if (et_test (ev_op (ev_var rfl) (ev_lst ea_nil (szb rfl)) (op_neLS (m := []) (fun s h => names_strOk s (mem_namesOf.mp h).1) (fun s h => nomatch h)))) (fun h => ?_) fun h => ?_) rfl)
    · have h : ¬ nsOf ls = [] := by simpa using h
      rw [if_neg h]
      exact (en_cb (ea_cons (ev_is (ev_var rfl) (rwsD_rw _)) ea_nil) ocn_rows).ev
    · have h : nsOf ls = [] := by simpa using h
      rw [if_pos h]
      exact ev_lst (ea_cons (ev_lst ea_nil (szb rfl)) ea_nil) (szb rfl)

end
end J

/-! ## Gd -/
/-! Defs that are called where no repr is under way (repr of lists asks for that). The lines of HandS's own calls, turned to that premise. -/
namespace J
open PySem PySem.Spec PyProof.Rows L2
theorem deeper_guards (A : Around) (env : PySem.Env) : (A.deeper env).guards = A.guards := rfl
/-- a def that keeps its promise where no repr is under way -/
structure FnG (P : Program) (w : World) (K : PySem.W.Frag) (mg : Str → Option Value) (base : Heap) (CX : CXT) (k : Nat) (f : Addr) (fd : FuncData) (ps : List Str) (sp : Sp) : Prop where
  len : ∀ vs H Q E, sp vs H Q E → vs.length = ps.length
  run : ∀ (A : Around) (outer : List PySem.Env) (s : Shared) (H : Hp) (args : Args) (us : List Value) (vs : List V) (Q : VK) (E : XK), A.guards = some [] → Room k A → Env0 P w K mg base A outer s H → BindsTo s fd args (ps.zip us) → Vals vs us → sp vs H Q E →
    codeAny (model P w) A (.call (.ref f) args) (CR CX outer P w H s Q E) s
section
variable {CX : CXT} {P : Program} {w : World} {K : PySem.W.Frag} {mg : Str → Option Value} {base : Heap} {k : Nat} {f : Addr} {x qual : Str} {params : Arguments} {body : List Stmt} {scope : Scope} {dvs : List (Str × V)} {fd : FuncData} {N ps : List Str} {sp : Sp}
theorem fng_of {kws dvs} (F : FunD K x qual params body scope dvs kws f fd) (S : FnScope N ps scope) (len : ∀ vs H Q E, sp vs H Q E → vs.length = ps.length)
    (hbody : ∀ (cdv : Value) (A : Around) (outer : List PySem.Env) (s : Shared) (H : Hp) (vs : List V) (Q : VK) (E : XK), (A.deeper (envOfC qual scope s.heap.objs.size f cdv)).guards = some [] → Room k (A.deeper (envOfC qual scope s.heap.objs.size f cdv)) → sp vs H Q E →
      ∃ t, PSs (cxOf CX P w K mg base N qual scope f cdv A outer s H E) body t ∧ t { nx := fun _ H' => Q .non H', rt := Q } (L2.start N vs) H) : FnG P w K mg base CX (k + 1) f fd ps sp := by
  obtain ⟨oc, od, dV, kV, doc, pm, an, cdv, ct, osl, rfl, lk, hcd, _, _⟩ := F.ex
  refine ⟨len, fun A outer s H args us vs Q E hg hr e0 hb r hsp => ?_⟩
  have KX : K.In s.heap := e0.mod.kin.keeps fun b o e => (e0.bs b o e).1
  have lim : s.heap.NoLimit := e0.mod.nolimit.keeps fun b o e => (e0.bs b o e).1
  refine codeAny_call_function hr.depth (KX _ _ lk) rfl S.co S.gen rfl (PySem.W.codeRec_of KX hcd) (hb _ _ _ _ ?_)
  refine wpAny_newFunctionEnv_cells S.kind (fun ⟨n, v⟩ hy => ?_) fun env he s1 y => ?_
  · rcases S.par n (List.of_mem_zip hy).1 with q | q
    · exact .inl q
    · exact .inr ⟨q, PySem.W.cellsFrom_some _ _ _ (.inl q)⟩
  · subst he
    refine ⟨lim.keeps y.toInCall.keep, codeAny_func ?_⟩
    obtain ⟨t, ht, hq⟩ := hbody cdv A outer s H vs Q E hg (hr.deeper _) hsp
    have I : Inv (cxOf CX P w K mg base N qual scope f cdv A outer s H E) [] (L2.start N vs) H s1 := inv_start S hr.hd e0 (len _ _ _ _ hsp) r y
    refine wpAny_mono (ht.run [] s1 (L2.start N vs) H _ I hq) (fun fl s' hs => ?_) fun e s' hs => hs
    cases fl with
    | ret u =>
      obtain ⟨v, σ', H', J, rv, q⟩ := hs
      exact ⟨v, H', J.os, J.bare, J.base, J.hok, rv, q⟩
    | next =>
      obtain ⟨σ', H', J, q⟩ := hs
      exact ⟨V.non, H', J.os, J.bare, J.base, J.hok, rfl, q⟩
    | brk =>
      obtain ⟨_, _, _, q⟩ := hs
      exact False.elim q
    | cont =>
      obtain ⟨_, _, _, q⟩ := hs
      exact False.elim q
end
structure CalG (P : Program) (w : World) (K : PySem.W.Frag) (mg : Str → Option Value) (base : Heap) (k : Nat) (x : Str) (sp : Sp) : Prop where
  ex : ∃ (f : Addr) (fd : FuncData) (ps : List Str), FnG P w K mg base CX0 k f fd ps sp ∧ mg x = some (.ref f) ∧ PySem.W.keepIn K (.ref f) = true ∧ Binds K fd ps []
section
variable {X : Cx} {k j : Nat} {x : Str} {sp : Sp} {p pos : Pos} {e : Expr} {es : List Expr} {t : TA}
theorem pe_cG (c : CalG X.prog X.w X.K X.mg X.base k x sp) (hgd : X.A.guards = some []) (hr : Room j X.A) (hk : k ≤ j) (hg : Gl X x) (ha : PA X (e :: es) t)
    (hdb : (x == ("__debug__" : Str)) = false := by decide) (he : starEach (e :: es) X.env = (false, eval e X.env) :: starEach es X.env := by rfl) (hpl : (backTo pos (starEach es X.env)).any (·.1) = false := by rfl) :
    PE X (.Call (.Name x p) (e :: es) [] pos) (tCall sp [] E0 t) := by
  obtain ⟨f, fd, ps, F, hm, kp, b⟩ := c.ex
  refine ⟨fun pins s σ H Q I h => ?_⟩
  refine wpAny_Call_Name_kw (ld_glob I hg hm ?_ hdb)
  refine PySem.W.callWith_K (h₀ := X.base) I.ok.mod.kin kp (thn (ha.run pos pins s σ H _ I h) fun us s1 ⟨vs, H1, I1, r, q⟩ => ⟨I1.kIn, ?_⟩) he hpl
  have r2 : Vals (vs ++ []) (us ++ []) := r.append .nil
  have hl : (us ++ []).length = ps.length := by rw [← r2.length]; exact F.len _ _ _ _ q
  refine wpAny_call (codeAny_mono (F.run X.A X.stack s1 H1 ⟨us, []⟩ (us ++ []) (vs ++ []) Q E0 hgd (hr.mono hk) I1.env0 (b s1 us I1.kIn hl) r2 q) fun r s' hq => ?_)
  cases r with
  | error e => exact pass0 pins σ H1 s1 e s' I1 hq
  | ok fl =>
    cases fl with
    | ret u => exact I1.after hq
    | next => exact False.elim hq
    | brk => exact False.elim hq
    | cont => exact False.elim hq
end
section
variable {P : Program} {w : World} {K : PySem.W.Frag} {mg : Str → Option Value} {base : Heap}
theorem calG_of (T : Tx K mg) (i g : Nat) {j k : Nat} {x : Str} {N ps : List Str} {sp : Sp} (hi : Hd.fn[i]? = some (Hd.dd x j)) (hg : Hd.fa[g]? = some (.glo x)) (S : FnScope N ps (defScope (Hd.top j))) (hb : BindsBy j x ps)
    (len : ∀ vs H Q E, sp vs H Q E → vs.length = ps.length)
    (hbody : ∀ (cdv : Value) (A : Around) (outer : List PySem.Env) (s : Shared) (H : Hp) (vs : List V) (Q : VK) (E : XK), (A.deeper (envOfC x (defScope (Hd.top j)) s.heap.objs.size (He.ga K x) cdv)).guards = some [] → Room k (A.deeper (envOfC x (defScope (Hd.top j)) s.heap.objs.size (He.ga K x) cdv)) → sp vs H Q E →
      ∃ t, PSs (cxOf CX0 P w K mg base N x (defScope (Hd.top j)) (He.ga K x) cdv A outer s H E).nox (defBody (Hd.top j)) t ∧ t { nx := fun _ H' => Q .non H', rt := Q } (L2.start N vs) H) :
    ∃ fd, FnG P w K mg base CX0 (k + 1) (He.ga K x) fd ps sp ∧ (mg x = some (.ref (He.ga K x)) ∧ PySem.W.keepIn K (.ref (He.ga K x)) = true ∧ Binds K fd ps []) ∧ FunD K x x (defArgs (Hd.top j)) (defBody (Hd.top j)) (defScope (Hd.top j)) [] [] (He.ga K x) fd := by
  obtain ⟨fd, F⟩ := T.df i hi
  have F' : FunD K x x (defArgs (Hd.top j)) (defBody (Hd.top j)) (defScope (Hd.top j)) [] [] (He.ga K x) fd := F
  refine ⟨fd, fng_of F' S len fun cdv A outer s H vs Q E hg hr h => ?_, ⟨T.gl g hg, F'.kp, F'.bindsN hb⟩, F'⟩
  obtain ⟨t, h1, h2⟩ := hbody cdv A outer s H vs Q E hg hr h
  exact ⟨t, h1.nox, h2⟩
end
/-! repr of data -/
def rReprD (K : PySem.W.Frag) : List V → Hp → VK → Prop := fun xs H Q => ∃ (v : V) (d : PyData), xs = [v] ∧ Dp K H v d ∧ d.showable = true ∧ d.hasDict = false ∧ d.depth ≤ 60 ∧ d.shown.length ≤ sizeLine ∧ ((∃ i, v = .int i ∧ i.natAbs.log2 < 1920) ∨ v = .non ∨ ∃ a, v = .ref a) ∧ Q (.str d.shown) H
section
variable {X : Cx} {k : Nat}
theorem call_reprD (hg : X.A.guards = some []) (hr : Room k X.A) : CallR X (.builtin "repr") (rReprD X.K) := by
  intro pins s σ H xs us Q I r h
  obtain ⟨v, d, rfl, hd, h1, h2, h3, h4, hv, q⟩ := h
  obtain ⟨u, rfl, ru⟩ := vals1 r
  rcases hv with ⟨i, rfl, hi⟩ | rfl | ⟨a, rfl⟩
  · cases hd
    obtain ⟨t, rfl⟩ := (show ∃ t, u = Value.int i t from ru)
    exact PySem.P.repr_of_int hi ⟨.str _, H, I.tok _, ⟨_, rfl⟩, q⟩
  · cases hd
    cases ru
    exact PySem.P.repr_of_none ⟨.str _, H, I.tok _, ⟨_, rfl⟩, q⟩
  · obtain ⟨as, rd⟩ := Dp.reads I _ _ _ hd ru
    cases ru
    have := hr.un
    refine repr_of_reads' rd h1 (fun z => by rw [h2] at z; cases z) hg (by omega) (fun _ _ e => e) (fun h' u tk hk => ⟨.str d.shown, H, ?_, ⟨_, rfl⟩, q⟩) h4
    exact I.kept (t' := tk) hk
end
end J

/-! ## Pl -/
/-! The rows that the law finds by trying are the rows by number. -/
namespace J
open PySem PySem.Spec PyProof.Rows L2 Q
open KR
section
variable {k : Kd} {P : Rk k} {ls : List (Ln Str (Rk k))}
def KeepW (P : Rk k) (ls : List (Ln Str (Rk k))) (f : Str → Rk k) : Prop := ∀ l ∈ ls, Cg (byP P l) (f l.2.1 - f l.1) l.2.2.1
theorem byP_dv (b : BkP P ls) {l : Ln Str (Rk k)} (h : l ∈ ls) : Dv (byP P l) P ∧ Ps (byP P l) := by
  unfold byP
  by_cases z : 0 < io l.2.2.2
  · rw [if_pos z]
    exact ⟨b.dv l h z, ps_of_pos z⟩
  · rw [if_neg z]
    exact ⟨Dv.refl P, b.pP⟩
theorem keepW_iff (b : BkP P ls) {f : Str → Rk k} : (∀ l ∈ byRests P ls, keepsL l f) ↔ KeepW P ls f := by
  unfold byRests
  constructor
  · intro h l hl
    have h1 := h _ (List.mem_map_of_mem (f := fun l : Ln Str (Rk k) => if 0 < io l.2.2.2 then l else (l.1, l.2.1, rst l.2.2.1 P, P)) hl)
    unfold byP
    by_cases z : 0 < io l.2.2.2
    · rw [if_pos z] at h1 ⊢
      exact h1
    · rw [if_neg z] at h1 ⊢
      have h2 : Cg P (f l.2.1 - f l.1) (rst l.2.2.1 P) := h1
      exact h2.trans (rst_cg b.pP)
  · intro h l' hl'
    obtain ⟨l, hl, rfl⟩ := List.mem_map.mp hl'
    have h1 := h l hl
    unfold byP at h1
    by_cases z : 0 < io l.2.2.2
    · rw [if_pos z] at h1 ⊢
      exact h1
    · rw [if_neg z] at h1 ⊢
      show Cg P (f l.2.1 - f l.1) (rst l.2.2.1 P)
      exact h1.trans (rst_cg b.pP).symm
theorem cg_eq {m x y x' y' : Rk k} (h : Cg m x y) (e : x' = x) (e' : y' = y) : Cg m x' y' := e ▸ e' ▸ h
theorem keepW_move (b : BkP P ls) {f g : Str → Rk k} (c : Rk k) (h : KeepW P ls f) (hg : ∀ l ∈ ls, Cg P (g l.1) (f l.1 + c) ∧ Cg P (g l.2.1) (f l.2.1 + c)) : KeepW P ls g := fun l hl => by
  obtain ⟨h1, h2⟩ := hg l hl
  obtain ⟨d1, _⟩ := byP_dv b hl
  have h3 := (h2.dv d1).add (h1.dv d1).neg
  exact (cg_eq h3 (by grind) (show f l.2.1 - f l.1 = f l.2.1 + c + -(f l.1 + c) from by grind)).trans (h l hl)
theorem ofN_zero : ofN k 0 = 0 := io_inj (by rw [io_ofN, io_zero]; rfl)
def InR (P : Rk k) (ls : List (Ln Str (Rk k))) (ns : List Str) (i : Nat) (ws : List (Str × Rk k)) : Prop :=
  ws.map Prod.fst = ns.take i ∧ (∀ p ∈ ws, red P p.2) ∧ (∀ p, ws[0]? = some p → p.2 = 0) ∧ ∀ l ∈ ls, l.1 ∈ ws.map Prod.fst → l.2.1 ∈ ws.map Prod.fst → Cg (byP P l) (asgW ws l.2.1 - asgW ws l.1) l.2.2.1
theorem asgW_app {u : List (Str × Rk k)} {n s : Str} {x : Rk k} (nd : ((u ++ [(n, x)]).map Prod.fst).Nodup) (h : s ∈ u.map Prod.fst) : asgW (u ++ [(n, x)]) s = asgW u s := by
  obtain ⟨p, hp, rfl⟩ := List.mem_map.mp h
  have ndu : (u.map Prod.fst).Nodup := by
    rw [List.map_append] at nd
    exact (List.nodup_append.mp nd).1
  rw [asgW_mem (x := p.2) nd (List.mem_append_left _ hp), asgW_mem (x := p.2) ndu hp]
theorem rowsB_iff {ns : List Str} (b : BkP P ls) (nd : ns.Nodup) : ∀ (i : Nat), i ≤ ns.length → ∀ ws, ws ∈ rowsB P ls ns (ns.take i) ↔ InR P ls ns i ws
  | 0, _, ws => by
    constructor
    · intro h
      have h' : ws ∈ ([[]] : List (List (Str × Rk k))) := h
      cases List.mem_singleton.mp h'
      exact ⟨rfl, (fun _ h => nomatch h), (fun _ h => nomatch h), fun l _ h => nomatch h⟩
    · rintro ⟨h, _⟩
      have : ws = [] := List.map_eq_nil_iff.mp h
      rw [this]
      exact List.mem_singleton.mpr rfl
  | i + 1, hi, ws => by
    have pP := b.pP
    have hn : ns[i]? = some ns[i] := List.getElem?_eq_getElem (by omega)
    obtain ⟨_, e⟩ := ns_split hn
    have nin := nodup_split nd hn
    generalize ns[i] = n at *
    have ndi : (ns.take i ++ [n]).Nodup := e ▸ (List.take_sublist _ _).nodup nd
    have ih := rowsB_iff b nd i (by omega)
    rw [e, rowsB_snoc]
    unfold stepB
    rw [List.mem_flatMap]
    constructor
    · rintro ⟨u, hu, hv⟩
      obtain ⟨j, hj, rfl, hlk⟩ := extB_mem.mp hv
      obtain ⟨u1, u2, u3, u4⟩ := (ih u).mp hu
      have hm : (u ++ [(n, ofN k j)]).map Prod.fst = ns.take i ++ [n] := by rw [List.map_append, u1]; rfl
      have ndv : ((u ++ [(n, ofN k j)]).map Prod.fst).Nodup := by rw [hm]; exact ndi
      refine ⟨by rw [hm, e], fun p hp => ?_, fun p hp => ?_, fun l hl h1 h2 => ?_⟩
      · rcases List.mem_append.mp hp with z | z
        · exact u2 p z
        · cases List.mem_singleton.mp z
          exact (red_ofN pP j).mpr (Nat.lt_of_lt_of_le hj (cntB_le pP _ _))
      · cases u with
        | nil =>
          have i0 : i = 0 := by
            have := congrArg List.length u1
            rw [List.length_map, List.length_take] at this
            simp at this
            omega
          subst i0
          have hp : some (n, ofN k j) = some p := hp
          cases hp
          unfold cntB at hj
          rw [if_pos hn] at hj
          have : j = 0 := by omega
          rw [this]
          exact ofN_zero
        | cons q u => exact u3 p hp
      · by_cases z : n = l.1 ∨ n = l.2.1
        · have h3 := hlk l hl
          unfold lkB at h3
          rw [if_pos ⟨z, h1, h2⟩] at h3
          exact cg_sub.mp ((io_cg (byP_dv b hl).2).mp (of_decide_eq_true h3))
        · have hu1 : ∀ s, n ≠ s → s ∈ (u ++ [(n, ofN k j)]).map Prod.fst → s ∈ u.map Prod.fst := fun s ne hs => by
            rw [List.map_append] at hs
            rcases List.mem_append.mp hs with y | y
            · exact y
            · exact absurd (List.mem_singleton.mp y).symm ne
          have g1 := hu1 _ (fun q => z (.inl q)) h1
          have g2 := hu1 _ (fun q => z (.inr q)) h2
          rw [asgW_app ndv g1, asgW_app ndv g2]
          exact u4 l hl g1 g2
    · rintro ⟨v1, v2, v3, v4⟩
      rw [e] at v1
      obtain ⟨u, t, rfl, hu, ht⟩ := List.map_eq_append_iff.mp v1
      obtain ⟨⟨n', x⟩, rfl, hn'⟩ := List.map_eq_singleton_iff.mp ht
      have hn' : n' = n := hn'
      subst hn'
      have ndv : ((u ++ [(n', x)]).map Prod.fst).Nodup := by rw [v1]; exact ndi
      have hx : red P x := v2 _ (List.mem_append_right _ (List.mem_singleton.mpr rfl))
      refine ⟨u, (ih u).mpr ⟨hu, fun p hp => v2 p (List.mem_append_left _ hp), fun p hp => v3 p ?_, fun l hl h1 h2 => ?_⟩, extB_mem.mpr ⟨(io x).toNat, ?_, by rw [ofN_io (red_cnt hx)], fun l hl => ?_⟩⟩
      · rw [List.getElem?_append_left (List.getElem?_eq_some_iff.mp hp).1]
        exact hp
      · have := v4 l hl (by rw [List.map_append]; exact List.mem_append_left _ h1) (by rw [List.map_append]; exact List.mem_append_left _ h2)
        rwa [asgW_app ndv h1, asgW_app ndv h2] at this
      · unfold cntB
        by_cases z : ns[0]? = some n'
        · rw [if_pos z]
          have i0 : i = 0 := by
            obtain ⟨q1, e1⟩ := List.getElem?_eq_some_iff.mp z
            obtain ⟨q2, e2⟩ := List.getElem?_eq_some_iff.mp hn
            exact (List.getElem_inj nd (h₀ := q2) (h₁ := q1)).mp (e2.trans e1.symm)
          subst i0
          have : u = [] := List.map_eq_nil_iff.mp hu
          subst this
          have : x = 0 := v3 (n', x) rfl
          rw [this, io_zero]
          decide
        · rw [if_neg z]
          exact red_lt pP hx
      · unfold lkB
        split
        · rename_i h
          obtain ⟨_, h1, h2⟩ := h
          exact decide_eq_true ((io_cg (byP_dv b hl).2).mpr (cg_sub.mpr (v4 l hl h1 h2)))
        · rfl
theorem extB_nodup (name : Str) (ws : List (Str × Rk k)) (n : Nat) : (extB P ls name ws n).Nodup := by
  unfold extB
  refine List.Pairwise.sublist List.filter_sublist ?_
  refine List.pairwise_map.mpr (List.nodup_range.imp fun {a b} ne h => ne ?_)
  have h1 := (List.append_inj' h rfl).2
  have h2 : ofN k a = ofN k b := congrArg Prod.snd (List.cons.inj h1).1
  have h3 := congrArg io h2
  rw [io_ofN, io_ofN] at h3
  omega
theorem rowsB_nodup {ns : List Str} : ∀ (i : Nat), i ≤ ns.length → (rowsB P ls ns (ns.take i)).Nodup
  | 0, _ => List.pairwise_singleton ..
  | i + 1, hi => by
    have hn : ns[i]? = some ns[i] := List.getElem?_eq_getElem (by omega)
    obtain ⟨_, e⟩ := ns_split hn
    rw [e, rowsB_snoc]
    unfold stepB
    refine List.pairwise_flatMap.mpr ⟨fun ws _ => extB_nodup _ _ _, (rowsB_nodup i (by omega)).imp fun {u v} ne x hx y hy h => ne ?_⟩
    obtain ⟨j, _, rfl, _⟩ := extB_mem.mp hx
    obtain ⟨j', _, rfl, _⟩ := extB_mem.mp hy
    exact (List.append_inj' h rfl).1
theorem asg_map {ns : List Str} (f : Str → Rk k) {n : Str} (nd : ns.Nodup) (h : n ∈ ns) : asg ns (ns.map f) n = f n := by
  refine asg_mem nd ?_
  obtain ⟨i, hi, rfl⟩ := List.mem_iff_getElem.mp h
  refine List.mem_iff_getElem.mpr ⟨i, by rw [List.length_zip, List.length_map]; omega, ?_⟩
  rw [List.getElem_zip, List.getElem_map]
theorem list_map_asg {ns : List Str} {xs : List (Rk k)} (nd : ns.Nodup) (hl : xs.length = ns.length) : xs = ns.map (asg ns xs) := by
  refine List.ext_getElem (by rw [List.length_map, hl]) fun i h1 h2 => ?_
  rw [List.getElem_map]
  refine (asg_mem nd ?_).symm
  refine List.mem_iff_getElem.mpr ⟨i, by rw [List.length_zip]; omega, ?_⟩
  rw [List.getElem_zip]
theorem ws_map_asgW {ws : List (Str × Rk k)} (nd : (ws.map Prod.fst).Nodup) : ws = (ws.map Prod.fst).map fun n => (n, asgW ws n) := by
  rw [List.map_map]
  refine (List.map_id ws).symm.trans (List.map_congr_left fun p hp => ?_)
  show p = (p.1, asgW ws p.1)
  rw [asgW_mem (x := p.2) nd hp]
theorem asgW_map {ns : List Str} (f : Str → Rk k) {n : Str} (nd : ns.Nodup) (h : n ∈ ns) : asgW (ns.map fun n => (n, f n)) n = f n := by
  refine asgW_mem ?_ (List.mem_map.mpr ⟨n, h, rfl⟩)
  rw [List.map_map]
  have : (Prod.fst ∘ fun n => (n, f n)) = id := rfl
  rw [this, List.map_id]
  exact nd
end
end J

/-! ## Pm -/
/-! All rows = the rows by number. -/
namespace J
open PySem PySem.Spec PyProof.Rows L2 Q
open KR
section
variable {k : Kd} {P : Rk k} {ls : List (Ln Str (Rk k))}
theorem red_move {x c : Rk k} (pP : Ps P) (hx : red P x) (hc : red P c) : ∃ y, red P y ∧ rst (y + c) P = x ∧ Cg P y (x - c) := by
  refine ⟨rst (x - c) P, rst_red pP, rst_of pP hx ?_, rst_cg pP⟩
  exact cg_eq ((rst_cg (x := x - c) pP).add (.refl P c)) rfl (by grind)
theorem found_iff (b : BkP P ls) (hne : nsOf ls ≠ []) (xs : List (Rk k)) : xs ∈ foundB P (nsOf ls) (rowsB P ls (nsOf ls) (nsOf ls)) ↔ RowOf P ls xs := by
  have nd := nsOf_nd ls
  have pP := b.pP
  have hiff := rowsB_iff (ns := nsOf ls) b nd (nsOf ls).length (Nat.le_refl _)
  rw [List.take_length] at hiff
  have mem1 : ∀ l ∈ ls, l.1 ∈ nsOf ls ∧ l.2.1 ∈ nsOf ls := fun l hl => ⟨mem_namesOf.mpr ⟨(b.bk.l0 l hl).n1, mem_endsOf.mpr ⟨l, hl, .inl rfl⟩⟩, mem_namesOf.mpr ⟨(b.bk.l0 l hl).n2, mem_endsOf.mpr ⟨l, hl, .inr rfl⟩⟩⟩
  unfold foundB
  rw [List.mem_flatMap]
  constructor
  · rintro ⟨ws, hws, hx⟩
    obtain ⟨m, hm, rfl⟩ := List.mem_map.mp hx
    obtain ⟨w1, w2, w3, w4⟩ := (hiff ws).mp hws
    rw [List.take_length] at w1
    refine ⟨b, by unfold moveB; rw [List.length_map], fun x hx => ?_, (keepW_iff b).mpr ?_⟩
    · unfold moveB at hx
      obtain ⟨n, _, rfl⟩ := List.mem_map.mp hx
      exact rst_red pP
    · refine keepW_move b (f := asgW ws) (ofN k m) (fun l hl => w4 l hl (by rw [w1]; exact (mem1 l hl).1) (by rw [w1]; exact (mem1 l hl).2)) fun l hl => ?_
      unfold moveB
      rw [asg_map _ nd (mem1 l hl).1, asg_map _ nd (mem1 l hl).2]
      exact ⟨rst_cg pP, rst_cg pP⟩
  · intro r
    obtain ⟨n0, ns', hns⟩ : ∃ n0 ns', nsOf ls = n0 :: ns' := by
      cases h : nsOf ls with
      | nil => exact absurd h hne
      | cons a l => exact ⟨a, l, rfl⟩
    have n0m : n0 ∈ nsOf ls := by rw [hns]; exact List.mem_cons_self ..
    have hxs := list_map_asg nd r.len
    have redA : ∀ n ∈ nsOf ls, red P (asg (nsOf ls) xs n) := fun n hn => r.red _ (by
      have : asg (nsOf ls) xs n ∈ (nsOf ls).map (asg (nsOf ls) xs) := List.mem_map_of_mem hn
      rwa [← hxs] at this)
    have hc := redA n0 n0m
    generalize hcv : asg (nsOf ls) xs n0 = c at hc
    have kp := (keepW_iff b).mp r.keeps
    refine ⟨(nsOf ls).map fun n => (n, rst (asg (nsOf ls) xs n - c) P), (hiff _).mpr ⟨?_, fun p hp => ?_, fun p hp => ?_, fun l hl h1 h2 => ?_⟩, List.mem_map.mpr ⟨(io c).toNat, List.mem_range.mpr (red_lt pP hc), ?_⟩⟩
    · rw [List.map_map, List.take_length]
      exact List.map_id _
    · obtain ⟨n, _, rfl⟩ := List.mem_map.mp hp
      exact rst_red pP
    · rw [hns] at hp
      have hp : some (n0, rst (asg (n0 :: ns') xs n0 - c) P) = some p := hp
      cases hp
      rw [← hns, hcv]
      have : c - c = 0 := by grind
      show rst (c - c) P = 0
      rw [this]
      exact rst_red_self pP (red_zero pP.ne pP.cnt)
    · rw [asgW_map _ nd (mem1 l hl).1, asgW_map _ nd (mem1 l hl).2]
      have h3 := (rst_cg (x := asg (nsOf ls) xs l.2.1 - c) pP).dv (byP_dv b hl).1
      have h4 := (rst_cg (x := asg (nsOf ls) xs l.1 - c) pP).dv (byP_dv b hl).1
      have h5 := h3.add h4.neg
      exact (cg_eq h5 (by grind) (show asg (nsOf ls) xs l.2.1 - asg (nsOf ls) xs l.1 = asg (nsOf ls) xs l.2.1 - c + -(asg (nsOf ls) xs l.1 - c) from by grind)).trans (kp l hl)
    · unfold moveB
      rw [ofN_io (red_cnt hc)]
      refine (List.map_congr_left fun n hn => ?_).trans hxs.symm
      rw [asgW_map _ nd hn]
      refine rst_of pP (redA n hn) ?_
      exact cg_eq ((rst_cg (x := asg (nsOf ls) xs n - c) pP).add (.refl P c)) rfl (by grind)
theorem found_nodup (b : BkP P ls) (hne : nsOf ls ≠ []) : (foundB P (nsOf ls) (rowsB P ls (nsOf ls) (nsOf ls))).Nodup := by
  have nd := nsOf_nd ls
  have pP := b.pP
  have hiff := rowsB_iff (ns := nsOf ls) b nd (nsOf ls).length (Nat.le_refl _)
  rw [List.take_length] at hiff
  have hnd := rowsB_nodup (P := P) (ls := ls) (ns := nsOf ls) (nsOf ls).length (Nat.le_refl _)
  rw [List.take_length] at hnd
  obtain ⟨n0, ns', hns⟩ : ∃ n0 ns', nsOf ls = n0 :: ns' := by
    cases h : nsOf ls with
    | nil => exact absurd h hne
    | cons a l => exact ⟨a, l, rfl⟩
  have n0m : n0 ∈ nsOf ls := by rw [hns]; exact List.mem_cons_self ..
  have first : ∀ ws ∈ rowsB P ls (nsOf ls) (nsOf ls), asgW ws n0 = 0 := fun ws h => by
    obtain ⟨w1, w2, w3, w4⟩ := (hiff ws).mp h
    rw [List.take_length] at w1
    have h0 : (ws.map Prod.fst)[0]? = some n0 := by rw [w1, hns]; rfl
    rw [List.getElem?_map, Option.map_eq_some_iff] at h0
    obtain ⟨p, hp, e⟩ := h0
    have h1 := w3 p hp
    rw [← e, asgW_mem (x := p.2) (by rw [w1]; exact nd) (List.mem_of_getElem? hp), h1]
  have at' : ∀ {u v : List (Str × Rk k)} {m m' : Nat}, moveB P (nsOf ls) u m = moveB P (nsOf ls) v m' → ∀ n ∈ nsOf ls, rst (asgW u n + ofN k m) P = rst (asgW v n + ofN k m') P := fun {u v m m'} h n hn => by
    unfold moveB at h
    exact (List.map_inj_left.mp h) n hn
  have same : ∀ {u v : List (Str × Rk k)} {m m' : Nat}, u ∈ rowsB P ls (nsOf ls) (nsOf ls) → v ∈ rowsB P ls (nsOf ls) (nsOf ls) → m < sizeF P → m' < sizeF P → moveB P (nsOf ls) u m = moveB P (nsOf ls) v m' → m = m' := fun {u v m m'} hu hv hm hm' h => by
    have h1 := at' h n0 n0m
    rw [first u hu, first v hv] at h1
    have e : ∀ x : Rk k, 0 + x = x := fun x => by grind
    rw [e, e, rst_red_self pP ((red_ofN pP m).mpr hm), rst_red_self pP ((red_ofN pP m').mpr hm')] at h1
    have h3 := congrArg io h1
    rw [io_ofN, io_ofN] at h3
    omega
  unfold foundB
  refine List.pairwise_flatMap.mpr ⟨fun ws hws => List.pairwise_map.mpr (List.Pairwise.imp_of_mem (fun {a b} ha hb ne h => ne (same hws hws (List.mem_range.mp ha) (List.mem_range.mp hb) h)) List.nodup_range), List.Pairwise.imp_of_mem (fun {u v} hu hv ne x hx y hy h => ne ?_) hnd⟩
  obtain ⟨m, hm, rfl⟩ := List.mem_map.mp hx
  obtain ⟨m', hm', rfl⟩ := List.mem_map.mp hy
  have hm := List.mem_range.mp hm
  have hm' := List.mem_range.mp hm'
  have e := same hu hv hm hm' h
  subst e
  obtain ⟨u1, u2, _, _⟩ := (hiff u).mp hu
  obtain ⟨v1, v2, _, _⟩ := (hiff v).mp hv
  rw [List.take_length] at u1 v1
  have ndu : (u.map Prod.fst).Nodup := by rw [u1]; exact nd
  have ndv : (v.map Prod.fst).Nodup := by rw [v1]; exact nd
  have redW : ∀ {w : List (Str × Rk k)}, w.map Prod.fst = nsOf ls → (∀ p ∈ w, red P p.2) → ∀ n ∈ nsOf ls, red P (asgW w n) := fun {w} w1 w2 n hn => by
    have : n ∈ w.map Prod.fst := by rw [w1]; exact hn
    obtain ⟨p, hp, rfl⟩ := List.mem_map.mp this
    rw [asgW_mem (x := p.2) (by rw [w1]; exact nd) hp]
    exact w2 p hp
  rw [ws_map_asgW ndu, ws_map_asgW ndv, u1, v1]
  refine List.map_congr_left fun n hn => congrArg (Prod.mk n) ?_
  refine red_eq (redW u1 u2 n hn) (redW v1 v2 n hn) ?_
  have h1 := at' h n hn
  have h2 := (rst_cg (x := asgW u n + ofN k m) pP).symm.trans ((Cg.of_eq h1).trans (rst_cg (x := asgW v n + ofN k m) pP))
  exact cg_eq (h2.add (.refl P (-(ofN k m)))) (by grind) (by grind)
theorem ltR_le : ∀ {xs ys : List (Rk k)}, ltR xs ys → xs.map io ≤ ys.map io
  | [], _, h => h.elim
  | _ :: _, [], h => h.elim
  | x :: xs, y :: ys, h => by
    rw [List.map_cons, List.map_cons, List.cons_le_cons_iff]
    rcases h with h | ⟨h1, h2⟩
    · exact .inl h
    · exact .inr ⟨congrArg io h1, ltR_le h2⟩
theorem map_io_inj : ∀ {xs ys : List (Rk k)}, xs.map io = ys.map io → xs = ys
  | [], [], _ => rfl
  | x :: xs, y :: ys, h => by
    rw [List.map_cons, List.map_cons] at h
    obtain ⟨h1, h2⟩ := List.cons.inj h
    rw [io_inj h1, map_io_inj h2]
  | [], _ :: _, h => nomatch h
  | _ :: _, [], h => nomatch h
/-- the rows by number -/
def rowsN (P : Rk k) (ls : List (Ln Str (Rk k))) : List (List (Rk k)) := (List.range (manyF P ls)).map (rowO P ls)
theorem rowsN_mem (b : BkP P ls) (xs : List (Rk k)) : xs ∈ rowsN P ls ↔ RowOf P ls xs := by
  unfold rowsN
  rw [List.mem_map]
  constructor
  · rintro ⟨n, hn, rfl⟩
    exact (rowOf_rowO b (List.mem_range.mp hn)).1
  · intro r
    obtain ⟨h1, h2⟩ := r.lt
    exact ⟨numO P ls xs, List.mem_range.mpr h1, h2⟩
theorem rowsN_sorted (b : BkP P ls) : (rowsN P ls).Pairwise ltR := by
  unfold rowsN
  cases e : clo P ls with
  | none =>
    rw [manyF_none e]
    exact List.Pairwise.nil
  | some c =>
    have h := rowsL_sorted b.pP (b.nm e)
    unfold rowsL at h
    rw [manyF_some e]
    have : rowO P ls = rowF P c [] (nsOf ls) := by
      funext n
      exact rowO_some e n
    rw [this]
    exact h
theorem rowsN_nodup (b : BkP P ls) : (rowsN P ls).Nodup := (rowsN_sorted b).imp fun {a c} h (e : a = c) => ltR_irrefl c (by rw [e] at h; exact h)
theorem allI_eq (b : BkP P ls) : allI P ls = (rowsN P ls).map fun xs => xs.map io := by
  unfold allI
  by_cases hne : nsOf ls = []
  · rw [if_pos hne]
    have hls : ls = [] := by
      cases ls with
      | nil => rfl
      | cons l ls' =>
        have : l.1 ∈ nsOf (l :: ls') := mem_namesOf.mpr ⟨(b.bk.l0 l (List.mem_cons_self ..)).n1, mem_endsOf.mpr ⟨l, List.mem_cons_self .., .inl rfl⟩⟩
        rw [hne] at this
        cases this
    subst hls
    have hc : clo P ([] : List (Ln Str (Rk k))) = some Q.start := by
      unfold clo
      rw [hne]
      rfl
    unfold rowsN
    rw [manyF_some hc, hne]
    show _ = ((List.range 1).map (rowO P [])).map _
    show [[]] = [(rowO P [] 0).map io]
    rw [rowO_some hc, hne]
    rfl
  · rw [if_neg hne]
    have hp : (foundB P (nsOf ls) (rowsB P ls (nsOf ls) (nsOf ls))).Perm (rowsN P ls) := (List.perm_ext_iff_of_nodup (found_nodup b hne) (rowsN_nodup b)).mpr fun xs => (found_iff b hne xs).trans (rowsN_mem b xs).symm
    refine List.Perm.eq_of_pairwise (le := fun p q : List Int => p ≤ q) (fun a c _ _ h1 h2 => List.le_antisymm h1 h2) ?_ (List.pairwise_map.mpr ((rowsN_sorted b).imp ltR_le)) ((List.mergeSort_perm _ _).trans (hp.map _))
    refine (List.pairwise_mergeSort (fun a b c h1 h2 => ?_) (fun a b => ?_) _).imp fun {a c} h => of_decide_eq_true h
    · exact decide_eq_true (List.le_trans (of_decide_eq_true h1) (of_decide_eq_true h2))
    · rcases List.le_total a b with h | h
      · rw [decide_eq_true h]; rfl
      · rw [decide_eq_true h, Bool.or_true]
end
end J

/-! ## Rep -/
/-! repr of small data. -/
namespace J
open PySem PySem.Spec PyProof.Rows L2 Q
open KR
structure RepD (n m : Nat) (x : D) : Prop where
  pl : plD x = true
  sh : (toP x).showable = true
  nd : (toP x).hasDict = false
  lv : (toP x).leavesShort 13 = true
  wt : (toP x).weight ≤ n
  dp : (toP x).depth ≤ m
theorem RepD.mono {n m n' m' : Nat} {x : D} (h : RepD n m x) (h1 : n ≤ n') (h2 : m ≤ m') : RepD n' m' x := ⟨h.pl, h.sh, h.nd, h.lv, Nat.le_trans h.wt h1, Nat.le_trans h.dp h2⟩
theorem rep_int {i : Int} (h : i.natAbs < 2 ^ 30) : RepD 32 0 (.int i) := by
  have hl : i.natAbs.log2 < 30 := by
    by_cases z : i.natAbs = 0
    · rw [z]; decide
    · exact (Nat.log2_lt z).mpr h
  refine ⟨rfl, ?_, rfl, ?_, ?_, Nat.le_refl 0⟩
  · show decide (i.natAbs.log2 < 1920) = true
    exact decide_eq_true (by omega)
  · show decide ((PyData.shown (.int i)).length ≤ 13) = true
    refine decide_eq_true ?_
    have h1 := int_text_length_le10 (a := i) (k := 12) (by decide) (Nat.lt_of_lt_of_le h (by decide))
    have e : (PyData.shown (.int i)).length = (toString i).length := by
      show (Str.ofString (toString i)).length = _
      exact PySem.ofString_length _
    rw [e]
    exact h1
  · show (if i == 0 then 0 else i.natAbs.log2 + 1) ≤ 32
    split <;> omega
theorem rep_non : RepD 32 0 .non := ⟨rfl, rfl, rfl, rfl, Nat.zero_le _, Nat.le_refl 0⟩
theorem rep_str {s : Str} (h : (s.cps.toList.all fun c => decide (c < 16 ^ 8)) = true) (hs : s.cps.size ≤ 32) : RepD 32 0 (.str s) := ⟨rfl, rfl, rfl, h, hs, Nat.le_refl 0⟩
theorem rep_all {n m : Nat} : ∀ {l : List D}, (∀ d ∈ l, RepD n m d) → plDs l = true ∧ PyData.showableAll (toPs l) = true ∧ PyData.hasDictAll (toPs l) = false ∧ PyData.leavesShortAll 13 (toPs l) = true ∧ PyData.weightAll (toPs l) ≤ (n + 1) * l.length ∧ PyData.depthAll (toPs l) ≤ m
  | [], _ => ⟨rfl, rfl, rfl, rfl, Nat.zero_le _, Nat.zero_le _⟩
  | d :: l, h => by
    have h1 := h d (List.mem_cons_self ..)
    obtain ⟨i1, i2, i3, i4, i5, i6⟩ := rep_all fun e he => h e (List.mem_cons_of_mem _ he)
    refine ⟨?_, ?_, ?_, ?_, ?_, ?_⟩
    · show (plD d && plDs l) = true
      rw [h1.pl, i1]; rfl
    · show (PyData.showable (toP d) && PyData.showableAll (toPs l)) = true
      rw [h1.sh, i2]; rfl
    · show (PyData.hasDict (toP d) || PyData.hasDictAll (toPs l)) = false
      rw [h1.nd, i3]; rfl
    · show (PyData.leavesShort 13 (toP d) && PyData.leavesShortAll 13 (toPs l)) = true
      rw [h1.lv, i4]; rfl
    · show (toP d).weight + 1 + PyData.weightAll (toPs l) ≤ (n + 1) * (l.length + 1)
      have := h1.wt
      rw [Nat.mul_add, Nat.mul_one]
      omega
    · show max (toP d).depth (PyData.depthAll (toPs l)) ≤ m
      exact Nat.max_le.mpr ⟨h1.dp, i6⟩
theorem rep_lst {n m : Nat} {l : List D} (h : ∀ d ∈ l, RepD n m d) : RepD ((n + 1) * l.length) (m + 1) (.lst l) := by
  obtain ⟨i1, i2, i3, i4, i5, i6⟩ := rep_all h
  exact ⟨i1, i2, i3, i4, i5, Nat.succ_le_succ i6⟩
theorem rep_tup {n m : Nat} {l : List D} (h : ∀ d ∈ l, RepD n m d) : RepD ((n + 1) * l.length) (m + 1) (.tup l) := by
  obtain ⟨i1, i2, i3, i4, i5, i6⟩ := rep_all h
  exact ⟨i1, i2, i3, i4, i5, Nat.succ_le_succ i6⟩
/-- the text of data -/
def rpr (x : D) : Str := (toP x).shown
section
variable {K : PySem.W.Frag}
theorem op_repr {n m : Nat} {x : D} (h : RepD n m x) (hn : n ≤ 2 ^ 20) (hm : m ≤ 60) (hx : (∃ i, x = .int i ∧ i.natAbs.log2 < 1920) ∨ x = .non ∨ (∃ l, x = .lst l) ∨ ∃ l, x = .tup l) : OpC K (rReprD K) [x] (.str (rpr x)) := fun Hs H vs Q e rs q => by
  cases rs with
  | cons r1 rs =>
    cases rs
    refine ⟨_, toP x, rfl, r1.dp e h.pl, h.sh, h.nd, Nat.le_trans h.dp hm, PyData.shown_fits (by decide) (by decide) h.lv (Nat.le_trans h.wt hn), ?_, q _ Hs H (.refl e) (.str _)⟩
    rcases hx with ⟨i, rfl, hi⟩ | rfl | ⟨l, rfl⟩ | ⟨l, rfl⟩
    · cases r1
      exact .inl ⟨i, rfl, hi⟩
    · cases r1
      exact .inr (.inl rfl)
    · obtain ⟨a, xs, rfl, _⟩ := r1.lst_inv
      exact .inr (.inr ⟨a, rfl⟩)
    · obtain ⟨a, xs, rfl, _⟩ := r1.tup_inv
      exact .inr (.inr ⟨a, rfl⟩)
end
end J

/-! ## V7 -/
/-! The law's small checks. -/
namespace J
open PySem PySem.Spec PyProof.Rows L2 Q
open KR
open Evl (ex_rd ex_l ex_t)
theorem toPs_rows : ∀ l : List (List Int), toPs (l.map fun xs => D.lst (xs.map D.int)) = l.map fun xs => PyData.list (xs.map PyData.int)
  | [] => rfl
  | xs :: l => by
    show toPs (.lst (xs.map D.int) :: l.map fun xs => D.lst (xs.map D.int)) = _
    unfold toPs
    rw [toPs_rows l]
    unfold toP
    rw [toPs_int]
    rfl
theorem plDs_rows : ∀ l : List (List Int), plDs (l.map fun xs => D.lst (xs.map D.int)) = true
  | [] => rfl
  | xs :: l => by
    show (plD (.lst (xs.map D.int)) && plDs (l.map fun xs => D.lst (xs.map D.int))) = true
    rw [plDs_rows l, pl_ints]
    rfl
theorem canLay_rows : ∀ l : List (List Int), PyData.canLayAll0 (l.map fun xs => PyData.list (xs.map PyData.int)) = true
  | [] => rfl
  | xs :: l => by
    show PyData.canLayAll0 (.list (xs.map PyData.int) :: l.map fun xs => PyData.list (xs.map PyData.int)) = _
    unfold PyData.canLayAll0 PyData.canLay0
    rw [canLay_rows l, canLay_ints]
    rfl
theorem depth_rows : ∀ l : List (List Int), PyData.depthAll (l.map fun xs => PyData.list (xs.map PyData.int)) ≤ 1
  | [] => Nat.zero_le _
  | xs :: l => by
    show max (PyData.depth (.list (xs.map PyData.int))) (PyData.depthAll (l.map fun xs => PyData.list (xs.map PyData.int))) ≤ 1
    refine Nat.max_le.mpr ⟨?_, depth_rows l⟩
    show PyData.depthAll (xs.map PyData.int) + 1 ≤ 1
    rw [depth_ints]
    exact Nat.le_refl _
theorem sh_rows (l : List (List Int)) : SeqAt.shaped (toP (rwsD l)) = true := by
  unfold rwsD toP
  rw [toPs_rows]
  have h1 := canLay_rows l
  have h2 := depth_rows l
  unfold SeqAt.shaped
  show (PyData.canLayAll0 (l.map fun xs => PyData.list (xs.map PyData.int)) && decide (PyData.depthAll (l.map fun xs => PyData.list (xs.map PyData.int)) + 1 ≤ 64)) = true
  rw [h1, decide_eq_true (by omega)]
  rfl
theorem op_neR0 {K : PySem.W.Frag} {l : List (List Int)} : Op2 K (rNeD K) (rwsD l) (.lst []) (.bl (!decide (l = []))) := by
  have h : PyData.eqv (toP (rwsD l)) (toP (.lst [])) = decide (l = []) := by
    unfold rwsD toP
    rw [toPs_rows]
    cases l with
    | nil => rfl
    | cons a l => rfl
  rw [← h]
  exact op_neDD (plDs_rows l) rfl (sh_rows l) (sh_ints [])
section
variable {k : Kd} {P : Rk k} {ls : List (Ln Str (Rk k))}
theorem small_red {x : Rk k} (pP : Ps P) (hs : sizeF P ≤ 24) (h : red P x) : (io x).natAbs < 24 := by
  have h1 := red_lt pP h
  have h2 := red_cnt h
  omega
theorem rep_row {xs : List (Rk k)} (pP : Ps P) (hs : sizeF P ≤ 24) (h : ∀ x ∈ xs, red P x) (hl : xs.length ≤ 3) : RepD 99 1 (rwD xs) := by
  refine (rep_lst (n := 32) (m := 0) fun d hd => ?_).mono ?_ (Nat.le_refl _)
  · obtain ⟨x, hx, rfl⟩ := List.mem_map.mp hd
    exact rep_int (Nat.lt_trans (small_red pP hs (h x hx)) (by decide))
  · rw [List.length_map]
    omega
theorem names_fit : ∀ s ∈ NAMES, (s.cps.toList.all fun c => decide (c < 16 ^ 8)) = true ∧ s.cps.size ≤ 32 := by decide +kernel
theorem rep_kd (k : Kd) : RepD 32 0 (.str (kd k)) := by
  cases k
  · exact rep_str (by decide +kernel) (by decide +kernel)
  · exact rep_str (by decide +kernel) (by decide +kernel)
theorem foundB_len (b : BkP P ls) (hs : sizeF P ≤ 24) (hn : (nsOf ls).length ≤ 3) : (foundB P (nsOf ls) (rowsB P ls (nsOf ls) (nsOf ls))).length ≤ 331776 := by
  have cap : (rowsB P ls (nsOf ls) (nsOf ls)).length ≤ 13824 := by
    have h := rowsB_len (ls := ls) (ns := nsOf ls) b.pP hs (nsOf ls).length (Nat.le_refl _)
    rw [List.take_length] at h
    refine Nat.le_trans h ?_
    exact Nat.le_trans (Nat.pow_le_pow_right (by decide) hn) (by decide)
  unfold foundB
  refine Nat.le_trans (flatMap_len (n := 24) fun ws _ => ?_) ?_
  · rw [List.length_map, List.length_range]
    exact hs
  · omega
theorem many_le (b : BkP P ls) (hs : sizeF P ≤ 24) (hn : (nsOf ls).length ≤ 3) : manyF P ls ≤ 331776 := by
  have e : (allI P ls).length = manyF P ls := by
    rw [allI_eq b]
    unfold rowsN
    rw [List.length_map, List.length_map, List.length_range]
  rw [← e]
  unfold allI
  split
  · exact show 1 ≤ 331776 by decide
  · rw [List.length_mergeSort, List.length_map]
    exact foundB_len b hs hn
theorem log2_small {i : Int} (h : i.natAbs < 2 ^ 30) : i.natAbs.log2 < 1920 := by
  by_cases h0 : i.natAbs = 0
  · rw [h0]; decide
  · have := (Nat.log2_lt h0).mpr h
    omega
theorem rep_bk (sm : SmB P ls) : RepD 6000 3 (bkD ls) := by
  have hl := sm.bkp.bk.ln
  have hln : ∀ l ∈ ls, RepD 132 1 (lnD l) := fun l h => by
    obtain ⟨s1, s2⟩ := sm.sml l h
    have l0 := sm.bkp.bk.l0 l h
    refine (rep_tup (n := 32) (m := 0) fun d hd => ?_).mono (Nat.le_refl _) (Nat.le_refl _)
    simp only [List.mem_cons, List.not_mem_nil, or_false] at hd
    rcases hd with rfl | rfl | rfl | rfl
    · exact rep_str (names_fit _ l0.n1).1 (names_fit _ l0.n1).2
    · exact rep_str (names_fit _ l0.n2).1 (names_fit _ l0.n2).2
    · exact rep_int s1
    · exact rep_int s2
  have h2 : RepD 2660 2 (lnsD ls) := by
    refine (rep_lst (n := 132) (m := 1) fun d hd => ?_).mono ?_ (Nat.le_refl _)
    · obtain ⟨l, h, rfl⟩ := List.mem_map.mp hd
      exact hln l h
    · rw [List.length_map]
      omega
  refine (rep_tup (n := 2660) (m := 2) fun d hd => ?_).mono (show (2660 + 1) * 2 ≤ 6000 by decide) (Nat.le_refl _)
  simp only [List.mem_cons, List.not_mem_nil, or_false] at hd
  rcases hd with rfl | rfl
  · exact (rep_kd k).mono (by decide) (by decide)
  · exact h2
end
section
variable {P : Program} {w : World} {K : PySem.W.Frag} {mg : Str → Option Value} {base : Heap}
def f_law_right : List D → (D → D → Prop) → Prop := fun ds Po => ∃ (g : D) (N : Nat), ds = [g] ∧ Po = (fun _ d => d = .bl true) ∧ GenOk N g ∧ N ≤ 5000
theorem s_law_right : FnScope [("_law_generator_here" : Str), ("_law_book_here" : Str), ("_law_period_here" : Str), ("_law_great_here" : Str), ("_law_kept_here" : Str), ("_law_rows_here" : Str), ("_law_many" : Str), ("_law_turn" : Str), ("_law_at" : Str), ("_law_told_here" : Str), ("_law_later" : Str)] ["_law_generator_here"] (defScope (Hd.top 102)) := ⟨rfl, rfl, rfl, by decide +kernel, rfl, by decide +kernel, by decide +kernel⟩
theorem g_law_right (T : Tx K mg) (k : Nat) : ∃ fd, FnG P w K mg base CX0 (k + 12) (He.ga K "_law_right") fd ["_law_generator_here"] (spM K 0 f_law_right) ∧ (mg "_law_right" = some (.ref (He.ga K "_law_right")) ∧ PySem.W.keepIn K (.ref (He.ga K "_law_right")) = true ∧ Binds K fd ["_law_generator_here"] []) ∧ FunD K "_law_right" "_law_right" (defArgs (Hd.top 102)) (defBody (Hd.top 102)) (defScope (Hd.top 102)) [] [] (He.ga K "_law_right") fd := by
  have c_law_small := c_law_small (P := P) (w := w) (base := base) T k
  have c_law_times := c_law_times (P := P) (w := w) (base := base) T k
  have c_law_all := c_law_all (P := P) (w := w) (base := base) T k
  have c_law_random := c_law_random (P := P) (w := w) (base := base) T k
  have c_row_numbered := c_row_numbered (P := P) (w := w) (base := base) T k
  have c_next_row := c_next_row (P := P) (w := w) (base := base) T k
  have c_all_rows := c_all_rows (P := P) (w := w) (base := base) T k
  have c_number_of_row := c_number_of_row (P := P) (w := w) (base := base) T k
  have c_row_numberedN := c_row_numberedN (P := P) (w := w) (base := base) T k
  have c_next_rowK := c_next_rowK (P := P) (w := w) (base := base) T k
  have c_all_rowsK := c_all_rowsK (P := P) (w := w) (base := base) T k
  have c_row_numberedK := c_row_numberedK (P := P) (w := w) (base := base) T k
  have c_number_of_rowK := c_number_of_rowK (P := P) (w := w) (base := base) T k
  have sc := s_law_right
  refine calG_of (k := k + 11) T 73 73 rfl rfl s_law_right (fun _ _ _ _ _ _ us hl => match us, hl with | [_], _ => rfl) (fun vs H Q E h => spM_len h (n := 1) (by rintro _ _ ⟨g, N, rfl, rfl, hg, hN⟩; rfl)) fun cdv A outer s H vs Q E hgd hr h => ⟨_, PSs.nox (pss_cons (ps_asg (pe_c c_law_small hr (by omega) (by rfl) (pa_cons (pv 0) pa_nil)) (pg_unl rfl (pgs_cons (pg_name (i := 1) sc.nd rfl (Or.inl rfl)) (pgs_cons (pg_name (i := 2) sc.nd rfl (Or.inl rfl)) pgs_nil)))) (pss_cons (ps_set (i := 3) sc.nd rfl (Or.inl rfl) (pe_c c_law_times hr (by omega) (by rfl) (pa_cons (pv 0) (pa_cons (pv 1) (pa_cons (pv 2) pa_nil))))) (pss_cons (ps_par (i := 4) (j := 5) (by rfl) sc.nd rfl rfl (by decide) rfl rfl (pa_cons (pe_callB (call_reprD hgd hr) (by rfl) (T.fr 86 rfl) (by decide +kernel) (pa_cons (pv 1) pa_nil)) (pa_cons (pe_c c_law_all hr (by omega) (by rfl) (pa_cons (pv 1) (pa_cons (pv 3) pa_nil))) pa_nil)) (by rfl)) (pss_cons (ps_set (i := 6) sc.nd rfl (Or.inl rfl) (pe_callB call_len_seq (by rfl) (T.fr 82 rfl) (by decide +kernel) (pa_cons (pv 5) pa_nil))) (pss_cons (ps_if (PW.pt (pw_and (pt_cmpR (op_le) (pv 6) pe_int (nomark _)) (pw_and1 (pt_cmpR (op_ne) (pe_callB (call_reprD hgd hr) (by rfl) (T.fr 86 rfl) (by decide +kernel) (pa_cons (pe_cK c_all_rowsK hr (by omega) (by rfl) (pk_cons (pv 3) (pk_cons (pv 1) pk_nil))) pa_nil)) (pe_callB (call_reprD hgd hr) (by rfl) (T.fr 86 rfl) (by decide +kernel) (pa_cons (pv 5) pa_nil)) (nomark _))))) (pss_one (ps_ret pe_bl)) pss_nil) (pss_cons (ps_for PassesOwn.never rfl (pi_range1 (by rfl) (T.fr 85 rfl) (pa_cons pe_int pa_nil)) (pg_name (i := 7) sc.nd rfl (Or.inl rfl)) (pss_one (ps_if (pt_cmpR (op_neD hr.units) (pv 5) (pe_lst pa_nil) (nomark _)) (pss_cons (ps_set (i := 8) sc.nd rfl (Or.inl rfl) (pe_c c_law_random hr (by omega) (by rfl) (pa_cons (pv 0) (pa_cons (pv 6) pa_nil)))) (pss_cons (ps_set (i := 9) sc.nd rfl (Or.inl rfl) (pe_c c_row_numberedN hr (by omega) (by rfl) (pa_cons (pv 1) (pa_cons (pv 3) (pa_cons (pv 8) pa_nil))))) (pss_cons (ps_if (PW.pt (pw_or (pt_cmpR (op_ne) (pe_callB (call_reprD hgd hr) (by rfl) (T.fr 86 rfl) (by decide +kernel) (pa_cons (pv 9) pa_nil)) (pe_callB (call_reprD hgd hr) (by rfl) (T.fr 86 rfl) (by decide +kernel) (pa_cons (pe_ix ix_list (pv 5) (pv 8) (fun _ _ => rfl)) pa_nil)) (nomark _)) (pw_or1 (pt_cmpR (op_ne) (pe_callB (call_reprD hgd hr) (by rfl) (T.fr 86 rfl) (by decide +kernel) (pa_cons (pe_c c_number_of_row hr (by omega) (by rfl) (pa_cons (pv 1) (pa_cons (pv 3) (pa_cons (pe_ix ix_list (pv 5) (pv 8) (fun _ _ => rfl)) pa_nil)))) pa_nil)) (pe_callB (call_reprD hgd hr) (by rfl) (T.fr 86 rfl) (by decide +kernel) (pa_cons (pv 8) pa_nil)) (nomark _))))) (pss_one (ps_ret pe_bl)) pss_nil) (pss_cons (ps_set (i := 10) sc.nd rfl (Or.inl rfl) (pe_c c_next_row hr (by omega) (by rfl) (pa_cons (pv 1) (pa_cons (pv 3) (pa_cons (pe_ix ix_list (pv 5) (pv 8) (fun _ _ => rfl)) pa_nil))))) (pss_cons (ps_if (pt_cmpR (op_ne) (pe_callB (call_reprD hgd hr) (by rfl) (T.fr 86 rfl) (by decide +kernel) (pa_cons (pv 10) pa_nil)) (pe_callB (call_reprD hgd hr) (by rfl) (T.fr 86 rfl) (by decide +kernel) (pa_cons (pe_ifExp (pt_cmpR (op_lt) (pe_op op_add (pv 8) pe_int) (pv 6) (nomark _)) (pe_ix ix_list (pv 5) (pe_op op_add (pv 8) pe_int) (fun _ _ => rfl)) pe_non) pa_nil)) (nomark _)) (pss_one (ps_ret pe_bl)) pss_nil) (pss_cons (ps_expr (pe_bm PySem.F.plainAttrs_list PySem.F.slot_list_append PySem.F.type_list_append mt_append (pv 9) (pa_cons pe_int pa_nil))) (pss_one (ps_if (PW.pt (pw_or (pt_cmpR (op_ne) (pe_callB (call_reprD hgd hr) (by rfl) (T.fr 86 rfl) (by decide +kernel) (pa_cons (pe_cK c_row_numberedK hr (by omega) (by rfl) (pk_cons (pv 8) (pk_cons (pv 3) (pk_cons (pv 1) pk_nil)))) pa_nil)) (pe_callB (call_reprD hgd hr) (by rfl) (T.fr 86 rfl) (by decide +kernel) (pa_cons (pe_ix ix_list (pv 5) (pv 8) (fun _ _ => rfl)) pa_nil)) (nomark _)) (pw_or1 (pt_cmpR (op_ne) (pe_callB (call_reprD hgd hr) (by rfl) (T.fr 86 rfl) (by decide +kernel) (pa_cons (pe_cK c_number_of_rowK hr (by omega) (by rfl) (pk_cons (pe_ix ix_list (pv 5) (pv 8) (fun _ _ => rfl)) (pk_cons (pv 3) (pk_cons (pv 1) pk_nil)))) pa_nil)) (pe_callB (call_reprD hgd hr) (by rfl) (T.fr 86 rfl) (by decide +kernel) (pa_cons (pv 8) pa_nil)) (nomark _))))) (pss_one (ps_ret pe_bl)) pss_nil)))))))) pss_nil))) (pss_cons (ps_if (PW.pt (pw_and (pt_cmpR (op_gt) (pv 6) pe_int (nomark _)) (pw_and1 (pt_cmpR (op_notN) (pe_cK c_next_rowK hr (by omega) (by rfl) (pk_cons (pe_ix ix_list (pv 5) (pe_op op_sub (pv 6) pe_int) (fun _ _ => rfl)) (pk_cons (pv 3) (pk_cons (pv 1) pk_nil)))) pe_non (nomark _))))) (pss_one (ps_ret pe_bl)) pss_nil) (pss_one (ps_ret (pe_and (pe_cmpR (op_isN) (pe_c c_row_numbered hr (by omega) (by rfl) (pa_cons (pv 1) (pa_cons (pv 3) (pa_cons (pv 6) pa_nil)))) pe_non (nomark _)) (pe_and (pe_cmpR (op_isN) (pe_c c_row_numbered hr (by omega) (by rfl) (pa_cons (pv 1) (pa_cons (pv 3) (pa_cons (pe_op op_add (pv 6) (pe_c c_law_random hr (by omega) (by rfl) (pa_cons (pv 0) (pa_cons (pe_op op_pow pe_int pe_int) pa_nil)))) pa_nil)))) pe_non (nomark _)) (pe_one (pe_cmpR (op_eq) (pe_callB (call_reprD hgd hr) (by rfl) (T.fr 86 rfl) (by decide +kernel) (pa_cons (pv 1) pa_nil)) (pv 4) (nomark _)))))))))))))), spM_run h ?_⟩
  clear h
  rintro an ds Po ⟨g, N, rfl, rfl, hg, hN⟩
  show WS K (some (0, an)) _ [some (true, _), none, none, none, none, none, none, none, none, none, none] _ _
  have ne_self : ∀ s : Str, (!decide (s = s)) = false := fun s => by rw [decide_eq_true rfl]; rfl
  refine ws_seq (ws_asgW (we_callM (i := 0) (j := 0) (P := smP N) rfl (em_here ea_nil) ⟨g, N, rfl, rfl, hg, by omega⟩ fun m d hp => ?_))
  obtain ⟨hg1, k, P1, ls, rfl, sm⟩ := hp
  refine wm_unl rfl (wms_cons (wm_name (wms_cons (wm_name (wms_nil ?_)))))
  refine ws_seq (ws_setW (we_callM (i := 0) (j := 0) (P := tmP (N + 10000) P1 ls) rfl (em_here (ea_cons (ev_var rfl) (ea_cons (ev_var rfl) ea_nil))) ⟨m, N + 10000, k, P1, ls, rfl, rfl, hg1, by omega, sm⟩ fun m2 d hp => ?_))
  obtain ⟨hg2, P2, rfl, b, hs24⟩ := hp
  have pP := b.pP
  have hns := sm.nslen
  have hRl : (rowsN P2 ls).length = manyF P2 ls := by
    unfold rowsN
    rw [List.length_map, List.length_range]
  have hRow : ∀ a, a < manyF P2 ls → (rowsN P2 ls)[a]? = some (rowO P2 ls a) := fun a ha => by
    unfold rowsN
    rw [List.getElem?_map, List.getElem?_range ha]
    rfl
  have hRof : ∀ a, a < manyF P2 ls → RowOf P2 ls (rowO P2 ls a) ∧ numO P2 ls (rowO P2 ls a) = a := fun a ha => rowOf_rowO b ha
  have rpRow : ∀ a, a < manyF P2 ls → RepD 99 1 (rwD (rowO P2 ls a)) := fun a ha => by
    obtain ⟨r, _⟩ := hRof a ha
    exact rep_row pP hs24 r.red (by rw [r.len]; exact hns)
  have rpB := rep_bk sm
  refine ws_seq (ws_par (ea_cons (ev_cb (ea_cons (ev_var rfl) ea_nil) (op_repr rpB (by decide) (by decide) (.inr (.inr (.inr ⟨_, rfl⟩))))) (ea_cons (ev_is (ev_call (ea_cons (ev_var rfl) (ea_cons (ev_var rfl) ea_nil)) ⟨k, P2, ls, rfl, rfl, b, hs24, hns⟩) (show _ = D.lst ((rowsN P2 ls).map rwD) from by rw [allI_eq b, rwsD_rw])) ea_nil)) ?_)
  have hlen : ((rowsN P2 ls).map rwD).length = manyF P2 ls := by rw [List.length_map, hRl]
  have ixR : ∀ (a : Nat), a < manyF P2 ls → atI ((rowsN P2 ls).map rwD) (a : Int) = some (rwD (rowO P2 ls a)) := fun a ha => atI_nat (by rw [List.getElem?_map, hRow a ha]; rfl)
  have rpR : manyF P2 ls ≤ 600 → RepD (100 * 600) 2 (.lst ((rowsN P2 ls).map rwD)) := fun hm => by
    refine (rep_lst (n := 99) (m := 1) fun d hd => ?_).mono (by rw [hlen]; omega) (Nat.le_refl _)
    obtain ⟨xs, hx, rfl⟩ := List.mem_map.mp hd
    have r := (rowsN_mem b xs).mp hx
    exact rep_row pP hs24 r.red (by rw [r.len]; exact hns)
  have hMc : manyF P2 ls ≤ 331776 := many_le b hs24 hns
  have hMs : Sz 2100 ((manyF P2 ls : Nat) : Int) := Nat.lt_of_le_of_lt (show ((manyF P2 ls : Nat) : Int).natAbs ≤ 331776 by omega) (Nat.lt_of_lt_of_le (show 331776 < 2 ^ 20 by decide) (Nat.pow_le_pow_right (by decide) (by decide)))
  refine ws_seq (ws_set (ev_is (ev_cb (ea_cons (ev_var rfl) ea_nil) (op_lenL rfl)) (congrArg (fun n : Nat => D.int (n : Int)) hlen)) ?_)
  refine ws_seq (ws_ifno (et_is (et_and (et_test (ev_op (ev_var rfl) ev_int op_b0)) fun h => et_test (ev_op (ev_cb (ea_cons (ev_is (ev_callK (ea_cons (ev_var rfl) (ea_cons (ev_var rfl) ea_nil)) ⟨k, P2, ls, rfl, rfl, b, ?_⟩) (show _ = D.lst ((rowsN P2 ls).map rwD) from ?_)) ea_nil) (op_repr (n := 100 * 600) (m := 2) ?_ (by decide) (by decide) (.inr (.inr (.inl ⟨_, rfl⟩))))) (ev_cb (ea_cons (ev_var rfl) ea_nil) (op_repr (n := 100 * 600) (m := 2) ?_ (by decide) (by decide) (.inr (.inr (.inl ⟨_, rfl⟩))))) op_neS)) (by rw [ne_self, Bool.and_false])) ?_)
  · have h := of_decide_eq_true h
    exact (show manyF P2 ls ≤ 2000 by omega)
  · unfold rowsN
    rw [List.map_map]
    rfl
  · exact rpR (by have h := of_decide_eq_true h; omega)
  · exact rpR (by have h := of_decide_eq_true h; omega)
  refine ws_seq (ws_forR1 (j := 7) (n := 5) (fun t ρ' => ∃ (m : D) (x7 x8 x9 x10 : Option (Bool × D)), ρ' = [some (true, m), some (false, bkD ls), some (false, iD P1), some (false, iD P2), some (false, .str (rpr (bkD ls))), some (false, .lst ((rowsN P2 ls).map rwD)), some (false, .int (manyF P2 ls : Nat)), x7, x8, x9, x10] ∧ GenOk (N + 20000 + 100 * t) m)
    (ea_cons ev_int ea_nil) (by decide) (by decide) ⟨m2, none, none, none, none, rfl, hg2.mono (by omega)⟩ ?_ ?_)
  · rintro t ρ' ht ⟨m, x7, x8, x9, x10, rfl, hgm⟩
    refine ws_when (et_test (ev_op (ev_var rfl) (ev_lst ea_nil (szb rfl)) (show Op2 _ _ (D.lst ((rowsN P2 ls).map rwD)) _ _ from by rw [rwsD_rw]; exact op_neR0))) (fun h => ?_) fun h => ⟨m, some (false, .int (t : Int)), x8, x9, x10, rfl, hgm.mono (by omega)⟩
    have hM : 0 < manyF P2 ls := by
      refine Nat.pos_of_ne_zero fun z => ?_
      have : rowsN P2 ls = [] := List.length_eq_zero_iff.mp (hRl.trans z)
      rw [this] at h
      cases h
    refine ws_seq (ws_setW (we_rnd (i := 0) rfl (ev_var rfl) hgm (by omega) hMs (by omega) fun ma a hga ha => ?_))
    have ha : a < manyF P2 ls := by omega
    obtain ⟨rof, hnum⟩ := hRof a ha
    have rpa := rpRow a ha
    have rpA : RepD 32 0 (.int (a : Int)) := rep_int (by omega)
    refine ws_seq (ws_setN (ev_callN (ea_cons (ev_var rfl) (ea_cons (ev_var rfl) (ea_cons (ev_var rfl) ea_nil))) ⟨k, P2, ls, a, rfl, rfl, b, ha⟩) ?_)
    have aS : (a : Int).natAbs < 2 ^ 30 := by omega
    have rwx : ∀ n, (∃ i, rwD (rowO P2 ls n) = .int i ∧ i.natAbs.log2 < 1920) ∨ rwD (rowO P2 ls n) = .non ∨ (∃ l, rwD (rowO P2 ls n) = .lst l) ∨ ∃ l, rwD (rowO P2 ls n) = .tup l := fun n => .inr (.inr (.inl ⟨_, rfl⟩))
    have inx : (∃ i, D.int (a : Int) = .int i ∧ i.natAbs.log2 < 1920) ∨ D.int (a : Int) = .non ∨ (∃ l, D.int (a : Int) = .lst l) ∨ ∃ l, D.int (a : Int) = .tup l := .inl ⟨_, rfl, log2_small aS⟩
    have both : ∀ s u : Str, ((!decide (s = s)) || (!decide (u = u))) = false := fun s u => by rw [ne_self, ne_self]; rfl
    refine ws_seq (ws_ifno (et_is (et_or (et_test (ev_op (ev_borrow (i := 9) rfl (ev_cb (ea_cons (ev_var rfl) ea_nil) (op_repr rpa (by decide) (by decide) (rwx a))) rfl) (ev_cb (ea_cons (ev_op (ev_var rfl) (ev_var rfl) (op_ixL (ixR a ha))) ea_nil) (op_repr rpa (by decide) (by decide) (rwx a))) op_neS)) fun _ => et_test (ev_op (ev_cb (ea_cons (ev_is (ev_call (ea_cons (ev_var rfl) (ea_cons (ev_var rfl) (ea_cons (ev_op (ev_var rfl) (ev_var rfl) (op_ixL (ixR a ha))) ea_nil))) ⟨k, P2, ls, rowO P2 ls a, rfl, rfl, rof⟩) (show _ = D.int (a : Int) from by rw [hnum])) ea_nil) (op_repr rpA (by decide) (by decide) inx)) (ev_cb (ea_cons (ev_var rfl) ea_nil) (op_repr rpA (by decide) (by decide) inx)) op_neS)) (both _ _)) ?_)
    refine ws_seq (ws_set (ev_is (ev_call (ea_cons (ev_var rfl) (ea_cons (ev_var rfl) (ea_cons (ev_op (ev_var rfl) (ev_var rfl) (op_ixL (ixR a ha))) ea_nil))) ⟨k, P2, ls, rowO P2 ls a, rfl, rfl, rof⟩) (show _ = (if a + 1 < manyF P2 ls then rwD (rowO P2 ls (a + 1)) else .non) from by rw [hnum])) ?_)
    have rpl : RepD 99 1 (if a + 1 < manyF P2 ls then rwD (rowO P2 ls (a + 1)) else .non) := by
      split
      · exact rpRow _ (by assumption)
      · exact rep_non.mono (by decide) (by decide)
    have rlx : (∃ i, (if a + 1 < manyF P2 ls then rwD (rowO P2 ls (a + 1)) else .non) = .int i ∧ i.natAbs.log2 < 1920) ∨ (if a + 1 < manyF P2 ls then rwD (rowO P2 ls (a + 1)) else .non) = .non ∨ (∃ l, (if a + 1 < manyF P2 ls then rwD (rowO P2 ls (a + 1)) else .non) = .lst l) ∨ ∃ l, (if a + 1 < manyF P2 ls then rwD (rowO P2 ls (a + 1)) else .non) = .tup l := by
      split
      · exact .inr (.inr (.inl ⟨_, rfl⟩))
      · exact .inr (.inl rfl)
    refine ws_seq (ws_ifno (et_is (et_test (ev_op (ev_cb (ea_cons (ev_var rfl) ea_nil) (op_repr rpl (by decide) (by decide) rlx)) (ev_cb (ea_cons (ev_if (d := if a + 1 < manyF P2 ls then rwD (rowO P2 ls (a + 1)) else .non) (et_test (ev_op (ev_op (ev_var rfl) ev_int op_i0) (ev_var rfl) op_b0)) (fun h => ?_) fun h => ?_) ea_nil) (op_repr rpl (by decide) (by decide) rlx)) op_neS)) (ne_self _)) ?_)
    · have h := of_decide_eq_true h
      have h1 : a + 1 < manyF P2 ls := by omega
      rw [if_pos h1]
      exact ev_op (ev_var rfl) (ev_is (ev_op (ev_var rfl) ev_int op_i0) (show _ = D.int ((a + 1 : Nat) : Int) from rfl)) (op_ixL (ixR (a + 1) h1))
    · have h := of_decide_eq_false h
      rw [if_neg (by omega)]
      exact ev_non
    refine ws_seq (ws_app (i := 9) rfl ev_int (len_szl (by rw [List.length_map, rof.len]; omega)) ?_)
    exact ws_ifno (et_is (et_or (et_test (ev_op (ev_cb (ea_cons (ev_is (ev_callK (ea_cons (ev_var rfl) (ea_cons (ev_var rfl) (ea_cons (ev_var rfl) ea_nil))) ⟨k, P2, ls, a, rfl, rfl, b⟩) (if_pos ha)) ea_nil) (op_repr rpa (by decide) (by decide) (rwx a))) (ev_cb (ea_cons (ev_op (ev_var rfl) (ev_var rfl) (op_ixL (ixR a ha))) ea_nil) (op_repr rpa (by decide) (by decide) (rwx a))) op_neS)) fun _ => et_test (ev_op (ev_cb (ea_cons (ev_is (ev_callK (ea_cons (ev_op (ev_var rfl) (ev_var rfl) (op_ixL (ixR a ha))) (ea_cons (ev_var rfl) (ea_cons (ev_var rfl) ea_nil))) ⟨k, P2, ls, rowO P2 ls a, rfl, rfl, rof⟩) (show _ = D.int (a : Int) from by rw [hnum])) ea_nil) (op_repr rpA (by decide) (by decide) inx)) (ev_cb (ea_cons (ev_var rfl) ea_nil) (op_repr rpA (by decide) (by decide) inx)) op_neS)) (both _ _)) ⟨ma, _, _, _, _, rfl, hga.mono (by omega)⟩
  · rintro ρ' ⟨m, x7, x8, x9, x10, rfl, hgm⟩
    refine ws_seq (ws_ifno (et_is (et_and (et_test (ev_op (ev_var rfl) ev_int op_b0)) fun h => et_test (ev_op (ev_is (ev_callK (ea_cons (ev_op (ev_var rfl) (ev_is (ev_op (ev_var rfl) ev_int op_i0) (show _ = D.int ((manyF P2 ls - 1 : Nat) : Int) from congrArg D.int (by have h := of_decide_eq_true h; omega))) (op_ixL (ixR (manyF P2 ls - 1) (by have h := of_decide_eq_true h; omega)))) (ea_cons (ev_var rfl) (ea_cons (ev_var rfl) ea_nil))) ⟨k, P2, ls, rowO P2 ls (manyF P2 ls - 1), rfl, rfl, (hRof _ (by have h := of_decide_eq_true h; omega)).1⟩) (show _ = D.non from ?_)) ev_non (op_notNd _))) (show (decide (0 < ((manyF P2 ls : Nat) : Int)) && false) = false from Bool.and_false _)) ?_)
    · have h := of_decide_eq_true h
      rw [(hRof (manyF P2 ls - 1) (by omega)).2, if_neg (by omega)]
    refine ws_retW (we_andV (we_ev (ev_op (ev_is (ev_call (ea_cons (ev_var rfl) (ea_cons (ev_var rfl) (ea_cons (ev_var rfl) ea_nil))) ⟨k, P2, ls, manyF P2 ls, rfl, rfl, b⟩) (if_neg (Nat.lt_irrefl _))) ev_non (op_isNd _)) ⟨true, rfl, fun _ => ?_, fun h => nomatch h⟩))
    refine we_andV (we_op (we_call (wea_cons (we_ev (ev_var rfl) (wea_cons (we_ev (ev_var rfl) (wea_cons (we_op (we_ev (ev_var rfl) (we_rnd (i := 0) rfl (ev_op ev_int ev_int (op_iC ⟨by decide, by decide, by decide⟩)) hgm (by decide) (by unfold Sz; decide +kernel) (by omega) fun m2 r hg2 hr => ⟨_, op_i0, wea_nil ⟨.non, ⟨k, P2, ls, manyF P2 ls + r, rfl, ?_, b⟩, we_ev ev_non ⟨_, op_isNd _, true, rfl, fun _ => ?_, fun h => nomatch h⟩⟩⟩))))))))))
    · exact (if_neg (by omega)).symm
    · exact we_ev (ev_op (ev_cb (ea_cons (ev_var rfl) ea_nil) (op_repr rpB (by decide) (by decide) (.inr (.inr (.inr ⟨_, rfl⟩))))) (ev_var rfl) op_eqS) ⟨m2, rfl, congrArg D.bl (decide_eq_true rfl)⟩
theorem c_law_right (T : Tx K mg) (k : Nat) : CalG P w K mg base (k + 12) "_law_right" (spM K 0 f_law_right) := by
  obtain ⟨fd, h1, ⟨h2, h3, h4⟩, _⟩ := g_law_right (P := P) (w := w) (base := base) T k
  exact ⟨⟨_, fd, _, h1, h2, h3, h4⟩⟩

end
end J

/-! ## RuF -/
/-! Rules: places of texts in lists, lists compared by >, truth values compared, more targets. -/
namespace J
open PySem PySem.Spec PyProof.Rows L2 PySem.W
/-! a > b, data alike -/
def rGtD (K : PySem.W.Frag) : R2 := fun x y H Q => ∃ d e, Dp K H x d ∧ Dp K H y e ∧ alike d e = true ∧ d ≠ .none ∧ d.depth ≤ 60 ∧ Q (.bl (dataLt e d)) H
section
variable {X : Cx}
theorem op_gtD (hu : X.A.units + 64 < cLine) : OpR X (compareOp .Gt) (rGtD X.K) := by
  intro pins s σ H x y v u Q I rx ry h
  obtain ⟨d, e, hd, he, al, ne, dp, q⟩ := h
  obtain ⟨as, r1⟩ := Dp.reads I d x v hd rx
  obtain ⟨bs, r2⟩ := Dp.reads I e y u he ry
  have hm : min d.depth e.depth ≤ d.depth := Nat.min_le_left _ _
  exact gt_data r1 r2 al ne (by omega) ⟨.bl _, H, I, rfl, q⟩
end
section
variable {K : PySem.W.Frag} {an : An} {ρ : Env} {ta tb tc te : TE} {x y z d : D} {N : Env → Prop} {R : Env → D → Prop}
theorem op_gtL {xs ys : List Int} : Op2 K (rGtD K) (.lst (xs.map D.int)) (.lst (ys.map D.int)) (.bl (decide (ys < xs))) := fun Hs H v w Q e r1 r2 q => by
  have e1 : toP (.lst (xs.map D.int)) = .list (xs.map .int) := by unfold toP; rw [toPs_int]
  have e2 : toP (.lst (ys.map D.int)) = .list (ys.map .int) := by unfold toP; rw [toPs_int]
  refine ⟨_, _, r1.dp e (pl_ints xs), r2.dp e (pl_ints ys), ?_, ?_, ?_, ?_⟩
  · rw [e1, e2]
    show alike (.list (xs.map .int)) (.list (ys.map .int)) = true
    unfold alike
    exact alike_ints xs ys
  · rw [e1]
    exact fun z => nomatch z
  · rw [e1]
    show PyData.depthAll (xs.map .int) + 1 ≤ 60
    rw [depth_ints]
    decide
  · rw [e1, e2, show dataLt (.list (ys.map .int)) (.list (xs.map .int)) = decide (ys < xs) from (dataLt_list _ _).trans (dataLt_ints ys xs)]
    exact q _ Hs H (.refl e) (.bl _)
/-! the place of a text -/
theorem ev_bmL {r : V → List V → Hp → VK → Prop} {tA : TA} {l : List D} {ds : List D} (h : Ev K te ρ (.lst l)) (ha : EvA K tA ρ ds) (hr : OpM K r (.lst l) ds z) : Ev K (tBM K "list" r te tA) ρ z := fun σ Hs H R Q q =>
  h σ Hs H R _ fun v Hs1 H1 g1 r1 => by
    obtain ⟨a, xs, rfl, ha1, rl⟩ := r1.lst_inv
    exact ⟨Or.inl ⟨rfl, xs, SqL.of (g1.i _ _ ha1)⟩, ha σ Hs1 H1 (R.stay g1) _ fun vs Hs2 H2 g2 rs => hr Hs2 H2 _ vs Q g2.i ((Rp.lst ha1 rl).mono g2.s) rs fun u Hs3 H3 g3 r3 => q u Hs3 H3 (g1.trans0 (g2.trans0 g3)) r3⟩
theorem om_index {ns : List Str} {n : Str} {j : Nat} (nd : ns.Nodup) (h : ns[j]? = some n) : OpM K (rIndex K) (.lst (ns.map D.str)) [.str n] (.int (j : Int)) := fun Hs H v vs Q e r1 rs q => by
  obtain ⟨a, xs, rfl, ha, rl⟩ := r1.lst_inv
  have ex := rl.strs_inv
  subst ex
  cases rs with
  | cons r2 rs =>
    cases rs
    cases r2
    refine ⟨a, _, _, j, .str n, rfl, rfl, SqL.of (e _ _ ha), rfl, flat_strs ns, ?_, ?_, fun m z' hm hz => ?_, q _ Hs H (.refl e) (.int _)⟩
    · rw [List.getElem?_map, h]; rfl
    · show (n == n) = true
      exact beq_self_eq_true n
    · rw [List.getElem?_map, Option.map_eq_some_iff] at hz
      obtain ⟨s, hs, rfl⟩ := hz
      show (s == n) = false
      refine beq_eq_false_iff_ne.mpr fun es => ?_
      subst es
      obtain ⟨q1, e1⟩ := List.getElem?_eq_some_iff.mp hs
      obtain ⟨q2, e2⟩ := List.getElem?_eq_some_iff.mp h
      have := (List.getElem_inj nd (h₀ := q1) (h₁ := q2)).mp (e1.trans e2.symm)
      omega
/-! truth values -/
theorem op_neB {i j : Bool} : Op2 K rNe (.bl i) (.bl j) (.bl (!decide (i = j))) := fun Hs H v w Q e r1 r2 q => by
  cases r1; cases r2
  refine ⟨rfl, ?_⟩
  have : decide (V.bl i = V.bl j) = decide (i = j) := by simp
  rw [this]
  exact q _ Hs H (.refl e) (.bl _)
theorem op_notB {i j : Bool} : Op2 K rNotB (.bl i) (.bl j) (.bl (!decide (i = j))) := fun Hs H v w Q e r1 r2 q => by
  cases r1; cases r2
  exact ⟨_, _, rfl, rfl, q _ Hs H (.refl e) (.bl _)⟩
theorem o1_neg {i : Int} : Op1 K (rU fun i => .int (-i)) (.int i) (.int (-i)) := fun Hs H v Q e r1 q => ⟨i, r1.int_inv, q _ Hs H (.refl e) (.int _)⟩
/-! targets -/
theorem ws_par3W {i j k : Nat} {tA : TA} (h : WEA K an tA ρ fun ρ1 ds => ∃ x y z, ds = [x, y, z] ∧ N (((ρ1.set i (some (false, x))).set j (some (false, y))).set k (some (false, z)))) (hf : Free an [i, j, k] := by first | exact free_none | exact free_j (by decide)) : WS K an (tPar3 i j k tA) ρ N R := fun Hs0 H0 σ Hs H r Dn n q =>
  h Hs0 H0 σ Hs H r _ fun ρ1 ds vs Hs1 H1 ⟨x, y, z, e, m⟩ r1 wd rs => by
    subst e
    cases rs with
    | cons q1 rs =>
      cases rs with
      | cons q2 rs =>
        cases rs with
        | cons q3 rs =>
          cases rs
          exact ⟨_, _, _, rfl, n _ _ Hs1 H1 m (((r1.set q1 fun a => hf i (by simp) a).set q2 fun a => hf j (by simp) a).set q3 fun a => hf k (by simp) a) wd.go.s⟩
theorem ws_tup2N {i j : Nat} {tn : TE} (hij : i ≠ j) (hd : d = .lst [] ∨ d = .dK [] ∨ d = .dT []) (hn : Lays tn d) (h : WE K an ta ρ fun ρ1 x => N ((ρ1.set i (some (false, x))).set j (some (true, d)))) (hf : Free an [i, j] := by first | exact free_none | exact free_j (by decide)) :
    WS K an (tAsg (tTup (tCons ta (tCons tn tNil))) (gTup K 2 (gCons (gName i) (gCons (gName j) gNil)))) ρ N R := fun Hs0 H0 σ Hs H r Dn n q =>
  h Hs0 H0 σ Hs H r _ fun ρ1 x v Hs1 H1 w r1 wd rv => hn σ H1 _ fun p hp => by
    have nM := nMu_of r1.toRl hp
    have r2 := r1.laid (o := newO d) hp
    refine ⟨show 2 ≤ sizeLine from (by rw [sizeLine_eq]; decide), fun T hT => ?_⟩
    have gT : Go N0 Hs1 (upd H1 p (newO d)) Hs1 (upd (upd H1 p (newO d)) T (.tup [v, .ref p])) := .newM r2.ex hT
    refine ⟨T, _, rfl, .inl (.inl upd_same), rfl, v, _, rfl, .ref p, _, rfl, rfl, ?_⟩
    have mt : Mt K Hs1 (upd H1 p (newO d)) (.ref p) d := mt_new r1.ex hp hd
    have r3 := (r2.stay gT).set (i := i) rv fun a e => hf i (by simp) a e
    have r4 := r3.setM (i := j) (mt.stay gT) (go_free r1.go hp) (fun k' e h1 h2 => by
      rcases set_get h1 with ⟨_, z⟩ | ⟨nk, h1⟩
      · cases z
      rw [List.getElem?_set_ne (Ne.symm nk)] at h2
      exact nM ⟨k', e, h1, h2⟩) fun a e => hf j (by simp) a e
    exact n _ _ Hs1 _ w r4 wd.go.s
end
end J

/-! ## V8 -/
/-! The law's great books. -/
namespace J
open PySem PySem.Spec PyProof.Rows L2 Q
open KR
open Evl (ex_rd ex_l ex_t)
/-- a great book: it can be kept -/
structure GrB {k : Kd} (P : Rk k) (ls : List (Ln Str (Rk k))) : Prop where
  bkp : BkP P ls
  sP : Szr 150 P
  nz : ls ≠ []
  kp : ∃ f : Str → Rk k, KeepW P ls f
  az : ∀ l ∈ ls, Szr 200 l.2.2.1
def grP (N : Nat) (m d : D) : Prop := GenOk (N + 10000) m ∧ ∃ (k : Kd) (P : Rk k) (ls : List (Ln Str (Rk k))), d = .lst [bkD ls, iD P] ∧ GrB P ls
/-- a great period and what lines may be by -/
structure GP {k : Kd} (P : Rk k) (bs : List (Rk k)) : Prop where
  ps : Ps P
  sz : Szr 150 P
  len : bs.length = 4
  by_ : ∀ b ∈ bs, b = 0 ∨ (Ps b ∧ Dv b P)
theorem gp_h {u : Int} {r : Nat} (hu : 0 < u) (su : Sz 61 u) (hr : r < 99) : GP (k := .h) (u * 12 * (1 + (r : Int)) : Int) [(u : Int), (u * 6 : Int), (u * 4 : Int), (0 : Int)] := by
  have p12 : (0 : Int) < u * 12 := Int.mul_pos hu (by decide)
  have pP : (0 : Int) < u * 12 * (1 + (r : Int)) := Int.mul_pos p12 (by omega)
  refine ⟨ps_of_pos (k := .h) pP, ?_, rfl, fun b hb => ?_⟩
  · have s1 : Sz 65 (u * 12) := Sz.mul su (m := 4) (by unfold Sz; decide)
    have s2 : Sz 72 (u * 12 * (1 + (r : Int))) := Sz.mul s1 (m := 7) (by unfold Sz; omega)
    exact s2.mono (by decide)
  · simp only [List.mem_cons, List.not_mem_nil, or_false] at hb
    rcases hb with e | e | e | e
    · refine .inr ⟨by rw [e]; exact ps_of_pos (k := .h) hu, (12 * (1 + (r : Int)) : Int), ?_⟩
      rw [e]
      show u * 12 * (1 + (r : Int)) = u * (12 * (1 + (r : Int)))
      rw [Int.mul_assoc]
    · refine .inr ⟨by rw [e]; exact ps_of_pos (k := .h) (show (0 : Int) < u * 6 from Int.mul_pos hu (by decide)), (2 * (1 + (r : Int)) : Int), ?_⟩
      rw [e]
      show u * 12 * (1 + (r : Int)) = u * 6 * (2 * (1 + (r : Int)))
      rw [← Int.mul_assoc, Int.mul_assoc u 6 2]
      rfl
    · refine .inr ⟨by rw [e]; exact ps_of_pos (k := .h) (show (0 : Int) < u * 4 from Int.mul_pos hu (by decide)), (3 * (1 + (r : Int)) : Int), ?_⟩
      rw [e]
      show u * 12 * (1 + (r : Int)) = u * 4 * (3 * (1 + (r : Int)))
      rw [← Int.mul_assoc, Int.mul_assoc u 4 3]
      rfl
    · exact .inl e
theorem cm_three (n : Nat) : cm n 3 = n ^^^ n * 2 := by
  have e : (3 : Nat) = 1 ^^^ 2 := by decide
  rw [e, cm_xorR, cm_oneR]
  have := cm_pow n 1
  rw [show (2 : Nat) ^ 1 = 2 from rfl] at this
  rw [this]
theorem bw_ps {n : Nat} (h : n ≠ 0) : Ps (R := Rk .b) (⟨n⟩ : Bw) := ⟨fun q => h (congrArg Bw.n q), Int.natCast_nonneg _⟩
theorem gp_b {n r : Nat} (hn : n ≠ 0) (sn : n < 2 ^ 37) (hr : r < 9) : GP (k := .b) (⟨(n ^^^ n * 2) * 2 ^ (2 + r)⟩ : Bw) [(⟨n⟩ : Bw), (⟨n * 4⟩ : Bw), (⟨n ^^^ n * 2⟩ : Bw), (⟨0⟩ : Bw)] := by
  have e3 := cm_three n
  have n3 : n ^^^ n * 2 ≠ 0 := by
    rw [← e3]
    exact cm_ne hn (by decide)
  have p2 : (2 : Nat) ^ (2 + r) ≠ 0 := Nat.pos_iff_ne_zero.mp (Nat.pow_pos (by decide))
  have nP : (n ^^^ n * 2) * 2 ^ (2 + r) ≠ 0 := Nat.mul_ne_zero n3 p2
  have eP : (n ^^^ n * 2) * 2 ^ (2 + r) = cm (cm n 3) (2 ^ (2 + r)) := by rw [cm_pow, e3]
  refine ⟨bw_ps nP, ?_, rfl, fun b hb => ?_⟩
  · refine sz_len.mpr ?_
    show len ((n ^^^ n * 2) * 2 ^ (2 + r)) ≤ 150
    rw [eP]
    have l1 := len_cm (a := cm n 3) (b := 2 ^ (2 + r)) (cm_ne hn (by decide)) p2
    have l2 := len_cm (a := n) (b := 3) hn (by decide)
    have l3 : len (2 ^ (2 + r)) ≤ 2 + r + 1 := len_le_of (Nat.pow_lt_pow_right (by decide) (by omega))
    have l4 : len n ≤ 37 := len_le_of sn
    have l5 : len 3 ≤ 2 := len_le_of (by decide)
    omega
  · simp only [List.mem_cons, List.not_mem_nil, or_false] at hb
    rcases hb with rfl | rfl | rfl | rfl
    · refine .inr ⟨bw_ps hn, (⟨cm 3 (2 ^ (2 + r))⟩ : Bw), Bw.ext ?_⟩
      show (n ^^^ n * 2) * 2 ^ (2 + r) = cm n (cm 3 (2 ^ (2 + r)))
      rw [eP, cm_assoc]
    · refine .inr ⟨bw_ps (by omega), (⟨cm 3 (2 ^ r)⟩ : Bw), Bw.ext ?_⟩
      show (n ^^^ n * 2) * 2 ^ (2 + r) = cm (n * 4) (cm 3 (2 ^ r))
      have e4 : n * 4 = cm n 4 := by
        have := cm_pow n 2
        rw [show (2 : Nat) ^ 2 = 4 from rfl] at this
        exact this.symm
      have e5 : (2 : Nat) ^ (2 + r) = cm 4 (2 ^ r) := by rw [cm_pow, Nat.pow_add]
      rw [eP, e4, e5, cm_assoc, cm_assoc, ← cm_assoc 3 4, cm_comm 3 4, cm_assoc]
    · refine .inr ⟨bw_ps n3, (⟨2 ^ (2 + r)⟩ : Bw), Bw.ext ?_⟩
      show (n ^^^ n * 2) * 2 ^ (2 + r) = cm (n ^^^ n * 2) (2 ^ (2 + r))
      rw [cm_pow]
    · exact .inl rfl
/-! names by their places -/
def nmAt (i : Nat) : Str := ⟨#[97 + i]⟩
theorem nmAt_ok : ∀ i, i < 6 → nmAt i ∈ NAMES ∧ ("abcdef" : Str).cps.toList[i]? = some (97 + i) := by decide +kernel
theorem nmAt_ne {i j : Nat} (h : i ≠ j) : nmAt i ≠ nmAt j := fun e => by
  have : (97 + i : Nat) = 97 + j := by
    have h1 : (nmAt i).cps.toList = (nmAt j).cps.toList := by rw [e]
    have h2 : ([97 + i] : List Nat) = [97 + j] := h1
    exact (List.cons.inj h2).1
  omega
theorem ix_nm {K : PySem.W.Frag} {i : Nat} (h : i < 6) : Op2 K rIxS (.str "abcdef") (.int (i : Int)) (.str (nmAt i)) := op_ixS (szl (show ("abcdef" : Str).length ≤ 1000000 by decide +kernel)) (atI_nat (nmAt_ok i h).2)
/-- what the hidden numbers say of names -/
def hidF (k : Kd) (hs : List Nat) (s : Str) : Rk k := ofN k (hs.getD (s.cps.toList.headD 97 - 97) 0)
theorem hidF_at (k : Kd) {hs : List Nat} {i h : Nat} (e : hs[i]? = some h) : hidF k hs (nmAt i) = ofN k h := by
  have : (nmAt i).cps.toList.headD 97 - 97 = i := by
    show 97 + i - 97 = i
    omega
  unfold hidF
  rw [this, List.getD_eq_getElem?_getD, e]
  rfl
theorem sz_ofN {k : Kd} {n m : Nat} (h : n < 2 ^ m) : Szr m (ofN k n) := by
  unfold Szr
  rw [io_ofN]
  exact sz_nat.mpr h
/-- a line of a great book -/
structure LnG {k : Kd} (P : Rk k) (hs : List Nat) (l : Ln Str (Rk k)) : Prop where
  l0 : Line0 l
  dv : 0 < io l.2.2.2 → Dv l.2.2.2 P
  sz : Szr 200 l.2.2.1
  kp : Cg (byP P l) (hidF k hs l.2.1 - hidF k hs l.1) l.2.2.1
theorem lnG_of {k : Kd} {P b : Rk k} {bs : List (Rk k)} {hs : List Nat} {i j x y : Nat} (g : GP P bs) (hb : b ∈ bs) (hi : i < 6) (hj : j < 6) (ne : i ≠ j) (hx : hs[i]? = some x) (hy : hs[j]? = some y) (sx : x < 2 ^ 40) (sy : y < 2 ^ 40) :
    LnG P hs (nmAt i, nmAt j, rst (ofN k y - ofN k x) b, b) := by
  have sd : Szr 41 (ofN k y - ofN k x) := sz_subR (sz_ofN sy) (sz_ofN sx)
  rcases g.by_ b hb with rfl | ⟨pb, dv⟩
  · have z : io (0 : Rk k) = 0 := io_zero
    have e : rst (ofN k y - ofN k x) 0 = ofN k y - ofN k x := by unfold rst; rw [if_pos z]
    rw [e]
    refine ⟨⟨(nmAt_ok i hi).1, (nmAt_ok j hj).1, nmAt_ne ne, Int.le_of_eq z.symm, .inl z⟩, fun h => ?_, sd.mono (by omega), ?_⟩
    · have h' : 0 < io (0 : Rk k) := h
      rw [z] at h'
      cases h'
    · show Cg _ (hidF k hs (nmAt j) - hidF k hs (nmAt i)) (ofN k y - ofN k x)
      rw [hidF_at k hx, hidF_at k hy]
      exact Cg.refl _ _
  · have p0 : 0 < io b := by
      have h1 := pb.cnt
      have h2 : io b ≠ 0 := fun h => pb.ne (io_eq_zero.mp h)
      omega
    have sb : Szr 150 b := sz_dv dv g.ps pb.cnt g.sz
    refine ⟨⟨(nmAt_ok i hi).1, (nmAt_ok j hj).1, nmAt_ne ne, pb.cnt, .inr (rst_red pb)⟩, fun _ => dv, (sz_rst pb.cnt (sd.mono (by omega)) sb).mono (by omega), ?_⟩
    show Cg (byP P (nmAt i, nmAt j, rst (ofN k y - ofN k x) b, b)) (hidF k hs (nmAt j) - hidF k hs (nmAt i)) (rst (ofN k y - ofN k x) b)
    rw [hidF_at k hx, hidF_at k hy]
    have e : byP P (nmAt i, nmAt j, rst (ofN k y - ofN k x) b, b) = b := by
      unfold byP
      exact if_pos p0
    rw [e]
    exact (rst_cg pb).symm
theorem grB_of {k : Kd} {P : Rk k} {bs : List (Rk k)} {hs : List Nat} {ls : List (Ln Str (Rk k))} (g : GP P bs) (hl : ∀ l ∈ ls, LnG P hs l) (h1 : 0 < ls.length) (h2 : ls.length ≤ 20) : GrB P ls :=
  ⟨⟨⟨fun l h => (hl l h).l0, h2⟩, g.ps, g.sz.mono (by omega), fun l h => (hl l h).dv, fun l h => (hl l h).sz.mono (by omega)⟩, g.sz, (fun e => by rw [e] at h1; cases h1), ⟨hidF k hs, fun l h => (hl l h).kp⟩, fun l h => (hl l h).sz⟩
/-- pairs of places -/
def prD2 (p : Nat × Nat) : D := .tup [.int (p.1 : Int), .int (p.2 : Int)]
def natD (l : List Nat) : D := .lst (l.map fun n : Nat => D.int (n : Int))
abbrev grE {k : Kd} (m u : D) (P : Rk k) (bs : List (Rk k)) (x5 x6 x7 x8 x9 x10 x11 x12 x13 : Option (Bool × D)) : Env :=
  [some (true, m), some (false, u), some (false, .lst (bs.map fun b => iD b)), some (false, .str (kd k)), some (false, iD P), x5, x6, x7, x8, x9, x10, x11, x12, x13]
section
variable {P : Program} {w : World} {K : PySem.W.Frag} {mg : Str → Option Value} {base : Heap}
def f_law_great : List D → (D → D → Prop) → Prop := fun ds Po => ∃ (g : D) (N : Nat), ds = [g] ∧ Po = grP N ∧ GenOk N g ∧ N ≤ 10000
theorem s_law_great : FnScope [("_law_generator_here" : Str), ("_law_unit" : Str), ("_law_bys" : Str), ("_law_kind" : Str), ("_law_period_here" : Str), ("_law_many" : Str), ("_law_lines" : Str), ("_law_hidden" : Str), ("_law_pairs" : Str), ("_law_one" : Str), ("_law_other" : Str), ("_law_by" : Str), ("_law_turn" : Str), ("_law_at" : Str)] ["_law_generator_here"] (defScope (Hd.top 103)) := ⟨rfl, rfl, rfl, by decide +kernel, rfl, by decide +kernel, by decide +kernel⟩
theorem c_law_great (T : Tx K mg) (k : Nat) : Cal P w K mg base (k + 3) "_law_great" (spM K 0 f_law_great) := by
  have c_law_random := c_law_random (P := P) (w := w) (base := base) T k
  have c_law_rest := c_law_rest (P := P) (w := w) (base := base) T k
  have c_law_less := c_law_less (P := P) (w := w) (base := base) T k
  have sc := s_law_great
  refine cal_of (k := k + 2) T 74 74 rfl rfl s_law_great (fun _ _ _ _ _ _ us hl => match us, hl with | [_], _ => rfl) (fun vs H Q E h => spM_len h (n := 1) (by rintro _ _ ⟨g, N, rfl, rfl, hg, hN⟩; rfl)) fun cdv A outer s H vs Q E hr h => ⟨_, PSs.nox (pss_cons (ps_if (pt_cmpR (op_eq) (pe_c c_law_random hr (by omega) (by rfl) (pa_cons (pv 0) (pa_cons pe_int pa_nil))) pe_int (nomark _)) (pss_cons (ps_set (i := 1) sc.nd rfl (Or.inl rfl) (pe_ix ix_list (pe_lst (pa_cons (pe_op op_pow pe_int pe_int) (pa_cons (pe_op op_mulX pe_int (pe_op op_pow pe_int pe_int)) (pa_cons (pe_op op_pow pe_int pe_int) (pa_cons pe_int pa_nil))))) (pe_c c_law_random hr (by omega) (by rfl) (pa_cons (pv 0) (pa_cons pe_int pa_nil))) (fun _ _ => rfl))) (pss_one (ps_par3 (i := 2) (j := 3) (l := 4) (by rfl) sc.nd rfl rfl rfl (by decide) (by decide) (by decide) rfl rfl rfl (pa_cons (pe_lst (pa_cons (pv 1) (pa_cons (pe_op op_mulX (pv 1) pe_int) (pa_cons (pe_op op_mulX (pv 1) pe_int) (pa_cons pe_int pa_nil))))) (pa_cons pe_str (pa_cons (pe_op op_mulX (pe_op op_mulX (pv 1) pe_int) (pe_op op_add pe_int (pe_c c_law_random hr (by omega) (by rfl) (pa_cons (pv 0) (pa_cons pe_int pa_nil))))) pa_nil))) (by rfl)))) (pss_cons (ps_set (i := 1) sc.nd rfl (Or.inl rfl) (pe_op op_add pe_int (pe_op op_mulX pe_int (pe_c c_law_random hr (by omega) (by rfl) (pa_cons (pv 0) (pa_cons (pe_op op_shlW pe_int pe_int) pa_nil)))))) (pss_one (ps_par3 (i := 2) (j := 3) (l := 4) (by rfl) sc.nd rfl rfl rfl (by decide) (by decide) (by decide) rfl rfl rfl (pa_cons (pe_lst (pa_cons (pv 1) (pa_cons (pe_op op_shlW (pv 1) pe_int) (pa_cons (pe_op op_xor (pv 1) (pe_op op_shlW (pv 1) pe_int)) (pa_cons pe_int pa_nil))))) (pa_cons pe_str (pa_cons (pe_op op_shlW (pe_op op_xor (pv 1) (pe_op op_shlW (pv 1) pe_int)) (pe_op op_add pe_int (pe_c c_law_random hr (by omega) (by rfl) (pa_cons (pv 0) (pa_cons pe_int pa_nil))))) pa_nil))) (by rfl))))) (pss_cons (ps_asg (pe_tup (pa_cons (pe_op op_add pe_int (pe_c c_law_random hr (by omega) (by rfl) (pa_cons (pv 0) (pa_cons pe_int pa_nil)))) (pa_cons (pe_lst pa_nil) pa_nil))) (pg_tup rfl (pgs_cons (pg_name (i := 5) sc.nd rfl (Or.inr rfl)) (pgs_cons (pg_name (i := 6) sc.nd rfl (Or.inl rfl)) pgs_nil)))) (pss_cons (ps_setLc (i := 7) (own := [(("_law_turn" : Str), 12)]) (g := gName 12) rfl sc.nd rfl rfl (sw_true rfl rfl rfl (by decide +kernel)) (pi_range1 (by rfl) (T.fr 85 rfl) (pa_cons (pv 5) pa_nil)) (blkOk_by (own := [(("_law_turn" : Str), 12)]) (N := [("_law_generator_here" : Str), ("_law_unit" : Str), ("_law_bys" : Str), ("_law_kind" : Str), ("_law_period_here" : Str), ("_law_many" : Str), ("_law_lines" : Str), ("_law_hidden" : Str), ("_law_pairs" : Str), ("_law_one" : Str), ("_law_other" : Str), ("_law_by" : Str), ("_law_turn" : Str), ("_law_at" : Str)]) (sc := defScope (Hd.top 103)) (by decide +kernel)) (fun _ _ _ _ _ => (pg_name (i := 12) sc.nd rfl (Or.inl rfl))) (fun _ _ _ _ _ => pts_nil) (fun _ _ _ _ _ => (pe_c c_law_random hr (by omega) (by rfl) (pa_cons (pv 0) (pa_cons (pe_op op_shlW pe_int pe_int) pa_nil))))) (pss_cons (ps_set (i := 8) sc.nd rfl (Or.inl rfl) (pe_op op_cat (pe_lc (own := [(("_law_at" : Str), 13)]) (g := gName 13) rfl sc.nd  (pi_range2 (by rfl) (T.fr 85 rfl) (pa_cons pe_int (pa_cons (pv 5) pa_nil))) (blkOk_by (own := [(("_law_at" : Str), 13)]) (N := [("_law_generator_here" : Str), ("_law_unit" : Str), ("_law_bys" : Str), ("_law_kind" : Str), ("_law_period_here" : Str), ("_law_many" : Str), ("_law_lines" : Str), ("_law_hidden" : Str), ("_law_pairs" : Str), ("_law_one" : Str), ("_law_other" : Str), ("_law_by" : Str), ("_law_turn" : Str), ("_law_at" : Str)]) (sc := defScope (Hd.top 103)) (by decide +kernel)) (fun _ _ _ _ _ => (pg_name (i := 13) sc.nd rfl (Or.inl rfl))) (fun _ _ _ _ _ => pts_nil) (fun _ _ _ _ _ => (pe_tup (pa_cons (pe_c c_law_random hr (by omega) (by rfl) (pa_cons (pv 0) (pa_cons (pv 13) pa_nil))) (pa_cons (pv 13) pa_nil))))) (pe_lc (own := [(("_law_turn" : Str), 12)]) (g := gName 12) rfl sc.nd  (pi_range1 (by rfl) (T.fr 85 rfl) (pa_cons (pe_c c_law_random hr (by omega) (by rfl) (pa_cons (pv 0) (pa_cons pe_int pa_nil))) pa_nil)) (blkOk_by (own := [(("_law_turn" : Str), 12)]) (N := [("_law_generator_here" : Str), ("_law_unit" : Str), ("_law_bys" : Str), ("_law_kind" : Str), ("_law_period_here" : Str), ("_law_many" : Str), ("_law_lines" : Str), ("_law_hidden" : Str), ("_law_pairs" : Str), ("_law_one" : Str), ("_law_other" : Str), ("_law_by" : Str), ("_law_turn" : Str), ("_law_at" : Str)]) (sc := defScope (Hd.top 103)) (by decide +kernel)) (fun _ _ _ _ _ => (pg_name (i := 12) sc.nd rfl (Or.inl rfl))) (fun _ _ _ _ _ => pts_nil) (fun _ _ _ _ _ => (pe_tup (pa_cons pe_int (pa_cons (pe_op op_add pe_int (pe_c c_law_random hr (by omega) (by rfl) (pa_cons (pv 0) (pa_cons (pe_op op_sub (pv 5) pe_int) pa_nil)))) pa_nil))))))) (pss_cons (ps_for PassesOwn.never rfl (pi_list (pv 8)) (pg_tup rfl (pgs_cons (pg_name (i := 9) sc.nd rfl (Or.inl rfl)) (pgs_cons (pg_name (i := 10) sc.nd rfl (Or.inl rfl)) pgs_nil))) (pss_cons (ps_if (pt_cmpR (op_eq) (pe_c c_law_random hr (by omega) (by rfl) (pa_cons (pv 0) (pa_cons pe_int pa_nil))) pe_int (nomark _)) (pss_one (ps_par (i := 9) (j := 10) (by rfl) sc.nd rfl rfl (by decide) rfl rfl (pa_cons (pv 10) (pa_cons (pv 9) pa_nil)) (by rfl))) pss_nil) (pss_cons (ps_set (i := 11) sc.nd rfl (Or.inl rfl) (pe_ix ix_list (pv 2) (pe_c c_law_random hr (by omega) (by rfl) (pa_cons (pv 0) (pa_cons pe_int pa_nil))) (fun _ _ => rfl))) (pss_one (ps_expr (pe_bm PySem.F.plainAttrs_list PySem.F.slot_list_append PySem.F.type_list_append mt_append (pv 6) (pa_cons (pe_tup (pa_cons (pe_ix ix_str pe_str (pv 9) (fun _ _ => rfl)) (pa_cons (pe_ix ix_str pe_str (pv 10) (fun _ _ => rfl)) (pa_cons (pe_c c_law_rest hr (by omega) (by rfl) (pa_cons (pv 3) (pa_cons (pe_c c_law_less hr (by omega) (by rfl) (pa_cons (pv 3) (pa_cons (pe_ix ix_list (pv 7) (pv 10) (fun _ _ => rfl)) (pa_cons (pe_ix ix_list (pv 7) (pv 9) (fun _ _ => rfl)) pa_nil)))) (pa_cons (pv 11) pa_nil)))) (pa_cons (pv 11) pa_nil))))) pa_nil))))))) (pss_one (ps_ret (pe_lst (pa_cons (pe_tup (pa_cons (pv 3) (pa_cons (pv 6) pa_nil))) (pa_cons (pv 4) pa_nil)))))))))), spM_run h ?_⟩
  clear h
  rintro an ds Po ⟨g, N, rfl, rfl, hg, hN⟩
  show WS K (some (0, an)) _ [some (true, _), none, none, none, none, none, none, none, none, none, none, none, none, none] _ _
  have hz := szl (Nat.le_refl 1000000)
  refine ws_seq (ws_mono (N := fun ρ' => ∃ (m u : D) (k : Kd) (P : Rk k) (bs : List (Rk k)), ρ' = grE m u P bs none none none none none none none none none ∧ GP P bs ∧ GenOk (N + 400) m) ?_ ?_ fun _ _ h => h)
  · refine ws_ifW (wt_we (we_op (we_rnd (i := 0) rfl ev_int hg (by decide) (sz_lit rfl) (by omega) fun m r hg1 hr => we_ev ev_int ⟨_, op_eqI, _, rfl, fun _ => ?_, fun _ => ?_⟩)))
    · refine ws_seq (ws_mono (N := fun ρ' => ∃ (m : D) (u : Int), ρ' = [some (true, m), some (false, .int u), none, none, none, none, none, none, none, none, none, none, none, none] ∧ 0 < u ∧ Sz 61 u ∧ GenOk (N + 200) m)
        (ws_setW (we_op (we_ev (ev_lst (ea_cons (ev_op ev_int ev_int (op_iC ⟨by decide, by decide, by decide⟩)) (ea_cons (ev_op ev_int (ev_op ev_int ev_int (op_iC ⟨by decide, by decide, by decide⟩)) (op_iC (mulx_ok (a := 31) (b := 61) (by decide) (by decide +kernel) (by decide)))) (ea_cons (ev_op ev_int ev_int (op_iC ⟨by decide, by decide, by decide⟩)) (ea_cons ev_int ea_nil)))) (szb rfl)) (we_rnd (i := 0) rfl ev_int hg1 (by decide) (sz_lit rfl) (by omega) fun m2 r2 hg2 hr2 => ?_)))) ?_ fun _ _ h => h)
      · match r2, hr2 with
        | 0, _ => exact ⟨_, op_ixL rfl, m2, _, rfl, by decide +kernel, by unfold Sz; decide +kernel, hg2⟩
        | 1, _ => exact ⟨_, op_ixL rfl, m2, _, rfl, by decide +kernel, by unfold Sz; decide +kernel, hg2⟩
        | 2, _ => exact ⟨_, op_ixL rfl, m2, _, rfl, by decide +kernel, by unfold Sz; decide +kernel, hg2⟩
        | 3, _ => exact ⟨_, op_ixL rfl, m2, _, rfl, by decide +kernel, by unfold Sz; decide +kernel, hg2⟩
        | r2 + 4, h => omega
      rintro ρ' ⟨m2, u, rfl, hu, su, hg2⟩
      have s1 : Sz 65 (u * 12) := Sz.mul su (m := 4) (by unfold Sz; decide)
      refine ws_par3W (wea_cons (we_ev (ev_lst (ea_cons (ev_var rfl) (ea_cons (ev_op (ev_var rfl) ev_int (op_iC (mulx_ok (b := 31) su (by decide) (by decide)))) (ea_cons (ev_op (ev_var rfl) ev_int (op_iC (mulx_ok (b := 31) su (by decide) (by decide)))) (ea_cons ev_int ea_nil)))) (szb rfl)) (wea_cons (we_ev ev_str (wea_cons (we_op (we_ev (ev_op (ev_var rfl) ev_int (op_iC (mulx_ok (b := 31) su (by decide) (by decide)))) (we_op (we_ev ev_int (we_rnd (i := 0) rfl ev_int hg2 (by decide) (sz_lit rfl) (by omega) fun m3 r3 hg3 hr3 => ⟨_, op_i0, _, op_iC (mulx_ok (b := 31) s1 (by omega) (by decide)), wea_nil ⟨_, _, _, rfl, ?_⟩⟩))))))))))
      exact ⟨m3, .int u, .h, (u * 12 * (1 + (r3 : Int)) : Int), [(u : Int), (u * 6 : Int), (u * 4 : Int), (0 : Int)], rfl, gp_h hu su (by omega), hg3.mono (by omega)⟩
    · refine ws_seq (ws_mono (N := fun ρ' => ∃ (m : D) (n : Nat), ρ' = [some (true, m), some (false, .int (n : Int)), none, none, none, none, none, none, none, none, none, none, none, none] ∧ n ≠ 0 ∧ n < 2 ^ 37 ∧ GenOk (N + 200) m)
        (ws_setW (we_op (we_ev ev_int (we_op (we_ev ev_int (we_rnd (i := 0) rfl (ev_op ev_int ev_int (op_iC (shl_ok (n := 1) (by decide) (by decide)))) hg1 (by decide) (by unfold Sz; decide +kernel) (by omega) fun m2 r2 hg2 hr2 => ⟨.int ((2 * r2 : Nat) : Int), op_is (op_iC (mulx_ok (a := 31) (b := 40) (by decide) ?_ (by decide))) (congrArg D.int (Int.natCast_mul 2 r2).symm), .int ((1 + 2 * r2 : Nat) : Int), op_is op_i0 (congrArg D.int (Int.natCast_add 1 (2 * r2)).symm), m2, 1 + 2 * r2, rfl, by omega, ?_, hg2⟩)))))) ?_ fun _ _ h => h)
      · have h2 : (r2 : Int) < 2 ^ 36 := hr2
        have h3 : (2 : Int) ^ 36 = 68719476736 := by decide +kernel
        have h4 : (2 : Nat) ^ 40 = 1099511627776 := by decide +kernel
        omega
      · have h2 : (r2 : Int) < 2 ^ 36 := hr2
        have h3 : (2 : Int) ^ 36 = 68719476736 := by decide +kernel
        have h4 : (2 : Nat) ^ 37 = 137438953472 := by decide +kernel
        omega
      rintro ρ' ⟨m2, n, rfl, hn, sn, hg2⟩
      have szn : Sz 40 (n : Int) := sz_nat.mpr (Nat.lt_of_lt_of_le sn (Nat.pow_le_pow_right (by decide) (by decide)))
      have e1 : (n : Int) * 2 ^ (1 : Int).toNat = ((n * 2 : Nat) : Int) := shl_nat n 1
      have e2 : (n : Int) * 2 ^ (2 : Int).toNat = ((n * 4 : Nat) : Int) := shl_nat n 2
      have n3s : n ^^^ n * 2 < 2 ^ 40 := Nat.xor_lt_two_pow (Nat.lt_of_lt_of_le sn (Nat.pow_le_pow_right (by decide) (by decide))) (by omega)
      have ev3 : ∀ {ρ : Env}, ρ[1]? = some (some (false, .int (n : Int))) → Ev K (tOp (rI0 fun i j => .int (Builtin.bitXor i j)) (tVar 1) (tOp (rI CShl fun i j => .int (i * 2 ^ j.toNat)) (tVar 1) (tC (.int 1)))) ρ (.int ((n ^^^ n * 2 : Nat) : Int)) := fun h => ev_is (ev_op (ev_var h) (ev_op (ev_var h) ev_int (op_iC (shl_ok szn (by decide)))) op_i0) (congrArg D.int (by rw [e1, bxor_nat]))
      refine ws_par3W (wea_cons (we_ev (ev_lst (ea_cons (ev_var rfl) (ea_cons (ev_is (ev_op (ev_var rfl) ev_int (op_iC (shl_ok szn (by decide)))) (congrArg D.int e2)) (ea_cons (ev3 rfl) (ea_cons ev_int ea_nil)))) (szb rfl)) (wea_cons (we_ev ev_str (wea_cons (we_op (we_ev (ev3 rfl) (we_op (we_ev ev_int (we_rnd (i := 0) rfl ev_int hg2 (by decide) (sz_lit rfl) (by omega) fun m3 r3 hg3 hr3 => ⟨.int ((2 + r3 : Nat) : Int), op_is op_i0 (congrArg D.int (Int.natCast_add 2 r3).symm), .int (((n ^^^ n * 2) * 2 ^ (2 + r3) : Nat) : Int), op_is (op_iC (shl_ok (n := 40) (sz_nat.mpr n3s) (by omega))) (congrArg D.int (shl_nat _ _)), wea_nil ⟨_, _, _, rfl, ?_⟩⟩))))))))))
      exact ⟨m3, .int (n : Int), .b, (⟨(n ^^^ n * 2) * 2 ^ (2 + r3)⟩ : Bw), [(⟨n⟩ : Bw), (⟨n * 4⟩ : Bw), (⟨n ^^^ n * 2⟩ : Bw), (⟨0⟩ : Bw)], rfl, gp_b hn sn (by omega), hg3.mono (by omega)⟩
  rintro ρ' ⟨m, u, k, P', bs, rfl, gp, hg1⟩
  refine ws_seq (ws_tup2N (by decide) (.inl rfl) lays_lst (we_op (we_ev ev_int (we_rnd (i := 0) rfl ev_int hg1 (by decide) (sz_lit rfl) (by omega) fun m2 r hg2 hr => ⟨.int ((3 + r : Nat) : Int), op_is op_i0 (congrArg D.int (Int.natCast_add 3 r).symm), ?_⟩))))
  have hm6 : 3 + r ≤ 6 := by omega
  have hm3 : 3 ≤ 3 + r := by omega
  generalize 3 + r = mn at *
  have pow40 : (2 : Int) ^ 40 = 1099511627776 := by decide +kernel
  refine ws_seq (ws_setW (we_lcI (fun i ρ' acc => ∃ (m : D) (hs : List Nat), ρ' = grE m u P' bs (some (false, .int (mn : Int))) (some (true, .lst [])) none none none none none none none ∧ acc = hs.map (fun n : Nat => D.int (n : Int)) ∧ hs.length = i ∧ (∀ x ∈ hs, x < 2 ^ 40) ∧ GenOk (N + 500 + 100 * i) m) (js := [12]) (by decide) (free_j (by decide))
    (wei_ev (ei_rng1 (ea_cons (ev_var rfl) ea_nil) (by omega) (by omega)) ⟨len_szl (by unfold intsD; rw [List.length_map, List.length_range]; omega), ⟨m2, [], rfl, rfl, rfl, (fun _ h => nomatch h), hg2⟩, ?_, ?_⟩)))
  · rintro i d ρ' acc hd ⟨m, hs, rfl, rfl, rfl, hr', hgm⟩
    have hil : hs.length < mn := by
      have := (List.getElem?_eq_some_iff.mp hd).1
      unfold intsD at this
      rw [List.length_map, List.length_range] at this
      omega
    refine wg_name (wt_et et_yes ⟨fun _ => we_rnd (i := 0) rfl (ev_op ev_int ev_int (op_iC (shl_ok (n := 1) (by decide) (by decide)))) hgm (by decide) (by unfold Sz; decide +kernel) (by omega) fun m3 r3 hg3 hr3 => ?_, fun h => nomatch h⟩)
    refine ⟨m3, hs ++ [r3], rfl, by rw [List.map_append]; rfl, by rw [List.length_append]; rfl, fun x hx => ?_, hg3.mono (by omega)⟩
    rcases List.mem_append.mp hx with h | h
    · exact hr' x h
    · cases List.mem_singleton.mp h
      have h2 : (r3 : Int) < 2 ^ 40 := by
        have h3 : (r3 : Int) < 1 * 2 ^ (40 : Int).toNat := hr3
        have h4 : (1 : Int) * 2 ^ (40 : Int).toNat = 2 ^ 40 := by decide +kernel
        omega
      have h5 : (2 : Nat) ^ 40 = 1099511627776 := by decide +kernel
      omega
  rintro ρ' acc ⟨m3, hs, rfl, rfl, hhl, hh, hg3⟩
  have hhl : hs.length = mn := by
    unfold intsD at hhl
    rw [List.length_map, List.length_range] at hhl
    omega
  refine ws_seq (ws_setW (we_op (we_lcI (fun i ρ' acc => ∃ (m : D) (ps : List (Nat × Nat)), ρ' = grE m u P' bs (some (false, .int (mn : Int))) (some (true, .lst [])) (some (false, natD hs)) none none none none none none ∧ acc = ps.map prD2 ∧ ps.length = i ∧ (∀ p ∈ ps, p.1 < mn ∧ p.2 < mn ∧ p.1 ≠ p.2) ∧ GenOk (N + 1200 + 100 * i) m) (js := [13]) (by decide) (free_j (by decide))
    (wei_ev (ei_rng2 (ea_cons ev_int (ea_cons (ev_var rfl) ea_nil)) (by omega) (by omega) (by omega) (by omega)) ⟨len_szl (by unfold intsD; rw [List.length_map, List.length_range]; omega), ⟨m3, [], rfl, rfl, rfl, (fun _ h => nomatch h), hg3.mono (by unfold intsD; rw [List.length_map, List.length_range]; omega)⟩, ?_, ?_⟩))))
  · rintro i d ρ' acc hd ⟨m, ps, rfl, rfl, rfl, hps, hgm⟩
    have hil : ps.length + 1 < mn := by
      have := (List.getElem?_eq_some_iff.mp hd).1
      unfold intsD at this
      rw [List.length_map, List.length_range] at this
      omega
    obtain rfl : d = .int ((1 : Int) + (ps.length : Int)) := intsD_get hd
    refine wg_name (wt_et et_yes ⟨fun _ => we_tup (wea_cons (we_rnd (i := 0) rfl (ev_var rfl) hgm (by omega) (Nat.lt_of_lt_of_le (show ((1 : Int) + (ps.length : Int)).natAbs < 2 ^ 5 by omega) (Nat.pow_le_pow_right (by decide) (by decide))) (by omega) fun m4 r4 hg4 hr4 => wea_ea (ea_cons (ev_var rfl) ea_nil) ⟨szb rfl, ?_⟩)), fun h => nomatch h⟩)
    refine ⟨m4, ps ++ [(r4, 1 + ps.length)], rfl, ?_, by rw [List.length_append]; rfl, fun p hp => ?_, hg4.mono (by omega)⟩
    · rw [List.map_append]
      refine congrArg (fun z => ps.map prD2 ++ [z]) ?_
      show D.tup [.int (r4 : Int), .int (1 + (ps.length : Int))] = .tup [.int (r4 : Int), .int ((1 + ps.length : Nat) : Int)]
      rw [Int.natCast_add]
      rfl
    · rcases List.mem_append.mp hp with h | h
      · exact hps p h
      · cases List.mem_singleton.mp h
        refine ⟨?_, ?_, ?_⟩
        · show r4 < mn
          omega
        · show 1 + ps.length < mn
          omega
        · show r4 ≠ 1 + ps.length
          omega
  rintro ρ' acc ⟨m4, ps, rfl, rfl, hpl, hps, hg4⟩
  have hpl : ps.length = mn - 1 := by
    unfold intsD at hpl
    rw [List.length_map, List.length_range] at hpl
    omega
  have hg4 : GenOk (N + 1800) m4 := hg4.mono (by unfold intsD; rw [List.length_map, List.length_range]; omega)
  refine we_lcI (fun i ρ' acc => ∃ (m : D) (qs : List (Nat × Nat)), ρ' = grE m u P' bs (some (false, .int (mn : Int))) (some (true, .lst [])) (some (false, natD hs)) none none none none none none ∧ acc = qs.map prD2 ∧ qs.length = i ∧ (∀ p ∈ qs, p.1 < mn ∧ p.2 < mn ∧ p.1 ≠ p.2) ∧ GenOk (N + 2000 + 100 * i) m) (js := [12]) (by decide) (free_j (by decide))
    (wei_rng1 (wea_cons (we_rnd (i := 0) rfl ev_int hg4 (by decide) (sz_lit rfl) (by omega) fun m5 rt hg5 hrt => wea_nil ⟨_, rfl, by omega, by omega, len_szl (by unfold intsD; rw [List.length_map, List.length_range]; omega), ⟨m5, [], rfl, rfl, rfl, (fun _ h => nomatch h), hg5.mono (by omega)⟩, ?_, ?_⟩)))
  · rintro i d ρ' acc hd ⟨m, qs, rfl, rfl, rfl, hqs, hgm⟩
    have hil : qs.length < 3 := by
      have := (List.getElem?_eq_some_iff.mp hd).1
      unfold intsD at this
      rw [List.length_map, List.length_range] at this
      omega
    refine wg_name (wt_et et_yes ⟨fun _ => we_tup (wea_cons (we_ev ev_int (wea_cons (we_op (we_ev ev_int (we_rnd (i := 0) rfl (ev_op (ev_var rfl) ev_int op_i0) hgm (by omega) (Nat.lt_of_lt_of_le (show ((mn : Int) - 1).natAbs < 2 ^ 5 by omega) (Nat.pow_le_pow_right (by decide) (by decide))) (by omega) fun m6 r6 hg6 hr6 => ⟨.int ((1 + r6 : Nat) : Int), op_is op_i0 (congrArg D.int (Int.natCast_add 1 r6).symm), wea_nil ⟨szb rfl, ?_⟩⟩)))))), fun h => nomatch h⟩)
    refine ⟨m6, qs ++ [(0, 1 + r6)], rfl, by rw [List.map_append]; rfl, by rw [List.length_append]; rfl, fun p hp => ?_, hg6.mono (by omega)⟩
    rcases List.mem_append.mp hp with h | h
    · exact hqs p h
    · cases List.mem_singleton.mp h
      refine ⟨?_, ?_, ?_⟩
      · show 0 < mn
        omega
      · show 1 + r6 < mn
        omega
      · show 0 ≠ 1 + r6
        omega
  rintro ρ' acc ⟨m6, qs, rfl, rfl, hql, hqs, hg6⟩
  have hql : qs.length < 3 := by
    unfold intsD at hql
    rw [List.length_map, List.length_range] at hql
    omega
  have hg6 : GenOk (N + 2300) m6 := hg6.mono (by unfold intsD; rw [List.length_map, List.length_range]; omega)
  refine ⟨.lst ((ps ++ qs).map prD2), op_is (op_catL (by rw [List.length_map, List.length_map]; omega)) (by rw [List.map_append]), ?_⟩
  have hrs : ∀ p ∈ ps ++ qs, p.1 < mn ∧ p.2 < mn ∧ p.1 ≠ p.2 := fun p hp => by
    rcases List.mem_append.mp hp with h | h
    · exact hps p h
    · exact hqs p h
  have hrl : (ps ++ qs).length = mn - 1 + qs.length := by rw [List.length_append, hpl]
  generalize ps ++ qs = rs at *
  refine ws_seq (ws_forL (js := [9, 10]) (fun t ρ' => ∃ (m : D) (ls : List (Ln Str (Rk k))) (x9 x10 x11 x12 x13 : Option (Bool × D)), ρ' = grE m u P' bs (some (false, .int (mn : Int))) (some (true, lnsD ls)) (some (false, natD hs)) (some (false, .lst (rs.map prD2))) x9 x10 x11 x12 x13 ∧ ls.length = t ∧ (∀ l ∈ ls, LnG P' hs l) ∧ GenOk (N + 3000 + 300 * t) m)
    (ev_var rfl) ⟨m6, [], none, none, none, none, none, rfl, rfl, (fun _ h => nomatch h), hg6.mono (by omega)⟩ ?_ ?_)
  · rintro t d ρ' hd ⟨m, ls, x9, x10, x11, x12, x13, rfl, hlt, hls, hgt⟩
    rw [List.getElem?_map, Option.map_eq_some_iff] at hd
    obtain ⟨⟨a, b⟩, hab, rfl⟩ := hd
    have htl : t < rs.length := (List.getElem?_eq_some_iff.mp hab).1
    obtain ⟨a1, b1, ab⟩ := hrs _ (List.mem_of_getElem? hab)
    have a1 : a < mn := a1
    have b1 : b < mn := b1
    have ab : a ≠ b := ab
    refine wg_tup rfl (wgs_cons (wg_name (wgs_cons (wg_name (wgs_nil ?_)))))
    refine ws_seq (ws_mono (N := fun ρ' => ∃ (m : D) (i j : Nat), ρ' = grE m u P' bs (some (false, .int (mn : Int))) (some (true, lnsD ls)) (some (false, natD hs)) (some (false, .lst (rs.map prD2))) (some (false, .int (i : Int))) (some (false, .int (j : Int))) x11 x12 x13 ∧ i < mn ∧ j < mn ∧ i ≠ j ∧ GenOk (N + 3000 + 300 * t + 100) m)
      (ws_ifW (wt_we (we_op (we_rnd (i := 0) rfl ev_int hgt (by decide) (sz_lit rfl) (by omega) fun m7 r7 hg7 hr7 => we_ev ev_int ⟨_, op_eqI, _, rfl, fun _ => ws_par (ea_cons (ev_var rfl) (ea_cons (ev_var rfl) ea_nil)) ⟨m7, b, a, rfl, b1, a1, ab.symm, hg7⟩, fun _ => ws_next ⟨m7, a, b, rfl, a1, b1, ab, hg7⟩⟩)))) ?_ fun _ _ h => h)
    rintro ρ' ⟨m7, i, j, rfl, hi, hj, hij, hg7⟩
    obtain ⟨x, hx⟩ : ∃ x, hs[i]? = some x := ⟨_, List.getElem?_eq_getElem (by omega)⟩
    obtain ⟨y, hy⟩ : ∃ x, hs[j]? = some x := ⟨_, List.getElem?_eq_getElem (by omega)⟩
    have sx := hh x (List.mem_of_getElem? hx)
    have sy := hh y (List.mem_of_getElem? hy)
    have b4 := gp.len
    refine ws_seq (ws_setW (we_op (we_ev (ev_var rfl) (we_rnd (i := 0) rfl ev_int hg7 (by decide) (sz_lit rfl) (by omega) fun m8 r8 hg8 hr8 => ⟨iD (bs[r8]'(by omega)), op_ixL (atI_nat (by rw [List.getElem?_map, List.getElem?_eq_getElem (by omega)]; rfl)), ?_⟩))))
    have hbm : bs[r8]'(by omega) ∈ bs := List.getElem_mem _
    generalize bs[r8]'(by omega) = b at *
    have hbp : 0 ≤ io b ∧ Szr 150 b := by
      rcases gp.by_ b hbm with e | ⟨p1, p2⟩
      · rw [e, io_zero]
        exact ⟨Int.le_refl _, sz_zeroR⟩
      · exact ⟨p1.cnt, sz_dv p2 gp.ps p1.cnt gp.sz⟩
    have sd : Szr 41 (ofN k y - ofN k x) := sz_subR (sz_ofN sy) (sz_ofN sx)
    have hidE : ∀ {ρ : Env} {q n c : Nat}, ρ[7]? = some (some (false, natD hs)) → ρ[q]? = some (some (false, .int (n : Int))) → hs[n]? = some c → Ev K (tOp (rIxL K) (tVar 7) (tVar q)) ρ (iD (ofN k c)) := fun h1 h2 h3 => ev_is (ev_op (ev_var h1) (ev_var h2) (op_ixL (atI_nat (by rw [List.getElem?_map, h3]; rfl)))) (congrArg D.int (io_ofN k _).symm)
    refine ws_app (i := 6) (d := lnD (nmAt i, nmAt j, rst (ofN k y - ofN k x) b, b)) rfl (ev_tup (ea_cons (ev_op ev_str (ev_var rfl) (ix_nm (by omega))) (ea_cons (ev_op ev_str (ev_var rfl) (ix_nm (by omega))) (ea_cons (ev_call (ea_cons (ev_var rfl) (ea_cons (ev_call (ea_cons (ev_var rfl) (ea_cons (hidE rfl rfl hy) (ea_cons (hidE rfl rfl hx) ea_nil))) ⟨k, ofN k y, ofN k x, rfl, rfl⟩) (ea_cons (ev_var rfl) ea_nil))) ⟨k, ofN k y - ofN k x, b, rfl, rfl, hbp.1, hbp.2.mono (by omega), sd.mono (by omega)⟩) (ea_cons (ev_var rfl) ea_nil)))) (szb rfl)) (len_szl (by rw [List.length_map]; omega)) ⟨m8, ls ++ [(nmAt i, nmAt j, rst (ofN k y - ofN k x) b, b)], some (false, .int (i : Int)), some (false, .int (j : Int)), some (false, iD b), x12, x13, ?_, by rw [List.length_append, hlt]; rfl, fun l hl => ?_, hg8.mono (by omega)⟩
    · unfold lnsD
      rw [List.map_append]
      rfl
    · rcases List.mem_append.mp hl with h | h
      · exact hls l h
      · cases List.mem_singleton.mp h
        exact lnG_of gp hbm (by omega) (by omega) hij hx hy sx sy
  · rintro ρ' ⟨m, ls, x9, x10, x11, x12, x13, rfl, hlt, hls, hgt⟩
    rw [List.length_map] at hlt hgt
    refine ws_freeze (i := 6) rfl (fun a h => nomatch h) (fun j a h => by cases h; exact ⟨m, rfl⟩) ?_
    refine ws_ret (ev_lst (ea_cons (ev_tup (ea_cons (ev_var rfl) (ea_cons (ev_var rfl) ea_nil)) (szb rfl)) (ea_cons (ev_var rfl) ea_nil)) (szb rfl)) ⟨m, rfl, hgt.mono (by omega), k, P', ls, rfl, grB_of gp hls (by omega) (by omega)⟩

end
end J

/-! ## Pn -/
/-! Plain law of the great books: rows that keep, counts by choices. -/
namespace J
open PySem PySem.Spec PyProof.Rows L2 Q
open KR
section
variable {k : Kd} {P : Rk k} {ls : List (Ln Str (Rk k))} {c : Cs Str (Rk k)}
theorem BkP.nm0 (b : BkP P ls) {l : Ln Str (Rk k)} (h : l ∈ ls) : l.1 ∈ nsOf ls ∧ l.2.1 ∈ nsOf ls := ⟨mem_namesOf.mpr ⟨(b.bk.l0 l h).n1, mem_endsOf.mpr ⟨l, h, .inl rfl⟩⟩, mem_namesOf.mpr ⟨(b.bk.l0 l h).n2, mem_endsOf.mpr ⟨l, h, .inr rfl⟩⟩⟩
theorem rowOf_keep (b : BkP P ls) {f : Str → Rk k} (kp : KeepW P ls f) : RowOf P ls ((nsOf ls).map fun n => rst (f n) P) := by
  refine ⟨b, List.length_map .., fun x hx => ?_, (keepW_iff b).mpr (keepW_move b 0 kp fun l hl => ?_)⟩
  · obtain ⟨n, _, rfl⟩ := List.mem_map.mp hx
    exact rst_red b.pP
  · obtain ⟨h1, h2⟩ := b.nm0 hl
    rw [asg_map (fun n => rst (f n) P) (nsOf_nd ls) h1, asg_map (fun n => rst (f n) P) (nsOf_nd ls) h2]
    exact ⟨(rst_cg b.pP).trans (Cg.of_eq (by grind)), (rst_cg b.pP).trans (Cg.of_eq (by grind))⟩
theorem many_pos (b : BkP P ls) {f : Str → Rk k} (kp : KeepW P ls f) : 0 < manyF P ls := by
  have := (rowOf_keep b kp).lt.1
  omega
theorem many_sz (b : BkP P ls) : Sz 2100 ((manyF P ls : Nat) : Int) := by
  refine sz_nat.mpr ?_
  cases e : clo P ls with
  | none => rw [manyF_none e]; exact Nat.pow_pos (by decide)
  | some c =>
    rw [manyF_some e]
    exact Nat.lt_of_lt_of_le (prod_sz (b.ok e).ok b.pP b.sP (nsOf_len ls)) (Nat.pow_le_pow_right (by decide) (by decide))
theorem RowOf.line {xs : List (Rk k)} (r : RowOf P ls xs) {l : Ln Str (Rk k)} (h : l ∈ ls) : io (rst (asg (nsOf ls) xs l.2.1 - (asg (nsOf ls) xs l.1 + l.2.2.1)) (byP P l)) = 0 :=
  (io_cg (byP_dv r.b h).2).mpr (cg_sub.mpr ((keepW_iff r.b).mp r.keeps l h))
theorem RowOf.place {xs : List (Rk k)} (r : RowOf P ls xs) {n : Str} (h : n ∈ nsOf ls) : ∃ j : Nat, (nsOf ls)[j]? = some n ∧ xs[j]? = some (asg (nsOf ls) xs n) := by
  obtain ⟨j, hj, e⟩ := List.mem_iff_getElem.mp h
  have h1 : (nsOf ls)[j]? = some n := by rw [List.getElem?_eq_getElem hj, e]
  refine ⟨j, h1, ?_⟩
  have e2 := list_map_asg (nsOf_nd ls) r.len
  have e3 : xs[j]? = ((nsOf ls).map (asg (nsOf ls) xs))[j]? := congrArg (fun z => z[j]?) e2
  rw [e3, List.getElem?_map, h1]
  rfl
theorem RowOf.asg_red {xs : List (Rk k)} (r : RowOf P ls xs) {n : Str} (h : n ∈ nsOf ls) : Q.KR.red P (asg (nsOf ls) xs n) := by
  obtain ⟨j, _, e⟩ := r.place h
  exact r.red _ (List.mem_of_getElem? e)
theorem RowOf.asg_sz {xs : List (Rk k)} (r : RowOf P ls xs) {n : Str} (h : n ∈ nsOf ls) : Szr 200 (asg (nsOf ls) xs n) := sz_red (r.asg_red h) r.b.sP
theorem rwD_ints (xs : List (Rk k)) : rwD xs = .lst ((xs.map io).map D.int) := by
  unfold rwD
  rw [List.map_map]
  rfl
theorem ltR_lt : ∀ {xs ys : List (Rk k)}, ltR xs ys → xs.map io < ys.map io
  | [], _, h => by cases h
  | _ :: _, [], h => by cases h
  | x :: xs, y :: ys, h => by
    rw [List.map_cons, List.map_cons]
    rcases h with h | ⟨rfl, h⟩
    · exact List.cons_lt_cons_iff.mpr (.inl h)
    · exact List.cons_lt_cons_iff.mpr (.inr ⟨rfl, ltR_lt h⟩)
theorem row_later (b : BkP P ls) {a : Nat} (h : a + 1 < manyF P ls) : (rowO P ls a).map io < (rowO P ls (a + 1)).map io := by
  obtain ⟨c, hc⟩ := clo_of h
  rw [manyF_some hc] at h
  rw [rowO_some hc, rowO_some hc]
  exact ltR_lt (rowF_mono (pre := []) b.pP (b.nm hc) List.Pairwise.nil (Nat.lt_succ_self a) h)
/-! choices -/
theorem rev_order (b : BkP P ls) (hc : clo P ls = some c) : prodN (basesO P ls (nsOf ls).reverse) = manyF P ls := by
  unfold basesO
  rw [hc, manyF_some hc]
  exact prod_rev b.pP (b.nm hc)
theorem basesO_some (hc : clo P ls = some c) (os : List Str) : basesO P ls os = basesF P c [] os := by unfold basesO; rw [hc]
theorem filter_one {np : Str} : ∀ {ns : List Str}, ns.Nodup → np ∈ ns → ns.filter (fun n => decide (n = np)) = [np]
  | [], _, h => nomatch h
  | a :: t, nd, h => by
    rw [List.nodup_cons] at nd
    rw [List.filter_cons]
    by_cases e : a = np
    · subst e
      rw [if_pos (decide_eq_true rfl)]
      have : t.filter (fun n => decide (n = a)) = [] := List.filter_eq_nil_iff.mpr fun n hn => by
        rw [decide_eq_true_eq]
        exact fun z => nd.1 (z ▸ hn)
      rw [this]
    · rw [if_neg (by rw [decide_eq_true_eq]; exact e)]
      exact filter_one nd.2 ((List.mem_cons.mp h).resolve_left (Ne.symm e))
/-- all names but one -/
def butN (ls : List (Ln Str (Rk k))) (np : Str) : List Str := (nsOf ls).filter fun n => !decide (n = np)
theorem butN_mem {np n : Str} : n ∈ butN ls np ↔ n ∈ nsOf ls ∧ n ≠ np := by
  unfold butN
  rw [List.mem_filter]
  constructor
  · rintro ⟨h1, h2⟩
    exact ⟨h1, fun e => by rw [decide_eq_true e] at h2; cases h2⟩
  · rintro ⟨h1, h2⟩
    exact ⟨h1, by rw [decide_eq_false h2]; rfl⟩
theorem butN_lt (np : Str) : (butN ls np).Pairwise strLt := List.Pairwise.sublist List.filter_sublist (namesOf_lt _)
theorem butN_names (np : Str) : ∀ n ∈ butN ls np, n ∈ NAMES := fun n h => (mem_namesOf.mp (butN_mem.mp h).1).1
theorem ask_but {ps : List (Str × Rk k)} {np : Str} (hp : np ∈ nsOf ls) (e : ps.map Prod.fst = butN ls np) : askO ps ls = butN ls np ++ [np] := by
  unfold askO
  rw [e, namesOf_of_lt (butN_lt np) (butN_names np)]
  congr 1
  rw [← filter_one (nsOf_nd ls) hp]
  refine List.filter_congr fun n hn => ?_
  by_cases h : n = np
  · rw [decide_eq_true h, decide_eq_false fun z => (butN_mem.mp z).2 h]
    rfl
  · rw [decide_eq_false h, decide_eq_true (butN_mem.mpr ⟨hn, h⟩)]
    rfl
theorem ask_one {n0 : Str} {x : Rk k} {t : List Str} (e : nsOf ls = n0 :: t) : askO [(n0, x)] ls = nsOf ls := by
  have nd := nsOf_nd ls
  unfold askO
  rw [e] at nd ⊢
  rw [List.nodup_cons] at nd
  have hN : n0 ∈ NAMES := (mem_namesOf.mp (show n0 ∈ nsOf ls by rw [e]; exact List.mem_cons_self ..)).1
  have h1 : namesOf ([(n0, x)].map Prod.fst) = [n0] := namesOf_of_lt (List.pairwise_singleton ..) fun n hn => by
    cases List.mem_singleton.mp hn
    exact hN
  rw [h1, List.filter_cons]
  have h2 : (!decide (n0 ∈ [(n0, x)].map Prod.fst)) = false := by simp
  rw [h2]
  show [n0] ++ t.filter _ = n0 :: t
  rw [List.filter_eq_self.mpr fun n hn => ?_]
  · rfl
  · have : n ∉ [(n0, x)].map Prod.fst := fun z => by
      cases List.mem_singleton.mp z
      exact nd.1 hn
    rw [decide_eq_false this]
    rfl
theorem one_count (hc : clo P ls = some c) {n0 : Str} {x : Rk k} {t : List Str} (e : nsOf ls = n0 :: t) : prodN ((basesF P c [] (askO [(n0, x)] ls)).drop 1) * sizeF P = manyF P ls := by
  rw [ask_one e, manyF_some hc, e]
  show prodN (basesF P c [n0] t) * ch P 1 = ch P 1 * prodN (basesF P c [n0] t)
  exact Nat.mul_comm _ _
theorem last_count {ps : List (Str × Rk k)} {np : Str} (hp : np ∈ nsOf ls) (e : ps.map Prod.fst = butN ls np) : prodN ((basesF P c [] (askO ps ls)).drop ps.length) = ch P (byOf c (butN ls np) np) := by
  have hl : ps.length = (butN ls np).length := by rw [← e, List.length_map]
  rw [ask_but hp e, hl, basesF_drop, List.drop_left, List.take_left]
  show ch P (byOf c (butN ls np) np) * 1 = _
  exact Nat.mul_one _
theorem last_at {np : Str} : (basesF P c [] (butN ls np ++ [np]))[(butN ls np).length]? = some (ch P (byOf c (butN ls np) np)) := by
  have h : (butN ls np ++ [np])[(butN ls np).length]? = some np := by rw [List.getElem?_append_right (Nat.le_refl _), Nat.sub_self]; rfl
  have := basesF_get (P := P) (c := c) (ms := []) h
  rw [List.take_left] at this
  exact this
theorem but_order {np : Str} (hp : np ∈ nsOf ls) : (butN ls np ++ [np]).Nodup ∧ (∀ n ∈ butN ls np ++ [np], n ∈ nsOf ls) ∧ namesOf (butN ls np ++ [np]) = nsOf ls ∧ (butN ls np ++ [np]).length ≤ 10 := by
  have h0 : ∀ n, n ∈ butN ls np ++ [np] ↔ n ∈ nsOf ls := fun n => by
    rw [List.mem_append, butN_mem, List.mem_singleton]
    constructor
    · rintro (h | rfl)
      · exact h.1
      · exact hp
    · intro h
      by_cases e : n = np
      · exact .inr e
      · exact .inl ⟨h, e⟩
  have h1 : (butN ls np ++ [np]).Nodup := by
    rw [List.nodup_append]
    refine ⟨lt_nodup (butN_lt np), List.pairwise_singleton .., fun a ha b hb e => ?_⟩
    cases List.mem_singleton.mp hb
    exact (butN_mem.mp ha).2 e
  have h2 : namesOf (butN ls np ++ [np]) = nsOf ls := by
    have e : namesOf (nsOf ls) = nsOf ls := namesOf_of_lt (namesOf_lt _) fun n h => (mem_namesOf.mp h).1
    exact (namesOf_congr h0).trans e
  refine ⟨h1, fun n h => (h0 n).mp h, h2, ?_⟩
  have hp' : (butN ls np ++ [np]).length = (nsOf ls).length := ((List.perm_ext_iff_of_nodup h1 (nsOf_nd ls)).mpr h0).length_eq
  rw [hp']
  exact nsOf_len ls
theorem rev_names : (nsOf ls).reverse.Nodup ∧ (∀ n ∈ (nsOf ls).reverse, n ∈ nsOf ls) ∧ namesOf (nsOf ls).reverse = nsOf ls ∧ (nsOf ls).reverse.length ≤ 10 := by
  have e : namesOf (nsOf ls) = nsOf ls := namesOf_of_lt (namesOf_lt _) fun n h => (mem_namesOf.mp h).1
  refine ⟨(List.reverse_perm _).nodup_iff.mpr (nsOf_nd ls), fun n h => List.mem_reverse.mp h, ?_, by rw [List.length_reverse]; exact nsOf_len ls⟩
  rw [namesOf_congr fun n => List.mem_reverse]
  exact e
/-- what numbers told of a row say of each other -/
theorem told_S (hc : clo P ls = some c) {xs : List (Rk k)} (r : RowOf P ls xs) {ms : List Str} (hm : ∀ n ∈ ms, n ∈ nsOf ls) :
    ∀ p ∈ wdsR P (ms.map fun n => (n, asg (nsOf ls) xs n)), ∀ q ∈ wdsR P (ms.map fun n => (n, asg (nsOf ls) xs n)), p.1 ≠ q.1 → S c p.1 q.1 (q.2 - p.2) := by
  obtain ⟨h1, h2, h3⟩ := comp_con (r.comp hc)
  have key : ∀ p ∈ wdsR P (ms.map fun n => (n, asg (nsOf ls) xs n)), p ∈ (nsOf ls).zip xs := fun p hp => by
    unfold wdsR at hp
    rw [List.map_map] at hp
    obtain ⟨n, hn, rfl⟩ := List.mem_map.mp hp
    have hn := hm n hn
    obtain ⟨x, hx⟩ := zip_mem h1 hn
    have e := asg_mem (nsOf_nd ls) hx
    show (n, rst (asg (nsOf ls) xs n) P) ∈ _
    rw [rst_red_self r.b.pP (r.asg_red hn), e]
    exact hx
  exact fun p hp q hq ne => con_any (r.b.cl hc) h3 (key p hp) (key q hq) fun e => ne (congrArg Prod.fst e)
end
end J

/-! ## V9 -/
/-! The law's great checks. -/
namespace J
open PySem PySem.Spec PyProof.Rows L2 Q
open KR
open Evl (ex_rd ex_l ex_t)
theorem atI_last {α : Type} {l : List α} {n : Nat} {a : α} (hl : l.length = n + 1) (h : l[n]? = some a) : atI l (-1) = some a := by
  unfold atI ixN
  rw [hl, if_neg (by decide), if_pos (by omega)]
  have e : ((-1 : Int) + ((n + 1 : Nat) : Int)).toNat = n := by omega
  rw [e]
  exact h
section
variable {P : Program} {w : World} {K : PySem.W.Frag} {mg : Str → Option Value} {base : Heap}
abbrev grR {k : Kd} (m : D) (P : Rk k) (ls : List (Ln Str (Rk k))) (a : Nat) (xs : List (Rk k)) (x7 x8 x9 x10 x11 x12 x13 x14 x15 : Option (Bool × D)) : Env :=
  [some (true, m), some (false, bkD ls), some (false, iD P), some (false, .int (manyF P ls : Nat)), some (false, nmD (nsOf ls)), some (false, .int (a : Int)), some (false, rwD xs), x7, x8, x9, x10, x11, x12, x13, x14, x15, none, none, none]
theorem ne_selfI (i : Int) : (!decide (i = i)) = false := by rw [decide_eq_true rfl]; rfl
def f_law_great_right : List D → (D → D → Prop) → Prop := fun ds Po => ∃ (g : D) (N : Nat), ds = [g] ∧ Po = (fun _ d => d = .bl true) ∧ GenOk N g ∧ N ≤ 5000
theorem s_law_great_right : FnScope [("_law_generator_here" : Str), ("_law_book_here" : Str), ("_law_period_here" : Str), ("_law_many" : Str), ("_law_names_here" : Str), ("_law_at" : Str), ("_law_row" : Str), ("_law_one" : Str), ("_law_other" : Str), ("_law_ahead" : Str), ("_law_by" : Str), ("_law_apart" : Str), ("_law_later" : Str), ("_law_order" : Str), ("_law_place" : Str), ("_law_told_here" : Str), ("_law_name" : Str), ("_law_item" : Str), ("_law_number" : Str)] ["_law_generator_here"] (defScope (Hd.top 104)) := ⟨rfl, rfl, rfl, by decide +kernel, rfl, by decide +kernel, by decide +kernel⟩
theorem c_law_great_right (T : Tx K mg) (k : Nat) : Cal P w K mg base (k + 12) "_law_great_right" (spM K 0 f_law_great_right) := by
  have c_law_great := c_law_great (P := P) (w := w) (base := base) T k
  have c_law_random := c_law_random (P := P) (w := w) (base := base) T k
  have c_row_numbered := c_row_numbered (P := P) (w := w) (base := base) T k
  have c_how_many_rows := c_how_many_rows (P := P) (w := w) (base := base) T k
  have c_law_names := c_law_names (P := P) (w := w) (base := base) T k
  have c_law_less := c_law_less (P := P) (w := w) (base := base) T k
  have c_next_row := c_next_row (P := P) (w := w) (base := base) T k
  have c_how_many_with := c_how_many_with (P := P) (w := w) (base := base) T k
  have c_law_plus := c_law_plus (P := P) (w := w) (base := base) T k
  have c_law_rest := c_law_rest (P := P) (w := w) (base := base) T k
  have c_keeps_row := c_keeps_row (P := P) (w := w) (base := base) T k
  have c_number_of_row := c_number_of_row (P := P) (w := w) (base := base) T k
  have c_law_product := c_law_product (P := P) (w := w) (base := base) T k
  have c_choices_left := c_choices_left (P := P) (w := w) (base := base) T k
  have c_law_size := c_law_size (P := P) (w := w) (base := base) T k
  have sc := s_law_great_right
  refine cal_of (k := k + 11) T 75 75 rfl rfl s_law_great_right (fun _ _ _ _ _ _ us hl => match us, hl with | [_], _ => rfl) (fun vs H Q E h => spM_len h (n := 1) (by rintro _ _ ⟨g, N, rfl, rfl, hg, hN⟩; rfl)) fun cdv A outer s H vs Q E hr h => ⟨_, PSs.nox (pss_cons (ps_asg (pe_c c_law_great hr (by omega) (by rfl) (pa_cons (pv 0) pa_nil)) (pg_unl rfl (pgs_cons (pg_name (i := 1) sc.nd rfl (Or.inr rfl)) (pgs_cons (pg_name (i := 2) sc.nd rfl (Or.inr rfl)) pgs_nil)))) (pss_cons (ps_asg (pe_tup (pa_cons (pe_c c_how_many_rows hr (by omega) (by rfl) (pa_cons (pv 1) (pa_cons (pv 2) pa_nil))) (pa_cons (pe_c c_law_names hr (by omega) (by rfl) (pa_cons (pv 1) pa_nil)) pa_nil))) (pg_tup rfl (pgs_cons (pg_name (i := 3) sc.nd rfl (Or.inl rfl)) (pgs_cons (pg_name (i := 4) sc.nd rfl (Or.inr rfl)) pgs_nil)))) (pss_cons (ps_set (i := 5) sc.nd rfl (Or.inl rfl) (pe_c c_law_random hr (by omega) (by rfl) (pa_cons (pv 0) (pa_cons (pv 3) pa_nil)))) (pss_cons (ps_set (i := 6) sc.nd rfl (Or.inr rfl) (pe_c c_row_numbered hr (by omega) (by rfl) (pa_cons (pv 1) (pa_cons (pv 2) (pa_cons (pv 5) pa_nil))))) (pss_cons (ps_for PassesOwn.never rfl (pi_list (pe_ix ix_tup (pv 1) pe_int (fun _ _ => rfl))) (pg_tup rfl (pgs_cons (pg_name (i := 7) sc.nd rfl (Or.inl rfl)) (pgs_cons (pg_name (i := 8) sc.nd rfl (Or.inl rfl)) (pgs_cons (pg_name (i := 9) sc.nd rfl (Or.inl rfl)) (pgs_cons (pg_name (i := 10) sc.nd rfl (Or.inl rfl)) pgs_nil))))) (pss_cons (ps_set (i := 11) sc.nd rfl (Or.inl rfl) (pe_c c_law_less hr (by omega) (by rfl) (pa_cons (pe_ix ix_tup (pv 1) pe_int (fun _ _ => rfl)) (pa_cons (pe_ix ix_list (pv 6) (pe_bm PySem.F.plainAttrs_list PySem.F.slot_list_index PySem.F.type_list_index mt_index (pv 4) (pa_cons (pv 8) pa_nil)) (fun _ _ => rfl)) (pa_cons (pe_c c_law_plus hr (by omega) (by rfl) (pa_cons (pe_ix ix_tup (pv 1) pe_int (fun _ _ => rfl)) (pa_cons (pe_ix ix_list (pv 6) (pe_bm PySem.F.plainAttrs_list PySem.F.slot_list_index PySem.F.type_list_index mt_index (pv 4) (pa_cons (pv 7) pa_nil)) (fun _ _ => rfl)) (pa_cons (pv 9) pa_nil)))) pa_nil))))) (pss_one (ps_if (pt_cmpR (op_ne) (pe_c c_law_rest hr (by omega) (by rfl) (pa_cons (pe_ix ix_tup (pv 1) pe_int (fun _ _ => rfl)) (pa_cons (pv 11) (pa_cons (pe_ifExp (pt_cmpR (op_gt) (pv 10) pe_int (nomark _)) (pv 10) (pv 2)) pa_nil)))) pe_int (nomark _)) (pss_one (ps_ret pe_bl)) pss_nil)))) (pss_cons (ps_if (PW.pt (pw_or (pt_cmpR (op_neD hr.units) (pe_lc (own := [(("_law_item" : Str), 17)]) (g := gName 17) rfl sc.nd  (pi_list (pv 6)) (blkOk_by (own := [(("_law_item" : Str), 17)]) (N := [("_law_generator_here" : Str), ("_law_book_here" : Str), ("_law_period_here" : Str), ("_law_many" : Str), ("_law_names_here" : Str), ("_law_at" : Str), ("_law_row" : Str), ("_law_one" : Str), ("_law_other" : Str), ("_law_ahead" : Str), ("_law_by" : Str), ("_law_apart" : Str), ("_law_later" : Str), ("_law_order" : Str), ("_law_place" : Str), ("_law_told_here" : Str), ("_law_name" : Str), ("_law_item" : Str), ("_law_number" : Str)]) (sc := defScope (Hd.top 104)) (by decide +kernel)) (fun _ _ _ _ _ => (pg_name (i := 17) sc.nd rfl (Or.inl rfl))) (fun _ _ _ _ _ => (pts_one (pt_cmpR (op_ne) (pv 17) (pe_c c_law_rest hr (by omega) (by rfl) (pa_cons (pe_ix (show IxR _ (rIxT K) from ix_tup) (pv 1) pe_int (fun _ _ => rfl)) (pa_cons (pv 17) (pa_cons (pv 2) pa_nil)))) (nomark _)))) (fun _ _ _ _ _ => (pv 17))) (pe_lst pa_nil) (nomark _)) (pw_or1 (pt_cmpR (op_notBl) (pe_c c_keeps_row hr (by omega) (by rfl) (pa_cons (pv 1) (pa_cons (pv 2) (pa_cons (pv 6) pa_nil)))) pe_bl (nomark _))))) (pss_one (ps_ret pe_bl)) pss_nil) (pss_cons (ps_par (i := 12) (j := 13) (by rfl) sc.nd rfl rfl (by decide) rfl rfl (pa_cons (pe_c c_next_row hr (by omega) (by rfl) (pa_cons (pv 1) (pa_cons (pv 2) (pa_cons (pv 6) pa_nil)))) (pa_cons (pe_revL (pv 4)) pa_nil)) (by rfl)) (pss_cons (ps_if (PW.pt (pw_or (pt_cmpR (op_ne) (pe_c c_number_of_row hr (by omega) (by rfl) (pa_cons (pv 1) (pa_cons (pv 2) (pa_cons (pv 6) pa_nil)))) (pv 5) (nomark _)) (pw_or (pt_cmpR (op_ne) (pe_cmpR (op_isN) (pv 12) pe_non (nomark _)) (pe_cmpR (op_eq) (pe_op op_add (pv 5) pe_int) (pv 3) (nomark _)) (nomark _)) (pw_or1 (PW.pt (pw_and (pt_cmpR (op_notN) (pv 12) pe_non (nomark _)) (pw_and1 (pt_not (pt_cmpR (op_gtD hr.units) (pv 12) (pv 6) (nomark _)))))))))) (pss_one (ps_ret pe_bl)) pss_nil) (pss_cons (ps_if (PW.pt (pw_or (pt_cmpR (op_ne) (pe_c c_law_product hr (by omega) (by rfl) (pa_cons (pe_c c_choices_left hr (by omega) (by rfl) (pa_cons (pv 1) (pa_cons (pv 2) (pa_cons (pv 13) pa_nil)))) pa_nil)) (pv 3) (nomark _)) (pw_or1 (pt_cmpR (op_ne) (pe_op op_mulX (pe_c c_how_many_with hr (by omega) (by rfl) (pa_cons (pv 1) (pa_cons (pv 2) (pa_cons (pe_lst (pa_cons (pe_tup (pa_cons (pe_ix ix_list (pv 4) pe_int (fun _ _ => rfl)) (pa_cons (pe_ix ix_list (pv 6) pe_int (fun _ _ => rfl)) pa_nil))) pa_nil)) pa_nil)))) (pe_c c_law_size hr (by omega) (by rfl) (pa_cons (pe_ix ix_tup (pv 1) pe_int (fun _ _ => rfl)) (pa_cons (pv 2) pa_nil)))) (pv 3) (nomark _))))) (pss_one (ps_ret pe_bl)) pss_nil) (pss_cons (ps_set (i := 14) sc.nd rfl (Or.inr rfl) (pe_c c_law_random hr (by omega) (by rfl) (pa_cons (pv 0) (pa_cons (pe_callB call_len_seq (by rfl) (T.fr 82 rfl) (by decide +kernel) (pa_cons (pv 4) pa_nil)) pa_nil)))) (pss_cons (ps_setLc (i := 15) (own := [(("_law_name" : Str), 16)]) (g := gName 16) rfl sc.nd rfl rfl (sw_true rfl rfl rfl (by decide +kernel)) (pi_list (pv 4)) (blkOk_by (own := [(("_law_name" : Str), 16)]) (N := [("_law_generator_here" : Str), ("_law_book_here" : Str), ("_law_period_here" : Str), ("_law_many" : Str), ("_law_names_here" : Str), ("_law_at" : Str), ("_law_row" : Str), ("_law_one" : Str), ("_law_other" : Str), ("_law_ahead" : Str), ("_law_by" : Str), ("_law_apart" : Str), ("_law_later" : Str), ("_law_order" : Str), ("_law_place" : Str), ("_law_told_here" : Str), ("_law_name" : Str), ("_law_item" : Str), ("_law_number" : Str)]) (sc := defScope (Hd.top 104)) (by decide +kernel)) (fun _ _ _ _ _ => (pg_name (i := 16) sc.nd rfl (Or.inl rfl))) (fun _ _ _ _ _ => (pts_one (pt_cmpR (op_ne) (pv 16) (pe_ix (show IxR _ (rIxL K) from ix_list) (pv 4) (pv 14) (fun _ _ => rfl)) (nomark _)))) (fun _ _ _ _ _ => (pe_tup (pa_cons (pv 16) (pa_cons (pe_ix (show IxR _ (rIxL K) from ix_list) (pv 6) (show PE _ _ (tBM K "list" (rIndex K) _ _) from pe_bm PySem.F.plainAttrs_list PySem.F.slot_list_index PySem.F.type_list_index mt_index (pv 4) (pa_cons (pv 16) pa_nil)) (fun _ _ => rfl)) pa_nil))))) (pss_cons (ps_if (pt_cmpR (op_ne) (pe_c c_how_many_with hr (by omega) (by rfl) (pa_cons (pv 1) (pa_cons (pv 2) (pa_cons (pv 15) pa_nil)))) (pe_ix ix_list (pe_c c_choices_left hr (by omega) (by rfl) (pa_cons (pv 1) (pa_cons (pv 2) (pa_cons (pe_op op_cat (pe_lc (own := [(("_law_name" : Str), 16), (("_law_number" : Str), 18)]) (g := gTup K 2 (gCons (gName 16) (gCons (gName 18) gNil))) rfl sc.nd  (pi_list (pv 15)) (blkOk_by (own := [(("_law_name" : Str), 16), (("_law_number" : Str), 18)]) (N := [("_law_generator_here" : Str), ("_law_book_here" : Str), ("_law_period_here" : Str), ("_law_many" : Str), ("_law_names_here" : Str), ("_law_at" : Str), ("_law_row" : Str), ("_law_one" : Str), ("_law_other" : Str), ("_law_ahead" : Str), ("_law_by" : Str), ("_law_apart" : Str), ("_law_later" : Str), ("_law_order" : Str), ("_law_place" : Str), ("_law_told_here" : Str), ("_law_name" : Str), ("_law_item" : Str), ("_law_number" : Str)]) (sc := defScope (Hd.top 104)) (by decide +kernel)) (fun _ _ _ _ _ => (pg_tup rfl (pgs_cons (pg_name (i := 16) sc.nd rfl (Or.inl rfl)) (pgs_cons (pg_name (i := 18) sc.nd rfl (Or.inl rfl)) pgs_nil)))) (fun _ _ _ _ _ => pts_nil) (fun _ _ _ _ _ => (pv 16))) (pe_lst (pa_cons (pe_ix ix_list (pv 4) (pv 14) (fun _ _ => rfl)) pa_nil))) pa_nil)))) (pe_un un_neg pe_int) (fun _ _ => rfl)) (nomark _)) (pss_one (ps_ret pe_bl)) pss_nil) (pss_one (ps_ret (pe_or (pe_cmpR (op_isN) (pv 12) pe_non (nomark _)) (pe_one (pe_cmpR (op_eq) (pe_c c_number_of_row hr (by omega) (by rfl) (pa_cons (pv 1) (pa_cons (pv 2) (pa_cons (pv 12) pa_nil)))) (pe_op op_add (pv 5) pe_int) (nomark _)))))))))))))))))), spM_run h ?_⟩
  clear h
  rintro an ds Po ⟨g, N, rfl, rfl, hg, hN⟩
  show WS K (some (0, an)) _ [some (true, _), none, none, none, none, none, none, none, none, none, none, none, none, none, none, none, none, none, none] _ _
  have hz := szl (Nat.le_refl 1000000)
  refine ws_seq (ws_asgW (we_callM (i := 0) (j := 0) (P := grP N) rfl (em_here ea_nil) ⟨g, N, rfl, rfl, hg, by omega⟩ fun m d hp => ?_))
  obtain ⟨hg1, k, P1, ls, rfl, gb⟩ := hp
  refine wm_unl rfl (wms_cons (wm_name (wms_cons (wm_name (wms_nil ?_)))))
  have b := gb.bkp
  have pP := b.pP
  have hln := nsOf_len ls
  obtain ⟨f, kp⟩ := gb.kp
  have hM := many_pos b kp
  have hMs := many_sz b
  obtain ⟨c, hc⟩ := clo_of hM
  have ok := b.ok hc
  refine ws_seq (ws_asg (ev_tup (ea_cons (ev_call (ea_cons (ev_var rfl) (ea_cons (ev_var rfl) ea_nil)) ⟨k, P1, ls, rfl, rfl, b⟩) (ea_cons (ev_call (ea_cons (ev_var rfl) ea_nil) ⟨k, ls, rfl, rfl, b.bk.names, b.bk.ln⟩) ea_nil)) (szb rfl)) (wg_tup rfl (wgs_cons (wg_name (wgs_cons (wg_name (wgs_nil ?_)))))))
  refine ws_seq (ws_setW (we_rnd (i := 0) rfl (ev_var rfl) hg1 (by omega) hMs (by omega) fun ma a hga ha => ?_))
  have ha : a < manyF P1 ls := by omega
  refine ws_seq (ws_set (ev_is (ev_call (ea_cons (ev_var rfl) (ea_cons (ev_var rfl) (ea_cons (ev_var rfl) ea_nil))) ⟨k, P1, ls, a, rfl, rfl, b⟩) (if_pos ha)) ?_)
  obtain ⟨rof, hnum⟩ := rowOf_rowO b ha
  have hlt : ∀ h : a + 1 < manyF P1 ls, (rowO P1 ls a).map io < (rowO P1 ls (a + 1)).map io := fun h => row_later b h
  generalize hxs : rowO P1 ls a = xs at *
  have hrl := rof.len
  have ixE : ∀ {ρ : Env} {q : Nat} {n : Str}, ρ[4]? = some (some (false, nmD (nsOf ls))) → ρ[6]? = some (some (false, rwD xs)) → ρ[q]? = some (some (false, .str n)) → n ∈ nsOf ls → Ev K (tOp (rIxL K) (tVar 6) (tBM K "list" (rIndex K) (tVar 4) (tCons (tVar q) tNil))) ρ (iD (asg (nsOf ls) xs n)) := fun h4 h6 hq hn => by
    obtain ⟨j, h1, h2⟩ := rof.place hn
    exact ev_op (ev_var h6) (ev_bmL (ev_var h4) (ea_cons (ev_var hq) ea_nil) (om_index (nsOf_nd ls) h1)) (op_ixL (atI_nat (by rw [List.getElem?_map, h2]; rfl)))
  refine ws_seq (ws_forL (js := [7, 8, 9, 10]) (fun t ρ' => ∃ (x7 x8 x9 x10 x11 : Option (Bool × D)), ρ' = grR ma P1 ls a xs x7 x8 x9 x10 x11 none none none none) (l := ls.map lnD) (ev_op (ev_var rfl) ev_int (op_ixT rfl)) ⟨none, none, none, none, none, rfl⟩ ?_ ?_)
  · rintro t d ρ' hd ⟨x7, x8, x9, x10, x11, rfl⟩
    rw [List.getElem?_map, Option.map_eq_some_iff] at hd
    obtain ⟨l, hl, rfl⟩ := hd
    have hl := List.mem_of_getElem? hl
    obtain ⟨n1, n2⟩ := b.nm0 hl
    obtain ⟨bdv, bps⟩ := byP_dv b hl
    have sx := rof.asg_sz n1
    have sy := rof.asg_sz n2
    have sl := gb.az l hl
    have sb : Szr 200 (byP P1 l) := sz_dv bdv pP bps.cnt b.sP
    refine wg_tup rfl (wgs_cons (wg_name (wgs_cons (wg_name (wgs_cons (wg_name (wgs_cons (wg_name (wgs_nil ?_)))))))))
    refine ws_seq (ws_set (ev_call (ea_cons (ev_op (ev_var rfl) ev_int (op_ixT rfl)) (ea_cons (ixE rfl rfl rfl n2) (ea_cons (ev_call (ea_cons (ev_op (ev_var rfl) ev_int (op_ixT rfl)) (ea_cons (ixE rfl rfl rfl n1) (ea_cons (ev_var rfl) ea_nil))) ⟨k, asg (nsOf ls) xs l.1, l.2.2.1, rfl, rfl⟩) ea_nil))) ⟨k, asg (nsOf ls) xs l.2.1, asg (nsOf ls) xs l.1 + l.2.2.1, rfl, rfl⟩) ?_)
    refine ws_ifno (et_is (et_test (ev_op (ev_call (ea_cons (ev_op (ev_var rfl) ev_int (op_ixT rfl)) (ea_cons (ev_var rfl) (ea_cons (ev_if (d := iD (byP P1 l)) (et_test (ev_op (ev_var rfl) ev_int op_b0)) (fun h => ev_is (ev_var rfl) ?_) fun h => ev_is (ev_var rfl) ?_) ea_nil))) ⟨k, asg (nsOf ls) xs l.2.1 - (asg (nsOf ls) xs l.1 + l.2.2.1), byP P1 l, rfl, rfl, bps.cnt, sb.mono (by omega), (sz_subR (sy.mono (show 200 ≤ 201 by decide)) (sz_addR sx sl)).mono (by omega)⟩) ev_int op_neI)) ?_) ⟨_, _, _, _, _, rfl⟩
    · have h := of_decide_eq_true h
      unfold byP
      rw [if_pos h]
    · have h := of_decide_eq_false h
      unfold byP
      rw [if_neg h]
    · rw [rof.line hl]
      rfl
  rintro ρ' ⟨x7, x8, x9, x10, x11, rfl⟩
  refine ws_seq (ws_ifno (et_is (et_or (et_test (ev_op (en_lcNone (js := [17]) (ei_list (ev_var rfl)) (len_szl (by rw [List.length_map]; omega)) (by decide) fun d hd => ?_).ev (ev_lst ea_nil (szb rfl)) op_ne00)) fun _ => et_test (ev_op (ev_call (ea_cons (ev_var rfl) (ea_cons (ev_var rfl) (ea_cons (ev_var rfl) ea_nil))) ⟨k, P1, ls, xs, rfl, rfl, rof⟩) ev_bl op_notB)) rfl) ?_)
  · obtain ⟨x, hm, rfl⟩ := List.mem_map.mp hd
    have sx : Szr 200 x := sz_red (rof.red x hm) b.sP
    refine wg_name (et_is (et_test (ev_op (ev_var rfl) (ev_call (ea_cons (ev_op (ev_var rfl) ev_int (op_ixT rfl)) (ea_cons (ev_var rfl) (ea_cons (ev_var rfl) ea_nil))) ⟨k, x, P1, rfl, rfl, pP.cnt, b.sP.mono (by omega), sx.mono (by omega)⟩) op_neI)) ?_)
    rw [rst_red_self pP (rof.red x hm)]
    exact ne_selfI _
  obtain ⟨L, hL, hL1, hL2⟩ : ∃ L : D, (if a + 1 < manyF P1 ls then rwD (rowO P1 ls (a + 1)) else .non) = L ∧ (isN L = decide (a + 1 = manyF P1 ls)) ∧ (isN L = false → a + 1 < manyF P1 ls ∧ L = rwD (rowO P1 ls (a + 1))) := by
    by_cases h : a + 1 < manyF P1 ls
    · refine ⟨_, if_pos h, ?_, fun _ => ⟨h, rfl⟩⟩
      rw [decide_eq_false (by omega)]
      rfl
    · refine ⟨_, if_neg h, ?_, fun z => nomatch z⟩
      rw [decide_eq_true (by omega)]
      rfl
  obtain ⟨rn1, rn2, rn3, rn4⟩ := rev_names (ls := ls)
  refine ws_seq (ws_par (ea_cons (ev_is (ev_call (ea_cons (ev_var rfl) (ea_cons (ev_var rfl) (ea_cons (ev_var rfl) ea_nil))) ⟨k, P1, ls, xs, rfl, rfl, rof⟩) (show _ = L from by rw [hnum]; exact hL)) (ea_cons (ev_is (en_revL (ev_var rfl)).ev (show _ = nmD (nsOf ls).reverse from congrArg D.lst List.map_reverse.symm)) ea_nil)) ?_)
  refine ws_seq (ws_ifno (et_is (et_or (et_test (ev_op (ev_is (ev_call (ea_cons (ev_var rfl) (ea_cons (ev_var rfl) (ea_cons (ev_var rfl) ea_nil))) ⟨k, P1, ls, xs, rfl, rfl, rof⟩) (show _ = D.int (a : Int) from by rw [hnum])) (ev_var rfl) op_neI)) fun _ => et_or (et_test (ev_op (ev_op (ev_var rfl) ev_non (op_isNd _)) (ev_op (ev_op (ev_var rfl) ev_int op_i0) (ev_var rfl) op_eqI) op_neB)) fun _ => et_and (b := false) (et_test (ev_op (ev_var rfl) ev_non (op_notNd _))) fun h => ?_) ?_) ?_)
  · have h : isN L = false := by simpa using h
    obtain ⟨h1, h2⟩ := hL2 h
    refine et_nT (et_is (et_test (ev_op (ev_is (ev_var rfl) (h2.trans (rwD_ints _))) (ev_is (ev_var rfl) (rwD_ints _)) op_gtL)) (decide_eq_true (hlt h1)))
  · rw [ne_selfI, hL1, Bool.and_false, Bool.or_false]
    have e : decide ((a : Int) + 1 = ((manyF P1 ls : Nat) : Int)) = decide (a + 1 = manyF P1 ls) := decide_eq_decide.mpr (by omega)
    rw [e, decide_eq_true rfl]
    rfl
  obtain ⟨n0, tl, hns⟩ : ∃ n0 tl, nsOf ls = n0 :: tl := by
    cases e : nsOf ls with
    | nil =>
      cases hls : ls with
      | nil => exact absurd hls gb.nz
      | cons l0 _ =>
        have := (b.nm0 (l := l0) (by rw [hls]; exact List.mem_cons_self ..)).1
        rw [e] at this
        cases this
    | cons n0 tl => exact ⟨n0, tl, rfl⟩
  have h00 : (nsOf ls)[0]? = some n0 := by rw [hns]; rfl
  have n0m : n0 ∈ nsOf ls := List.mem_of_getElem? h00
  have x00 : xs[0]? = some (asg (nsOf ls) xs n0) := by
    obtain ⟨j, h1, h2⟩ := rof.place n0m
    obtain ⟨q1, e1⟩ := List.getElem?_eq_some_iff.mp h1
    obtain ⟨q2, e2⟩ := List.getElem?_eq_some_iff.mp h00
    have : j = 0 := (List.getElem_inj (nsOf_nd ls) (h₀ := q1) (h₁ := q2)).mp (e1.trans e2.symm)
    rw [this] at h2
    exact h2
  have Pc := rev_order b hc
  have Oc := one_count hc (x := asg (nsOf ls) xs n0) hns
  have szO : Sz 2100 ((prodN ((basesF P1 c [] (askO [(n0, asg (nsOf ls) xs n0)] ls)).drop 1) : Nat) : Int) := by
    refine sz_nat.mpr ?_
    have sp := sizeF_pos pP
    have h1 : prodN ((basesF P1 c [] (askO [(n0, asg (nsOf ls) xs n0)] ls)).drop 1) ≤ manyF P1 ls := by
      rw [← Oc]
      exact Nat.le_mul_of_pos_right _ sp
    exact Nat.lt_of_le_of_lt h1 (sz_nat.mp hMs)
  have szS : Sz 200 ((sizeF P1 : Nat) : Int) := sz_nat.mpr (ch_sz pP ps_one (Dv.one _) b.sP)
  refine ws_seq (ws_ifno (et_is (et_or (et_test (ev_op (ev_call (ea_cons (ev_call (ea_cons (ev_var rfl) (ea_cons (ev_var rfl) (ea_cons (ev_var rfl) ea_nil))) ⟨k, P1, ls, (nsOf ls).reverse, rfl, rfl, b, rn1, rn2, rn3, rn4⟩) ea_nil) ⟨basesO P1 ls (nsOf ls).reverse, rfl, rfl, ?_, ?_⟩) (ev_var rfl) op_neI)) fun _ => et_test (ev_op (ev_op (ev_call (ea_cons (ev_var rfl) (ea_cons (ev_var rfl) (ea_cons (ev_lst (ea_cons (ev_tup (ea_cons (ev_op (ev_var rfl) ev_int (op_ixL (atI_nat (i := 0) (by rw [List.getElem?_map, h00]; rfl)))) (ea_cons (ev_op (ev_var rfl) ev_int (op_ixL (atI_nat (i := 0) (by rw [List.getElem?_map, x00]; rfl)))) ea_nil)) (szb rfl)) ea_nil) (szb rfl)) ea_nil))) ⟨k, P1, ls, c, [(n0, asg (nsOf ls) xs n0)], rfl, rfl, b, hc, ?_, ?_, ?_, ?_⟩) (ev_call (ea_cons (ev_op (ev_var rfl) ev_int (op_ixT rfl)) (ea_cons (ev_var rfl) ea_nil)) ⟨k, P1, rfl, rfl, pP, b.sP.mono (by omega)⟩) (op_iC (mulx_ok szO szS (by decide)))) (ev_var rfl) op_neI)) ?_) ?_)
  · rw [basesO_some hc]
    exact fun z hz => basesF_sz ok.ok pP (b.sP.mono (by omega)) z hz
  · rw [basesO_some hc, basesF_len]
    omega
  · intro p hp
    cases List.mem_singleton.mp hp
    exact n0m
  · exact List.pairwise_singleton ..
  · intro p hp
    cases List.mem_singleton.mp hp
    exact (rof.asg_sz n0m).mono (by omega)
  · exact told_S hc rof (ms := [n0]) fun n hn => by
      cases List.mem_singleton.mp hn
      exact n0m
  · have e : ((prodN ((basesF P1 c [] (askO [(n0, asg (nsOf ls) xs n0)] ls)).drop 1) : Nat) : Int) * ((sizeF P1 : Nat) : Int) = ((manyF P1 ls : Nat) : Int) := by rw [← Int.natCast_mul, Oc]
    show ((!decide ((prodN (basesO P1 ls (nsOf ls).reverse) : Nat) = ((manyF P1 ls : Nat) : Int))) || (!decide (((prodN ((basesF P1 c [] (askO [(n0, asg (nsOf ls) xs n0)] ls)).drop 1) : Nat) : Int) * ((sizeF P1 : Nat) : Int) = ((manyF P1 ls : Nat) : Int)))) = false
    rw [e, Pc, ne_selfI]
    rfl
  have hnl : ((nsOf ls).map D.str).length = (nsOf ls).length := List.length_map ..
  have hnp : 0 < (nsOf ls).length := by rw [hns]; exact Nat.zero_lt_succ _
  refine ws_seq (ws_setW (we_rnd (i := 0) rfl (ev_is (ev_cb (ea_cons (ev_var rfl) ea_nil) (op_lenL rfl)) (congrArg (fun n : Nat => D.int (n : Int)) hnl)) hga (by omega) (Nat.lt_of_lt_of_le (show (((nsOf ls).length : Nat) : Int).natAbs < 2 ^ 5 by omega) (Nat.pow_le_pow_right (by decide) (by decide))) (by omega) fun mp pl hgp hpl => ?_))
  obtain ⟨np, hnp⟩ : ∃ n, (nsOf ls)[pl]? = some n := ⟨_, List.getElem?_eq_getElem (by omega)⟩
  have npm : np ∈ nsOf ls := List.mem_of_getElem? hnp
  obtain ⟨o1, o2, o3, o4⟩ := but_order (ls := ls) npm
  have ixP : ∀ {ρ : Env}, ρ[4]? = some (some (false, nmD (nsOf ls))) → ρ[14]? = some (some (false, .int (pl : Int))) → Ev K (tOp (rIxL K) (tVar 4) (tVar 14)) ρ (.str np) := fun h4 h14 => ev_op (ev_var h4) (ev_var h14) (op_ixL (atI_nat (by rw [List.getElem?_map, hnp]; rfl)))
  refine ws_seq (ws_set (ev_is (en_lcL (js := [16]) (fun d => match d with | .str s => !decide (s = np) | _ => false) (fun d => match d with | .str s => pairD (s, asg (nsOf ls) xs s) | _ => .non) (ev_var rfl) (len_szl (by rw [List.length_map]; omega)) (by decide) fun d hd => ?_).ev (show _ = D.lst (((butN ls np).map fun n => (n, asg (nsOf ls) xs n)).map pairD) from ?_)) ?_)
  · obtain ⟨n, hm, rfl⟩ := List.mem_map.mp hd
    exact wg_name ⟨et_test (ev_op (ev_var rfl) (ixP rfl rfl) op_neS), fun _ => ev_tup (ea_cons (ev_var rfl) (ea_cons (ixE rfl rfl rfl hm) ea_nil)) (szb rfl)⟩
  · refine congrArg D.lst ?_
    unfold pick butN
    rw [List.filter_map, List.map_map, List.map_map]
    rfl
  have pfst : ((butN ls np).map fun n => (n, asg (nsOf ls) xs n)).map Prod.fst = butN ls np := by
    rw [List.map_map]
    exact List.map_id' _
  have blen : (butN ls np).length ≤ 10 := by
    rw [List.length_append] at o4
    omega
  refine ws_seq (ws_ifno (et_is (et_test (ev_op (ev_call (ea_cons (ev_var rfl) (ea_cons (ev_var rfl) (ea_cons (ev_var rfl) ea_nil))) ⟨k, P1, ls, c, (butN ls np).map fun n => (n, asg (nsOf ls) xs n), rfl, rfl, b, hc, ?_, ?_, ?_, told_S hc rof fun n hn => (butN_mem.mp hn).1⟩) (ev_op (ev_call (ea_cons (ev_var rfl) (ea_cons (ev_var rfl) (ea_cons (ev_is (ev_op (en_lcL (js := [16, 18]) (fun _ => true) (fun d => match d with | .tup (x :: _) => x | _ => .non) (ev_var rfl) (len_szl (by rw [List.length_map, List.length_map]; omega)) (by decide) fun d hd => ?_).ev (ev_lst (ea_cons (ixP rfl rfl) ea_nil) (szb rfl)) (op_catL ?_)) (show _ = nmD (butN ls np ++ [np]) from ?_)) ea_nil))) ⟨k, P1, ls, butN ls np ++ [np], rfl, rfl, b, o1, o2, o3, o4⟩) (ev_un ev_int o1_neg) (op_ixL (d := .int ((ch P1 (byOf c (butN ls np) np) : Nat) : Int)) ?_)) op_neI)) ?_) ?_)
  · intro p hp
    obtain ⟨n, hn, rfl⟩ := List.mem_map.mp hp
    exact (butN_mem.mp hn).1
  · show (((butN ls np).map fun n => (n, asg (nsOf ls) xs n)).map Prod.fst).Pairwise strLt
    rw [pfst]
    exact butN_lt np
  · intro p hp
    obtain ⟨n, hn, rfl⟩ := List.mem_map.mp hp
    exact (rof.asg_sz (butN_mem.mp hn).1).mono (by omega)
  · obtain ⟨p, hm, rfl⟩ := List.mem_map.mp hd
    exact wg_tup rfl (wgs_cons (wg_name (wgs_cons (wg_name (wgs_nil ⟨et_yes, fun _ => ev_var rfl⟩)))))
  · rw [pick_all, List.length_map, List.length_map, List.length_map]
    show (butN ls np).length + 1 ≤ sizeLine
    omega
  · rw [pick_all, List.map_map, List.map_map]
    unfold nmD
    rw [List.map_append]
    rfl
  · rw [basesO_some hc]
    have hl : (basesF P1 c [] (butN ls np ++ [np])).length = (butN ls np).length + 1 := by rw [basesF_len, List.length_append]; rfl
    have hg := last_at (P := P1) (c := c) (ls := ls) (np := np)
    exact atI_last (by rw [List.length_map]; exact hl) (by rw [List.getElem?_map, hg]; rfl)
  · rw [last_count npm pfst]
    exact ne_selfI _
  refine ws_ret (ev_is (ev_orV (ev_op (ev_var rfl) ev_non (op_isNd _)) fun h => ev_op (ev_is (ev_call (ea_cons (ev_var rfl) (ea_cons (ev_var rfl) (ea_cons (ev_is (ev_var rfl) (hL2 h).2) ea_nil))) ⟨k, P1, ls, rowO P1 ls (a + 1), rfl, rfl, (rowOf_rowO b (hL2 h).1).1⟩) (show _ = D.int ((a + 1 : Nat) : Int) from by rw [(rowOf_rowO b (hL2 h).1).2])) (ev_op (ev_var rfl) ev_int op_i0) op_eqI) (show D.bl (isN L || decide (((a + 1 : Nat) : Int) = (a : Int) + 1)) = .bl true from ?_)) ⟨mp, rfl, rfl⟩
  rw [Int.natCast_add]
  rw [show decide ((a : Int) + ((1 : Nat) : Int) = (a : Int) + 1) = true from decide_eq_true rfl, Bool.or_true]

end
end J

/-! ## Bc -/
/-! Given books looked at by computing. -/
namespace J
open PySem PySem.Spec PyProof.Rows L2 Q
open KR
section
variable {k : Kd} {P : Rk k} {ls : List (Ln Str (Rk k))}
def lineB (P : Rk k) (l : Ln Str (Rk k)) : Bool := decide (l.1 ∈ NAMES) && decide (l.2.1 ∈ NAMES) && decide (l.1 ≠ l.2.1) && decide (0 ≤ io l.2.2.2) && (decide (io l.2.2.2 = 0) || (decide (io (rst l.2.2.1 l.2.2.2) = io l.2.2.1) && decide (io (rst P l.2.2.2) = 0))) && decide ((io l.2.2.1).natAbs < 2 ^ 60)
def bookB (P : Rk k) (ls : List (Ln Str (Rk k))) : Bool := decide (0 < io P) && decide ((io P).natAbs < 2 ^ 60) && decide (ls.length ≤ 20) && ls.all (lineB P)
theorem bkP_of (h : bookB P ls = true) : BkP P ls := by
  unfold bookB at h
  simp only [Bool.and_eq_true, decide_eq_true_eq, List.all_eq_true] at h
  obtain ⟨⟨⟨h1, h2⟩, h3⟩, h4⟩ := h
  have each : ∀ l ∈ ls, l.1 ∈ NAMES ∧ l.2.1 ∈ NAMES ∧ l.1 ≠ l.2.1 ∧ 0 ≤ io l.2.2.2 ∧ (io l.2.2.2 = 0 ∨ (red l.2.2.2 l.2.2.1 ∧ Dv l.2.2.2 P)) ∧ (io l.2.2.1).natAbs < 2 ^ 60 := fun l hl => by
    have g := h4 l hl
    unfold lineB at g
    simp only [Bool.and_eq_true, Bool.or_eq_true, decide_eq_true_eq] at g
    obtain ⟨⟨⟨⟨⟨g1, g2⟩, g3⟩, g4⟩, g5⟩, g6⟩ := g
    refine ⟨g1, g2, g3, g4, ?_, g6⟩
    by_cases z : io l.2.2.2 = 0
    · exact .inl z
    · rcases g5 with e | ⟨e1, e2⟩
      · exact .inl e
      · have pb : Ps l.2.2.2 := ⟨fun e => z (io_eq_zero.mpr e), g4⟩
        refine .inr ⟨?_, dv_of pb e2⟩
        have := rst_red (x := l.2.2.1) pb
        rwa [io_inj e1] at this
  refine ⟨⟨fun l hl => ?_, h3⟩, ps_of_pos h1, Nat.lt_of_lt_of_le h2 (Nat.pow_le_pow_right (by decide) (by decide)), fun l hl hp => ?_, fun l hl => ?_⟩
  · obtain ⟨e1, e2, e3, e4, e5, _⟩ := each l hl
    exact ⟨e1, e2, e3, e4, e5.imp id And.left⟩
  · obtain ⟨_, _, _, _, e5, _⟩ := each l hl
    rcases e5 with e | e
    · rw [e] at hp
      cases hp
    · exact e.2
  · obtain ⟨_, _, _, _, _, e6⟩ := each l hl
    exact Nat.lt_of_lt_of_le e6 (Nat.pow_le_pow_right (by decide) (by decide))
/-- a row told by its ints -/
theorem row_is {n : Nat} {xs : List Int} (h : (rowO P ls n).map io = xs) : rwD (rowO P ls n) = .lst (xs.map D.int) := by rw [rwD_ints, h]
end
def B1 : List (Ln Str (Rk .h)) := [("a", "b", (7 : Int), (12 : Int)), ("b", "c", (3 : Int), (8 : Int)), ("a", "c", (2 : Int), (4 : Int))]
def B2 : List (Ln Str (Rk .b)) := [("a", "b", (⟨1⟩ : Bw), (⟨6⟩ : Bw))]
def B3 : List (Ln Str (Rk .h)) := []
def B4 : List (Ln Str (Rk .b)) := []
def B5 : List (Ln Str (Rk .h)) := [("a", "b", (0 : Int), (0 : Int)), ("a", "b", (6 : Int), (0 : Int))]
def B6 : List (Ln Str (Rk .h)) := [("a", "b", (1 : Int), (1000 : Int))]
def B7 : List (Ln Str (Rk .b)) := [("a", "b", (⟨1⟩ : Bw), (⟨5⟩ : Bw))]
theorem b1 : BkP (k := .h) (24 : Int) B1 := bkP_of (by decide +kernel)
theorem b2 : BkP (k := .b) (⟨6⟩ : Bw) B2 := bkP_of (by decide +kernel)
theorem b3 : BkP (k := .h) (9 : Int) B3 := bkP_of (by decide +kernel)
theorem b3' : BkP (k := .h) (1 : Int) B3 := bkP_of (by decide +kernel)
theorem b4 : BkP (k := .b) (⟨5⟩ : Bw) B4 := bkP_of (by decide +kernel)
theorem b5 : BkP (k := .h) (4 : Int) B5 := bkP_of (by decide +kernel)
theorem b6 : BkP (k := .h) (2000 : Int) B6 := bkP_of (by decide +kernel)
theorem b7 : BkP (k := .b) (⟨40⟩ : Bw) B7 := bkP_of (by decide +kernel)
theorem m1 : manyF (k := .h) (24 : Int) B1 = 144 := by decide +kernel
theorem r1_0 : (rowO (k := .h) (24 : Int) B1 0).map io = [0, 7, 2] := by decide +kernel
theorem r1_2 : (rowO (k := .h) (24 : Int) B1 2).map io = [0, 7, 18] := by decide +kernel
theorem r1_3 : (rowO (k := .h) (24 : Int) B1 3).map io = [0, 19, 6] := by decide +kernel
theorem m2 : manyF (k := .b) (⟨6⟩ : Bw) B2 = 4 := by decide +kernel
theorem r2 : ((List.range 4).map fun n => (rowO (k := .b) (⟨6⟩ : Bw) B2 n).map io) = [[0, 1], [1, 0], [2, 3], [3, 2]] := by decide +kernel
theorem m3 : manyF (k := .h) (9 : Int) B3 = 1 := by decide +kernel
theorem r3 : (rowO (k := .h) (9 : Int) B3 0).map io = [] := by decide +kernel
theorem m3' : manyF (k := .h) (1 : Int) B3 = 1 := by decide +kernel
theorem r3' : (rowO (k := .h) (1 : Int) B3 0).map io = [] := by decide +kernel
theorem m4 : manyF (k := .b) (⟨5⟩ : Bw) B4 = 1 := by decide +kernel
theorem r4 : (rowO (k := .b) (⟨5⟩ : Bw) B4 0).map io = [] := by decide +kernel
theorem m5 : manyF (k := .h) (4 : Int) B5 = 0 := by decide +kernel
theorem m6 : manyF (k := .h) (2000 : Int) B6 = 4000 := by decide +kernel
theorem r6 : (rowO (k := .h) (2000 : Int) B6 1999).map io = [999, 1000] := by decide +kernel
theorem m7 : 5 < manyF (k := .b) (⟨40⟩ : Bw) B7 := by decide +kernel
theorem r7_4 : (rowO (k := .b) (⟨40⟩ : Bw) B7 4).map io = [0, 16] := by decide +kernel
theorem r7_5 : (rowO (k := .b) (⟨40⟩ : Bw) B7 5).map io = [0, 21] := by decide +kernel
end J

/-! ## V10 -/
/-! The law. -/
namespace J
open PySem PySem.Spec PyProof.Rows L2 Q
open KR
open Evl (ex_rd ex_l ex_t)
def dueD : D := .lst [.lst [.int 0, .int 7, .int 2], .lst [.int 0, .int 19, .int 6], .int 3, .non, .lst [.int 0, .int 19, .int 6], .lst [.lst [.int 0, .int 1], .lst [.int 1, .int 0], .lst [.int 2, .int 3], .lst [.int 3, .int 2]], .lst [.lst []], .lst [], .int 0, .non, .lst [], .non, .lst [.int 999, .int 1000]]
theorem rep_due : RepD 100000 60 dueD := ⟨rfl, by decide +kernel, by decide +kernel, by decide +kernel, by decide +kernel, by decide +kernel⟩
section
variable {k : Kd} {P : Rk k} {ls : List (Ln Str (Rk k))}
theorem row_num (b : BkP P ls) {n m : Nat} {xs : List Int} (hm : manyF P ls = m) (hn : n < m) (h : (rowO P ls n).map io = xs) : (if n < manyF P ls then rwD (rowO P ls n) else .non) = .lst (xs.map D.int) := by
  rw [if_pos (by omega), row_is h]
theorem row_none {n m : Nat} (hm : manyF P ls = m) (hn : m ≤ n) : (if n < manyF P ls then rwD (rowO P ls n) else .non) = .non := if_neg (by omega)
theorem num_is (b : BkP P ls) {n : Nat} (h : n < manyF P ls) : D.int ((numO P ls (rowO P ls n) : Nat) : Int) = .int (n : Int) := by rw [(rowOf_rowO b h).2]
theorem next_is (b : BkP P ls) {n : Nat} {xs : List Int} (h : n + 1 < manyF P ls) (e : (rowO P ls (n + 1)).map io = xs) : (if numO P ls (rowO P ls n) + 1 < manyF P ls then rwD (rowO P ls (numO P ls (rowO P ls n) + 1)) else .non) = .lst (xs.map D.int) := by
  rw [(rowOf_rowO b (by omega)).2, if_pos h, row_is e]
theorem next_none (b : BkP P ls) {n : Nat} (h : n < manyF P ls) (h' : ¬ n + 1 < manyF P ls) : (if numO P ls (rowO P ls n) + 1 < manyF P ls then rwD (rowO P ls (numO P ls (rowO P ls n) + 1)) else .non) = .non := by
  rw [(rowOf_rowO b h).2, if_neg h']
theorem all_is {m : Nat} {xss : List (List Int)} (hm : manyF P ls = m) (h : ((List.range m).map fun n => (rowO P ls n).map io) = xss) : (.lst ((List.range (manyF P ls)).map fun n => rwD (rowO P ls n)) : D) = .lst (xss.map fun xs => .lst (xs.map D.int)) := by
  rw [hm, ← h, List.map_map]
  exact congrArg D.lst (List.map_congr_left fun n _ => rwD_ints _)
end
section
variable {P : Program} {w : World} {K : PySem.W.Frag} {mg : Str → Option Value} {base : Heap}
def f_law : List D → D → Prop := fun ds d => ∃ ns : List Int, ds = [.scr ns] ∧ d = .bl true
theorem s_law : FnScope [("_law_script" : Str), ("_law_index" : Str), ("_law_book_here" : Str), ("_law_told_here" : Str), ("_law_odd" : Str), ("_law_fives" : Str), ("_law_due" : Str)] ["_law_script"] (defScope (Hd.top 105)) := ⟨rfl, rfl, rfl, by decide +kernel, rfl, by decide +kernel, by decide +kernel⟩
theorem g_law (T : Tx K mg) (k : Nat) : ∃ fd, FnG P w K mg base CX0 (k + 13) (He.ga K "law") fd ["_law_script"] (spD K f_law) ∧ (mg "law" = some (.ref (He.ga K "law")) ∧ PySem.W.keepIn K (.ref (He.ga K "law")) = true ∧ Binds K fd ["_law_script"] []) ∧ FunD K "law" "law" (defArgs (Hd.top 105)) (defBody (Hd.top 105)) (defScope (Hd.top 105)) [] [] (He.ga K "law") fd := by
  have c_law_great_right := c_law_great_right (P := P) (w := w) (base := base) T k
  have c_row_numbered := c_row_numbered (P := P) (w := w) (base := base) T k
  have c_number_of_row := c_number_of_row (P := P) (w := w) (base := base) T k
  have c_next_row := c_next_row (P := P) (w := w) (base := base) T k
  have c_law_right := c_law_right (P := P) (w := w) (base := base) T k
  have c_law_generator := c_law_generator (P := P) (w := w) (base := base) T k
  have c_all_rows := c_all_rows (P := P) (w := w) (base := base) T k
  have sc := s_law
  refine calG_of (k := k + 12) T 76 76 rfl rfl s_law (fun _ _ _ _ _ _ us hl => match us, hl with | [_], _ => rfl) (fun vs H Q E h => spD_len h (n := 1) (by rintro _ _ ⟨ns, rfl, rfl⟩; rfl)) fun cdv A outer s H vs Q E hgd hr h => ⟨_, PSs.nox (pss_cons (ps_for PassesOwn.never rfl (pi_range1 (by rfl) (T.fr 85 rfl) (pa_cons pe_int pa_nil)) (pg_name (i := 1) sc.nd rfl (Or.inl rfl)) (pss_one (ps_if (pt_not (pt_val (pe_cG c_law_right hgd hr (by omega) (by rfl) (pa_cons (pe_c c_law_generator hr (by omega) (by rfl) (pa_cons (pv 0) (pa_cons (pv 1) pa_nil))) pa_nil)))) (pss_one (ps_ret pe_bl)) pss_nil))) (pss_cons (ps_if (pt_not (pt_val (pe_c c_law_great_right hr (by omega) (by rfl) (pa_cons (pe_c c_law_generator hr (by omega) (by rfl) (pa_cons (pv 0) (pa_cons pe_int pa_nil))) pa_nil)))) (pss_one (ps_ret pe_bl)) pss_nil) (pss_cons (ps_set (i := 2) sc.nd rfl (Or.inl rfl) (pe_tup (pa_cons pe_str (pa_cons (pe_lst (pa_cons (pe_tup (pa_cons pe_str (pa_cons pe_str (pa_cons pe_int (pa_cons pe_int pa_nil))))) (pa_cons (pe_tup (pa_cons pe_str (pa_cons pe_str (pa_cons pe_int (pa_cons pe_int pa_nil))))) (pa_cons (pe_tup (pa_cons pe_str (pa_cons pe_str (pa_cons pe_int (pa_cons pe_int pa_nil))))) pa_nil)))) pa_nil)))) (pss_cons (ps_set (i := 3) sc.nd rfl (Or.inl rfl) (pe_lst (pa_cons (pe_c c_row_numbered hr (by omega) (by rfl) (pa_cons (pv 2) (pa_cons pe_int (pa_cons pe_int pa_nil)))) (pa_cons (pe_c c_row_numbered hr (by omega) (by rfl) (pa_cons (pv 2) (pa_cons pe_int (pa_cons pe_int pa_nil)))) (pa_cons (pe_c c_number_of_row hr (by omega) (by rfl) (pa_cons (pv 2) (pa_cons pe_int (pa_cons (pe_lst (pa_cons pe_int (pa_cons pe_int (pa_cons pe_int pa_nil)))) pa_nil)))) (pa_cons (pe_c c_row_numbered hr (by omega) (by rfl) (pa_cons (pv 2) (pa_cons pe_int (pa_cons pe_int pa_nil)))) (pa_cons (pe_c c_next_row hr (by omega) (by rfl) (pa_cons (pv 2) (pa_cons pe_int (pa_cons (pe_lst (pa_cons pe_int (pa_cons pe_int (pa_cons pe_int pa_nil)))) pa_nil)))) pa_nil))))))) (pss_cons (ps_set (i := 3) sc.nd rfl (Or.inl rfl) (pe_op op_cat (pv 3) (pe_lst (pa_cons (pe_c c_all_rows hr (by omega) (by rfl) (pa_cons (pe_tup (pa_cons pe_str (pa_cons (pe_lst (pa_cons (pe_tup (pa_cons pe_str (pa_cons pe_str (pa_cons pe_int (pa_cons pe_int pa_nil))))) pa_nil)) pa_nil))) (pa_cons pe_int pa_nil))) (pa_cons (pe_c c_all_rows hr (by omega) (by rfl) (pa_cons (pe_tup (pa_cons pe_str (pa_cons (pe_lst pa_nil) pa_nil))) (pa_cons pe_int pa_nil))) (pa_cons (pe_c c_row_numbered hr (by omega) (by rfl) (pa_cons (pe_tup (pa_cons pe_str (pa_cons (pe_lst pa_nil) pa_nil))) (pa_cons pe_int (pa_cons pe_int pa_nil)))) (pa_cons (pe_c c_number_of_row hr (by omega) (by rfl) (pa_cons (pe_tup (pa_cons pe_str (pa_cons (pe_lst pa_nil) pa_nil))) (pa_cons pe_int (pa_cons (pe_lst pa_nil) pa_nil)))) (pa_cons (pe_c c_next_row hr (by omega) (by rfl) (pa_cons (pe_tup (pa_cons pe_str (pa_cons (pe_lst pa_nil) pa_nil))) (pa_cons pe_int (pa_cons (pe_lst pa_nil) pa_nil)))) pa_nil)))))))) (pss_cons (ps_set (i := 4) sc.nd rfl (Or.inl rfl) (pe_tup (pa_cons pe_str (pa_cons (pe_lst (pa_cons (pe_tup (pa_cons pe_str (pa_cons pe_str (pa_cons pe_int (pa_cons pe_int pa_nil))))) (pa_cons (pe_tup (pa_cons pe_str (pa_cons pe_str (pa_cons pe_int (pa_cons pe_int pa_nil))))) pa_nil))) pa_nil)))) (pss_cons (ps_set (i := 3) sc.nd rfl (Or.inl rfl) (pe_op op_cat (pv 3) (pe_lst (pa_cons (pe_c c_all_rows hr (by omega) (by rfl) (pa_cons (pv 4) (pa_cons pe_int pa_nil))) (pa_cons (pe_c c_row_numbered hr (by omega) (by rfl) (pa_cons (pv 4) (pa_cons pe_int (pa_cons pe_int pa_nil)))) (pa_cons (pe_c c_row_numbered hr (by omega) (by rfl) (pa_cons (pe_tup (pa_cons pe_str (pa_cons (pe_lst (pa_cons (pe_tup (pa_cons pe_str (pa_cons pe_str (pa_cons pe_int (pa_cons pe_int pa_nil))))) pa_nil)) pa_nil))) (pa_cons pe_int (pa_cons pe_int pa_nil)))) pa_nil)))))) (pss_cons (ps_set (i := 5) sc.nd rfl (Or.inl rfl) (pe_tup (pa_cons pe_str (pa_cons (pe_lst (pa_cons (pe_tup (pa_cons pe_str (pa_cons pe_str (pa_cons pe_int (pa_cons pe_int pa_nil))))) pa_nil)) pa_nil)))) (pss_cons (ps_if (PW.pt (pw_or (pt_cmpR (op_neD hr.units) (pe_c c_row_numbered hr (by omega) (by rfl) (pa_cons (pv 5) (pa_cons pe_int (pa_cons pe_int pa_nil)))) (pe_lst (pa_cons pe_int (pa_cons pe_int pa_nil))) (nomark _)) (pw_or (pt_cmpR (op_ne) (pe_c c_number_of_row hr (by omega) (by rfl) (pa_cons (pv 5) (pa_cons pe_int (pa_cons (pe_lst (pa_cons pe_int (pa_cons pe_int pa_nil))) pa_nil)))) pe_int (nomark _)) (pw_or1 (pt_cmpR (op_neD hr.units) (pe_c c_next_row hr (by omega) (by rfl) (pa_cons (pv 5) (pa_cons pe_int (pa_cons (pe_lst (pa_cons pe_int (pa_cons pe_int pa_nil))) pa_nil)))) (pe_lst (pa_cons pe_int (pa_cons pe_int pa_nil))) (nomark _)))))) (pss_one (ps_ret pe_bl)) pss_nil) (pss_cons (ps_set (i := 6) sc.nd rfl (Or.inl rfl) (pe_lst (pa_cons (pe_lst (pa_cons pe_int (pa_cons pe_int (pa_cons pe_int pa_nil)))) (pa_cons (pe_lst (pa_cons pe_int (pa_cons pe_int (pa_cons pe_int pa_nil)))) (pa_cons pe_int (pa_cons pe_non (pa_cons (pe_lst (pa_cons pe_int (pa_cons pe_int (pa_cons pe_int pa_nil)))) (pa_cons (pe_lst (pa_cons (pe_lst (pa_cons pe_int (pa_cons pe_int pa_nil))) (pa_cons (pe_lst (pa_cons pe_int (pa_cons pe_int pa_nil))) (pa_cons (pe_lst (pa_cons pe_int (pa_cons pe_int pa_nil))) (pa_cons (pe_lst (pa_cons pe_int (pa_cons pe_int pa_nil))) pa_nil))))) (pa_cons (pe_lst (pa_cons (pe_lst pa_nil) pa_nil)) (pa_cons (pe_lst pa_nil) (pa_cons pe_int (pa_cons pe_non (pa_cons (pe_lst pa_nil) (pa_cons pe_non (pa_cons (pe_lst (pa_cons pe_int (pa_cons pe_int pa_nil))) pa_nil))))))))))))))) (pss_one (ps_ret (pe_cmpR (op_eq) (pe_callB (call_reprD hgd hr) (by rfl) (T.fr 86 rfl) (by decide +kernel) (pa_cons (pv 3) pa_nil)) (pe_callB (call_reprD hgd hr) (by rfl) (T.fr 86 rfl) (by decide +kernel) (pa_cons (pv 6) pa_nil)) (nomark _)))))))))))))), spD_run h ?_⟩
  clear h
  rintro ds d ⟨ns, rfl, rfl⟩
  show WS K none _ [some (false, _), none, none, none, none, none, none] _ _
  have i0 : ∀ {ρ : Env} {i : Int}, Ev K (tC (.int i)) ρ (.int i) := ev_int
  refine ws_seq (ws_forR1 (j := 1) (n := 2) (fun t ρ' => ∃ x1 : Option (Bool × D), ρ' = [some (false, .scr ns), x1, none, none, none, none, none]) (ea_cons ev_int ea_nil) (by decide) (by decide) ⟨none, rfl⟩ ?_ ?_)
  · rintro t ρ' ht ⟨x1, rfl⟩
    exact ws_ifno (et_nT (et_test (ev_callMN (d := .bl true) (ev_callN (ea_cons (ev_var rfl) (ea_cons (ev_var rfl) ea_nil)) ⟨ns, t, rfl, rfl, by omega⟩) ea_nil ⟨_, 2000, rfl, rfl, genF_ok _ (by omega), by decide⟩ fun m e h => h))) ⟨_, rfl⟩
  rintro ρ' ⟨x1, rfl⟩
  refine ws_seq (ws_ifno (et_nT (et_test (ev_callMN (d := .bl true) (ev_callN (ea_cons (ev_var rfl) (ea_cons ev_int ea_nil)) ⟨ns, 2, rfl, rfl, by omega⟩) ea_nil ⟨_, 2000, rfl, rfl, genF_ok _ (by omega), by decide⟩ fun m e h => h))) ?_)
  have ln4 : ∀ {ρ : Env} {a c : Str} {x y : Int}, Ev K (tTup (tCons (tC (.str a)) (tCons (tC (.str c)) (tCons (tC (.int x)) (tCons (tC (.int y)) tNil))))) ρ (.tup [.str a, .str c, .int x, .int y]) := ev_tup (ea_cons ev_str (ea_cons ev_str (ea_cons ev_int (ea_cons ev_int ea_nil)))) (szb rfl)
  refine ws_seq (ws_set (ev_is (ev_tup (ea_cons ev_str (ea_cons (ev_lst (ea_cons ln4 (ea_cons ln4 (ea_cons ln4 ea_nil))) (szb rfl)) ea_nil)) (szb rfl)) (show _ = bkD B1 from rfl)) ?_)
  have l3 : ∀ {ρ : Env} {x y z : Int}, Ev K (tLst (tCons (tC (.int x)) (tCons (tC (.int y)) (tCons (tC (.int z)) tNil)))) ρ (.lst ([x, y, z].map D.int)) := ev_lst (ea_cons ev_int (ea_cons ev_int (ea_cons ev_int ea_nil))) (szb rfl)
  have l2 : ∀ {ρ : Env} {x y : Int}, Ev K (tLst (tCons (tC (.int x)) (tCons (tC (.int y)) tNil))) ρ (.lst ([x, y].map D.int)) := ev_lst (ea_cons ev_int (ea_cons ev_int ea_nil)) (szb rfl)
  have l0 : ∀ {ρ : Env}, Ev K (tLst tNil) ρ (.lst (([] : List Int).map D.int)) := ev_lst ea_nil (szb rfl)
  refine ws_seq (ws_set (ev_lst (ea_cons (ev_is (ev_call (ea_cons (ev_var rfl) (ea_cons ev_int (ea_cons ev_int ea_nil))) ⟨.h, (24 : Int), B1, 0, rfl, rfl, b1⟩) (row_num b1 m1 (by decide) r1_0)) (ea_cons (ev_is (ev_call (ea_cons (ev_var rfl) (ea_cons ev_int (ea_cons ev_int ea_nil))) ⟨.h, (24 : Int), B1, 3, rfl, rfl, b1⟩) (row_num b1 m1 (by decide) r1_3)) (ea_cons (ev_is (ev_call (ea_cons (ev_var rfl) (ea_cons ev_int (ea_cons (ev_is l3 (row_is r1_3).symm) ea_nil))) ⟨.h, (24 : Int), B1, rowO (k := .h) (24 : Int) B1 3, rfl, rfl, (rowOf_rowO b1 (by rw [m1]; decide)).1⟩) (num_is b1 (by rw [m1]; decide))) (ea_cons (ev_is (ev_call (ea_cons (ev_var rfl) (ea_cons ev_int (ea_cons ev_int ea_nil))) ⟨.h, (24 : Int), B1, 144, rfl, rfl, b1⟩) (row_none m1 (by decide))) (ea_cons (ev_is (ev_call (ea_cons (ev_var rfl) (ea_cons ev_int (ea_cons (ev_is l3 (row_is r1_2).symm) ea_nil))) ⟨.h, (24 : Int), B1, rowO (k := .h) (24 : Int) B1 2, rfl, rfl, (rowOf_rowO b1 (by rw [m1]; decide)).1⟩) (next_is b1 (by rw [m1]; decide) r1_3)) ea_nil))))) (szb rfl)) ?_)
  have k2 : ∀ {ρ : Env}, Ev K (tTup (tCons (tC (.str "bits")) (tCons (tLst (tCons (tTup (tCons (tC (.str "a")) (tCons (tC (.str "b")) (tCons (tC (.int 1)) (tCons (tC (.int 6)) tNil))))) tNil)) tNil))) ρ (bkD B2) := ev_is (ev_tup (ea_cons ev_str (ea_cons (ev_lst (ea_cons ln4 ea_nil) (szb rfl)) ea_nil)) (szb rfl)) rfl
  have k3 : ∀ {ρ : Env}, Ev K (tTup (tCons (tC (.str "hours")) (tCons (tLst tNil) tNil))) ρ (bkD B3) := ev_is (ev_tup (ea_cons ev_str (ea_cons (ev_lst ea_nil (szb rfl)) ea_nil)) (szb rfl)) rfl
  have k4 : ∀ {ρ : Env}, Ev K (tTup (tCons (tC (.str "bits")) (tCons (tLst tNil) tNil))) ρ (bkD B4) := ev_is (ev_tup (ea_cons ev_str (ea_cons (ev_lst ea_nil (szb rfl)) ea_nil)) (szb rfl)) rfl
  refine ws_seq (ws_set (ev_op (ev_var rfl) (ev_lst (ea_cons (ev_is (ev_call (ea_cons k2 (ea_cons ev_int ea_nil)) ⟨.b, (⟨6⟩ : Bw), B2, rfl, rfl, b2, by rw [m2]; decide⟩) (all_is m2 r2)) (ea_cons (ev_is (ev_call (ea_cons k3 (ea_cons ev_int ea_nil)) ⟨.h, (9 : Int), B3, rfl, rfl, b3, by rw [m3]; decide⟩) (all_is (xss := [[]]) m3 (congrArg (fun z => [z]) r3))) (ea_cons (ev_is (ev_call (ea_cons k3 (ea_cons ev_int (ea_cons ev_int ea_nil))) ⟨.h, (1 : Int), B3, 0, rfl, rfl, b3'⟩) (row_num b3' m3' (by decide) r3')) (ea_cons (ev_is (ev_call (ea_cons k4 (ea_cons ev_int (ea_cons (ev_is l0 (row_is r4).symm) ea_nil))) ⟨.b, (⟨5⟩ : Bw), B4, rowO (k := .b) (⟨5⟩ : Bw) B4 0, rfl, rfl, (rowOf_rowO b4 (by rw [m4]; decide)).1⟩) (num_is b4 (by rw [m4]; decide))) (ea_cons (ev_is (ev_call (ea_cons k3 (ea_cons ev_int (ea_cons (ev_is l0 (row_is r3').symm) ea_nil))) ⟨.h, (1 : Int), B3, rowO (k := .h) (1 : Int) B3 0, rfl, rfl, (rowOf_rowO b3' (by rw [m3']; decide)).1⟩) (next_none b3' (by rw [m3']; decide) (by rw [m3']; decide))) ea_nil))))) (szb rfl)) (op_catL (szl (by decide)))) ?_)
  refine ws_seq (ws_set (ev_is (ev_tup (ea_cons ev_str (ea_cons (ev_lst (ea_cons ln4 (ea_cons ln4 ea_nil)) (szb rfl)) ea_nil)) (szb rfl)) (show _ = bkD B5 from rfl)) ?_)
  have k6 : ∀ {ρ : Env}, Ev K (tTup (tCons (tC (.str "hours")) (tCons (tLst (tCons (tTup (tCons (tC (.str "a")) (tCons (tC (.str "b")) (tCons (tC (.int 1)) (tCons (tC (.int 1000)) tNil))))) tNil)) tNil))) ρ (bkD B6) := ev_is (ev_tup (ea_cons ev_str (ea_cons (ev_lst (ea_cons ln4 ea_nil) (szb rfl)) ea_nil)) (szb rfl)) rfl
  refine ws_seq (ws_set (ev_is (ev_op (ev_var rfl) (ev_lst (ea_cons (ev_is (ev_call (ea_cons (ev_var rfl) (ea_cons ev_int ea_nil)) ⟨.h, (4 : Int), B5, rfl, rfl, b5, by rw [m5]; decide⟩) (all_is (xss := []) m5 rfl)) (ea_cons (ev_is (ev_call (ea_cons (ev_var rfl) (ea_cons ev_int (ea_cons ev_int ea_nil))) ⟨.h, (4 : Int), B5, 0, rfl, rfl, b5⟩) (row_none m5 (by decide))) (ea_cons (ev_is (ev_call (ea_cons k6 (ea_cons ev_int (ea_cons ev_int ea_nil))) ⟨.h, (2000 : Int), B6, 1999, rfl, rfl, b6⟩) (row_num b6 m6 (by decide) r6)) ea_nil))) (szb rfl)) (op_catL (szl (by decide)))) (show _ = dueD from rfl)) ?_)
  refine ws_seq (ws_set (ev_is (ev_tup (ea_cons ev_str (ea_cons (ev_lst (ea_cons ln4 ea_nil) (szb rfl)) ea_nil)) (szb rfl)) (show _ = bkD B7 from rfl)) ?_)
  refine ws_seq (ws_ifno (et_is (et_or (et_test (ev_op (ev_is (ev_call (ea_cons (ev_var rfl) (ea_cons ev_int (ea_cons ev_int ea_nil))) ⟨.b, (⟨40⟩ : Bw), B7, 4, rfl, rfl, b7⟩) (row_num b7 rfl (Nat.lt_trans (by decide) m7) r7_4)) l2 op_neLI)) fun _ => et_or (et_test (ev_op (ev_is (ev_call (ea_cons (ev_var rfl) (ea_cons ev_int (ea_cons (ev_is l2 (row_is r7_4).symm) ea_nil))) ⟨.b, (⟨40⟩ : Bw), B7, rowO (k := .b) (⟨40⟩ : Bw) B7 4, rfl, rfl, (rowOf_rowO b7 (Nat.lt_trans (by decide) m7)).1⟩) (num_is b7 (Nat.lt_trans (by decide) m7))) ev_int op_neI)) fun _ => et_test (ev_op (ev_is (ev_call (ea_cons (ev_var rfl) (ea_cons ev_int (ea_cons (ev_is l2 (row_is r7_4).symm) ea_nil))) ⟨.b, (⟨40⟩ : Bw), B7, rowO (k := .b) (⟨40⟩ : Bw) B7 4, rfl, rfl, (rowOf_rowO b7 (Nat.lt_trans (by decide) m7)).1⟩) (next_is b7 m7 r7_5)) l2 op_neLI)) (by decide +kernel)) ?_)
  refine ws_seq (ws_set (ev_is (ev_lst (ea_cons l3 (ea_cons l3 (ea_cons ev_int (ea_cons ev_non (ea_cons l3 (ea_cons (ev_lst (ea_cons l2 (ea_cons l2 (ea_cons l2 (ea_cons l2 ea_nil)))) (szb rfl)) (ea_cons (ev_lst (ea_cons l0 ea_nil) (szb rfl)) (ea_cons l0 (ea_cons ev_int (ea_cons ev_non (ea_cons l0 (ea_cons ev_non (ea_cons l2 ea_nil))))))))))))) (szb rfl)) (show _ = dueD from rfl)) ?_)
  exact ws_ret (ev_op (ev_cb (ea_cons (ev_var rfl) ea_nil) (op_repr rep_due (by decide) (by decide) (.inr (.inr (.inl ⟨_, rfl⟩))))) (ev_cb (ea_cons (ev_var rfl) ea_nil) (op_repr rep_due (by decide) (by decide) (.inr (.inr (.inl ⟨_, rfl⟩))))) op_eqS) (congrArg D.bl (decide_eq_true rfl))
theorem c_law (T : Tx K mg) (k : Nat) : CalG P w K mg base (k + 13) "law" (spD K f_law) := by
  obtain ⟨fd, h1, ⟨h2, h3, h4⟩, _⟩ := g_law (P := P) (w := w) (base := base) T k
  exact ⟨⟨_, fd, _, h1, h2, h3, h4⟩⟩

end
end J

/-! ## Gl -/
/-! The law called where no repr is under way. -/
namespace J
open PySem PySem.Spec PyProof.Rows L2
section
variable {P : Program} {w : World} {K : PySem.W.Frag} {mg mb : Str → Option Value} {k : Nat} {fp a : Addr} {fd : FuncData} {x : Str} {sp : Sp} {s : Shared} {us : List Value} {ns : List Int}
abbrev Script (us : List Value) : Obj := { cls := .type "list", data := .seq us.toArray }
/-- the abstract heap of a script: it is known, and nothing else is -/
structure ScrH (K : PySem.W.Frag) (a : Addr) (us : List Value) (ns : List Int) (H : Hp) : Prop where
  at_ : ∀ p, H p = none ∨ (p = a ∧ K.lookup a = none ∧ H p = some (.frz (Script us) (.lst (ns.map V.int))))
  sq : SqL K H a (ns.map V.int)
theorem scrH_ex (inK : K.In s.heap) (here : s.heap.get? a = some (Script us)) (iv : IntsAre us ns) (sz : ns.length ≤ sizeLine) : ∃ H, ScrH K a us ns H := by
  cases e : K.lookup a with
  | some o =>
    have same := (inK a o e).symm.trans here
    cases same
    have few : us.toArray.size ≤ sizeLine := by
      rw [List.size_toArray, iv.length]
      exact sz
    exact ⟨fun _ => none, fun _ => .inl rfl, .inr ⟨Script us, us.toArray, _, e, rfl, rfl, rfl, few, by simpa using vals_ints iv⟩⟩
  | none =>
    refine ⟨fun p => if p = a then some (.frz (Script us) (.lst (ns.map V.int))) else none, fun p => ?_, .inl (.inr ⟨Script us, if_pos rfl⟩)⟩
    by_cases z : p = a
    · exact .inr ⟨z, e, if_pos z⟩
    · exact .inl (if_neg z)
theorem ScrH.dict {H : Hp} (h : ScrH K a us ns H) (here : s.heap.get? a = some (Script us)) {p : Addr} {o : Obj} {es : Array DictEntry} {ep : Nat} (ho : s.heap.get? p = some o) (hd : o.data = .dict es ep) : H p = none := by
  rcases h.at_ p with z | ⟨rfl, _, _⟩
  · exact z
  · rw [here] at ho
    cases ho
    cases hd
theorem ScrH.space {H : Hp} (h : ScrH K a us ns H) (here : s.heap.get? a = some (Script us)) {p : Addr} {m : Str → Option Value} (hn : s.heap.Ns p m) : (hidT s.heap H).Ns p m := by
  obtain ⟨o, es, ep, ho, hd, r⟩ := hn
  exact ⟨o, es, ep, hidT_get ho (h.dict here ho hd), hd, r⟩
theorem ScrH.keep {H : Hp} (h : ScrH K a us ns H) (inK : K.In s.heap) : K.In (hidT s.heap H) := fun p o e => hidT_get (inK p o e) (by
  rcases h.at_ p with z | ⟨rfl, z, _⟩
  · exact z
  · rw [e] at z
    cases z)
theorem ScrH.ok {H : Hp} (h : ScrH K a us ns H) (here : s.heap.get? a = some (Script us)) (iv : IntsAre us ns) (sz : ns.length ≤ sizeLine) : HOk P w H s.heap := fun p u e => by
  rcases h.at_ p with z | ⟨rfl, _, z⟩
  · rw [z] at e
    cases e
  · rw [z] at e
    cases e
    exact ⟨here, by simpa using sz, us, _, vals_ints iv, here⟩
theorem lawG (inK : K.In s.heap) (gl : s.heap.Ns mainGlobals mg) (bi : s.heap.Ns builtinsNs mb) (bb : ∀ y : Str, y ≠ "__name__" → mb y = bootBuiltins y) (nl : s.heap.NoLimit) (gs : s.gens = #[]) (here : s.heap.get? a = some (Script us)) (iv : IntsAre us ns) (sz : ns.length ≤ sizeLine) (rm : Room k callerA)
    (F : ∀ base : Heap, K.In base → base.Ns mainGlobals mg → FnG P w K mg base CX0 k fp fd [x] sp) (bd : ∀ (t : Shared) (u : Value), BindsTo t fd ⟨[u], []⟩ [(x, u)])
    (pr : ∀ H : Hp, SqL K H a (ns.map V.int) → sp [.ref a] H (fun v _ => v = .bl true) fun _ _ _ => False) :
    codeAny (model P w) callerA (.call (.ref fp) ⟨[.ref a], []⟩) (fun r t => r = .ok (.ret (.bool true)) ∧ OldK s.heap t.heap ∧ t.os = s.os ∧ AllBare t.gens) s := by
  obtain ⟨H, h⟩ := scrH_ex inK here iv sz
  have inB := h.keep inK
  have glB := h.space here gl
  obtain ⟨mc, c1, c2⟩ := nl
  have md : Mod K mg (hidT s.heap H) := ⟨inB, glB, ⟨mb, h.space here bi, bb⟩, mc, h.space here c1, c2⟩
  have env : Env0 P w K mg (hidT s.heap H) callerA [] s H := ⟨rfl, md, fun p o e => of_hidT e, Nat.le_of_eq (hidT_size _ _), trivial, fun p hp => (nomatch hp : False).elim, h.ok here iv sz, .of_eq gs⟩
  have done := (F _ inB glB).run callerA [] s H ⟨[.ref a], []⟩ [.ref a] [.ref a] _ _ rfl rm env (bd s (.ref a)) (.cons rfl .nil) (pr H h.sq)
  refine codeAny_mono done fun r t z => ?_
  match r, z with
  | .ok (.ret u), z =>
    obtain ⟨v, H2, os, bare, un, ok2, rv, q⟩ := z
    have q : v = .bl true := q
    subst q
    have rv : u = Value.bool true := rv
    subst rv
    refine ⟨rfl, OldK.of_keep fun p o e => ?_, os, bare⟩
    rcases h.at_ p with z | ⟨rfl, _, z⟩
    · exact un.keep p o e z (fun hp => nomatch hp) (fun hp => nomatch hp)
    · rw [here] at e
      cases e
      exact (ok2 _ _ (un.frzs _ _ _ z)).1
end
/-- a law's end: its def runs where no repr is under way -/
theorem walkG {l : PySem.W.OpenLaw} {n k : Nat} {q : Program} {loose : List Str} {XP : (Str → Option Value) → Heap → Prop} {YP : World → Heap → Prop} {d : DefRec} {x : Str} (h1 : l.most = some n) (h2 : n ≤ sizeLine) (h3 : d.params.defaults = []) (h4 : Room k callerA)
    (F : ∀ (w : World) (mg : Str → Option Value) (fp : Addr) (h : Heap), YP w h → h.Ns mainGlobals mg → mg d.name = some (.ref fp) →
      ∃ (K : PySem.W.Frag) (fd : FuncData) (sp : Sp), K.In h ∧ (∀ (t : Shared) (u : Value), BindsTo t fd ⟨[u], []⟩ [(x, u)]) ∧ (∀ (H : Hp) (a : Addr) (ns : List Int), SqL K H a (ns.map V.int) → sp [.ref a] H (fun v _ => v = .bl true) fun _ _ _ => False) ∧
        ∀ base : Heap, K.In base → base.Ns mainGlobals mg → FnG l.prog w K mg base CX0 k fp fd [x] sp) :
    PySem.W.WalkO q loose XP YP l.row.toRowW d [] (fun f vs => PySem.call f vs) :=
  Att.attach_call h1 h3 fun w _ s mg mb fp _ _ _ _ a us ns G Y _ _ _ hm here iv hl hg => by
    obtain ⟨K, fd, sp, inK, bd, pr, hF⟩ := F w mg fp _ Y G.T.g hm
    exact lawG inK G.T.g G.T.b G.T.builtins G.T.nolimit hg here iv (Nat.le_trans hl h2) h4 hF bd fun H hS => pr H a ns hS
end J

/-! ## Join -/
/-! The law's end. -/
namespace J
open PySem PySem.Spec PyProof.Rows L2
theorem tx_of {K : PySem.W.Frag} {h : Heap} {mg : Str → Option Value} (inK : K.In h) (G : h.Ns mainGlobals mg) (c : He.SaysD Hd.fa Hd.fn K) : Tx K mg where
  gl := fun i _ e => He.glo_ok inK G (c.fact i e)
  fr := fun i _ e => He.free_ok inK G (c.fact i e)
  c_LETTERS := by
    obtain ⟨t, e⟩ := He.str_ok inK G (c.fact 94 (f := .str "LETTERS" "abcdefghijklmnopqrstuvwxyz") rfl)
    exact ⟨_, e, t, rfl⟩
  c_FIGURES := by
    obtain ⟨t, e⟩ := He.str_ok inK G (c.fact 93 (f := .str "FIGURES" "0123456789") rfl)
    exact ⟨_, e, t, rfl⟩
  c_MOST_LETTERS := by
    obtain ⟨t, e⟩ := He.int_ok inK G (c.fact 96 (f := .int "MOST_LETTERS" 6) rfl)
    exact ⟨_, e, t, rfl⟩
  c_MOST_FIGURES := by
    obtain ⟨t, e⟩ := He.int_ok inK G (c.fact 95 (f := .int "MOST_FIGURES" 3) rfl)
    exact ⟨_, e, t, rfl⟩
  c_MOST_ROWS := by
    obtain ⟨t, e⟩ := He.int_ok inK G (c.fact 97 (f := .int "MOST_ROWS" 2000) rfl)
    exact ⟨_, e, t, rfl⟩
  df := fun i _ e => c.def_ i e
theorem funD_one {K : PySem.W.Frag} {x q x' q' : Str} {A A' : Arguments} {B B' : List Stmt} {S S' : Scope} {d d' : List V} {e e' : List (Str × V)} {f : Addr} {fd fd' : FuncData} (h : FunD K x q A B S d e f fd) (h' : FunD K x' q' A' B' S' d' e' f fd') : fd = fd' := by
  obtain ⟨_, _, _, _, _, _, _, _, _, _, _, l1, _⟩ := h.ex
  obtain ⟨_, _, _, _, _, _, _, _, _, _, _, l2, _⟩ := h'.ex
  have e := l1.symm.trans l2
  injection e with e
  injection e with _ _ e
  injection e
theorem sp_law {K : PySem.W.Frag} (H : Hp) (a : Addr) (ns : List Int) (hS : SqL K H a (ns.map V.int)) : spD K f_law [.ref a] H (fun v _ => v = .bl true) fun _ _ _ => False :=
  ⟨[.scr ns], .bl true, H, ⟨ns, rfl, rfl⟩, Evl.Ex.refl H, .cons (.scr hS) .nil, fun _ _ _ _ r => r.bl_inv⟩
end J
open PySem PySem.W PySem.Calls PyProof.Rows
theorem PySem.Challenge.cw_hourrings_k38_whole_rows_numbered_holds : PySem.Challenge.rw_hourrings_k38_whole_rows_numbered.Holds := by
  w_on; o_law
  refine HandSHeadRun.head_any (r := Hd.R) (q := view Hd.R.prog [105]) (H := Hd.hk) (ob := Hd.ob) (M := 8000) (loose := Hd.loose) (d := HandSHeadRun.topDef Hd.R.prog 105) (kwd := []) Hd.ob_eq
    (by kernel_rfl) (fun s => by kernel_rfl) Hd.run (by kernel_rfl) (by kernel_rfl) (by kernel_rfl) (by rfl) (by first | assumption | decide +kernel) (by decide +kernel) ⟨rfl, rfl, rfl, rfl, rfl, by decide +kernel⟩ ?hw ?hc
  case hw => w_witness2
  case hc =>
    refine J.walkG (l := PySem.Challenge.rw_hourrings_k38_whole_rows_numbered) (n := 63) (k := 13) (x := "_law_script") rfl (by decide) (by kernel_rfl) ⟨rfl, by decide, by decide⟩ ?F
    intro w mg fp h Y G hm
    obtain ⟨K, inK, c⟩ := Y
    have T := J.tx_of inK G c
    have hm' : mg ("law" : PySem.Str) = some (.ref fp) := by
      have e : (HandSHeadRun.topDef Hd.R.prog 105).name = ("law" : PySem.Str) := by kernel_rfl
      rw [← e]
      exact hm
    obtain ⟨fd, _, ⟨g1, _⟩, FD⟩ := J.g_law (P := Hd.R.prog) (w := w) (base := h) T 0
    have ef := hm'.symm.trans g1
    cases ef
    have bd := L2.FunD.bindsA (ps := ["_law_script"]) FD fun _ _ _ _ _ _ us hl => match us, hl with | [_], _ => rfl
    refine ⟨K, fd, J.spD K J.f_law, inK, fun t u => bd t [u] rfl, fun H a ns hS => J.sp_law H a ns hS, fun base _ _ => ?_⟩
    obtain ⟨fd2, F2, _, FD2⟩ := J.g_law (P := Hd.R.prog) (w := w) (base := base) T 0
    rw [J.funD_one FD FD2]
    exact F2

