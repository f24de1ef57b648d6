import PyProof.Rows.All
import Wide.All
import OpenK.AllK
import Wide.FinOn
import HandS.ForMost
import HandS.Defaults
import HandS.Wide
import HandS.WideBits
import HandS.TupAny
import HandS.IsInst
import HandS.Conv
import HandS.HeadHook1
import HandS.HeadHook2
import HandS.HeadHook4
import HandS.HeadEnd
import HandS.HeadWalk
import HandS.Head0
import HandS.Head1
import HandS.Head2
import KE.OsArith
import HandS.ClsMeth
import HandS.Iter
import HandS.TupLen
import KE.KDictDisplayH
import KE.KDictWalk
import KE.KeyNested
import HandS.Lambda
import HandS.SortKw
import KE.SortKeyHeap
import KE.SortUse
import HandS.More
import KE.SortCalls
import KE.SortData
import KE.KDictCopyH
import KE.KDictKeyed
import KE.KDictPairs
import PySem.Challenge.RW_pollproof_k75_whole_fewer_change_nothing
set_option Elab.async false
set_option linter.all false
set_option maxRecDepth 100000
set_option maxHeartbeats 4000000
-- KTop
/-! The defs of the text by their places, the facts asked of the top (printed by gen_top.py). -/
namespace K75
open PySem PySem.Spec PyProof.Rows L2
def top (i : Nat) : Stmt := PySem.Challenge.pw_pollproof_k75_whole_fewer_change_nothing.main.body.getD i (.Pass ⟨0, 0, 0, 0⟩)
abbrev s_is_whole : Stmt := top 7
abbrev s_divisor : Stmt := top 8
abbrev s_down : Stmt := top 9
abbrev s_up : Stmt := top 10
abbrev s_ballots_in : Stmt := top 13
abbrev s_all_of : Stmt := top 17
abbrev s_holds : Stmt := top 18
abbrev s_without : Stmt := top 19
abbrev s_members : Stmt := top 20
abbrev s_size : Stmt := top 21
abbrev s_Margin_init : Stmt := inClass (top 27) 0
abbrev s_Margin_possible : Stmt := inClass (top 27) 1
abbrev s_Margin_held : Stmt := inClass (top 27) 5
abbrev s_lies : Stmt := top 29
abbrev s_fraction : Stmt := top 31
abbrev s_plus : Stmt := top 32
abbrev s_minus : Stmt := top 33
abbrev s_times : Stmt := top 34
abbrev s_parted : Stmt := top 35
abbrev s_under : Stmt := top 36
abbrev s_least_from : Stmt := top 37
abbrev s_least_above : Stmt := top 38
abbrev s_begin : Stmt := top 42
abbrev s_part_at : Stmt := top 43
abbrev s_row_of : Stmt := top 44
abbrev s_table : Stmt := top 45
abbrev s_tallies : Stmt := top 46
abbrev s_tally_at : Stmt := top 47
abbrev s_kept_by : Stmt := top 48
abbrev s_half_of : Stmt := top 51
abbrev s_need : Stmt := top 52
abbrev s_standing_behind : Stmt := top 53
abbrev s_end_of : Stmt := top 54
abbrev s_state_behind : Stmt := top 55
abbrev s_longer_ones : Stmt := top 56
abbrev s_word_of : Stmt := top 57
abbrev s_tree_of : Stmt := top 58
abbrev s_SeatsMargin_least : Stmt := inClass (top 60) 0
abbrev s_lots_of : Stmt := top 64
abbrev s_Way_init : Stmt := inClass (top 65) 0
abbrev s_Way_ahead : Stmt := inClass (top 65) 1
abbrev s_Way_outcome : Stmt := inClass (top 65) 4
abbrev s_most_of : Stmt := top 68
abbrev s_fewest_of : Stmt := top 69
abbrev s_deed_due : Stmt := top 70
abbrev s_Seats_init : Stmt := inClass (top 71) 0
abbrev s_Seats_quota : Stmt := inClass (top 71) 1
abbrev s_Seats_counted : Stmt := inClass (top 71) 2
abbrev s_Seats_told_by : Stmt := inClass (top 71) 3
abbrev s_L_cell : Stmt := top 73
abbrev s_L_mixed : Stmt := top 74
abbrev s_L_lots : Stmt := top 75
abbrev s_L_mask : Stmt := top 76
abbrev s_L_slip : Stmt := top 77
abbrev s_L_number : Stmt := top 78
abbrev s_L_sheet : Stmt := top 79
abbrev s_L_hall : Stmt := top 80
abbrev s_L_whole : Stmt := top 81
abbrev s_L_seen : Stmt := top 82
abbrev s_L_filled : Stmt := top 83
abbrev s_law : Stmt := top 84
def d_is_whole : He.DefD := ⟨("is_whole", none), "is_whole", "is_whole", defArgs s_is_whole, defBody s_is_whole, defScope s_is_whole, [], []⟩
def d_divisor : He.DefD := ⟨("divisor", none), "divisor", "divisor", defArgs s_divisor, defBody s_divisor, defScope s_divisor, [], []⟩
def d_down : He.DefD := ⟨("down", none), "down", "down", defArgs s_down, defBody s_down, defScope s_down, [], []⟩
def d_up : He.DefD := ⟨("up", none), "up", "up", defArgs s_up, defBody s_up, defScope s_up, [], []⟩
def d_ballots_in : He.DefD := ⟨("ballots_in", none), "ballots_in", "ballots_in", defArgs s_ballots_in, defBody s_ballots_in, defScope s_ballots_in, [], []⟩
def d_all_of : He.DefD := ⟨("all_of", none), "all_of", "all_of", defArgs s_all_of, defBody s_all_of, defScope s_all_of, [], []⟩
def d_holds : He.DefD := ⟨("holds", none), "holds", "holds", defArgs s_holds, defBody s_holds, defScope s_holds, [], []⟩
def d_without : He.DefD := ⟨("without", none), "without", "without", defArgs s_without, defBody s_without, defScope s_without, [], []⟩
def d_members : He.DefD := ⟨("members", none), "members", "members", defArgs s_members, defBody s_members, defScope s_members, [], []⟩
def d_size : He.DefD := ⟨("size", none), "size", "size", defArgs s_size, defBody s_size, defScope s_size, [], []⟩
def d_lies : He.DefD := ⟨("lies", none), "lies", "lies", defArgs s_lies, defBody s_lies, defScope s_lies, [], []⟩
def d_fraction : He.DefD := ⟨("fraction", none), "fraction", "fraction", defArgs s_fraction, defBody s_fraction, defScope s_fraction, [], []⟩
def d_plus : He.DefD := ⟨("plus", none), "plus", "plus", defArgs s_plus, defBody s_plus, defScope s_plus, [], []⟩
def d_minus : He.DefD := ⟨("minus", none), "minus", "minus", defArgs s_minus, defBody s_minus, defScope s_minus, [], []⟩
def d_times : He.DefD := ⟨("times", none), "times", "times", defArgs s_times, defBody s_times, defScope s_times, [], []⟩
def d_parted : He.DefD := ⟨("parted", none), "parted", "parted", defArgs s_parted, defBody s_parted, defScope s_parted, [], []⟩
def d_under : He.DefD := ⟨("under", none), "under", "under", defArgs s_under, defBody s_under, defScope s_under, [], []⟩
def d_least_from : He.DefD := ⟨("least_from", none), "least_from", "least_from", defArgs s_least_from, defBody s_least_from, defScope s_least_from, [], []⟩
def d_least_above : He.DefD := ⟨("least_above", none), "least_above", "least_above", defArgs s_least_above, defBody s_least_above, defScope s_least_above, [], []⟩
def d_begin : He.DefD := ⟨("begin", none), "begin", "begin", defArgs s_begin, defBody s_begin, defScope s_begin, [], []⟩
def d_part_at : He.DefD := ⟨("part_at", none), "part_at", "part_at", defArgs s_part_at, defBody s_part_at, defScope s_part_at, [], []⟩
def d_row_of : He.DefD := ⟨("row_of", none), "row_of", "row_of", defArgs s_row_of, defBody s_row_of, defScope s_row_of, [], []⟩
def d_table : He.DefD := ⟨("table", none), "table", "table", defArgs s_table, defBody s_table, defScope s_table, [], []⟩
def d_tallies : He.DefD := ⟨("tallies", none), "tallies", "tallies", defArgs s_tallies, defBody s_tallies, defScope s_tallies, [], []⟩
def d_tally_at : He.DefD := ⟨("tally_at", none), "tally_at", "tally_at", defArgs s_tally_at, defBody s_tally_at, defScope s_tally_at, [], []⟩
def d_kept_by : He.DefD := ⟨("kept_by", none), "kept_by", "kept_by", defArgs s_kept_by, defBody s_kept_by, defScope s_kept_by, [], []⟩
def d_half_of : He.DefD := ⟨("half_of", none), "half_of", "half_of", defArgs s_half_of, defBody s_half_of, defScope s_half_of, [], []⟩
def d_need : He.DefD := ⟨("need", none), "need", "need", defArgs s_need, defBody s_need, defScope s_need, [], []⟩
def d_standing_behind : He.DefD := ⟨("standing_behind", none), "standing_behind", "standing_behind", defArgs s_standing_behind, defBody s_standing_behind, defScope s_standing_behind, [], []⟩
def d_end_of : He.DefD := ⟨("end_of", none), "end_of", "end_of", defArgs s_end_of, defBody s_end_of, defScope s_end_of, [], []⟩
def d_state_behind : He.DefD := ⟨("state_behind", none), "state_behind", "state_behind", defArgs s_state_behind, defBody s_state_behind, defScope s_state_behind, [], []⟩
def d_longer_ones : He.DefD := ⟨("longer_ones", none), "longer_ones", "longer_ones", defArgs s_longer_ones, defBody s_longer_ones, defScope s_longer_ones, [], []⟩
def d_word_of : He.DefD := ⟨("word_of", none), "word_of", "word_of", defArgs s_word_of, defBody s_word_of, defScope s_word_of, [], []⟩
def d_tree_of : He.DefD := ⟨("tree_of", none), "tree_of", "tree_of", defArgs s_tree_of, defBody s_tree_of, defScope s_tree_of, [], []⟩
def d_lots_of : He.DefD := ⟨("lots_of", none), "lots_of", "lots_of", defArgs s_lots_of, defBody s_lots_of, defScope s_lots_of, [], []⟩
def d_most_of : He.DefD := ⟨("most_of", none), "most_of", "most_of", defArgs s_most_of, defBody s_most_of, defScope s_most_of, [], []⟩
def d_fewest_of : He.DefD := ⟨("fewest_of", none), "fewest_of", "fewest_of", defArgs s_fewest_of, defBody s_fewest_of, defScope s_fewest_of, [], []⟩
def d_deed_due : He.DefD := ⟨("deed_due", none), "deed_due", "deed_due", defArgs s_deed_due, defBody s_deed_due, defScope s_deed_due, [], []⟩
def d_L_cell : He.DefD := ⟨("_law_cell", none), "_law_cell", "_law_cell", defArgs s_L_cell, defBody s_L_cell, defScope s_L_cell, [], []⟩
def d_L_mixed : He.DefD := ⟨("_law_mixed", none), "_law_mixed", "_law_mixed", defArgs s_L_mixed, defBody s_L_mixed, defScope s_L_mixed, [], []⟩
def d_L_lots : He.DefD := ⟨("_law_lots", none), "_law_lots", "_law_lots", defArgs s_L_lots, defBody s_L_lots, defScope s_L_lots, [], []⟩
def d_L_mask : He.DefD := ⟨("_law_mask", none), "_law_mask", "_law_mask", defArgs s_L_mask, defBody s_L_mask, defScope s_L_mask, [], []⟩
def d_L_slip : He.DefD := ⟨("_law_slip", none), "_law_slip", "_law_slip", defArgs s_L_slip, defBody s_L_slip, defScope s_L_slip, [], []⟩
def d_L_number : He.DefD := ⟨("_law_number", none), "_law_number", "_law_number", defArgs s_L_number, defBody s_L_number, defScope s_L_number, [], []⟩
def d_L_sheet : He.DefD := ⟨("_law_sheet", none), "_law_sheet", "_law_sheet", defArgs s_L_sheet, defBody s_L_sheet, defScope s_L_sheet, [], []⟩
def d_L_hall : He.DefD := ⟨("_law_hall", none), "_law_hall", "_law_hall", defArgs s_L_hall, defBody s_L_hall, defScope s_L_hall, [], []⟩
def d_L_whole : He.DefD := ⟨("_law_whole", none), "_law_whole", "_law_whole", defArgs s_L_whole, defBody s_L_whole, defScope s_L_whole, [], []⟩
def d_L_seen : He.DefD := ⟨("_law_seen", none), "_law_seen", "_law_seen", defArgs s_L_seen, defBody s_L_seen, defScope s_L_seen, [], []⟩
def d_L_filled : He.DefD := ⟨("_law_filled", none), "_law_filled", "_law_filled", defArgs s_L_filled, defBody s_L_filled, defScope s_L_filled, [], []⟩
def d_law : He.DefD := ⟨("law", none), "law", "law", defArgs s_law, defBody s_law, defScope s_law, [], []⟩
def d_Margin_init : He.DefD := ⟨("SeatsMargin", some "__init__"), "__init__", "Margin.__init__", defArgs s_Margin_init, defBody s_Margin_init, defScope s_Margin_init, [], []⟩
def d_Margin_possible : He.DefD := ⟨("SeatsMargin", some "possible"), "possible", "Margin.possible", defArgs s_Margin_possible, defBody s_Margin_possible, defScope s_Margin_possible, [], []⟩
def d_Margin_held : He.DefD := ⟨("SeatsMargin", some "held"), "held", "Margin.held", defArgs s_Margin_held, defBody s_Margin_held, defScope s_Margin_held, [], []⟩
def d_SeatsMargin_least : He.DefD := ⟨("SeatsMargin", some "least"), "least", "SeatsMargin.least", defArgs s_SeatsMargin_least, defBody s_SeatsMargin_least, defScope s_SeatsMargin_least, [], []⟩
def d_Way_init : He.DefD := ⟨("Way", some "__init__"), "__init__", "Way.__init__", defArgs s_Way_init, defBody s_Way_init, defScope s_Way_init, [.non], []⟩
def d_Seats_init : He.DefD := ⟨("Seats", some "__init__"), "__init__", "Seats.__init__", defArgs s_Seats_init, defBody s_Seats_init, defScope s_Seats_init, [.non], []⟩
def d_Way_ahead : He.DefD := ⟨("Seats", some "ahead"), "ahead", "Way.ahead", defArgs s_Way_ahead, defBody s_Way_ahead, defScope s_Way_ahead, [], []⟩
def d_Way_outcome : He.DefD := ⟨("Seats", some "outcome"), "outcome", "Way.outcome", defArgs s_Way_outcome, defBody s_Way_outcome, defScope s_Way_outcome, [], []⟩
def d_Seats_quota : He.DefD := ⟨("Seats", some "quota"), "quota", "Seats.quota", defArgs s_Seats_quota, defBody s_Seats_quota, defScope s_Seats_quota, [], []⟩
def d_Seats_counted : He.DefD := ⟨("Seats", some "counted"), "counted", "Seats.counted", defArgs s_Seats_counted, defBody s_Seats_counted, defScope s_Seats_counted, [], []⟩
def d_Seats_told_by : He.DefD := ⟨("Seats", some "told_by"), "told_by", "Seats.told_by", defArgs s_Seats_told_by, defBody s_Seats_told_by, defScope s_Seats_told_by, [], []⟩
def fns : List He.DefD := [d_is_whole, d_divisor, d_down, d_up, d_ballots_in, d_all_of, d_holds, d_without, d_members, d_size, d_lies, d_fraction, d_plus, d_minus, d_times, d_parted, d_under, d_least_from, d_least_above, d_begin, d_part_at, d_row_of, d_table, d_tallies, d_tally_at, d_kept_by, d_half_of, d_need, d_standing_behind, d_end_of, d_state_behind, d_longer_ones, d_word_of, d_tree_of, d_lots_of, d_most_of, d_fewest_of, d_deed_due, d_L_cell, d_L_mixed, d_L_lots, d_L_mask, d_L_slip, d_L_number, d_L_sheet, d_L_hall, d_L_whole, d_L_seen, d_L_filled, d_law, d_Margin_init, d_Margin_possible, d_Margin_held, d_SeatsMargin_least, d_Way_init, d_Seats_init, d_Way_ahead, d_Way_outcome, d_Seats_quota, d_Seats_counted, d_Seats_told_by]
def facts : List He.Fa := [.glo "is_whole",
  .glo "divisor",
  .glo "down",
  .glo "up",
  .glo "ballots_in",
  .glo "all_of",
  .glo "holds",
  .glo "without",
  .glo "members",
  .glo "size",
  .glo "lies",
  .glo "fraction",
  .glo "plus",
  .glo "minus",
  .glo "times",
  .glo "parted",
  .glo "under",
  .glo "least_from",
  .glo "least_above",
  .glo "begin",
  .glo "part_at",
  .glo "row_of",
  .glo "table",
  .glo "tallies",
  .glo "tally_at",
  .glo "kept_by",
  .glo "half_of",
  .glo "need",
  .glo "standing_behind",
  .glo "end_of",
  .glo "state_behind",
  .glo "longer_ones",
  .glo "word_of",
  .glo "tree_of",
  .glo "lots_of",
  .glo "most_of",
  .glo "fewest_of",
  .glo "deed_due",
  .glo "_law_cell",
  .glo "_law_mixed",
  .glo "_law_lots",
  .glo "_law_mask",
  .glo "_law_slip",
  .glo "_law_number",
  .glo "_law_sheet",
  .glo "_law_hall",
  .glo "_law_whole",
  .glo "_law_seen",
  .glo "_law_filled",
  .glo "law",
  .glo "Margin",
  .glo "SeatsMargin",
  .glo "Way",
  .glo "Seats",
  .free "len",
  .free "max",
  .free "min",
  .free "sum",
  .free "sorted",
  .free "range",
  .free "list",
  .free "dict",
  .free "tuple",
  .free "int",
  .free "bool",
  .free "isinstance",
  .free "abs",
  .free "divmod",
  .int "MOST" 100,
  .int "MOST_HANDS" 12,
  .int "MOST_SEATS" 60,
  .int "MOST_BY_QUOTA" 6,
  .cls "Seats",
  .noat "Seats" "hands",
  .noat "Seats" "seats",
  .noat "Seats" "lots",
  .mkr "Seats",
  .meth "Seats" "ahead",
  .meth "Seats" "outcome",
  .meth "Seats" "quota",
  .meth "Seats" "counted",
  .meth "Seats" "told_by",
  .cls "SeatsMargin",
  .noat "SeatsMargin" "way",
  .mkr "SeatsMargin",
  .meth "SeatsMargin" "possible",
  .meth "SeatsMargin" "held",
  .meth "SeatsMargin" "least",
  .glo "NOUGHT",
  .glo "ONE"]
end K75
set_option maxHeartbeats 1000000
-- KMath
/-! The plain model of the count of seats and of its margin, and its laws: no program in sight. -/
namespace K75

abbrev Slip := List Nat
abbrev Sheet := List (Slip × Nat)
/-- a deed: (true, h) seats h, (false, h) puts h out -/
abbrev Deed := Bool × Nat
abbrev Row := List Deed

/-! ### masks -/
def members (m : Nat) : List Nat := (List.range m).filter fun h => m.testBit h
def size (m : Nat) : Nat := (members m).length
def without (m h : Nat) : Nat := if m.testBit h then m ^^^ (1 <<< h) else m
def allOf (n : Nat) : Nat := 2 ^ n - 1
theorem testBit_lt {m h : Nat} (e : m.testBit h = true) : h < m :=
  Nat.lt_of_lt_of_le Nat.lt_two_pow_self (Nat.ge_two_pow_of_testBit e)
theorem mem_members {m h : Nat} : h ∈ members m ↔ m.testBit h = true := by
  unfold members
  rw [List.mem_filter, List.mem_range]
  exact ⟨fun z => z.2, fun z => ⟨testBit_lt z, z⟩⟩
theorem members_nodup (m : Nat) : (members m).Nodup := List.Pairwise.filter _ List.nodup_range
theorem testBit_without {m h x : Nat} : (without m h).testBit x = (m.testBit x && decide (x ≠ h)) := by
  unfold without
  split
  · rename_i e
    rw [Nat.testBit_xor, Nat.one_shiftLeft, Nat.testBit_two_pow]
    by_cases hx : x = h
    · subst hx; simp [e]
    · have : h ≠ x := fun z => hx z.symm
      simp [hx, this]
  · rename_i e
    by_cases hx : x = h
    · subst hx; simp at e; simp [e]
    · simp [hx]
theorem mem_without {m h x : Nat} : x ∈ members (without m h) ↔ x ∈ members m ∧ x ≠ h := by
  rw [mem_members, mem_members, testBit_without]; simp
theorem mem_allOf {n x : Nat} : x ∈ members (allOf n) ↔ x < n := by
  rw [mem_members, allOf, Nat.testBit_two_pow_sub_one]; simp
theorem without_lt {m h n : Nat} (e : m < 2 ^ n) : without m h < 2 ^ n := by
  refine Nat.lt_pow_two_of_testBit _ fun i hi => ?_
  rw [testBit_without, Nat.testBit_lt_two_pow (Nat.lt_of_lt_of_le e (Nat.pow_le_pow_right (by decide) hi))]; rfl

/-! ### where a ballot lies -/
def lies : Slip → Nat → Nat
  | [], _ => 0
  | t :: r, st => if t &&& st = 0 then lies r st else t &&& st
def coef (s : Slip) (st h : Nat) : Rat := if (lies s st).testBit h then 1 / (size (lies s st) : Rat) else 0
theorem lies_sub {s : Slip} {st h : Nat} (e : (lies s st).testBit h = true) : st.testBit h = true := by
  induction s with
  | nil => simp [lies] at e
  | cons t r ih =>
    unfold lies at e
    split at e
    · exact ih e
    · rw [Nat.testBit_and] at e
      exact (Bool.and_eq_true_iff.mp e).2
theorem size_pos {m h : Nat} (e : m.testBit h = true) : 0 < size m :=
  List.length_pos_of_mem (mem_members.mpr e)
theorem rdiv_nonneg {a b : Rat} (ha : 0 ≤ a) (hb : 0 < b) : 0 ≤ a / b :=
  Rat.le_of_mul_le_mul_right (c := b) (by rw [Rat.zero_mul, Rat.div_mul_cancel (Rat.ne_of_gt hb)]; exact ha) hb
theorem rdiv_le {a b c : Rat} (hb : 0 < b) : a / b ≤ c ↔ a ≤ c * b := by
  constructor
  · intro h
    have := Rat.mul_le_mul_of_nonneg_right h (Rat.le_of_lt hb)
    rwa [Rat.div_mul_cancel (Rat.ne_of_gt hb)] at this
  · intro h
    exact Rat.le_of_mul_le_mul_right (c := b) (by rw [Rat.div_mul_cancel (Rat.ne_of_gt hb)]; exact h) hb
theorem coef_nonneg (s : Slip) (st h : Nat) : 0 ≤ coef s st h := by
  unfold coef
  split
  · rename_i e
    have := size_pos e
    have h1 : (0 : Rat) < (size (lies s st) : Rat) := by exact_mod_cast this
    exact rdiv_nonneg (by decide) h1
  · exact Rat.le_refl
theorem coef_le (s : Slip) (st h : Nat) : coef s st h ≤ 1 := by
  unfold coef
  split
  · rename_i e
    have h0 := size_pos e
    have h1 : (1 : Rat) ≤ (size (lies s st) : Rat) := by exact_mod_cast h0
    have h2 : (0 : Rat) < (size (lies s st) : Rat) := by exact_mod_cast h0
    rw [rdiv_le h2]; simpa using h1
  · decide

/-! ### sums over a sheet -/
def wsum : Sheet → (Slip → Rat) → Rat
  | [], _ => 0
  | l :: r, f => (l.2 : Rat) * f l.1 + wsum r f
def total : Sheet → Nat
  | [] => 0
  | l :: r => l.2 + total r
theorem wsum_append (S T : Sheet) (f : Slip → Rat) : wsum (S ++ T) f = wsum S f + wsum T f := by
  induction S with
  | nil => simp [wsum, Rat.zero_add]
  | cons l r ih => simp [wsum, ih, Rat.add_assoc]
theorem wsum_mono {S : Sheet} {f g : Slip → Rat} (h : ∀ s, f s ≤ g s) : wsum S f ≤ wsum S g := by
  induction S with
  | nil => exact Rat.le_refl
  | cons l r ih =>
    simp only [wsum]
    have h0 : (0 : Rat) ≤ (l.2 : Rat) := by exact_mod_cast Nat.zero_le _
    have h1 := Rat.mul_le_mul_of_nonneg_left (h l.1) h0
    grind
theorem wsum_zero (S : Sheet) : wsum S (fun _ => 0) = 0 := by
  induction S with
  | nil => rfl
  | cons l r ih => simp [wsum, ih, Rat.mul_zero, Rat.add_zero]
theorem wsum_nonneg {S : Sheet} {f : Slip → Rat} (h : ∀ s, 0 ≤ f s) : 0 ≤ wsum S f := by
  rw [← wsum_zero S]; exact wsum_mono h
theorem wsum_add (S : Sheet) (f g : Slip → Rat) : wsum S (fun s => f s + g s) = wsum S f + wsum S g := by
  induction S with
  | nil => simp [wsum, Rat.add_zero]
  | cons l r ih => simp only [wsum, ih]; grind
theorem wsum_sub (S : Sheet) (f g : Slip → Rat) : wsum S (fun s => f s - g s) = wsum S f - wsum S g := by
  induction S with
  | nil => simp only [wsum]; grind
  | cons l r ih => simp only [wsum, ih]; grind
theorem wsum_smul (S : Sheet) (f : Slip → Rat) (c : Rat) : wsum S (fun s => f s * c) = wsum S f * c := by
  induction S with
  | nil => simp [wsum, Rat.zero_mul]
  | cons l r ih => simp only [wsum, ih]; grind
theorem wsum_one (S : Sheet) : wsum S (fun _ => 1) = (total S : Rat) := by
  induction S with
  | nil => rfl
  | cons l r ih => simp only [wsum, total, ih, Rat.mul_one]; exact_mod_cast rfl

/-! ### the count -/
def tally (S : Sheet) (F : Slip → Rat) (st h : Nat) : Rat := wsum S fun s => F s * coef s st h
def stays (q : Nat) (t : Rat) : Rat := if (q : Rat) < t then (q : Rat) / t else 1
/-- what is free, what is kept, who stands -/
structure Cnt where
  F : Slip → Rat
  G : Slip → List Rat
  st : Nat
def part (F : Slip → Rat) (st h : Nat) (y : Rat) (s : Slip) : Rat := F s * coef s st h * y
def freeBy (S : Sheet) (q : Nat) (F : Slip → Rat) (st h : Nat) : Slip → Rat := fun s => F s - part F st h (stays q (tally S F st h)) s
def keptBy (S : Sheet) (q : Nat) (F : Slip → Rat) (G : Slip → List Rat) (st h : Nat) : Slip → List Rat := fun s =>
  (G s).set h ((G s).getD h 0 + part F st h (stays q (tally S F st h)) s)
def step (S : Sheet) (q : Nat) (c : Cnt) (d : Deed) : Cnt :=
  if d.1 = true then ⟨freeBy S q c.F c.st d.2, keptBy S q c.F c.G c.st d.2, without c.st d.2⟩ else ⟨c.F, c.G, without c.st d.2⟩
def begin (hands : Nat) : Cnt := ⟨fun _ => 1, fun _ => List.replicate hands 0, allOf hands⟩
def run (S : Sheet) (q hands : Nat) (R : Row) : Cnt := R.foldl (step S q) (begin hands)
theorem run_snoc (S : Sheet) (q hands : Nat) (R : Row) (d : Deed) : run S q hands (R ++ [d]) = step S q (run S q hands R) d := by
  simp [run, List.foldl_append]
theorem run_nil (S : Sheet) (q hands : Nat) : run S q hands [] = begin hands := rfl
def stAfter (hands : Nat) (R : Row) : Nat := R.foldl (fun st d => without st d.2) (allOf hands)
theorem stAfter_snoc (hands : Nat) (R : Row) (d : Deed) : stAfter hands (R ++ [d]) = without (stAfter hands R) d.2 := by
  simp [stAfter, List.foldl_append]
theorem step_st (S : Sheet) (q : Nat) (c : Cnt) (d : Deed) : (step S q c d).st = without c.st d.2 := by
  unfold step; split <;> rfl

/-! ### needs -/
def halfOf (g : Rat) (strict : Bool) : Int := if strict = true then max 0 ((g * (1 / 2)).floor + 1) else max 0 (g * (1 / 2)).ceil
theorem halfOf_le {g : Rat} {b : Bool} {k : Int} (hk : 0 ≤ k) : halfOf g b ≤ k ↔ if b = true then g < 2 * (k : Rat) else g ≤ 2 * (k : Rat) := by
  unfold halfOf
  cases b with
  | true =>
    simp only [if_true]
    have e : (g * (1 / 2)).floor + 1 ≤ k ↔ (g * (1 / 2)).floor < k := by omega
    rw [Int.max_le, e, Rat.floor_lt_iff]
    constructor
    · intro h; grind
    · intro h; exact ⟨hk, by grind⟩
  | false =>
    simp only [Bool.false_eq_true, if_false]
    rw [Int.max_le, Rat.ceil_le_iff]
    constructor
    · intro h; grind
    · intro h; exact ⟨hk, by grind⟩
def ahead (lots : List Nat) (x y : Nat) : Bool := decide (lots.idxOf x < lots.idxOf y)
def needSeat (lots : List Nat) (T : Nat → Rat) (h : Nat) (a : Int) (x : Nat) : Int := if x = h then a else max a (halfOf (T x - T h) (ahead lots x h))
def needOut (lots : List Nat) (q : Nat) (T : Nat → Rat) (h : Nat) (a : Int) (x : Nat) : Int :=
  if x = h then max a ((T x - (q : Rat)).floor + 1) else max (max a ((T x - (q : Rat)).floor + 1)) (halfOf (T h - T x) (ahead lots h x))
def needOf (lots : List Nat) (q : Nat) (T : Nat → Rat) (st : Nat) (d : Deed) : Int :=
  if d.1 = true then (members st).foldl (needSeat lots T d.2) (max 0 ((q : Rat) - T d.2).ceil) else (members st).foldl (needOut lots q T d.2) 0
theorem foldl_le {k : Int} {f : Int → Nat → Int} {P : Nat → Prop} (h : ∀ a x, f a x ≤ k ↔ a ≤ k ∧ P x) : ∀ (l : List Nat) (a : Int), l.foldl f a ≤ k ↔ a ≤ k ∧ ∀ x ∈ l, P x
  | [], a => by simp
  | y :: r, a => by
    rw [List.foldl_cons, foldl_le h r, h]
    simp only [List.mem_cons, forall_eq_or_imp, and_assoc]
theorem needOf_seat {lots : List Nat} {q : Nat} {T : Nat → Rat} {st h : Nat} {k : Int} (hk : 0 ≤ k) : needOf lots q T st (true, h) ≤ k ↔
    (q : Rat) - T h ≤ (k : Rat) ∧ ∀ x ∈ members st, x ≠ h → if ahead lots x h = true then T x - T h < 2 * (k : Rat) else T x - T h ≤ 2 * (k : Rat) := by
  unfold needOf
  simp only [if_true]
  rw [foldl_le (P := fun x => x ≠ h → if ahead lots x h = true then T x - T h < 2 * (k : Rat) else T x - T h ≤ 2 * (k : Rat))]
  · rw [Int.max_le, Rat.ceil_le_iff]
    simp [hk]
  · intro a x
    unfold needSeat
    split
    · rename_i e; simp [e]
    · rename_i e
      rw [Int.max_le, halfOf_le hk]
      simp [e]
theorem needOf_out {lots : List Nat} {q : Nat} {T : Nat → Rat} {st h : Nat} {k : Int} (hk : 0 ≤ k) : needOf lots q T st (false, h) ≤ k ↔
    ∀ x ∈ members st, T x - (q : Rat) < (k : Rat) ∧ (x ≠ h → if ahead lots h x = true then T h - T x < 2 * (k : Rat) else T h - T x ≤ 2 * (k : Rat)) := by
  unfold needOf
  simp only [Bool.false_eq_true, if_false]
  rw [foldl_le (P := fun x => T x - (q : Rat) < (k : Rat) ∧ (x ≠ h → if ahead lots h x = true then T h - T x < 2 * (k : Rat) else T h - T x ≤ 2 * (k : Rat)))]
  · simp [hk]
  · intro a x
    have e1 : (T x - (q : Rat)).floor + 1 ≤ k ↔ T x - (q : Rat) < (k : Rat) := by
      rw [← Rat.floor_lt_iff]; omega
    unfold needOut
    split
    · rename_i e
      rw [Int.max_le, e1]; simp [e]
    · rename_i e
      rw [Int.max_le, Int.max_le, halfOf_le hk, e1]
      simp [e, and_assoc]
theorem foldl_ge {f : Int → Nat → Int} (h : ∀ a x, a ≤ f a x) : ∀ (l : List Nat) (a : Int), a ≤ l.foldl f a
  | [], a => Int.le_refl a
  | y :: r, a => Int.le_trans (h a y) (foldl_ge h r (f a y))
theorem needOf_nonneg (lots : List Nat) (q : Nat) (T : Nat → Rat) (st : Nat) (d : Deed) : 0 ≤ needOf lots q T st d := by
  unfold needOf
  split
  · refine Int.le_trans ?_ (foldl_ge (fun a x => ?_) _ _)
    · exact Int.le_max_left ..
    · unfold needSeat; split
      · exact Int.le_refl _
      · exact Int.le_max_left ..
  · refine foldl_ge (fun a x => ?_) _ _
    unfold needOut; split <;> omega

/-! ### rows -/
/-- the way: hands, seats, lots -/
structure Hall where
  hands : Nat
  seats : Nat
  lots : List Nat
def quota (seats n : Nat) : Nat := n / (seats + 1) + 1
abbrev Hall.q (W : Hall) (S : Sheet) : Nat := quota W.seats (total S)
def seated (R : Row) : List Nat := (R.filter (·.1)).map (·.2)
def endOf (W : Hall) (R : Row) : Option (List Int) :=
  let st := stAfter W.hands R
  let places : Int := (W.seats : Int) - ((seated R).length : Int)
  if 0 < places ∧ places < (size st : Int) then none
  else
    let all := if (size st : Int) ≤ places then seated R ++ members st else seated R
    some ((List.range W.hands).map fun h => if h ∈ all then 1 else 0)
inductive Valid (W : Hall) : Row → Prop
  | nil : Valid W []
  | snoc {R : Row} {d : Deed} : Valid W R → endOf W R = none → d.2 ∈ members (stAfter W.hands R) → Valid W (R ++ [d])
abbrev Hall.cnt (W : Hall) (S : Sheet) (R : Row) : Cnt := run S (W.q S) W.hands R
abbrev Hall.T (W : Hall) (S : Sheet) (R : Row) : Nat → Rat := tally S (W.cnt S R).F (W.cnt S R).st
abbrev Hall.need (W : Hall) (S : Sheet) (R : Row) (d : Deed) : Int := needOf W.lots (W.q S) (W.T S R) (W.cnt S R).st d
def needStep (W : Hall) (S : Sheet) (z : Cnt × Int) (d : Deed) : Cnt × Int := (step S (W.q S) z.1 d, max z.2 (needOf W.lots (W.q S) (tally S z.1.F z.1.st) z.1.st d))
def Hall.needRow (W : Hall) (S : Sheet) (R : Row) : Int := (R.foldl (needStep W S) (begin W.hands, 0)).2
theorem needStep_fst (W : Hall) (S : Sheet) (R : Row) : (R.foldl (needStep W S) (begin W.hands, 0)).1 = W.cnt S R := by
  have all : ∀ (R : Row) (z : Cnt × Int), (R.foldl (needStep W S) z).1 = R.foldl (step S (W.q S)) z.1 := by
    intro R
    induction R with
    | nil => intro z; rfl
    | cons d r ih => intro z; rw [List.foldl_cons, ih]; rfl
  exact all R _
theorem needRow_nil (W : Hall) (S : Sheet) : W.needRow S [] = 0 := rfl
theorem needRow_snoc (W : Hall) (S : Sheet) (R : Row) (d : Deed) : W.needRow S (R ++ [d]) = max (W.needRow S R) (W.need S R d) := by
  have e := needStep_fst W S R
  unfold Hall.needRow
  rw [List.foldl_append]
  show max _ (needOf _ _ (tally S (R.foldl (needStep W S) (begin W.hands, 0)).1.F (R.foldl (needStep W S) (begin W.hands, 0)).1.st) (R.foldl (needStep W S) (begin W.hands, 0)).1.st d) = _
  rw [e]
theorem cnt_st (W : Hall) (S : Sheet) (R : Row) : (W.cnt S R).st = stAfter W.hands R := by
  have all : ∀ (R : Row) (c : Cnt), (R.foldl (step S (W.q S)) c).st = R.foldl (fun st d => without st d.2) c.st := by
    intro R
    induction R with
    | nil => intro c; rfl
    | cons d r ih => intro c; rw [List.foldl_cons, ih, step_st]; rfl
  exact all R _
theorem cnt_snoc (W : Hall) (S : Sheet) (R : Row) (d : Deed) : W.cnt S (R ++ [d]) = step S (W.q S) (W.cnt S R) d := run_snoc ..
/-- the rows along which a count goes -/
inductive DueRow (W : Hall) (S : Sheet) : Row → Prop
  | nil : DueRow W S []
  | snoc {R : Row} {d : Deed} : DueRow W S R → endOf W R = none → d.2 ∈ members (stAfter W.hands R) → W.need S R d ≤ 0 → DueRow W S (R ++ [d])
theorem DueRow.valid {W : Hall} {S : Sheet} {R : Row} (h : DueRow W S R) : Valid W R := by
  induction h with
  | nil => exact .nil
  | snoc _ e m _ ih => exact .snoc ih e m
theorem due_of {W : Hall} {S : Sheet} {R : Row} (h : Valid W R) (n : W.needRow S R ≤ 0) : DueRow W S R := by
  induction h with
  | nil => exact .nil
  | snoc v e m ih =>
    rw [needRow_snoc] at n
    exact .snoc (ih (by omega)) e m (by omega)
theorem snoc_inj {α : Type} {a b : List α} {x y : α} (h : a ++ [x] = b ++ [y]) : a = b ∧ x = y := by
  obtain ⟨h1, h2⟩ := List.append_inj' h rfl
  exact ⟨h1, by simpa using h2⟩
theorem Valid.at {W : Hall} {R : Row} (h : Valid W R) : ∀ P d r, R = P ++ d :: r → Valid W P ∧ endOf W P = none ∧ d.2 ∈ members (stAfter W.hands P) := by
  induction h with
  | nil => intro P d r e; simp at e
  | @snoc R0 d0 v e m ih =>
    intro P d r eq
    rcases List.eq_nil_or_concat r with rfl | ⟨r', z, rfl⟩
    · obtain ⟨h1, h2⟩ := snoc_inj eq
      subst h1; subst h2
      exact ⟨v, e, m⟩
    · have eq2 : R0 ++ [d0] = (P ++ d :: r') ++ [z] := by rw [eq]; simp
      obtain ⟨h1, _⟩ := snoc_inj eq2
      exact ih P d r' h1
theorem DueRow.at {W : Hall} {S : Sheet} {R : Row} (h : DueRow W S R) : ∀ P d r, R = P ++ d :: r → W.need S P d ≤ 0 := by
  induction h with
  | nil => intro P d r e; simp at e
  | @snoc R0 d0 v e m n ih =>
    intro P d r eq
    rcases List.eq_nil_or_concat r with rfl | ⟨r', z, rfl⟩
    · obtain ⟨h1, h2⟩ := snoc_inj eq
      subst h1; subst h2
      exact n
    · have eq2 : R0 ++ [d0] = (P ++ d :: r') ++ [z] := by rw [eq]; simp
      obtain ⟨h1, _⟩ := snoc_inj eq2
      exact ih P d r' h1
/-- lots: any two hands are told apart -/
def Told (W : Hall) : Prop := ∀ x y, x < W.hands → y < W.hands → x ≠ y → W.lots.idxOf x ≠ W.lots.idxOf y
theorem due_unique {lots : List Nat} {q : Nat} {T : Nat → Rat} {st : Nat} {d e : Deed} (told : ∀ x ∈ members st, ∀ y ∈ members st, x ≠ y → lots.idxOf x ≠ lots.idxOf y)
    (hd : d.2 ∈ members st) (he : e.2 ∈ members st) (nd : needOf lots q T st d ≤ 0) (ne : needOf lots q T st e ≤ 0) : d = e := by
  obtain ⟨b, h⟩ := d
  obtain ⟨c, g⟩ := e
  have z : ((0 : Int) : Rat) = 0 := rfl
  have alike : ∀ x ∈ members st, ∀ y ∈ members st, x ≠ y → ahead lots x y = true ∨ ahead lots y x = true := by
    intro x hx y hy hxy
    have := told x hx y hy hxy
    simp only [ahead, decide_eq_true_eq]; omega
  cases b <;> cases c
  · rw [needOf_out (by decide)] at nd ne
    by_cases hg : h = g
    · subst hg; rfl
    · exfalso
      have a1 := (nd g he).2 (fun z => hg z.symm)
      have a2 := (ne h hd).2 hg
      rcases alike h hd g he hg with w | w
      · rw [w] at a1
        simp only [if_true] at a1
        split at a2 <;> grind
      · rw [w] at a2
        simp only [if_true] at a2
        split at a1 <;> grind
  · exfalso
    rw [needOf_out (by decide)] at nd
    rw [needOf_seat (by decide)] at ne
    have a1 := (nd g he).1
    have a2 := ne.1
    grind
  · exfalso
    rw [needOf_out (by decide)] at ne
    rw [needOf_seat (by decide)] at nd
    have a1 := (ne h hd).1
    have a2 := nd.1
    grind
  · rw [needOf_seat (by decide)] at nd ne
    by_cases hg : h = g
    · subst hg; rfl
    · exfalso
      have a1 := nd.2 g he (fun z => hg z.symm)
      have a2 := ne.2 h hd hg
      rcases alike h hd g he hg with w | w
      · rw [w] at a2
        simp only [if_true] at a2
        split at a1 <;> grind
      · rw [w] at a1
        simp only [if_true] at a1
        split at a2 <;> grind
end K75
set_option maxHeartbeats 4000000
-- KBase
/-! What all walks lean on: what stays (tuples, frozen lists), how plain data stand in the heap, the facts of the text. -/
namespace K75
open PySem PySem.Spec PyProof.Rows L2

/-! ### what stays: tuples and frozen things -/
structure Keep (H H' : Hp) : Prop where
  tup : ∀ b xs, H b = some (.tup xs) → H' b = some (.tup xs)
  frz : ∀ b o u, H b = some (.frz o u) → H' b = some (.frz o u)
theorem Keep.refl (H : Hp) : Keep H H := ⟨fun _ _ h => h, fun _ _ _ h => h⟩
theorem Keep.trans {H H1 H2 : Hp} (a : Keep H H1) (b : Keep H1 H2) : Keep H H2 := ⟨fun c xs h => b.tup c xs (a.tup c xs h), fun c o u h => b.frz c o u (a.frz c o u h)⟩
theorem Keep.of {H H' : Hp} (s : Same H H') : Keep H H' := ⟨fun c xs h => s c _ h, fun c o u h => s c _ h⟩
theorem Keep.new {H : Hp} {l : Addr} {o : HO} (h : H l = none) : Keep H (upd H l o) :=
  ⟨fun b xs e => by rw [upd_ne (ne_of_none e h)]; exact e, fun b ob u e => by rw [upd_ne (ne_of_none e h)]; exact e⟩
theorem Keep.lst {H : Hp} {l : Addr} {xs : List V} {o : HO} (h : H l = some (.lst xs)) : Keep H (upd H l o) :=
  ⟨fun b ys e => by rw [upd_ne (ne_of e h (by intro z; cases z))]; exact e, fun b ob u e => by rw [upd_ne (ne_of e h (by intro z; cases z))]; exact e⟩
theorem Keep.dK {H : Hp} {l : Addr} {kvs : List (Key × V)} {o : HO} (h : H l = some (.dK kvs)) : Keep H (upd H l o) :=
  ⟨fun b ys e => by rw [upd_ne (ne_of e h (by intro z; cases z))]; exact e, fun b ob u e => by rw [upd_ne (ne_of e h (by intro z; cases z))]; exact e⟩
theorem Keep.dT {H : Hp} {l : Addr} {kvs : List (List Key × V)} {o : HO} (h : H l = some (.dT kvs)) : Keep H (upd H l o) :=
  ⟨fun b ys e => by rw [upd_ne (ne_of e h (by intro z; cases z))]; exact e, fun b ob u e => by rw [upd_ne (ne_of e h (by intro z; cases z))]; exact e⟩
theorem Keep.ext {H : Hp} {l : Addr} {φ : Heap → Prop} {o : HO} (h : H l = some (.ext φ)) : Keep H (upd H l o) :=
  ⟨fun b ys e => by rw [upd_ne (ne_of e h (by intro z; cases z))]; exact e, fun b ob u e => by rw [upd_ne (ne_of e h (by intro z; cases z))]; exact e⟩
theorem Same.new {H : Hp} {l : Addr} {o : HO} (h : H l = none) : Same H (upd H l o) := fun b u e => by rw [upd_ne (ne_of_none e h)]; exact e
theorem Same.at {H0 H : Hp} {l : Addr} {o : HO} (s : Same H0 H) (h : H0 l = none) : Same H0 (upd H l o) := fun b u e => by rw [upd_ne (ne_of_none e h)]; exact s b u e

/-! ### a list is frozen: from then on it is read alone -/
def FzL (H : Hp) (p : Addr) (xs : List V) : Prop := ∃ o, H p = some (.frz o (.lst xs))
theorem FzL.sq {K : PySem.W.Frag} {H : Hp} {p : Addr} {xs : List V} (h : FzL H p xs) : SqL K H p xs := let ⟨o, e⟩ := h; .inl (.inr ⟨o, e⟩)
theorem FzL.keep {H H' : Hp} {p : Addr} {xs : List V} (k : Keep H H') (h : FzL H p xs) : FzL H' p xs := let ⟨o, e⟩ := h; ⟨o, k.frz _ _ _ e⟩
theorem sqt_keep {K : PySem.W.Frag} {H H' : Hp} {p : Addr} {xs : List V} (k : Keep H H') (h : SqT K H p xs) : SqT K H' p xs := by
  rcases h with (h | ⟨o, h⟩) | h
  · exact .inl (.inl (k.tup _ _ h))
  · exact .inl (.inr ⟨o, k.frz _ _ _ h⟩)
  · exact .inr h
def tFz (te : TE) : TE := fun σ H Q => te σ H fun v H1 => ∃ p xs, v = .ref p ∧ H1 p = some (.lst xs) ∧ ∀ o, Q v (upd H1 p (.frz o (.lst xs)))
theorem pe_fz {X : Cx} {e : Expr} {te : TE} (h : PE X e te) : PE X e (tFz te) := by
  refine ⟨fun pins s σ H Q I hw => ?_⟩
  refine thn (h.run pins s σ H _ I hw) fun v s1 ⟨x, H1, I1, r1, p, xs, e1, e2, q⟩ => ?_
  obtain ⟨o, I2⟩ := I1.lock e2 trivial
  exact ⟨x, _, I2, r1, q o⟩
/-- the frozen list at p, new there -/
theorem FzL.mk {H : Hp} {p : Addr} {o : Obj} {xs : List V} : FzL (upd H p (.frz o (.lst xs))) p xs := ⟨o, upd_same⟩

/-! ### plain data in the heap -/
abbrev Rl (α : Type) := PySem.W.Frag → Hp → V → α → Prop
structure Stays {α : Type} (r : Rl α) : Prop where
  k : ∀ {K : PySem.W.Frag} {H H' : Hp} {v : V} {a : α}, Keep H H' → r K H v a → r K H' v a
def rInt : Rl Int := fun _ _ v a => v = .int a
def rNat : Rl Nat := fun _ _ v a => v = .int (a : Int)
def rRat : Rl Rat := fun K H v q => ∃ p, v = .ref p ∧ SqT K H p [.int q.num, .int (q.den : Int)]
def rPair {α β : Type} (r : Rl α) (s : Rl β) : Rl (α × β) := fun K H v z => ∃ p x y, v = .ref p ∧ SqT K H p [x, y] ∧ r K H x z.1 ∧ s K H y z.2
def rLst {α : Type} (r : Rl α) : Rl (List α) := fun K H v as => ∃ p xs, v = .ref p ∧ FzL H p xs ∧ Paired (r K H) xs as
/-- a slip: a tracked tuple of masks -/
def rSlip : Rl Slip := fun _ H v s => ∃ p, v = .ref p ∧ H p = some (.tup (s.map fun (m : Nat) => V.int (m : Int)))
theorem rInt_stays : Stays rInt := ⟨fun _ h => h⟩
theorem rNat_stays : Stays rNat := ⟨fun _ h => h⟩
theorem rRat_stays : Stays rRat := ⟨fun k ⟨p, e, h⟩ => ⟨p, e, sqt_keep k h⟩⟩
theorem rPair_stays {α β : Type} {r : Rl α} {s : Rl β} (hr : Stays r) (hs : Stays s) : Stays (rPair r s) := ⟨fun k ⟨p, x, y, e, h, a, b⟩ => ⟨p, x, y, e, sqt_keep k h, hr.k k a, hs.k k b⟩⟩
theorem paired_mono {α β : Type} {F G : α → β → Prop} (f : ∀ a b, F a b → G a b) {l : List α} {m : List β} (h : Paired F l m) : Paired G l m := L2.Paired.mapP h f
theorem rLst_stays {α : Type} {r : Rl α} (hr : Stays r) : Stays (rLst r) := ⟨fun k ⟨p, xs, e, h, a⟩ => ⟨p, xs, e, h.keep k, paired_mono (fun _ _ z => hr.k k z) a⟩⟩
theorem rSlip_stays : Stays rSlip := ⟨fun k ⟨p, e, h⟩ => ⟨p, e, k.tup _ _ h⟩⟩
abbrev rSheet : Rl Sheet := rLst (rPair rSlip rNat)
abbrev rRats : Rl (List Rat) := rLst rRat
abbrev rState : Rl (List (Rat × List Rat)) := rLst (rPair rRat rRats)
abbrev rTable : Rl (List (List Rat)) := rLst rRats
theorem rSheet_stays : Stays rSheet := rLst_stays (rPair_stays rSlip_stays rNat_stays)
theorem rRats_stays : Stays rRats := rLst_stays rRat_stays
theorem rState_stays : Stays rState := rLst_stays (rPair_stays rRat_stays rRats_stays)
theorem rTable_stays : Stays rTable := rLst_stays rRats_stays
/-- a new tuple stands -/
theorem sqt_new {K : PySem.W.Frag} {H : Hp} {p : Addr} {xs : List V} : SqT K (upd H p (.tup xs)) p xs := SqT.of upd_same
theorem paired_get {α β : Type} {F : α → β → Prop} : ∀ {l : List α} {m : List β} {i : Nat} {x : α}, Paired F l m → l[i]? = some x → ∃ y, m[i]? = some y ∧ F x y
  | _, _, _, _, .nil, e => by simp at e
  | _, _, 0, _, .cons r _, e => by simp at e; subst e; exact ⟨_, rfl, r⟩
  | _, _, i + 1, x, .cons _ t, e => by
    obtain ⟨u, h1, h2⟩ := paired_get (i := i) (x := x) t (by simpa using e)
    exact ⟨u, by simpa using h1, h2⟩
theorem paired_at {α β : Type} {F : α → β → Prop} : ∀ {l : List α} {m : List β} {i : Nat} {y : β}, Paired F l m → m[i]? = some y → ∃ x, l[i]? = some x ∧ F x y
  | _, _, _, _, .nil, e => by simp at e
  | _, _, 0, _, .cons r _, e => by simp at e; subst e; exact ⟨_, rfl, r⟩
  | _, _, i + 1, x, .cons _ t, e => by
    obtain ⟨u, h1, h2⟩ := paired_at (i := i) (y := x) t (by simpa using e)
    exact ⟨u, by simpa using h1, h2⟩
theorem paired_snoc {α β : Type} {F : α → β → Prop} : ∀ {l : List α} {m : List β} {x : α} {y : β}, Paired F l m → F x y → Paired F (l ++ [x]) (m ++ [y])
  | _, _, _, _, .nil, h => .cons h .nil
  | _, _, _, _, .cons r t, h => .cons r (paired_snoc t h)
theorem paired_set {α β : Type} {F : α → β → Prop} : ∀ {l : List α} {m : List β} {x : α} {y : β} (i : Nat), Paired F l m → F x y → Paired F (l.set i x) (m.set i y)
  | _, _, _, _, _, .nil, _ => .nil
  | _, _, _, _, 0, .cons _ t, h => .cons h t
  | _, _, _, _, i + 1, .cons r t, h => .cons r (paired_set i t h)
theorem paired_len {α β : Type} {F : α → β → Prop} {l : List α} {m : List β} (h : Paired F l m) : l.length = m.length := Paired.length h

/-! ### what is handed back -/
/-- a value that reads a, in a heap that keeps all that was tracked -/
def Ret {α : Type} (K : PySem.W.Frag) (r : Rl α) (a : α) (H : Hp) (Q : VK) : Prop := ∀ H' v, Same H H' → r K H' v a → Q v H'

/-! ### the facts of the text -/
def exB (K : PySem.W.Frag) : Bool := He.tupB K "NOUGHT" [.int 0, .int 1] && (He.tupB K "ONE" [.int 1, .int 1] && (decide (PySem.W.kitOne K (.ref (He.ga K "SeatsMargin")) (.ref (He.ga K "Margin")) = some true) &&
  (He.eqO (PySem.W.findIn K (.ref (He.ga K "SeatsMargin")) "__class__") (some (some (.builtin "object.__class__"))) && (He.eqO (PySem.W.specialIn K (.builtin "object.__class__") "__get__") (some (some (.builtin "getset_descriptor.__get__"))) &&
  (decide (PySem.W.takesIn K (.builtin "object.__class__") = some true) && (decide (PySem.W.mroIn K (He.ga K "SeatsMargin") (.type "object") = some true) && (He.eqO (PySem.W.specialIn K (.ref (He.ga K "Way")) "__getattribute__") (some (some (.builtin "type.__getattribute__"))) && (PySem.W.readsIn K (He.ga K "Way") (.type "type") &&
  (match PySem.W.findCls K (.ref (He.ga K "Way")) (.type "type") "__init__" with
    | some (.val (.ref a)) => decide (a = He.fAd K d_Way_init.at_)
    | _ => false)))))))))
structure Tx (K : PySem.W.Frag) (mg : Str → Option Value) : Prop where
  says : He.SaysD facts fns K
  ex : exB K = true
  ns : ∃ h : Heap, K.In h ∧ h.Ns mainGlobals mg
section
variable {K : PySem.W.Frag} {mg : Str → Option Value}
theorem Tx.glo (T : Tx K mg) (i : Nat) {x : Str} (h : facts[i]? = some (.glo x)) : mg x = some (.ref (He.ga K x)) := let ⟨_, X, G⟩ := T.ns; He.glo_ok X G (T.says.fact i h)
theorem Tx.free (T : Tx K mg) (i : Nat) {x : Str} (h : facts[i]? = some (.free x)) : mg x = none := let ⟨_, X, G⟩ := T.ns; He.free_ok X G (T.says.fact i h)
theorem Tx.int (T : Tx K mg) (i : Nat) {x : Str} {z : Int} (h : facts[i]? = some (.int x z)) : ∃ t, mg x = some (.int z t) := let ⟨_, X, G⟩ := T.ns; He.int_ok X G (T.says.fact i h)
end
section
variable {K : PySem.W.Frag} {mg : Str → Option Value}
theorem Tx.nought {K : PySem.W.Frag} {mg : Str → Option Value} (T : Tx K mg) (H : Hp) : SqT K H (He.ga K "NOUGHT") [.int 0, .int 1] := He.tupB_ok (He.ba T.ex).1 H
theorem Tx.one {K : PySem.W.Frag} {mg : Str → Option Value} (T : Tx K mg) (H : Hp) : SqT K H (He.ga K "ONE") [.int 1, .int 1] := He.tupB_ok (He.ba (He.ba T.ex).2).1 H
theorem rat_nought (T : Tx K mg) (H : Hp) : rRat K H (.ref (He.ga K "NOUGHT")) 0 := ⟨_, rfl, T.nought H⟩
theorem rat_one (T : Tx K mg) (H : Hp) : rRat K H (.ref (He.ga K "ONE")) 1 := ⟨_, rfl, T.one H⟩
end
theorem g_NOUGHT {K : PySem.W.Frag} {mg : Str → Option Value} (T : Tx K mg) {X : Cx} {pos : Pos} (hM : X.mg = mg := by rfl) (hg : Gl X "NOUGHT" := by rfl) : PE X (.Name "NOUGHT" pos) (tC (.ref (He.ga K "NOUGHT"))) := pe_glob hg (by rw [hM]; exact T.glo 88 rfl) rfl
theorem g_ONE {K : PySem.W.Frag} {mg : Str → Option Value} (T : Tx K mg) {X : Cx} {pos : Pos} (hM : X.mg = mg := by rfl) (hg : Gl X "ONE" := by rfl) : PE X (.Name "ONE" pos) (tC (.ref (He.ga K "ONE"))) := pe_glob hg (by rw [hM]; exact T.glo 89 rfl) rfl
theorem g_int {X : Cx} (T : Tx X.K X.mg) (i : Nat) {x : Str} {z : Int} (h : facts[i]? = some (.int x z)) {pos : Pos} (hg : Gl X x) (hd : (x == ("__debug__" : Str)) = false := by decide) : PE X (.Name x pos) (tC (.int z)) := by
  obtain ⟨t, e⟩ := T.int i h
  exact pe_glob hg e ⟨t, rfl⟩ hd
/-- list + list, frozen or tracked ones -/
def rCatL : R2 := fun x y H Q => ∃ l b xs zs, x = .ref l ∧ y = .ref b ∧ Rd H l (.lst xs) ∧ Rd H b (.lst zs) ∧ xs.length + zs.length ≤ sizeLine ∧ ∀ p, H p = none → Q (.ref p) (upd H p (.lst (xs ++ zs)))
theorem op_catL {X : Cx} : OpR X (binaryOp .Add) rCatL := by
  intro pins s σ H x y v u Q I rx ry h
  obtain ⟨l, b, xs, zs, rfl, rfl, hH, hB, hz, q⟩ := h
  cases rx
  cases ry
  obtain ⟨z, its, n, r, e⟩ := hH.ok I.hok
  obtain ⟨z2, its2, n2, r2, e2⟩ := hB.ok I.hok
  have hl := r.length
  have hl2 := r2.length
  refine PySem.P.add_list e e2 ?_ (by rw [List.size_toArray, List.size_toArray]; omega)
  have ea : its.toArray ++ its2.toArray = (its ++ its2).toArray := by simp
  rw [ea]
  exact ⟨.ref _, _, I.lnew (t' := s.toks) (r.append r2) (by rw [List.length_append]; omega), rfl, q _ I.fresh⟩
theorem FzL.rd {H : Hp} {p : Addr} {xs : List V} (h : FzL H p xs) : Rd H p (.lst xs) := .inr h
section
variable {K : PySem.W.Frag} {mg : Str → Option Value}
theorem Tx.noat (T : Tx K mg) (i : Nat) {x f : Str} (h : facts[i]? = some (.noat x f)) : NoAttr K (He.ga K x) f := He.noat_ok (T.says.fact i h)
theorem Tx.meth_ (T : Tx K mg) (i : Nat) {x m : Str} (h : facts[i]? = some (.meth x m)) : Meth K (He.ga K x) m (He.ma K (He.ga K x) m) := He.meth_ok (T.says.fact i h)
theorem Tx.mkr (T : Tx K mg) (i : Nat) {x : Str} (h : facts[i]? = some (.mkr x)) : Mk K (He.ga K x) (He.ma K (He.ga K x) "__init__") := He.mkr_ok (T.says.fact i h)
theorem Tx.cls_Seats (T : Tx K mg) : Cls K (He.ga K "Seats") := He.cls_ok (T.says.fact 72 rfl)
theorem Tx.cls_SeatsMargin (T : Tx K mg) : Cls K (He.ga K "SeatsMargin") := He.cls_ok (T.says.fact 82 rfl)
theorem g_MOST (T : Tx K mg) {X : Cx} {pos : Pos} (hM : X.mg = mg := by rfl) (hg : Gl X "MOST" := by rfl) : PE X (.Name "MOST" pos) (tC (.int 100)) := let ⟨t, e⟩ := T.int 68 rfl; pe_glob hg (by rw [hM]; exact e) ⟨t, rfl⟩
theorem g_MOST_HANDS (T : Tx K mg) {X : Cx} {pos : Pos} (hM : X.mg = mg := by rfl) (hg : Gl X "MOST_HANDS" := by rfl) : PE X (.Name "MOST_HANDS" pos) (tC (.int 12)) := let ⟨t, e⟩ := T.int 69 rfl; pe_glob hg (by rw [hM]; exact e) ⟨t, rfl⟩
theorem g_MOST_SEATS (T : Tx K mg) {X : Cx} {pos : Pos} (hM : X.mg = mg := by rfl) (hg : Gl X "MOST_SEATS" := by rfl) : PE X (.Name "MOST_SEATS" pos) (tC (.int 60)) := let ⟨t, e⟩ := T.int 70 rfl; pe_glob hg (by rw [hM]; exact e) ⟨t, rfl⟩
theorem g_MOST_BY_QUOTA (T : Tx K mg) {X : Cx} {pos : Pos} (hM : X.mg = mg := by rfl) (hg : Gl X "MOST_BY_QUOTA" := by rfl) : PE X (.Name "MOST_BY_QUOTA" pos) (tC (.int 6)) := let ⟨t, e⟩ := T.int 71 rfl; pe_glob hg (by rw [hM]; exact e) ⟨t, rfl⟩
end
/-- a def of the text, at its place in fns -/
abbrev FnD (K : PySem.W.Frag) (d : He.DefD) (fd : FuncData) : Prop := FunD K d.name d.qual d.params d.body d.scope (d.dvs K) (d.kws K) (He.fAd K d.at_) fd
theorem okx {P : Program} {w : World} {K : PySem.W.Frag} {mg : Str → Option Value} {base : Heap} {d : He.DefD} {fd : FuncData} {N ps : List Str} {k : Nat} {sp : Sp} (F : FnD K d fd) (S : FnScope N ps d.scope) (len : ∀ vs H Q E, sp vs H Q E → vs.length = ps.length)
    (hbody : ∀ (cdv : Value) (A : Around) (outer : List Env) (s : Shared) (H : Hp) (vs : List V) (Q : VK) (E : XK), Room k (A.deeper (envOfC d.qual d.scope s.heap.objs.size (He.fAd K d.at_) cdv)) → sp vs H Q E →
      ∃ t, PSs (cxOf CX0 P w K mg base N d.qual d.scope (He.fAd K d.at_) cdv A outer s H E).nox d.body t ∧ t { nx := fun _ H' => Q .non H', rt := Q } (start N vs) H) : FnOk P w K mg base CX0 (k + 1) (He.fAd K d.at_) fd ps sp :=
  F.ok S len fun cdv A outer s H vs Q E hr hsp => let ⟨t, h, q⟩ := hbody cdv A outer s H vs Q E hr hsp; ⟨t, h.nox, q⟩
abbrev leastAt : Str × Option Str := ("SeatsMargin", some "least")
end K75
set_option maxHeartbeats 0
-- KRun
/-! the head: the facts by one run of the top; the end. -/
namespace K75
open PySem PySem.Spec PyProof.Rows L2 LamX
abbrev rowK : PySem.W.OpenRow := PySem.W.OpenLaw.row PySem.Challenge.rw_pollproof_k75_whole_fewer_change_nothing
abbrev viewK : Program := PySem.W.view rowK.prog [84]
/-! the Hook: as the library's with tables, and beside what the names reach the interpreter's own statics, where the read of Way.__init__ looks -/
def nextY (g : Addr → Option Obj) (as : List Addr) : List Addr := as.flatMap fun a => match g a with
  | some u => He.refsD u
  | none => []
def walkY (g : Addr → Option Obj) : Nat → List Addr → List Addr
  | 0, as => as
  | n + 1, as => as ++ walkY g n (nextY g as)
def asY (g : Addr → Option Obj) : List Addr := PySem.cStatics :: walkY g 4 [mainGlobals]
def frY (g : Addr → Option Obj) : PySem.W.Frag := He.frT g (asY g)
def obY (g : Addr → Option Obj) : He.AlX := ⟨He.obsT facts fns [] (frY g), exB (frY g) && He.tabsB g [leastAt] (frY g)⟩
abbrev SaysY (w : World) (h : Heap) (K : PySem.W.Frag) : Prop := He.SaysX facts fns [] [leastAt] exB w h K
theorem saysY {w : World} {h : Heap} (e : obY h.get? = He.valX fns [] w) : SaysY w h (frY h.get?) := by
  have x := He.ba (congrArg Prod.snd e)
  have look : ∀ p ∈ [leastAt], PySem.W.codeHdIn (frY h.get?) (He.cT (frY h.get?) p).1 (He.cT (frY h.get?) p).2 = true ∧ ∃ u, h.get? (He.cT (frY h.get?) p).2 = some u ∧ He.emptyTab u = true := by
    intro p hp
    have y := He.ba (List.all_eq_true.mp x.2 p hp)
    have y2 := y.2
    refine ⟨y.1, ?_⟩
    split at y2
    · rename_i u hu
      exact ⟨u, hu, y2⟩
    · cases y2
  refine { t := congrArg Prod.fst e, more := x.1, hd := fun p hp => (look p hp).1, out := fun p hp => ?_, empty := fun p hp => ?_ }
  · obtain ⟨_, u, hu, hu2⟩ := look p hp
    exact He.frT_none hu hu2
  · obtain ⟨_, u, hu, hu2⟩ := look p hp
    rw [hu]
    exact congrArg some (He.emptyTab_eq hu2)
def hookK : PySem.W.Hook where
  α := He.AlX
  obs := fun t => obY t.heap.get?
  val := fun w => He.valX fns [] w
  says := fun w h => ∃ K : PySem.W.Frag, K.In h ∧ SaysY w h K
  of := fun _ _ e => ⟨_, He.frT_in, saysY e⟩
  keeps := fun _ _ _ x k => x.elim fun K y => ⟨K, PySem.W.Frag.In.keeps y.1 k, { t := y.2.t, more := y.2.more, hd := y.2.hd, out := y.2.out, empty := fun p hp => k _ _ (y.2.empty p hp) }⟩
def obsK (s : PySem.W.SharedT) : He.AlX := obY (HandSHeadRun.getT s)
theorem obsK_eq (s : PySem.W.SharedT) : obsK s = hookK.obs s.abs := by
  have e : HandSHeadRun.getT s = s.abs.heap.get? := funext (HandSHeadRun.getT_eq s)
  show obY (HandSHeadRun.getT s) = obY s.abs.heap.get?
  rw [e]
def loose1 : List PySem.Str := ["PollError", "NoNumber", "NoChange", "NoWay", "TooHard", "is_whole", "divisor", "down", "up", "put_together", "ballots_in", "number_of", "changed", "all_of", "holds", "without", "members", "size", "free_for", "turn_of"]
def loose2 : List PySem.Str := ["shift", "Margin", "lies", "fraction", "plus", "minus", "times", "parted", "under", "least_from", "least_above", "NOUGHT", "ONE", "begin", "part_at", "row_of", "table", "tallies", "tally_at", "kept_by"]
def loose3 : List PySem.Str := ["MOST", "half_of", "need", "standing_behind", "end_of", "state_behind", "longer_ones", "word_of", "tree_of", "goes_on", "SeatsMargin", "MOST_HANDS", "MOST_SEATS", "lots_of", "Way", "MOST_BY_QUOTA", "most_of", "fewest_of", "deed_due", "Seats"]
def loose4 : List PySem.Str := ["_law_cell", "_law_mixed", "_law_lots", "_law_mask", "_law_slip", "_law_number", "_law_sheet", "_law_hall", "_law_whole", "_law_seen", "_law_filled"]
def loose : List PySem.Str := loose1 ++ loose2 ++ loose3 ++ loose4
theorem headRun (w : World) : HandSHeadRun.RunEq rowK viewK hookK obsK 40000 loose w := by
  intro os
  kernel_rfl
end K75
set_option maxHeartbeats 4000000
-- K1
/-! wholes, ratios: whole numbers and fractions. -/
namespace K75
open PySem PySem.Spec PyProof.Rows L2
section
variable {P : Program} {w : World} {K : PySem.W.Frag} {mg : Str → Option Value} {base : Heap}
/-! ### is_whole -/
def sp_is_whole (_ : PySem.W.Frag) : Sp := fun vs H Q _ => ∃ i : Int, vs = [.int i] ∧ Q (.bl true) H
abbrev N_is_whole : List Str := ["thing"]
theorem sc_is_whole : FnScope N_is_whole ["thing"] (defScope s_is_whole) := ⟨rfl, rfl, rfl, by decide +kernel, rfl, by decide +kernel, by decide +kernel⟩
theorem ok_is_whole (T : Tx K mg) {fd : FuncData} (F : FnD K d_is_whole fd) : FnOk P w K mg base CX0 1 (He.fAd K d_is_whole.at_) fd ["thing"] (sp_is_whole K) := by
  have nd := sc_is_whole.nd
  refine okx F sc_is_whole (fun vs H Q E h => ?_) (fun cdv A outer s H vs Q E hr h => ?_)
  · obtain ⟨i, rfl, _⟩ := h
    rfl
  · obtain ⟨i, rfl, k⟩ := h
    refine ⟨_, (pss_one (ps_ret (pe_and (pe_callB call_isi (by rfl) (T.free 65 rfl) (by decide +kernel) (pa_cons (pv 0) (pa_cons (pe_bltn (v := .ty "int") (u := .type "int") (by rfl) (T.free 63 rfl) (by decide +kernel) rfl) pa_nil))) (pe_one (pe_not (pe_callB call_isi (by rfl) (T.free 65 rfl) (by decide +kernel) (pa_cons (pv 0) (pa_cons (pe_bltn (v := .ty "bool") (u := .type "bool") (by rfl) (T.free 64 rfl) (by decide +kernel) rfl) pa_nil)))))))), ?_⟩
    refine ⟨_, rfl, _, _, _, _, true, rfl, .ty _, .base (.int _), kit_ty (by decide +kernel), true, rfl, iteT ?_⟩
    exact ⟨_, rfl, _, _, _, _, false, rfl, .ty _, .base (.int _), kit_ty (by decide +kernel), false, rfl, k⟩
theorem pc_is_whole {K : PySem.W.Frag} {mg : Str → Option Value} (T : Tx K mg) {X : Cx} (hr : Room 1 X.A) (hg : Gl X "is_whole") {p pos : Pos} {e : Expr} {es : List Expr} {t : TA} (ha : PA X (e :: es) t) (hK : X.K = K := by rfl) (hM : X.mg = mg := by rfl) (he : starEach (e :: es) X.env = (false, eval e X.env) :: starEach es X.env := by rfl) (hpl : (backTo pos (starEach es X.env)).any (·.1) = false := by rfl) : PE X (.Call (.Name "is_whole" p) (e :: es) [] pos) (tCall (sp_is_whole K) [] E0 t) := by
  subst hK hM
  obtain ⟨fd, F⟩ := T.says.def_ 0 (d := d_is_whole) rfl
  exact pe_call (ok_is_whole T F) hr hg (T.glo 0 rfl) F.kp (F.bindsN fun _ _ _ _ _ _ us hl => match us, hl with | [_], _ => rfl) .nil pass0 ha (by decide) he hpl
/-! ### divisor -/
def sp_divisor (_ : PySem.W.Frag) : Sp := fun vs H Q _ => ∃ i j : Int, vs = [.int i, .int j] ∧ Q (.int (Int.gcd i j : Nat)) H
theorem abs_eq (i : Int) : (if i < 0 then -i else i) = (i.natAbs : Int) := by split <;> omega
abbrev N_divisor : List Str := ["one", "other", "rest"]
theorem sc_divisor : FnScope N_divisor ["one", "other"] (defScope s_divisor) := ⟨rfl, rfl, rfl, by decide +kernel, rfl, by decide +kernel, by decide +kernel⟩
theorem ok_divisor (T : Tx K mg) {fd : FuncData} (F : FnD K d_divisor fd) : FnOk P w K mg base CX0 1 (He.fAd K d_divisor.at_) fd ["one", "other"] (sp_divisor K) := by
  have nd := sc_divisor.nd
  refine okx F sc_divisor (fun vs H Q E h => ?_) (fun cdv A outer s H vs Q E hr h => ?_)
  · obtain ⟨i, j, rfl, _⟩ := h
    rfl
  · obtain ⟨i, j, rfl, k⟩ := h
    refine ⟨_, (pss_cons (ps_set (i := 0) nd rfl (Or.inl rfl) (pe_callB call_abs (by rfl) (T.free 66 rfl) (by decide +kernel) (pa_cons (pv 0) pa_nil)))
      (pss_cons (ps_set (i := 1) nd rfl (Or.inl rfl) (pe_callB call_abs (by rfl) (T.free 66 rfl) (by decide +kernel) (pa_cons (pv 1) pa_nil)))
      (pss_cons (ps_while PassesOwn.never (pt_cmpR op_gt (pv 1) pe_int (nomark _)) (pss_cons (ps_set (i := 2) nd rfl (Or.inl rfl) (pe_op op_mod (pv 0) (pv 1)))
      (pss_cons (ps_set (i := 0) nd rfl (Or.inl rfl) (pv 1))
      (pss_one (ps_set (i := 1) nd rfl (Or.inl rfl) (pv 2))))))
      (pss_one (ps_ret (pv 0)))))), ?_⟩
    refine ⟨_, rfl, _, rfl, _, rfl, _, rfl, ?_⟩
    refine ⟨fun m σ H' => H' = H ∧ ∃ (a b : Nat) (r : Option V), σ = [some (.int a), some (.int b), r] ∧ Nat.gcd a b = Int.gcd i j ∧ m = b, ⟨_, rfl, i.natAbs, j.natAbs, none, ?_, rfl, rfl⟩, ?_⟩
    · rw [abs_eq, abs_eq]
      rfl
    · rintro b σ H' ⟨rfl, a, _, r, rfl, hg, rfl⟩
      refine ⟨_, rfl, _, _, rfl, rfl, _, rfl, ?_⟩
      refine ite2 (fun hb => ?_) (fun hb => ?_)
      · have hb' : 0 < b := by simpa using hb
        refine ⟨fun σ' H'' => H'' = H' ∧ σ' = [some (.int b), some (.int (a % b : Nat)), some (.int (a % b : Nat))], ?_, ?_⟩
        · rintro σ' H'' ⟨rfl, rfl⟩
          refine ⟨a % b, Nat.mod_lt _ hb', rfl, b, a % b, _, rfl, ?_, rfl⟩
          rw [← hg, Nat.gcd_comm, ← Nat.gcd_rec, Nat.gcd_comm]
        · exact ⟨_, rfl, _, rfl, _, _, rfl, rfl, by omega, _, rfl, _, rfl, rfl, rfl⟩
      · have hb' : b = 0 := by
          have : ¬ 0 < (b : Int) := by simpa using hb
          omega
        subst hb'
        refine ⟨_, rfl, ?_⟩
        have e : a = Int.gcd i j := by rw [← hg, Nat.gcd_zero_right]
        rw [e]
        exact k
theorem pc_divisor {K : PySem.W.Frag} {mg : Str → Option Value} (T : Tx K mg) {X : Cx} (hr : Room 1 X.A) (hg : Gl X "divisor") {p pos : Pos} {e : Expr} {es : List Expr} {t : TA} (ha : PA X (e :: es) t) (hK : X.K = K := by rfl) (hM : X.mg = mg := by rfl) (he : starEach (e :: es) X.env = (false, eval e X.env) :: starEach es X.env := by rfl) (hpl : (backTo pos (starEach es X.env)).any (·.1) = false := by rfl) : PE X (.Call (.Name "divisor" p) (e :: es) [] pos) (tCall (sp_divisor K) [] E0 t) := by
  subst hK hM
  obtain ⟨fd, F⟩ := T.says.def_ 1 (d := d_divisor) rfl
  exact pe_call (ok_divisor T F) hr hg (T.glo 1 rfl) F.kp (F.bindsN fun _ _ _ _ _ _ us hl => match us, hl with | [_, _], _ => rfl) .nil pass0 ha (by decide) he hpl
/-! ### down, up -/
theorem p3000 {i : Int} (h : i.natAbs < 2 ^ 3000) (j : Int) (hj : 0 < j) : CDivP i j :=
  divp_ok hj (by have := (intBits_le_iff (m := 3000)).mpr h; omega)
def sp_down (_ : PySem.W.Frag) : Sp := fun vs H Q _ => ∃ i j : Int, vs = [.int i, .int j] ∧ 0 < j ∧ i.natAbs < 2 ^ 3000 ∧ ∀ H', Same H H' → Q (.int (i / j)) H'
abbrev N_down : List Str := ["top", "bottom", "times", "rest"]
theorem sc_down : FnScope N_down ["top", "bottom"] (defScope s_down) := ⟨rfl, rfl, rfl, by decide +kernel, rfl, by decide +kernel, by decide +kernel⟩
theorem ok_down (T : Tx K mg) {fd : FuncData} (F : FnD K d_down fd) : FnOk P w K mg base CX0 1 (He.fAd K d_down.at_) fd ["top", "bottom"] (sp_down K) := by
  have nd := sc_down.nd
  refine okx F sc_down (fun vs H Q E h => ?_) (fun cdv A outer s H vs Q E hr h => ?_)
  · obtain ⟨i, j, rfl, _⟩ := h
    rfl
  · obtain ⟨i, j, rfl, hj, hi, k⟩ := h
    refine ⟨_, (pss_cons (ps_asg (pe_callB call_divmodW (by rfl) (T.free 67 rfl) (by decide +kernel) (pa_cons (pv 0) (pa_cons (pv 1) pa_nil))) (pg_tup rfl (pgs_cons (pg_name (i := 2) nd rfl (Or.inl rfl)) (pgs_cons (pg_name (i := 3) nd rfl (Or.inl rfl)) pgs_nil))))
      (pss_one (ps_ret (pv 2)))), ?_⟩
    refine ⟨_, rfl, _, rfl, _, _, rfl, p3000 hi j hj, fun p hp => ?_⟩
    exact ⟨_, _, rfl, sqt_new, rfl, _, _, rfl, _, _, rfl, rfl, _, rfl, k _ (Same.new hp)⟩
theorem pc_down {K : PySem.W.Frag} {mg : Str → Option Value} (T : Tx K mg) {X : Cx} (hr : Room 1 X.A) (hg : Gl X "down") {p pos : Pos} {e : Expr} {es : List Expr} {t : TA} (ha : PA X (e :: es) t) (hK : X.K = K := by rfl) (hM : X.mg = mg := by rfl) (he : starEach (e :: es) X.env = (false, eval e X.env) :: starEach es X.env := by rfl) (hpl : (backTo pos (starEach es X.env)).any (·.1) = false := by rfl) : PE X (.Call (.Name "down" p) (e :: es) [] pos) (tCall (sp_down K) [] E0 t) := by
  subst hK hM
  obtain ⟨fd, F⟩ := T.says.def_ 2 (d := d_down) rfl
  exact pe_call (ok_down T F) hr hg (T.glo 2 rfl) F.kp (F.bindsN fun _ _ _ _ _ _ us hl => match us, hl with | [_, _], _ => rfl) .nil pass0 ha (by decide) he hpl
theorem ceil_eq {i j : Int} (hj : 0 < j) : (if 0 < i % j then i / j + 1 else i / j) = -((-i) / j) := by
  split
  · rename_i h
    have e : (-i) / j = -(i / j + 1) := by
      rw [Int.ediv_eq_iff_of_pos hj]
      have := Int.emod_add_mul_ediv i j
      have h2 := Int.emod_lt_of_pos i hj
      constructor
      · have : -(i / j + 1) * j = -(i / j * j) - j := by rw [Int.neg_mul, Int.add_mul]; omega
        rw [this]
        have e3 : i / j * j = j * (i / j) := Int.mul_comm _ _
        omega
      · have : -(i / j + 1) * j = -(i / j * j) - j := by rw [Int.neg_mul, Int.add_mul]; omega
        rw [this]
        have e3 : i / j * j = j * (i / j) := Int.mul_comm _ _
        omega
    omega
  · rename_i h
    have h0 : i % j = 0 := by
      have := Int.emod_nonneg i (Int.ne_of_gt hj)
      omega
    have hd : j ∣ i := Int.dvd_of_emod_eq_zero h0
    rw [Int.neg_ediv_of_dvd hd]
    omega
def sp_up (_ : PySem.W.Frag) : Sp := fun vs H Q _ => ∃ i j : Int, vs = [.int i, .int j] ∧ 0 < j ∧ i.natAbs < 2 ^ 3000 ∧ ∀ H', Same H H' → Q (.int (-((-i) / j))) H'
abbrev N_up : List Str := ["top", "bottom", "times", "rest"]
theorem sc_up : FnScope N_up ["top", "bottom"] (defScope s_up) := ⟨rfl, rfl, rfl, by decide +kernel, rfl, by decide +kernel, by decide +kernel⟩
theorem ok_up (T : Tx K mg) {fd : FuncData} (F : FnD K d_up fd) : FnOk P w K mg base CX0 1 (He.fAd K d_up.at_) fd ["top", "bottom"] (sp_up K) := by
  have nd := sc_up.nd
  refine okx F sc_up (fun vs H Q E h => ?_) (fun cdv A outer s H vs Q E hr h => ?_)
  · obtain ⟨i, j, rfl, _⟩ := h
    rfl
  · obtain ⟨i, j, rfl, hj, hi, k⟩ := h
    refine ⟨_, (pss_cons (ps_asg (pe_callB call_divmodW (by rfl) (T.free 67 rfl) (by decide +kernel) (pa_cons (pv 0) (pa_cons (pv 1) pa_nil))) (pg_tup rfl (pgs_cons (pg_name (i := 2) nd rfl (Or.inl rfl)) (pgs_cons (pg_name (i := 3) nd rfl (Or.inl rfl)) pgs_nil))))
      (pss_cons (ps_if (pt_cmpR op_gt (pv 3) pe_int (nomark _)) (pss_one (ps_aug (i := 2) nd rfl (Or.inl rfl) pe_int ip_add)) pss_nil)
      (pss_one (ps_ret (pv 2))))), ?_⟩
    refine ⟨_, rfl, _, rfl, _, _, rfl, p3000 hi j hj, fun p hp => ?_⟩
    refine ⟨_, _, rfl, sqt_new, rfl, _, _, rfl, _, _, rfl, rfl, _, rfl, _, _, rfl, rfl, _, rfl, ?_⟩
    have e := ceil_eq (i := i) hj
    refine ite2 (fun hc => ?_) (fun hc => ?_)
    · have hc' : 0 < i % j := by simpa using hc
      rw [if_pos hc'] at e
      refine ⟨_, rfl, _, _, rfl, rfl, _, rfl, ?_⟩
      rw [← e] at k
      exact k _ (Same.new hp)
    · have hc' : ¬ 0 < i % j := by simpa using hc
      rw [if_neg hc'] at e
      refine ⟨_, rfl, ?_⟩
      rw [← e] at k
      exact k _ (Same.new hp)
theorem pc_up {K : PySem.W.Frag} {mg : Str → Option Value} (T : Tx K mg) {X : Cx} (hr : Room 1 X.A) (hg : Gl X "up") {p pos : Pos} {e : Expr} {es : List Expr} {t : TA} (ha : PA X (e :: es) t) (hK : X.K = K := by rfl) (hM : X.mg = mg := by rfl) (he : starEach (e :: es) X.env = (false, eval e X.env) :: starEach es X.env := by rfl) (hpl : (backTo pos (starEach es X.env)).any (·.1) = false := by rfl) : PE X (.Call (.Name "up" p) (e :: es) [] pos) (tCall (sp_up K) [] E0 t) := by
  subst hK hM
  obtain ⟨fd, F⟩ := T.says.def_ 3 (d := d_up) rfl
  exact pe_call (ok_up T F) hr hg (T.glo 3 rfl) F.kp (F.bindsN fun _ _ _ _ _ _ us hl => match us, hl with | [_, _], _ => rfl) .nil pass0 ha (by decide) he hpl
/-! ### fraction -/
def sp_fraction (K : PySem.W.Frag) : Sp := fun vs H Q _ => ∃ i j : Int, vs = [.int i, .int j] ∧ 0 < j ∧ i.natAbs < 2 ^ 3000 ∧ j.natAbs < 2 ^ 3000 ∧ Ret K rRat (mkRat i j.toNat) H Q
theorem rat_parts {i j : Int} (hj : 0 < j) : (mkRat i j.toNat).num = i / ((Int.gcd i j : Nat) : Int) ∧ ((mkRat i j.toNat).den : Int) = j / ((Int.gcd i j : Nat) : Int) := by
  have h0 : j.toNat ≠ 0 := by omega
  have e1 : j.toNat.gcd i.natAbs = Int.gcd i j := by
    rw [Nat.gcd_comm]
    show _ = Nat.gcd i.natAbs j.natAbs
    have : j.toNat = j.natAbs := by omega
    rw [this]
  rw [Rat.num_mkRat, Rat.den_mkRat, if_neg h0, if_neg h0, e1]
  refine ⟨rfl, ?_⟩
  have e2 : ((j.toNat / Int.gcd i j : Nat) : Int) = (j.toNat : Int) / (Int.gcd i j : Int) := Int.natCast_ediv _ _
  rw [e2]
  have : ((j.toNat : Nat) : Int) = j := Int.toNat_of_nonneg (Int.le_of_lt hj)
  rw [this]
abbrev N_fraction : List Str := ["top", "bottom", "by"]
theorem sc_fraction : FnScope N_fraction ["top", "bottom"] (defScope s_fraction) := ⟨rfl, rfl, rfl, by decide +kernel, rfl, by decide +kernel, by decide +kernel⟩
theorem ok_fraction (T : Tx K mg) {fd : FuncData} (F : FnD K d_fraction fd) : FnOk P w K mg base CX0 2 (He.fAd K d_fraction.at_) fd ["top", "bottom"] (sp_fraction K) := by
  have nd := sc_fraction.nd
  refine okx F sc_fraction (fun vs H Q E h => ?_) (fun cdv A outer s H vs Q E hr h => ?_)
  · obtain ⟨i, j, rfl, _⟩ := h
    rfl
  · obtain ⟨i, j, rfl, hj, hi, hb, k⟩ := h
    refine ⟨_, (pss_cons (ps_if (PW.pt (pw_or (pt_not (pt_val (pc_is_whole T (hr.mono (by decide)) (by rfl) (pa_cons (pv 0) pa_nil)))) (pw_or1 (pt_not (pt_val (pc_is_whole T (hr.mono (by decide)) (by rfl) (pa_cons (pv 1) pa_nil))))))) (pss_one ps_never) pss_nil)
      (pss_cons (ps_if (pt_cmpR op_eq (pv 1) pe_int (nomark _)) (pss_one ps_never) pss_nil)
      (pss_cons (ps_set (i := 2) nd rfl (Or.inl rfl) (pc_divisor T (hr.mono (by decide)) (by rfl) (pa_cons (pv 0) (pa_cons (pv 1) pa_nil))))
      (pss_cons (ps_if (pt_cmpR op_lt (pv 1) pe_int (nomark _)) (pss_one (ps_set (i := 2) nd rfl (Or.inl rfl) (pe_un un_neg (pv 2)))) pss_nil)
      (pss_one (ps_ret (pe_tup (pa_cons (pe_op op_fdivW (pv 0) (pv 2)) (pa_cons (pe_op op_fdivW (pv 1) (pv 2)) pa_nil))))))))), ?_⟩
    have hg : 0 < ((Int.gcd i j : Nat) : Int) := by
      have : 0 < Int.gcd i j := Int.gcd_pos_of_ne_zero_right i (Int.ne_of_gt hj)
      omega
    have hg2 : ((Int.gcd i j : Nat) : Int).natAbs < 2 ^ 3000 := by
      have : Int.gcd i j ≤ j.natAbs := Nat.gcd_le_right _ (by omega)
      rw [Int.natAbs_natCast]
      exact Nat.lt_of_le_of_lt this hb
    refine ⟨_, rfl, _, rfl, true, rfl, iteF ?_⟩
    refine ⟨_, rfl, _, rfl, true, rfl, iteF ?_⟩
    refine ⟨_, rfl, rfl, _, rfl, ite2 (fun hc => ?_) (fun _ => ?_)⟩
    · have : V.int j = V.int 0 := by simpa using hc
      injection this with e
      omega
    refine ⟨_, rfl, _, rfl, _, _, rfl, ?_⟩
    refine ⟨_, rfl, _, _, rfl, rfl, _, rfl, ite2 (fun hc => ?_) (fun _ => ?_)⟩
    · have : j < 0 := by simpa using hc
      omega
    refine ⟨_, rfl, _, rfl, _, _, rfl, rfl, wide_div hg hg2 (by decide) (by decide), ?_⟩
    refine ⟨_, rfl, _, rfl, _, _, rfl, rfl, wide_div hg hg2 (by decide) (by decide), ?_⟩
    refine ⟨(by show 2 ≤ sizeLine; decide), fun p hp => k _ _ (Same.new hp) ⟨p, rfl, ?_⟩⟩
    obtain ⟨e1, e2⟩ := rat_parts (i := i) hj
    rw [e1, e2]
    exact sqt_new
theorem pc_fraction {K : PySem.W.Frag} {mg : Str → Option Value} (T : Tx K mg) {X : Cx} (hr : Room 2 X.A) (hg : Gl X "fraction") {p pos : Pos} {e : Expr} {es : List Expr} {t : TA} (ha : PA X (e :: es) t) (hK : X.K = K := by rfl) (hM : X.mg = mg := by rfl) (he : starEach (e :: es) X.env = (false, eval e X.env) :: starEach es X.env := by rfl) (hpl : (backTo pos (starEach es X.env)).any (·.1) = false := by rfl) : PE X (.Call (.Name "fraction" p) (e :: es) [] pos) (tCall (sp_fraction K) [] E0 t) := by
  subst hK hM
  obtain ⟨fd, F⟩ := T.says.def_ 11 (d := d_fraction) rfl
  exact pe_call (ok_fraction T F) hr hg (T.glo 11 rfl) F.kp (F.bindsN fun _ _ _ _ _ _ us hl => match us, hl with | [_, _], _ => rfl) .nil pass0 ha (by decide) he hpl
end
end K75
set_option maxHeartbeats 1000000
-- KMath2
/-! The laws of the count: ballots that are added never lower a tally, and so on. -/
namespace K75

theorem members_hall {W : Hall} {R : Row} (h : Valid W R) : ∀ x ∈ members (stAfter W.hands R), x < W.hands := by
  induction h with
  | nil => intro x hx; exact mem_allOf.mp hx
  | snoc v e m ih =>
    intro x hx
    rw [stAfter_snoc, mem_without] at hx
    exact ih x hx.1
theorem due_prefix {W : Hall} {S : Sheet} (told : Told W) {R : Row} (h : DueRow W S R) : ∀ {R' : Row}, DueRow W S R' → (endOf W R').isSome = true → ∃ r, R' = R ++ r := by
  induction h with
  | nil => intro R' _ _; exact ⟨R', rfl⟩
  | @snoc P d v e m n ih =>
    intro R' h' en
    obtain ⟨r, rfl⟩ := ih h' en
    cases r with
    | nil =>
      simp only [List.append_nil] at en
      rw [e] at en; cases en
    | cons d' r =>
      have v' := h'.valid.at P d' r rfl
      have n' := h'.at P d' r rfl
      have hst := cnt_st W S P
      have e2 : d = d' := due_unique (lots := W.lots) (q := W.q S) (T := W.T S P) (st := (W.cnt S P).st) (fun x hx y hy hxy => told x y (members_hall v'.1 x (hst ▸ hx)) (members_hall v'.1 y (hst ▸ hy)) hxy)
        (hst.symm ▸ m) (hst.symm ▸ v'.2.2) n n'
      subst e2
      exact ⟨r, by simp⟩
theorem due_one {W : Hall} {S : Sheet} (told : Told W) {R R' : Row} (h : DueRow W S R) (h' : DueRow W S R') (e : (endOf W R).isSome = true) (e' : (endOf W R').isSome = true) : R = R' := by
  obtain ⟨r, hr⟩ := due_prefix told h h' e'
  obtain ⟨r', hr'⟩ := due_prefix told h' h e
  have l : R'.length = R.length + r.length := by rw [hr]; simp
  have l' : R.length = R'.length + r'.length := by rw [hr']; simp
  have : r = [] := List.eq_nil_of_length_eq_zero (by omega)
  rw [hr, this]; simp
/-- the outcome of a sheet -/
def IsOutcome (W : Hall) (S : Sheet) (o : List Int) : Prop := ∃ R, DueRow W S R ∧ endOf W R = some o
theorem outcome_one {W : Hall} {S : Sheet} (told : Told W) {o o' : List Int} (h : IsOutcome W S o) (h' : IsOutcome W S o') : o = o' := by
  obtain ⟨R, d, e⟩ := h
  obtain ⟨R', d', e'⟩ := h'
  have := due_one told d d' (by rw [e]; rfl) (by rw [e']; rfl)
  subst this
  rw [e] at e'; exact Option.some.inj e'
def Other (W : Hall) (o : List Int) (R : Row) : Prop := Valid W R ∧ ∃ e, endOf W R = some e ∧ e ≠ o
def IsLow (W : Hall) (S : Sheet) (o : List Int) (low : Int) : Prop := (∃ R, Other W o R ∧ W.needRow S R = low) ∧ ∀ R, Other W o R → low ≤ W.needRow S R
theorem low_one {W : Hall} {S : Sheet} {o : List Int} {l l' : Int} (h : IsLow W S o l) (h' : IsLow W S o l') : l = l' := by
  obtain ⟨⟨R, a, rfl⟩, b⟩ := h
  obtain ⟨⟨R', a', rfl⟩, b'⟩ := h'
  have := b R' a'
  have := b' R a
  omega
theorem low_pos {W : Hall} {S : Sheet} (told : Told W) {o : List Int} {l : Int} (ho : IsOutcome W S o) (h : IsLow W S o l) : 1 ≤ l := by
  obtain ⟨⟨R, ⟨v, e, he, hne⟩, rfl⟩, _⟩ := h
  refine Classical.byContradiction fun z => hne ?_
  exact outcome_one told ⟨R, due_of v (by omega), he⟩ ho

/-! ### ballots that are added -/
theorem stays_bounds {q : Nat} {t : Rat} (ht : 0 ≤ t) : 0 ≤ stays q t ∧ stays q t ≤ 1 := by
  unfold stays
  have hq : (0 : Rat) ≤ (q : Rat) := Rat.natCast_nonneg
  split
  · rename_i h
    have tp : 0 < t := by grind
    have e : (q : Rat) / t * t = q := Rat.div_mul_cancel (Rat.ne_of_gt tp)
    refine ⟨Rat.le_of_mul_le_mul_right (c := t) ?_ tp, Rat.le_of_mul_le_mul_right (c := t) ?_ tp⟩
    · rw [e, Rat.zero_mul]; exact hq
    · rw [e, Rat.one_mul]; exact Rat.le_of_lt h
  · exact ⟨by decide, Rat.le_refl⟩
theorem stays_mul {q : Nat} {t : Rat} (ht : 0 ≤ t) : t * stays q t = min (q : Rat) t := by
  unfold stays
  have hq : (0 : Rat) ≤ (q : Rat) := Rat.natCast_nonneg
  split
  · rename_i h
    have tp : 0 < t := by grind
    rw [Rat.mul_comm, Rat.div_mul_cancel (Rat.ne_of_gt tp), Rat.min_def, if_pos (Rat.le_of_lt h)]
  · rename_i h
    rw [Rat.mul_one, Rat.min_def]
    split <;> grind
theorem stays_mono {q : Nat} {t t' : Rat} (ht : 0 ≤ t) (h : t ≤ t') : stays q t' ≤ stays q t := by
  have hq : (0 : Rat) ≤ (q : Rat) := Rat.natCast_nonneg
  have b' := stays_bounds (q := q) (t := t') (by grind)
  by_cases c : (q : Rat) < t
  · have c' : (q : Rat) < t' := by grind
    have tp : 0 < t := by grind
    have tp' : 0 < t' := by grind
    unfold stays
    rw [if_pos c, if_pos c', rdiv_le tp']
    have e : (q : Rat) / t * t = q := Rat.div_mul_cancel (Rat.ne_of_gt tp)
    have n : 0 ≤ (q : Rat) / t := by
      have := (stays_bounds (q := q) (t := t) ht).1
      unfold stays at this; rw [if_pos c] at this; exact this
    have := Rat.mul_le_mul_of_nonneg_left h n
    grind
  · have : stays q t = 1 := by unfold stays; rw [if_neg c]
    rw [this]; exact b'.2
/-- the one sheet is the other one and some ballots more -/
structure More (C A : Sheet) (k : Rat) (F F' : Slip → Rat) : Prop where
  pos : ∀ s, 0 ≤ F s
  le : ∀ s, F s ≤ F' s
  gap : wsum A F' - wsum C F ≤ k
structure Adds (C A : Sheet) : Prop where
  ge : ∀ f : Slip → Rat, (∀ s, 0 ≤ f s) → wsum C f ≤ wsum A f
theorem wsum_le {C A : Sheet} (ad : Adds C A) {f g : Slip → Rat} (hf : ∀ s, 0 ≤ g s) (h : ∀ s, f s ≤ g s) : wsum C f ≤ wsum A g :=
  Rat.le_trans (wsum_mono h) (ad.ge g hf)
theorem coef_mul_le {s : Slip} {st h : Nat} {x y : Rat} (e : x ≤ y) : x * coef s st h ≤ y * coef s st h := Rat.mul_le_mul_of_nonneg_right e (coef_nonneg s st h)
theorem More.tally {C A : Sheet} {k : Rat} {F F' : Slip → Rat} (ad : Adds C A) (m : More C A k F F') (st h : Nat) :
    0 ≤ tally C F st h ∧ tally C F st h ≤ tally A F' st h ∧ tally A F' st h - tally C F st h ≤ k := by
  have p' : ∀ s, 0 ≤ F' s := fun s => Rat.le_trans (m.pos s) (m.le s)
  have h0 : 0 ≤ K75.tally C F st h := wsum_nonneg fun s => Rat.mul_nonneg (m.pos s) (coef_nonneg s st h)
  have h1 : K75.tally C F st h ≤ K75.tally A F' st h := wsum_le ad (fun s => Rat.mul_nonneg (p' s) (coef_nonneg s st h)) fun s => coef_mul_le (m.le s)
  refine ⟨h0, h1, ?_⟩
  have r : wsum C (fun s => F s - F s * coef s st h) ≤ wsum A (fun s => F' s - F' s * coef s st h) := by
    refine wsum_le ad (fun s => ?_) fun s => ?_
    · have := Rat.mul_le_mul_of_nonneg_left (coef_le s st h) (p' s)
      grind
    · have c1 := coef_le s st h
      have d0 : 0 ≤ F' s - F s := by have := m.le s; grind
      have := Rat.mul_le_mul_of_nonneg_left c1 d0
      grind
  rw [wsum_sub, wsum_sub] at r
  have g := m.gap
  unfold K75.tally
  grind
theorem wsum_freeBy (S : Sheet) (q : Nat) (F : Slip → Rat) (st h : Nat) (hF : ∀ s, 0 ≤ F s) : wsum S (freeBy S q F st h) = wsum S F - min (q : Rat) (tally S F st h) := by
  have h0 : 0 ≤ tally S F st h := wsum_nonneg fun s => Rat.mul_nonneg (hF s) (coef_nonneg s st h)
  unfold freeBy
  rw [wsum_sub]
  show wsum S F - wsum S (fun s => F s * coef s st h * stays q (tally S F st h)) = _
  rw [wsum_smul]
  show wsum S F - tally S F st h * stays q (tally S F st h) = _
  rw [stays_mul h0]
theorem More.seat {C A : Sheet} {k : Rat} {F F' : Slip → Rat} (ad : Adds C A) (q : Nat) (m : More C A k F F') (st h : Nat) : More C A k (freeBy C q F st h) (freeBy A q F' st h) := by
  obtain ⟨t0, t1, t2⟩ := m.tally ad st h
  have p' : ∀ s, 0 ≤ F' s := fun s => Rat.le_trans (m.pos s) (m.le s)
  have b := stays_bounds (q := q) t0
  have b' := stays_bounds (q := q) (t := K75.tally A F' st h) (Rat.le_trans t0 t1)
  have mo := stays_mono (q := q) t0 t1
  refine ⟨fun s => ?_, fun s => ?_, ?_⟩
  · have c0 := coef_nonneg s st h
    have c1 := coef_le s st h
    have f0 := m.pos s
    have y : coef s st h * stays q (K75.tally C F st h) ≤ 1 := by
      have := Rat.mul_le_mul_of_nonneg_left b.2 c0
      grind
    have := Rat.mul_le_mul_of_nonneg_left y f0
    unfold freeBy part
    grind
  · have c0 := coef_nonneg s st h
    have c1 := coef_le s st h
    have f0 := m.pos s
    have f1 := m.le s
    unfold freeBy part
    generalize stays q (K75.tally C F st h) = y at *
    generalize stays q (K75.tally A F' st h) = y' at *
    generalize coef s st h = c at *
    -- F (1 - c y) ≤ F' (1 - c y')
    have a1 : c * y' ≤ c * y := Rat.mul_le_mul_of_nonneg_left mo c0
    have a2 : c * y' ≤ 1 := by
      have := Rat.mul_le_mul_of_nonneg_left b'.2 c0
      grind
    have a3 := Rat.mul_le_mul_of_nonneg_left a1 f0
    have a4 : 0 ≤ F' s - F s := by grind
    have a5 := Rat.mul_le_mul_of_nonneg_left a2 a4
    grind
  · rw [wsum_freeBy C q F st h m.pos, wsum_freeBy A q F' st h p']
    have g := m.gap
    rw [Rat.min_def, Rat.min_def]
    split <;> split <;> grind
theorem More.run {C A : Sheet} {k : Rat} (ad : Adds C A) (g : wsum A (fun _ => 1) - wsum C (fun _ => 1) ≤ k) (q hands : Nat) (R : Row) :
    More C A k (run C q hands R).F (run A q hands R).F ∧ (run C q hands R).st = (run A q hands R).st := by
  have all : ∀ (R : Row) (c a : Cnt), More C A k c.F a.F → c.st = a.st → More C A k (R.foldl (step C q) c).F (R.foldl (step A q) a).F ∧ (R.foldl (step C q) c).st = (R.foldl (step A q) a).st := by
    intro R
    induction R with
    | nil => intro c a m e; exact ⟨m, e⟩
    | cons d r ih =>
      intro c a m e
      refine ih _ _ ?_ ?_
      · unfold step
        split
        · show More C A k (freeBy C q c.F c.st d.2) (freeBy A q a.F a.st d.2)
          rw [e]
          exact m.seat ad q a.st d.2
        · exact m
      · rw [step_st, step_st, e]
  exact all R _ _ ⟨fun _ => (by decide : (0 : Rat) ≤ 1), fun _ => Rat.le_refl, g⟩ rfl
/-- k ballots of the one sheet are others in the other one -/
structure Differ (A B : Sheet) (k : Nat) : Prop where
  ex : ∃ C : Sheet, Adds C A ∧ Adds C B ∧ wsum A (fun _ => 1) - wsum C (fun _ => 1) ≤ (k : Rat) ∧ wsum B (fun _ => 1) - wsum C (fun _ => 1) ≤ (k : Rat)
  total : total A = total B
theorem Differ.tally {A B : Sheet} {k : Nat} (d : Differ A B k) (W : Hall) (R : Row) (h : Nat) : W.T A R h ≤ W.T B R h + (k : Rat) ∧ W.T B R h ≤ W.T A R h + (k : Rat) := by
  obtain ⟨C, a1, a2, g1, g2⟩ := d.ex
  have eq : W.q A = W.q B := by unfold Hall.q; rw [d.total]
  obtain ⟨m1, e1⟩ := More.run a1 g1 (W.q A) W.hands R
  obtain ⟨m2, e2⟩ := More.run a2 g2 (W.q A) W.hands R
  have t1 := m1.tally a1 (run A (W.q A) W.hands R).st h
  have t2 := m2.tally a2 (run A (W.q A) W.hands R).st h
  have est : (run A (W.q A) W.hands R).st = (run B (W.q A) W.hands R).st := by rw [← e1, e2]
  show K75.tally A (run A (W.q A) W.hands R).F (run A (W.q A) W.hands R).st h ≤ K75.tally B (run B (W.q B) W.hands R).F (run B (W.q B) W.hands R).st h + (k : Rat) ∧ K75.tally B (run B (W.q B) W.hands R).F (run B (W.q B) W.hands R).st h ≤ K75.tally A (run A (W.q A) W.hands R).F (run A (W.q A) W.hands R).st h + (k : Rat)
  rw [← eq, ← est]
  grind
theorem Differ.need {A B : Sheet} {k : Nat} (d : Differ A B k) (W : Hall) {R : Row} (h : DueRow W B R) : W.needRow A R ≤ (k : Int) := by
  induction h with
  | nil => rw [needRow_nil]; omega
  | @snoc P e v en m n ih =>
    rw [needRow_snoc]
    refine Int.max_le.mpr ⟨ih, ?_⟩
    have t := d.tally W P
    have eq : W.q A = W.q B := by unfold Hall.q; rw [d.total]
    have est : (W.cnt A P).st = (W.cnt B P).st := by rw [cnt_st, cnt_st]
    have z : ((0 : Int) : Rat) = 0 := rfl
    have kc : (((k : Nat) : Int) : Rat) = (k : Rat) := rfl
    obtain ⟨b, x⟩ := e
    cases b with
    | true =>
      have n' := (needOf_seat (k := 0) (by decide)).mp n
      refine (needOf_seat (k := (k : Int)) (by omega)).mpr ⟨?_, fun y hy hyx => ?_⟩
      · have a := n'.1
        have b1 := t x
        rw [eq, kc]
        grind
      · have a := n'.2 y (est ▸ hy) hyx
        have b1 := t x
        have b2 := t y
        rw [kc]
        split
        · rename_i w
          rw [if_pos w] at a
          grind
        · rename_i w
          rw [if_neg w] at a
          grind
    | false =>
      have n' := (needOf_out (k := 0) (by decide)).mp n
      refine (needOf_out (k := (k : Int)) (by omega)).mpr fun y hy => ⟨?_, fun hyx => ?_⟩
      · have a := (n' y (est ▸ hy)).1
        have b1 := t y
        rw [eq, kc]
        grind
      · have a := (n' y (est ▸ hy)).2 hyx
        have b1 := t x
        have b2 := t y
        rw [kc]
        split
        · rename_i w
          rw [if_pos w] at a
          grind
        · rename_i w
          rw [if_neg w] at a
          grind
/-- THE LAW: fewer than low change nothing -/
theorem fewer {W : Hall} {A B : Sheet} {k : Nat} (d : Differ A B k) {oA oB : List Int} {low : Int} (hB : IsOutcome W B oB) (hl : IsLow W A oA low) (hk : (k : Int) < low) : oA = oB := by
  refine Classical.byContradiction fun hne => ?_
  obtain ⟨R, dr, e⟩ := hB
  have a := hl.2 R ⟨dr.valid, oB, e, fun z => hne z.symm⟩
  have b := d.need W dr
  omega
end K75
-- KFine
/-! Sizes: every fraction that the count meets has a bottom that divides one number, and is not great. -/
set_option exponentiation.threshold 4000
namespace K75
def Sm (q : Rat) : Prop := q.num.natAbs < 2 ^ 1000 ∧ q.den < 2 ^ 1000
/-- D times q is whole -/
def By (D : Nat) (q : Rat) : Prop := ∃ z : Int, q * (D : Rat) = (z : Rat)
theorem By.zero (D : Nat) : By D 0 := ⟨0, by rw [Rat.zero_mul]; rfl⟩
theorem By.nat (D n : Nat) : By D (n : Rat) := ⟨(n * D : Nat), by rw [← Rat.natCast_mul]; rfl⟩
theorem By.one (D : Nat) : By D 1 := By.nat D 1
theorem By.add {D : Nat} {a b : Rat} (ha : By D a) (hb : By D b) : By D (a + b) := by
  obtain ⟨y, hy⟩ := ha
  obtain ⟨z, hz⟩ := hb
  exact ⟨y + z, by rw [Rat.add_mul, hy, hz, Rat.intCast_add]⟩
theorem By.sub {D : Nat} {a b : Rat} (ha : By D a) (hb : By D b) : By D (a - b) := by
  obtain ⟨y, hy⟩ := ha
  obtain ⟨z, hz⟩ := hb
  refine ⟨y - z, ?_⟩
  rw [Rat.intCast_sub, ← hy, ← hz]
  grind
theorem By.mul {D E : Nat} {a b : Rat} (ha : By D a) (hb : By E b) : By (D * E) (a * b) := by
  obtain ⟨y, hy⟩ := ha
  obtain ⟨z, hz⟩ := hb
  refine ⟨y * z, ?_⟩
  rw [Rat.intCast_mul, ← hy, ← hz, Rat.natCast_mul]
  grind
theorem By.up {D : Nat} {a : Rat} (h : By D a) (k : Nat) : By (D * k) a := by
  obtain ⟨y, hy⟩ := h
  refine ⟨y * k, ?_⟩
  rw [Rat.natCast_mul, Rat.intCast_mul, ← hy]
  have : (((k : Nat) : Int) : Rat) = (k : Rat) := rfl
  rw [this]
  grind
theorem By.natmul {D : Nat} {a : Rat} (n : Nat) (h : By D a) : By D ((n : Rat) * a) := by
  obtain ⟨y, hy⟩ := h
  refine ⟨n * y, ?_⟩
  rw [Rat.intCast_mul, ← hy]
  have : (((n : Nat) : Int) : Rat) = (n : Rat) := rfl
  rw [this]
  grind
theorem By.den {D : Nat} {q : Rat} (h : By D q) : q.den ∣ D := by
  obtain ⟨z, hz⟩ := h
  have e : q.num * (D : Int) = z * (q.den : Int) := by
    have h1 : ((q.num * (D : Int) : Int) : Rat) = ((z * (q.den : Int) : Int) : Rat) := by
      rw [Rat.intCast_mul, Rat.intCast_mul, ← hz]
      have e1 : (((D : Nat) : Int) : Rat) = (D : Rat) := rfl
      have e2 : (((q.den : Nat) : Int) : Rat) = (q.den : Rat) := rfl
      have e3 : (q.num : Rat) = q * (q.den : Rat) := by
        have n0 : (q.den : Rat) ≠ 0 := fun z => q.den_nz (Rat.natCast_eq_zero_iff.mp z)
        have : (q.num : Rat) / (q.den : Rat) = q := by
          rw [← Rat.mkRat_eq_div]; exact Rat.mkRat_self q
        conv => rhs; lhs; rw [← this]
        rw [Rat.div_mul_cancel n0]
      rw [e1, e2, e3]
      grind
    exact Rat.intCast_inj.mp h1
  have d : (q.den : Int) ∣ q.num * (D : Int) := ⟨z, by rw [e, Int.mul_comm]⟩
  have d2 : q.den ∣ q.num.natAbs * D := by
    have := Int.natAbs_dvd_natAbs.mpr d
    rwa [Int.natAbs_natCast, Int.natAbs_mul, Int.natAbs_natCast] at this
  exact (Nat.Coprime.dvd_of_dvd_mul_left (q.reduced.symm) d2)
theorem sm_of {D : Nat} {q : Rat} (h : By D q) (h0 : 0 < D) (hD : D ≤ 2 ^ 900) (l : 0 ≤ q) (u : q ≤ ((2 ^ 60 : Nat) : Rat)) : Sm q := by
  have d1 : q.den ≤ D := Nat.le_of_dvd h0 h.den
  have dd : q.den ≤ 2 ^ 900 := Nat.le_trans d1 hD
  have hlt : (2 : Nat) ^ 900 * 2 ^ 60 < 2 ^ 1000 := by
    rw [← Nat.pow_add]; exact Nat.pow_lt_pow_right (by decide) (by decide)
  have hlt2 : (2 : Nat) ^ 900 < 2 ^ 1000 := Nat.pow_lt_pow_right (by decide) (by decide)
  refine ⟨?_, Nat.lt_of_le_of_lt dd hlt2⟩
  have u2 := (Rat.le_iff _ _).mp u
  have n0 := Rat.num_nonneg.mpr l
  rw [Rat.den_natCast, Rat.num_natCast] at u2
  have e : q.num * ((1 : Nat) : Int) = q.num := Int.mul_one _
  rw [e] at u2
  have : q.num.natAbs ≤ 2 ^ 60 * q.den := by
    have e2 : ((2 ^ 60 * q.den : Nat) : Int) = ((2 ^ 60 : Nat) : Int) * (q.den : Int) := Int.natCast_mul _ _
    have : (q.num.natAbs : Int) = q.num := Int.natAbs_of_nonneg n0
    have h3 : (q.num.natAbs : Int) ≤ ((2 ^ 60 * q.den : Nat) : Int) := by rw [this, e2]; exact u2
    exact Int.ofNat_le.mp h3
  have m : 2 ^ 60 * q.den ≤ 2 ^ 60 * 2 ^ 900 := Nat.mul_le_mul_left _ dd
  rw [Nat.mul_comm (2 ^ 60) (2 ^ 900)] at m
  exact Nat.lt_of_le_of_lt (Nat.le_trans this m) hlt
/-! ### the shares of a slip -/
theorem by_coef {s : Slip} {st h : Nat} (hs : st < 16) : By 12 (coef s st h) := by
  unfold coef
  split
  · rename_i e
    have hl : lies s st < 16 := by
      refine Nat.lt_of_lt_of_le ?_ (Nat.le_refl 16)
      refine Nat.lt_pow_two_of_testBit (n := 4) _ fun i hi => ?_
      cases c : (lies s st).testBit i with
      | false => rfl
      | true =>
        have := lies_sub c
        rw [Nat.testBit_lt_two_pow (Nat.lt_of_lt_of_le hs (show 2 ^ 4 ≤ 2 ^ i from Nat.pow_le_pow_right (by decide) hi))] at this
        cases this
    have p := size_pos e
    have all : ∀ m < 16, 0 < size m → (12 % size m = 0) := by decide
    have hd := all _ hl p
    obtain ⟨k, hk⟩ := Nat.dvd_of_mod_eq_zero hd
    have n0 : (size (lies s st) : Rat) ≠ 0 := fun z => by
      have := Rat.natCast_eq_zero_iff.mp z
      omega
    refine ⟨k, ?_⟩
    have : ((12 : Nat) : Rat) = (size (lies s st) : Rat) * (k : Rat) := by rw [← Rat.natCast_mul, ← hk]
    rw [this]
    have e2 : (1 : Rat) / (size (lies s st) : Rat) * (size (lies s st) : Rat) = 1 := Rat.div_mul_cancel n0
    have e3 : (((k : Nat) : Int) : Rat) = (k : Rat) := rfl
    rw [e3]
    grind
  · exact By.zero 12
/-- a state is fine: one number for all bottoms -/
structure Fine (S : Sheet) (n D : Nat) (m : Nat) (F : Slip → Rat) (G : Slip → List Rat) : Prop where
  pos : 0 < D
  f0 : ∀ s, 0 ≤ F s
  f1 : ∀ s, F s ≤ 1
  fb : ∀ s, By D (F s)
  gl : ∀ s, (G s).length = n
  g : ∀ s, ∀ x ∈ G s, 0 ≤ x ∧ x ≤ (m : Rat) ∧ By D x
theorem fine_begin (S : Sheet) (n : Nat) : Fine S n 1 0 (begin n).F (begin n).G where
  pos := by decide
  f0 := fun _ => (by decide : (0 : Rat) ≤ 1)
  f1 := fun _ => Rat.le_refl
  fb := fun _ => By.one 1
  gl := fun _ => List.length_replicate
  g := fun s x hx => by
    have e : x = 0 := List.eq_of_mem_replicate hx
    subst e
    exact ⟨Rat.le_refl, Rat.le_refl, By.zero 1⟩
section
variable {S : Sheet} {n D m : Nat} {F : Slip → Rat} {G : Slip → List Rat}
theorem by_wsum {D : Nat} {f : Slip → Rat} (h : ∀ s, By D (f s)) : ∀ S : Sheet, By D (wsum S f)
  | [] => By.zero D
  | l :: r => (By.natmul l.2 (h l.1)).add (by_wsum h r)
theorem wsum_le_total {f : Slip → Rat} {c : Rat} (h : ∀ s, f s ≤ c) (S : Sheet) : wsum S f ≤ (total S : Rat) * c := by
  have := wsum_mono (S := S) h
  have e : wsum S (fun _ => c) = (total S : Rat) * c := by
    have := wsum_smul S (fun _ => 1) c
    rw [wsum_one] at this
    rw [← this]
    congr 1
    funext s
    rw [Rat.one_mul]
  rw [← e]; exact this
theorem Fine.part0 (h : Fine S n D m F G) (st x : Nat) (s : Slip) : 0 ≤ F s * coef s st x ∧ F s * coef s st x ≤ 1 := by
  have c0 := coef_nonneg s st x
  have c1 := coef_le s st x
  have f0 := h.f0 s
  have f1 := h.f1 s
  refine ⟨Rat.mul_nonneg f0 c0, ?_⟩
  have := Rat.mul_le_mul_of_nonneg_left c1 f0
  grind
theorem Fine.partBy (h : Fine S n D m F G) {st : Nat} (hs : st < 16) (x : Nat) (s : Slip) : By (D * 12) (F s * coef s st x) := (h.fb s).mul (by_coef hs)
theorem Fine.tallyBy (h : Fine S n D m F G) {st : Nat} (hs : st < 16) (x : Nat) : By (D * 12) (tally S F st x) := by_wsum (fun s => h.partBy hs x s) S
theorem Fine.tally0 (h : Fine S n D m F G) (st x : Nat) : 0 ≤ tally S F st x := wsum_nonneg fun s => (h.part0 st x s).1
theorem Fine.tally1 (h : Fine S n D m F G) (st x : Nat) : tally S F st x ≤ (total S : Rat) := by
  have := wsum_le_total (fun s => (h.part0 st x s).2) S
  rw [Rat.mul_one] at this
  exact this
/-- the part that stays, over a bottom -/
theorem stays_by {q E : Nat} {t : Rat} (hE : 0 < E) (ht : 0 ≤ t) (hb : By E t) : ∃ a : Nat, 0 < a ∧ By a (stays q t) ∧ (∀ x, By E x → By a (x * stays q t)) ∧ (a : Rat) ≤ t * (E : Rat) + (E : Rat) := by
  have eE : (0 : Rat) < (E : Rat) := Rat.natCast_pos.mpr hE
  by_cases c : (q : Rat) < t
  · obtain ⟨z, hz⟩ := hb
    have tp : 0 < t := by
      have hq : (0 : Rat) ≤ (q : Rat) := Rat.natCast_nonneg
      grind
    have zp : (0 : Rat) < (z : Rat) := by rw [← hz]; exact Rat.mul_pos tp eE
    have zp' : 0 < z := Rat.intCast_pos.mp zp
    obtain ⟨a, rfl⟩ := Int.eq_ofNat_of_zero_le (Int.le_of_lt zp')
    have ca : (((a : Nat) : Int) : Rat) = (a : Rat) := rfl
    rw [ca] at hz zp
    have st : stays q t = (q : Rat) / t := by unfold stays; rw [if_pos c]
    have e : (q : Rat) / t * t = q := Rat.div_mul_cancel (Rat.ne_of_gt tp)
    refine ⟨a, by omega, ⟨q * E, ?_⟩, fun x ⟨y, hy⟩ => ⟨y * q, ?_⟩, ?_⟩
    · rw [st, ← hz, Rat.intCast_mul]
      have e1 : (((q : Nat) : Int) : Rat) = (q : Rat) := rfl
      have e2 : (((E : Nat) : Int) : Rat) = (E : Rat) := rfl
      rw [e1, e2]
      grind
    · rw [st, ← hz, Rat.intCast_mul, ← hy]
      have e1 : (((q : Nat) : Int) : Rat) = (q : Rat) := rfl
      rw [e1]
      grind
    · rw [← hz]
      grind
  · have st : stays q t = 1 := by unfold stays; rw [if_neg c]
    refine ⟨E, hE, by rw [st]; exact By.one E, fun x hx => by rw [st, Rat.mul_one]; exact hx, ?_⟩
    have := Rat.mul_nonneg ht (Rat.le_of_lt eE)
    grind
theorem Fine.seat (h : Fine S n D m F G) {st x q : Nat} (hs : st < 16) : ∃ D', Fine S n D' (m + 1) (freeBy S q F st x) (keptBy S q F G st x) ∧ D' ≤ D * (12 * D * (total S + 1)) := by
  have t0 := h.tally0 st x
  have t1 := h.tally1 st x
  have dp : 0 < D * 12 := by have := h.pos; omega
  obtain ⟨a, ap, b1, b2, b3⟩ := stays_by (q := q) dp t0 (h.tallyBy hs x)
  have sb := stays_bounds (q := q) t0
  have pb : ∀ s, By (D * a) (part F st x (stays q (tally S F st x)) s) := fun s => by
    have := (b2 _ (h.partBy hs x s)).up D
    rw [Nat.mul_comm a D] at this
    exact this
  have p0 : ∀ s, 0 ≤ part F st x (stays q (tally S F st x)) s := fun s => Rat.mul_nonneg (h.part0 st x s).1 sb.1
  have p1 : ∀ s, part F st x (stays q (tally S F st x)) s ≤ F s * coef s st x := fun s => by
    have := Rat.mul_le_mul_of_nonneg_left sb.2 (h.part0 st x s).1
    unfold part
    grind
  refine ⟨D * a, ⟨Nat.mul_pos h.pos ap, fun s => ?_, fun s => ?_, fun s => ((h.fb s).up a).sub (pb s), fun s => by unfold keptBy; rw [List.length_set]; exact h.gl s, fun s y hy => ?_⟩, ?_⟩
  · have c1 := coef_le s st x
    have f0 := h.f0 s
    have a1 := Rat.mul_le_mul_of_nonneg_left c1 f0
    have := p1 s
    unfold freeBy
    grind
  · have := h.f1 s
    have := p0 s
    unfold freeBy
    grind
  · have mc : (((m + 1 : Nat)) : Rat) = (m : Rat) + 1 := by rw [Rat.natCast_add]; rfl
    rw [mc]
    unfold keptBy at hy
    rcases List.mem_or_eq_of_mem_set hy with hy | rfl
    · obtain ⟨g1, g2, g3⟩ := h.g s y hy
      exact ⟨g1, by grind, g3.up a⟩
    · have gd : 0 ≤ (G s).getD x 0 ∧ (G s).getD x 0 ≤ (m : Rat) ∧ By D ((G s).getD x 0) := by
        by_cases hx : x < (G s).length
        · rw [List.getD_eq_getElem?_getD, List.getElem?_eq_getElem hx]
          exact h.g s _ (List.getElem_mem hx)
        · rw [List.getD_eq_getElem?_getD, List.getElem?_eq_none (by omega)]
          exact ⟨Rat.le_refl, Rat.natCast_nonneg, By.zero D⟩
      have q0 := p0 s
      have q1 := p1 s
      have q2 := (h.part0 st x s).2
      exact ⟨by grind, by grind, (gd.2.2.up a).add (pb s)⟩
  · refine Nat.mul_le_mul_left _ ?_
    have e : ((12 * D * (total S + 1) : Nat) : Rat) = (total S : Rat) * ((D * 12 : Nat) : Rat) + ((D * 12 : Nat) : Rat) := by
      rw [Rat.natCast_mul, Rat.natCast_add, Rat.natCast_mul, Rat.natCast_mul]
      have : ((1 : Nat) : Rat) = 1 := rfl
      rw [this]
      grind
    have l : (a : Rat) ≤ ((12 * D * (total S + 1) : Nat) : Rat) := by
      rw [e]
      have dn : (0 : Rat) ≤ ((D * 12 : Nat) : Rat) := Rat.natCast_nonneg
      have := Rat.mul_le_mul_of_nonneg_right t1 dn
      grind
    exact Rat.natCast_le_natCast.mp l
end
end K75
set_option maxHeartbeats 4000000
-- K2
/-! ratios. -/
namespace K75
open PySem PySem.Spec PyProof.Rows L2
theorem Sm.n {q : Rat} (h : Sm q) : q.num.natAbs < 2 ^ 1000 := h.1
theorem Sm.d {q : Rat} (h : Sm q) : (q.den : Int).natAbs < 2 ^ 1000 := by rw [Int.natAbs_natCast]; exact h.2
theorem mulc {i j : Int} (hi : i.natAbs < 2 ^ 1000) (hj : j.natAbs < 2 ^ 1000) : CMulW i j := wide_mul hi hj (by decide) (by decide) (by decide)
theorem mulb {i j : Int} (hi : i.natAbs < 2 ^ 1000) (hj : j.natAbs < 2 ^ 1000) : (i * j).natAbs < 2 ^ 2000 := wide_lt hi hj
theorem up30 {n : Nat} (h : n < 2 ^ 2000) : n < 2 ^ 3000 := Nat.lt_of_lt_of_le h (Nat.pow_le_pow_right (by decide) (by decide))
theorem addb {x y : Int} (hx : x.natAbs < 2 ^ 2000) (hy : y.natAbs < 2 ^ 2000) : (x + y).natAbs < 2 ^ 3000 := by
  have h := Int.natAbs_add_le x y
  have e : 2 ^ 2000 + 2 ^ 2000 ≤ 2 ^ 3000 := by
    have : (2 : Nat) ^ 2000 + 2 ^ 2000 = 2 ^ 2001 := by rw [Nat.pow_succ 2 2000] <;> omega
    rw [this]
    exact Nat.pow_le_pow_right (by decide) (by decide)
  generalize (2 : Nat) ^ 2000 = B at *
  generalize (2 : Nat) ^ 3000 = C at *
  omega
theorem subb {x y : Int} (hx : x.natAbs < 2 ^ 2000) (hy : y.natAbs < 2 ^ 2000) : (x - y).natAbs < 2 ^ 3000 := by
  have h : (x - y).natAbs = (x + -y).natAbs := by rw [Int.sub_eq_add_neg]
  rw [h]
  exact addb hx (by rw [Int.natAbs_neg]; exact hy)
theorem denp (a b : Rat) : (0 : Int) < (a.den : Int) * (b.den : Int) := Int.mul_pos (by have := a.den_pos; omega) (by have := b.den_pos; omega)
theorem dent (a b : Rat) : ((a.den : Int) * (b.den : Int)).toNat = a.den * b.den := by
  rw [← Int.natCast_mul]; rfl
section
variable {P : Program} {w : World} {K : PySem.W.Frag} {mg : Str → Option Value} {base : Heap}
/-- two fractions in, a fraction out -/
def spRR (f : Rat → Rat → Rat) (K : PySem.W.Frag) : Sp := fun vs H Q _ => ∃ (x y : V) (a b : Rat), vs = [x, y] ∧ rRat K H x a ∧ rRat K H y b ∧ Sm a ∧ Sm b ∧ Ret K rRat (f a b) H Q
abbrev sp_plus := spRR fun a b => a + b
abbrev N_plus : List Str := ["one", "other"]
theorem sc_plus : FnScope N_plus ["one", "other"] (defScope s_plus) := ⟨rfl, rfl, rfl, by decide +kernel, rfl, by decide +kernel, by decide +kernel⟩
theorem ok_plus (T : Tx K mg) {fd : FuncData} (F : FnD K d_plus fd) : FnOk P w K mg base CX0 3 (He.fAd K d_plus.at_) fd ["one", "other"] (sp_plus K) := by
  have nd := sc_plus.nd
  refine okx F sc_plus (fun vs H Q E h => ?_) (fun cdv A outer s H vs Q E hr h => ?_)
  · obtain ⟨x, y, a, b, rfl, _⟩ := h
    rfl
  · obtain ⟨x, y, a, b, rfl, ⟨p, rfl, hp⟩, ⟨q, rfl, hq⟩, ha, hb, k⟩ := h
    refine ⟨_, (pss_one (ps_ret (pc_fraction T (hr.mono (by decide)) (by rfl) (pa_cons (pe_op op_add (pe_op op_mulW (pe_ix ix_tup (pv 0) pe_int (fun _ _ => rfl)) (pe_ix ix_tup (pv 1) pe_int (fun _ _ => rfl))) (pe_op op_mulW (pe_ix ix_tup (pv 1) pe_int (fun _ _ => rfl)) (pe_ix ix_tup (pv 0) pe_int (fun _ _ => rfl)))) (pa_cons (pe_op op_mulW (pe_ix ix_tup (pv 0) pe_int (fun _ _ => rfl)) (pe_ix ix_tup (pv 1) pe_int (fun _ _ => rfl))) pa_nil))))), ?_⟩
    refine ⟨_, rfl, _, _, _, _, rfl, rfl, hp, rfl, _, rfl, _, _, _, _, rfl, rfl, hq, rfl, _, _, rfl, rfl, mulc ha.n hb.d, ?_⟩
    refine ⟨_, rfl, _, _, _, _, rfl, rfl, hq, rfl, _, rfl, _, _, _, _, rfl, rfl, hp, rfl, _, _, rfl, rfl, mulc hb.n ha.d, _, _, rfl, rfl, ?_⟩
    refine ⟨_, rfl, _, _, _, _, rfl, rfl, hp, rfl, _, rfl, _, _, _, _, rfl, rfl, hq, rfl, _, _, rfl, rfl, mulc ha.d hb.d, ?_⟩
    refine ⟨_, _, rfl, denp a b, addb (mulb ha.n hb.d) (mulb hb.n ha.d), up30 (mulb ha.d hb.d), ?_⟩
    rw [dent, ← Rat.add_def']
    exact k
theorem pc_plus {K : PySem.W.Frag} {mg : Str → Option Value} (T : Tx K mg) {X : Cx} (hr : Room 3 X.A) (hg : Gl X "plus") {p pos : Pos} {e : Expr} {es : List Expr} {t : TA} (ha : PA X (e :: es) t) (hK : X.K = K := by rfl) (hM : X.mg = mg := by rfl) (he : starEach (e :: es) X.env = (false, eval e X.env) :: starEach es X.env := by rfl) (hpl : (backTo pos (starEach es X.env)).any (·.1) = false := by rfl) : PE X (.Call (.Name "plus" p) (e :: es) [] pos) (tCall (sp_plus K) [] E0 t) := by
  subst hK hM
  obtain ⟨fd, F⟩ := T.says.def_ 12 (d := d_plus) rfl
  exact pe_call (ok_plus T F) hr hg (T.glo 12 rfl) F.kp (F.bindsN fun _ _ _ _ _ _ us hl => match us, hl with | [_, _], _ => rfl) .nil pass0 ha (by decide) he hpl
abbrev sp_minus := spRR fun a b => a - b
abbrev N_minus : List Str := ["one", "other"]
theorem sc_minus : FnScope N_minus ["one", "other"] (defScope s_minus) := ⟨rfl, rfl, rfl, by decide +kernel, rfl, by decide +kernel, by decide +kernel⟩
theorem ok_minus (T : Tx K mg) {fd : FuncData} (F : FnD K d_minus fd) : FnOk P w K mg base CX0 3 (He.fAd K d_minus.at_) fd ["one", "other"] (sp_minus K) := by
  have nd := sc_minus.nd
  refine okx F sc_minus (fun vs H Q E h => ?_) (fun cdv A outer s H vs Q E hr h => ?_)
  · obtain ⟨x, y, a, b, rfl, _⟩ := h
    rfl
  · obtain ⟨x, y, a, b, rfl, ⟨p, rfl, hp⟩, ⟨q, rfl, hq⟩, ha, hb, k⟩ := h
    refine ⟨_, (pss_one (ps_ret (pc_fraction T (hr.mono (by decide)) (by rfl) (pa_cons (pe_op op_sub (pe_op op_mulW (pe_ix ix_tup (pv 0) pe_int (fun _ _ => rfl)) (pe_ix ix_tup (pv 1) pe_int (fun _ _ => rfl))) (pe_op op_mulW (pe_ix ix_tup (pv 1) pe_int (fun _ _ => rfl)) (pe_ix ix_tup (pv 0) pe_int (fun _ _ => rfl)))) (pa_cons (pe_op op_mulW (pe_ix ix_tup (pv 0) pe_int (fun _ _ => rfl)) (pe_ix ix_tup (pv 1) pe_int (fun _ _ => rfl))) pa_nil))))), ?_⟩
    refine ⟨_, rfl, _, _, _, _, rfl, rfl, hp, rfl, _, rfl, _, _, _, _, rfl, rfl, hq, rfl, _, _, rfl, rfl, mulc ha.n hb.d, ?_⟩
    refine ⟨_, rfl, _, _, _, _, rfl, rfl, hq, rfl, _, rfl, _, _, _, _, rfl, rfl, hp, rfl, _, _, rfl, rfl, mulc hb.n ha.d, _, _, rfl, rfl, ?_⟩
    refine ⟨_, rfl, _, _, _, _, rfl, rfl, hp, rfl, _, rfl, _, _, _, _, rfl, rfl, hq, rfl, _, _, rfl, rfl, mulc ha.d hb.d, ?_⟩
    refine ⟨_, _, rfl, denp a b, subb (mulb ha.n hb.d) (mulb hb.n ha.d), up30 (mulb ha.d hb.d), ?_⟩
    rw [dent, ← Rat.sub_def']
    exact k
theorem pc_minus {K : PySem.W.Frag} {mg : Str → Option Value} (T : Tx K mg) {X : Cx} (hr : Room 3 X.A) (hg : Gl X "minus") {p pos : Pos} {e : Expr} {es : List Expr} {t : TA} (ha : PA X (e :: es) t) (hK : X.K = K := by rfl) (hM : X.mg = mg := by rfl) (he : starEach (e :: es) X.env = (false, eval e X.env) :: starEach es X.env := by rfl) (hpl : (backTo pos (starEach es X.env)).any (·.1) = false := by rfl) : PE X (.Call (.Name "minus" p) (e :: es) [] pos) (tCall (sp_minus K) [] E0 t) := by
  subst hK hM
  obtain ⟨fd, F⟩ := T.says.def_ 13 (d := d_minus) rfl
  exact pe_call (ok_minus T F) hr hg (T.glo 13 rfl) F.kp (F.bindsN fun _ _ _ _ _ _ us hl => match us, hl with | [_, _], _ => rfl) .nil pass0 ha (by decide) he hpl
abbrev sp_times := spRR fun a b => a * b
abbrev N_times : List Str := ["one", "other"]
theorem sc_times : FnScope N_times ["one", "other"] (defScope s_times) := ⟨rfl, rfl, rfl, by decide +kernel, rfl, by decide +kernel, by decide +kernel⟩
theorem ok_times (T : Tx K mg) {fd : FuncData} (F : FnD K d_times fd) : FnOk P w K mg base CX0 3 (He.fAd K d_times.at_) fd ["one", "other"] (sp_times K) := by
  have nd := sc_times.nd
  refine okx F sc_times (fun vs H Q E h => ?_) (fun cdv A outer s H vs Q E hr h => ?_)
  · obtain ⟨x, y, a, b, rfl, _⟩ := h
    rfl
  · obtain ⟨x, y, a, b, rfl, ⟨p, rfl, hp⟩, ⟨q, rfl, hq⟩, ha, hb, k⟩ := h
    refine ⟨_, (pss_one (ps_ret (pc_fraction T (hr.mono (by decide)) (by rfl) (pa_cons (pe_op op_mulW (pe_ix ix_tup (pv 0) pe_int (fun _ _ => rfl)) (pe_ix ix_tup (pv 1) pe_int (fun _ _ => rfl))) (pa_cons (pe_op op_mulW (pe_ix ix_tup (pv 0) pe_int (fun _ _ => rfl)) (pe_ix ix_tup (pv 1) pe_int (fun _ _ => rfl))) pa_nil))))), ?_⟩
    refine ⟨_, rfl, _, _, _, _, rfl, rfl, hp, rfl, _, rfl, _, _, _, _, rfl, rfl, hq, rfl, _, _, rfl, rfl, mulc ha.n hb.n, ?_⟩
    refine ⟨_, rfl, _, _, _, _, rfl, rfl, hp, rfl, _, rfl, _, _, _, _, rfl, rfl, hq, rfl, _, _, rfl, rfl, mulc ha.d hb.d, ?_⟩
    refine ⟨_, _, rfl, denp a b, up30 (mulb ha.n hb.n), up30 (mulb ha.d hb.d), ?_⟩
    rw [dent, ← Rat.mul_def']
    exact k
theorem pc_times {K : PySem.W.Frag} {mg : Str → Option Value} (T : Tx K mg) {X : Cx} (hr : Room 3 X.A) (hg : Gl X "times") {p pos : Pos} {e : Expr} {es : List Expr} {t : TA} (ha : PA X (e :: es) t) (hK : X.K = K := by rfl) (hM : X.mg = mg := by rfl) (he : starEach (e :: es) X.env = (false, eval e X.env) :: starEach es X.env := by rfl) (hpl : (backTo pos (starEach es X.env)).any (·.1) = false := by rfl) : PE X (.Call (.Name "times" p) (e :: es) [] pos) (tCall (sp_times K) [] E0 t) := by
  subst hK hM
  obtain ⟨fd, F⟩ := T.says.def_ 14 (d := d_times) rfl
  exact pe_call (ok_times T F) hr hg (T.glo 14 rfl) F.kp (F.bindsN fun _ _ _ _ _ _ us hl => match us, hl with | [_, _], _ => rfl) .nil pass0 ha (by decide) he hpl
/-- the other one above nought -/
def sp_parted (K : PySem.W.Frag) : Sp := fun vs H Q _ => ∃ (x y : V) (a b : Rat), vs = [x, y] ∧ rRat K H x a ∧ rRat K H y b ∧ Sm a ∧ Sm b ∧ 0 < b ∧ Ret K rRat (a / b) H Q
theorem div_parts {a b : Rat} (hb : 0 < b) : mkRat (a.num * b.den) ((a.den : Int) * b.num).toNat = a / b := by
  have hn : 0 < b.num := by
    have h1 := Rat.num_nonneg.mpr (Rat.le_of_lt hb)
    have h2 : b.num ≠ 0 := fun z => Rat.ne_of_gt hb (Rat.num_eq_zero.mp z)
    omega
  have hd : (0 : Int) < (a.den : Int) * b.num := Int.mul_pos (by have := a.den_pos; omega) hn
  have e : mkRat (a.num * b.den) ((a.den : Int) * b.num).toNat = Rat.divInt (a.num * b.den) ((a.den : Int) * b.num) := by
    rw [← Rat.divInt_ofNat, Int.toNat_of_nonneg (Int.le_of_lt hd)]
  have e2 : a / b = Rat.divInt a.num a.den * Rat.divInt b.den b.num := by
    rw [Rat.div_def, Rat.inv_def, Rat.num_divInt_den]
  rw [e, e2, Rat.divInt_mul_divInt]
abbrev N_parted : List Str := ["one", "other"]
theorem sc_parted : FnScope N_parted ["one", "other"] (defScope s_parted) := ⟨rfl, rfl, rfl, by decide +kernel, rfl, by decide +kernel, by decide +kernel⟩
theorem ok_parted (T : Tx K mg) {fd : FuncData} (F : FnD K d_parted fd) : FnOk P w K mg base CX0 3 (He.fAd K d_parted.at_) fd ["one", "other"] (sp_parted K) := by
  have nd := sc_parted.nd
  refine okx F sc_parted (fun vs H Q E h => ?_) (fun cdv A outer s H vs Q E hr h => ?_)
  · obtain ⟨x, y, a, b, rfl, _⟩ := h
    rfl
  · obtain ⟨x, y, a, b, rfl, ⟨p, rfl, hp⟩, ⟨q, rfl, hq⟩, ha, hb, pos, k⟩ := h
    have hn : 0 < b.num := by
      have h1 := Rat.num_nonneg.mpr (Rat.le_of_lt pos)
      have h2 : b.num ≠ 0 := fun z => Rat.ne_of_gt pos (Rat.num_eq_zero.mp z)
      omega
    refine ⟨_, (pss_cons (ps_if (pt_cmpR op_eq (pe_ix ix_tup (pv 1) pe_int (fun _ _ => rfl)) pe_int (nomark _)) (pss_one ps_never) pss_nil)
      (pss_one (ps_ret (pc_fraction T (hr.mono (by decide)) (by rfl) (pa_cons (pe_op op_mulW (pe_ix ix_tup (pv 0) pe_int (fun _ _ => rfl)) (pe_ix ix_tup (pv 1) pe_int (fun _ _ => rfl))) (pa_cons (pe_op op_mulW (pe_ix ix_tup (pv 0) pe_int (fun _ _ => rfl)) (pe_ix ix_tup (pv 1) pe_int (fun _ _ => rfl))) pa_nil)))))), ?_⟩
    refine ⟨_, rfl, _, _, _, _, rfl, rfl, hq, rfl, rfl, _, rfl, ite2 (fun hc => ?_) (fun _ => ?_)⟩
    · have : V.int b.num = V.int 0 := by simpa using hc
      injection this with e
      omega
    refine ⟨_, rfl, _, _, _, _, rfl, rfl, hp, rfl, _, rfl, _, _, _, _, rfl, rfl, hq, rfl, _, _, rfl, rfl, mulc ha.n hb.d, ?_⟩
    refine ⟨_, rfl, _, _, _, _, rfl, rfl, hp, rfl, _, rfl, _, _, _, _, rfl, rfl, hq, rfl, _, _, rfl, rfl, mulc ha.d hb.n, ?_⟩
    refine ⟨_, _, rfl, Int.mul_pos (by have := a.den_pos; omega) hn, up30 (mulb ha.n hb.d), up30 (mulb ha.d hb.n), ?_⟩
    rw [div_parts pos]
    exact k
theorem pc_parted {K : PySem.W.Frag} {mg : Str → Option Value} (T : Tx K mg) {X : Cx} (hr : Room 3 X.A) (hg : Gl X "parted") {p pos : Pos} {e : Expr} {es : List Expr} {t : TA} (ha : PA X (e :: es) t) (hK : X.K = K := by rfl) (hM : X.mg = mg := by rfl) (he : starEach (e :: es) X.env = (false, eval e X.env) :: starEach es X.env := by rfl) (hpl : (backTo pos (starEach es X.env)).any (·.1) = false := by rfl) : PE X (.Call (.Name "parted" p) (e :: es) [] pos) (tCall (sp_parted K) [] E0 t) := by
  subst hK hM
  obtain ⟨fd, F⟩ := T.says.def_ 15 (d := d_parted) rfl
  exact pe_call (ok_parted T F) hr hg (T.glo 15 rfl) F.kp (F.bindsN fun _ _ _ _ _ _ us hl => match us, hl with | [_, _], _ => rfl) .nil pass0 ha (by decide) he hpl
def sp_under (K : PySem.W.Frag) : Sp := fun vs H Q _ => ∃ (x y : V) (a b : Rat), vs = [x, y] ∧ rRat K H x a ∧ rRat K H y b ∧ Sm a ∧ Sm b ∧ Q (.bl (decide (a < b))) H
abbrev N_under : List Str := ["one", "other"]
theorem sc_under : FnScope N_under ["one", "other"] (defScope s_under) := ⟨rfl, rfl, rfl, by decide +kernel, rfl, by decide +kernel, by decide +kernel⟩
theorem ok_under (T : Tx K mg) {fd : FuncData} (F : FnD K d_under fd) : FnOk P w K mg base CX0 1 (He.fAd K d_under.at_) fd ["one", "other"] (sp_under K) := by
  have nd := sc_under.nd
  refine okx F sc_under (fun vs H Q E h => ?_) (fun cdv A outer s H vs Q E hr h => ?_)
  · obtain ⟨x, y, a, b, rfl, _⟩ := h
    rfl
  · obtain ⟨x, y, a, b, rfl, ⟨p, rfl, hp⟩, ⟨q, rfl, hq⟩, ha, hb, k⟩ := h
    refine ⟨_, (pss_one (ps_ret (pe_cmpR op_lt (pe_op op_mulW (pe_ix ix_tup (pv 0) pe_int (fun _ _ => rfl)) (pe_ix ix_tup (pv 1) pe_int (fun _ _ => rfl))) (pe_op op_mulW (pe_ix ix_tup (pv 1) pe_int (fun _ _ => rfl)) (pe_ix ix_tup (pv 0) pe_int (fun _ _ => rfl))) (nomark _)))), ?_⟩
    refine ⟨_, rfl, _, _, _, _, rfl, rfl, hp, rfl, _, rfl, _, _, _, _, rfl, rfl, hq, rfl, _, _, rfl, rfl, mulc ha.n hb.d, ?_⟩
    refine ⟨_, rfl, _, _, _, _, rfl, rfl, hq, rfl, _, rfl, _, _, _, _, rfl, rfl, hp, rfl, _, _, rfl, rfl, mulc hb.n ha.d, _, _, rfl, rfl, ?_⟩
    have e : decide (a.num * (b.den : Int) < b.num * (a.den : Int)) = decide (a < b) := by
      rw [decide_eq_decide]; exact (Rat.lt_iff a b).symm
    show Q (.bl (decide (a.num * (b.den : Int) < b.num * (a.den : Int)))) H
    rw [e]
    exact k
theorem pc_under {K : PySem.W.Frag} {mg : Str → Option Value} (T : Tx K mg) {X : Cx} (hr : Room 1 X.A) (hg : Gl X "under") {p pos : Pos} {e : Expr} {es : List Expr} {t : TA} (ha : PA X (e :: es) t) (hK : X.K = K := by rfl) (hM : X.mg = mg := by rfl) (he : starEach (e :: es) X.env = (false, eval e X.env) :: starEach es X.env := by rfl) (hpl : (backTo pos (starEach es X.env)).any (·.1) = false := by rfl) : PE X (.Call (.Name "under" p) (e :: es) [] pos) (tCall (sp_under K) [] E0 t) := by
  subst hK hM
  obtain ⟨fd, F⟩ := T.says.def_ 16 (d := d_under) rfl
  exact pe_call (ok_under T F) hr hg (T.glo 16 rfl) F.kp (F.bindsN fun _ _ _ _ _ _ us hl => match us, hl with | [_, _], _ => rfl) .nil pass0 ha (by decide) he hpl
theorem up1000 {n : Nat} (h : n < 2 ^ 1000) : n < 2 ^ 3000 := Nat.lt_of_lt_of_le h (Nat.pow_le_pow_right (by decide) (by decide))
def sp_least_from (K : PySem.W.Frag) : Sp := fun vs H Q _ => ∃ (x : V) (a : Rat), vs = [x] ∧ rRat K H x a ∧ Sm a ∧ ∀ H', Same H H' → Q (.int a.ceil) H'
abbrev N_least_from : List Str := ["one"]
theorem sc_least_from : FnScope N_least_from ["one"] (defScope s_least_from) := ⟨rfl, rfl, rfl, by decide +kernel, rfl, by decide +kernel, by decide +kernel⟩
theorem ok_least_from (T : Tx K mg) {fd : FuncData} (F : FnD K d_least_from fd) : FnOk P w K mg base CX0 2 (He.fAd K d_least_from.at_) fd ["one"] (sp_least_from K) := by
  have nd := sc_least_from.nd
  refine okx F sc_least_from (fun vs H Q E h => ?_) (fun cdv A outer s H vs Q E hr h => ?_)
  · obtain ⟨x, a, rfl, _⟩ := h
    rfl
  · obtain ⟨x, a, rfl, ⟨p, rfl, hp⟩, ha, k⟩ := h
    refine ⟨_, (pss_one (ps_ret (pc_up T (hr.mono (by decide)) (by rfl) (pa_cons (pe_ix ix_tup (pv 0) pe_int (fun _ _ => rfl)) (pa_cons (pe_ix ix_tup (pv 0) pe_int (fun _ _ => rfl)) pa_nil))))), ?_⟩
    refine ⟨_, rfl, _, _, _, _, rfl, rfl, hp, rfl, _, rfl, _, _, _, _, rfl, rfl, hp, rfl, ?_⟩
    refine ⟨_, _, rfl, by have := a.den_pos; omega, up1000 ha.n, fun H' sm => ?_⟩
    have e : a.ceil = -((-a.num) / (a.den : Int)) := by
      rw [Rat.ceil_eq_neg_floor_neg, Rat.floor_def]; rfl
    rw [← e]
    exact k H' sm
theorem pc_least_from {K : PySem.W.Frag} {mg : Str → Option Value} (T : Tx K mg) {X : Cx} (hr : Room 2 X.A) (hg : Gl X "least_from") {p pos : Pos} {e : Expr} {es : List Expr} {t : TA} (ha : PA X (e :: es) t) (hK : X.K = K := by rfl) (hM : X.mg = mg := by rfl) (he : starEach (e :: es) X.env = (false, eval e X.env) :: starEach es X.env := by rfl) (hpl : (backTo pos (starEach es X.env)).any (·.1) = false := by rfl) : PE X (.Call (.Name "least_from" p) (e :: es) [] pos) (tCall (sp_least_from K) [] E0 t) := by
  subst hK hM
  obtain ⟨fd, F⟩ := T.says.def_ 17 (d := d_least_from) rfl
  exact pe_call (ok_least_from T F) hr hg (T.glo 17 rfl) F.kp (F.bindsN fun _ _ _ _ _ _ us hl => match us, hl with | [_], _ => rfl) .nil pass0 ha (by decide) he hpl
def sp_least_above (K : PySem.W.Frag) : Sp := fun vs H Q _ => ∃ (x : V) (a : Rat), vs = [x] ∧ rRat K H x a ∧ Sm a ∧ ∀ H', Same H H' → Q (.int (a.floor + 1)) H'
abbrev N_least_above : List Str := ["one"]
theorem sc_least_above : FnScope N_least_above ["one"] (defScope s_least_above) := ⟨rfl, rfl, rfl, by decide +kernel, rfl, by decide +kernel, by decide +kernel⟩
theorem ok_least_above (T : Tx K mg) {fd : FuncData} (F : FnD K d_least_above fd) : FnOk P w K mg base CX0 2 (He.fAd K d_least_above.at_) fd ["one"] (sp_least_above K) := by
  have nd := sc_least_above.nd
  refine okx F sc_least_above (fun vs H Q E h => ?_) (fun cdv A outer s H vs Q E hr h => ?_)
  · obtain ⟨x, a, rfl, _⟩ := h
    rfl
  · obtain ⟨x, a, rfl, ⟨p, rfl, hp⟩, ha, k⟩ := h
    refine ⟨_, (pss_one (ps_ret (pe_op op_add (pc_down T (hr.mono (by decide)) (by rfl) (pa_cons (pe_ix ix_tup (pv 0) pe_int (fun _ _ => rfl)) (pa_cons (pe_ix ix_tup (pv 0) pe_int (fun _ _ => rfl)) pa_nil))) pe_int))), ?_⟩
    refine ⟨_, rfl, _, _, _, _, rfl, rfl, hp, rfl, _, rfl, _, _, _, _, rfl, rfl, hp, rfl, ?_⟩
    refine ⟨_, _, rfl, by have := a.den_pos; omega, up1000 ha.n, fun H' sm => ?_⟩
    refine ⟨_, _, rfl, rfl, ?_⟩
    have k' := k H' sm
    rw [Rat.floor_def] at k'
    exact k'
theorem pc_least_above {K : PySem.W.Frag} {mg : Str → Option Value} (T : Tx K mg) {X : Cx} (hr : Room 2 X.A) (hg : Gl X "least_above") {p pos : Pos} {e : Expr} {es : List Expr} {t : TA} (ha : PA X (e :: es) t) (hK : X.K = K := by rfl) (hM : X.mg = mg := by rfl) (he : starEach (e :: es) X.env = (false, eval e X.env) :: starEach es X.env := by rfl) (hpl : (backTo pos (starEach es X.env)).any (·.1) = false := by rfl) : PE X (.Call (.Name "least_above" p) (e :: es) [] pos) (tCall (sp_least_above K) [] E0 t) := by
  subst hK hM
  obtain ⟨fd, F⟩ := T.says.def_ 18 (d := d_least_above) rfl
  exact pe_call (ok_least_above T F) hr hg (T.glo 18 rfl) F.kp (F.bindsN fun _ _ _ _ _ _ us hl => match us, hl with | [_], _ => rfl) .nil pass0 ha (by decide) he hpl
end
end K75
-- K3
/-! sets, ballots: masks, where a slip lies. -/
namespace K75
open PySem PySem.Spec PyProof.Rows L2
section
variable {P : Program} {w : World} {K : PySem.W.Frag} {mg : Str → Option Value} {base : Heap}
theorem cpow1 {n : Nat} (h : n ≤ 1000000) : CPow 1 (n : Int) := ⟨by omega, by omega, by decide⟩
theorem shl1 (n : Nat) : (1 : Int) * 2 ^ (n : Int).toNat = ((2 ^ n : Nat) : Int) := by
  rw [Int.one_mul, Int.toNat_natCast]; simp
def sp_all_of (_ : PySem.W.Frag) : Sp := fun vs H Q _ => ∃ n : Nat, vs = [.int (n : Int)] ∧ n ≤ 60 ∧ Q (.int (allOf n : Nat)) H
abbrev N_all_of : List Str := ["hands"]
theorem sc_all_of : FnScope N_all_of ["hands"] (defScope s_all_of) := ⟨rfl, rfl, rfl, by decide +kernel, rfl, by decide +kernel, by decide +kernel⟩
theorem ok_all_of (T : Tx K mg) {fd : FuncData} (F : FnD K d_all_of fd) : FnOk P w K mg base CX0 1 (He.fAd K d_all_of.at_) fd ["hands"] (sp_all_of K) := by
  have nd := sc_all_of.nd
  refine okx F sc_all_of (fun vs H Q E h => ?_) (fun cdv A outer s H vs Q E hr h => ?_)
  · obtain ⟨n, rfl, _⟩ := h
    rfl
  · obtain ⟨n, rfl, hn, k⟩ := h
    refine ⟨_, (pss_one (ps_ret (pe_op op_sub (pe_op op_shl pe_int (pv 0)) pe_int))), ?_⟩
    refine ⟨_, rfl, _, _, rfl, rfl, cpow1 (by omega), _, _, rfl, rfl, ?_⟩
    have e : (1 : Int) * 2 ^ (n : Int).toNat - 1 = ((allOf n : Nat) : Int) := by
      rw [shl1]
      have : 0 < 2 ^ n := Nat.two_pow_pos n
      unfold allOf
      omega
    show Q (.int ((1 : Int) * 2 ^ (n : Int).toNat - 1)) H
    rw [e]
    exact k
theorem pc_all_of {K : PySem.W.Frag} {mg : Str → Option Value} (T : Tx K mg) {X : Cx} (hr : Room 1 X.A) (hg : Gl X "all_of") {p pos : Pos} {e : Expr} {es : List Expr} {t : TA} (ha : PA X (e :: es) t) (hK : X.K = K := by rfl) (hM : X.mg = mg := by rfl) (he : starEach (e :: es) X.env = (false, eval e X.env) :: starEach es X.env := by rfl) (hpl : (backTo pos (starEach es X.env)).any (·.1) = false := by rfl) : PE X (.Call (.Name "all_of" p) (e :: es) [] pos) (tCall (sp_all_of K) [] E0 t) := by
  subst hK hM
  obtain ⟨fd, F⟩ := T.says.def_ 5 (d := d_all_of) rfl
  exact pe_call (ok_all_of T F) hr hg (T.glo 5 rfl) F.kp (F.bindsN fun _ _ _ _ _ _ us hl => match us, hl with | [_], _ => rfl) .nil pass0 ha (by decide) he hpl
def sp_holds (_ : PySem.W.Frag) : Sp := fun vs H Q _ => ∃ m h : Nat, vs = [.int (m : Int), .int (h : Int)] ∧ Q (.bl (m.testBit h)) H
theorem holds_eq (m h : Nat) : decide (V.int (Builtin.bitAnd ((m : Int) / 2 ^ (h : Int).toNat) 1) = V.int 1) = m.testBit h := by
  have e : (m : Int) / 2 ^ (h : Int).toNat = ((m / 2 ^ h : Nat) : Int) := by
    rw [Int.toNat_natCast]; simp
  have e1 : Builtin.bitAnd ((m : Int) / 2 ^ (h : Int).toNat) 1 = ((m / 2 ^ h % 2 : Nat) : Int) := by
    rw [e, bitAnd_m1]; omega
  rw [e1, Nat.testBit_eq_decide_div_mod_eq, decide_eq_decide]
  constructor
  · intro z; injection z with z; omega
  · intro z; rw [z]; rfl
abbrev N_holds : List Str := ["mask", "hand"]
theorem sc_holds : FnScope N_holds ["mask", "hand"] (defScope s_holds) := ⟨rfl, rfl, rfl, by decide +kernel, rfl, by decide +kernel, by decide +kernel⟩
theorem ok_holds (T : Tx K mg) {fd : FuncData} (F : FnD K d_holds fd) : FnOk P w K mg base CX0 1 (He.fAd K d_holds.at_) fd ["mask", "hand"] (sp_holds K) := by
  have nd := sc_holds.nd
  refine okx F sc_holds (fun vs H Q E h => ?_) (fun cdv A outer s H vs Q E hr h => ?_)
  · obtain ⟨m, h, rfl, _⟩ := h
    rfl
  · obtain ⟨m, h, rfl, k⟩ := h
    refine ⟨_, (pss_one (ps_ret (pe_cmpR op_eq (pe_op op_and (pe_op op_shr (pv 0) (pv 1)) pe_int) pe_int (nomark _)))), ?_⟩
    refine ⟨_, rfl, _, rfl, _, _, rfl, rfl, by omega, _, _, rfl, rfl, rfl, ?_⟩
    show Q (.bl (decide (V.int (Builtin.bitAnd ((m : Int) / 2 ^ (h : Int).toNat) 1) = V.int 1))) H
    rw [holds_eq]
    exact k
theorem pc_holds {K : PySem.W.Frag} {mg : Str → Option Value} (T : Tx K mg) {X : Cx} (hr : Room 1 X.A) (hg : Gl X "holds") {p pos : Pos} {e : Expr} {es : List Expr} {t : TA} (ha : PA X (e :: es) t) (hK : X.K = K := by rfl) (hM : X.mg = mg := by rfl) (he : starEach (e :: es) X.env = (false, eval e X.env) :: starEach es X.env := by rfl) (hpl : (backTo pos (starEach es X.env)).any (·.1) = false := by rfl) : PE X (.Call (.Name "holds" p) (e :: es) [] pos) (tCall (sp_holds K) [] E0 t) := by
  subst hK hM
  obtain ⟨fd, F⟩ := T.says.def_ 6 (d := d_holds) rfl
  exact pe_call (ok_holds T F) hr hg (T.glo 6 rfl) F.kp (F.bindsN fun _ _ _ _ _ _ us hl => match us, hl with | [_, _], _ => rfl) .nil pass0 ha (by decide) he hpl
def sp_without (_ : PySem.W.Frag) : Sp := fun vs H Q _ => ∃ m h : Nat, vs = [.int (m : Int), .int (h : Int)] ∧ h ≤ 60 ∧ Q (.int (without m h : Nat)) H
abbrev N_without : List Str := ["mask", "hand"]
theorem sc_without : FnScope N_without ["mask", "hand"] (defScope s_without) := ⟨rfl, rfl, rfl, by decide +kernel, rfl, by decide +kernel, by decide +kernel⟩
theorem ok_without (T : Tx K mg) {fd : FuncData} (F : FnD K d_without fd) : FnOk P w K mg base CX0 2 (He.fAd K d_without.at_) fd ["mask", "hand"] (sp_without K) := by
  have nd := sc_without.nd
  refine okx F sc_without (fun vs H Q E h => ?_) (fun cdv A outer s H vs Q E hr h => ?_)
  · obtain ⟨m, h, rfl, _⟩ := h
    rfl
  · obtain ⟨m, h, rfl, hh, k⟩ := h
    refine ⟨_, (pss_cons (ps_if (pt_val (pc_holds T (hr.mono (by decide)) (by rfl) (pa_cons (pv 0) (pa_cons (pv 1) pa_nil)))) (pss_one (ps_ret (pe_op op_xor (pv 0) (pe_op op_shl pe_int (pv 1))))) pss_nil)
      (pss_one (ps_ret (pv 0)))), ?_⟩
    refine ⟨_, rfl, _, rfl, m, h, rfl, _, rfl, ite2 (fun hc => ?_) (fun hc => ?_)⟩
    · refine ⟨_, rfl, _, rfl, _, _, rfl, rfl, cpow1 (by omega), _, _, rfl, rfl, ?_⟩
      have e : Builtin.bitXor (m : Int) ((1 : Int) * 2 ^ (h : Int).toNat) = ((without m h : Nat) : Int) := by
        rw [shl1, Bits.bitXor_pp (Int.natCast_nonneg _) (Int.natCast_nonneg _), Int.toNat_natCast, Int.toNat_natCast]
        unfold without
        rw [if_pos hc, Nat.one_shiftLeft]
      show Q (.int (Builtin.bitXor (m : Int) ((1 : Int) * 2 ^ (h : Int).toNat))) H
      rw [e]
      exact k
    · refine ⟨_, rfl, ?_⟩
      have e : without m h = m := by unfold without; rw [if_neg hc]
      rw [e] at k
      exact k
theorem pc_without {K : PySem.W.Frag} {mg : Str → Option Value} (T : Tx K mg) {X : Cx} (hr : Room 2 X.A) (hg : Gl X "without") {p pos : Pos} {e : Expr} {es : List Expr} {t : TA} (ha : PA X (e :: es) t) (hK : X.K = K := by rfl) (hM : X.mg = mg := by rfl) (he : starEach (e :: es) X.env = (false, eval e X.env) :: starEach es X.env := by rfl) (hpl : (backTo pos (starEach es X.env)).any (·.1) = false := by rfl) : PE X (.Call (.Name "without" p) (e :: es) [] pos) (tCall (sp_without K) [] E0 t) := by
  subst hK hM
  obtain ⟨fd, F⟩ := T.says.def_ 7 (d := d_without) rfl
  exact pe_call (ok_without T F) hr hg (T.glo 7 rfl) F.kp (F.bindsN fun _ _ _ _ _ _ us hl => match us, hl with | [_, _], _ => rfl) .nil pass0 ha (by decide) he hpl
abbrev nats (l : List Nat) : List V := l.map fun (n : Nat) => V.int (n : Int)
theorem nats_rel (K : PySem.W.Frag) (H : Hp) : ∀ l : List Nat, Paired (rNat K H) (nats l) l
  | [] => .nil
  | _ :: r => .cons rfl (nats_rel K H r)
def upTo (m n : Nat) : List Nat := (List.range n).filter fun h => m.testBit h
theorem upTo_succ (m n : Nat) : upTo m (n + 1) = if m.testBit n = true then upTo m n ++ [n] else upTo m n := by
  unfold upTo
  rw [List.range_succ, List.filter_append]
  split
  · rename_i h; simp [h]
  · rename_i h; simp [h]
theorem upTo_ge {m n : Nat} (h : m < 2 ^ n) : ∀ k, upTo m (n + k) = upTo m n
  | 0 => rfl
  | k + 1 => by
    rw [← Nat.add_assoc, upTo_succ, upTo_ge h k, if_neg]
    rw [Nat.testBit_lt_two_pow (Nat.lt_of_lt_of_le h (Nat.pow_le_pow_right (by decide) (Nat.le_add_right n k)))]
    decide
theorem upTo_all {m n : Nat} (h : m < 2 ^ n) : upTo m n = members m := by
  show upTo m n = upTo m m
  rcases Nat.le_total n m with l | l
  · obtain ⟨k, rfl⟩ := Nat.exists_eq_add_of_le l
    exact (upTo_ge h k).symm
  · obtain ⟨k, rfl⟩ := Nat.exists_eq_add_of_le l
    exact upTo_ge Nat.lt_two_pow_self k
def sp_members (K : PySem.W.Frag) : Sp := fun vs H Q _ => ∃ m : Nat, vs = [.int (m : Int)] ∧ m < 2 ^ 60 ∧ ∀ H' p, Same H H' → H p = none → FzL H' p (nats (members m)) → Q (.ref p) H'
abbrev N_members : List Str := ["mask", "found", "hand"]
theorem sc_members : FnScope N_members ["mask"] (defScope s_members) := ⟨rfl, rfl, rfl, by decide +kernel, rfl, by decide +kernel, by decide +kernel⟩
theorem ok_members (T : Tx K mg) {fd : FuncData} (F : FnD K d_members fd) : FnOk P w K mg base CX0 1 (He.fAd K d_members.at_) fd ["mask"] (sp_members K) := by
  have nd := sc_members.nd
  refine okx F sc_members (fun vs H Q E h => ?_) (fun cdv A outer s H vs Q E hr h => ?_)
  · obtain ⟨m, rfl, _⟩ := h
    rfl
  · obtain ⟨m, rfl, hm, k⟩ := h
    refine ⟨_, (pss_cons (ps_set (i := 1) nd rfl (Or.inl rfl) (pe_lst pa_nil))
      (pss_cons (ps_set (i := 2) nd rfl (Or.inl rfl) pe_int)
      (pss_cons (ps_while PassesOwn.never (pt_cmpR op_gt (pv 0) pe_int (nomark _)) (pss_cons (ps_if (pt_cmpR op_eq (pe_op op_and (pv 0) pe_int) pe_int (nomark _)) (pss_one (ps_expr (pe_bm PySem.F.plainAttrs_list PySem.F.slot_list_append PySem.F.type_list_append mt_append (pv 1) (pa_cons (pv 2) pa_nil)))) pss_nil)
      (pss_cons (ps_set (i := 0) nd rfl (Or.inl rfl) (pe_op op_shr (pv 0) pe_int))
      (pss_one (ps_aug (i := 2) nd rfl (Or.inl rfl) pe_int ip_add)))))
      (pss_one (ps_ret (pe_fz (pv 1))))))), ?_⟩
    refine ⟨(by show 0 ≤ sizeLine; decide), fun l hl => ?_⟩
    refine ⟨fun c σ H' => ∃ h : Nat, h ≤ 60 ∧ c = m / 2 ^ h ∧ σ = [some (.int (c : Int)), some (.ref l), some (.int (h : Int))] ∧ H' = upd H l (.lst (nats (upTo m h))), ⟨m, 0, by decide, by simp, rfl, rfl⟩, ?_⟩
    rintro c σ H' ⟨h, hh, hc, rfl, rfl⟩
    refine ⟨_, rfl, _, _, rfl, rfl, _, rfl, ite2 (fun q => ?_) (fun q => ?_)⟩
    · have q' : 0 < c := by simpa using q
      have h60 : h < 60 := by
        refine Classical.byContradiction fun z => ?_
        have e : h = 60 := by omega
        subst e
        rw [Nat.div_eq_of_lt hm] at hc
        omega
      have odd : Builtin.bitAnd (c : Int) 1 = ((c % 2 : Nat) : Int) := by rw [bitAnd_m1]; omega
      have bit : m.testBit h = decide (c % 2 = 1) := by rw [Nat.testBit_eq_decide_div_mod_eq, hc]
      have half : (c : Int) / 2 ^ (1 : Int).toNat = ((c / 2 : Nat) : Int) := by
        show (c : Int) / 2 = _
        omega
      have next : c / 2 = m / 2 ^ (h + 1) := by rw [hc, Nat.div_div_eq_div_mul, Nat.pow_succ]
      refine ⟨fun σ' H'' => ∃ c', σ' = [some (.int ((c / 2 : Nat) : Int)), some (.ref l), some (.int ((h + 1 : Nat) : Int))] ∧ H'' = upd H l (.lst (nats (upTo m (h + 1)))) ∧ c' = c / 2, ?_, ?_⟩
      · rintro σ' H'' ⟨c', rfl, rfl, rfl⟩
        exact ⟨c / 2, Nat.div_lt_self q' (by decide), h + 1, by omega, next, rfl, rfl⟩
      · refine ⟨_, rfl, _, _, rfl, rfl, rfl, _, rfl, ite2 (fun z => ?_) (fun z => ?_)⟩
        · have z1 : c % 2 = 1 := by
            have z' : V.int (Builtin.bitAnd (c : Int) 1) = V.int 1 := by simpa using z
            injection z' with z'
            rw [odd] at z'
            omega
          refine ⟨_, rfl, .inl ⟨rfl, _, SqL.of upd_same⟩, _, rfl, l, _, _, rfl, rfl, upd_same, ?_, ?_⟩
          · have : (nats (upTo m h)).length ≤ h := by
              rw [List.length_map]
              exact Nat.le_trans (List.length_filter_le _ _) (by rw [List.length_range]; exact Nat.le_refl _)
            exact small1000 (by omega)
          · rw [upd_upd]
            refine ⟨_, rfl, _, _, rfl, rfl, (by show (0 : Int) ≤ 1; decide), _, rfl, _, _, rfl, rfl, c / 2, ?_, ?_, rfl⟩
            · show [some (V.int ((c : Int) / 2 ^ (1 : Int).toNat)), some (V.ref l), some (V.int ((h : Int) + 1))] = _
              rw [half]; rfl
            · have e : upTo m (h + 1) = upTo m h ++ [h] := by rw [upTo_succ, bit, z1]; simp
              rw [e]
              show upd H l (.lst (nats (upTo m h) ++ [V.int (h : Int)])) = _
              rw [show nats (upTo m h ++ [h]) = nats (upTo m h) ++ [V.int (h : Int)] by simp [nats]]
        · have z1 : ¬ c % 2 = 1 := fun z2 => by
            refine z ?_
            rw [show (fun i j => V.int (Builtin.bitAnd i j)) (c : Int) 1 = V.int (Builtin.bitAnd (c : Int) 1) from rfl, odd, z2]
            simp
          refine ⟨_, rfl, _, _, rfl, rfl, (by show (0 : Int) ≤ 1; decide), _, rfl, _, _, rfl, rfl, c / 2, ?_, ?_, rfl⟩
          · show [some (V.int ((c : Int) / 2 ^ (1 : Int).toNat)), some (V.ref l), some (V.int ((h : Int) + 1))] = _
            rw [half]; rfl
          · have e : upTo m (h + 1) = upTo m h := by rw [upTo_succ, bit]; simp [z1]
            rw [e]
    · have q' : c = 0 := by
        have : ¬ 0 < (c : Int) := by simpa using q
        omega
      have hm2 : m < 2 ^ h := by
        rw [q'] at hc
        exact (Nat.div_eq_zero_iff_lt (Nat.two_pow_pos h)).mp hc.symm
      refine ⟨_, rfl, l, _, rfl, upd_same, fun o => ?_⟩
      rw [upd_upd, upTo_all hm2]
      exact k _ l (Same.new hl) hl FzL.mk
theorem pc_members {K : PySem.W.Frag} {mg : Str → Option Value} (T : Tx K mg) {X : Cx} (hr : Room 1 X.A) (hg : Gl X "members") {p pos : Pos} {e : Expr} {es : List Expr} {t : TA} (ha : PA X (e :: es) t) (hK : X.K = K := by rfl) (hM : X.mg = mg := by rfl) (he : starEach (e :: es) X.env = (false, eval e X.env) :: starEach es X.env := by rfl) (hpl : (backTo pos (starEach es X.env)).any (·.1) = false := by rfl) : PE X (.Call (.Name "members" p) (e :: es) [] pos) (tCall (sp_members K) [] E0 t) := by
  subst hK hM
  obtain ⟨fd, F⟩ := T.says.def_ 8 (d := d_members) rfl
  exact pe_call (ok_members T F) hr hg (T.glo 8 rfl) F.kp (F.bindsN fun _ _ _ _ _ _ us hl => match us, hl with | [_], _ => rfl) .nil pass0 ha (by decide) he hpl
def sp_size (_ : PySem.W.Frag) : Sp := fun vs H Q _ => ∃ m : Nat, vs = [.int (m : Int)] ∧ m < 2 ^ 60 ∧ ∀ H', Same H H' → Q (.int (size m : Nat)) H'
abbrev N_size : List Str := ["mask"]
theorem sc_size : FnScope N_size ["mask"] (defScope s_size) := ⟨rfl, rfl, rfl, by decide +kernel, rfl, by decide +kernel, by decide +kernel⟩
theorem ok_size (T : Tx K mg) {fd : FuncData} (F : FnD K d_size fd) : FnOk P w K mg base CX0 2 (He.fAd K d_size.at_) fd ["mask"] (sp_size K) := by
  have nd := sc_size.nd
  refine okx F sc_size (fun vs H Q E h => ?_) (fun cdv A outer s H vs Q E hr h => ?_)
  · obtain ⟨m, rfl, _⟩ := h
    rfl
  · obtain ⟨m, rfl, hm, k⟩ := h
    refine ⟨_, (pss_one (ps_ret (pe_callB call_len_seq (by rfl) (T.free 54 rfl) (by decide +kernel) (pa_cons (pc_members T (hr.mono (by decide)) (by rfl) (pa_cons (pv 0) pa_nil)) pa_nil)))), ?_⟩
    refine ⟨_, rfl, m, rfl, hm, fun H' p sm _ fz => ?_⟩
    refine ⟨p, _, rfl, .inl fz.sq, ?_⟩
    rw [List.length_map]
    exact k H' sm
theorem pc_size {K : PySem.W.Frag} {mg : Str → Option Value} (T : Tx K mg) {X : Cx} (hr : Room 2 X.A) (hg : Gl X "size") {p pos : Pos} {e : Expr} {es : List Expr} {t : TA} (ha : PA X (e :: es) t) (hK : X.K = K := by rfl) (hM : X.mg = mg := by rfl) (he : starEach (e :: es) X.env = (false, eval e X.env) :: starEach es X.env := by rfl) (hpl : (backTo pos (starEach es X.env)).any (·.1) = false := by rfl) : PE X (.Call (.Name "size" p) (e :: es) [] pos) (tCall (sp_size K) [] E0 t) := by
  subst hK hM
  obtain ⟨fd, F⟩ := T.says.def_ 9 (d := d_size) rfl
  exact pe_call (ok_size T F) hr hg (T.glo 9 rfl) F.kp (F.bindsN fun _ _ _ _ _ _ us hl => match us, hl with | [_], _ => rfl) .nil pass0 ha (by decide) he hpl
/-! ### lies -/
def sp_lies (K : PySem.W.Frag) : Sp := fun vs H Q _ => ∃ (v : V) (s : Slip) (st : Nat), vs = [v, .int (st : Int)] ∧ rSlip K H v s ∧ Q (.int (lies s st : Nat)) H
abbrev N_lies : List Str := ["slip", "standing", "tier"]
theorem sc_lies : FnScope N_lies ["slip", "standing"] (defScope s_lies) := ⟨rfl, rfl, rfl, by decide +kernel, rfl, by decide +kernel, by decide +kernel⟩
theorem ok_lies (T : Tx K mg) {fd : FuncData} (F : FnD K d_lies fd) : FnOk P w K mg base CX0 1 (He.fAd K d_lies.at_) fd ["slip", "standing"] (sp_lies K) := by
  have nd := sc_lies.nd
  refine okx F sc_lies (fun vs H Q E h => ?_) (fun cdv A outer s H vs Q E hr h => ?_)
  · obtain ⟨v, s, st, rfl, _⟩ := h
    rfl
  · obtain ⟨v, sl, st, rfl, ⟨p, rfl, hp⟩, k⟩ := h
    refine ⟨_, (pss_cons (ps_for PassesOwn.never rfl (pi_tup (pv 0)) (pg_name (i := 2) nd rfl (Or.inl rfl)) (pss_one (ps_if (pt_cmpR op_ne (pe_op op_and (pv 2) (pv 1)) pe_int (nomark _)) (pss_one (ps_ret (pe_op op_and (pv 2) (pv 1)))) pss_nil)))
      (pss_one (ps_ret pe_int))), ?_⟩
    refine ⟨_, rfl, p, rfl, ⟨_, SqT.of hp⟩, for_tup (K := K) (a := p) (xs := sl.map fun (m : Nat) => V.int (m : Int)) (fun i σ H' => H' = H ∧ (∃ t, σ = [some (.ref p), some (.int (st : Int)), t]) ∧ lies (sl.drop i) st = lies sl st) ⟨rfl, ⟨_, rfl⟩, rfl⟩ ?_ ?_ ?_⟩
    · rintro i σ H' _ ⟨rfl, _⟩
      exact SqT.of hp
    · rintro i x σ H' hx ⟨rfl, ⟨t, rfl⟩, hl⟩
      rw [List.getElem?_map] at hx
      obtain ⟨m, hm, rfl⟩ := Option.map_eq_some_iff.mp hx
      have hd : sl.drop i = m :: sl.drop (i + 1) := by
        obtain ⟨h1, h2⟩ := List.getElem?_eq_some_iff.mp hm
        rw [← h2]; exact List.drop_eq_getElem_cons h1
      rw [hd] at hl
      have an : Builtin.bitAnd (m : Int) (st : Int) = ((m &&& st : Nat) : Int) := PySem.W.os_band m st
      refine ⟨_, rfl, _, rfl, _, _, rfl, rfl, rfl, _, rfl, ite2 (fun z => ?_) (fun z => ?_)⟩
      · have z1 : ¬ (m &&& st) = 0 := fun e => by
          have z' : (!decide (V.int (Builtin.bitAnd (m : Int) (st : Int)) = V.int 0)) = true := z
          rw [an, e] at z'
          simp at z'
        refine ⟨_, rfl, _, rfl, _, _, rfl, rfl, ?_⟩
        show Q (.int (Builtin.bitAnd (m : Int) (st : Int))) H'
        rw [an]
        have e : lies (m :: sl.drop (i + 1)) st = (m &&& st) := by unfold lies; rw [if_neg z1]
        rw [← hl, e] at k
        exact k
      · have z1 : (m &&& st) = 0 := by
          refine Classical.byContradiction fun e => z ?_
          show (!decide (V.int (Builtin.bitAnd (m : Int) (st : Int)) = V.int 0)) = true
          rw [an]
          have : ¬ V.int ((m &&& st : Nat) : Int) = V.int 0 := fun q => by injection q with q; omega
          simp [this]
        refine ⟨rfl, ⟨_, rfl⟩, ?_⟩
        have e : lies (m :: sl.drop (i + 1)) st = lies (sl.drop (i + 1)) st := by
          conv => lhs; unfold lies
          rw [if_pos z1]
        rw [← e, hl]
    · rintro σ H' ⟨rfl, ⟨t, rfl⟩, hl⟩
      rw [List.length_map, List.drop_length] at hl
      rw [← hl] at k
      exact k
theorem pc_lies {K : PySem.W.Frag} {mg : Str → Option Value} (T : Tx K mg) {X : Cx} (hr : Room 1 X.A) (hg : Gl X "lies") {p pos : Pos} {e : Expr} {es : List Expr} {t : TA} (ha : PA X (e :: es) t) (hK : X.K = K := by rfl) (hM : X.mg = mg := by rfl) (he : starEach (e :: es) X.env = (false, eval e X.env) :: starEach es X.env := by rfl) (hpl : (backTo pos (starEach es X.env)).any (·.1) = false := by rfl) : PE X (.Call (.Name "lies" p) (e :: es) [] pos) (tCall (sp_lies K) [] E0 t) := by
  subst hK hM
  obtain ⟨fd, F⟩ := T.says.def_ 10 (d := d_lies) rfl
  exact pe_call (ok_lies T F) hr hg (T.glo 10 rfl) F.kp (F.bindsN fun _ _ _ _ _ _ us hl => match us, hl with | [_, _], _ => rfl) .nil pass0 ha (by decide) he hpl
end
end K75
-- K4
/-! sheets, piles: shares and tallies. -/
namespace K75
open PySem PySem.Spec PyProof.Rows L2
theorem take_snoc {α : Type} {l : List α} {i : Nat} {x : α} (h : l[i]? = some x) : l.take (i + 1) = l.take i ++ [x] := by
  rw [List.take_add_one, h]; rfl
section
variable {P : Program} {w : World} {K : PySem.W.Frag} {mg : Str → Option Value} {base : Heap}
/-! ### ballots_in -/
theorem total_sum (S : Sheet) : (S.map fun l => ((l.2 : Nat) : Int)).sum = (total S : Int) := by
  induction S with
  | nil => rfl
  | cons l r ih => rw [List.map_cons, List.sum_cons, ih]; simp [total]
def sp_ballots_in (K : PySem.W.Frag) : Sp := fun vs H Q _ => ∃ (v : V) (S : Sheet), vs = [v] ∧ rSheet K H v S ∧ S.length ≤ 100 ∧ ∀ H', Same H H' → Q (.int (total S : Nat)) H'
abbrev N_ballots_in : List Str := ["sheet", "slip", "number"]
theorem sc_ballots_in : FnScope N_ballots_in ["sheet"] (defScope s_ballots_in) := ⟨rfl, rfl, rfl, by decide +kernel, rfl, by decide +kernel, by decide +kernel⟩
theorem ok_ballots_in (T : Tx K mg) {fd : FuncData} (F : FnD K d_ballots_in fd) : FnOk P w K mg base CX0 1 (He.fAd K d_ballots_in.at_) fd ["sheet"] (sp_ballots_in K) := by
  have nd := sc_ballots_in.nd
  refine okx F sc_ballots_in (fun vs H Q E h => ?_) (fun cdv A outer s H vs Q E hr h => ?_)
  · obtain ⟨v, S, rfl, _⟩ := h
    rfl
  · obtain ⟨v, S, rfl, ⟨p, xs, rfl, fz, rel⟩, hS, k⟩ := h
    refine ⟨_, (pss_one (ps_ret (pe_callB (cr_sum rfl) (by rfl) (T.free 57 rfl) (by decide +kernel) (pa_cons (pe_lc (own := [("slip", 1), ("number", 2)]) (g := (gTup K 2 (gCons (gName 1) (gCons (gName 2) gNil)))) rfl nd (pi_list (pv 0)) (blkOk_by (N := N_ballots_in) (sc := defScope s_ballots_in) (by decide +kernel)) (fun _ _ _ _ _ => (pg_tup rfl (pgs_cons (pg_name (i := 1) nd rfl (Or.inl rfl)) (pgs_cons (pg_name (i := 2) nd rfl (Or.inl rfl)) pgs_nil)))) (fun _ _ _ _ _ => pts_nil) (fun _ _ _ _ _ => (pv 2))) pa_nil)))), ?_⟩
    refine ⟨_, rfl, p, rfl, ⟨_, fz.sq⟩, fun D hD => lc_list (K := K) (a := p) (xs := xs) (fun i H' => H' = upd H D (.lst (((S.map fun l => ((l.2 : Nat) : Int)).take i).map V.int))) rfl ?_ ?_ ?_⟩
    · rintro i H' _ rfl
      exact (fz.keep (Keep.new hD)).sq
    · rintro i x H' hx rfl
      obtain ⟨l, hl, t, y, z, rfl, ht, hy, rfl⟩ := paired_get rel hx
      refine ⟨t, _, rfl, sqt_keep (Keep.new hD) ht, rfl, _, _, rfl, _, _, rfl, rfl, rfl, ?_⟩
      refine ⟨_, rfl, _, upd_same, ?_, ?_⟩
      · rw [List.length_map, List.length_take, List.length_map]
        exact small1000 (by omega)
      · rw [upd_upd]
        have e : (S.map fun l => ((l.2 : Nat) : Int))[i]? = some ((l.2 : Nat) : Int) := by rw [List.getElem?_map, hl]; rfl
        rw [take_snoc e, List.map_append]
        rfl
    · rintro H' rfl
      refine ⟨D, S.map fun l => ((l.2 : Nat) : Int), rfl, ?_, ?_⟩
      · have e : xs.length = (S.map fun l => ((l.2 : Nat) : Int)).length := by rw [List.length_map]; exact paired_len rel
        rw [e, List.take_length]
        exact SqL.of upd_same
      · rw [total_sum]
        exact k _ (Same.new hD)
theorem pc_ballots_in {K : PySem.W.Frag} {mg : Str → Option Value} (T : Tx K mg) {X : Cx} (hr : Room 1 X.A) (hg : Gl X "ballots_in") {p pos : Pos} {e : Expr} {es : List Expr} {t : TA} (ha : PA X (e :: es) t) (hK : X.K = K := by rfl) (hM : X.mg = mg := by rfl) (he : starEach (e :: es) X.env = (false, eval e X.env) :: starEach es X.env := by rfl) (hpl : (backTo pos (starEach es X.env)).any (·.1) = false := by rfl) : PE X (.Call (.Name "ballots_in" p) (e :: es) [] pos) (tCall (sp_ballots_in K) [] E0 t) := by
  subst hK hM
  obtain ⟨fd, F⟩ := T.says.def_ 4 (d := d_ballots_in) rfl
  exact pe_call (ok_ballots_in T F) hr hg (T.glo 4 rfl) F.kp (F.bindsN fun _ _ _ _ _ _ us hl => match us, hl with | [_], _ => rfl) .nil pass0 ha (by decide) he hpl
end
end K75
set_option maxHeartbeats 1000000
-- KGood
/-! Small fractions all the way: what the walks ask. -/
set_option exponentiation.threshold 4000
namespace K75
structure Good (S : Sheet) (n D m : Nat) (F : Slip → Rat) (G : Slip → List Rat) : Prop where
  fine : Fine S n D m F G
  small : D ≤ 2 ^ 700
  len : S.length ≤ 100
  hn : n ≤ 4
  hm : m ≤ 8
  tot : total S ≤ 2 ^ 50
theorem total_append (S T : Sheet) : total (S ++ T) = total S + total T := by
  induction S with
  | nil => simp [total]
  | cons l r ih => simp [total, ih, Nat.add_assoc]
theorem total_take (S : Sheet) (i : Nat) : total (S.take i) ≤ total S := by
  have : total S = total (S.take i) + total (S.drop i) := by rw [← total_append, List.take_append_drop]
  omega
theorem le_total {S : Sheet} {l : Slip × Nat} (h : l ∈ S) : l.2 ≤ total S := by
  induction S with
  | nil => cases h
  | cons a r ih =>
    rcases List.mem_cons.mp h with rfl | h
    · simp [total]
    · have := ih h
      simp [total]; omega
theorem cast_le {n : Nat} (h : n ≤ 2 ^ 60) : (n : Rat) ≤ ((2 ^ 60 : Nat) : Rat) := Rat.natCast_le_natCast.mpr h
theorem one_le : (1 : Rat) ≤ ((2 ^ 60 : Nat) : Rat) := cast_le (n := 1) (by decide)
theorem sm_nat {n : Nat} (h : n ≤ 2 ^ 60) : Sm (n : Rat) := sm_of (D := 1) (By.nat 1 n) (by decide) (Nat.one_le_two_pow) Rat.natCast_nonneg (cast_le h)
theorem p900 {D k : Nat} (h : D ≤ 2 ^ 700) (hk : k ≤ 2 ^ 200) : D * k ≤ 2 ^ 900 := by
  have := Nat.mul_le_mul h hk
  rwa [← Nat.pow_add] at this
theorem sm_one_over {k : Nat} (h0 : 0 < k) (h : k ≤ 2 ^ 60) : Sm (1 / (k : Rat)) := by
  have kp : (0 : Rat) < (k : Rat) := Rat.natCast_pos.mpr h0
  have e : (1 : Rat) / (k : Rat) * (k : Rat) = 1 := Rat.div_mul_cancel (Rat.ne_of_gt kp)
  refine sm_of (D := k) ⟨1, e⟩ h0 (Nat.le_trans h (Nat.pow_le_pow_right (by decide) (by decide))) (rdiv_nonneg (by decide) kp) ?_
  refine Rat.le_trans ?_ one_le
  rw [rdiv_le kp, Rat.one_mul]
  exact Rat.natCast_le_natCast.mpr h0
section
variable {S : Sheet} {n D m : Nat} {F : Slip → Rat} {G : Slip → List Rat}
theorem Good.smF (h : Good S n D m F G) (s : Slip) : Sm (F s) :=
  sm_of (h.fine.fb s) h.fine.pos (Nat.le_trans h.small (Nat.pow_le_pow_right (by decide) (by decide))) (h.fine.f0 s) (Rat.le_trans (h.fine.f1 s) one_le)
theorem Good.smG (h : Good S n D m F G) (s : Slip) {x : Rat} (hx : x ∈ G s) : Sm x := by
  obtain ⟨a, b, c⟩ := h.fine.g s x hx
  exact sm_of c h.fine.pos (Nat.le_trans h.small (Nat.pow_le_pow_right (by decide) (by decide))) a (Rat.le_trans b (cast_le (Nat.le_trans h.hm (by decide))))
theorem Good.p12 (h : Good S n D m F G) : 0 < D * 12 ∧ D * 12 ≤ 2 ^ 900 := ⟨by have := h.fine.pos; omega, p900 h.small (by decide)⟩
theorem Good.smPart (h : Good S n D m F G) {st : Nat} (hs : st < 16) (x : Nat) (s : Slip) : Sm (F s * coef s st x) := by
  obtain ⟨a, b⟩ := h.fine.part0 st x s
  exact sm_of (h.fine.partBy hs x s) h.p12.1 h.p12.2 a (Rat.le_trans b one_le)
theorem sm_sum {E : Nat} {f : Slip → Rat} {c : Nat} (hE : 0 < E) (hE2 : E ≤ 2 ^ 900) (fb : ∀ s, By E (f s)) (f0 : ∀ s, 0 ≤ f s) (f1 : ∀ s, f s ≤ (c : Rat)) {S : Sheet} (ht : total S * c ≤ 2 ^ 60) (i : Nat) : Sm (wsum (S.take i) f) := by
  refine sm_of (by_wsum fb _) hE hE2 (wsum_nonneg f0) (Rat.le_trans (wsum_le_total f1 _) ?_)
  rw [← Rat.natCast_mul]
  exact cast_le (Nat.le_trans (Nat.mul_le_mul_right _ (total_take S i)) ht)
theorem sm_times {E : Nat} {x : Rat} {k c : Nat} (hE : 0 < E) (hE2 : E ≤ 2 ^ 900) (xb : By E x) (x0 : 0 ≤ x) (x1 : x ≤ (c : Rat)) (ht : k * c ≤ 2 ^ 60) : Sm ((k : Rat) * x) := by
  have k0 : (0 : Rat) ≤ (k : Rat) := Rat.natCast_nonneg
  refine sm_of (By.natmul k xb) hE hE2 (Rat.mul_nonneg k0 x0) ?_
  refine Rat.le_trans (Rat.mul_le_mul_of_nonneg_left x1 k0) ?_
  rw [← Rat.natCast_mul]
  exact cast_le ht
theorem Good.smTally (h : Good S n D m F G) {st : Nat} (hs : st < 16) (x i : Nat) : Sm (wsum (S.take i) fun s => F s * coef s st x) :=
  sm_sum (c := 1) h.p12.1 h.p12.2 (fun s => h.fine.partBy hs x s) (fun s => (h.fine.part0 st x s).1) (fun s => (h.fine.part0 st x s).2) (Nat.le_trans (by rw [Nat.mul_one]; exact h.tot) (by decide)) i
theorem Good.smTally' (h : Good S n D m F G) {st : Nat} (hs : st < 16) (x : Nat) : Sm (tally S F st x) := by
  have := h.smTally hs x S.length
  rwa [List.take_length] at this
theorem Good.smNum (h : Good S n D m F G) {l : Slip × Nat} (hl : l ∈ S) : Sm (l.2 : Rat) := sm_nat (Nat.le_trans (le_total hl) (Nat.le_trans h.tot (by decide)))
theorem Good.smTerm (h : Good S n D m F G) {st : Nat} (hs : st < 16) (x : Nat) {l : Slip × Nat} (hl : l ∈ S) : Sm ((l.2 : Rat) * (F l.1 * coef l.1 st x)) :=
  sm_times (c := 1) h.p12.1 h.p12.2 (h.fine.partBy hs x l.1) (h.fine.part0 st x l.1).1 (h.fine.part0 st x l.1).2 (by rw [Nat.mul_one]; exact Nat.le_trans (le_total hl) (Nat.le_trans h.tot (by decide)))
/-- what a seat asks: the part that stays, and each part times it -/
theorem Good.seatSm (h : Good S n D m F G) {st : Nat} (hs : st < 16) (x q : Nat) : Sm (stays q (tally S F st x)) ∧ ∀ s, Sm (part F st x (stays q (tally S F st x)) s) := by
  have t0 := h.fine.tally0 st x
  have t1 := h.fine.tally1 st x
  obtain ⟨a, ap, b1, b2, b3⟩ := stays_by (q := q) h.p12.1 t0 (h.fine.tallyBy hs x)
  have sb := stays_bounds (q := q) t0
  have al : a ≤ 2 ^ 900 := by
    have e : (a : Rat) ≤ ((D * 12 * (total S + 1) : Nat) : Rat) := by
      refine Rat.le_trans b3 ?_
      have dn : (0 : Rat) ≤ ((D * 12 : Nat) : Rat) := Rat.natCast_nonneg
      have := Rat.mul_le_mul_of_nonneg_right t1 dn
      rw [Rat.natCast_mul (D * 12), Rat.natCast_add]
      have e1 : ((1 : Nat) : Rat) = 1 := rfl
      rw [e1]
      grind
    have e2 := Rat.natCast_le_natCast.mp e
    refine Nat.le_trans e2 ?_
    rw [Nat.mul_assoc]
    refine p900 h.small ?_
    have := h.tot
    exact Nat.le_trans (Nat.mul_le_mul_left 12 (Nat.add_le_add_right this 1)) (by decide)
  refine ⟨sm_of b1 ap al sb.1 (Rat.le_trans sb.2 one_le), fun s => ?_⟩
  have p := h.fine.part0 st x s
  refine sm_of (b2 _ (h.fine.partBy hs x s)) ap al (Rat.mul_nonneg p.1 sb.1) ?_
  have := Rat.mul_le_mul_of_nonneg_left sb.2 p.1
  have := one_le
  unfold part
  grind
theorem two50 : 12 * (2 ^ 50 + 1) ≤ 2 ^ 200 := by decide
end
/-- the next state is good, too -/
theorem Good.seat {S : Sheet} {n D m : Nat} {F : Slip → Rat} {G : Slip → List Rat} (h : Good S n D m F G) {st : Nat} (hs : st < 16) (x q : Nat) {B : Nat} (hB : D ≤ B) (hB2 : B * (12 * B * (2 ^ 50 + 1)) ≤ 2 ^ 700) (hm : m + 1 ≤ 8) :
    ∃ D', D' ≤ B * (12 * B * (2 ^ 50 + 1)) ∧ Good S n D' (m + 1) (freeBy S q F st x) (keptBy S q F G st x) := by
  obtain ⟨D', f, l⟩ := h.fine.seat (x := x) (q := q) hs
  have l2 : D' ≤ B * (12 * B * (2 ^ 50 + 1)) := by
    refine Nat.le_trans l (Nat.mul_le_mul hB (Nat.mul_le_mul (Nat.mul_le_mul_left 12 hB) ?_))
    have := h.tot
    omega
  exact ⟨D', l2, f, Nat.le_trans l2 hB2, h.len, h.hn, hm, h.tot⟩
end K75
set_option maxHeartbeats 4000000
-- K5
/-! piles: begin, part_at, row_of, table. -/
namespace K75
open PySem PySem.Spec PyProof.Rows L2
/-- a list that grows at D -/
def Acc {α : Type} (K : PySem.W.Frag) (r : Rl α) (H : Hp) (D : Addr) (H' : Hp) (as : List α) : Prop := ∃ vs, Same H H' ∧ H' D = some (.lst vs) ∧ Paired (r K H') vs as
section
variable {α : Type} {K : PySem.W.Frag} {r : Rl α} {H H' H4 : Hp} {D : Addr} {as : List α} {a : α} {v : V}
theorem Acc.start (hD : H D = none) : Acc K r H D (upd H D (.lst [])) [] := ⟨[], Same.new hD, upd_same, .nil⟩
theorem Acc.same (A : Acc K r H D H' as) : Same H H' := let ⟨_, s, _⟩ := A; s
/-- one turn: the heap has grown to H4, v reads a there; it is put at the end -/
theorem Acc.push (hr : Stays r) (hD : H D = none) (A : Acc K r H D H' as) (S4 : Same H' H4) (rv : r K H4 v a) : ∃ vs, H4 D = some (.lst vs) ∧ vs.length = as.length ∧ Acc K r H D (upd H4 D (.lst (vs ++ [v]))) (as ++ [a]) := by
  obtain ⟨vs, s, e, p⟩ := A
  have e4 := S4 D _ e
  refine ⟨vs, e4, paired_len p, vs ++ [v], Same.at (s.trans S4) hD, upd_same, ?_⟩
  have k4 : Keep H4 (upd H4 D (.lst (vs ++ [v]))) := Keep.lst e4
  exact paired_snoc (paired_mono (fun _ _ z => hr.k ((Keep.of S4).trans k4) z) p) (hr.k k4 rv)
theorem Acc.freeze (hr : Stays r) (hD : H D = none) (A : Acc K r H D H' as) : ∃ vs, H' D = some (.lst vs) ∧ ∀ o, Same H (upd H' D (.frz o (.lst vs))) ∧ rLst r K (upd H' D (.frz o (.lst vs))) (.ref D) as := by
  obtain ⟨vs, s, e, p⟩ := A
  exact ⟨vs, e, fun o => ⟨Same.at s hD, D, vs, rfl, FzL.mk, paired_mono (fun _ _ z => hr.k (Keep.lst e) z) p⟩⟩
end
theorem rat_tup {K : PySem.W.Frag} {H : Hp} {p : Addr} {n : Nat} (h0 : 0 < n) : rRat K (upd H p (.tup [.int 1, .int (n : Int)])) (.ref p) (1 / (n : Rat)) := by
  have hp : (0 : Int) < (n : Int) := by omega
  obtain ⟨e1, e2⟩ := rat_parts (i := 1) hp
  have e3 : mkRat 1 ((n : Int)).toNat = 1 / (n : Rat) := by
    rw [Int.toNat_natCast, Rat.mkRat_eq_div]; rfl
  have e4 : Int.gcd 1 (n : Int) = 1 := by simp [Int.gcd]
  rw [e3, e4] at e1 e2
  refine ⟨p, rfl, ?_⟩
  rw [e1, e2]
  simpa using sqt_new
theorem rat_nat {K : PySem.W.Frag} {H : Hp} {p : Addr} {n : Nat} : rRat K (upd H p (.tup [.int (n : Int), .int 1])) (.ref p) (n : Rat) := ⟨p, rfl, sqt_new⟩
theorem lies_lt {s : Slip} {st n : Nat} (h : st < 2 ^ n) : lies s st < 2 ^ n := by
  refine Nat.lt_pow_two_of_testBit _ fun i hi => ?_
  cases c : (lies s st).testBit i with
  | false => rfl
  | true =>
    have := lies_sub c
    rw [Nat.testBit_lt_two_pow (Nat.lt_of_lt_of_le h (Nat.pow_le_pow_right (by decide) hi))] at this
    cases this
theorem size_lt {m : Nat} (h : m < 2 ^ 60) : size m ≤ 60 := by
  have e := upTo_all h
  unfold size
  rw [← e]
  unfold upTo
  exact Nat.le_trans (List.length_filter_le _ _) (by rw [List.length_range]; exact Nat.le_refl _)
section
variable {P : Program} {w : World} {K : PySem.W.Frag} {mg : Str → Option Value} {base : Heap}
/-! ### begin -/
def stOf (S : Sheet) (F : Slip → Rat) (G : Slip → List Rat) : List (Rat × List Rat) := S.map fun l => (F l.1, G l.1)
def sp_begin (K : PySem.W.Frag) : Sp := fun vs H Q _ => ∃ (v : V) (S : Sheet) (n : Nat), vs = [v, .int (n : Int)] ∧ rSheet K H v S ∧ S.length ≤ 100 ∧ n ≤ 12 ∧ Ret K rState (stOf S (begin n).F (begin n).G) H Q
theorem paired_rep {F : V → Rat → Prop} {v : V} {q : Rat} (h : F v q) : ∀ n : Nat, Paired F (List.replicate n [v]).flatten (List.replicate n q)
  | 0 => .nil
  | n + 1 => by
    rw [List.replicate_succ, List.replicate_succ]
    exact .cons h (paired_rep h n)
abbrev N_begin : List Str := ["sheet", "hands", "line"]
theorem sc_begin : FnScope N_begin ["sheet", "hands"] (defScope s_begin) := ⟨rfl, rfl, rfl, by decide +kernel, rfl, by decide +kernel, by decide +kernel⟩
theorem ok_begin (T : Tx K mg) {fd : FuncData} (F : FnD K d_begin fd) : FnOk P w K mg base CX0 1 (He.fAd K d_begin.at_) fd ["sheet", "hands"] (sp_begin K) := by
  have nd := sc_begin.nd
  refine okx F sc_begin (fun vs H Q E h => ?_) (fun cdv A outer s H vs Q E hr h => ?_)
  · obtain ⟨v, S, n, rfl, _⟩ := h
    rfl
  · obtain ⟨v, S, n, rfl, ⟨p, xs, rfl, fz, rel⟩, hS, hn, k⟩ := h
    refine ⟨_, (pss_one (ps_ret (pe_fz (pe_lc (own := [("line", 2)]) (g := (gName 2)) rfl nd (pi_list (pv 0)) (blkOk_by (N := N_begin) (sc := defScope s_begin) (by decide +kernel)) (fun _ _ _ _ _ => (pg_name (i := 2) nd rfl (Or.inl rfl))) (fun _ _ _ _ _ => pts_nil) (fun _ _ _ _ _ => (pe_tup (pa_cons (g_ONE T) (pa_cons (pe_fz (pe_op op_rep (pe_lst (pa_cons (g_NOUGHT T) pa_nil)) (pv 1))) pa_nil)))))))), ?_⟩
    refine ⟨_, rfl, p, rfl, ⟨_, fz.sq⟩, fun D hD => lc_list (K := K) (a := p) (xs := xs) (fun i H' => Acc K (rPair rRat rRats) H D H' ((stOf S (begin n).F (begin n).G).take i)) (Acc.start hD) ?_ ?_ ?_⟩
    · rintro i H' _ A'
      exact (fz.keep (Keep.of A'.same)).sq
    · rintro i x H' hx A'
      obtain ⟨l, hl, _⟩ := paired_get rel hx
      refine ⟨rfl, ?_⟩
      refine ⟨(by show 1 ≤ sizeLine; decide), fun t ht => ⟨_, rfl, t, _, _, rfl, rfl, upd_same, by omega, by omega, (by show 1 * (n : Int).toNat ≤ sizeLine; rw [Int.toNat_natCast]; exact Nat.le_trans (by omega) (show 1000 ≤ sizeLine by decide)), fun q hq => ?_⟩⟩
      refine ⟨q, _, rfl, upd_same, fun o => ⟨(by show 2 ≤ sizeLine; decide), fun z hz => ?_⟩⟩
      have nq : H' q = none := (Same.new ht).free hq
      have S4 : Same H' (upd (upd (upd (upd H' t (.lst [.ref (He.ga K "NOUGHT")])) q (.lst (List.replicate (n : Int).toNat [V.ref (He.ga K "NOUGHT")]).flatten)) q (.frz o (.lst (List.replicate (n : Int).toNat [V.ref (He.ga K "NOUGHT")]).flatten))) z (.tup [.ref (He.ga K "ONE"), .ref q])) :=
        (Same.at ((Same.new ht).trans (Same.new hq)) nq).trans (Same.new hz)
      have e : (stOf S (begin n).F (begin n).G)[i]? = some (1, List.replicate n 0) := by unfold stOf; rw [List.getElem?_map, hl]; rfl
      obtain ⟨vs, h1, h2, h3⟩ := Acc.push (rPair_stays rRat_stays rRats_stays) hD A' S4 (v := .ref z) (a := ((1 : Rat), List.replicate n (0 : Rat))) ⟨z, _, _, rfl, sqt_new, rat_one T _, q, _, rfl, FzL.keep (Keep.new hz) FzL.mk, by
        rw [Int.toNat_natCast]
        exact paired_rep (rat_nought T _) n⟩
      refine ⟨vs, h1, ?_, ?_⟩
      · rw [h2, List.length_take]
        have : (stOf S (begin n).F (begin n).G).length = S.length := by unfold stOf; rw [List.length_map]
        exact small1000 (by omega)
      · rw [take_snoc e]
        exact h3
    · intro H' A'
      have e : xs.length = (stOf S (begin n).F (begin n).G).length := by unfold stOf; rw [List.length_map]; exact paired_len rel
      rw [e, List.take_length] at A'
      obtain ⟨vs, h1, h2⟩ := A'.freeze (rPair_stays rRat_stays rRats_stays) hD
      exact ⟨D, vs, rfl, h1, fun o => k _ _ (h2 o).1 (h2 o).2⟩
theorem pc_begin {K : PySem.W.Frag} {mg : Str → Option Value} (T : Tx K mg) {X : Cx} (hr : Room 1 X.A) (hg : Gl X "begin") {p pos : Pos} {e : Expr} {es : List Expr} {t : TA} (ha : PA X (e :: es) t) (hK : X.K = K := by rfl) (hM : X.mg = mg := by rfl) (he : starEach (e :: es) X.env = (false, eval e X.env) :: starEach es X.env := by rfl) (hpl : (backTo pos (starEach es X.env)).any (·.1) = false := by rfl) : PE X (.Call (.Name "begin" p) (e :: es) [] pos) (tCall (sp_begin K) [] E0 t) := by
  subst hK hM
  obtain ⟨fd, F⟩ := T.says.def_ 19 (d := d_begin) rfl
  exact pe_call (ok_begin T F) hr hg (T.glo 19 rfl) F.kp (F.bindsN fun _ _ _ _ _ _ us hl => match us, hl with | [_, _], _ => rfl) .nil pass0 ha (by decide) he hpl
/-! ### part_at -/
def sp_part_at (K : PySem.W.Frag) : Sp := fun vs H Q _ => ∃ (x y : V) (s : Slip) (f : Rat) (st h : Nat), vs = [x, y, .int (st : Int), .int (h : Int)] ∧ rSlip K H x s ∧ rRat K H y f ∧ Sm f ∧ st < 2 ^ 60 ∧ Ret K rRat (f * coef s st h) H Q
abbrev N_part_at : List Str := ["slip", "free", "standing", "hand", "where"]
theorem sc_part_at : FnScope N_part_at ["slip", "free", "standing", "hand"] (defScope s_part_at) := ⟨rfl, rfl, rfl, by decide +kernel, rfl, by decide +kernel, by decide +kernel⟩
theorem ok_part_at (T : Tx K mg) {fd : FuncData} (F : FnD K d_part_at fd) : FnOk P w K mg base CX0 4 (He.fAd K d_part_at.at_) fd ["slip", "free", "standing", "hand"] (sp_part_at K) := by
  have nd := sc_part_at.nd
  refine okx F sc_part_at (fun vs H Q E h => ?_) (fun cdv A outer s H vs Q E hr h => ?_)
  · obtain ⟨x, y, s, f, st, h, rfl, _⟩ := h
    rfl
  · obtain ⟨x, y, sl, f, st, h, rfl, rs, rf, sf, hst, k⟩ := h
    refine ⟨_, (pss_cons (ps_set (i := 4) nd rfl (Or.inl rfl) (pc_lies T (hr.mono (by decide)) (by rfl) (pa_cons (pv 0) (pa_cons (pv 2) pa_nil))))
      (pss_cons (ps_if (pt_not (pt_val (pc_holds T (hr.mono (by decide)) (by rfl) (pa_cons (pv 4) (pa_cons (pv 3) pa_nil))))) (pss_one (ps_ret (g_NOUGHT T))) pss_nil)
      (pss_one (ps_ret (pc_times T (hr.mono (by decide)) (by rfl) (pa_cons (pv 1) (pa_cons (pe_tup (pa_cons pe_int (pa_cons (pc_size T (hr.mono (by decide)) (by rfl) (pa_cons (pv 4) pa_nil)) pa_nil))) pa_nil))))))), ?_⟩
    have hw : lies sl st < 2 ^ 60 := lies_lt hst
    refine ⟨_, rfl, _, rfl, x, sl, st, rfl, rs, ?_⟩
    refine ⟨_, rfl, _, rfl, _, h, rfl, _, rfl, ite2 (fun hc => ?_) (fun hc => ?_)⟩
    · have hc' : ¬ (lies sl st).testBit h = true := by simpa using hc
      have e : f * coef sl st h = 0 := by unfold coef; rw [if_neg hc', Rat.mul_zero]
      rw [e] at k
      exact k H _ (Same.refl H) (rat_nought T H)
    · have hc' : (lies sl st).testBit h = true := by simpa using hc
      have e : coef sl st h = 1 / (size (lies sl st) : Rat) := by unfold coef; rw [if_pos hc']
      have hp := size_pos hc'
      refine ⟨_, rfl, _, rfl, _, rfl, hw, fun H' sm => ⟨(by show 2 ≤ sizeLine; decide), fun p hp' => ?_⟩⟩
      refine ⟨y, .ref p, f, 1 / (size (lies sl st) : Rat), rfl, rRat_stays.k (Keep.of (sm.trans (Same.new hp'))) rf, rat_tup hp, sf, sm_one_over hp (Nat.le_trans (size_lt hw) (by decide)), ?_⟩
      rw [← e]
      exact fun H2 v sm2 r => k H2 v ((sm.trans (Same.new hp')).trans sm2) r
theorem pc_part_at {K : PySem.W.Frag} {mg : Str → Option Value} (T : Tx K mg) {X : Cx} (hr : Room 4 X.A) (hg : Gl X "part_at") {p pos : Pos} {e : Expr} {es : List Expr} {t : TA} (ha : PA X (e :: es) t) (hK : X.K = K := by rfl) (hM : X.mg = mg := by rfl) (he : starEach (e :: es) X.env = (false, eval e X.env) :: starEach es X.env := by rfl) (hpl : (backTo pos (starEach es X.env)).any (·.1) = false := by rfl) : PE X (.Call (.Name "part_at" p) (e :: es) [] pos) (tCall (sp_part_at K) [] E0 t) := by
  subst hK hM
  obtain ⟨fd, F⟩ := T.says.def_ 20 (d := d_part_at) rfl
  exact pe_call (ok_part_at T F) hr hg (T.glo 20 rfl) F.kp (F.bindsN fun _ _ _ _ _ _ us hl => match us, hl with | [_, _, _, _], _ => rfl) .nil pass0 ha (by decide) he hpl
end
end K75
-- K6
/-! piles: row_of, table. -/
namespace K75
open PySem PySem.Spec PyProof.Rows L2
/-- a list by its places -/
def Pw (rs : List Rat) (n : Nat) (f : Nat → Rat) : Prop := rs.length = n ∧ ∀ j, j < n → rs[j]? = some (f j)
theorem Pw.set {rs : List Rat} {n : Nat} {f : Nat → Rat} (p : Pw rs n f) {h : Nat} (hh : h < n) (x : Rat) : Pw (rs.set h x) n (fun j => if j = h then x else f j) := by
  refine ⟨by rw [List.length_set]; exact p.1, fun j hj => ?_⟩
  by_cases e : j = h
  · subst e
    rw [List.getElem?_set_self (by rw [p.1]; exact hj)]
    simp
  · rw [List.getElem?_set_ne (fun z => e z.symm), p.2 j hj]
    simp [e]
theorem Pw.congr {rs : List Rat} {n : Nat} {f g : Nat → Rat} (p : Pw rs n f) (h : ∀ j, j < n → f j = g j) : Pw rs n g := ⟨p.1, fun j hj => by rw [p.2 j hj, h j hj]⟩
theorem Pw.eq {rs : List Rat} {n : Nat} {f : Nat → Rat} (p : Pw rs n f) : rs = (List.range n).map f := by
  refine List.ext_getElem? fun j => ?_
  by_cases hj : j < n
  · rw [p.2 j hj, List.getElem?_map, List.getElem?_range hj]; rfl
  · rw [List.getElem?_eq_none (by rw [p.1]; omega), List.getElem?_eq_none (by simp; omega)]
theorem Pw.of (rs : List Rat) : Pw rs rs.length (fun j => rs.getD j 0) := ⟨rfl, fun j hj => by show rs[j]? = some (rs.getD j 0); rw [List.getD_eq_getElem?_getD, List.getElem?_eq_getElem hj]; rfl⟩
theorem Pw.rep (n : Nat) (x : Rat) : Pw (List.replicate n x) n (fun _ => x) := ⟨List.length_replicate, fun j hj => by rw [List.getElem?_replicate, if_pos hj]⟩
theorem Pw.get {rs : List Rat} {n : Nat} {f : Nat → Rat} (p : Pw rs n f) {K : PySem.W.Frag} {H : Hp} {vs : List V} (q : Paired (rRat K H) vs rs) {j : Nat} (hj : j < n) : ∃ v, vs[j]? = some v ∧ rRat K H v (f j) := paired_at q (p.2 j hj)
/-- a tracked list of fractions, one of them put -/
theorem put_at {K : PySem.W.Frag} {H H4 : Hp} {l : Addr} {vs : List V} {rs : List Rat} (e : H l = some (.lst vs)) (q : Paired (rRat K H) vs rs) (S4 : Same H H4) {v : V} {x : Rat} (rv : rRat K H4 v x) (h : Nat) :
    H4 l = some (.lst vs) ∧ Paired (rRat K (upd H4 l (.lst (vs.set h v)))) (vs.set h v) (rs.set h x) := by
  have e4 := S4 l _ e
  have k4 : Keep H4 (upd H4 l (.lst (vs.set h v))) := Keep.lst e4
  exact ⟨e4, paired_set h (paired_mono (fun _ _ z => rRat_stays.k ((Keep.of S4).trans k4) z) q) (rRat_stays.k k4 rv)⟩
theorem ixN_nat {n j : Nat} (h : j < n) : ixN n (j : Int) = some j := by
  unfold ixN
  rw [if_pos (by omega), if_pos (by omega)]
  simp
def rowOf (s : Slip) (f : Rat) (g : List Rat) (st : Nat) : List Rat := ((List.range g.length).map fun h => g.getD h 0 + f * coef s st h) ++ [if lies s st = 0 then f else 0]
theorem coef_zero {s : Slip} {st h : Nat} (e : lies s st = 0) : coef s st h = 0 := by
  unfold coef
  rw [e, if_neg (by simp)]
theorem paired_append {α β : Type} {F : α → β → Prop} : ∀ {l l' : List α} {m m' : List β}, Paired F l m → Paired F l' m' → Paired F (l ++ l') (m ++ m')
  | _, _, _, _, .nil, h => h
  | _, _, _, _, .cons r t, h => .cons r (paired_append t h)
section
variable {P : Program} {w : World} {K : PySem.W.Frag} {mg : Str → Option Value} {base : Heap}
def sp_row_of (K : PySem.W.Frag) : Sp := fun vs H Q _ => ∃ (x y z : V) (s : Slip) (f : Rat) (g : List Rat) (st : Nat), vs = [x, y, z, .int (st : Int)] ∧ rSlip K H x s ∧ rRat K H y f ∧ rRats K H z g ∧ st < 2 ^ 60 ∧ (∀ h ∈ members st, h < g.length) ∧ g.length ≤ 60 ∧
  Sm f ∧ (∀ x ∈ g, Sm x) ∧ (∀ h, Sm (f * coef s st h)) ∧ Ret K rRats (rowOf s f g st) H Q
abbrev N_row_of : List Str := ["slip", "free", "kept", "standing", "where", "row", "part", "hand"]
theorem sc_row_of : FnScope N_row_of ["slip", "free", "kept", "standing"] (defScope s_row_of) := ⟨rfl, rfl, rfl, by decide +kernel, rfl, by decide +kernel, by decide +kernel⟩
theorem ok_row_of (T : Tx K mg) {fd : FuncData} (F : FnD K d_row_of fd) : FnOk P w K mg base CX0 4 (He.fAd K d_row_of.at_) fd ["slip", "free", "kept", "standing"] (sp_row_of K) := by
  have nd := sc_row_of.nd
  refine okx F sc_row_of (fun vs H Q E h => ?_) (fun cdv A outer s H vs Q E hr h => ?_)
  · obtain ⟨x, y, z, s, f, g, st, rfl, _⟩ := h
    rfl
  · obtain ⟨x, y, z, sl, f, g, st, rfl, rs, rf, ⟨pk, ks, rfl, fzk, relk⟩, hst, hb, hg, sf, sg, sp, k⟩ := h
    refine ⟨_, (pss_cons (ps_set (i := 4) nd rfl (Or.inl rfl) (pc_lies T (hr.mono (by decide)) (by rfl) (pa_cons (pv 0) (pa_cons (pv 3) pa_nil))))
      (pss_cons (ps_set (i := 5) nd rfl (Or.inl rfl) (pe_callTy call_list_of (by rfl) (T.free 60 rfl) (by decide +kernel) (pa_cons (pv 2) pa_nil)))
      (pss_cons (ps_if (pt_cmpR op_eq (pv 4) pe_int (nomark _)) (pss_one (ps_ret (pe_fz (pe_op op_catL (pv 5) (pe_lst (pa_cons (pv 1) pa_nil)))))) pss_nil)
      (pss_cons (ps_set (i := 6) nd rfl (Or.inl rfl) (pc_times T (hr.mono (by decide)) (by rfl) (pa_cons (pv 1) (pa_cons (pe_tup (pa_cons pe_int (pa_cons (pc_size T (hr.mono (by decide)) (by rfl) (pa_cons (pv 4) pa_nil)) pa_nil))) pa_nil))))
      (pss_cons (ps_for PassesOwn.never rfl (pi_list (pc_members T (hr.mono (by decide)) (by rfl) (pa_cons (pv 4) pa_nil))) (pg_name (i := 7) nd rfl (Or.inl rfl)) (pss_one (ps_asg (pc_plus T (hr.mono (by decide)) (by rfl) (pa_cons (pe_ix ix_list (pv 5) (pv 7) (fun _ _ => rfl)) (pa_cons (pv 6) pa_nil))) (pg_sub (pv 5) (pv 7) set_list))))
      (pss_one (ps_ret (pe_fz (pe_op op_catL (pv 5) (pe_lst (pa_cons (g_NOUGHT T) pa_nil))))))))))), ?_⟩
    have hw : lies sl st < 2 ^ 60 := lies_lt hst
    refine ⟨_, rfl, _, rfl, x, sl, st, rfl, rs, ?_⟩
    refine ⟨_, rfl, pk, ks, rfl, .inl fzk.sq, fun l hl => ?_⟩
    have Sl : Same H (upd H l (.lst ks)) := Same.new hl
    have lk : ks.length = g.length := paired_len relk
    refine ⟨_, rfl, rfl, _, rfl, ite2 (fun hc => ?_) (fun hc => ?_)⟩
    · have h0 : lies sl st = 0 := by
        have : V.int ((lies sl st : Nat) : Int) = V.int 0 := by simpa using hc
        injection this with e
        omega
      refine ⟨_, rfl, _, rfl, (by show 1 ≤ sizeLine; decide), fun t ht => ?_⟩
      refine ⟨l, t, ks, _, rfl, rfl, .inl ((Same.new ht) _ _ upd_same), .inl upd_same, (by rw [List.length_singleton, lk]; exact Nat.le_of_lt (small1000 (by omega))), fun q hq => ?_⟩
      refine ⟨q, _, rfl, upd_same, fun o => ?_⟩
      have S2 : Same H (upd (upd (upd (upd H l (.lst ks)) t (.lst [y])) q (.lst (ks ++ [y]))) q (.frz o (.lst (ks ++ [y])))) := by
        have hq0 : H q = none := Same.free (Sl.trans (Same.new ht)) hq
        exact Same.at ((Sl.trans (Same.new ht)).trans (Same.new hq)) hq0
      refine k _ _ S2 ⟨q, _, rfl, FzL.mk, ?_⟩
      unfold rowOf
      rw [if_pos h0]
      have e : (List.range g.length).map (fun h => g.getD h 0 + f * coef sl st h) = g := by
        rw [← ((Pw.of g).congr (g := fun h => g.getD h 0 + f * coef sl st h) (fun j _ => by rw [coef_zero h0, Rat.mul_zero, Rat.add_zero])).eq]
      rw [e]
      exact paired_append (paired_mono (fun _ _ z => rRat_stays.k (Keep.of S2) z) relk) (.cons (rRat_stays.k (Keep.of S2) rf) .nil)
    · have h0 : ¬ lies sl st = 0 := fun z => hc (by rw [z]; simp)
      have szp : 0 < size (lies sl st) := by
        obtain ⟨i, hi⟩ := Nat.exists_testBit_of_ne_zero h0
        exact size_pos hi
      refine ⟨_, rfl, _, rfl, _, rfl, hw, fun H1 sm1 => ⟨(by show 2 ≤ sizeLine; decide), fun p hp => ?_⟩⟩
      have sm2 := sm1.trans (Same.new hp (o := .tup [.int 1, .int (size (lies sl st) : Nat)]))
      refine ⟨y, .ref p, f, 1 / (size (lies sl st) : Rat), rfl, rRat_stays.k (Keep.of (Sl.trans sm2)) rf, rat_tup szp, sf, sm_one_over szp (Nat.le_trans (size_lt hw) (by decide)), fun H2 pt sm3 rp => ?_⟩
      have S2 : Same (upd H l (.lst ks)) H2 := sm2.trans sm3
      refine ⟨_, rfl, lies sl st, rfl, hw, fun H3 pm sm4 hpm fzm => ⟨pm, rfl, ⟨_, fzm.sq⟩, ?_⟩⟩
      have S3 : Same (upd H l (.lst ks)) H3 := S2.trans sm4
      refine for_list (K := K) (a := pm) (xs := nats (members (lies sl st)))
        (fun i σ H' => (∃ t, σ = [some x, some y, some (.ref pk), some (.int (st : Int)), some (.int (lies sl st : Nat)), some (.ref l), some pt, t]) ∧ Same H H' ∧ FzL H' pm (nats (members (lies sl st))) ∧ rRat K H' pt (f * (1 / (size (lies sl st) : Rat))) ∧
          ∃ vs rs, H' l = some (.lst vs) ∧ Paired (rRat K H') vs rs ∧ Pw rs g.length (fun j => if j ∈ (members (lies sl st)).take i then g.getD j 0 + f * (1 / (size (lies sl st) : Rat)) else g.getD j 0)) ?_ ?_ ?_ ?_
      · refine ⟨⟨_, rfl⟩, Sl.trans S3, fzm, rRat_stays.k (Keep.of sm4) rp, ks, g, S3 _ _ upd_same, paired_mono (fun _ _ z => rRat_stays.k (Keep.of (Sl.trans S3)) z) relk, ?_⟩
        exact (Pw.of g).congr fun j _ => by simp
      · rintro i σ H' _ ⟨_, _, fz', _⟩
        exact fz'.sq
      · rintro i v σ H' hv ⟨⟨t, rfl⟩, S', fz', rp', vs, rs', hvs, prs, pw⟩
        rw [List.getElem?_map] at hv
        obtain ⟨h, hh, rfl⟩ := Option.map_eq_some_iff.mp hv
        have hmem : h ∈ members (lies sl st) := List.mem_of_getElem? hh
        have hlt : h < g.length := hb h (mem_members.mpr (lies_sub (mem_members.mp hmem)))
        have nin : h ∉ (members (lies sl st)).take i := fun z => by
          obtain ⟨j, hj, e⟩ := List.mem_iff_getElem.mp z
          rw [List.getElem_take] at e
          obtain ⟨h1, e1⟩ := List.getElem?_eq_some_iff.mp hh
          have := (List.getElem_inj (members_nodup (lies sl st))).mp (e.trans e1.symm)
          rw [List.length_take] at hj
          omega
        obtain ⟨u, hu, ru⟩ := pw.get prs hlt
        simp only [nin, if_false] at ru
        have lvs : vs.length = g.length := by rw [paired_len prs]; exact pw.1
        have hp1 : coef sl st h = 1 / (size (lies sl st) : Rat) := by unfold coef; rw [if_pos (mem_members.mp hmem)]
        refine ⟨_, rfl, _, rfl, l, _, _, _, rfl, rfl, SqL.of hvs, atI_nat hu, _, rfl, ?_⟩
        refine ⟨u, pt, g.getD h 0, f * (1 / (size (lies sl st) : Rat)), rfl, ru, rp', ?_, by rw [← hp1]; exact sp h, fun H4 nv sm5 rn => ?_⟩
        · rw [List.getD_eq_getElem?_getD, List.getElem?_eq_getElem hlt]
          exact sg _ (List.getElem_mem hlt)
        obtain ⟨e4, p4⟩ := put_at hvs prs sm5 rn h
        refine ⟨_, rfl, _, rfl, l, vs, h, h, rfl, rfl, e4, ixN_nat (by omega), ?_⟩
        have kl : Keep H4 (upd H4 l (.lst (vs.set h nv))) := Keep.lst e4
        refine ⟨⟨_, rfl⟩, Same.at (S'.trans sm5) hl, (fz'.keep ((Keep.of sm5).trans kl)), rRat_stays.k ((Keep.of sm5).trans kl) rp', _, _, upd_same, p4, ?_⟩
        refine (pw.set hlt _).congr fun j _ => ?_
        rw [take_snoc hh]
        by_cases e : j = h
        · subst e; simp
        · simp [e]
      · rintro σ H' ⟨⟨t, rfl⟩, S', fz', rp', vs, rs', hvs, prs, pw⟩
        refine ⟨_, rfl, (by show 1 ≤ sizeLine; decide), fun t' ht' => ?_⟩
        have lvs : vs.length = g.length := by rw [paired_len prs]; exact pw.1
        refine ⟨l, t', vs, _, rfl, rfl, .inl ((Same.new ht') _ _ hvs), .inl upd_same, (by rw [List.length_singleton, lvs]; exact Nat.le_of_lt (small1000 (by omega))), fun q hq => ?_⟩
        refine ⟨q, _, rfl, upd_same, fun o => ?_⟩
        have hq0 : H' q = none := (Same.new ht').free hq
        have S5 : Same H' (upd (upd (upd H' t' (.lst [.ref (He.ga K "NOUGHT")])) q (.lst (vs ++ [.ref (He.ga K "NOUGHT")]))) q (.frz o (.lst (vs ++ [.ref (He.ga K "NOUGHT")])))) :=
          Same.at ((Same.new ht').trans (Same.new hq)) hq0
        refine k _ _ (S'.trans S5) ⟨q, _, rfl, FzL.mk, ?_⟩
        unfold rowOf
        rw [if_neg h0]
        have e : (List.range g.length).map (fun h => g.getD h 0 + f * coef sl st h) = rs' := by
          rw [(pw.congr (g := fun h => g.getD h 0 + f * coef sl st h) fun j _ => ?_).eq]
          rw [List.length_map, List.take_length]
          unfold coef
          by_cases hj : (lies sl st).testBit j = true
          · rw [if_pos (mem_members.mpr hj), if_pos hj]
          · rw [if_neg (fun z => hj (mem_members.mp z)), if_neg hj, Rat.mul_zero, Rat.add_zero]
        rw [e]
        exact paired_append (paired_mono (fun _ _ z => rRat_stays.k (Keep.of S5) z) prs) (.cons (rat_nought T _) .nil)
theorem pc_row_of {K : PySem.W.Frag} {mg : Str → Option Value} (T : Tx K mg) {X : Cx} (hr : Room 4 X.A) (hg : Gl X "row_of") {p pos : Pos} {e : Expr} {es : List Expr} {t : TA} (ha : PA X (e :: es) t) (hK : X.K = K := by rfl) (hM : X.mg = mg := by rfl) (he : starEach (e :: es) X.env = (false, eval e X.env) :: starEach es X.env := by rfl) (hpl : (backTo pos (starEach es X.env)).any (·.1) = false := by rfl) : PE X (.Call (.Name "row_of" p) (e :: es) [] pos) (tCall (sp_row_of K) [] E0 t) := by
  subst hK hM
  obtain ⟨fd, F⟩ := T.says.def_ 21 (d := d_row_of) rfl
  exact pe_call (ok_row_of T F) hr hg (T.glo 21 rfl) F.kp (F.bindsN fun _ _ _ _ _ _ us hl => match us, hl with | [_, _, _, _], _ => rfl) .nil pass0 ha (by decide) he hpl
end
end K75
-- K7
/-! piles: table, tallies. -/
namespace K75
open PySem PySem.Spec PyProof.Rows L2
def dRat (q : Rat) : PyData := .tuple [.int q.num, .int (q.den : Int)]
theorem dRat_shaped (q : Rat) : SeqAt.shaped (dRat q) = true := by
  simp [dRat, SeqAt.shaped, PyData.canLay0, PyData.canLayAll0, PyData.depth, PyData.depthAll]
theorem dRat_eqv (a b : Rat) : PyData.eqv (dRat a) (dRat b) = decide (a = b) := by
  have e : PyData.eqv (dRat a) (dRat b) = (a.num == b.num && ((a.den : Int) == (b.den : Int))) := by
    simp [dRat, PyData.eqv, PyData.eqvAll]
  rw [e]
  by_cases h : a = b
  · subst h; simp
  · rw [decide_eq_false h]
    rw [Bool.and_eq_false_iff]
    by_cases h1 : a.num = b.num
    · right
      simp only [beq_eq_false_iff_ne]
      intro z
      exact h (Rat.ext h1 (by omega))
    · left
      simpa using h1
theorem rat_dp {K : PySem.W.Frag} {H : Hp} {v : V} {q : Rat} (h : rRat K H v q) : Dp K H v (dRat q) := by
  obtain ⟨p, rfl, hp⟩ := h
  exact .tup hp (.cons (.int _) (.cons (.int _) .nil))
section
variable {P : Program} {w : World} {K : PySem.W.Frag} {mg : Str → Option Value} {base : Heap}
theorem sheet_at {H : Hp} {S : Sheet} {xs : List V} (rel : Paired (rPair rSlip rNat K H) xs S) {i : Nat} (hi : i < S.length) : ∃ l t y, S[i]? = some l ∧ xs[i]? = some (.ref t) ∧ SqT K H t [y, .int (l.2 : Int)] ∧ rSlip K H y l.1 := by
  have hs : S[i]? = some S[i] := List.getElem?_eq_getElem hi
  obtain ⟨x, hx, t, y, z, rfl, ht, hy, rfl⟩ := paired_at rel hs
  exact ⟨S[i], t, y, hs, hx, ht, hy⟩
theorem state_at {H : Hp} {S : Sheet} {F : Slip → Rat} {G : Slip → List Rat} {xs : List V} (rel : Paired (rPair rRat rRats K H) xs (stOf S F G)) {i : Nat} {l : Slip × Nat} (hl : S[i]? = some l) :
    ∃ t y z, xs[i]? = some (.ref t) ∧ SqT K H t [y, z] ∧ rRat K H y (F l.1) ∧ rRats K H z (G l.1) := by
  have hs : (stOf S F G)[i]? = some (F l.1, G l.1) := by unfold stOf; rw [List.getElem?_map, hl]; rfl
  obtain ⟨x, hx, t, y, z, rfl, ht, hy, hz⟩ := paired_at rel hs
  exact ⟨t, y, z, hx, ht, hy, hz⟩
def sp_table (K : PySem.W.Frag) : Sp := fun vs H Q _ => ∃ (x y : V) (S : Sheet) (n D m : Nat) (F : Slip → Rat) (G : Slip → List Rat) (st : Nat), vs = [x, y, .int (st : Int)] ∧ rSheet K H x S ∧ rState K H y (stOf S F G) ∧ Good S n D m F G ∧ st < 16 ∧ (∀ h ∈ members st, h < n) ∧
  Ret K rTable (S.map fun l => rowOf l.1 (F l.1) (G l.1) st) H Q
abbrev N_table : List Str := ["sheet", "state", "standing", "rows", "k", "free", "kept"]
theorem sc_table : FnScope N_table ["sheet", "state", "standing"] (defScope s_table) := ⟨rfl, rfl, rfl, by decide +kernel, rfl, by decide +kernel, by decide +kernel⟩
theorem ok_table (T : Tx K mg) {fd : FuncData} (F : FnD K d_table fd) : FnOk P w K mg base CX0 5 (He.fAd K d_table.at_) fd ["sheet", "state", "standing"] (sp_table K) := by
  have nd := sc_table.nd
  refine okx F sc_table (fun vs H Q E h => ?_) (fun cdv A outer s H vs Q E hr h => ?_)
  · obtain ⟨x, y, S, n, D, m, F, G, st, rfl, _⟩ := h
    rfl
  · obtain ⟨x, y, S, n, D, m, F, G, st, rfl, ⟨p, xs, rfl, fz, rel⟩, ⟨q, ys, rfl, fy, rely⟩, good, hst, hb, k⟩ := h
    refine ⟨_, (pss_cons (ps_set (i := 3) nd rfl (Or.inl rfl) (pe_lst pa_nil))
      (pss_cons (ps_for PassesOwn.never rfl (pi_range1 (by rfl) (T.free 59 rfl) (pa_cons (pe_callB call_len_seq (by rfl) (T.free 54 rfl) (by decide +kernel) (pa_cons (pv 0) pa_nil)) pa_nil)) (pg_name (i := 4) nd rfl (Or.inl rfl)) (pss_cons (ps_asg (pe_ix ix_list (pv 1) (pv 4) (fun _ _ => rfl)) (pg_tup rfl (pgs_cons (pg_name (i := 5) nd rfl (Or.inl rfl)) (pgs_cons (pg_name (i := 6) nd rfl (Or.inl rfl)) pgs_nil))))
      (pss_one (ps_expr (pe_bm PySem.F.plainAttrs_list PySem.F.slot_list_append PySem.F.type_list_append mt_append (pv 3) (pa_cons (pc_row_of T (hr.mono (by decide)) (by rfl) (pa_cons (pe_ix ix_tup (pe_ix ix_list (pv 0) (pv 4) (fun _ _ => rfl)) pe_int (fun _ _ => rfl)) (pa_cons (pv 5) (pa_cons (pv 6) (pa_cons (pv 2) pa_nil))))) pa_nil))))))
      (pss_one (ps_ret (pe_fz (pv 3)))))), ?_⟩
    refine ⟨(by show 0 ≤ sizeLine; decide), fun l hl => ?_⟩
    have lx : xs.length = S.length := paired_len rel
    have hlen := good.len
    refine ⟨_, rfl, p, xs, rfl, .inl (fz.keep (Keep.new hl)).sq, _, rfl, by omega, by omega, ?_⟩
    refine for_range (lo := 0) (n := ((xs.length : Nat) : Int).toNat) (fun i σ H' => (∃ a b c, σ = [some (.ref p), some (.ref q), some (.int (st : Int)), some (.ref l), a, b, c]) ∧ Acc K rRats H l H' ((S.map fun l => rowOf l.1 (F l.1) (G l.1) st).take i)) ⟨⟨_, _, _, rfl⟩, Acc.start hl⟩ ?_ ?_
    · rintro i σ H' hi ⟨⟨a, b, c, rfl⟩, ac⟩
      have hi' : i < S.length := by omega
      obtain ⟨ln, t, y, hln, hx, ht, hy⟩ := sheet_at rel hi'
      obtain ⟨t2, y2, z2, hx2, ht2, hy2, hz2⟩ := state_at rely hln
      have sm := ac.same
      have kp := Keep.of sm
      refine ⟨_, rfl, _, rfl, q, ys, _, _, rfl, rfl, (fy.keep kp).sq, at_of (by omega) hx2, t2, _, rfl, sqt_keep kp ht2, rfl, _, _, rfl, _, _, rfl, rfl, ?_⟩
      refine ⟨_, rfl, .inl ⟨rfl, _, SqL.of ac.choose_spec.2.1⟩, ?_⟩
      refine ⟨_, rfl, _, rfl, p, xs, _, _, rfl, rfl, (fz.keep kp).sq, at_of (by omega) hx, t, _, _, _, rfl, rfl, sqt_keep kp ht, rfl, _, rfl, _, rfl, _, rfl, ?_⟩
      have gm := good.fine.gl ln.1
      refine ⟨y, y2, z2, ln.1, F ln.1, G ln.1, st, rfl, rSlip_stays.k kp hy, rRat_stays.k kp hy2, rRats_stays.k kp hz2, Nat.lt_of_lt_of_le hst (by decide), fun h hh => by rw [gm]; exact hb h hh, by rw [gm]; exact Nat.le_trans good.hn (by decide), good.smF _, fun x hx => good.smG _ hx, fun h => good.smPart hst h _, fun H4 v sm4 rv => ?_⟩
      have e : (S.map fun l => rowOf l.1 (F l.1) (G l.1) st)[i]? = some (rowOf ln.1 (F ln.1) (G ln.1) st) := by rw [List.getElem?_map, hln]; rfl
      obtain ⟨vs, h1, h2, h3⟩ := Acc.push rRats_stays hl ac sm4 rv
      refine ⟨l, vs, v, rfl, rfl, h1, ?_, ⟨_, _, _, rfl⟩, ?_⟩
      · rw [h2, List.length_take, List.length_map]
        exact small1000 (by omega)
      · rw [take_snoc e]
        exact h3
    · rintro σ H' ⟨⟨a, b, c, rfl⟩, ac⟩
      have e : ((xs.length : Nat) : Int).toNat = (S.map fun l => rowOf l.1 (F l.1) (G l.1) st).length := by rw [List.length_map]; omega
      rw [e, List.take_length] at ac
      obtain ⟨vs, h1, h2⟩ := ac.freeze rRats_stays hl
      exact ⟨_, rfl, l, vs, rfl, h1, fun o => k _ _ (h2 o).1 (h2 o).2⟩
theorem pc_table {K : PySem.W.Frag} {mg : Str → Option Value} (T : Tx K mg) {X : Cx} (hr : Room 5 X.A) (hg : Gl X "table") {p pos : Pos} {e : Expr} {es : List Expr} {t : TA} (ha : PA X (e :: es) t) (hK : X.K = K := by rfl) (hM : X.mg = mg := by rfl) (he : starEach (e :: es) X.env = (false, eval e X.env) :: starEach es X.env := by rfl) (hpl : (backTo pos (starEach es X.env)).any (·.1) = false := by rfl) : PE X (.Call (.Name "table" p) (e :: es) [] pos) (tCall (sp_table K) [] E0 t) := by
  subst hK hM
  obtain ⟨fd, F⟩ := T.says.def_ 22 (d := d_table) rfl
  exact pe_call (ok_table T F) hr hg (T.glo 22 rfl) F.kp (F.bindsN fun _ _ _ _ _ _ us hl => match us, hl with | [_, _, _], _ => rfl) .nil pass0 ha (by decide) he hpl
/-! ### tallies -/
def sp_tallies (K : PySem.W.Frag) : Sp := fun vs H Q _ => ∃ (x y : V) (S : Sheet) (r : Slip → List Rat) (n D : Nat), vs = [x, y, .int (n : Int)] ∧ rSheet K H x S ∧ rTable K H y (S.map fun l => r l.1) ∧ S.length ≤ 100 ∧ n ≤ 12 ∧ total S ≤ 2 ^ 50 ∧ (∀ s, (r s).length = n + 1) ∧
  0 < D ∧ D ≤ 2 ^ 900 ∧ (∀ s, ∀ z ∈ r s, By D z ∧ 0 ≤ z ∧ z ≤ (16 : Nat)) ∧ Ret K rRats ((List.range (n + 1)).map fun j => wsum S fun s => (r s).getD j 0) H Q
abbrev N_tallies : List Str := ["sheet", "rows", "hands", "sums", "k", "at"]
theorem sc_tallies : FnScope N_tallies ["sheet", "rows", "hands"] (defScope s_tallies) := ⟨rfl, rfl, rfl, by decide +kernel, rfl, by decide +kernel, by decide +kernel⟩
theorem ok_tallies (T : Tx K mg) {fd : FuncData} (F : FnD K d_tallies fd) : FnOk P w K mg base CX0 4 (He.fAd K d_tallies.at_) fd ["sheet", "rows", "hands"] (sp_tallies K) := by
  have nd := sc_tallies.nd
  refine okx F sc_tallies (fun vs H Q E h => ?_) (fun cdv A outer s H vs Q E hr h => ?_)
  · obtain ⟨x, y, S, r, n, D, rfl, _⟩ := h
    rfl
  · obtain ⟨x, y, S, r, n, D, rfl, ⟨p, xs, rfl, fz, rel⟩, ⟨q, ys, rfl, fy, rely⟩, hlen, hn, htot, hr1, hD, hD2, hrz, k⟩ := h
    refine ⟨_, (pss_cons (ps_set (i := 3) nd rfl (Or.inl rfl) (pe_op op_rep (pe_lst (pa_cons (g_NOUGHT T) pa_nil)) (pe_op op_add (pv 2) pe_int)))
      (pss_cons (ps_for PassesOwn.never rfl (pi_range1 (by rfl) (T.free 59 rfl) (pa_cons (pe_callB call_len_seq (by rfl) (T.free 54 rfl) (by decide +kernel) (pa_cons (pv 0) pa_nil)) pa_nil)) (pg_name (i := 4) nd rfl (Or.inl rfl)) (pss_one (ps_for PassesOwn.never rfl (pi_range1 (by rfl) (T.free 59 rfl) (pa_cons (pe_op op_add (pv 2) pe_int) pa_nil)) (pg_name (i := 5) nd rfl (Or.inl rfl)) (pss_one (ps_if (pt_cmpR (op_neD hr.units) (pe_ix ix_list (pe_ix ix_list (pv 1) (pv 4) (fun _ _ => rfl)) (pv 5) (fun _ _ => rfl)) (g_NOUGHT T) (nomark _)) (pss_one (ps_asg (pc_plus T (hr.mono (by decide)) (by rfl) (pa_cons (pe_ix ix_list (pv 3) (pv 5) (fun _ _ => rfl)) (pa_cons (pc_times T (hr.mono (by decide)) (by rfl) (pa_cons (pe_tup (pa_cons (pe_ix ix_tup (pe_ix ix_list (pv 0) (pv 4) (fun _ _ => rfl)) pe_int (fun _ _ => rfl)) (pa_cons pe_int pa_nil))) (pa_cons (pe_ix ix_list (pe_ix ix_list (pv 1) (pv 4) (fun _ _ => rfl)) (pv 5) (fun _ _ => rfl)) pa_nil))) pa_nil))) (pg_sub (pv 3) (pv 5) set_list))) pss_nil)))))
      (pss_one (ps_ret (pe_fz (pv 3)))))), ?_⟩
    have lx : xs.length = S.length := paired_len rel
    -- each share of a slip, at any place
    have zAt : ∀ s j, By D ((r s).getD j 0) ∧ 0 ≤ (r s).getD j 0 ∧ (r s).getD j 0 ≤ ((16 : Nat) : Rat) := fun s j => by
      by_cases hj : j < (r s).length
      · rw [List.getD_eq_getElem?_getD, List.getElem?_eq_getElem hj]
        exact hrz s _ (List.getElem_mem hj)
      · rw [List.getD_eq_getElem?_getD, List.getElem?_eq_none (by omega)]
        exact ⟨By.zero D, Rat.le_refl, Rat.natCast_nonneg⟩
    have smZ : ∀ s j, Sm ((r s).getD j 0) := fun s j => sm_of (zAt s j).1 hD hD2 (zAt s j).2.1 (Rat.le_trans (zAt s j).2.2 (cast_le (by decide)))
    have t60 : total S * 16 ≤ 2 ^ 60 := Nat.le_trans (Nat.mul_le_mul_right 16 htot) (by decide)
    have smW : ∀ i j, Sm (wsum (S.take i) fun s => (r s).getD j 0) := fun i j => sm_sum (c := 16) hD hD2 (fun s => (zAt s j).1) (fun s => (zAt s j).2.1) (fun s => (zAt s j).2.2) t60 i
    refine ⟨(by show 1 ≤ sizeLine; decide), fun t ht => ⟨_, rfl, _, _, rfl, rfl, t, _, _, rfl, rfl, upd_same, by omega, by omega, ?_, fun l hl => ?_⟩⟩
    · show 1 * ((n : Int) + 1).toNat ≤ sizeLine
      have : ((n : Int) + 1).toNat = n + 1 := by omega
      rw [this]
      exact Nat.le_trans (by omega) (show 1000 ≤ sizeLine by decide)
    have n1 : ((n : Int) + 1).toNat = n + 1 := by omega
    have hl0 : H l = none := (Same.new ht).free hl
    have S0 : Same H (upd (upd H t (.lst [.ref (He.ga K "NOUGHT")])) l (.lst (List.replicate ((n : Int) + 1).toNat [V.ref (He.ga K "NOUGHT")]).flatten)) := (Same.new ht).trans (Same.new hl)
    refine ⟨_, rfl, p, xs, rfl, .inl (fz.keep (Keep.of S0)).sq, _, rfl, by omega, by omega, ?_⟩
    refine for_range (lo := 0) (n := ((xs.length : Nat) : Int).toNat) (fun i σ H' => (∃ a b, σ = [some (.ref p), some (.ref q), some (.int (n : Int)), some (.ref l), a, b]) ∧ Same H H' ∧
      ∃ vs rs, H' l = some (.lst vs) ∧ Paired (rRat K H') vs rs ∧ Pw rs (n + 1) fun j => wsum (S.take i) fun s => (r s).getD j 0) ⟨⟨_, _, rfl⟩, S0, _, _, upd_same, ?_, Pw.rep (n + 1) 0⟩ ?_ ?_
    · rw [n1]
      exact paired_rep (rat_nought T _) (n + 1)
    · rintro i σ H' hi ⟨⟨a, b, rfl⟩, sm, vs, rs, hvs, prs, pw⟩
      have hi' : i < S.length := by omega
      obtain ⟨ln, lt, ly, hln, hx, hlt, hly⟩ := sheet_at rel hi'
      have e1 : (S.map fun l => r l.1)[i]? = some (r ln.1) := by rw [List.getElem?_map, hln]; rfl
      obtain ⟨rv, hrv, rrow⟩ := paired_at rely e1
      obtain ⟨rp, rvs, rfl, rfz, rrel⟩ := rrow
      refine ⟨_, rfl, _, _, rfl, rfl, _, rfl, by omega, by omega, ?_⟩
      have lnm : ln ∈ S := List.mem_of_getElem? hln
      refine for_range (lo := 0) (n := ((n : Int) + 1).toNat) (fun j σ H' => (∃ b, σ = [some (.ref p), some (.ref q), some (.int (n : Int)), some (.ref l), some (.int (0 + (i : Int))), b]) ∧ Same H H' ∧
        ∃ vs rs, H' l = some (.lst vs) ∧ Paired (rRat K H') vs rs ∧ Pw rs (n + 1) fun j' => (wsum (S.take i) fun s => (r s).getD j' 0) + if j' < j then (ln.2 : Rat) * (r ln.1).getD j' 0 else 0) ⟨⟨_, rfl⟩, sm, vs, rs, hvs, prs, pw.congr fun j' _ => by simp [Rat.add_zero]⟩ ?_ ?_
      · rintro j σ H2 hj ⟨⟨b, rfl⟩, sm2, vs2, rs2, hvs2, prs2, pw2⟩
        have hj' : j < n + 1 := by omega
        have kp2 := Keep.of sm2
        have hjr : j < (r ln.1).length := by rw [hr1]; exact hj'
        have ez : (r ln.1)[j]? = some ((r ln.1).getD j 0) := by rw [List.getD_eq_getElem?_getD, List.getElem?_eq_getElem hjr]; rfl
        obtain ⟨zv, hzv, rz⟩ := paired_at rrel ez
        have rz2 := rRat_stays.k kp2 rz
        refine ⟨_, rfl, _, rfl, q, ys, _, _, rfl, rfl, (fy.keep kp2).sq, at_of (by omega) hrv, _, rfl, rp, rvs, _, _, rfl, rfl, (rfz.keep kp2).sq, at_of (by omega) hzv, ?_⟩
        refine ⟨_, _, rat_dp rz2, rat_dp (rat_nought T H2), dRat_shaped _, dRat_shaped _, _, rfl, ?_⟩
        rw [dRat_eqv]
        refine ite2 (fun hc => ?_) (fun hc => ?_)
        · obtain ⟨u, hu, ru⟩ := pw2.get prs2 hj'
          have nlt : ¬ j < j := Nat.lt_irrefl j
          simp only [nlt, if_false, Rat.add_zero] at ru
          have lvs : vs2.length = n + 1 := by rw [paired_len prs2]; exact pw2.1
          refine ⟨_, rfl, _, rfl, l, vs2, _, _, rfl, rfl, SqL.of hvs2, at_of (by omega) hu, ?_⟩
          refine ⟨_, rfl, _, rfl, p, xs, _, _, rfl, rfl, (fz.keep kp2).sq, at_of (by omega) hx, lt, _, _, _, rfl, rfl, sqt_keep kp2 hlt, rfl, (by show 2 ≤ sizeLine; decide), fun c hc' => ?_⟩
          have S3 : Same H2 (upd H2 c (.tup [.int (ln.2 : Int), .int 1])) := Same.new hc'
          have kp3 := Keep.of (sm2.trans S3)
          refine ⟨_, rfl, _, rfl, q, ys, _, _, rfl, rfl, (fy.keep kp3).sq, at_of (by omega) hrv, _, rfl, rp, rvs, _, _, rfl, rfl, (rfz.keep kp3).sq, at_of (by omega) hzv, ?_⟩
          refine ⟨.ref c, zv, (ln.2 : Rat), (r ln.1).getD j 0, rfl, rat_nat, rRat_stays.k (Keep.of S3) rz2, sm_nat (Nat.le_trans (le_total lnm) (Nat.le_trans htot (by decide))), smZ _ _, fun H4 tv sm4 rt => ?_⟩
          have k24 := Keep.of (S3.trans sm4)
          refine ⟨u, tv, _, _, rfl, rRat_stays.k k24 ru, rt, smW i j, sm_times hD hD2 (zAt _ _).1 (zAt _ _).2.1 (zAt _ _).2.2 (Nat.le_trans (Nat.mul_le_mul_right 16 (le_total lnm)) t60), fun H5 nv sm5 rn => ?_⟩
          obtain ⟨e5, p5⟩ := put_at hvs2 prs2 ((S3.trans sm4).trans sm5) rn j
          refine ⟨_, rfl, _, rfl, l, vs2, _, j, rfl, rfl, e5, ?_, ?_⟩
          · have : (0 : Int) + (j : Int) = (j : Int) := by omega
            rw [this]
            exact ixN_nat (by omega)
          · refine ⟨⟨_, rfl⟩, Same.at (((sm2.trans S3).trans sm4).trans sm5) hl0, _, _, upd_same, p5, (pw2.set hj' _).congr fun j' _ => ?_⟩
            by_cases e : j' = j
            · subst e; simp
            · have : j' < j + 1 ↔ j' < j := by omega
              simp [e, this]
        · have z0 : (r ln.1).getD j 0 = 0 := by simpa using hc
          refine ⟨⟨_, rfl⟩, sm2, vs2, rs2, hvs2, prs2, pw2.congr fun j' _ => ?_⟩
          by_cases e : j' = j
          · subst e
            rw [z0, Rat.mul_zero]
            simp
          · have : j' < j + 1 ↔ j' < j := by omega
            simp [this]
      · rintro σ H2 ⟨⟨b, rfl⟩, sm2, vs2, rs2, hvs2, prs2, pw2⟩
        refine ⟨⟨_, _, rfl⟩, sm2, vs2, rs2, hvs2, prs2, pw2.congr fun j' hj' => ?_⟩
        rw [if_pos (by omega), take_snoc hln, wsum_append]
        simp [wsum, Rat.add_zero]
    · rintro σ H' ⟨⟨a, b, rfl⟩, sm, vs, rs, hvs, prs, pw⟩
      refine ⟨_, rfl, l, vs, rfl, hvs, fun o => k _ _ (Same.at sm hl0) ⟨l, vs, rfl, FzL.mk, ?_⟩⟩
      have e : ((xs.length : Nat) : Int).toNat = S.length := by omega
      rw [e, List.take_length] at pw
      rw [← pw.eq]
      exact paired_mono (fun _ _ z => rRat_stays.k (Keep.lst hvs) z) prs
theorem pc_tallies {K : PySem.W.Frag} {mg : Str → Option Value} (T : Tx K mg) {X : Cx} (hr : Room 4 X.A) (hg : Gl X "tallies") {p pos : Pos} {e : Expr} {es : List Expr} {t : TA} (ha : PA X (e :: es) t) (hK : X.K = K := by rfl) (hM : X.mg = mg := by rfl) (he : starEach (e :: es) X.env = (false, eval e X.env) :: starEach es X.env := by rfl) (hpl : (backTo pos (starEach es X.env)).any (·.1) = false := by rfl) : PE X (.Call (.Name "tallies" p) (e :: es) [] pos) (tCall (sp_tallies K) [] E0 t) := by
  subst hK hM
  obtain ⟨fd, F⟩ := T.says.def_ 23 (d := d_tallies) rfl
  exact pe_call (ok_tallies T F) hr hg (T.glo 23 rfl) F.kp (F.bindsN fun _ _ _ _ _ _ us hl => match us, hl with | [_, _, _], _ => rfl) .nil pass0 ha (by decide) he hpl
end
end K75
-- K8
/-! piles: tally_at, kept_by. -/
namespace K75
open PySem PySem.Spec PyProof.Rows L2
section
variable {P : Program} {w : World} {K : PySem.W.Frag} {mg : Str → Option Value} {base : Heap}
def sp_tally_at (K : PySem.W.Frag) : Sp := fun vs H Q _ => ∃ (x y : V) (S : Sheet) (n D m : Nat) (F : Slip → Rat) (G : Slip → List Rat) (st h : Nat), vs = [x, y, .int (st : Int), .int (h : Int)] ∧ rSheet K H x S ∧ rState K H y (stOf S F G) ∧ Good S n D m F G ∧ st < 16 ∧
  Ret K rRat (tally S F st h) H Q
abbrev N_tally_at : List Str := ["sheet", "state", "standing", "hand", "found", "k", "part"]
theorem sc_tally_at : FnScope N_tally_at ["sheet", "state", "standing", "hand"] (defScope s_tally_at) := ⟨rfl, rfl, rfl, by decide +kernel, rfl, by decide +kernel, by decide +kernel⟩
theorem ok_tally_at (T : Tx K mg) {fd : FuncData} (F : FnD K d_tally_at fd) : FnOk P w K mg base CX0 5 (He.fAd K d_tally_at.at_) fd ["sheet", "state", "standing", "hand"] (sp_tally_at K) := by
  have nd := sc_tally_at.nd
  refine okx F sc_tally_at (fun vs H Q E h => ?_) (fun cdv A outer s H vs Q E hr h => ?_)
  · obtain ⟨x, y, S, n, D, m, F, G, st, h, rfl, _⟩ := h
    rfl
  · obtain ⟨x, y, S, n, D, m, F, G, st, h, rfl, ⟨p, xs, rfl, fz, rel⟩, ⟨q, ys, rfl, fy, rely⟩, good, hst, k⟩ := h
    refine ⟨_, (pss_cons (ps_set (i := 4) nd rfl (Or.inl rfl) (g_NOUGHT T))
      (pss_cons (ps_for PassesOwn.never rfl (pi_range1 (by rfl) (T.free 59 rfl) (pa_cons (pe_callB call_len_seq (by rfl) (T.free 54 rfl) (by decide +kernel) (pa_cons (pv 0) pa_nil)) pa_nil)) (pg_name (i := 5) nd rfl (Or.inl rfl)) (pss_cons (ps_set (i := 6) nd rfl (Or.inl rfl) (pc_part_at T (hr.mono (by decide)) (by rfl) (pa_cons (pe_ix ix_tup (pe_ix ix_list (pv 0) (pv 5) (fun _ _ => rfl)) pe_int (fun _ _ => rfl)) (pa_cons (pe_ix ix_tup (pe_ix ix_list (pv 1) (pv 5) (fun _ _ => rfl)) pe_int (fun _ _ => rfl)) (pa_cons (pv 2) (pa_cons (pv 3) pa_nil))))))
      (pss_one (ps_if (pt_cmpR (op_neD hr.units) (pv 6) (g_NOUGHT T) (nomark _)) (pss_one (ps_set (i := 4) nd rfl (Or.inl rfl) (pc_plus T (hr.mono (by decide)) (by rfl) (pa_cons (pv 4) (pa_cons (pc_times T (hr.mono (by decide)) (by rfl) (pa_cons (pe_tup (pa_cons (pe_ix ix_tup (pe_ix ix_list (pv 0) (pv 5) (fun _ _ => rfl)) pe_int (fun _ _ => rfl)) (pa_cons pe_int pa_nil))) (pa_cons (pv 6) pa_nil))) pa_nil))))) pss_nil))))
      (pss_one (ps_ret (pv 4))))), ?_⟩
    have lx : xs.length = S.length := paired_len rel
    have hlen := good.len
    refine ⟨_, rfl, p, xs, rfl, .inl fz.sq, _, rfl, by omega, by omega, ?_⟩
    refine for_range (lo := 0) (n := ((xs.length : Nat) : Int).toNat) (fun i σ H' => (∃ f a b, σ = [some (.ref p), some (.ref q), some (.int (st : Int)), some (.int (h : Int)), some f, a, b] ∧ rRat K H' f (wsum (S.take i) fun s => F s * coef s st h)) ∧ Same H H') ⟨⟨_, _, _, rfl, rat_nought T H⟩, Same.refl H⟩ ?_ ?_
    · rintro i σ H' hi ⟨⟨f, a, b, rfl, rf⟩, sm⟩
      have hi' : i < S.length := by omega
      obtain ⟨ln, t, y, hln, hx, ht, hy⟩ := sheet_at rel hi'
      obtain ⟨t2, y2, z2, hx2, ht2, hy2, hz2⟩ := state_at rely hln
      have kp := Keep.of sm
      have lnm : ln ∈ S := List.mem_of_getElem? hln
      refine ⟨_, rfl, _, rfl, p, xs, _, _, rfl, rfl, (fz.keep kp).sq, at_of (by omega) hx, t, _, _, _, rfl, rfl, sqt_keep kp ht, rfl, ?_⟩
      refine ⟨_, rfl, _, rfl, q, ys, _, _, rfl, rfl, (fy.keep kp).sq, at_of (by omega) hx2, t2, _, _, _, rfl, rfl, sqt_keep kp ht2, rfl, _, rfl, _, rfl, ?_⟩
      refine ⟨y, y2, ln.1, F ln.1, st, h, rfl, rSlip_stays.k kp hy, rRat_stays.k kp hy2, good.smF _, Nat.lt_of_lt_of_le hst (by decide), fun H1 pv1 sm1 rp => ?_⟩
      have k1 := Keep.of (sm.trans sm1)
      refine ⟨_, rfl, _, _, rat_dp rp, rat_dp (rat_nought T H1), dRat_shaped _, dRat_shaped _, _, rfl, ?_⟩
      rw [dRat_eqv]
      refine ite2 (fun hc => ?_) (fun hc => ?_)
      · refine ⟨_, rfl, _, rfl, _, rfl, p, xs, _, _, rfl, rfl, (fz.keep k1).sq, at_of (by omega) hx, t, _, _, _, rfl, rfl, sqt_keep k1 ht, rfl, (by show 2 ≤ sizeLine; decide), fun c hc' => ?_⟩
        have S3 : Same H1 (upd H1 c (.tup [.int (ln.2 : Int), .int 1])) := Same.new hc'
        refine ⟨_, rfl, .ref c, pv1, (ln.2 : Rat), F ln.1 * coef ln.1 st h, rfl, rat_nat, rRat_stays.k (Keep.of S3) rp, good.smNum lnm, good.smPart hst h _, fun H4 tv sm4 rt => ?_⟩
        refine ⟨f, tv, _, _, rfl, rRat_stays.k (Keep.of ((sm1.trans S3).trans sm4)) rf, rt, good.smTally hst h i, good.smTerm hst h lnm, fun H5 nv sm5 rn => ?_⟩
        refine ⟨⟨nv, _, _, rfl, ?_⟩, (((sm.trans sm1).trans S3).trans sm4).trans sm5⟩
        have e : (wsum (S.take (i + 1)) fun s => F s * coef s st h) = (wsum (S.take i) fun s => F s * coef s st h) + (ln.2 : Rat) * (F ln.1 * coef ln.1 st h) := by
          rw [take_snoc hln, wsum_append]
          simp [wsum, Rat.add_zero]
        rw [e]
        exact rn
      · have z0 : F ln.1 * coef ln.1 st h = 0 := by simpa using hc
        refine ⟨⟨f, _, _, rfl, ?_⟩, sm.trans sm1⟩
        have e : (wsum (S.take (i + 1)) fun s => F s * coef s st h) = (wsum (S.take i) fun s => F s * coef s st h) := by
          rw [take_snoc hln, wsum_append]
          simp only [wsum, z0]
          rw [Rat.mul_zero, Rat.add_zero, Rat.add_zero]
        rw [e]
        exact rRat_stays.k (Keep.of sm1) rf
    · rintro σ H' ⟨⟨f, a, b, rfl, rf⟩, sm⟩
      have e : ((xs.length : Nat) : Int).toNat = S.length := by omega
      rw [e, List.take_length] at rf
      exact ⟨_, rfl, k _ _ sm rf⟩
theorem pc_tally_at {K : PySem.W.Frag} {mg : Str → Option Value} (T : Tx K mg) {X : Cx} (hr : Room 5 X.A) (hg : Gl X "tally_at") {p pos : Pos} {e : Expr} {es : List Expr} {t : TA} (ha : PA X (e :: es) t) (hK : X.K = K := by rfl) (hM : X.mg = mg := by rfl) (he : starEach (e :: es) X.env = (false, eval e X.env) :: starEach es X.env := by rfl) (hpl : (backTo pos (starEach es X.env)).any (·.1) = false := by rfl) : PE X (.Call (.Name "tally_at" p) (e :: es) [] pos) (tCall (sp_tally_at K) [] E0 t) := by
  subst hK hM
  obtain ⟨fd, F⟩ := T.says.def_ 24 (d := d_tally_at) rfl
  exact pe_call (ok_tally_at T F) hr hg (T.glo 24 rfl) F.kp (F.bindsN fun _ _ _ _ _ _ us hl => match us, hl with | [_, _, _, _], _ => rfl) .nil pass0 ha (by decide) he hpl
/-! ### kept_by -/
def sp_kept_by (K : PySem.W.Frag) : Sp := fun vs H Q _ => ∃ (x y : V) (S : Sheet) (n D m : Nat) (F : Slip → Rat) (G : Slip → List Rat) (st h q : Nat), vs = [x, y, .int (st : Int), .int (h : Int), .int (q : Int)] ∧ rSheet K H x S ∧ rState K H y (stOf S F G) ∧ Good S n D m F G ∧ st < 16 ∧ h < n ∧ q ≤ 2 ^ 60 ∧
  Ret K rState (stOf S (freeBy S q F st h) (keptBy S q F G st h)) H Q
abbrev N_kept_by : List Str := ["sheet", "state", "standing", "hand", "quota", "tally", "stays", "behind", "k", "free", "kept", "part", "mine"]
theorem sc_kept_by : FnScope N_kept_by ["sheet", "state", "standing", "hand", "quota"] (defScope s_kept_by) := ⟨rfl, rfl, rfl, by decide +kernel, rfl, by decide +kernel, by decide +kernel⟩
theorem ok_kept_by (T : Tx K mg) {fd : FuncData} (F : FnD K d_kept_by fd) : FnOk P w K mg base CX0 6 (He.fAd K d_kept_by.at_) fd ["sheet", "state", "standing", "hand", "quota"] (sp_kept_by K) := by
  have nd := sc_kept_by.nd
  refine okx F sc_kept_by (fun vs H Q E h => ?_) (fun cdv A outer s H vs Q E hr h => ?_)
  · obtain ⟨x, y, S, n, D, m, F, G, st, h, q, rfl, _⟩ := h
    rfl
  · obtain ⟨x, y, S, n, D, m, F, G, st, h, q, rfl, ⟨p, xs, rfl, fz, rel⟩, ⟨py, ys, rfl, fy, rely⟩, good, hst, hh, hq, k⟩ := h
    refine ⟨_, (pss_cons (ps_set (i := 5) nd rfl (Or.inl rfl) (pc_tally_at T (hr.mono (by decide)) (by rfl) (pa_cons (pv 0) (pa_cons (pv 1) (pa_cons (pv 2) (pa_cons (pv 3) pa_nil))))))
      (pss_cons (ps_set (i := 6) nd rfl (Or.inl rfl) (g_ONE T))
      (pss_cons (ps_if (pt_val (pc_under T (hr.mono (by decide)) (by rfl) (pa_cons (pe_tup (pa_cons (pv 4) (pa_cons pe_int pa_nil))) (pa_cons (pv 5) pa_nil)))) (pss_one (ps_set (i := 6) nd rfl (Or.inl rfl) (pc_parted T (hr.mono (by decide)) (by rfl) (pa_cons (pe_tup (pa_cons (pv 4) (pa_cons pe_int pa_nil))) (pa_cons (pv 5) pa_nil))))) pss_nil)
      (pss_cons (ps_set (i := 7) nd rfl (Or.inl rfl) (pe_lst pa_nil))
      (pss_cons (ps_for PassesOwn.never rfl (pi_range1 (by rfl) (T.free 59 rfl) (pa_cons (pe_callB call_len_seq (by rfl) (T.free 54 rfl) (by decide +kernel) (pa_cons (pv 0) pa_nil)) pa_nil)) (pg_name (i := 8) nd rfl (Or.inl rfl)) (pss_cons (ps_asg (pe_ix ix_list (pv 1) (pv 8) (fun _ _ => rfl)) (pg_tup rfl (pgs_cons (pg_name (i := 9) nd rfl (Or.inl rfl)) (pgs_cons (pg_name (i := 10) nd rfl (Or.inl rfl)) pgs_nil))))
      (pss_cons (ps_set (i := 11) nd rfl (Or.inl rfl) (pc_times T (hr.mono (by decide)) (by rfl) (pa_cons (pc_part_at T (hr.mono (by decide)) (by rfl) (pa_cons (pe_ix ix_tup (pe_ix ix_list (pv 0) (pv 8) (fun _ _ => rfl)) pe_int (fun _ _ => rfl)) (pa_cons (pv 9) (pa_cons (pv 2) (pa_cons (pv 3) pa_nil))))) (pa_cons (pv 6) pa_nil))))
      (pss_cons (ps_set (i := 12) nd rfl (Or.inl rfl) (pe_callTy call_list_of (by rfl) (T.free 60 rfl) (by decide +kernel) (pa_cons (pv 10) pa_nil)))
      (pss_cons (ps_asg (pc_plus T (hr.mono (by decide)) (by rfl) (pa_cons (pe_ix ix_list (pv 12) (pv 3) (fun _ _ => rfl)) (pa_cons (pv 11) pa_nil))) (pg_sub (pv 12) (pv 3) set_list))
      (pss_one (ps_expr (pe_bm PySem.F.plainAttrs_list PySem.F.slot_list_append PySem.F.type_list_append mt_append (pv 7) (pa_cons (pe_tup (pa_cons (pc_minus T (hr.mono (by decide)) (by rfl) (pa_cons (pv 9) (pa_cons (pv 11) pa_nil))) (pa_cons (pe_fz (pv 12)) pa_nil))) pa_nil)))))))))
      (pss_one (ps_ret (pe_fz (pv 7))))))))), ?_⟩
    have lx : xs.length = S.length := paired_len rel
    have hlen := good.len
    obtain ⟨smS, smP⟩ := good.seatSm hst h q
    have t0 := good.fine.tally0 st h
    refine ⟨_, rfl, _, rfl, _, rfl, _, rfl, .ref p, .ref py, S, n, D, m, F, G, st, h, rfl, ⟨p, xs, rfl, fz, rel⟩, ⟨py, ys, rfl, fy, rely⟩, good, hst, fun H1 tv sm1 rt => ?_⟩
    refine ⟨_, rfl, (by show 2 ≤ sizeLine; decide), fun c hc => ?_⟩
    have S2 : Same H1 (upd H1 c (.tup [.int (q : Int), .int 1])) := Same.new hc
    refine ⟨_, rfl, .ref c, tv, (q : Rat), tally S F st h, rfl, rat_nat, rRat_stays.k (Keep.of S2) rt, sm_nat hq, good.smTally' hst h, _, rfl, ?_⟩
    have sPos : (q : Rat) < tally S F st h → 0 < tally S F st h := fun z => by
      have hq0 : (0 : Rat) ≤ (q : Rat) := Rat.natCast_nonneg
      grind
    refine ite2 (fun hc => ?_) (fun hc => ?_)
    · have hc' : (q : Rat) < tally S F st h := by simpa using hc
      refine ⟨_, rfl, (by show 2 ≤ sizeLine; decide), fun c2 hc2 => ?_⟩
      have S3 := S2.trans (Same.new hc2 (o := .tup [.int (q : Int), .int 1]))
      refine ⟨_, rfl, .ref c2, tv, (q : Rat), tally S F st h, rfl, rat_nat, rRat_stays.k (Keep.of S3) rt, sm_nat hq, good.smTally' hst h, sPos hc', fun H2 yv sm3 RY => ?_⟩
      have e : (q : Rat) / tally S F st h = stays q (tally S F st h) := by unfold stays; rw [if_pos hc']
      rw [e] at RY
      have SM := (sm1.trans S3).trans sm3
      refine ⟨(by show 0 ≤ sizeLine; decide), fun l hl => ?_⟩
      have hl0 : H l = none := SM.free hl
      have S6 := SM.trans (Same.new hl (o := .lst []))
      refine ⟨_, rfl, p, xs, rfl, .inl (fz.keep (Keep.of S6)).sq, _, rfl, by omega, by omega, ?_⟩
      refine for_range (lo := 0) (n := ((xs.length : Nat) : Int).toNat) (fun i σ H' => (∃ yv a b c d e, σ = [some (.ref p), some (.ref py), some (.int (st : Int)), some (.int (h : Int)), some (.int (q : Int)), some tv, some yv, some (.ref l), a, b, c, d, e] ∧ rRat K H' yv (stays q (tally S F st h))) ∧
        Acc K (rPair rRat rRats) H l H' ((stOf S (freeBy S q F st h) (keptBy S q F G st h)).take i)) ⟨⟨_, _, _, _, _, _, rfl, rRat_stays.k (Keep.new hl) RY⟩, ⟨[], S6, upd_same, .nil⟩⟩ ?_ ?_
      · rintro i σ H' hi ⟨⟨yv, a, b, c, d, e, rfl, ry⟩, ac⟩
        have hi' : i < S.length := by omega
        obtain ⟨ln, t, y, hln, hx, ht, hy⟩ := sheet_at rel hi'
        obtain ⟨t2, y2, z2, hx2, ht2, hy2, hz2⟩ := state_at rely hln
        have sm := ac.same
        have kp := Keep.of sm
        obtain ⟨pk, ks, rfl, fk, relk⟩ := hz2
        have gl := good.fine.gl ln.1
        have lk : ks.length = n := by rw [paired_len relk]; exact gl
        refine ⟨_, rfl, _, rfl, py, ys, _, _, rfl, rfl, (fy.keep kp).sq, at_of (by omega) hx2, t2, _, rfl, sqt_keep kp ht2, rfl, _, _, rfl, _, _, rfl, rfl, ?_⟩
        refine ⟨_, rfl, _, rfl, p, xs, _, _, rfl, rfl, (fz.keep kp).sq, at_of (by omega) hx, t, _, _, _, rfl, rfl, sqt_keep kp ht, rfl, _, rfl, _, rfl, _, rfl, ?_⟩
        refine ⟨y, y2, ln.1, F ln.1, st, h, rfl, rSlip_stays.k kp hy, rRat_stays.k kp hy2, good.smF _, Nat.lt_of_lt_of_le hst (by decide), fun H3 p1 sm3 r1 => ?_⟩
        refine ⟨_, rfl, p1, yv, _, _, rfl, r1, rRat_stays.k (Keep.of sm3) ry, good.smPart hst h _, smS, fun H4 p2 sm4 r2 => ?_⟩
        have k4 := Keep.of ((sm.trans sm3).trans sm4)
        refine ⟨_, rfl, pk, ks, rfl, .inl (fk.keep k4).sq, fun l2 hl2 => ?_⟩
        have n2 : Same H4 (upd H4 l2 (.lst ks)) := Same.new hl2
        have k5 := Keep.of (((sm.trans sm3).trans sm4).trans n2)
        have hh' : h < (G ln.1).length := by rw [gl]; exact hh
        have eg : (G ln.1)[h]? = some ((G ln.1).getD h 0) := by rw [List.getD_eq_getElem?_getD, List.getElem?_eq_getElem hh']; rfl
        obtain ⟨u, hu, ru⟩ := paired_at relk eg
        refine ⟨_, rfl, _, rfl, l2, ks, _, _, rfl, rfl, SqL.of upd_same, atI_nat hu, _, rfl, ?_⟩
        refine ⟨u, p2, (G ln.1).getD h 0, part F st h (stays q (tally S F st h)) ln.1, rfl, rRat_stays.k k5 ru, rRat_stays.k (Keep.of n2) r2, good.smG ln.1 (List.mem_of_getElem? eg), smP ln.1, fun H5 nv sm5 rn => ?_⟩
        have relk4 : Paired (rRat K (upd H4 l2 (.lst ks))) ks (G ln.1) := paired_mono (fun _ _ z => rRat_stays.k k5 z) relk
        obtain ⟨e5, p5⟩ := put_at (l := l2) upd_same relk4 sm5 rn h
        refine ⟨_, rfl, _, rfl, l2, ks, _, h, rfl, rfl, e5, ixN_nat (by omega), ?_⟩
        have hl2H' : H' l2 = none := (sm3.trans sm4).free hl2
        have S7 : Same H' (upd H5 l2 (.lst (ks.set h nv))) := Same.at (((sm3.trans sm4).trans n2).trans sm5) hl2H'
        have k7 : Keep H4 (upd H5 l2 (.lst (ks.set h nv))) := ((Keep.of n2).trans (Keep.of sm5)).trans (Keep.lst e5)
        refine ⟨_, rfl, .inl ⟨rfl, _, SqL.of (S7 _ _ ac.choose_spec.2.1)⟩, _, rfl, _, rfl, ?_⟩
        refine ⟨y2, p2, F ln.1, part F st h (stays q (tally S F st h)) ln.1, rfl, rRat_stays.k (kp.trans (Keep.of S7)) hy2, rRat_stays.k k7 r2, good.smF _, smP _, fun H8 fv sm8 rfv => ?_⟩
        have e8 := sm8 _ _ (upd_same (H := H5) (a := l2) (o := .lst (ks.set h nv)))
        refine ⟨_, rfl, l2, _, rfl, e8, fun o => ⟨(by show 2 ≤ sizeLine; decide), fun z hz => ?_⟩⟩
        have S9 : Same H' (upd (upd H8 l2 (.frz o (.lst (ks.set h nv)))) z (.tup [fv, .ref l2])) := (Same.at (S7.trans sm8) hl2H').trans (Same.new hz)
        have k9 : Keep H8 (upd (upd H8 l2 (.frz o (.lst (ks.set h nv)))) z (.tup [fv, .ref l2])) := (Keep.lst e8).trans (Keep.new hz)
        have eS : (stOf S (freeBy S q F st h) (keptBy S q F G st h))[i]? = some (freeBy S q F st h ln.1, keptBy S q F G st h ln.1) := by unfold stOf; rw [List.getElem?_map, hln]; rfl
        obtain ⟨vs, h1, h2, h3⟩ := Acc.push (rPair_stays rRat_stays rRats_stays) hl0 ac S9 (v := .ref z) (a := (freeBy S q F st h ln.1, keptBy S q F G st h ln.1)) ⟨z, fv, .ref l2, rfl, sqt_new, rRat_stays.k k9 rfv, l2, _, rfl, FzL.keep (Keep.new hz) FzL.mk, paired_mono (fun _ _ w => rRat_stays.k ((Keep.of sm8).trans k9) w) p5⟩
        refine ⟨l, vs, .ref z, rfl, rfl, h1, ?_, ⟨yv, _, _, _, _, _, rfl, ?_⟩, ?_⟩
        · rw [h2, List.length_take]
          have : (stOf S (freeBy S q F st h) (keptBy S q F G st h)).length = S.length := by unfold stOf; rw [List.length_map]
          exact small1000 (by omega)
        · exact rRat_stays.k ((Keep.of S9).trans (Keep.lst h1)) ry
        · rw [take_snoc eS]
          exact h3
      · rintro σ H' ⟨⟨yv, a, b, c, d, e, rfl, ry⟩, ac⟩
        have e : ((xs.length : Nat) : Int).toNat = (stOf S (freeBy S q F st h) (keptBy S q F G st h)).length := by unfold stOf; rw [List.length_map]; omega
        rw [e, List.take_length] at ac
        obtain ⟨vs, h1, h2⟩ := ac.freeze (rPair_stays rRat_stays rRats_stays) hl0
        exact ⟨_, rfl, l, vs, rfl, h1, fun o => k _ _ (h2 o).1 (h2 o).2⟩
    · have hc' : ¬ (q : Rat) < tally S F st h := by simpa using hc
      have e : (1 : Rat) = stays q (tally S F st h) := by unfold stays; rw [if_neg hc']
      have RY := rat_one T (upd H1 c (.tup [.int (q : Int), .int 1]))
      rw [e] at RY
      have SM := sm1.trans S2
      refine ⟨(by show 0 ≤ sizeLine; decide), fun l hl => ?_⟩
      have hl0 : H l = none := SM.free hl
      have S6 := SM.trans (Same.new hl (o := .lst []))
      refine ⟨_, rfl, p, xs, rfl, .inl (fz.keep (Keep.of S6)).sq, _, rfl, by omega, by omega, ?_⟩
      refine for_range (lo := 0) (n := ((xs.length : Nat) : Int).toNat) (fun i σ H' => (∃ yv a b c d e, σ = [some (.ref p), some (.ref py), some (.int (st : Int)), some (.int (h : Int)), some (.int (q : Int)), some tv, some yv, some (.ref l), a, b, c, d, e] ∧ rRat K H' yv (stays q (tally S F st h))) ∧
        Acc K (rPair rRat rRats) H l H' ((stOf S (freeBy S q F st h) (keptBy S q F G st h)).take i)) ⟨⟨_, _, _, _, _, _, rfl, rRat_stays.k (Keep.new hl) RY⟩, ⟨[], S6, upd_same, .nil⟩⟩ ?_ ?_
      · rintro i σ H' hi ⟨⟨yv, a, b, c, d, e, rfl, ry⟩, ac⟩
        have hi' : i < S.length := by omega
        obtain ⟨ln, t, y, hln, hx, ht, hy⟩ := sheet_at rel hi'
        obtain ⟨t2, y2, z2, hx2, ht2, hy2, hz2⟩ := state_at rely hln
        have sm := ac.same
        have kp := Keep.of sm
        obtain ⟨pk, ks, rfl, fk, relk⟩ := hz2
        have gl := good.fine.gl ln.1
        have lk : ks.length = n := by rw [paired_len relk]; exact gl
        refine ⟨_, rfl, _, rfl, py, ys, _, _, rfl, rfl, (fy.keep kp).sq, at_of (by omega) hx2, t2, _, rfl, sqt_keep kp ht2, rfl, _, _, rfl, _, _, rfl, rfl, ?_⟩
        refine ⟨_, rfl, _, rfl, p, xs, _, _, rfl, rfl, (fz.keep kp).sq, at_of (by omega) hx, t, _, _, _, rfl, rfl, sqt_keep kp ht, rfl, _, rfl, _, rfl, _, rfl, ?_⟩
        refine ⟨y, y2, ln.1, F ln.1, st, h, rfl, rSlip_stays.k kp hy, rRat_stays.k kp hy2, good.smF _, Nat.lt_of_lt_of_le hst (by decide), fun H3 p1 sm3 r1 => ?_⟩
        refine ⟨_, rfl, p1, yv, _, _, rfl, r1, rRat_stays.k (Keep.of sm3) ry, good.smPart hst h _, smS, fun H4 p2 sm4 r2 => ?_⟩
        have k4 := Keep.of ((sm.trans sm3).trans sm4)
        refine ⟨_, rfl, pk, ks, rfl, .inl (fk.keep k4).sq, fun l2 hl2 => ?_⟩
        have n2 : Same H4 (upd H4 l2 (.lst ks)) := Same.new hl2
        have k5 := Keep.of (((sm.trans sm3).trans sm4).trans n2)
        have hh' : h < (G ln.1).length := by rw [gl]; exact hh
        have eg : (G ln.1)[h]? = some ((G ln.1).getD h 0) := by rw [List.getD_eq_getElem?_getD, List.getElem?_eq_getElem hh']; rfl
        obtain ⟨u, hu, ru⟩ := paired_at relk eg
        refine ⟨_, rfl, _, rfl, l2, ks, _, _, rfl, rfl, SqL.of upd_same, atI_nat hu, _, rfl, ?_⟩
        refine ⟨u, p2, (G ln.1).getD h 0, part F st h (stays q (tally S F st h)) ln.1, rfl, rRat_stays.k k5 ru, rRat_stays.k (Keep.of n2) r2, good.smG ln.1 (List.mem_of_getElem? eg), smP ln.1, fun H5 nv sm5 rn => ?_⟩
        have relk4 : Paired (rRat K (upd H4 l2 (.lst ks))) ks (G ln.1) := paired_mono (fun _ _ z => rRat_stays.k k5 z) relk
        obtain ⟨e5, p5⟩ := put_at (l := l2) upd_same relk4 sm5 rn h
        refine ⟨_, rfl, _, rfl, l2, ks, _, h, rfl, rfl, e5, ixN_nat (by omega), ?_⟩
        have hl2H' : H' l2 = none := (sm3.trans sm4).free hl2
        have S7 : Same H' (upd H5 l2 (.lst (ks.set h nv))) := Same.at (((sm3.trans sm4).trans n2).trans sm5) hl2H'
        have k7 : Keep H4 (upd H5 l2 (.lst (ks.set h nv))) := ((Keep.of n2).trans (Keep.of sm5)).trans (Keep.lst e5)
        refine ⟨_, rfl, .inl ⟨rfl, _, SqL.of (S7 _ _ ac.choose_spec.2.1)⟩, _, rfl, _, rfl, ?_⟩
        refine ⟨y2, p2, F ln.1, part F st h (stays q (tally S F st h)) ln.1, rfl, rRat_stays.k (kp.trans (Keep.of S7)) hy2, rRat_stays.k k7 r2, good.smF _, smP _, fun H8 fv sm8 rfv => ?_⟩
        have e8 := sm8 _ _ (upd_same (H := H5) (a := l2) (o := .lst (ks.set h nv)))
        refine ⟨_, rfl, l2, _, rfl, e8, fun o => ⟨(by show 2 ≤ sizeLine; decide), fun z hz => ?_⟩⟩
        have S9 : Same H' (upd (upd H8 l2 (.frz o (.lst (ks.set h nv)))) z (.tup [fv, .ref l2])) := (Same.at (S7.trans sm8) hl2H').trans (Same.new hz)
        have k9 : Keep H8 (upd (upd H8 l2 (.frz o (.lst (ks.set h nv)))) z (.tup [fv, .ref l2])) := (Keep.lst e8).trans (Keep.new hz)
        have eS : (stOf S (freeBy S q F st h) (keptBy S q F G st h))[i]? = some (freeBy S q F st h ln.1, keptBy S q F G st h ln.1) := by unfold stOf; rw [List.getElem?_map, hln]; rfl
        obtain ⟨vs, h1, h2, h3⟩ := Acc.push (rPair_stays rRat_stays rRats_stays) hl0 ac S9 (v := .ref z) (a := (freeBy S q F st h ln.1, keptBy S q F G st h ln.1)) ⟨z, fv, .ref l2, rfl, sqt_new, rRat_stays.k k9 rfv, l2, _, rfl, FzL.keep (Keep.new hz) FzL.mk, paired_mono (fun _ _ w => rRat_stays.k ((Keep.of sm8).trans k9) w) p5⟩
        refine ⟨l, vs, .ref z, rfl, rfl, h1, ?_, ⟨yv, _, _, _, _, _, rfl, ?_⟩, ?_⟩
        · rw [h2, List.length_take]
          have : (stOf S (freeBy S q F st h) (keptBy S q F G st h)).length = S.length := by unfold stOf; rw [List.length_map]
          exact small1000 (by omega)
        · exact rRat_stays.k ((Keep.of S9).trans (Keep.lst h1)) ry
        · rw [take_snoc eS]
          exact h3
      · rintro σ H' ⟨⟨yv, a, b, c, d, e, rfl, ry⟩, ac⟩
        have e : ((xs.length : Nat) : Int).toNat = (stOf S (freeBy S q F st h) (keptBy S q F G st h)).length := by unfold stOf; rw [List.length_map]; omega
        rw [e, List.take_length] at ac
        obtain ⟨vs, h1, h2⟩ := ac.freeze (rPair_stays rRat_stays rRats_stays) hl0
        exact ⟨_, rfl, l, vs, rfl, h1, fun o => k _ _ (h2 o).1 (h2 o).2⟩
theorem pc_kept_by {K : PySem.W.Frag} {mg : Str → Option Value} (T : Tx K mg) {X : Cx} (hr : Room 6 X.A) (hg : Gl X "kept_by") {p pos : Pos} {e : Expr} {es : List Expr} {t : TA} (ha : PA X (e :: es) t) (hK : X.K = K := by rfl) (hM : X.mg = mg := by rfl) (he : starEach (e :: es) X.env = (false, eval e X.env) :: starEach es X.env := by rfl) (hpl : (backTo pos (starEach es X.env)).any (·.1) = false := by rfl) : PE X (.Call (.Name "kept_by" p) (e :: es) [] pos) (tCall (sp_kept_by K) [] E0 t) := by
  subst hK hM
  obtain ⟨fd, F⟩ := T.says.def_ 25 (d := d_kept_by) rfl
  exact pe_call (ok_kept_by T F) hr hg (T.glo 25 rfl) F.kp (F.bindsN fun _ _ _ _ _ _ us hl => match us, hl with | [_, _, _, _, _], _ => rfl) .nil pass0 ha (by decide) he hpl
end
end K75
-- K9
/-! ways, seats: made, asked. -/
namespace K75
open PySem PySem.Spec PyProof.Rows L2
/-- a hall that is asked: two to four hands, fewer seats, lots -/
structure HallOk (W : Hall) : Prop where
  h4 : W.hands ≤ 4
  s1 : 1 ≤ W.seats
  sh : W.seats < W.hands
  lots : W.lots.Perm (List.range W.hands)
def flds (W : Hall) (l : Addr) : List (Str × V) := putF "lots" (.ref l) (putF "seats" (.int (W.seats : Int)) (putF "hands" (.int (W.hands : Int)) []))
theorem n_hs : ¬ (("hands" : Str) = "seats") := by decide +kernel
theorem n_hl : ¬ (("hands" : Str) = "lots") := by decide +kernel
theorem n_sl : ¬ (("seats" : Str) = "lots") := by decide +kernel
theorem flds_hands (W : Hall) (l : Addr) : (flds W l).lookup ("hands" : Str) = some (.int (W.hands : Int)) := by
  unfold flds
  rw [lookup_putF, if_neg n_hl, lookup_putF, if_neg n_hs, lookup_putF, if_pos rfl]
theorem flds_seats (W : Hall) (l : Addr) : (flds W l).lookup ("seats" : Str) = some (.int (W.seats : Int)) := by
  unfold flds
  rw [lookup_putF, if_neg n_sl, lookup_putF, if_pos rfl]
theorem flds_lots (W : Hall) (l : Addr) : (flds W l).lookup ("lots" : Str) = some (.ref l) := by
  unfold flds
  rw [lookup_putF, if_pos rfl]
theorem flds_no (W : Hall) (l : Addr) {m : Str} (h1 : ¬ m = "lots") (h2 : ¬ m = "seats") (h3 : ¬ m = "hands") : (flds W l).lookup m = none := by
  unfold flds
  rw [lookup_putF, if_neg h1, lookup_putF, if_neg h2, lookup_putF, if_neg h3]
  all_goals rfl
structure WayAt (K : PySem.W.Frag) (H : Hp) (a : Addr) (W : Hall) : Prop where
  ob : ∃ dx l, H a = some (.ins (He.ga K "Seats") dx (flds W l)) ∧ FzL H l (nats W.lots)
theorem WayAt.same {K : PySem.W.Frag} {H H' : Hp} {a : Addr} {W : Hall} (s : Same H H') (h : WayAt K H a W) : WayAt K H' a W := let ⟨dx, l, e, f⟩ := h.ob; ⟨dx, l, s _ _ e, f.keep (Keep.of s)⟩
section
variable {P : Program} {w : World} {K : PySem.W.Frag} {mg : Str → Option Value} {base : Heap}
/-- a field of a way is read -/
theorem WayAt.hands {H : Hp} {a : Addr} {W : Hall} (h : WayAt K H a W) (T : Tx K mg) {Q : V → Prop} (q : Q (.int (W.hands : Int))) : ∃ b C dx fs v, V.ref a = .ref b ∧ H b = some (.ins C dx fs) ∧ Cls K C ∧ NoAttr K C "hands" ∧ fs.lookup ("hands" : Str) = some v ∧ Q v :=
  let ⟨dx, l, e, _⟩ := h.ob; ⟨a, _, dx, _, _, rfl, e, T.cls_Seats, T.noat 73 rfl, flds_hands W l, q⟩
theorem WayAt.seats {H : Hp} {a : Addr} {W : Hall} (h : WayAt K H a W) (T : Tx K mg) {Q : V → Prop} (q : Q (.int (W.seats : Int))) : ∃ b C dx fs v, V.ref a = .ref b ∧ H b = some (.ins C dx fs) ∧ Cls K C ∧ NoAttr K C "seats" ∧ fs.lookup ("seats" : Str) = some v ∧ Q v :=
  let ⟨dx, l, e, _⟩ := h.ob; ⟨a, _, dx, _, _, rfl, e, T.cls_Seats, T.noat 74 rfl, flds_seats W l, q⟩
theorem WayAt.lots {H : Hp} {a : Addr} {W : Hall} (h : WayAt K H a W) (T : Tx K mg) {Q : V → Prop} (q : ∀ l, FzL H l (nats W.lots) → Q (.ref l)) : ∃ b C dx fs v, V.ref a = .ref b ∧ H b = some (.ins C dx fs) ∧ Cls K C ∧ NoAttr K C "lots" ∧ fs.lookup ("lots" : Str) = some v ∧ Q v :=
  let ⟨dx, l, e, f⟩ := h.ob; ⟨a, _, dx, _, _, rfl, e, T.cls_Seats, T.noat 75 rfl, flds_lots W l, q l f⟩
/-- a method of a way is called -/
theorem WayAt.meth {H : Hp} {a : Addr} {W : Hall} (h : WayAt K H a W) {m : Str} (h1 : ¬ m = "lots") (h2 : ¬ m = "seats") (h3 : ¬ m = "hands") {Q : Prop} (q : Q) : ∃ b dx fs, V.ref a = .ref b ∧ H b = some (.ins (He.ga K "Seats") dx fs) ∧ fs.lookup m = none ∧ Q :=
  let ⟨dx, l, e, _⟩ := h.ob; ⟨a, dx, _, rfl, e, flds_no W l h1 h2 h3, q⟩
/-! ### lots_of -/
def dNats (l : List Nat) : PyData := .list (l.map fun (n : Nat) => .int (n : Int))
theorem dNats_all (l : List Nat) : PyData.canLayAll0 (l.map fun (n : Nat) => PyData.int (n : Int)) = true ∧ PyData.depthAll (l.map fun (n : Nat) => PyData.int (n : Int)) = 0 ∧ PyData.eqvAll (l.map fun (n : Nat) => PyData.int (n : Int)) (l.map fun (n : Nat) => PyData.int (n : Int)) = true := by
  induction l with
  | nil => simp [PyData.canLayAll0, PyData.depthAll, PyData.eqvAll]
  | cons a r ih => simp [PyData.canLayAll0, PyData.depthAll, PyData.eqvAll, PyData.canLay0, PyData.depth, PyData.eqv, ih]
theorem dNats_shaped (l : List Nat) : SeqAt.shaped (dNats l) = true := by
  obtain ⟨a, b, _⟩ := dNats_all l
  simp [dNats, SeqAt.shaped, PyData.canLay0, PyData.depth, a, b]
theorem dNats_refl (l : List Nat) : PyData.eqv (dNats l) (dNats l) = true := by
  obtain ⟨_, _, c⟩ := dNats_all l
  simp [dNats, PyData.eqv, c]
theorem nats_dp {H : Hp} : ∀ l : List Nat, DpAll K H (nats l) (l.map fun (n : Nat) => PyData.int (n : Int))
  | [] => .nil
  | _ :: r => .cons (.int _) (nats_dp r)
theorem nats_ints (l : List Nat) : nats l = (l.map fun (n : Nat) => (n : Int)).map V.int := by rw [List.map_map]; rfl
theorem sorted_range {ns' : List Int} {ls : List Nat} {n : Nat} (p : ns'.Perm (ls.map fun (n : Nat) => (n : Int))) (s : ns'.Pairwise (· ≤ ·)) (q : ls.Perm (List.range n)) : ns' = (List.range n).map fun (n : Nat) => (n : Int) := by
  have p2 : ns'.Perm ((List.range n).map fun (n : Nat) => (n : Int)) := p.trans (q.map _)
  have s2 : ((List.range n).map fun (n : Nat) => (n : Int)).Pairwise (· ≤ ·) := by
    rw [List.pairwise_map]
    exact List.Pairwise.imp (fun h => by omega) List.pairwise_lt_range
  exact List.Perm.eq_of_pairwise (le := (· ≤ ·)) (fun a b _ _ h1 h2 => Int.le_antisymm h1 h2) s s2 p2
theorem rgV_nats (n : Nat) : rgV 0 (n : Int) = nats (List.range n) := by
  unfold rgV
  rw [show ((n : Int) - 0).toNat = n by omega]
  refine List.map_congr_left fun i _ => ?_
  rw [Int.zero_add]
def sp_lots_of (K : PySem.W.Frag) : Sp := fun vs H Q _ => ∃ (p : Addr) (n : Nat) (ls : List Nat), vs = [.int (n : Int), .ref p] ∧ H p = some (.lst (nats ls)) ∧ ls.Perm (List.range n) ∧ n ≤ 12 ∧ ∀ H' l, Same H H' → H l = none → FzL H' l (nats ls) → Q (.ref l) H'
abbrev N_lots_of : List Str := ["hands", "lots", "lot"]
theorem sc_lots_of : FnScope N_lots_of ["hands", "lots"] (defScope s_lots_of) := ⟨rfl, rfl, rfl, by decide +kernel, rfl, by decide +kernel, by decide +kernel⟩
theorem ok_lots_of (T : Tx K mg) {fd : FuncData} (F : FnD K d_lots_of fd) : FnOk P w K mg base CX0 2 (He.fAd K d_lots_of.at_) fd ["hands", "lots"] (sp_lots_of K) := by
  have nd := sc_lots_of.nd
  refine okx F sc_lots_of (fun vs H Q E h => ?_) (fun cdv A outer s H vs Q E hr h => ?_)
  · obtain ⟨p, n, ls, rfl, _⟩ := h
    rfl
  · obtain ⟨p, n, ls, rfl, hp, pm, hn, k⟩ := h
    have hl : ls.length = n := by rw [pm.length_eq, List.length_range]
    refine ⟨_, (pss_cons (ps_if (pt_cmpR op_isN (pv 1) pe_non (nomark _)) (pss_one ps_never) pss_nil)
      (pss_cons (ps_if (PW.pt (pw_or (pt_not (pt_val (pe_callB call_isi (by rfl) (T.free 65 rfl) (by decide +kernel) (pa_cons (pv 1) (pa_cons (pe_bltn (v := .ty "list") (u := .type "list") (by rfl) (T.free 60 rfl) (by decide +kernel) rfl) pa_nil))))) (pw_or1 (pt_cmpR op_ne (pe_callB call_len_seq (by rfl) (T.free 54 rfl) (by decide +kernel) (pa_cons (pv 1) pa_nil)) (pv 0) (nomark _))))) (pss_one ps_never) pss_nil)
      (pss_cons (ps_for PassesOwn.never rfl (pi_list (pv 1)) (pg_name (i := 2) nd rfl (Or.inl rfl)) (pss_one (ps_if (pt_not (pt_val (pc_is_whole T (hr.mono (by decide)) (by rfl) (pa_cons (pv 2) pa_nil)))) (pss_one ps_never) pss_nil)))
      (pss_cons (ps_if (pt_cmpR (op_neD hr.units) (pe_callB cr_sorted (by rfl) (T.free 58 rfl) (by decide +kernel) (pa_cons (pv 1) pa_nil)) (pe_listRg rfl (by rfl) (T.free 60 rfl) (prg_1 (by rfl) (T.free 59 rfl) (pv 0))) (nomark _)) (pss_one ps_never) pss_nil)
      (pss_one (ps_ret (pe_fz (pe_callTy call_list_of (by rfl) (T.free 60 rfl) (by decide +kernel) (pa_cons (pv 1) pa_nil))))))))), ?_⟩
    refine ⟨_, rfl, rfl, _, rfl, ?_⟩
    refine ite2 (fun hc => absurd hc (by simp)) (fun _ => ?_)
    refine ⟨_, rfl, _, _, _, _, true, rfl, .ty _, .base (.lst hp), kit_ty (by decide +kernel), true, rfl, iteF ?_⟩
    refine ⟨_, rfl, p, _, rfl, .inl (SqL.of hp), _, rfl, rfl, _, rfl, ?_⟩
    rw [List.length_map, hl]
    refine ite2 (fun hc => absurd hc (by simp)) (fun _ => ?_)
    refine ⟨_, rfl, p, rfl, ⟨_, SqL.of hp⟩, for_list (K := K) (a := p) (xs := nats ls) (fun i σ H' => H' = H ∧ ∃ t, σ = [some (.int (n : Int)), some (.ref p), t]) ⟨rfl, _, rfl⟩ ?_ ?_ ?_⟩
    · rintro i σ H' _ ⟨rfl, _⟩
      exact SqL.of hp
    · rintro i x σ H' hx ⟨rfl, t, rfl⟩
      rw [List.getElem?_map] at hx
      obtain ⟨a, ha, rfl⟩ := Option.map_eq_some_iff.mp hx
      exact ⟨_, rfl, _, rfl, true, rfl, iteF ⟨rfl, _, rfl⟩⟩
    · rintro σ H' ⟨rfl, t, rfl⟩
      refine ⟨_, rfl, p, ls.map fun (n : Nat) => (n : Int), rfl, SqL.of (by rw [← nats_ints]; exact hp), by rw [List.length_map, hl]; omega, fun ns' q perm sorted hq => ?_⟩
      have e := sorted_range perm sorted pm
      subst e
      have S1 : Same H' (upd H' q (.lst (((List.range n).map fun (n : Nat) => (n : Int)).map V.int))) := Same.new hq
      refine ⟨_, rfl, _, rfl, RgOk.of_le (by omega) (by omega) (by omega) (by omega), fun r hr' => ?_⟩
      have S2 := S1.trans (Same.new hr' (o := .lst (rgV 0 (n : Int))))
      refine ⟨dNats (List.range n), dNats (List.range n), .lst (SqL.of ((Same.new hr') _ _ upd_same)) (by rw [← nats_ints]; exact nats_dp _), .lst (SqL.of upd_same) (by rw [rgV_nats]; exact nats_dp _), dNats_shaped _, dNats_shaped _, ?_⟩
      rw [dNats_refl]
      refine ⟨_, rfl, iteF ?_⟩
      refine ⟨_, rfl, p, _, rfl, .inl (SqL.of (S2 _ _ hp)), fun l hl' => ⟨l, _, rfl, upd_same, fun o => ?_⟩⟩
      have hl0 : H' l = none := S2.free hl'
      exact k _ l (Same.at (S2.trans (Same.new hl')) hl0) hl0 FzL.mk
theorem pc_lots_of {K : PySem.W.Frag} {mg : Str → Option Value} (T : Tx K mg) {X : Cx} (hr : Room 2 X.A) (hg : Gl X "lots_of") {p pos : Pos} {e : Expr} {es : List Expr} {t : TA} (ha : PA X (e :: es) t) (hK : X.K = K := by rfl) (hM : X.mg = mg := by rfl) (he : starEach (e :: es) X.env = (false, eval e X.env) :: starEach es X.env := by rfl) (hpl : (backTo pos (starEach es X.env)).any (·.1) = false := by rfl) : PE X (.Call (.Name "lots_of" p) (e :: es) [] pos) (tCall (sp_lots_of K) [] E0 t) := by
  subst hK hM
  obtain ⟨fd, F⟩ := T.says.def_ 34 (d := d_lots_of) rfl
  exact pe_call (ok_lots_of T F) hr hg (T.glo 34 rfl) F.kp (F.bindsN fun _ _ _ _ _ _ us hl => match us, hl with | [_, _], _ => rfl) .nil pass0 ha (by decide) he hpl
end
end K75
-- K10
/-! ways made: Way.__init__, Seats.__init__; asked: ahead, quota. -/
namespace K75
open PySem PySem.Spec PyProof.Rows L2
/-- C.m(e, ..): a def read off a class and called with all its arguments written -/
theorem pe_clsfn {X : Cx} {CX : CXT} {k : Nat} {f C : Addr} {fd : FuncData} {ps : List Str} {sp : Sp} {dvs : List V} {ds : List Value} {E : XK} {x m : Str} {p apos pos : Pos} {e : Expr} {es : List Expr} {t : TA} {mc : Value} {pl : Sem Bool}
    (F : FnOk X.prog X.w X.K X.mg X.base CX k f fd ps sp) (hr : Room k X.A) (hg : Gl X x) (hm : X.mg x = some (.ref C)) (r : ClX.CRead X.K C mc) (at_ : PySem.W.findCls X.K (.ref C) mc m = some (.val (.ref f))) (hk : PySem.W.keepIn X.K (.ref f) = true) (hb : Binds X.K fd ps ds) (hd : Vals dvs ds) (hx : Passes CX X E)
    (ha : PA X (e :: es) t) (hdb : (x == ("__debug__" : Str)) = false := by decide) (he : starEach (e :: es) X.env = (false, eval e X.env) :: starEach es X.env := by rfl) (hpl : (backTo pos (starEach es X.env)).any (·.1) = false := by rfl)
    (ht : eval (.Call (.Attribute (.Name x p) m apos) (e :: es) [] pos) X.env = (do
      let ov ← eval (.Name x p) X.env
      standAt apos.atName
      let (f, first) ← holding [ov] (getMethod ov m pl)
      callWith pos f first (backTo pos (starEach (e :: es) X.env)) (backToKw pos (keywordEach [] X.env))) := by rfl) :
    PE X (.Call (.Attribute (.Name x p) m apos) (e :: es) [] pos) (tCall sp dvs E t) := by
  refine ⟨fun pins s σ H Q I h => ?_⟩
  refine PySem.W.methodCall_KW (pl := pl) (ld_glob I hg hm ?_ hdb) ht
  refine PySem.W.method_cls I.kIn r.ga (ClX.getcval_ok I r (v := .ref f) ⟨at_, rfl⟩ fun s1 I1 => ?_)
  refine PySem.W.callWith_K (first := []) (h₀ := X.base) I1.ok.mod.kin hk (thn (ha.run pos pins s1 σ H _ I1 h) fun us s2 ⟨vs, H2, I2, r2, q2⟩ => ⟨I2.kIn, ?_⟩) he hpl
  exact run_fn F hr hb hd hx I2 r2 q2
section
variable {P : Program} {w : World} {K : PySem.W.Frag} {mg : Str → Option Value} {base : Heap}
theorem Tx.way_read (T : Tx K mg) : ClX.CRead K (He.ga K "Way") (.type "type") ∧ PySem.W.findCls K (.ref (He.ga K "Way")) (.type "type") "__init__" = some (.val (.ref (He.fAd K d_Way_init.at_))) := by
  have h := (He.ba (He.ba (He.ba (He.ba (He.ba (He.ba (He.ba T.ex).2).2).2).2).2).2).2
  obtain ⟨h1, h2⟩ := He.ba h
  obtain ⟨h3, h4⟩ := He.ba h2
  refine ⟨⟨h3, He.eqO_ok h1⟩, ?_⟩
  split at h4
  · rename_i a e
    rw [e, of_decide_eq_true h4]
  · cases h4
def sp_Way_init (K : PySem.W.Frag) : Sp := fun vs H Q _ => ∃ (p pl dx : Addr) (W : Hall), vs = [.ref p, .int (W.hands : Int), .int (W.seats : Int), .ref pl] ∧ H p = some (.ins (He.ga K "Seats") dx []) ∧ H pl = some (.lst (nats W.lots)) ∧ HallOk W ∧
  ∀ H' l, (∀ b o, H b = some o → b ≠ p → H' b = some o) → H l = none → H' p = some (.ins (He.ga K "Seats") dx (flds W l)) → FzL H' l (nats W.lots) → Q .non H'
abbrev N_Way_init : List Str := ["self", "hands", "seats", "lots"]
theorem sc_Way_init : FnScope N_Way_init ["self", "hands", "seats", "lots"] (defScope s_Way_init) := ⟨rfl, rfl, rfl, by decide +kernel, rfl, by decide +kernel, by decide +kernel⟩
theorem ok_Way_init (T : Tx K mg) {fd : FuncData} (F : FnD K d_Way_init fd) : FnOk P w K mg base CX0 3 (He.fAd K d_Way_init.at_) fd ["self", "hands", "seats", "lots"] (sp_Way_init K) := by
  have nd := sc_Way_init.nd
  refine okx F sc_Way_init (fun vs H Q E h => ?_) (fun cdv A outer s H vs Q E hr h => ?_)
  · obtain ⟨p, pl, dx, W, rfl, _⟩ := h
    rfl
  · obtain ⟨p, pl, dx, W, rfl, hp, hpl, ok, k⟩ := h
    have h4 := ok.h4
    have hs := ok.s1
    have hsh := ok.sh
    have npl : pl ≠ p := ne_of hpl hp (by intro z; cases z)
    refine ⟨_, (pss_cons (ps_if (PW.pt (pw_or (pt_not (pt_val (pc_is_whole T (hr.mono (by decide)) (by rfl) (pa_cons (pv 1) pa_nil)))) (pw_or1 (pt_not (pt_chain op_le op_le pe_int (pv 1) (g_MOST_HANDS T)))))) (pss_one ps_never) pss_nil)
      (pss_cons (ps_if (PW.pt (pw_or (pt_not (pt_val (pc_is_whole T (hr.mono (by decide)) (by rfl) (pa_cons (pv 2) pa_nil)))) (pw_or1 (pt_not (pt_chain op_le op_le pe_int (pv 2) (g_MOST_SEATS T)))))) (pss_one ps_never) pss_nil)
      (pss_cons (ps_fld (pv 0) (pv 1) rfl)
      (pss_cons (ps_fld (pv 0) (pv 2) rfl)
      (pss_one (ps_fld (pv 0) (pc_lots_of T (hr.mono (by decide)) (by rfl) (pa_cons (pv 1) (pa_cons (pv 3) pa_nil))) rfl)))))), ?_⟩
    refine ⟨_, rfl, _, rfl, true, rfl, iteF ?_⟩
    refine ⟨_, rfl, _, _, rfl, rfl, _, rfl, ?_⟩
    rw [show decide ((1 : Int) ≤ (W.hands : Int)) = true from decide_eq_true (by omega)]
    refine iteT ⟨_, _, rfl, rfl, _, rfl, ?_⟩
    rw [show decide ((W.hands : Int) ≤ 12) = true from decide_eq_true (by omega)]
    refine iteF ?_
    refine ⟨_, rfl, _, rfl, true, rfl, iteF ?_⟩
    refine ⟨_, rfl, _, _, rfl, rfl, _, rfl, ?_⟩
    rw [show decide ((1 : Int) ≤ (W.seats : Int)) = true from decide_eq_true (by omega)]
    refine iteT ⟨_, _, rfl, rfl, _, rfl, ?_⟩
    rw [show decide ((W.seats : Int) ≤ 60) = true from decide_eq_true (by omega)]
    refine iteF ?_
    refine ⟨_, rfl, _, rfl, p, _, dx, _, rfl, hp, T.cls_Seats, T.noat 73 rfl, (by show 0 < 1000; decide), ?_⟩
    refine ⟨_, rfl, _, rfl, p, _, dx, _, rfl, upd_same, T.cls_Seats, T.noat 74 rfl, (by show 1 < 1000; decide), ?_⟩
    refine ⟨_, rfl, _, rfl, pl, W.hands, W.lots, rfl, (by rw [upd_ne npl, upd_ne npl]; exact hpl), ok.lots, by omega, fun H' l sm hl fz => ?_⟩
    have hpp := sm _ _ (upd_same (H := upd H p (.ins (He.ga K "Seats") dx (putF "hands" (.int (W.hands : Int)) []))) (a := p) (o := .ins (He.ga K "Seats") dx (putF "seats" (.int (W.seats : Int)) (putF "hands" (.int (W.hands : Int)) []))))
    refine ⟨_, rfl, p, _, dx, _, rfl, hpp, T.cls_Seats, T.noat 75 rfl, (by show 2 < 1000; decide), ?_⟩
    have nl : l ≠ p := fun z => by
      rw [z, upd_same] at hl
      cases hl
    refine k _ l (fun b o e hb => ?_) (by rw [upd_ne nl, upd_ne nl] at hl; exact hl) upd_same ?_
    · rw [upd_ne hb]
      exact sm b o (by rw [upd_ne hb, upd_ne hb]; exact e)
    · obtain ⟨o, e⟩ := fz
      exact ⟨o, by rw [upd_ne nl]; exact e⟩
theorem pw_Way_init {K : PySem.W.Frag} {mg : Str → Option Value} (T : Tx K mg) {X : Cx} (hr : Room 3 X.A) {p apos pos : Pos} {pl : Sem Bool} {e : Expr} {es : List Expr} {t : TA} (ha : PA X (e :: es) t) (hg : Gl X "Way" := by rfl) (hK : X.K = K := by rfl) (hM : X.mg = mg := by rfl) (he : starEach (e :: es) X.env = (false, eval e X.env) :: starEach es X.env := by rfl) (hpl : (backTo pos (starEach es X.env)).any (·.1) = false := by rfl)
    (ht : eval (.Call (.Attribute (.Name "Way" p) "__init__" apos) (e :: es) [] pos) X.env = (do
      let ov ← eval (.Name "Way" p) X.env
      standAt apos.atName
      let (f, first) ← holding [ov] (getMethod ov "__init__" pl)
      callWith pos f first (backTo pos (starEach (e :: es) X.env)) (backToKw pos (keywordEach [] X.env))) := by rfl) :
    PE X (.Call (.Attribute (.Name "Way" p) "__init__" apos) (e :: es) [] pos) (tCall (sp_Way_init K) [] E0 t) := by
  subst hK hM
  obtain ⟨fd, F⟩ := T.says.def_ 54 (d := d_Way_init) rfl
  obtain ⟨ds, hd, hb⟩ := F.binds1 (ps := ["self", "hands", "seats", "lots"]) 4 1 (by intro z; cases z) rfl fun TT kV doc pm an cdv ct us its hl hl2 => match us, hl, its, hl2 with | [_, _, _, _], _, [_], _ => ⟨_, rfl, rfl⟩
  exact pe_clsfn (ok_Way_init T F) hr hg (T.glo 52 rfl) T.way_read.1 T.way_read.2 F.kp hb hd pass0 ha (by decide) he hpl ht
/-! ### Seats.__init__, Seats(..) -/
abbrev sp_Seats_init := sp_Way_init
abbrev N_Seats_init : List Str := ["self", "hands", "seats", "lots"]
theorem sc_Seats_init : FnScope N_Seats_init ["self", "hands", "seats", "lots"] (defScope s_Seats_init) := ⟨rfl, rfl, rfl, by decide +kernel, rfl, by decide +kernel, by decide +kernel⟩
theorem ok_Seats_init (T : Tx K mg) {fd : FuncData} (F : FnD K d_Seats_init fd) : FnOk P w K mg base CX0 4 (He.fAd K d_Seats_init.at_) fd ["self", "hands", "seats", "lots"] (sp_Seats_init K) := by
  have nd := sc_Seats_init.nd
  refine okx F sc_Seats_init (fun vs H Q E h => ?_) (fun cdv A outer s H vs Q E hr h => ?_)
  · obtain ⟨p, pl, dx, W, rfl, _⟩ := h
    rfl
  · obtain ⟨p, pl, dx, W, rfl, hp, hpl, ok, k⟩ := h
    have h4 := ok.h4
    have hsh := ok.sh
    refine ⟨_, (pss_cons (ps_expr (pw_Way_init T (hr.mono (by decide)) (pa_cons (pv 0) (pa_cons (pv 1) (pa_cons (pv 2) (pa_cons (pv 3) pa_nil))))))
      (pss_one (ps_if (pt_cmpR op_gt (pv 2) (g_MOST_BY_QUOTA T) (nomark _)) (pss_one ps_never) pss_nil))), ?_⟩
    refine ⟨_, rfl, _, rfl, _, rfl, _, rfl, p, pl, dx, W, rfl, hp, hpl, ok, fun H' l a b c d => ?_⟩
    refine ⟨_, rfl, _, _, rfl, rfl, _, rfl, ite2 (fun hc => ?_) (fun _ => ?_)⟩
    · have : (6 : Int) < (W.seats : Int) := by simpa using hc
      omega
    · exact k H' l a b c d
/-- Seats(hands, seats, lots) -/
theorem pm_Seats {K : PySem.W.Frag} {mg : Str → Option Value} (T : Tx K mg) {X : Cx} (hr : Room 5 X.A) (hg : Gl X "Seats") {p pos : Pos} {e : Expr} {es : List Expr} {t : TA} (ha : PA X (e :: es) t) (hK : X.K = K := by rfl) (hM : X.mg = mg := by rfl) (he : starEach (e :: es) X.env = (false, eval e X.env) :: starEach es X.env := by rfl) (hpl : (backTo pos (starEach es X.env)).any (·.1) = false := by rfl) :
    PE X (.Call (.Name "Seats" p) (e :: es) [] pos) (tMake (He.ga K "Seats") (sp_Seats_init K) [] E0 t) := by
  subst hK hM
  obtain ⟨fd, F⟩ := T.says.def_ 55 (d := d_Seats_init) rfl
  obtain ⟨ds, hd, hb⟩ := F.binds1 (ps := ["self", "hands", "seats", "lots"]) 4 1 (by intro z; cases z) rfl fun TT kV doc pm an cdv ct us its hl hl2 => match us, hl, its, hl2 with | [_, _, _, _], _, [_], _ => ⟨_, rfl, rfl⟩
  exact pe_make (T.mkr 76 rfl) (ok_Seats_init T F) hr hg (T.glo 53 rfl) hb hd pass0 ha (by decide) he hpl
/-! ### ahead, quota -/
theorem idx_at {l : List Nat} {x : Nat} (h : x ∈ l) : ∃ z, (nats l)[l.idxOf x]? = some z ∧ eqV z (.int (x : Int)) = true ∧ ∀ (m : Nat) (z' : V), m < l.idxOf x → (nats l)[m]? = some z' → eqV z' (.int (x : Int)) = false := by
  have hlt : l.idxOf x < l.length := List.idxOf_lt_length_of_mem h
  refine ⟨.int (x : Int), ?_, ?_, fun m z' hm hz => ?_⟩
  · rw [List.getElem?_map, List.getElem?_eq_getElem hlt, List.getElem_idxOf hlt]; rfl
  · simp [eqV]
  · rw [List.getElem?_map] at hz
    obtain ⟨a, ha, rfl⟩ := Option.map_eq_some_iff.mp hz
    have ne : a ≠ x := by
      intro e
      subst e
      obtain ⟨h1, h2⟩ := List.getElem?_eq_some_iff.mp ha
      have := List.not_of_lt_findIdx (p := (· == a)) (xs := l) (i := m) hm
      rw [h2] at this
      simp at this
    simp only [eqV]
    simp
    omega
theorem nats_flat (l : List Nat) : (nats l).all flatV = true := by
  rw [List.all_map, List.all_eq_true]
  intro x _
  rfl
def sp_Way_ahead (K : PySem.W.Frag) : Sp := fun vs H Q _ => ∃ (p : Addr) (W : Hall) (x y : Nat), vs = [.ref p, .int (x : Int), .int (y : Int)] ∧ WayAt K H p W ∧ x ∈ W.lots ∧ y ∈ W.lots ∧ Q (.bl (ahead W.lots x y)) H
abbrev N_Way_ahead : List Str := ["self", "one", "other"]
theorem sc_Way_ahead : FnScope N_Way_ahead ["self", "one", "other"] (defScope s_Way_ahead) := ⟨rfl, rfl, rfl, by decide +kernel, rfl, by decide +kernel, by decide +kernel⟩
theorem ok_Way_ahead (T : Tx K mg) {fd : FuncData} (F : FnD K d_Way_ahead fd) : FnOk P w K mg base CX0 1 (He.fAd K d_Way_ahead.at_) fd ["self", "one", "other"] (sp_Way_ahead K) := by
  have nd := sc_Way_ahead.nd
  refine okx F sc_Way_ahead (fun vs H Q E h => ?_) (fun cdv A outer s H vs Q E hr h => ?_)
  · obtain ⟨p, W, x, y, rfl, _⟩ := h
    rfl
  · obtain ⟨p, W, x, y, rfl, wa, hx, hy, k⟩ := h
    refine ⟨_, (pss_one (ps_ret (pe_cmpR op_lt (pe_bm PySem.F.plainAttrs_list PySem.F.slot_list_index PySem.F.type_list_index mt_index (pe_fld (pv 0) rfl) (pa_cons (pv 1) pa_nil)) (pe_bm PySem.F.plainAttrs_list PySem.F.slot_list_index PySem.F.type_list_index mt_index (pe_fld (pv 0) rfl) (pa_cons (pv 2) pa_nil)) (nomark _)))), ?_⟩
    obtain ⟨z, z1, z2, z3⟩ := idx_at hx
    obtain ⟨u, u1, u2, u3⟩ := idx_at hy
    refine ⟨_, rfl, wa.lots T fun l fz => ⟨.inl ⟨rfl, _, fz.sq⟩, _, rfl, l, _, _, _, z, rfl, rfl, fz.sq, rfl, nats_flat _, z1, z2, z3, ?_⟩⟩
    refine ⟨_, rfl, wa.lots T fun l fz => ⟨.inl ⟨rfl, _, fz.sq⟩, _, rfl, l, _, _, _, u, rfl, rfl, fz.sq, rfl, nats_flat _, u1, u2, u3, ?_⟩⟩
    refine ⟨_, _, rfl, rfl, ?_⟩
    have e : decide (((W.lots.idxOf x : Nat) : Int) < ((W.lots.idxOf y : Nat) : Int)) = ahead W.lots x y := by
      unfold ahead
      rw [decide_eq_decide]; omega
    show Q (.bl (decide (((W.lots.idxOf x : Nat) : Int) < ((W.lots.idxOf y : Nat) : Int)))) H
    rw [e]
    exact k
theorem pq_Way_ahead {K : PySem.W.Frag} {mg : Str → Option Value} (T : Tx K mg) {X : Cx} (hr : Room 1 X.A) {pl : Sem Bool} {apos pos : Pos} {o e : Expr} {es : List Expr} {ta : TE} {t : TA} (ho : PE X o ta) (ha : PA X (e :: es) t) (hK : X.K = K := by rfl) (hM : X.mg = mg := by rfl) (he : starEach (e :: es) X.env = (false, eval e X.env) :: starEach es X.env := by rfl) (hpl : (backTo pos (starEach es X.env)).any (·.1) = false := by rfl)
    (ht : eval (.Call (.Attribute o "ahead" apos) (e :: es) [] pos) X.env = (do
      let ov ← eval o X.env
      standAt apos.atName
      let (f, first) ← holding [ov] (getMethod ov "ahead" pl)
      callWith pos f first (backTo pos (starEach (e :: es) X.env)) (backToKw pos (keywordEach [] X.env))) := by rfl) :
    PE X (.Call (.Attribute o "ahead" apos) (e :: es) [] pos) (tMeth (He.ga K "Seats") "ahead" (sp_Way_ahead K) [] E0 ta t) := by
  subst hK hM
  obtain ⟨fd, F⟩ := T.says.def_ 56 (d := d_Way_ahead) rfl
  exact pe_meth ho (T.cls_Seats) (T.meth_ 77 rfl) (ok_Way_ahead T F) hr (F.bindsN fun _ _ _ _ _ _ us hl => match us, hl with | [_, _, _], _ => rfl) .nil pass0 ha he hpl ht
def sp_Seats_quota (K : PySem.W.Frag) : Sp := fun vs H Q _ => ∃ (p : Addr) (W : Hall) (n : Nat), vs = [.ref p, .int (n : Int)] ∧ WayAt K H p W ∧ W.seats ≤ 60 ∧ Q (.int (quota W.seats n : Nat)) H
abbrev N_Seats_quota : List Str := ["self", "ballots"]
theorem sc_Seats_quota : FnScope N_Seats_quota ["self", "ballots"] (defScope s_Seats_quota) := ⟨rfl, rfl, rfl, by decide +kernel, rfl, by decide +kernel, by decide +kernel⟩
theorem ok_Seats_quota (T : Tx K mg) {fd : FuncData} (F : FnD K d_Seats_quota fd) : FnOk P w K mg base CX0 1 (He.fAd K d_Seats_quota.at_) fd ["self", "ballots"] (sp_Seats_quota K) := by
  have nd := sc_Seats_quota.nd
  refine okx F sc_Seats_quota (fun vs H Q E h => ?_) (fun cdv A outer s H vs Q E hr h => ?_)
  · obtain ⟨p, W, n, rfl, _⟩ := h
    rfl
  · obtain ⟨p, W, n, rfl, wa, hs, k⟩ := h
    refine ⟨_, (pss_one (ps_ret (pe_op op_add (pe_op op_fdivW (pv 1) (pe_op op_add (pe_fld (pv 0) rfl) pe_int)) pe_int))), ?_⟩
    refine ⟨_, rfl, _, rfl, wa.seats T ⟨_, _, rfl, rfl, _, _, rfl, rfl, wide_div (b := 60) (by omega) ?_ (by decide) (by decide), _, _, rfl, rfl, ?_⟩⟩
    · have : ((W.seats : Int) + 1).natAbs = W.seats + 1 := by omega
      rw [this]
      exact Nat.lt_of_le_of_lt (by omega : W.seats + 1 ≤ 61) (by decide)
    · have e : (n : Int) / ((W.seats : Int) + 1) + 1 = ((quota W.seats n : Nat) : Int) := by
        unfold quota
        rw [Int.natCast_add, Int.natCast_ediv]
        rfl
      show Q (.int ((n : Int) / ((W.seats : Int) + 1) + 1)) H
      rw [e]
      exact k
theorem pq_Seats_quota {K : PySem.W.Frag} {mg : Str → Option Value} (T : Tx K mg) {X : Cx} (hr : Room 1 X.A) {pl : Sem Bool} {apos pos : Pos} {o e : Expr} {es : List Expr} {ta : TE} {t : TA} (ho : PE X o ta) (ha : PA X (e :: es) t) (hK : X.K = K := by rfl) (hM : X.mg = mg := by rfl) (he : starEach (e :: es) X.env = (false, eval e X.env) :: starEach es X.env := by rfl) (hpl : (backTo pos (starEach es X.env)).any (·.1) = false := by rfl)
    (ht : eval (.Call (.Attribute o "quota" apos) (e :: es) [] pos) X.env = (do
      let ov ← eval o X.env
      standAt apos.atName
      let (f, first) ← holding [ov] (getMethod ov "quota" pl)
      callWith pos f first (backTo pos (starEach (e :: es) X.env)) (backToKw pos (keywordEach [] X.env))) := by rfl) :
    PE X (.Call (.Attribute o "quota" apos) (e :: es) [] pos) (tMeth (He.ga K "Seats") "quota" (sp_Seats_quota K) [] E0 ta t) := by
  subst hK hM
  obtain ⟨fd, F⟩ := T.says.def_ 58 (d := d_Seats_quota) rfl
  exact pe_meth ho (T.cls_Seats) (T.meth_ 79 rfl) (ok_Seats_quota T F) hr (F.bindsN fun _ _ _ _ _ _ us hl => match us, hl with | [_, _], _ => rfl) .nil pass0 ha he hpl ht
end
end K75
-- K11
/-! seats: most_of, fewest_of, deed_due. -/
namespace K75
open PySem PySem.Spec PyProof.Rows L2
def Best (lots : List Nat) (T : Nat → Rat) (l : List Nat) (h : Nat) : Prop := h ∈ l ∧ ∀ x ∈ l, x ≠ h → T x ≤ T h ∧ (ahead lots x h = true → T x < T h)
def Worst (lots : List Nat) (T : Nat → Rat) (l : List Nat) (h : Nat) : Prop := h ∈ l ∧ ∀ x ∈ l, x ≠ h → T h ≤ T x ∧ (ahead lots h x = true → T h < T x)
theorem ahead_tr {lots : List Nat} {x y z : Nat} (h1 : ahead lots x y = true) (h2 : ahead lots y z = true) : ahead lots x z = true := by
  simp only [ahead, decide_eq_true_eq] at *; omega
theorem ahead_as {lots : List Nat} {x y : Nat} (h1 : ahead lots x y = true) : ¬ ahead lots y x = true := by
  simp only [ahead, decide_eq_true_eq] at *; omega
theorem Best.step {lots : List Nat} {T : Nat → Rat} {l : List Nat} {b y : Nat} (h : Best lots T l b) :
    ((T b < T y ∨ (T b = T y ∧ ahead lots y b = true)) → Best lots T (y :: l) y) ∧ (¬ (T b < T y ∨ (T b = T y ∧ ahead lots y b = true)) → Best lots T (y :: l) b) := by
  obtain ⟨hm, ha⟩ := h
  constructor
  · intro c
    refine ⟨List.mem_cons_self, fun x hx hxy => ?_⟩
    rcases List.mem_cons.mp hx with rfl | hx
    · exact absurd rfl hxy
    · by_cases e : x = b
      · subst e
        rcases c with c | ⟨c1, c2⟩
        · exact ⟨Rat.le_of_lt c, fun _ => c⟩
        · exact ⟨by rw [c1]; exact Rat.le_refl, fun z => absurd z (ahead_as c2)⟩
      · obtain ⟨a1, a2⟩ := ha x hx e
        rcases c with c | ⟨c1, c2⟩
        · exact ⟨by grind, fun _ => by grind⟩
        · exact ⟨by grind, fun z => by have := a2 (ahead_tr z c2); grind⟩
  · intro c
    refine ⟨List.mem_cons_of_mem _ hm, fun x hx hxb => ?_⟩
    rcases List.mem_cons.mp hx with rfl | hx
    · have c1 : ¬ T b < T x := fun z => c (.inl z)
      refine ⟨by grind, fun z => ?_⟩
      have c2 : ¬ T b = T x := fun e => c (.inr ⟨e, z⟩)
      grind
    · exact ha x hx hxb
theorem Worst.step {lots : List Nat} {T : Nat → Rat} {l : List Nat} {b y : Nat} (h : Worst lots T l b) :
    ((T y < T b ∨ (T b = T y ∧ ahead lots b y = true)) → Worst lots T (y :: l) y) ∧ (¬ (T y < T b ∨ (T b = T y ∧ ahead lots b y = true)) → Worst lots T (y :: l) b) := by
  obtain ⟨hm, ha⟩ := h
  constructor
  · intro c
    refine ⟨List.mem_cons_self, fun x hx hxy => ?_⟩
    rcases List.mem_cons.mp hx with rfl | hx
    · exact absurd rfl hxy
    · by_cases e : x = b
      · subst e
        rcases c with c | ⟨c1, c2⟩
        · exact ⟨Rat.le_of_lt c, fun _ => c⟩
        · exact ⟨by rw [c1]; exact Rat.le_refl, fun z => absurd z (ahead_as c2)⟩
      · obtain ⟨a1, a2⟩ := ha x hx e
        rcases c with c | ⟨c1, c2⟩
        · exact ⟨by grind, fun _ => by grind⟩
        · exact ⟨by grind, fun z => by have := a2 (ahead_tr c2 z); grind⟩
  · intro c
    refine ⟨List.mem_cons_of_mem _ hm, fun x hx hxb => ?_⟩
    rcases List.mem_cons.mp hx with rfl | hx
    · have c1 : ¬ T x < T b := fun z => c (.inl z)
      refine ⟨by grind, fun z => ?_⟩
      have c2 : ¬ T b = T x := fun e => c (.inr ⟨e, z⟩)
      grind
    · exact ha x hx hxb
theorem Best.perm {lots : List Nat} {T : Nat → Rat} {l m : List Nat} {b : Nat} (h : Best lots T l b) (e : ∀ x, x ∈ l ↔ x ∈ m) : Best lots T m b := ⟨(e b).mp h.1, fun x hx => h.2 x ((e x).mpr hx)⟩
theorem Worst.perm {lots : List Nat} {T : Nat → Rat} {l m : List Nat} {b : Nat} (h : Worst lots T l b) (e : ∀ x, x ∈ l ↔ x ∈ m) : Worst lots T m b := ⟨(e b).mp h.1, fun x hx => h.2 x ((e x).mpr hx)⟩
theorem Best.one (lots : List Nat) (T : Nat → Rat) (x : Nat) : Best lots T [x] x := ⟨List.mem_singleton.mpr rfl, fun y hy hne => absurd (List.mem_singleton.mp hy) hne⟩
theorem Worst.one (lots : List Nat) (T : Nat → Rat) (x : Nat) : Worst lots T [x] x := ⟨List.mem_singleton.mpr rfl, fun y hy hne => absurd (List.mem_singleton.mp hy) hne⟩
section
variable {P : Program} {w : World} {K : PySem.W.Frag} {mg : Str → Option Value} {base : Heap}
/-- fractions of a list, by place -/
theorem rats_at {H : Hp} {xs : List V} {rs : List Rat} (rel : Paired (rRat K H) xs rs) {x : Nat} (h : x < rs.length) : ∃ v, xs[x]? = some v ∧ rRat K H v (rs.getD x 0) := by
  have e : rs[x]? = some (rs.getD x 0) := by rw [List.getD_eq_getElem?_getD, List.getElem?_eq_getElem h]; rfl
  exact paired_at rel e
theorem sm_at {rs : List Rat} (h : ∀ x ∈ rs, Sm x) (x : Nat) (hx : x < rs.length) : Sm (rs.getD x 0) := by
  rw [List.getD_eq_getElem?_getD, List.getElem?_eq_getElem hx]
  exact h _ (List.getElem_mem hx)
def sp_pick (B : List Nat → (Nat → Rat) → List Nat → Nat → Prop) (K : PySem.W.Frag) : Sp := fun vs H Q _ => ∃ (p vl : Addr) (sv : V) (W : Hall) (rs : List Rat) (l : List Nat), vs = [.ref p, sv, .ref vl] ∧ WayAt K H p W ∧ rRats K H sv rs ∧ SqL K H vl (nats l) ∧ l ≠ [] ∧
  (∀ x ∈ l, x < rs.length ∧ x ∈ W.lots) ∧ (∀ x ∈ rs, Sm x) ∧ ∀ h, B W.lots (fun x => rs.getD x 0) l h → Q (.int (h : Int)) H
abbrev sp_most_of := sp_pick Best
abbrev sp_fewest_of := sp_pick Worst
abbrev N_most_of : List Str := ["way", "sums", "some", "best", "hand"]
theorem sc_most_of : FnScope N_most_of ["way", "sums", "some"] (defScope s_most_of) := ⟨rfl, rfl, rfl, by decide +kernel, rfl, by decide +kernel, by decide +kernel⟩
theorem ok_most_of (T : Tx K mg) {fd : FuncData} (F : FnD K d_most_of fd) : FnOk P w K mg base CX0 2 (He.fAd K d_most_of.at_) fd ["way", "sums", "some"] (sp_most_of K) := by
  have nd := sc_most_of.nd
  refine okx F sc_most_of (fun vs H Q E h => ?_) (fun cdv A outer s H vs Q E hr h => ?_)
  · obtain ⟨p, vl, sv, W, rs, l, rfl, _⟩ := h
    rfl
  · obtain ⟨p, vl, sv, W, rs, l, rfl, wa, ⟨q, qs, rfl, fz, rel⟩, hl, hne, hb, sm, k⟩ := h
    refine ⟨_, (pss_cons (ps_set (i := 3) nd rfl (Or.inl rfl) (pe_ix ix_list (pv 2) pe_int (fun _ _ => rfl)))
      (pss_cons (ps_for PassesOwn.never rfl (pi_list (pv 2)) (pg_name (i := 4) nd rfl (Or.inl rfl)) (pss_one (ps_if (PW.pt (pw_or (pt_val (pc_under T (hr.mono (by decide)) (by rfl) (pa_cons (pe_ix ix_list (pv 1) (pv 3) (fun _ _ => rfl)) (pa_cons (pe_ix ix_list (pv 1) (pv 4) (fun _ _ => rfl)) pa_nil)))) (pw_or1 (PW.pt (pw_and (pt_cmpR (op_eqD hr.units) (pe_ix ix_list (pv 1) (pv 3) (fun _ _ => rfl)) (pe_ix ix_list (pv 1) (pv 4) (fun _ _ => rfl)) (nomark _)) (pw_and1 (pt_val (pq_Way_ahead T (hr.mono (by decide)) (pv 0) (pa_cons (pv 4) (pa_cons (pv 3) pa_nil)))))))))) (pss_one (ps_set (i := 3) nd rfl (Or.inl rfl) (pv 4))) pss_nil)))
      (pss_one (ps_ret (pv 3))))), ?_⟩
    obtain ⟨a, r, rfl⟩ : ∃ a r, l = a :: r := List.exists_cons_of_ne_nil hne
    refine ⟨_, rfl, vl, _, _, _, rfl, rfl, hl, (at_of (j := 0) rfl rfl), ?_⟩
    refine ⟨_, rfl, vl, rfl, ⟨_, hl⟩, for_list (K := K) (a := vl) (xs := nats (a :: r)) (fun i σ H' => H' = H ∧ ∃ (b : Nat) (t : Option V), σ = [some (.ref p), some (.ref q), some (.ref vl), some (.int (b : Int)), t] ∧ Best W.lots (fun x => rs.getD x 0) (((a :: r).take i).reverse ++ [a]) b) ⟨rfl, a, none, rfl, Best.one _ _ _⟩ ?_ ?_ ?_⟩
    · rintro i σ H' _ ⟨rfl, _⟩
      exact hl
    · rintro i x σ H' hx ⟨rfl, b, t, rfl, hB⟩
      rw [List.getElem?_map] at hx
      obtain ⟨y, hy, rfl⟩ := Option.map_eq_some_iff.mp hx
      have hym : y ∈ a :: r := List.mem_of_getElem? hy
      have hbm : b ∈ a :: r := by
        rcases List.mem_append.mp hB.1 with z | z
        · exact List.mem_of_mem_take (List.mem_reverse.mp z)
        · rw [List.mem_singleton.mp z]; exact List.mem_cons_self
      obtain ⟨u, hu, ru⟩ := rats_at rel (hb b hbm).1
      obtain ⟨v, hv, rv⟩ := rats_at rel (hb y hym).1
      have nxt : ∀ c, Best W.lots (fun x => rs.getD x 0) (y :: (((a :: r).take i).reverse ++ [a])) c → Best W.lots (fun x => rs.getD x 0) (((a :: r).take (i + 1)).reverse ++ [a]) c := fun c hc => by
        rw [take_snoc hy, List.reverse_append]
        exact hc
      refine ⟨_, rfl, _, rfl, q, qs, _, _, rfl, rfl, fz.sq, atI_nat hu, _, rfl, _, rfl, q, qs, _, _, rfl, rfl, fz.sq, atI_nat hv, ?_⟩
      refine ⟨u, v, _, _, rfl, ru, rv, sm_at sm b (hb b hbm).1, sm_at sm y (hb y hym).1, _, rfl, ite2 (fun c1 => ?_) (fun c1 => ?_)⟩
      · have c1' : rs.getD b 0 < rs.getD y 0 := by simpa using c1
        exact ⟨_, rfl, rfl, y, _, rfl, nxt y (hB.step.1 (.inl c1'))⟩
      · have c1' : ¬ rs.getD b 0 < rs.getD y 0 := by simpa using c1
        refine ⟨_, rfl, _, rfl, q, qs, _, _, rfl, rfl, fz.sq, atI_nat hu, _, rfl, _, rfl, q, qs, _, _, rfl, rfl, fz.sq, atI_nat hv, ?_⟩
        refine ⟨_, _, rat_dp ru, rat_dp rv, dRat_shaped _, dRat_shaped _, _, rfl, ?_⟩
        rw [dRat_eqv]
        refine ite2 (fun c2 => ?_) (fun c2 => ?_)
        · have c2' : rs.getD b 0 = rs.getD y 0 := by simpa using c2
          refine ⟨_, rfl, wa.meth (by decide +kernel) (by decide +kernel) (by decide +kernel) ⟨_, rfl, _, rfl, p, W, y, b, rfl, wa, (hb y hym).2, (hb b hbm).2, _, rfl, ite2 (fun c3 => ?_) (fun c3 => ?_)⟩⟩
          · exact ⟨_, rfl, rfl, y, _, rfl, nxt y (hB.step.1 (.inr ⟨c2', c3⟩))⟩
          · exact ⟨rfl, b, _, rfl, nxt b (hB.step.2 fun z => z.elim c1' fun z => c3 z.2)⟩
        · have c2' : ¬ rs.getD b 0 = rs.getD y 0 := by simpa using c2
          exact ⟨rfl, b, _, rfl, nxt b (hB.step.2 fun z => z.elim c1' fun z => c2' z.1)⟩
    · rintro σ H' ⟨rfl, b, t, rfl, hB⟩
      refine ⟨_, rfl, k b (hB.perm fun x => ?_)⟩
      rw [List.length_map, List.take_length]
      simp [or_comm]
theorem pc_most_of {K : PySem.W.Frag} {mg : Str → Option Value} (T : Tx K mg) {X : Cx} (hr : Room 2 X.A) (hg : Gl X "most_of") {p pos : Pos} {e : Expr} {es : List Expr} {t : TA} (ha : PA X (e :: es) t) (hK : X.K = K := by rfl) (hM : X.mg = mg := by rfl) (he : starEach (e :: es) X.env = (false, eval e X.env) :: starEach es X.env := by rfl) (hpl : (backTo pos (starEach es X.env)).any (·.1) = false := by rfl) : PE X (.Call (.Name "most_of" p) (e :: es) [] pos) (tCall (sp_most_of K) [] E0 t) := by
  subst hK hM
  obtain ⟨fd, F⟩ := T.says.def_ 35 (d := d_most_of) rfl
  exact pe_call (ok_most_of T F) hr hg (T.glo 35 rfl) F.kp (F.bindsN fun _ _ _ _ _ _ us hl => match us, hl with | [_, _, _], _ => rfl) .nil pass0 ha (by decide) he hpl
abbrev N_fewest_of : List Str := ["way", "sums", "some", "worst", "hand"]
theorem sc_fewest_of : FnScope N_fewest_of ["way", "sums", "some"] (defScope s_fewest_of) := ⟨rfl, rfl, rfl, by decide +kernel, rfl, by decide +kernel, by decide +kernel⟩
theorem ok_fewest_of (T : Tx K mg) {fd : FuncData} (F : FnD K d_fewest_of fd) : FnOk P w K mg base CX0 2 (He.fAd K d_fewest_of.at_) fd ["way", "sums", "some"] (sp_fewest_of K) := by
  have nd := sc_fewest_of.nd
  refine okx F sc_fewest_of (fun vs H Q E h => ?_) (fun cdv A outer s H vs Q E hr h => ?_)
  · obtain ⟨p, vl, sv, W, rs, l, rfl, _⟩ := h
    rfl
  · obtain ⟨p, vl, sv, W, rs, l, rfl, wa, ⟨q, qs, rfl, fz, rel⟩, hl, hne, hb, sm, k⟩ := h
    refine ⟨_, (pss_cons (ps_set (i := 3) nd rfl (Or.inl rfl) (pe_ix ix_list (pv 2) pe_int (fun _ _ => rfl)))
      (pss_cons (ps_for PassesOwn.never rfl (pi_list (pv 2)) (pg_name (i := 4) nd rfl (Or.inl rfl)) (pss_one (ps_if (PW.pt (pw_or (pt_val (pc_under T (hr.mono (by decide)) (by rfl) (pa_cons (pe_ix ix_list (pv 1) (pv 4) (fun _ _ => rfl)) (pa_cons (pe_ix ix_list (pv 1) (pv 3) (fun _ _ => rfl)) pa_nil)))) (pw_or1 (PW.pt (pw_and (pt_cmpR (op_eqD hr.units) (pe_ix ix_list (pv 1) (pv 3) (fun _ _ => rfl)) (pe_ix ix_list (pv 1) (pv 4) (fun _ _ => rfl)) (nomark _)) (pw_and1 (pt_val (pq_Way_ahead T (hr.mono (by decide)) (pv 0) (pa_cons (pv 3) (pa_cons (pv 4) pa_nil)))))))))) (pss_one (ps_set (i := 3) nd rfl (Or.inl rfl) (pv 4))) pss_nil)))
      (pss_one (ps_ret (pv 3))))), ?_⟩
    obtain ⟨a, r, rfl⟩ : ∃ a r, l = a :: r := List.exists_cons_of_ne_nil hne
    refine ⟨_, rfl, vl, _, _, _, rfl, rfl, hl, (at_of (j := 0) rfl rfl), ?_⟩
    refine ⟨_, rfl, vl, rfl, ⟨_, hl⟩, for_list (K := K) (a := vl) (xs := nats (a :: r)) (fun i σ H' => H' = H ∧ ∃ (b : Nat) (t : Option V), σ = [some (.ref p), some (.ref q), some (.ref vl), some (.int (b : Int)), t] ∧ Worst W.lots (fun x => rs.getD x 0) (((a :: r).take i).reverse ++ [a]) b) ⟨rfl, a, none, rfl, Worst.one _ _ _⟩ ?_ ?_ ?_⟩
    · rintro i σ H' _ ⟨rfl, _⟩
      exact hl
    · rintro i x σ H' hx ⟨rfl, b, t, rfl, hB⟩
      rw [List.getElem?_map] at hx
      obtain ⟨y, hy, rfl⟩ := Option.map_eq_some_iff.mp hx
      have hym : y ∈ a :: r := List.mem_of_getElem? hy
      have hbm : b ∈ a :: r := by
        rcases List.mem_append.mp hB.1 with z | z
        · exact List.mem_of_mem_take (List.mem_reverse.mp z)
        · rw [List.mem_singleton.mp z]; exact List.mem_cons_self
      obtain ⟨u, hu, ru⟩ := rats_at rel (hb b hbm).1
      obtain ⟨v, hv, rv⟩ := rats_at rel (hb y hym).1
      have nxt : ∀ c, Worst W.lots (fun x => rs.getD x 0) (y :: (((a :: r).take i).reverse ++ [a])) c → Worst W.lots (fun x => rs.getD x 0) (((a :: r).take (i + 1)).reverse ++ [a]) c := fun c hc => by
        rw [take_snoc hy, List.reverse_append]
        exact hc
      refine ⟨_, rfl, _, rfl, q, qs, _, _, rfl, rfl, fz.sq, atI_nat hv, _, rfl, _, rfl, q, qs, _, _, rfl, rfl, fz.sq, atI_nat hu, ?_⟩
      refine ⟨v, u, _, _, rfl, rv, ru, sm_at sm y (hb y hym).1, sm_at sm b (hb b hbm).1, _, rfl, ite2 (fun c1 => ?_) (fun c1 => ?_)⟩
      · have c1' : rs.getD y 0 < rs.getD b 0 := by simpa using c1
        exact ⟨_, rfl, rfl, y, _, rfl, nxt y (hB.step.1 (.inl c1'))⟩
      · have c1' : ¬ rs.getD y 0 < rs.getD b 0 := by simpa using c1
        refine ⟨_, rfl, _, rfl, q, qs, _, _, rfl, rfl, fz.sq, atI_nat hu, _, rfl, _, rfl, q, qs, _, _, rfl, rfl, fz.sq, atI_nat hv, ?_⟩
        refine ⟨_, _, rat_dp ru, rat_dp rv, dRat_shaped _, dRat_shaped _, _, rfl, ?_⟩
        rw [dRat_eqv]
        refine ite2 (fun c2 => ?_) (fun c2 => ?_)
        · have c2' : rs.getD b 0 = rs.getD y 0 := by simpa using c2
          refine ⟨_, rfl, wa.meth (by decide +kernel) (by decide +kernel) (by decide +kernel) ⟨_, rfl, _, rfl, p, W, b, y, rfl, wa, (hb b hbm).2, (hb y hym).2, _, rfl, ite2 (fun c3 => ?_) (fun c3 => ?_)⟩⟩
          · exact ⟨_, rfl, rfl, y, _, rfl, nxt y (hB.step.1 (.inr ⟨c2', c3⟩))⟩
          · exact ⟨rfl, b, _, rfl, nxt b (hB.step.2 fun z => z.elim c1' fun z => c3 z.2)⟩
        · have c2' : ¬ rs.getD b 0 = rs.getD y 0 := by simpa using c2
          exact ⟨rfl, b, _, rfl, nxt b (hB.step.2 fun z => z.elim c1' fun z => c2' z.1)⟩
    · rintro σ H' ⟨rfl, b, t, rfl, hB⟩
      refine ⟨_, rfl, k b (hB.perm fun x => ?_)⟩
      rw [List.length_map, List.take_length]
      simp [or_comm]
theorem pc_fewest_of {K : PySem.W.Frag} {mg : Str → Option Value} (T : Tx K mg) {X : Cx} (hr : Room 2 X.A) (hg : Gl X "fewest_of") {p pos : Pos} {e : Expr} {es : List Expr} {t : TA} (ha : PA X (e :: es) t) (hK : X.K = K := by rfl) (hM : X.mg = mg := by rfl) (he : starEach (e :: es) X.env = (false, eval e X.env) :: starEach es X.env := by rfl) (hpl : (backTo pos (starEach es X.env)).any (·.1) = false := by rfl) : PE X (.Call (.Name "fewest_of" p) (e :: es) [] pos) (tCall (sp_fewest_of K) [] E0 t) := by
  subst hK hM
  obtain ⟨fd, F⟩ := T.says.def_ 36 (d := d_fewest_of) rfl
  exact pe_call (ok_fewest_of T F) hr hg (T.glo 36 rfl) F.kp (F.bindsN fun _ _ _ _ _ _ us hl => match us, hl with | [_, _, _], _ => rfl) .nil pass0 ha (by decide) he hpl
/-! ### deed_due -/
def wordOf (b : Bool) : Str := if b = true then "seat" else "out"
def sp_deed_due (K : PySem.W.Frag) : Sp := fun vs H Q _ => ∃ (p : Addr) (sv : V) (W : Hall) (rs : List Rat) (st places q : Nat), vs = [.ref p, sv, .int (st : Int), .int (places : Int), .int (q : Int)] ∧ WayAt K H p W ∧ rRats K H sv rs ∧ st < 2 ^ 60 ∧
  (∀ x ∈ members st, x < rs.length ∧ x ∈ W.lots) ∧ (∀ x ∈ rs, Sm x) ∧ q ≤ 2 ^ 60 ∧ ∀ H' t, Same H H' →
    ((size st ≤ places ∧ H' t = some (.tup [.str "rest", .non])) ∨ (¬ size st ≤ places ∧ places = 0 ∧ H' t = some (.tup [.str "end", .non])) ∨
      (¬ size st ≤ places ∧ places ≠ 0 ∧ ∃ d : Deed, H' t = some (.tup [.str (wordOf d.1), .int (d.2 : Int)]) ∧ d.2 ∈ members st ∧ needOf W.lots q (fun x => rs.getD x 0) st d ≤ 0)) → Q (.ref t) H'
theorem dNats_nil (l : List Nat) : PyData.eqv (dNats l) (dNats []) = l.isEmpty := by
  cases l with
  | nil => simp [dNats, PyData.eqv, PyData.eqvAll]
  | cons a r => simp [dNats, PyData.eqv, PyData.eqvAll]
abbrev N_deed_due : List Str := ["way", "sums", "standing", "places", "quota", "some", "full", "hand"]
theorem sc_deed_due : FnScope N_deed_due ["way", "sums", "standing", "places", "quota"] (defScope s_deed_due) := ⟨rfl, rfl, rfl, by decide +kernel, rfl, by decide +kernel, by decide +kernel⟩
theorem ok_deed_due (T : Tx K mg) {fd : FuncData} (F : FnD K d_deed_due fd) : FnOk P w K mg base CX0 3 (He.fAd K d_deed_due.at_) fd ["way", "sums", "standing", "places", "quota"] (sp_deed_due K) := by
  have nd := sc_deed_due.nd
  refine okx F sc_deed_due (fun vs H Q E h => ?_) (fun cdv A outer s H vs Q E hr h => ?_)
  · obtain ⟨p, sv, W, rs, st, places, q, rfl, _⟩ := h
    rfl
  · obtain ⟨p, sv, W, rs, st, places, q, rfl, wa, ⟨a, as, rfl, fz, rel⟩, hst, hb, sm, hq, k⟩ := h
    refine ⟨_, (pss_cons (ps_if (pt_cmpR op_le (pc_size T (hr.mono (by decide)) (by rfl) (pa_cons (pv 2) pa_nil)) (pv 3) (nomark _)) (pss_one (ps_ret (pe_tup (pa_cons pe_str (pa_cons pe_non pa_nil))))) pss_nil)
      (pss_cons (ps_if (pt_cmpR op_eq (pv 3) pe_int (nomark _)) (pss_one (ps_ret (pe_tup (pa_cons pe_str (pa_cons pe_non pa_nil))))) pss_nil)
      (pss_cons (ps_set (i := 5) nd rfl (Or.inl rfl) (pc_members T (hr.mono (by decide)) (by rfl) (pa_cons (pv 2) pa_nil)))
      (pss_cons (ps_setLc (i := 6) (own := [("hand", 7)]) (g := (gName 7)) rfl nd rfl rfl (sw_true rfl rfl rfl (by decide +kernel)) (pi_list (pv 5)) (blkOk_by (N := N_deed_due) (sc := defScope s_deed_due) (by decide +kernel)) (fun _ _ _ _ _ => (pg_name (i := 7) nd rfl (Or.inl rfl))) (fun _ _ _ _ _ => pts_one (pt_not (pt_val (pc_under T (hr.mono (by decide)) (by rfl) (pa_cons (pe_ix (r := rIxL K) ix_list (pv 1) (pv 7) (fun _ _ => rfl)) (pa_cons (pe_tup (pa_cons (pv 4) (pa_cons pe_int pa_nil))) pa_nil)))))) (fun _ _ _ _ _ => (pv 7)))
      (pss_cons (ps_if (pt_cmpR (op_eqD hr.units) (pv 6) (pe_lst pa_nil) (nomark _)) (pss_one (ps_ret (pe_tup (pa_cons pe_str (pa_cons (pc_fewest_of T (hr.mono (by decide)) (by rfl) (pa_cons (pv 0) (pa_cons (pv 1) (pa_cons (pv 5) pa_nil)))) pa_nil))))) pss_nil)
      (pss_one (ps_ret (pe_tup (pa_cons pe_str (pa_cons (pc_most_of T (hr.mono (by decide)) (by rfl) (pa_cons (pv 0) (pa_cons (pv 1) (pa_cons (pv 6) pa_nil)))) pa_nil)))))))))), ?_⟩
    refine ⟨_, rfl, st, rfl, hst, fun H1 s1 => ⟨_, rfl, _, _, rfl, rfl, _, rfl, ite2 (fun c => ?_) (fun c => ?_)⟩⟩
    · have c' : size st ≤ places := by
        have : ((size st : Nat) : Int) ≤ (places : Int) := by simpa using c
        omega
      exact ⟨(by show 2 ≤ sizeLine; decide), fun t ht => k _ t (s1.trans (Same.new ht)) (.inl ⟨c', upd_same⟩)⟩
    · have c' : ¬ size st ≤ places := fun z => c (by simpa using z)
      refine ⟨_, rfl, rfl, _, rfl, ite2 (fun c0 => ?_) (fun c0 => ?_)⟩
      · have c0' : places = 0 := by
          have : V.int (places : Int) = V.int 0 := by simpa using c0
          injection this with e
          omega
        exact ⟨(by show 2 ≤ sizeLine; decide), fun t ht => k _ t (s1.trans (Same.new ht)) (.inr (.inl ⟨c', c0', upd_same⟩))⟩
      · have c0' : places ≠ 0 := fun z => c0 (by rw [z]; simp)
        refine ⟨_, rfl, st, rfl, hst, fun H2 m s2 hm fm => ?_⟩
        have s12 := s1.trans s2
        refine ⟨_, rfl, m, rfl, ⟨_, fm.sq⟩, fun D hD => lc_list (K := K) (a := m) (xs := nats (members st)) (fun i H' => Same H2 H' ∧ H' D = some (.lst (nats (((members st).take i).filter fun x => !decide (rs.getD x 0 < (q : Rat)))))) ⟨Same.new hD, upd_same⟩ ?_ ?_ ?_⟩
        · rintro i H' _ ⟨s3, _⟩
          exact (fm.keep (Keep.of s3)).sq
        · rintro i x H' hx ⟨s3, e3⟩
          rw [List.getElem?_map] at hx
          obtain ⟨y, hy, rfl⟩ := Option.map_eq_some_iff.mp hx
          have hym : y ∈ members st := List.mem_of_getElem? hy
          have s13 := s12.trans s3
          obtain ⟨v, hv, rv⟩ := rats_at rel (hb y hym).1
          refine ⟨rfl, ?_⟩
          refine ⟨_, rfl, _, rfl, a, as, _, _, rfl, rfl, (fz.keep (Keep.of s13)).sq, atI_nat hv, _, rfl, (by show 2 ≤ sizeLine; decide), fun c hc => ?_⟩
          have s4 : Same H' (upd H' c (.tup [.int (q : Int), .int 1])) := Same.new hc
          refine ⟨v, .ref c, _, (q : Rat), rfl, rRat_stays.k (Keep.of (s13.trans s4)) rv, rat_nat, sm_at sm y (hb y hym).1, sm_nat hq, _, rfl, ?_⟩
          have len : (((members st).take i).filter fun x => !decide (rs.getD x 0 < (q : Rat))).length ≤ 60 := by
            refine Nat.le_trans (List.length_filter_le _ _) ?_
            rw [List.length_take]
            have := size_lt hst
            unfold size at this
            omega
          refine ite2 (fun d => ?_) (fun d => ?_)
          · refine ⟨_, rfl, _, s4 _ _ e3, by rw [List.length_map]; exact small1000 (by omega), ?_, ?_⟩
            · exact Same.at (s3.trans s4) hD
            · rw [upd_same, take_snoc hy, List.filter_append, List.filter_cons, List.filter_nil, d]
              simp [nats]
          · refine ⟨s3.trans s4, ?_⟩
            rw [s4 _ _ e3, take_snoc hy, List.filter_append, List.filter_cons, List.filter_nil]
            have d' : (!decide (rs.getD y 0 < (q : Rat))) = false := by
              cases z : (!decide (rs.getD y 0 < (q : Rat))) with
              | true => exact absurd z d
              | false => rfl
            rw [d']
            simp
        · rintro H' ⟨s3, e3⟩
          rw [List.length_map, List.take_length] at e3
          have s13 := s12.trans s3
          have kfull : ∀ x, x ∈ ((members st).filter fun x => !decide (rs.getD x 0 < (q : Rat))) ↔ x ∈ members st ∧ ¬ rs.getD x 0 < (q : Rat) := fun x => by rw [List.mem_filter]; simp
          refine ⟨_, rfl, (by show 0 ≤ sizeLine; decide), fun z hz => ?_⟩
          have s5 : Same H' (upd H' z (.lst [])) := Same.new hz
          refine ⟨dNats ((members st).filter fun x => !decide (rs.getD x 0 < (q : Rat))), dNats [], .lst (SqL.of (s5 _ _ e3)) (nats_dp _), .lst (SqL.of upd_same) .nil, dNats_shaped _, dNats_shaped _, _, rfl, ?_⟩
          rw [dNats_nil]
          have fm5 := (fm.keep (Keep.of (s3.trans s5)))
          have s15 := s13.trans s5
          have szp : 0 < size st := by omega
          have mne : members st ≠ [] := fun z => by unfold size at szp; rw [z] at szp; simp at szp
          refine ite2 (fun d => ?_) (fun d => ?_)
          · have de : ((members st).filter fun x => !decide (rs.getD x 0 < (q : Rat))) = [] := List.isEmpty_iff.mp d
            refine ⟨_, rfl, _, rfl, _, rfl, p, m, .ref a, W, rs, members st, rfl, wa.same s15, ⟨a, as, rfl, fz.keep (Keep.of s15), paired_mono (fun _ _ z => rRat_stays.k (Keep.of s15) z) rel⟩, fm5.sq, mne, hb, sm, fun h hW => ?_⟩
            refine ⟨(by show 2 ≤ sizeLine; decide), fun t ht => k _ t (s15.trans (Same.new ht)) (.inr (.inr ⟨c', c0', (false, h), upd_same, hW.1, ?_⟩))⟩
            refine (needOf_out (by decide)).mpr fun x hx => ?_
            have nx : rs.getD x 0 < (q : Rat) := by
              refine Classical.byContradiction fun z => ?_
              have : x ∈ ((members st).filter fun x => !decide (rs.getD x 0 < (q : Rat))) := (kfull x).mpr ⟨hx, z⟩
              rw [de] at this
              cases this
            have z0 : ((0 : Int) : Rat) = 0 := rfl
            refine ⟨by rw [z0]; grind, fun hne => ?_⟩
            obtain ⟨a1, a2⟩ := hW.2 x hx hne
            rw [z0]
            split
            · rename_i w'
              have := a2 w'
              grind
            · grind
          · have dne : ((members st).filter fun x => !decide (rs.getD x 0 < (q : Rat))) ≠ [] := fun z => d (by rw [z]; rfl)
            refine ⟨_, rfl, _, rfl, _, rfl, p, D, .ref a, W, rs, _, rfl, wa.same s15, ⟨a, as, rfl, fz.keep (Keep.of s15), paired_mono (fun _ _ z => rRat_stays.k (Keep.of s15) z) rel⟩, SqL.of (s5 _ _ e3), dne, fun x hx => hb x ((kfull x).mp hx).1, sm, fun h hB => ?_⟩
            obtain ⟨hm1, hm2⟩ := (kfull h).mp hB.1
            refine ⟨(by show 2 ≤ sizeLine; decide), fun t ht => k _ t (s15.trans (Same.new ht)) (.inr (.inr ⟨c', c0', (true, h), upd_same, hm1, ?_⟩))⟩
            have z0 : ((0 : Int) : Rat) = 0 := rfl
            refine (needOf_seat (by decide)).mpr ⟨by rw [z0]; grind, fun x hx hne => ?_⟩
            rw [z0]
            by_cases cx : rs.getD x 0 < (q : Rat)
            · split <;> grind
            · obtain ⟨a1, a2⟩ := hB.2 x ((kfull x).mpr ⟨hx, cx⟩) hne
              split
              · rename_i w'
                have := a2 w'
                grind
              · grind
theorem pc_deed_due {K : PySem.W.Frag} {mg : Str → Option Value} (T : Tx K mg) {X : Cx} (hr : Room 3 X.A) (hg : Gl X "deed_due") {p pos : Pos} {e : Expr} {es : List Expr} {t : TA} (ha : PA X (e :: es) t) (hK : X.K = K := by rfl) (hM : X.mg = mg := by rfl) (he : starEach (e :: es) X.env = (false, eval e X.env) :: starEach es X.env := by rfl) (hpl : (backTo pos (starEach es X.env)).any (·.1) = false := by rfl) : PE X (.Call (.Name "deed_due" p) (e :: es) [] pos) (tCall (sp_deed_due K) [] E0 t) := by
  subst hK hM
  obtain ⟨fd, F⟩ := T.says.def_ 37 (d := d_deed_due) rfl
  exact pe_call (ok_deed_due T F) hr hg (T.glo 37 rfl) F.kp (F.bindsN fun _ _ _ _ _ _ us hl => match us, hl with | [_, _, _, _, _], _ => rfl) .nil pass0 ha (by decide) he hpl
end
end K75
set_option maxHeartbeats 1000000
-- KRow
set_option exponentiation.threshold 4000
/-! The count by rows: its fractions stay small, what stands keeps nothing; no program in sight. -/
namespace K75
def DBn : Nat → Nat
  | 0 => 1
  | j + 1 => DBn j * (12 * DBn j * (2 ^ 50 + 1))
theorem DBn_mono (j : Nat) : 0 < DBn j ∧ DBn j ≤ DBn (j + 1) := by
  induction j with
  | zero => exact ⟨by decide, by decide⟩
  | succ j ih =>
    have h1 : 0 < DBn (j + 1) := Nat.lt_of_lt_of_le ih.1 ih.2
    refine ⟨h1, ?_⟩
    show DBn (j + 1) ≤ DBn (j + 1) * (12 * DBn (j + 1) * (2 ^ 50 + 1))
    exact Nat.le_mul_of_pos_right _ (by omega)
theorem DBn_le : ∀ j, j ≤ 3 → DBn j ≤ 2 ^ 700
  | 0, _ => by decide
  | 1, _ => by decide
  | 2, _ => by decide
  | 3, _ => by decide
  | _ + 4, h => absurd h (by omega)
theorem seated_snoc (R : Row) (d : Deed) : seated (R ++ [d]) = seated R ++ (if d.1 = true then [d.2] else []) := by
  unfold seated
  rw [List.filter_append, List.map_append]
  congr 1
  obtain ⟨b, h⟩ := d
  cases b <;> simp
theorem go_on {W : Hall} {R : Row} (e : endOf W R = none) : (seated R).length < W.seats ∧ W.seats < size (stAfter W.hands R) + (seated R).length := by
  unfold endOf at e
  simp only at e
  split at e
  · rename_i c
    omega
  · cases e
theorem seated_le {W : Hall} {R : Row} (v : Valid W R) : (seated R).length ≤ W.seats := by
  induction v with
  | nil => exact Nat.zero_le _
  | @snoc R d v e m ih =>
    have := (go_on e).1
    rw [seated_snoc, List.length_append]
    split <;> simp <;> omega
theorem st_lt {W : Hall} (h4 : W.hands ≤ 4) (R : Row) : stAfter W.hands R < 16 := by
  have all : ∀ (R : Row) (st : Nat), st < 2 ^ 4 → R.foldl (fun st d => without st d.2) st < 2 ^ 4 := by
    intro R
    induction R with
    | nil => intro st h; exact h
    | cons d r ih => intro st h; exact ih _ (without_lt h)
  refine all R _ ?_
  unfold allOf
  have := Nat.pow_le_pow_right (show 0 < 2 by decide) h4
  have := Nat.pow_pos (n := W.hands) (show 0 < 2 by decide)
  omega
theorem st_mem {W : Hall} : ∀ {R : Row}, ∀ x ∈ members (stAfter W.hands R), x < W.hands := by
  have all : ∀ (R : Row) (st : Nat), (∀ x ∈ members st, x < W.hands) → ∀ x ∈ members (R.foldl (fun st d => without st d.2) st), x < W.hands := by
    intro R
    induction R with
    | nil => intro st h; exact h
    | cons d r ih => intro st h; exact ih _ fun x hx => h x (mem_without.mp hx).1
  intro R
  exact all R _ fun x hx => mem_allOf.mp hx
theorem row_out {n : Nat} {R : Row} {d : Deed} (h : d ∈ R) : d.2 ∉ members (stAfter n R) := by
  have all : ∀ (R : Row) (st : Nat) (x : Nat), x ∈ members (R.foldl (fun st d => without st d.2) st) → x ∈ members st ∧ ∀ d ∈ R, d.2 ≠ x := by
    intro R
    induction R with
    | nil => intro st x h; exact ⟨h, fun d hd => by cases hd⟩
    | cons d r ih =>
      intro st x h
      obtain ⟨a, b⟩ := ih _ x h
      obtain ⟨a1, a2⟩ := mem_without.mp a
      refine ⟨a1, fun e he => ?_⟩
      rcases List.mem_cons.mp he with rfl | he
      · exact fun z => a2 z.symm
      · exact b e he
  exact fun z => (all R _ _ z).2 d h rfl
theorem seated_mem {R : Row} {x : Nat} (h : x ∈ seated R) : (true, x) ∈ R := by
  unfold seated at h
  obtain ⟨d, hd, rfl⟩ := List.mem_map.mp h
  obtain ⟨h1, h2⟩ := List.mem_filter.mp hd
  obtain ⟨b, y⟩ := d
  simp at h2
  subst h2
  exact h1
theorem valid_lt {W : Hall} {R : Row} (v : Valid W R) : ∀ d ∈ R, d.2 < W.hands := by
  induction v with
  | nil => intro d hd; cases hd
  | @snoc R d v e m ih =>
    intro x hx
    rcases List.mem_append.mp hx with h | h
    · exact ih x h
    · rw [List.mem_singleton.mp h]; exact st_mem _ m
/-- the fractions behind a row are small -/
theorem good_row {W : Hall} {S : Sheet} (h4 : W.hands ≤ 4) (hs : W.seats < W.hands) (hl : S.length ≤ 100) (ht : total S ≤ 2 ^ 50) {R : Row} (v : Valid W R) :
    ∃ D m, D ≤ DBn (seated R).length ∧ m ≤ (seated R).length ∧ Good S W.hands D m (W.cnt S R).F (W.cnt S R).G := by
  induction v with
  | nil => exact ⟨1, 0, Nat.le_refl _, Nat.le_refl _, fine_begin S W.hands, Nat.one_le_two_pow, hl, h4, by decide, ht⟩
  | @snoc R d v e m ih =>
    obtain ⟨D, k, hD, hk, g⟩ := ih
    have hj := (go_on e).1
    rw [cnt_snoc]
    obtain ⟨b, h⟩ := d
    cases b with
    | false =>
      rw [seated_snoc]
      refine ⟨D, k, by simpa using hD, by simpa using hk, ?_⟩
      show Good S W.hands D k (W.cnt S R).F (W.cnt S R).G
      exact g
    | true =>
      have hst : (W.cnt S R).st < 16 := by rw [cnt_st]; exact st_lt h4 R
      have len : (seated (R ++ [(true, h)])).length = (seated R).length + 1 := by rw [seated_snoc]; simp
      rw [len]
      obtain ⟨D', l, g'⟩ := g.seat hst h (W.q S) (B := DBn (seated R).length) hD (DBn_le ((seated R).length + 1) (by omega)) (by omega)
      exact ⟨D', k + 1, l, by omega, g'⟩
/-- what stands keeps nothing -/
theorem kept_zero {W : Hall} {S : Sheet} {R : Row} (v : Valid W R) : ∀ s, ∀ x ∈ members (stAfter W.hands R), ((W.cnt S R).G s).getD x 0 = 0 := by
  induction v with
  | nil =>
    intro s x hx
    show (List.replicate W.hands (0 : Rat)).getD x 0 = 0
    rw [List.getD_eq_getElem?_getD, List.getElem?_replicate]
    split <;> rfl
  | @snoc R d v e m ih =>
    intro s x hx
    rw [stAfter_snoc, mem_without] at hx
    rw [cnt_snoc]
    obtain ⟨b, h⟩ := d
    cases b with
    | false => exact ih s x hx.1
    | true =>
      show (((W.cnt S R).G s).set h _).getD x 0 = 0
      rw [List.getD_eq_getElem?_getD, List.getElem?_set_ne (fun z => hx.2 z.symm), ← List.getD_eq_getElem?_getD]
      exact ih s x hx.1
/-- all ballots' shares by hand, and last the spent -/
def sumsOf (S : Sheet) (n : Nat) (c : Cnt) : List Rat := (List.range (n + 1)).map fun j => wsum S fun s => (rowOf s (c.F s) (c.G s) c.st).getD j 0
theorem wsum_congr {S : Sheet} {f g : Slip → Rat} (h : ∀ s, f s = g s) : wsum S f = wsum S g := by
  rw [show f = g from funext h]
theorem row_getD {s : Slip} {f : Rat} {g : List Rat} {st x : Nat} (h : x < g.length) : (rowOf s f g st).getD x 0 = g.getD x 0 + f * coef s st x := by
  unfold rowOf
  rw [List.getD_eq_getElem?_getD, List.getElem?_append_left (by simpa using h), List.getElem?_map, List.getElem?_range h]
  rfl
theorem row_len {s : Slip} {f : Rat} {g : List Rat} {st : Nat} : (rowOf s f g st).length = g.length + 1 := by unfold rowOf; simp
theorem row_small {S : Sheet} {n D m : Nat} {F : Slip → Rat} {G : Slip → List Rat} (h : Good S n D m F G) {st : Nat} (hs : st < 16) (s : Slip) : ∀ z ∈ rowOf s (F s) (G s) st, By (D * 12) z ∧ 0 ≤ z ∧ z ≤ ((16 : Nat) : Rat) := by
  intro z hz
  have c9 : ((m : Nat) : Rat) + 1 ≤ ((16 : Nat) : Rat) := by
    have := h.hm
    have e : ((m : Nat) : Rat) + 1 = ((m + 1 : Nat) : Rat) := by rw [Rat.natCast_add]; rfl
    rw [e]
    exact Rat.natCast_le_natCast.mpr (by omega)
  have c1 : (1 : Rat) ≤ ((16 : Nat) : Rat) := by
    have : ((1 : Nat) : Rat) ≤ ((16 : Nat) : Rat) := Rat.natCast_le_natCast.mpr (by decide)
    exact this
  have c0 : (0 : Rat) ≤ ((16 : Nat) : Rat) := Rat.natCast_nonneg
  unfold rowOf at hz
  rcases List.mem_append.mp hz with hz | hz
  · obtain ⟨x, hx, rfl⟩ := List.mem_map.mp hz
    have hx' : x < (G s).length := List.mem_range.mp hx
    have gm : (G s).getD x 0 ∈ G s := by
      rw [List.getD_eq_getElem?_getD, List.getElem?_eq_getElem hx']; exact List.getElem_mem hx'
    obtain ⟨a, b, c⟩ := h.fine.g s _ gm
    obtain ⟨p0, p1⟩ := h.fine.part0 st x s
    refine ⟨(c.up 12).add (h.fine.partBy hs x s), Rat.add_nonneg a p0, ?_⟩
    grind
  · rw [List.mem_singleton.mp hz]
    split
    · exact ⟨(h.fine.fb s).up 12, h.fine.f0 s, Rat.le_trans (h.fine.f1 s) c1⟩
    · exact ⟨By.zero _, Rat.le_refl, c0⟩
theorem row_zero {S : Sheet} {n D m : Nat} {F : Slip → Rat} {G : Slip → List Rat} (h : Good S n D m F G) {st : Nat} (hs : st < 16) (s : Slip) (j : Nat) : By (D * 12) ((rowOf s (F s) (G s) st).getD j 0) ∧ 0 ≤ (rowOf s (F s) (G s) st).getD j 0 ∧ (rowOf s (F s) (G s) st).getD j 0 ≤ ((16 : Nat) : Rat) := by
  rw [List.getD_eq_getElem?_getD]
  cases e : (rowOf s (F s) (G s) st)[j]? with
  | none => exact ⟨By.zero _, Rat.le_refl, Rat.natCast_nonneg⟩
  | some z => exact row_small h hs s z (List.mem_of_getElem? e)
theorem sums_len {S : Sheet} {n : Nat} {c : Cnt} : (sumsOf S n c).length = n + 1 := by unfold sumsOf; simp
theorem sums_sm {S : Sheet} {n D m : Nat} {c : Cnt} (h : Good S n D m c.F c.G) (hs : c.st < 16) : ∀ x ∈ sumsOf S n c, Sm x := by
  intro x hx
  obtain ⟨j, _, rfl⟩ := List.mem_map.mp hx
  have := sm_sum (S := S) (c := 16) h.p12.1 h.p12.2 (fun s => (row_zero h hs s j).1) (fun s => (row_zero h hs s j).2.1) (fun s => (row_zero h hs s j).2.2) (Nat.le_trans (Nat.mul_le_mul_right 16 h.tot) (by decide)) S.length
  rwa [List.take_length] at this
theorem sums_at {W : Hall} {S : Sheet} {R : Row} (v : Valid W R) {D m : Nat} (g : Good S W.hands D m (W.cnt S R).F (W.cnt S R).G) {x : Nat} (hx : x ∈ members (stAfter W.hands R)) : (sumsOf S W.hands (W.cnt S R)).getD x 0 = W.T S R x := by
  have hn : x < W.hands := st_mem _ hx
  have e : (sumsOf S W.hands (W.cnt S R)).getD x 0 = wsum S fun s => (rowOf s ((W.cnt S R).F s) ((W.cnt S R).G s) (W.cnt S R).st).getD x 0 := by
    unfold sumsOf
    rw [List.getD_eq_getElem?_getD, List.getElem?_map, List.getElem?_range (by omega)]
    rfl
  rw [e]
  refine wsum_congr fun s => ?_
  rw [row_getD (by rw [g.fine.gl]; exact hn), kept_zero v s x hx, Rat.zero_add]
theorem foldl_congr_mem {β : Type} {f g : β → Nat → β} : ∀ {l : List Nat} (a : β), (∀ a x, x ∈ l → f a x = g a x) → l.foldl f a = l.foldl g a
  | [], a, _ => rfl
  | y :: r, a, h => by
    rw [List.foldl_cons, List.foldl_cons, h a y List.mem_cons_self]
    exact foldl_congr_mem _ fun a x hx => h a x (List.mem_cons_of_mem _ hx)
theorem needOf_congr {lots : List Nat} {q : Nat} {T T' : Nat → Rat} {st : Nat} {d : Deed} (h : ∀ x ∈ members st, T x = T' x) (hd : d.2 ∈ members st) : needOf lots q T st d = needOf lots q T' st d := by
  unfold needOf
  rw [h d.2 hd]
  split
  · refine foldl_congr_mem _ fun a x hx => ?_
    unfold needSeat
    rw [h x hx, h d.2 hd]
  · refine foldl_congr_mem _ fun a x hx => ?_
    unfold needOut
    rw [h x hx, h d.2 hd]
theorem idx_inj {l : List Nat} : ∀ {x y : Nat}, x ∈ l → y ∈ l → l.idxOf x = l.idxOf y → x = y := by
  intro x y hx hy e
  have h1 := List.getElem_idxOf (List.idxOf_lt_length_of_mem hx)
  have h2 := List.getElem_idxOf (List.idxOf_lt_length_of_mem hy)
  rw [← h1, ← h2]
  congr 1
theorem HallOk.mem {W : Hall} (h : HallOk W) {x : Nat} : x ∈ W.lots ↔ x < W.hands := by rw [h.lots.mem_iff, List.mem_range]
theorem HallOk.told {W : Hall} (h : HallOk W) : Told W := fun x y hx hy hne e => hne (idx_inj (h.mem.mpr hx) (h.mem.mpr hy) e)
theorem q_le {seats n : Nat} (h : n ≤ 2 ^ 50) : quota seats n ≤ 2 ^ 60 := by
  unfold quota
  have := Nat.div_le_self n (seats + 1)
  have : 2 ^ 50 + 1 ≤ 2 ^ 60 := by decide
  omega
end K75
set_option maxHeartbeats 4000000
-- K12
/-! seats: counted, told_by, outcome. -/
namespace K75
open PySem PySem.Spec PyProof.Rows L2
/-- a deed as a paper has it -/
def rDeed : Rl (Str × V) := fun K H v z => ∃ t, v = .ref t ∧ SqT K H t [.str z.1, z.2]
def rRound : Rl (Str × V) := fun K H v z => ∃ p x y d, v = .ref p ∧ SqT K H p [x, y, d] ∧ rDeed K H d z
theorem rDeed_stays : Stays rDeed := ⟨fun k ⟨t, e, h⟩ => ⟨t, e, sqt_keep k h⟩⟩
theorem rRound_stays : Stays rRound := ⟨fun k ⟨p, x, y, d, e, h, g⟩ => ⟨p, x, y, d, e, sqt_keep k h, rDeed_stays.k k g⟩⟩
def deedV (d : Deed) : Str × V := (wordOf d.1, .int (d.2 : Int))
def paperOf (R : Row) (z : Str) : List (Str × V) := R.map deedV ++ [(z, .non)]
def EndsBy (W : Hall) (R : Row) (z : Str) : Prop := ∃ places : Nat, places + (seated R).length = W.seats ∧
  ((z = "rest" ∧ size (stAfter W.hands R) ≤ places) ∨ (z = "end" ∧ ¬ size (stAfter W.hands R) ≤ places ∧ places = 0))
theorem w_rest (b : Bool) : decide (V.str (wordOf b) = V.str "rest") = false := by cases b <;> decide +kernel
theorem w_end (b : Bool) : decide (V.str (wordOf b) = V.str "end") = false := by cases b <;> decide +kernel
theorem w_seat (b : Bool) : decide (V.str (wordOf b) = V.str "seat") = b := by cases b <;> decide +kernel
theorem w_out (b : Bool) : decide (V.str (wordOf b) = V.str "out") = !b := by cases b <;> decide +kernel
theorem w_rr : decide (V.str "rest" = V.str "rest") = true := by decide +kernel
theorem w_ee : decide (V.str "end" = V.str "end") = true := by decide +kernel
theorem w_er : decide (V.str "end" = V.str "rest") = false := by decide +kernel
theorem w_re : decide (V.str "rest" = V.str "end") = false := by decide +kernel
theorem w_es : decide (V.str "end" = V.str "seat") = false := by decide +kernel
theorem w_rs : decide (V.str "rest" = V.str "seat") = false := by decide +kernel
theorem size_without {m h : Nat} (hm : m < 2 ^ 60) (e : m.testBit h = true) : size (without m h) + 1 = size m := by
  unfold size
  rw [← upTo_all hm, ← upTo_all (without_lt hm)]
  have e1 : upTo (without m h) 60 = (upTo m 60).filter (fun x => x != h) := by
    unfold upTo
    rw [List.filter_filter]
    congr 1
    funext x
    rw [testBit_without]
    by_cases z : x = h <;> simp [z]
  have nd : (upTo m 60).Nodup := List.Pairwise.filter _ List.nodup_range
  have hm' : h ∈ upTo m 60 := by rw [upTo_all hm]; exact mem_members.mpr e
  rw [e1, ← nd.erase_eq_filter, List.length_erase_of_mem hm']
  have := List.length_pos_of_mem hm'
  omega
theorem end_none {W : Hall} {R : Row} {places : Nat} (hp : places + (seated R).length = W.seats) (h0 : places ≠ 0) (h1 : ¬ size (stAfter W.hands R) ≤ places) : endOf W R = none := by
  unfold endOf
  simp only
  rw [if_pos]
  omega
theorem seated_step {R : Row} {b : Bool} {h : Nat} : (seated (R ++ [(b, h)])).length = (seated R).length + (if b = true then 1 else 0) := by
  rw [seated_snoc, List.length_append]
  cases b <;> simp
section
variable {P : Program} {w : World} {K : PySem.W.Frag} {mg : Str → Option Value} {base : Heap}
def sp_Seats_counted (K : PySem.W.Frag) : Sp := fun vs H Q _ => ∃ (p : Addr) (v : V) (W : Hall) (S : Sheet), vs = [.ref p, v] ∧ WayAt K H p W ∧ HallOk W ∧ rSheet K H v S ∧ S.length ≤ 100 ∧ total S ≤ 2 ^ 50 ∧
  ∀ H' u R z, Same H H' → rLst rRound K H' u (paperOf R z) → DueRow W S R → EndsBy W R z → Q u H'
def CInv (K : PySem.W.Frag) (W : Hall) (S : Sheet) (p : Addr) (v : V) (Hb : Hp) (D : Addr) (m : Nat) (σ : L2.St) (H' : Hp) : Prop := ∃ (R : Row) (places : Nat) (sv : V) (a b c d : Option V), σ = [some (.ref p), some v, some (.int (W.q S : Nat)), some (.int (stAfter W.hands R : Nat)), some (.int (places : Int)), some sv, some (.ref D), a, b, c, d] ∧
      Acc K rRound Hb D H' (R.map deedV) ∧ DueRow W S R ∧ places + (seated R).length = W.seats ∧ R.length + size (stAfter W.hands R) = size (allOf W.hands) ∧ rState K H' sv (stOf S (W.cnt S R).F (W.cnt S R).G) ∧ m = size (stAfter W.hands R)
abbrev N_Seats_counted : List Str := ["self", "sheet", "quota", "standing", "places", "state", "rounds", "rows", "sums", "word", "hand"]
theorem sc_Seats_counted : FnScope N_Seats_counted ["self", "sheet"] (defScope s_Seats_counted) := ⟨rfl, rfl, rfl, by decide +kernel, rfl, by decide +kernel, by decide +kernel⟩
theorem ok_Seats_counted (T : Tx K mg) {fd : FuncData} (F : FnD K d_Seats_counted fd) : FnOk P w K mg base CX0 7 (He.fAd K d_Seats_counted.at_) fd ["self", "sheet"] (sp_Seats_counted K) := by
  have nd := sc_Seats_counted.nd
  refine okx F sc_Seats_counted (fun vs H Q E h => ?_) (fun cdv A outer s H vs Q E hr h => ?_)
  · obtain ⟨p, v, W, S, rfl, _⟩ := h
    rfl
  · obtain ⟨p, v, W, S, rfl, wa, ok, rs, hl, ht, k⟩ := h
    refine ⟨_, (pss_cons (ps_set (i := 2) nd rfl (Or.inl rfl) (pq_Seats_quota T (hr.mono (by decide)) (pv 0) (pa_cons (pc_ballots_in T (hr.mono (by decide)) (by rfl) (pa_cons (pv 1) pa_nil)) pa_nil)))
      (pss_cons (ps_set (i := 3) nd rfl (Or.inl rfl) (pc_all_of T (hr.mono (by decide)) (by rfl) (pa_cons (pe_fld (pv 0) rfl) pa_nil)))
      (pss_cons (ps_set (i := 4) nd rfl (Or.inl rfl) (pe_fld (pv 0) rfl))
      (pss_cons (ps_set (i := 5) nd rfl (Or.inl rfl) (pc_begin T (hr.mono (by decide)) (by rfl) (pa_cons (pv 1) (pa_cons (pe_fld (pv 0) rfl) pa_nil))))
      (pss_cons (ps_set (i := 6) nd rfl (Or.inl rfl) (pe_lst pa_nil))
      (pss_one (ps_while PassesOwn.never (pt_val pe_bl) (pss_cons (ps_set (i := 7) nd rfl (Or.inl rfl) (pc_table T (hr.mono (by decide)) (by rfl) (pa_cons (pv 1) (pa_cons (pv 5) (pa_cons (pv 3) pa_nil)))))
      (pss_cons (ps_set (i := 8) nd rfl (Or.inl rfl) (pc_tallies T (hr.mono (by decide)) (by rfl) (pa_cons (pv 1) (pa_cons (pv 7) (pa_cons (pe_fld (pv 0) rfl) pa_nil)))))
      (pss_cons (ps_asg (pc_deed_due T (hr.mono (by decide)) (by rfl) (pa_cons (pv 0) (pa_cons (pv 8) (pa_cons (pv 3) (pa_cons (pv 4) (pa_cons (pv 2) pa_nil)))))) (pg_tup rfl (pgs_cons (pg_name (i := 9) nd rfl (Or.inl rfl)) (pgs_cons (pg_name (i := 10) nd rfl (Or.inl rfl)) pgs_nil))))
      (pss_cons (ps_expr (pe_bm PySem.F.plainAttrs_list PySem.F.slot_list_append PySem.F.type_list_append mt_append (pv 6) (pa_cons (pe_tup (pa_cons (pv 7) (pa_cons (pv 8) (pa_cons (pe_tup (pa_cons (pv 9) (pa_cons (pv 10) pa_nil))) pa_nil)))) pa_nil)))
      (pss_cons (ps_if (PW.pt (pw_or (pt_cmpR op_eq (pv 9) pe_str (nomark _)) (pw_or1 (pt_cmpR op_eq (pv 9) pe_str (nomark _))))) (pss_one (ps_ret (pe_fz (pv 6)))) pss_nil)
      (pss_cons (ps_if (pt_cmpR op_eq (pv 9) pe_str (nomark _)) (pss_cons (ps_set (i := 5) nd rfl (Or.inl rfl) (pc_kept_by T (hr.mono (by decide)) (by rfl) (pa_cons (pv 1) (pa_cons (pv 5) (pa_cons (pv 3) (pa_cons (pv 10) (pa_cons (pv 2) pa_nil)))))))
      (pss_one (ps_set (i := 4) nd rfl (Or.inl rfl) (pe_op op_sub (pv 4) pe_int)))) pss_nil)
      (pss_one (ps_set (i := 3) nd rfl (Or.inl rfl) (pc_without T (hr.mono (by decide)) (by rfl) (pa_cons (pv 3) (pa_cons (pv 10) pa_nil)))))))))))))))))), ?_⟩
    have h4 := ok.h4
    have hsh := ok.sh
    refine ⟨_, rfl, wa.meth (by decide +kernel) (by decide +kernel) (by decide +kernel) ⟨_, rfl, v, S, rfl, rs, hl, fun Ha sa => ?_⟩⟩
    have waa := wa.same sa
    refine ⟨p, W, total S, rfl, waa, by omega, ?_⟩
    refine ⟨_, rfl, waa.hands T ⟨W.hands, rfl, by omega, ?_⟩⟩
    refine ⟨_, rfl, waa.seats T ?_⟩
    refine ⟨_, rfl, _, rfl, waa.hands T ⟨v, S, W.hands, rfl, rSheet_stays.k (Keep.of sa) rs, hl, by omega, fun Hb sv sb rb => ?_⟩⟩
    refine ⟨(by show 0 ≤ sizeLine; decide), fun D hD => ?_⟩
    have sab := sa.trans sb
    refine ⟨CInv K W S p v Hb D, ⟨_, [], W.seats, sv, none, none, none, none, rfl, Acc.start hD, .nil, by simp [seated], by simp [stAfter], rState_stays.k (Keep.new hD) rb, rfl⟩, ?_⟩
    rintro m σ H' ⟨R, places, sv, a, b, c, d, rfl, ac, due, hpl, hlen, rst, rfl⟩
    have v' := due.valid
    have hst := st_lt h4 R
    obtain ⟨Dn, mm, _, _, good⟩ := good_row h4 hsh hl ht v' (S := S)
    have cst : (W.cnt S R).st = stAfter W.hands R := cnt_st W S R
    have s0 : Same H H' := sab.trans ac.same
    have rl6 : R.length ≤ 4 := by
      have : size (allOf W.hands) ≤ 4 := by
        have h16 : allOf W.hands < 2 ^ 4 := st_lt h4 []
        unfold size
        rw [← upTo_all h16]
        exact Nat.le_trans (List.length_filter_le _ _) (by rw [List.length_range]; exact Nat.le_refl _)
      omega
    refine ⟨_, rfl, fun σ' H'' => ∃ m', m' < size (stAfter W.hands R) ∧ CInv K W S p v Hb D m' σ' H'', fun σ' H'' h => h, ?_⟩
    · refine ⟨_, rfl, _, rfl, _, rfl, v, sv, S, W.hands, Dn, mm, (W.cnt S R).F, (W.cnt S R).G, stAfter W.hands R, rfl, rSheet_stays.k (Keep.of s0) rs, rst, good, hst, fun x hx => st_mem x hx, fun H1 rv s1 rr => ?_⟩
      have s01 := s0.trans s1
      refine ⟨_, rfl, _, rfl, _, rfl, (wa.same s01).hands T ?_⟩
      refine ⟨v, rv, S, (fun s => rowOf s ((W.cnt S R).F s) ((W.cnt S R).G s) (stAfter W.hands R)), W.hands, Dn * 12, rfl, rSheet_stays.k (Keep.of s01) rs, rr, hl, by omega, ht, fun s => by rw [row_len, good.fine.gl], good.p12.1, good.p12.2, fun s z hz => row_small good hst s z hz, fun H2 tv s2 rt => ?_⟩
      have es : (List.range (W.hands + 1)).map (fun j => wsum S fun s => (rowOf s ((W.cnt S R).F s) ((W.cnt S R).G s) (stAfter W.hands R)).getD j 0) = sumsOf S W.hands (W.cnt S R) := by unfold sumsOf; rw [cst]
      rw [es] at rt
      have s02 := s01.trans s2
      refine ⟨_, rfl, _, rfl, _, rfl, _, rfl, _, rfl, p, tv, W, sumsOf S W.hands (W.cnt S R), stAfter W.hands R, places, W.q S, rfl, wa.same s02, rt, Nat.lt_of_lt_of_le hst (by decide), fun x hx => ⟨by rw [sums_len]; have := st_mem (W := W) x hx; omega, ok.mem.mpr (st_mem x hx)⟩, sums_sm good (by rw [cst]; exact hst), q_le ht, fun H3 t s3 cs => ?_⟩
      have s13 := (s1.trans s2).trans s3
      obtain ⟨zw, zv, et, cs'⟩ : ∃ zw zv, H3 t = some (.tup [.str zw, zv]) ∧ ((size (stAfter W.hands R) ≤ places ∧ zw = "rest" ∧ zv = .non) ∨ (¬ size (stAfter W.hands R) ≤ places ∧ places = 0 ∧ zw = "end" ∧ zv = .non) ∨
          (¬ size (stAfter W.hands R) ≤ places ∧ places ≠ 0 ∧ ∃ d : Deed, zw = wordOf d.1 ∧ zv = .int (d.2 : Int) ∧ d.2 ∈ members (stAfter W.hands R) ∧ needOf W.lots (W.q S) (fun x => (sumsOf S W.hands (W.cnt S R)).getD x 0) (stAfter W.hands R) d ≤ 0)) := by
        rcases cs with ⟨c1, c2⟩ | ⟨c1, c0, c2⟩ | ⟨c1, c0, d, c2, c3, c4⟩
        · exact ⟨_, _, c2, .inl ⟨c1, rfl, rfl⟩⟩
        · exact ⟨_, _, c2, .inr (.inl ⟨c1, c0, rfl, rfl⟩)⟩
        · exact ⟨_, _, c2, .inr (.inr ⟨c1, c0, d, rfl, rfl, c3, c4⟩)⟩
      clear cs
      have e3 : ∃ vs, H3 D = some (.lst vs) := by
        obtain ⟨vs, _, e, _⟩ := ac
        exact ⟨vs, s13 _ _ e⟩
      obtain ⟨vs3, e3⟩ := e3
      refine ⟨t, _, rfl, SqT.of et, rfl, _, _, rfl, _, _, rfl, rfl, ?_⟩
      refine ⟨_, rfl, .inl ⟨rfl, _, SqL.of e3⟩, _, rfl, _, rfl, _, rfl, _, rfl, (by show 2 ≤ sizeLine; decide), fun q3 hq3 => ⟨(by show 3 ≤ sizeLine; decide), fun q4 hq4 => ?_⟩⟩
      have s4 : Same H3 (upd (upd H3 q3 (.tup [.str zw, zv])) q4 (.tup [rv, tv, .ref q3])) := (Same.new hq3).trans (Same.new hq4)
      obtain ⟨vs, h1, h2, h3⟩ := Acc.push rRound_stays hD ac (s13.trans s4) (v := .ref q4) (a := (zw, zv)) ⟨q4, _, _, _, rfl, sqt_new, q3, rfl, SqT.of (Same.new hq4 _ _ upd_same)⟩
      rw [List.length_map] at h2
      refine ⟨D, vs, .ref q4, rfl, rfl, h1, small1000 (by omega), ?_⟩
      rcases cs' with ⟨c1, rfl, rfl⟩ | ⟨c1, c0, rfl, rfl⟩ | ⟨c1, c0, d, rfl, rfl, c3, c4⟩
      · refine ⟨_, rfl, rfl, ?_⟩
        rw [w_rr]
        refine ⟨true, rfl, iteT ?_⟩
        obtain ⟨vs5, e5, h5⟩ := h3.freeze rRound_stays hD
        refine ⟨_, rfl, D, vs5, rfl, e5, fun o => k _ _ R "rest" ?_ ?_ due ⟨places, hpl, .inl ⟨rfl, c1⟩⟩⟩
        · exact sab.trans (h5 o).1
        · exact (h5 o).2
      · refine ⟨_, rfl, rfl, ?_⟩
        rw [w_er]
        refine ⟨false, rfl, iteF ?_⟩
        refine ⟨_, rfl, rfl, ?_⟩
        rw [w_ee]
        refine ⟨true, rfl, iteT ?_⟩
        obtain ⟨vs5, e5, h5⟩ := h3.freeze rRound_stays hD
        refine ⟨_, rfl, D, vs5, rfl, e5, fun o => k _ _ R "end" ?_ ?_ due ⟨places, hpl, .inr ⟨rfl, c1, c0⟩⟩⟩
        · exact sab.trans (h5 o).1
        · exact (h5 o).2
      · refine ⟨_, rfl, rfl, ?_⟩
        rw [w_rest]
        refine ⟨false, rfl, iteF ?_⟩
        refine ⟨_, rfl, rfl, ?_⟩
        rw [w_end]
        refine ⟨false, rfl, iteF ?_⟩
        have hn : endOf W R = none := end_none hpl c0 c1
        have hneed : W.need S R d ≤ 0 := by
          show needOf W.lots (W.q S) (W.T S R) (W.cnt S R).st d ≤ 0
          rw [cst]
          rw [← needOf_congr (fun x hx => sums_at v' good hx) c3]
          exact c4
        have due' : DueRow W S (R ++ [d]) := .snoc due hn c3 hneed
        obtain ⟨b1, x⟩ := d
        have sw := size_without (m := stAfter W.hands R) (h := x) (Nat.lt_of_lt_of_le hst (by decide)) (mem_members.mp c3)
        have xn : x < W.hands := st_mem x c3
        have est : stAfter W.hands (R ++ [(b1, x)]) = without (stAfter W.hands R) x := stAfter_snoc ..
        have emap : (R ++ [(b1, x)]).map deedV = R.map deedV ++ [(wordOf b1, V.int (x : Int))] := by rw [List.map_append]; rfl
        have elen : (R ++ [(b1, x)]).length = R.length + 1 := by simp
        refine ⟨_, rfl, rfl, ?_⟩
        rw [w_seat]
        refine ⟨b1, rfl, ?_⟩
        cases b1 with
        | true =>
          refine iteT ?_
          have s5 := sab.trans h3.same
          have k5 := (Keep.of (s13.trans s4)).trans (Keep.lst h1 (o := .lst (vs ++ [.ref q4])))
          refine ⟨_, rfl, _, rfl, _, rfl, _, rfl, _, rfl, v, sv, S, W.hands, Dn, mm, (W.cnt S R).F, (W.cnt S R).G, stAfter W.hands R, x, W.q S, rfl, rSheet_stays.k (Keep.of s5) rs, rState_stays.k k5 rst, good, hst, xn, q_le ht, fun H6 nv s6 rn => ?_⟩
          refine ⟨_, rfl, _, _, rfl, rfl, ?_⟩
          have ep : (places : Int) - 1 = ((places - 1 : Nat) : Int) := by omega
          refine ⟨_, rfl, _, rfl, stAfter W.hands R, x, rfl, by omega, ?_⟩
          refine ⟨size (without (stAfter W.hands R) x), by omega, R ++ [(true, x)], places - 1, nv, some rv, some tv, some (.str (wordOf true)), some (.int (x : Int)), ?_, ?_, due', ?_, ?_, ?_, by rw [est]⟩
          · rw [est, ← ep]
            rfl
          · rw [emap]
            obtain ⟨vs6, a1, a2, a3⟩ := h3
            exact ⟨vs6, a1.trans s6, s6 _ _ a2, paired_mono (fun _ _ z => rRound_stays.k (Keep.of s6) z) a3⟩
          · rw [seated_step, if_pos rfl]; omega
          · rw [elen, est]; omega
          · rw [cnt_snoc]
            have : step S (W.q S) (W.cnt S R) (true, x) = ⟨freeBy S (W.q S) (W.cnt S R).F (stAfter W.hands R) x, keptBy S (W.q S) (W.cnt S R).F (W.cnt S R).G (stAfter W.hands R) x, without (stAfter W.hands R) x⟩ := by
              unfold step
              rw [if_pos rfl, cst]
            rw [this]
            exact rn
        | false =>
          refine iteF ?_
          have k5 := (Keep.of (s13.trans s4)).trans (Keep.lst h1 (o := .lst (vs ++ [.ref q4])))
          refine ⟨_, rfl, _, rfl, stAfter W.hands R, x, rfl, by omega, ?_⟩
          refine ⟨size (without (stAfter W.hands R) x), by omega, R ++ [(false, x)], places, sv, some rv, some tv, some (.str (wordOf false)), some (.int (x : Int)), ?_, ?_, due', ?_, ?_, ?_, by rw [est]⟩
          · rw [est]
            rfl
          · rw [emap]
            exact h3
          · rw [seated_step, if_neg (by decide)]; omega
          · rw [elen, est]; omega
          · rw [cnt_snoc]
            exact rState_stays.k k5 rst
theorem pq_Seats_counted {K : PySem.W.Frag} {mg : Str → Option Value} (T : Tx K mg) {X : Cx} (hr : Room 7 X.A) {pl : Sem Bool} {apos pos : Pos} {o e : Expr} {es : List Expr} {ta : TE} {t : TA} (ho : PE X o ta) (ha : PA X (e :: es) t) (hK : X.K = K := by rfl) (hM : X.mg = mg := by rfl) (he : starEach (e :: es) X.env = (false, eval e X.env) :: starEach es X.env := by rfl) (hpl : (backTo pos (starEach es X.env)).any (·.1) = false := by rfl)
    (ht : eval (.Call (.Attribute o "counted" apos) (e :: es) [] pos) X.env = (do
      let ov ← eval o X.env
      standAt apos.atName
      let (f, first) ← holding [ov] (getMethod ov "counted" pl)
      callWith pos f first (backTo pos (starEach (e :: es) X.env)) (backToKw pos (keywordEach [] X.env))) := by rfl) :
    PE X (.Call (.Attribute o "counted" apos) (e :: es) [] pos) (tMeth (He.ga K "Seats") "counted" (sp_Seats_counted K) [] E0 ta t) := by
  subst hK hM
  obtain ⟨fd, F⟩ := T.says.def_ 59 (d := d_Seats_counted) rfl
  exact pe_meth ho (T.cls_Seats) (T.meth_ 80 rfl) (ok_Seats_counted T F) hr (F.bindsN fun _ _ _ _ _ _ us hl => match us, hl with | [_, _], _ => rfl) .nil pass0 ha he hpl ht
end
end K75
-- K13
/-! seats: told_by, outcome. -/
namespace K75
open PySem PySem.Spec PyProof.Rows L2
/-- the ones and noughts of some hands -/
def ones (n : Nat) (l : List Nat) : List Int := (List.range n).map fun h => if h ∈ l then 1 else 0
theorem ones_at {n : Nat} {l : List Nat} {h : Nat} (hh : h < n) : (ones n l)[h]? = some (if h ∈ l then 1 else 0) := by
  unfold ones
  rw [List.getElem?_map, List.getElem?_range hh]; rfl
theorem ones_nil (n : Nat) : (List.replicate n [V.int 0]).flatten = (ones n []).map V.int := by
  unfold ones
  induction n with
  | zero => rfl
  | succ n ih =>
    rw [List.range_succ, List.map_append, List.map_append, ← ih, List.replicate_succ', List.flatten_append]
    simp
theorem ones_set {n : Nat} {l : List Nat} {x : Nat} (hx : x < n) : ((ones n l).map V.int).set x (V.int 1) = (ones n (l ++ [x])).map V.int := by
  refine List.ext_getElem? fun j => ?_
  by_cases hj : j < n
  · rw [List.getElem?_map, ones_at hj]
    by_cases e : j = x
    · subst e
      rw [List.getElem?_set_self (by simpa [ones] using hj)]
      simp
    · rw [List.getElem?_set_ne (fun z => e z.symm), List.getElem?_map, ones_at hj]
      simp [e]
  · rw [List.getElem?_eq_none (by simp [ones]; omega), List.getElem?_eq_none (by simp [ones]; omega)]
theorem ints_paired {K : PySem.W.Frag} {H : Hp} : ∀ l : List Int, Paired (rInt K H) (l.map V.int) l
  | [] => .nil
  | _ :: r => .cons rfl (ints_paired r)
theorem end_rest {W : Hall} {R : Row} {places : Nat} (hp : places + (seated R).length = W.seats) (h1 : size (stAfter W.hands R) ≤ places) : endOf W R = some (ones W.hands (seated R ++ members (stAfter W.hands R))) := by
  unfold endOf
  simp only
  rw [if_neg (by omega), if_pos (by omega)]
  rfl
theorem end_end {W : Hall} {R : Row} (hp : (seated R).length = W.seats) (h1 : ¬ size (stAfter W.hands R) ≤ 0) : endOf W R = some (ones W.hands (seated R)) := by
  unfold endOf
  simp only
  rw [if_neg (by omega), if_neg (by omega)]
  rfl
theorem paper_lt {R : Row} {z : Str} {i : Nat} (h : i < R.length) : (paperOf R z)[i]? = some (deedV R[i]) := by
  unfold paperOf
  rw [List.getElem?_append_left (by simpa using h), List.getElem?_map, List.getElem?_eq_getElem h]; rfl
theorem paper_eq {R : Row} {z : Str} : (paperOf R z)[R.length]? = some (z, .non) := by
  unfold paperOf
  rw [List.getElem?_append_right (by simp)]
  simp
theorem testE {z w : Str} {b : Bool} (h : decide (V.str z = V.str w) = b) {P : Bool → Prop} (k : P b) : ∃ c, V.bl (decide (V.str z = V.str w)) = V.bl c ∧ P c := ⟨b, by rw [h], k⟩
theorem testN {z w : Str} {b : Bool} (h : decide (V.str z = V.str w) = b) {P : Bool → Prop} (k : P (!b)) : ∃ c, V.bl (!decide (V.str z = V.str w)) = V.bl c ∧ P c := ⟨!b, by rw [h], k⟩
section
variable {P : Program} {w : World} {K : PySem.W.Frag} {mg : Str → Option Value} {base : Heap}
def sp_Seats_told_by (K : PySem.W.Frag) : Sp := fun vs H Q _ => ∃ (p : Addr) (v : V) (W : Hall) (R : Row) (z : Str), vs = [.ref p, v] ∧ WayAt K H p W ∧ HallOk W ∧ rLst rRound K H v (paperOf R z) ∧ Valid W R ∧ EndsBy W R z ∧
  ∀ H' u o, Same H H' → rLst rInt K H' u o → endOf W R = some o → Q u H'
abbrev N_Seats_told_by : List Str := ["self", "paper", "found", "standing", "rows", "sums", "deed", "hand"]
theorem sc_Seats_told_by : FnScope N_Seats_told_by ["self", "paper"] (defScope s_Seats_told_by) := ⟨rfl, rfl, rfl, by decide +kernel, rfl, by decide +kernel, by decide +kernel⟩
theorem ok_Seats_told_by (T : Tx K mg) {fd : FuncData} (F : FnD K d_Seats_told_by fd) : FnOk P w K mg base CX0 3 (He.fAd K d_Seats_told_by.at_) fd ["self", "paper"] (sp_Seats_told_by K) := by
  have nd := sc_Seats_told_by.nd
  refine okx F sc_Seats_told_by (fun vs H Q E h => ?_) (fun cdv A outer s H vs Q E hr h => ?_)
  · obtain ⟨p, v, W, R, z, rfl, _⟩ := h
    rfl
  · obtain ⟨p, v, W, R, z, rfl, wa, ok, ⟨l, xs, rfl, fz, rel⟩, val, ends, k⟩ := h
    refine ⟨_, (pss_cons (ps_set (i := 2) nd rfl (Or.inr rfl) (pe_op op_rep (pe_lst (pa_cons pe_int pa_nil)) (pe_fld (pv 0) rfl)))
      (pss_cons (ps_set (i := 3) nd rfl (Or.inr rfl) (pc_all_of T (hr.mono (by decide)) (by rfl) (pa_cons (pe_fld (pv 0) rfl) pa_nil)))
      (pss_cons (ps_for PassesOwn.never rfl (pi_list (pv 1)) (pg_tup rfl (pgs_cons (pg_name (i := 4) nd rfl (Or.inl rfl)) (pgs_cons (pg_name (i := 5) nd rfl (Or.inl rfl)) (pgs_cons (pg_name (i := 6) nd rfl (Or.inl rfl)) pgs_nil)))) (pss_cons (ps_if (pt_cmpR op_eq (pe_ix ix_tup (pv 6) pe_int (fun _ _ => rfl)) pe_str (nomark _)) (pss_one (ps_asg pe_int (pg_sub (pv 2) (pe_ix ix_tup (pv 6) pe_int (fun _ _ => rfl)) set_list))) pss_nil)
      (pss_cons (ps_if (pt_cmpR op_eq (pe_ix ix_tup (pv 6) pe_int (fun _ _ => rfl)) pe_str (nomark _)) (pss_one (ps_ret (pe_fz (pe_lc (own := [("hand", 7)]) (g := (gName 7)) rfl nd (pi_range1 (by rfl) (T.free 59 rfl) (pa_cons (pe_fld (pv 0) rfl) pa_nil)) (blkOk_by (N := N_Seats_told_by) (sc := defScope s_Seats_told_by) (by decide +kernel)) (fun _ _ _ _ _ => (pg_name (i := 7) nd rfl (Or.inl rfl))) (fun _ _ _ _ _ => pts_nil) (fun _ _ _ _ _ => (pe_op op_add (pe_ix (r := rIxL K) ix_list (pv 2) (pv 7) (fun _ _ => rfl)) (pe_callTy call_int1 (by rfl) (T.free 63 rfl) (by decide +kernel) (pa_cons (pc_holds T (hr.mono (by decide)) (by rfl) (pa_cons (pv 3) (pa_cons (pv 7) pa_nil))) pa_nil)))))))) pss_nil)
      (pss_one (ps_if (pt_cmpR op_ne (pe_ix ix_tup (pv 6) pe_int (fun _ _ => rfl)) pe_str (nomark _)) (pss_one (ps_set (i := 3) nd rfl (Or.inr rfl) (pc_without T (hr.mono (by decide)) (by rfl) (pa_cons (pv 3) (pa_cons (pe_ix ix_tup (pv 6) pe_int (fun _ _ => rfl)) pa_nil))))) pss_nil)))))
      (pss_one (ps_ret (pe_fz (pv 2))))))), ?_⟩
    have h4 := ok.h4
    have lx : xs.length = R.length + 1 := by rw [paired_len rel]; unfold paperOf; simp
    refine ⟨(by show 1 ≤ sizeLine; decide), fun t ht => ⟨_, rfl, wa.same (Same.new ht) |>.hands T ⟨t, _, _, rfl, rfl, upd_same, by omega, by omega, (by show 1 * (W.hands : Int).toNat ≤ sizeLine; rw [Int.toNat_natCast]; exact Nat.le_trans (by omega) (show 1000 ≤ sizeLine by decide)), fun D hD => ?_⟩⟩⟩
    rw [Int.toNat_natCast, ones_nil]
    have hD0 : H D = none := (Same.new ht).free hD
    have s1 : Same H (upd (upd H t (.lst [V.int 0])) D (.lst ((ones W.hands []).map V.int))) := (Same.new ht).trans (Same.new hD)
    refine ⟨_, rfl, (wa.same s1).hands T ⟨W.hands, rfl, by omega, ⟨_, rfl, l, rfl, ⟨_, (fz.keep (Keep.of s1)).sq⟩, ?_⟩⟩⟩
    refine for_list (K := K) (a := l) (xs := xs) (fun i σ H' => ∃ a b c d, σ = [some (.ref p), some (.ref l), some (.ref D), some (.int (stAfter W.hands (R.take i) : Nat)), a, b, c, d] ∧ Same H H' ∧ H' D = some (.lst ((ones W.hands (seated (R.take i))).map V.int)) ∧ (R.length < i → z = "end"))
      ⟨none, none, none, none, rfl, s1, upd_same, fun h => absurd h (by omega)⟩ ?_ ?_ ?_
    · rintro i σ H' _ ⟨_, _, _, _, _, s2, _⟩
      exact (fz.keep (Keep.of s2)).sq
    · rintro i x σ H' hx ⟨a, b, c, d, rfl, s2, e2, _⟩
      obtain ⟨y, hy, q, u1, u2, u3, rfl, hq, dt, rfl, hd⟩ := paired_get rel hx
      have hq2 := sqt_keep (Keep.of s2) hq
      have hd2 := sqt_keep (Keep.of s2) hd
      have hi : i < R.length + 1 := by
        rw [← lx]
        exact (List.getElem?_eq_some_iff.mp hx).1
      refine ⟨q, _, rfl, hq2, rfl, _, _, rfl, _, _, rfl, _, _, rfl, rfl, ?_⟩
      refine ⟨_, rfl, dt, _, _, _, rfl, rfl, hd2, rfl, ?_⟩
      by_cases hi2 : i < R.length
      · obtain ⟨b1, xh, hR⟩ : ∃ b1 xh, R[i] = (b1, xh) := ⟨_, _, rfl⟩
        rw [paper_lt hi2, hR] at hy
        obtain rfl := (Option.some.inj hy).symm
        have hmem : (b1, xh) ∈ R := hR ▸ List.getElem_mem hi2
        have xn : xh < W.hands := valid_lt val _ hmem
        have etk : R.take (i + 1) = R.take i ++ [(b1, xh)] := take_snoc (by rw [List.getElem?_eq_getElem hi2, hR])
        refine ⟨rfl, ?_⟩
        refine testE (w_seat b1) ?_
        have est : stAfter W.hands (R.take (i + 1)) = without (stAfter W.hands (R.take i)) xh := by rw [etk, stAfter_snoc]
        cases b1 with
        | true =>
          refine iteT ?_
          have hxo : xh < ((ones W.hands (seated (R.take i))).map V.int).length := by simpa [ones] using xn
          refine ⟨_, rfl, _, rfl, dt, _, _, _, rfl, rfl, hd2, rfl, D, _, _, xh, rfl, rfl, e2, ixN_nat hxo, ?_⟩
          rw [ones_set xn]
          have es : seated (R.take i) ++ [xh] = seated (R.take (i + 1)) := by rw [etk, seated_snoc]; rfl
          rw [es]
          have s3 : Same H (upd H' D (.lst ((ones W.hands (seated (R.take (i + 1)))).map V.int))) := Same.at s2 hD0
          have hd3 := sqt_keep (Keep.of s3) hd
          refine ⟨_, rfl, dt, _, _, _, rfl, rfl, hd3, rfl, rfl, ?_⟩
          refine testE (w_rest true) ?_
          refine iteF ?_
          refine ⟨_, rfl, dt, _, _, _, rfl, rfl, hd3, rfl, rfl, ?_⟩
          refine testN (w_end true) ?_
          refine iteT ?_
          refine ⟨_, rfl, _, rfl, dt, _, _, _, rfl, rfl, hd3, rfl, _, xh, rfl, by omega, ?_⟩
          rw [← est]
          exact ⟨_, _, _, _, rfl, s3, upd_same, fun h => absurd h (by omega)⟩
        | false =>
          refine iteF ?_
          have es : seated (R.take i) = seated (R.take (i + 1)) := by rw [etk, seated_snoc]; simp
          refine ⟨_, rfl, dt, _, _, _, rfl, rfl, hd2, rfl, rfl, ?_⟩
          refine testE (w_rest false) ?_
          refine iteF ?_
          refine ⟨_, rfl, dt, _, _, _, rfl, rfl, hd2, rfl, rfl, ?_⟩
          refine testN (w_end false) ?_
          refine iteT ?_
          refine ⟨_, rfl, _, rfl, dt, _, _, _, rfl, rfl, hd2, rfl, _, xh, rfl, by omega, ?_⟩
          rw [← est]
          exact ⟨_, _, _, _, rfl, s2, by rw [← es]; exact e2, fun h => absurd h (by omega)⟩
      · have hi3 : i = R.length := by omega
        subst hi3
        rw [paper_eq] at hy
        obtain rfl := (Option.some.inj hy).symm
        rw [List.take_length] at e2
        obtain ⟨places, hpl, ⟨rfl, c1⟩ | ⟨rfl, c1, c0⟩⟩ := ends
        · refine ⟨rfl, ?_⟩
          refine testE w_rs ?_
          refine iteF ?_
          refine ⟨_, rfl, dt, _, _, _, rfl, rfl, hd2, rfl, rfl, ?_⟩
          refine testE w_rr ?_
          refine iteT ?_
          refine ⟨_, rfl, (wa.same s2).hands T ⟨(W.hands : Int), rfl, by omega, by omega, fun D2 hD2 => ?_⟩⟩
          refine lc_range (lo := 0) (n := (W.hands : Int).toNat) (fun j H4 => Acc K rInt H' D2 H4 ((ones W.hands (seated R ++ members (stAfter W.hands R))).take j)) (Acc.start hD2) ?_ ?_
          · intro j H4 hj ac
            have hj' : j < W.hands := by omega
            refine ⟨rfl, ?_⟩
            refine ⟨_, rfl, _, rfl, D, _, _, _, rfl, rfl, SqL.of (ac.same _ _ e2), at_of (j := j) (by omega) (by rw [List.getElem?_map, ones_at hj']; rfl), ?_⟩
            refine ⟨_, rfl, _, rfl, stAfter W.hands (R.take R.length), j, (by rw [Int.zero_add]; rfl), .inr ⟨_, rfl, _, _, rfl, rfl, ?_⟩⟩
            have ev : (if j ∈ seated R then (1 : Int) else 0) + (if (stAfter W.hands (R.take R.length)).testBit j = true then 1 else 0) = if j ∈ seated R ++ members (stAfter W.hands R) then 1 else 0 := by
              rw [List.take_length]
              by_cases h1 : j ∈ seated R
              · have h2 : j ∉ members (stAfter W.hands R) := row_out (d := (true, j)) (seated_mem h1)
                rw [mem_members] at h2
                simp [h1, h2]
              · by_cases h2 : (stAfter W.hands R).testBit j = true
                · simp [h1, h2, mem_members]
                · simp [h1, h2, mem_members]
            show ∃ acc, H4 D2 = some (HO.lst acc) ∧ acc.length < sizeLine ∧ Acc K rInt H' D2 (upd H4 D2 (HO.lst (acc ++ [V.int ((if j ∈ seated R then (1 : Int) else 0) + (if (stAfter W.hands (R.take R.length)).testBit j = true then 1 else 0))]))) (List.take (j + 1) (ones W.hands (seated R ++ members (stAfter W.hands R))))
            rw [ev]
            obtain ⟨vs, a1, a2, a3⟩ := Acc.push rInt_stays hD2 ac (Same.refl H4) (v := .int (if j ∈ seated R ++ members (stAfter W.hands R) then 1 else 0)) (a := if j ∈ seated R ++ members (stAfter W.hands R) then 1 else 0) rfl
            refine ⟨vs, a1, ?_, ?_⟩
            · rw [a2, List.length_take]
              have : (ones W.hands (seated R ++ members (stAfter W.hands R))).length = W.hands := by simp [ones]
              exact small1000 (by omega)
            · rw [take_snoc (ones_at hj')]
              exact a3
          · intro H4 ac
            have e : (W.hands : Int).toNat = (ones W.hands (seated R ++ members (stAfter W.hands R))).length := by simp [ones]
            rw [e, List.take_length] at ac
            obtain ⟨vs, h1, h2⟩ := ac.freeze rInt_stays hD2
            exact ⟨D2, vs, rfl, h1, fun o => k _ _ _ (s2.trans (h2 o).1) (h2 o).2 (end_rest hpl c1)⟩
        · refine ⟨rfl, ?_⟩
          refine testE w_es ?_
          refine iteF ?_
          refine ⟨_, rfl, dt, _, _, _, rfl, rfl, hd2, rfl, rfl, ?_⟩
          refine testE w_er ?_
          refine iteF ?_
          refine ⟨_, rfl, dt, _, _, _, rfl, rfl, hd2, rfl, rfl, ?_⟩
          refine testN w_ee ?_
          refine iteF ?_
          refine ⟨some u1, some u2, some (.ref dt), d, ?_, s2, ?_, fun _ => rfl⟩
          · rw [List.take_of_length_le (Nat.le_succ _), List.take_length]
            rfl
          · rw [List.take_of_length_le (Nat.le_succ _)]
            exact e2
    · rintro σ H' ⟨a, b, c, d, rfl, s2, e2, he⟩
      have hz := he (by omega)
      rw [List.take_of_length_le (by omega)] at e2
      obtain ⟨places, hpl, ⟨hz2, c1⟩ | ⟨_, c1, c0⟩⟩ := ends
      · rw [hz] at hz2
        exact absurd hz2 (by decide +kernel)
      · refine ⟨_, rfl, D, _, rfl, e2, fun o => k _ _ (ones W.hands (seated R)) (Same.at s2 hD0) ⟨D, _, rfl, FzL.mk, ints_paired _⟩ (end_end (by omega) (by omega))⟩
theorem pq_Seats_told_by {K : PySem.W.Frag} {mg : Str → Option Value} (T : Tx K mg) {X : Cx} (hr : Room 3 X.A) {pl : Sem Bool} {apos pos : Pos} {o e : Expr} {es : List Expr} {ta : TE} {t : TA} (ho : PE X o ta) (ha : PA X (e :: es) t) (hK : X.K = K := by rfl) (hM : X.mg = mg := by rfl) (he : starEach (e :: es) X.env = (false, eval e X.env) :: starEach es X.env := by rfl) (hpl : (backTo pos (starEach es X.env)).any (·.1) = false := by rfl)
    (ht : eval (.Call (.Attribute o "told_by" apos) (e :: es) [] pos) X.env = (do
      let ov ← eval o X.env
      standAt apos.atName
      let (f, first) ← holding [ov] (getMethod ov "told_by" pl)
      callWith pos f first (backTo pos (starEach (e :: es) X.env)) (backToKw pos (keywordEach [] X.env))) := by rfl) :
    PE X (.Call (.Attribute o "told_by" apos) (e :: es) [] pos) (tMeth (He.ga K "Seats") "told_by" (sp_Seats_told_by K) [] E0 ta t) := by
  subst hK hM
  obtain ⟨fd, F⟩ := T.says.def_ 60 (d := d_Seats_told_by) rfl
  exact pe_meth ho (T.cls_Seats) (T.meth_ 81 rfl) (ok_Seats_told_by T F) hr (F.bindsN fun _ _ _ _ _ _ us hl => match us, hl with | [_, _], _ => rfl) .nil pass0 ha he hpl ht
def sp_Way_outcome (K : PySem.W.Frag) : Sp := fun vs H Q _ => ∃ (p : Addr) (v : V) (W : Hall) (S : Sheet), vs = [.ref p, v] ∧ WayAt K H p W ∧ HallOk W ∧ rSheet K H v S ∧ S.length ≤ 100 ∧ total S ≤ 2 ^ 50 ∧
  ∀ H' u o, Same H H' → rLst rInt K H' u o → IsOutcome W S o → Q u H'
abbrev N_Way_outcome : List Str := ["self", "sheet"]
theorem sc_Way_outcome : FnScope N_Way_outcome ["self", "sheet"] (defScope s_Way_outcome) := ⟨rfl, rfl, rfl, by decide +kernel, rfl, by decide +kernel, by decide +kernel⟩
theorem ok_Way_outcome (T : Tx K mg) {fd : FuncData} (F : FnD K d_Way_outcome fd) : FnOk P w K mg base CX0 8 (He.fAd K d_Way_outcome.at_) fd ["self", "sheet"] (sp_Way_outcome K) := by
  have nd := sc_Way_outcome.nd
  refine okx F sc_Way_outcome (fun vs H Q E h => ?_) (fun cdv A outer s H vs Q E hr h => ?_)
  · obtain ⟨p, v, W, S, rfl, _⟩ := h
    rfl
  · obtain ⟨p, v, W, S, rfl, wa, ok, rs, hl, ht, k⟩ := h
    refine ⟨_, (pss_one (ps_ret (pq_Seats_told_by T (hr.mono (by decide)) (pv 0) (pa_cons (pq_Seats_counted T (hr.mono (by decide)) (pv 0) (pa_cons (pv 1) pa_nil)) pa_nil)))), ?_⟩
    refine ⟨_, rfl, wa.meth (by decide +kernel) (by decide +kernel) (by decide +kernel) ⟨_, rfl, wa.meth (by decide +kernel) (by decide +kernel) (by decide +kernel) ⟨_, rfl, p, v, W, S, rfl, wa, ok, rs, hl, ht, fun H1 u R z s1 ru due ends => ?_⟩⟩⟩
    exact ⟨p, u, W, R, z, rfl, wa.same s1, ok, ru, due.valid, ends, fun H2 u2 o s2 ru2 he => k _ _ _ (s1.trans s2) ru2 ⟨R, due, he⟩⟩
theorem pq_Way_outcome {K : PySem.W.Frag} {mg : Str → Option Value} (T : Tx K mg) {X : Cx} (hr : Room 8 X.A) {pl : Sem Bool} {apos pos : Pos} {o e : Expr} {es : List Expr} {ta : TE} {t : TA} (ho : PE X o ta) (ha : PA X (e :: es) t) (hK : X.K = K := by rfl) (hM : X.mg = mg := by rfl) (he : starEach (e :: es) X.env = (false, eval e X.env) :: starEach es X.env := by rfl) (hpl : (backTo pos (starEach es X.env)).any (·.1) = false := by rfl)
    (ht : eval (.Call (.Attribute o "outcome" apos) (e :: es) [] pos) X.env = (do
      let ov ← eval o X.env
      standAt apos.atName
      let (f, first) ← holding [ov] (getMethod ov "outcome" pl)
      callWith pos f first (backTo pos (starEach (e :: es) X.env)) (backToKw pos (keywordEach [] X.env))) := by rfl) :
    PE X (.Call (.Attribute o "outcome" apos) (e :: es) [] pos) (tMeth (He.ga K "Seats") "outcome" (sp_Way_outcome K) [] E0 ta t) := by
  subst hK hM
  obtain ⟨fd, F⟩ := T.says.def_ 57 (d := d_Way_outcome) rfl
  exact pe_meth ho (T.cls_Seats) (T.meth_ 78 rfl) (ok_Way_outcome T F) hr (F.bindsN fun _ _ _ _ _ _ us hl => match us, hl with | [_, _], _ => rfl) .nil pass0 ha he hpl ht
end
end K75
-- K14
set_option exponentiation.threshold 4000
/-! cases: half_of, need. -/
namespace K75
open PySem PySem.Spec PyProof.Rows L2
theorem Sm.neg {q : Rat} (h : Sm (-q)) : Sm q := by
  obtain ⟨a, b⟩ := h
  refine ⟨?_, ?_⟩
  · rw [Rat.neg_num, Int.natAbs_neg] at a; exact a
  · rw [Rat.neg_den] at b; exact b
theorem By.neg {D : Nat} {a : Rat} (h : By D a) : By D (-a) := by
  obtain ⟨y, hy⟩ := h
  refine ⟨-y, ?_⟩
  rw [Rat.intCast_neg, ← hy]
  grind
theorem sm_abs {D : Nat} {q : Rat} (h : By D q) (h0 : 0 < D) (hD : D ≤ 2 ^ 900) (l : -((2 ^ 60 : Nat) : Rat) ≤ q) (u : q ≤ ((2 ^ 60 : Nat) : Rat)) : Sm q := by
  by_cases c : 0 ≤ q
  · exact sm_of h h0 hD c u
  · refine Sm.neg (sm_of h.neg h0 hD ?_ ?_)
    · grind
    · generalize ((2 ^ 60 : Nat) : Rat) = B at *
      grind
/-- a list of small fractions over one bottom -/
def Tame (rs : List Rat) : Prop := ∃ E, 0 < E ∧ E ≤ 2 ^ 800 ∧ ∀ x ∈ rs, By E x ∧ 0 ≤ x ∧ x ≤ ((2 ^ 55 : Nat) : Rat)
theorem p5560 : ((2 ^ 55 : Nat) : Rat) + ((2 ^ 55 : Nat) : Rat) ≤ ((2 ^ 60 : Nat) : Rat) := by
  rw [← Rat.natCast_add]
  exact Rat.natCast_le_natCast.mpr (by decide)
theorem sums_tame {S : Sheet} {n D m : Nat} {c : Cnt} (h : Good S n D m c.F c.G) (hs : c.st < 16) : Tame (sumsOf S n c) := by
  refine ⟨D * 12, h.p12.1, ?_, fun x hx => ?_⟩
  · exact Nat.le_trans (Nat.mul_le_mul_right 12 h.small) (by decide)
  · obtain ⟨j, _, rfl⟩ := List.mem_map.mp hx
    refine ⟨by_wsum (fun s => (row_zero h hs s j).1) S, wsum_nonneg fun s => (row_zero h hs s j).2.1, ?_⟩
    refine Rat.le_trans (wsum_le_total (fun s => (row_zero h hs s j).2.2) S) ?_
    rw [← Rat.natCast_mul]
    exact Rat.natCast_le_natCast.mpr (Nat.le_trans (Nat.mul_le_mul_right 16 h.tot) (by decide))
section
variable {rs : List Rat}
theorem Tame.sm (t : Tame rs) : ∀ x ∈ rs, Sm x := fun x hx => by
  obtain ⟨E, h0, hE, h⟩ := t
  obtain ⟨a, b, c⟩ := h x hx
  have := p5560
  refine sm_of a h0 (Nat.le_trans hE (Nat.pow_le_pow_right (by decide) (by decide))) b (Rat.le_trans c (Rat.natCast_le_natCast.mpr (by decide)))
theorem half_by {E : Nat} {x : Rat} (h : By E x) : By (E * 2) (x * (1 / 2)) := by
  obtain ⟨y, hy⟩ := h
  refine ⟨y, ?_⟩
  rw [Rat.natCast_mul, ← hy]
  have : ((2 : Nat) : Rat) = 2 := rfl
  rw [this]
  grind
theorem Tame.sub (t : Tame rs) {x y : Rat} (hx : x ∈ rs) (hy : y ∈ rs) : Sm (x - y) ∧ Sm ((x - y) * (1 / 2)) := by
  obtain ⟨E, h0, hE, h⟩ := t
  obtain ⟨a, b, c⟩ := h x hx
  obtain ⟨a', b', c'⟩ := h y hy
  have p := p5560
  have e9 : E ≤ 2 ^ 900 := Nat.le_trans hE (Nat.pow_le_pow_right (by decide) (by decide))
  have e92 : E * 2 ≤ 2 ^ 900 := Nat.le_trans (Nat.mul_le_mul_right 2 hE) (by decide)
  generalize hB : ((2 ^ 60 : Nat) : Rat) = B at *
  generalize hC : ((2 ^ 55 : Nat) : Rat) = C at *
  refine ⟨sm_abs (a.sub a') h0 e9 (by rw [hB]; grind) (by rw [hB]; grind), sm_abs (half_by (a.sub a')) (by omega) e92 (by rw [hB]; grind) (by rw [hB]; grind)⟩
theorem Tame.nat (t : Tame rs) {x : Rat} (hx : x ∈ rs) {q : Nat} (hq : q ≤ 2 ^ 55) : Sm (x - (q : Rat)) ∧ Sm ((q : Rat) - x) := by
  obtain ⟨E, h0, hE, h⟩ := t
  obtain ⟨a, b, c⟩ := h x hx
  have p := p5560
  have q0 : (0 : Rat) ≤ (q : Rat) := Rat.natCast_nonneg
  have q1 : (q : Rat) ≤ ((2 ^ 55 : Nat) : Rat) := Rat.natCast_le_natCast.mpr hq
  have e9 : E ≤ 2 ^ 900 := Nat.le_trans hE (Nat.pow_le_pow_right (by decide) (by decide))
  generalize hB : ((2 ^ 60 : Nat) : Rat) = B at *
  generalize hC : ((2 ^ 55 : Nat) : Rat) = C at *
  refine ⟨sm_abs (a.sub (By.nat E q)) h0 e9 (by rw [hB]; grind) (by rw [hB]; grind), sm_abs ((By.nat E q).sub a) h0 e9 (by rw [hB]; grind) (by rw [hB]; grind)⟩
end
theorem getD_mem {rs : List Rat} {x : Nat} (h : x < rs.length) : rs.getD x 0 ∈ rs := by
  rw [List.getD_eq_getElem?_getD, List.getElem?_eq_getElem h]
  exact List.getElem_mem h
theorem max_if (i j : Int) : (if j > i then j else i) = max i j := by
  split <;> omega
def rD : Rl Deed := fun K H v d => rDeed K H v (deedV d)
theorem rD_stays : Stays rD := ⟨fun k h => rDeed_stays.k k h⟩
section
variable {P : Program} {w : World} {K : PySem.W.Frag} {mg : Str → Option Value} {base : Heap}
def sp_half_of (K : PySem.W.Frag) : Sp := fun vs H Q _ => ∃ (x : V) (g : Rat) (b : Bool), vs = [x, .bl b] ∧ rRat K H x g ∧ Sm g ∧ Sm (g * (1 / 2)) ∧ ∀ H', Same H H' → Q (.int (halfOf g b)) H'
abbrev N_half_of : List Str := ["gap", "strict", "half"]
theorem sc_half_of : FnScope N_half_of ["gap", "strict"] (defScope s_half_of) := ⟨rfl, rfl, rfl, by decide +kernel, rfl, by decide +kernel, by decide +kernel⟩
theorem ok_half_of (T : Tx K mg) {fd : FuncData} (F : FnD K d_half_of fd) : FnOk P w K mg base CX0 4 (He.fAd K d_half_of.at_) fd ["gap", "strict"] (sp_half_of K) := by
  have nd := sc_half_of.nd
  refine okx F sc_half_of (fun vs H Q E h => ?_) (fun cdv A outer s H vs Q E hr h => ?_)
  · obtain ⟨x, g, b, rfl, _⟩ := h
    rfl
  · obtain ⟨x, g, b, rfl, rg, sg, sg2, k⟩ := h
    refine ⟨_, (pss_cons (ps_set (i := 2) nd rfl (Or.inl rfl) (pc_times T (hr.mono (by decide)) (by rfl) (pa_cons (pv 0) (pa_cons (pe_tup (pa_cons pe_int (pa_cons pe_int pa_nil))) pa_nil))))
      (pss_cons (ps_if (pt_val (pv 1)) (pss_one (ps_ret (pe_callB (call_max2 rfl) (by rfl) (T.free 55 rfl) (by decide +kernel) (pa_cons pe_int (pa_cons (pc_least_above T (hr.mono (by decide)) (by rfl) (pa_cons (pv 2) pa_nil)) pa_nil))))) pss_nil)
      (pss_one (ps_ret (pe_callB (call_max2 rfl) (by rfl) (T.free 55 rfl) (by decide +kernel) (pa_cons pe_int (pa_cons (pc_least_from T (hr.mono (by decide)) (by rfl) (pa_cons (pv 2) pa_nil)) pa_nil))))))), ?_⟩
    have one2 : Sm (1 / ((2 : Nat) : Rat)) := sm_one_over (by decide) (by decide)
    refine ⟨_, rfl, (by show 2 ≤ sizeLine; decide), fun p hp => ?_⟩
    have s1 : Same H (upd H p (.tup [.int 1, .int 2])) := Same.new hp
    refine ⟨x, .ref p, g, 1 / ((2 : Nat) : Rat), rfl, rRat_stays.k (Keep.of s1) rg, rat_tup (n := 2) (by decide), sg, one2, fun H2 y s2 ry => ?_⟩
    have ry' : rRat K H2 y (g * (1 / 2)) := ry
    cases b with
    | true =>
      refine ⟨_, rfl, true, rfl, iteT ?_⟩
      refine ⟨_, rfl, y, _, rfl, ry', sg2, fun H3 s3 => ⟨_, _, rfl, ?_⟩⟩
      rw [max_if]
      exact k H3 ((s1.trans s2).trans s3)
    | false =>
      refine ⟨_, rfl, false, rfl, iteF ?_⟩
      refine ⟨_, rfl, y, _, rfl, ry', sg2, fun H3 s3 => ⟨_, _, rfl, ?_⟩⟩
      rw [max_if]
      exact k H3 ((s1.trans s2).trans s3)
theorem pc_half_of {K : PySem.W.Frag} {mg : Str → Option Value} (T : Tx K mg) {X : Cx} (hr : Room 4 X.A) (hg : Gl X "half_of") {p pos : Pos} {e : Expr} {es : List Expr} {t : TA} (ha : PA X (e :: es) t) (hK : X.K = K := by rfl) (hM : X.mg = mg := by rfl) (he : starEach (e :: es) X.env = (false, eval e X.env) :: starEach es X.env := by rfl) (hpl : (backTo pos (starEach es X.env)).any (·.1) = false := by rfl) : PE X (.Call (.Name "half_of" p) (e :: es) [] pos) (tCall (sp_half_of K) [] E0 t) := by
  subst hK hM
  obtain ⟨fd, F⟩ := T.says.def_ 26 (d := d_half_of) rfl
  exact pe_call (ok_half_of T F) hr hg (T.glo 26 rfl) F.kp (F.bindsN fun _ _ _ _ _ _ us hl => match us, hl with | [_, _], _ => rfl) .nil pass0 ha (by decide) he hpl
def sp_need (K : PySem.W.Frag) : Sp := fun vs H Q _ => ∃ (p : Addr) (sv dv : V) (W : Hall) (n st : Nat) (rs : List Rat) (d : Deed), vs = [.ref p, .int (n : Int), sv, .int (st : Int), dv] ∧ WayAt K H p W ∧ rRats K H sv rs ∧ rD K H dv d ∧ W.seats ≤ 60 ∧ n ≤ 2 ^ 50 ∧ st < 2 ^ 60 ∧
  (∀ x ∈ members st, x < rs.length ∧ x ∈ W.lots) ∧ d.2 ∈ members st ∧ Tame rs ∧ ∀ H', Same H H' → Q (.int (needOf W.lots (quota W.seats n) (fun x => rs.getD x 0) st d)) H'
abbrev N_need : List Str := ["way", "ballots", "sums", "standing", "deed", "quota", "word", "hand", "found", "other"]
theorem sc_need : FnScope N_need ["way", "ballots", "sums", "standing", "deed"] (defScope s_need) := ⟨rfl, rfl, rfl, by decide +kernel, rfl, by decide +kernel, by decide +kernel⟩
theorem ok_need (T : Tx K mg) {fd : FuncData} (F : FnD K d_need fd) : FnOk P w K mg base CX0 5 (He.fAd K d_need.at_) fd ["way", "ballots", "sums", "standing", "deed"] (sp_need K) := by
  have nd := sc_need.nd
  refine okx F sc_need (fun vs H Q E h => ?_) (fun cdv A outer s H vs Q E hr h => ?_)
  · obtain ⟨p, sv, dv, W, n, st, rs, d, rfl, _⟩ := h
    rfl
  · obtain ⟨p, sv, dv, W, n, st, rs, d, rfl, wa, ⟨a, as, rfl, fz, rel⟩, ⟨dt, rfl, hd⟩, hse, hn, hst, hb, hd2, tame, k⟩ := h
    obtain ⟨b1, h⟩ := d
    refine ⟨_, (pss_cons (ps_set (i := 5) nd rfl (Or.inl rfl) (pe_tup (pa_cons (pq_Seats_quota T (hr.mono (by decide)) (pv 0) (pa_cons (pv 1) pa_nil)) (pa_cons pe_int pa_nil))))
      (pss_cons (ps_asg (pv 4) (pg_tup rfl (pgs_cons (pg_name (i := 6) nd rfl (Or.inl rfl)) (pgs_cons (pg_name (i := 7) nd rfl (Or.inl rfl)) pgs_nil))))
      (pss_cons (ps_set (i := 8) nd rfl (Or.inl rfl) pe_int)
      (pss_cons (ps_if (pt_cmpR op_eq (pv 6) pe_str (nomark _)) (pss_one (ps_set (i := 8) nd rfl (Or.inl rfl) (pe_callB (call_max2 rfl) (by rfl) (T.free 55 rfl) (by decide +kernel) (pa_cons pe_int (pa_cons (pc_least_from T (hr.mono (by decide)) (by rfl) (pa_cons (pc_minus T (hr.mono (by decide)) (by rfl) (pa_cons (pv 5) (pa_cons (pe_ix ix_list (pv 2) (pv 7) (fun _ _ => rfl)) pa_nil))) pa_nil)) pa_nil))))) pss_nil)
      (pss_cons (ps_for PassesOwn.never rfl (pi_list (pc_members T (hr.mono (by decide)) (by rfl) (pa_cons (pv 3) pa_nil))) (pg_name (i := 9) nd rfl (Or.inl rfl)) (pss_cons (ps_if (pt_cmpR op_eq (pv 6) pe_str (nomark _)) (pss_one (ps_set (i := 8) nd rfl (Or.inl rfl) (pe_callB (call_max2 rfl) (by rfl) (T.free 55 rfl) (by decide +kernel) (pa_cons (pv 8) (pa_cons (pc_least_above T (hr.mono (by decide)) (by rfl) (pa_cons (pc_minus T (hr.mono (by decide)) (by rfl) (pa_cons (pe_ix ix_list (pv 2) (pv 9) (fun _ _ => rfl)) (pa_cons (pv 5) pa_nil))) pa_nil)) pa_nil))))) pss_nil)
      (pss_cons (ps_if (pt_cmpR op_eq (pv 9) (pv 7) (nomark _)) (pss_one ps_continue) pss_nil)
      (pss_one (ps_if (pt_cmpR op_eq (pv 6) pe_str (nomark _)) (pss_one (ps_set (i := 8) nd rfl (Or.inl rfl) (pe_callB (call_max2 rfl) (by rfl) (T.free 55 rfl) (by decide +kernel) (pa_cons (pv 8) (pa_cons (pc_half_of T (hr.mono (by decide)) (by rfl) (pa_cons (pc_minus T (hr.mono (by decide)) (by rfl) (pa_cons (pe_ix ix_list (pv 2) (pv 9) (fun _ _ => rfl)) (pa_cons (pe_ix ix_list (pv 2) (pv 7) (fun _ _ => rfl)) pa_nil))) (pa_cons (pq_Way_ahead T (hr.mono (by decide)) (pv 0) (pa_cons (pv 9) (pa_cons (pv 7) pa_nil))) pa_nil))) pa_nil))))) (pss_one (ps_set (i := 8) nd rfl (Or.inl rfl) (pe_callB (call_max2 rfl) (by rfl) (T.free 55 rfl) (by decide +kernel) (pa_cons (pv 8) (pa_cons (pc_half_of T (hr.mono (by decide)) (by rfl) (pa_cons (pc_minus T (hr.mono (by decide)) (by rfl) (pa_cons (pe_ix ix_list (pv 2) (pv 7) (fun _ _ => rfl)) (pa_cons (pe_ix ix_list (pv 2) (pv 9) (fun _ _ => rfl)) pa_nil))) (pa_cons (pq_Way_ahead T (hr.mono (by decide)) (pv 0) (pa_cons (pv 7) (pa_cons (pv 9) pa_nil))) pa_nil))) pa_nil))))))))))
      (pss_one (ps_ret (pv 8)))))))), ?_⟩
    have hq : quota W.seats n ≤ 2 ^ 55 := by
      unfold quota
      have := Nat.div_le_self n (W.seats + 1)
      have : 2 ^ 50 + 1 ≤ 2 ^ 55 := by decide
      omega
    have hq60 : quota W.seats n ≤ 2 ^ 60 := Nat.le_trans hq (by decide)
    have at_ : ∀ H2, Same H H2 → ∀ x, x < rs.length → ∃ u, as[x]? = some u ∧ rRat K H2 u (rs.getD x 0) := fun H2 s x hx => rats_at (paired_mono (fun _ _ z => rRat_stays.k (Keep.of s) z) rel) hx
    refine ⟨_, rfl, wa.meth (by decide +kernel) (by decide +kernel) (by decide +kernel) ⟨_, rfl, p, W, n, rfl, wa, hse, ?_⟩⟩
    refine ⟨(by show 2 ≤ sizeLine; decide), fun qp hqp => ?_⟩
    have s1 : Same H (upd H qp (.tup [.int ((quota W.seats n : Nat) : Int), .int 1])) := Same.new hqp
    refine ⟨_, rfl, dt, _, rfl, sqt_keep (Keep.of s1) hd, rfl, _, _, rfl, _, _, rfl, rfl, ?_⟩
    cases b1 with
    | true =>
      refine ⟨_, rfl, rfl, ?_⟩
      refine testE (w_seat true) ?_
      refine iteT ?_
      obtain ⟨u, hu, ru⟩ := at_ _ s1 h (hb h hd2).1
      refine ⟨_, rfl, _, rfl, _, rfl, a, as, _, _, rfl, rfl, (fz.keep (Keep.of s1)).sq, atI_nat hu, ?_⟩
      refine ⟨.ref qp, u, ((quota W.seats n : Nat) : Rat), rs.getD h 0, rfl, rat_nat, ru, sm_nat hq60, tame.sm _ (getD_mem (hb h hd2).1), fun H2 y s2 ry => ?_⟩
      refine ⟨y, _, rfl, ry, (tame.nat (getD_mem (hb h hd2).1) hq).2, fun H3 s3 => ?_⟩
      refine ⟨_, _, rfl, ?_⟩
      rw [max_if]
      have s13 := (s1.trans s2).trans s3
      have s33 := s2.trans s3
      refine ⟨_, rfl, st, rfl, hst, fun H4 m s4 hm fm => ⟨m, rfl, ⟨_, fm.sq⟩, ?_⟩⟩
      have s14 := s13.trans s4
      have s34 := s33.trans s4
      refine for_list (K := K) (a := m) (xs := nats (members st)) (fun i σ H' => ∃ t, σ = [some (.ref p), some (.int (n : Int)), some (.ref a), some (.int (st : Int)), some (.ref dt), some (.ref qp), some (.str (wordOf true)), some (.int (h : Int)), some (.int (((members st).take i).foldl (needSeat W.lots (fun x => rs.getD x 0) h) (max 0 (((quota W.seats n : Nat) : Rat) - rs.getD h 0).ceil))), t] ∧ Same H4 H')
        ⟨_, rfl, Same.refl _⟩ ?_ ?_ ?_
      · rintro i σ H' _ ⟨t, rfl, s5⟩
        exact (fm.keep (Keep.of s5)).sq
      · rintro i x σ H' hx ⟨t, rfl, s5⟩
        rw [List.getElem?_map] at hx
        obtain ⟨y, hy, rfl⟩ := Option.map_eq_some_iff.mp hx
        have hym : y ∈ members st := List.mem_of_getElem? hy
        have etk : ((members st).take (i + 1)).foldl (needSeat W.lots (fun x => rs.getD x 0) h) (max 0 (((quota W.seats n : Nat) : Rat) - rs.getD h 0).ceil) = needSeat W.lots (fun x => rs.getD x 0) h (((members st).take i).foldl (needSeat W.lots (fun x => rs.getD x 0) h) (max 0 (((quota W.seats n : Nat) : Rat) - rs.getD h 0).ceil)) y := by rw [take_snoc hy, List.foldl_append]; rfl
        generalize hf : ((members st).take i).foldl (needSeat W.lots (fun x => rs.getD x 0) h) (max 0 (((quota W.seats n : Nat) : Rat) - rs.getD h 0).ceil) = f at *
        have s15 := s14.trans s5
        have s35 := s34.trans s5
        obtain ⟨u, hu, ru⟩ := at_ _ s15 y (hb y hym).1
        obtain ⟨v, hv, rv⟩ := at_ _ s15 h (hb h hd2).1
        have my := getD_mem (hb y hym).1
        have mh := getD_mem (hb h hd2).1
        refine ⟨_, rfl, rfl, ?_⟩
        refine testE (w_out true) ?_
        refine iteF ?_
        refine ⟨_, rfl, _, rfl, rfl, _, rfl, ite2 (fun c => ?_) (fun c => ?_)⟩
        · have c' : y = h := by
            have : V.int (y : Int) = V.int (h : Int) := by simpa using c
            injection this with e
            omega
          refine ⟨some (.int (y : Int)), ?_, s5⟩
          rw [etk]
          unfold needSeat
          rw [if_pos c']
          rfl
        · have c' : ¬ y = h := fun z => c (by rw [z]; simp)
          refine ⟨_, rfl, rfl, ?_⟩
          refine testE (w_seat true) ?_
          refine iteT ?_
          refine ⟨_, rfl, _, rfl, _, rfl, a, as, _, _, rfl, rfl, (fz.keep (Keep.of s15)).sq, atI_nat hu, _, rfl, _, rfl, a, as, _, _, rfl, rfl, (fz.keep (Keep.of s15)).sq, atI_nat hv, ?_⟩
          refine ⟨u, v, _, _, rfl, ru, rv, tame.sm _ my, tame.sm _ mh, fun H6 g s6 rg => ?_⟩
          refine ⟨_, rfl, (wa.same (s15.trans s6)).meth (by decide +kernel) (by decide +kernel) (by decide +kernel) ⟨_, rfl, _, rfl, p, W, y, h, rfl, wa.same (s15.trans s6), (hb y hym).2, (hb h hd2).2, ?_⟩⟩
          refine ⟨g, _, _, rfl, rg, (tame.sub my mh).1, (tame.sub my mh).2, fun H7 s7 => ?_⟩
          refine ⟨_, _, rfl, ?_⟩
          rw [max_if]
          refine ⟨some (.int (y : Int)), ?_, (s5.trans s6).trans s7⟩
          rw [etk]
          unfold needSeat
          rw [if_neg c']
          rfl
      · rintro σ H' ⟨t, rfl, s5⟩
        rw [List.length_map, List.take_length]
        refine ⟨_, rfl, ?_⟩
        exact k H' (s14.trans s5)
    | false =>
      refine ⟨_, rfl, rfl, ?_⟩
      refine testE (w_seat false) ?_
      refine iteF ?_
      have s13 := s1
      have s33 := Same.refl (upd H qp (.tup [.int ((quota W.seats n : Nat) : Int), .int 1]))
      refine ⟨_, rfl, st, rfl, hst, fun H4 m s4 hm fm => ⟨m, rfl, ⟨_, fm.sq⟩, ?_⟩⟩
      have s14 := s13.trans s4
      have s34 := s33.trans s4
      refine for_list (K := K) (a := m) (xs := nats (members st)) (fun i σ H' => ∃ t, σ = [some (.ref p), some (.int (n : Int)), some (.ref a), some (.int (st : Int)), some (.ref dt), some (.ref qp), some (.str (wordOf false)), some (.int (h : Int)), some (.int (((members st).take i).foldl (needOut W.lots (quota W.seats n) (fun x => rs.getD x 0) h) 0)), t] ∧ Same H4 H')
        ⟨_, rfl, Same.refl _⟩ ?_ ?_ ?_
      · rintro i σ H' _ ⟨t, rfl, s5⟩
        exact (fm.keep (Keep.of s5)).sq
      · rintro i x σ H' hx ⟨t, rfl, s5⟩
        rw [List.getElem?_map] at hx
        obtain ⟨y, hy, rfl⟩ := Option.map_eq_some_iff.mp hx
        have hym : y ∈ members st := List.mem_of_getElem? hy
        have etk : ((members st).take (i + 1)).foldl (needOut W.lots (quota W.seats n) (fun x => rs.getD x 0) h) 0 = needOut W.lots (quota W.seats n) (fun x => rs.getD x 0) h (((members st).take i).foldl (needOut W.lots (quota W.seats n) (fun x => rs.getD x 0) h) 0) y := by rw [take_snoc hy, List.foldl_append]; rfl
        generalize hf : ((members st).take i).foldl (needOut W.lots (quota W.seats n) (fun x => rs.getD x 0) h) 0 = f at *
        have s15 := s14.trans s5
        have s35 := s34.trans s5
        obtain ⟨u, hu, ru⟩ := at_ _ s15 y (hb y hym).1
        obtain ⟨v, hv, rv⟩ := at_ _ s15 h (hb h hd2).1
        have my := getD_mem (hb y hym).1
        have mh := getD_mem (hb h hd2).1
        refine ⟨_, rfl, rfl, ?_⟩
        refine testE (w_out false) ?_
        refine iteT ?_
        refine ⟨_, rfl, _, rfl, _, rfl, a, as, _, _, rfl, rfl, (fz.keep (Keep.of s15)).sq, atI_nat hu, _, rfl, ?_⟩
        refine ⟨u, .ref qp, _, ((quota W.seats n : Nat) : Rat), rfl, ru, rRat_stays.k (Keep.of s35) rat_nat, tame.sm _ my, sm_nat hq60, fun H8 z8 s8 r8 => ?_⟩
        refine ⟨z8, _, rfl, r8, (tame.nat my hq).1, fun H9 s9 => ?_⟩
        refine ⟨_, _, rfl, ?_⟩
        rw [max_if]
        have s19 := (s15.trans s8).trans s9
        have s59 := (s5.trans s8).trans s9
        refine ⟨_, rfl, _, rfl, rfl, _, rfl, ite2 (fun c => ?_) (fun c => ?_)⟩
        · have c' : y = h := by
            have : V.int (y : Int) = V.int (h : Int) := by simpa using c
            injection this with e
            omega
          refine ⟨some (.int (y : Int)), ?_, s59⟩
          rw [etk]
          unfold needOut
          rw [if_pos c']
          rfl
        · have c' : ¬ y = h := fun z => c (by rw [z]; simp)
          refine ⟨_, rfl, rfl, ?_⟩
          refine testE (w_seat false) ?_
          refine iteF ?_
          obtain ⟨u', hu', ru'⟩ := at_ _ s19 y (hb y hym).1
          obtain ⟨v', hv', rv'⟩ := at_ _ s19 h (hb h hd2).1
          refine ⟨_, rfl, _, rfl, _, rfl, a, as, _, _, rfl, rfl, (fz.keep (Keep.of s19)).sq, atI_nat hv', _, rfl, _, rfl, a, as, _, _, rfl, rfl, (fz.keep (Keep.of s19)).sq, atI_nat hu', ?_⟩
          refine ⟨v', u', _, _, rfl, rv', ru', tame.sm _ mh, tame.sm _ my, fun H6 g s6 rg => ?_⟩
          refine ⟨_, rfl, (wa.same (s19.trans s6)).meth (by decide +kernel) (by decide +kernel) (by decide +kernel) ⟨_, rfl, _, rfl, p, W, h, y, rfl, wa.same (s19.trans s6), (hb h hd2).2, (hb y hym).2, ?_⟩⟩
          refine ⟨g, _, _, rfl, rg, (tame.sub mh my).1, (tame.sub mh my).2, fun H7 s7 => ?_⟩
          refine ⟨_, _, rfl, ?_⟩
          rw [max_if]
          refine ⟨some (.int (y : Int)), ?_, (s59.trans s6).trans s7⟩
          rw [etk]
          unfold needOut
          rw [if_neg c']
          rfl
      · rintro σ H' ⟨t, rfl, s5⟩
        rw [List.length_map, List.take_length]
        refine ⟨_, rfl, ?_⟩
        exact k H' (s14.trans s5)
theorem pc_need {K : PySem.W.Frag} {mg : Str → Option Value} (T : Tx K mg) {X : Cx} (hr : Room 5 X.A) (hg : Gl X "need") {p pos : Pos} {e : Expr} {es : List Expr} {t : TA} (ha : PA X (e :: es) t) (hK : X.K = K := by rfl) (hM : X.mg = mg := by rfl) (he : starEach (e :: es) X.env = (false, eval e X.env) :: starEach es X.env := by rfl) (hpl : (backTo pos (starEach es X.env)).any (·.1) = false := by rfl) : PE X (.Call (.Name "need" p) (e :: es) [] pos) (tCall (sp_need K) [] E0 t) := by
  subst hK hM
  obtain ⟨fd, F⟩ := T.says.def_ 27 (d := d_need) rfl
  exact pe_call (ok_need T F) hr hg (T.glo 27 rfl) F.kp (F.bindsN fun _ _ _ _ _ _ us hl => match us, hl with | [_, _, _, _, _], _ => rfl) .nil pass0 ha (by decide) he hpl
end
end K75
-- K15
/-! cases: standing_behind, end_of, word_of. -/
namespace K75
open PySem PySem.Spec PyProof.Rows L2
def rRow : Rl Row := fun K H v R => ∃ p xs, v = .ref p ∧ SqT K H p xs ∧ Paired (rD K H) xs R
theorem rRow_stays : Stays rRow := ⟨fun k ⟨p, xs, e, h, r⟩ => ⟨p, xs, e, sqt_keep k h, paired_mono (fun _ _ z => rD_stays.k k z) r⟩⟩
theorem inV_nats {l : List Nat} {x : Nat} : inV (.int (x : Int)) (nats l) = decide (x ∈ l) := by
  unfold inV
  induction l with
  | nil => simp
  | cons a r ih =>
    show (eqV (.int (a : Int)) (.int (x : Int)) || (nats r).any _) = _
    rw [ih]
    simp only [eqV, List.mem_cons]
    by_cases h : a = x
    · subst h; simp
    · have h2 : ¬ x = a := fun z => h z.symm
      have h3 : ((a : Int) == (x : Int)) = false := by
        rw [beq_eq_false_iff_ne]
        omega
      simp [h2, h3]
def dInts (l : List Int) : PyData := .list (l.map .int)
theorem dInts_all (l : List Int) : PyData.canLayAll0 (l.map PyData.int) = true ∧ PyData.depthAll (l.map PyData.int) = 0 := by
  induction l with
  | nil => simp [PyData.canLayAll0, PyData.depthAll]
  | cons a r ih => simp [PyData.canLayAll0, PyData.depthAll, PyData.canLay0, PyData.depth, ih]
theorem dInts_shaped (l : List Int) : SeqAt.shaped (dInts l) = true := by
  obtain ⟨a, b⟩ := dInts_all l
  simp [dInts, SeqAt.shaped, PyData.canLay0, PyData.depth, a, b]
theorem dInts_eqv : ∀ a b : List Int, PyData.eqv (dInts a) (dInts b) = decide (a = b) := by
  have all : ∀ a b : List Int, PyData.eqvAll (a.map PyData.int) (b.map PyData.int) = decide (a = b) := by
    intro a
    induction a with
    | nil =>
      intro b
      cases b <;> simp [PyData.eqvAll]
    | cons x r ih =>
      intro b
      cases b with
      | nil => simp [PyData.eqvAll]
      | cons y t =>
        rw [List.map_cons, List.map_cons, PyData.eqvAll, ih]
        rw [show PyData.eqv (.int x) (.int y) = decide (x = y) by simp [PyData.eqv]; rfl]
        simp
  intro a b
  rw [← all]
  simp [dInts, PyData.eqv]
theorem ints_dp {K : PySem.W.Frag} {H H2 : Hp} : ∀ {xs : List V} {l : List Int}, Paired (rInt K H2) xs l → DpAll K H xs (l.map PyData.int)
  | _, _, .nil => .nil
  | _, _, .cons h t => by
    cases h
    exact .cons (.int _) (ints_dp t)
section
variable {P : Program} {w : World} {K : PySem.W.Frag} {mg : Str → Option Value} {base : Heap}
def sp_standing_behind (K : PySem.W.Frag) : Sp := fun vs H Q _ => ∃ (p : Addr) (v : V) (W : Hall) (R : Row), vs = [.ref p, v] ∧ WayAt K H p W ∧ W.hands ≤ 60 ∧ rRow K H v R ∧ (∀ d ∈ R, d.2 ≤ 60) ∧ Q (.int (stAfter W.hands R : Nat)) H
abbrev N_standing_behind : List Str := ["way", "deeds", "standing", "word", "hand"]
theorem sc_standing_behind : FnScope N_standing_behind ["way", "deeds"] (defScope s_standing_behind) := ⟨rfl, rfl, rfl, by decide +kernel, rfl, by decide +kernel, by decide +kernel⟩
theorem ok_standing_behind (T : Tx K mg) {fd : FuncData} (F : FnD K d_standing_behind fd) : FnOk P w K mg base CX0 3 (He.fAd K d_standing_behind.at_) fd ["way", "deeds"] (sp_standing_behind K) := by
  have nd := sc_standing_behind.nd
  refine okx F sc_standing_behind (fun vs H Q E h => ?_) (fun cdv A outer s H vs Q E hr h => ?_)
  · obtain ⟨p, v, W, R, rfl, _⟩ := h
    rfl
  · obtain ⟨p, v, W, R, rfl, wa, hh, ⟨q, xs, rfl, hq, rel⟩, hR, k⟩ := h
    refine ⟨_, (pss_cons (ps_set (i := 2) nd rfl (Or.inl rfl) (pc_all_of T (hr.mono (by decide)) (by rfl) (pa_cons (pe_fld (pv 0) rfl) pa_nil)))
      (pss_cons (ps_for PassesOwn.never rfl (pi_tup (pv 1)) (pg_tup rfl (pgs_cons (pg_name (i := 3) nd rfl (Or.inl rfl)) (pgs_cons (pg_name (i := 4) nd rfl (Or.inl rfl)) pgs_nil))) (pss_one (ps_set (i := 2) nd rfl (Or.inl rfl) (pc_without T (hr.mono (by decide)) (by rfl) (pa_cons (pv 2) (pa_cons (pv 4) pa_nil))))))
      (pss_one (ps_ret (pv 2))))), ?_⟩
    have lx := paired_len rel
    refine ⟨_, rfl, wa.hands T ⟨W.hands, rfl, hh, ?_⟩⟩
    refine ⟨_, rfl, q, rfl, ⟨_, hq⟩, for_tup (K := K) (a := q) (xs := xs) (fun i σ H' => H' = H ∧ ∃ a b, σ = [some (.ref p), some (.ref q), some (.int (stAfter W.hands (R.take i) : Nat)), a, b]) ⟨rfl, none, none, rfl⟩ ?_ ?_ ?_⟩
    · rintro i σ H' _ ⟨rfl, _⟩
      exact hq
    · rintro i x σ H' hx ⟨rfl, a, b, rfl⟩
      obtain ⟨d, hd, t, rfl, ht⟩ := paired_get rel hx
      refine ⟨t, _, rfl, ht, rfl, _, _, rfl, _, _, rfl, rfl, ?_⟩
      refine ⟨_, rfl, _, rfl, _, d.2, rfl, hR d (List.mem_of_getElem? hd), ?_⟩
      exact ⟨rfl, some (.str (deedV d).1), some (deedV d).2, by rw [take_snoc hd, stAfter_snoc]; rfl⟩
    · rintro σ H' ⟨rfl, a, b, rfl⟩
      rw [lx, List.take_length]
      exact ⟨_, rfl, k⟩
theorem pc_standing_behind {K : PySem.W.Frag} {mg : Str → Option Value} (T : Tx K mg) {X : Cx} (hr : Room 3 X.A) (hg : Gl X "standing_behind") {p pos : Pos} {e : Expr} {es : List Expr} {t : TA} (ha : PA X (e :: es) t) (hK : X.K = K := by rfl) (hM : X.mg = mg := by rfl) (he : starEach (e :: es) X.env = (false, eval e X.env) :: starEach es X.env := by rfl) (hpl : (backTo pos (starEach es X.env)).any (·.1) = false := by rfl) : PE X (.Call (.Name "standing_behind" p) (e :: es) [] pos) (tCall (sp_standing_behind K) [] E0 t) := by
  subst hK hM
  obtain ⟨fd, F⟩ := T.says.def_ 28 (d := d_standing_behind) rfl
  exact pe_call (ok_standing_behind T F) hr hg (T.glo 28 rfl) F.kp (F.bindsN fun _ _ _ _ _ _ us hl => match us, hl with | [_, _], _ => rfl) .nil pass0 ha (by decide) he hpl
def sp_end_of (K : PySem.W.Frag) : Sp := fun vs H Q _ => ∃ (p : Addr) (v : V) (W : Hall) (R : Row), vs = [.ref p, v] ∧ WayAt K H p W ∧ W.hands ≤ 4 ∧ rRow K H v R ∧ R.length ≤ 60 ∧ (∀ d ∈ R, d.2 < W.hands) ∧
  ∀ H' u, Same H H' → ((endOf W R = none ∧ u = .non) ∨ ∃ o, endOf W R = some o ∧ rLst rInt K H' u o) → Q u H'
abbrev N_end_of : List Str := ["way", "deeds", "standing", "seated", "word", "hand", "places"]
theorem sc_end_of : FnScope N_end_of ["way", "deeds"] (defScope s_end_of) := ⟨rfl, rfl, rfl, by decide +kernel, rfl, by decide +kernel, by decide +kernel⟩
theorem ok_end_of (T : Tx K mg) {fd : FuncData} (F : FnD K d_end_of fd) : FnOk P w K mg base CX0 4 (He.fAd K d_end_of.at_) fd ["way", "deeds"] (sp_end_of K) := by
  have nd := sc_end_of.nd
  refine okx F sc_end_of (fun vs H Q E h => ?_) (fun cdv A outer s H vs Q E hr h => ?_)
  · obtain ⟨p, v, W, R, rfl, _⟩ := h
    rfl
  · obtain ⟨p, v, W, R, rfl, wa, h4, ⟨q, xs, rfl, hq, rel⟩, hlR, hR, k⟩ := h
    refine ⟨_, (pss_cons (ps_set (i := 2) nd rfl (Or.inl rfl) (pc_standing_behind T (hr.mono (by decide)) (by rfl) (pa_cons (pv 0) (pa_cons (pv 1) pa_nil))))
      (pss_cons (ps_set (i := 3) nd rfl (Or.inr rfl) (pe_lc (own := [("word", 4), ("hand", 5)]) (g := (gTup K 2 (gCons (gName 4) (gCons (gName 5) gNil)))) rfl nd (pi_tup (pv 1)) (blkOk_by (N := N_end_of) (sc := defScope s_end_of) (by decide +kernel)) (fun _ _ _ _ _ => (pg_tup rfl (pgs_cons (pg_name (i := 4) nd rfl (Or.inl rfl)) (pgs_cons (pg_name (i := 5) nd rfl (Or.inl rfl)) pgs_nil)))) (fun _ _ _ _ _ => pts_one (pt_cmpR op_eq (pv 4) pe_str (nomark _))) (fun _ _ _ _ _ => (pv 5))))
      (pss_cons (ps_set (i := 6) nd rfl (Or.inl rfl) (pe_op op_sub (pe_fld (pv 0) rfl) (pe_callB call_len_seq (by rfl) (T.free 54 rfl) (by decide +kernel) (pa_cons (pv 3) pa_nil))))
      (pss_cons (ps_if (PW.pt (pw_and (pt_cmpR op_gt (pv 6) pe_int (nomark _)) (pw_and1 (pt_cmpR op_gt (pc_size T (hr.mono (by decide)) (by rfl) (pa_cons (pv 2) pa_nil)) (pv 6) (nomark _))))) (pss_one (ps_ret pe_non)) pss_nil)
      (pss_cons (ps_if (pt_cmpR op_le (pc_size T (hr.mono (by decide)) (by rfl) (pa_cons (pv 2) pa_nil)) (pv 6) (nomark _)) (pss_one (ps_set (i := 3) nd rfl (Or.inr rfl) (pe_op op_catL (pv 3) (pc_members T (hr.mono (by decide)) (by rfl) (pa_cons (pv 2) pa_nil))))) pss_nil)
      (pss_one (ps_ret (pe_fz (pe_lc (own := [("hand", 5)]) (g := (gName 5)) rfl nd (pi_range1 (by rfl) (T.free 59 rfl) (pa_cons (pe_fld (pv 0) rfl) pa_nil)) (blkOk_by (N := N_end_of) (sc := defScope s_end_of) (by decide +kernel)) (fun _ _ _ _ _ => (pg_name (i := 5) nd rfl (Or.inl rfl))) (fun _ _ _ _ _ => pts_nil) (fun _ _ _ _ _ => (pe_callTy call_int1 (by rfl) (T.free 63 rfl) (by decide +kernel) (pa_cons (pe_cmpR (r := rIn K false) op_in_seq (pv 5) (pv 3) (by with_unfolding_all rfl)) pa_nil)))))))))))), ?_⟩
    have lx := paired_len rel
    have hlt : stAfter W.hands R < 2 ^ 60 := Nat.lt_of_lt_of_le (st_lt h4 R) (by decide)
    refine ⟨_, rfl, _, rfl, p, .ref q, W, R, rfl, wa, by omega, ⟨q, xs, rfl, hq, rel⟩, fun d hd => by have := hR d hd; omega, ?_⟩
    refine ⟨_, rfl, q, rfl, ⟨_, hq⟩, fun D hD => lc_tup (K := K) (a := q) (xs := xs) (fun i H' => Same H H' ∧ H' D = some (.lst (nats (seated (R.take i))))) ⟨Same.new hD, upd_same⟩ ?_ ?_ ?_⟩
    · rintro i H' _ ⟨s1, _⟩
      exact sqt_keep (Keep.of s1) hq
    · rintro i x H' hx ⟨s1, e1⟩
      obtain ⟨d, hd, t, rfl, ht⟩ := paired_get rel hx
      obtain ⟨b1, h⟩ := d
      refine ⟨t, _, rfl, sqt_keep (Keep.of s1) ht, rfl, _, _, rfl, _, _, rfl, rfl, rfl, ?_⟩
      refine ⟨_, rfl, rfl, ?_⟩
      refine testE (w_seat b1) ?_
      have il : i < R.length := (List.getElem?_eq_some_iff.mp hd).1
      have len : (seated (R.take i)).length ≤ 60 := by
        unfold seated
        rw [List.length_map]
        refine Nat.le_trans (List.length_filter_le _ _) ?_
        rw [List.length_take]
        omega
      cases b1 with
      | true =>
        refine iteT ⟨_, rfl, _, e1, (by rw [List.length_map]; exact small1000 (by omega)), Same.at s1 hD, ?_⟩
        rw [upd_same, take_snoc hd, seated_snoc, if_pos rfl]
        unfold nats
        rw [List.map_append]
        rfl
      | false =>
        refine iteF ⟨s1, ?_⟩
        rw [take_snoc hd, seated_snoc, e1]
        simp
    · rintro H1 ⟨s1, e1⟩
      rw [lx, List.take_length] at e1
      refine ⟨_, rfl, (wa.same s1).seats T ⟨_, rfl, D, _, rfl, .inl (SqL.of e1), _, _, rfl, rfl, ?_⟩⟩
      have lsm : (seated R).length ≤ 60 := by
        unfold seated
        rw [List.length_map]
        exact Nat.le_trans (List.length_filter_le _ _) hlR
      rw [List.length_map]
      refine ⟨_, rfl, _, _, rfl, rfl, _, rfl, ite2 (fun c => ?_) (fun c => ?_)⟩
      · have c' : (0 : Int) < (W.seats : Int) - ((seated R).length : Int) := by simpa using c
        refine ⟨_, rfl, _, rfl, hlt, fun H3 s3 => ⟨_, rfl, _, _, rfl, rfl, _, rfl, ite2 (fun d => ?_) (fun d => ?_)⟩⟩
        · have d' : (W.seats : Int) - ((seated R).length : Int) < ((size (stAfter W.hands R) : Nat) : Int) := by simpa using d
          refine k H3 _ (s1.trans s3) (.inl ⟨?_, rfl⟩)
          unfold endOf
          simp only
          rw [if_pos ⟨c', d'⟩]
        · have d' : ¬ (W.seats : Int) - ((seated R).length : Int) < ((size (stAfter W.hands R) : Nat) : Int) := by simpa using d
          refine ⟨_, rfl, _, rfl, hlt, fun H5 s5 => ⟨_, rfl, _, _, rfl, rfl, _, rfl, ite2 (fun g => ?_) (fun g => ?_)⟩⟩
          · have g' : ((size (stAfter W.hands R) : Nat) : Int) ≤ (W.seats : Int) - ((seated R).length : Int) := by simpa using g
            have he : endOf W R = some (ones W.hands (seated R ++ members (stAfter W.hands R))) := by
              unfold endOf
              simp only
              rw [if_neg (by omega), if_pos g']
              rfl
            have e5 := s5 _ _ (s3 _ _ e1)
            refine ⟨_, rfl, _, rfl, _, rfl, hlt, fun H7 m s7 hm fm => ?_⟩
            refine ⟨D, m, _, _, rfl, rfl, .inl (s7 _ _ e5), fm.rd, ?_, fun L hL => ?_⟩
            · rw [List.length_map, List.length_map]
              have := size_lt hlt
              unfold size at this
              exact Nat.le_trans (by omega) (show 1000 ≤ sizeLine by decide)
            · have s6 : Same H (upd H7 L (.lst (nats (seated R) ++ nats (members (stAfter W.hands R))))) := (((s1.trans s3).trans s5).trans s7).trans (Same.new hL)
              have e6 : (upd H7 L (.lst (nats (seated R) ++ nats (members (stAfter W.hands R))))) L = some (.lst (nats (seated R ++ members (stAfter W.hands R)))) := by
                rw [upd_same]
                unfold nats
                rw [List.map_append]
              generalize upd H7 L (.lst (nats (seated R) ++ nats (members (stAfter W.hands R)))) = H6 at s6 e6 ⊢
              refine ⟨_, rfl, (wa.same (s6)).hands T ⟨(W.hands : Int), rfl, by omega, by omega, fun D2 hD2 => ?_⟩⟩
              refine lc_range (lo := 0) (n := (W.hands : Int).toNat) (fun j H4 => Acc K rInt H6 D2 H4 ((ones W.hands (seated R ++ members (stAfter W.hands R))).take j)) (Acc.start hD2) ?_ ?_
              · intro j H4 hj ac
                have hj' : j < W.hands := by omega
                refine ⟨rfl, ?_⟩
                refine ⟨_, rfl, _, rfl, L, nats (seated R ++ members (stAfter W.hands R)), rfl, .inl (SqL.of (ac.same _ _ e6)), rfl, nats_flat _, .inr ⟨_, rfl, ?_⟩⟩
                show ∃ acc, H4 D2 = some (HO.lst acc) ∧ acc.length < sizeLine ∧ Acc K rInt H6 D2 (upd H4 D2 (HO.lst (acc ++ [V.int (if (inV (.int ((0 : Int) + (j : Int))) (nats (seated R ++ members (stAfter W.hands R)))) = true then 1 else 0)]))) (List.take (j + 1) (ones W.hands (seated R ++ members (stAfter W.hands R))))
                have ev : (if (inV (.int ((0 : Int) + (j : Int))) (nats (seated R ++ members (stAfter W.hands R)))) = true then (1 : Int) else 0) = if j ∈ seated R ++ members (stAfter W.hands R) then 1 else 0 := by
                  rw [Int.zero_add, inV_nats]
                  simp
                rw [ev]
                obtain ⟨vs, a1, a2, a3⟩ := Acc.push rInt_stays hD2 ac (Same.refl H4) (v := .int (if j ∈ seated R ++ members (stAfter W.hands R) then 1 else 0)) (a := if j ∈ seated R ++ members (stAfter W.hands R) then 1 else 0) rfl
                refine ⟨vs, a1, ?_, ?_⟩
                · rw [a2, List.length_take]
                  have : (ones W.hands (seated R ++ members (stAfter W.hands R))).length = W.hands := by simp [ones]
                  exact small1000 (by omega)
                · rw [take_snoc (ones_at hj')]
                  exact a3
              · intro H4 ac
                have e : (W.hands : Int).toNat = (ones W.hands (seated R ++ members (stAfter W.hands R))).length := by simp [ones]
                rw [e, List.take_length] at ac
                obtain ⟨vs, h1, h2⟩ := ac.freeze rInt_stays hD2
                exact ⟨D2, vs, rfl, h1, fun o => k _ _ (Same.trans (s6) (h2 o).1) (.inr ⟨_, he, (h2 o).2⟩)⟩
          · have g' : ¬ ((size (stAfter W.hands R) : Nat) : Int) ≤ (W.seats : Int) - ((seated R).length : Int) := by simpa using g
            omega
      · have c' : ¬ (0 : Int) < (W.seats : Int) - ((seated R).length : Int) := by simpa using c
        refine iteF ?_
        refine ⟨_, rfl, _, rfl, hlt, fun H5 s5 => ⟨_, rfl, _, _, rfl, rfl, _, rfl, ite2 (fun g => ?_) (fun g => ?_)⟩⟩
        · have g' : ((size (stAfter W.hands R) : Nat) : Int) ≤ (W.seats : Int) - ((seated R).length : Int) := by simpa using g
          have he : endOf W R = some (ones W.hands (seated R ++ members (stAfter W.hands R))) := by
            unfold endOf
            simp only
            rw [if_neg (by omega), if_pos g']
            rfl
          have e5 := s5 _ _ (e1)
          refine ⟨_, rfl, _, rfl, _, rfl, hlt, fun H7 m s7 hm fm => ?_⟩
          refine ⟨D, m, _, _, rfl, rfl, .inl (s7 _ _ e5), fm.rd, ?_, fun L hL => ?_⟩
          · rw [List.length_map, List.length_map]
            have := size_lt hlt
            unfold size at this
            exact Nat.le_trans (by omega) (show 1000 ≤ sizeLine by decide)
          · have s6 : Same H (upd H7 L (.lst (nats (seated R) ++ nats (members (stAfter W.hands R))))) := (((s1).trans s5).trans s7).trans (Same.new hL)
            have e6 : (upd H7 L (.lst (nats (seated R) ++ nats (members (stAfter W.hands R))))) L = some (.lst (nats (seated R ++ members (stAfter W.hands R)))) := by
              rw [upd_same]
              unfold nats
              rw [List.map_append]
            generalize upd H7 L (.lst (nats (seated R) ++ nats (members (stAfter W.hands R)))) = H6 at s6 e6 ⊢
            refine ⟨_, rfl, (wa.same (s6)).hands T ⟨(W.hands : Int), rfl, by omega, by omega, fun D2 hD2 => ?_⟩⟩
            refine lc_range (lo := 0) (n := (W.hands : Int).toNat) (fun j H4 => Acc K rInt H6 D2 H4 ((ones W.hands (seated R ++ members (stAfter W.hands R))).take j)) (Acc.start hD2) ?_ ?_
            · intro j H4 hj ac
              have hj' : j < W.hands := by omega
              refine ⟨rfl, ?_⟩
              refine ⟨_, rfl, _, rfl, L, nats (seated R ++ members (stAfter W.hands R)), rfl, .inl (SqL.of (ac.same _ _ e6)), rfl, nats_flat _, .inr ⟨_, rfl, ?_⟩⟩
              show ∃ acc, H4 D2 = some (HO.lst acc) ∧ acc.length < sizeLine ∧ Acc K rInt H6 D2 (upd H4 D2 (HO.lst (acc ++ [V.int (if (inV (.int ((0 : Int) + (j : Int))) (nats (seated R ++ members (stAfter W.hands R)))) = true then 1 else 0)]))) (List.take (j + 1) (ones W.hands (seated R ++ members (stAfter W.hands R))))
              have ev : (if (inV (.int ((0 : Int) + (j : Int))) (nats (seated R ++ members (stAfter W.hands R)))) = true then (1 : Int) else 0) = if j ∈ seated R ++ members (stAfter W.hands R) then 1 else 0 := by
                rw [Int.zero_add, inV_nats]
                simp
              rw [ev]
              obtain ⟨vs, a1, a2, a3⟩ := Acc.push rInt_stays hD2 ac (Same.refl H4) (v := .int (if j ∈ seated R ++ members (stAfter W.hands R) then 1 else 0)) (a := if j ∈ seated R ++ members (stAfter W.hands R) then 1 else 0) rfl
              refine ⟨vs, a1, ?_, ?_⟩
              · rw [a2, List.length_take]
                have : (ones W.hands (seated R ++ members (stAfter W.hands R))).length = W.hands := by simp [ones]
                exact small1000 (by omega)
              · rw [take_snoc (ones_at hj')]
                exact a3
            · intro H4 ac
              have e : (W.hands : Int).toNat = (ones W.hands (seated R ++ members (stAfter W.hands R))).length := by simp [ones]
              rw [e, List.take_length] at ac
              obtain ⟨vs, h1, h2⟩ := ac.freeze rInt_stays hD2
              exact ⟨D2, vs, rfl, h1, fun o => k _ _ (Same.trans (s6) (h2 o).1) (.inr ⟨_, he, (h2 o).2⟩)⟩
        · have g' : ¬ ((size (stAfter W.hands R) : Nat) : Int) ≤ (W.seats : Int) - ((seated R).length : Int) := by simpa using g
          have he : endOf W R = some (ones W.hands (seated R)) := by
            unfold endOf
            simp only
            rw [if_neg (by omega), if_neg g']
            rfl
          have s6 := (s1).trans s5
          have e6 := s5 _ _ (e1)
          refine ?_
          refine ⟨_, rfl, (wa.same (s6)).hands T ⟨(W.hands : Int), rfl, by omega, by omega, fun D2 hD2 => ?_⟩⟩
          refine lc_range (lo := 0) (n := (W.hands : Int).toNat) (fun j H4 => Acc K rInt H5 D2 H4 ((ones W.hands (seated R)).take j)) (Acc.start hD2) ?_ ?_
          · intro j H4 hj ac
            have hj' : j < W.hands := by omega
            refine ⟨rfl, ?_⟩
            refine ⟨_, rfl, _, rfl, D, nats (seated R), rfl, .inl (SqL.of (ac.same _ _ e6)), rfl, nats_flat _, .inr ⟨_, rfl, ?_⟩⟩
            show ∃ acc, H4 D2 = some (HO.lst acc) ∧ acc.length < sizeLine ∧ Acc K rInt H5 D2 (upd H4 D2 (HO.lst (acc ++ [V.int (if (inV (.int ((0 : Int) + (j : Int))) (nats (seated R))) = true then 1 else 0)]))) (List.take (j + 1) (ones W.hands (seated R)))
            have ev : (if (inV (.int ((0 : Int) + (j : Int))) (nats (seated R))) = true then (1 : Int) else 0) = if j ∈ seated R then 1 else 0 := by
              rw [Int.zero_add, inV_nats]
              simp
            rw [ev]
            obtain ⟨vs, a1, a2, a3⟩ := Acc.push rInt_stays hD2 ac (Same.refl H4) (v := .int (if j ∈ seated R then 1 else 0)) (a := if j ∈ seated R then 1 else 0) rfl
            refine ⟨vs, a1, ?_, ?_⟩
            · rw [a2, List.length_take]
              have : (ones W.hands (seated R)).length = W.hands := by simp [ones]
              exact small1000 (by omega)
            · rw [take_snoc (ones_at hj')]
              exact a3
          · intro H4 ac
            have e : (W.hands : Int).toNat = (ones W.hands (seated R)).length := by simp [ones]
            rw [e, List.take_length] at ac
            obtain ⟨vs, h1, h2⟩ := ac.freeze rInt_stays hD2
            exact ⟨D2, vs, rfl, h1, fun o => k _ _ (Same.trans (s6) (h2 o).1) (.inr ⟨_, he, (h2 o).2⟩)⟩
theorem pc_end_of {K : PySem.W.Frag} {mg : Str → Option Value} (T : Tx K mg) {X : Cx} (hr : Room 4 X.A) (hg : Gl X "end_of") {p pos : Pos} {e : Expr} {es : List Expr} {t : TA} (ha : PA X (e :: es) t) (hK : X.K = K := by rfl) (hM : X.mg = mg := by rfl) (he : starEach (e :: es) X.env = (false, eval e X.env) :: starEach es X.env := by rfl) (hpl : (backTo pos (starEach es X.env)).any (·.1) = false := by rfl) : PE X (.Call (.Name "end_of" p) (e :: es) [] pos) (tCall (sp_end_of K) [] E0 t) := by
  subst hK hM
  obtain ⟨fd, F⟩ := T.says.def_ 29 (d := d_end_of) rfl
  exact pe_call (ok_end_of T F) hr hg (T.glo 29 rfl) F.kp (F.bindsN fun _ _ _ _ _ _ us hl => match us, hl with | [_, _], _ => rfl) .nil pass0 ha (by decide) he hpl
def sp_word_of (K : PySem.W.Frag) : Sp := fun vs H Q _ => ∃ (p : Addr) (v ov : V) (W : Hall) (R : Row) (o : List Int) (many low : Int), vs = [.ref p, v, .int many, ov, .int low] ∧ WayAt K H p W ∧ W.hands ≤ 4 ∧ rRow K H v R ∧ R.length ≤ 60 ∧ (∀ d ∈ R, d.2 < W.hands) ∧
  rLst rInt K H ov o ∧ ∀ H' z, Same H H' → Q (.str z) H'
abbrev N_word_of : List Str := ["way", "deeds", "many", "outcome", "low", "end"]
theorem sc_word_of : FnScope N_word_of ["way", "deeds", "many", "outcome", "low"] (defScope s_word_of) := ⟨rfl, rfl, rfl, by decide +kernel, rfl, by decide +kernel, by decide +kernel⟩
theorem ok_word_of (T : Tx K mg) {fd : FuncData} (F : FnD K d_word_of fd) : FnOk P w K mg base CX0 5 (He.fAd K d_word_of.at_) fd ["way", "deeds", "many", "outcome", "low"] (sp_word_of K) := by
  have nd := sc_word_of.nd
  refine okx F sc_word_of (fun vs H Q E h => ?_) (fun cdv A outer s H vs Q E hr h => ?_)
  · obtain ⟨p, v, ov, W, R, o, many, low, rfl, _⟩ := h
    rfl
  · obtain ⟨p, v, ov, W, R, o, many, low, rfl, wa, h4, rr, hlR, hR, ro, k⟩ := h
    refine ⟨_, (pss_cons (ps_set (i := 5) nd rfl (Or.inl rfl) (pc_end_of T (hr.mono (by decide)) (by rfl) (pa_cons (pv 0) (pa_cons (pv 1) pa_nil))))
      (pss_cons (ps_if (pt_cmpR op_isN (pv 5) pe_non (nomark _)) (pss_cons (ps_if (pt_cmpR op_lt (pv 2) (pv 4) (nomark _)) (pss_one (ps_ret pe_str)) pss_nil)
      (pss_one (ps_ret pe_str))) pss_nil)
      (pss_cons (ps_if (pt_cmpR (op_eqD hr.units) (pv 5) (pv 3) (nomark _)) (pss_one (ps_ret pe_str)) pss_nil)
      (pss_one (ps_ret pe_str))))), ?_⟩
    refine ⟨_, rfl, _, rfl, p, v, W, R, rfl, wa, h4, rr, hlR, hR, fun H1 u s1 hu => ?_⟩
    rcases hu with ⟨hn, rfl⟩ | ⟨e, he, re⟩
    · refine ⟨_, rfl, rfl, true, rfl, iteT ?_⟩
      refine ⟨_, rfl, _, rfl, _, _, rfl, rfl, _, rfl, ite2 (fun c => ?_) (fun c => ?_)⟩
      · exact k _ _ s1
      · exact k _ _ s1
    · obtain ⟨a, xs, rfl, fz, rel⟩ := re
      obtain ⟨b, ys, rfl, fy, rely⟩ := ro
      refine ⟨_, rfl, rfl, false, rfl, iteF ?_⟩
      refine ⟨_, rfl, _, rfl, dInts e, dInts o, .lst fz.sq (ints_dp rel), .lst (fy.keep (Keep.of s1)).sq (ints_dp (paired_mono (fun _ _ z => z) rely)), dInts_shaped _, dInts_shaped _, _, rfl, ite2 (fun c => ?_) (fun c => ?_)⟩
      · exact k _ _ s1
      · exact k _ _ s1
theorem pc_word_of {K : PySem.W.Frag} {mg : Str → Option Value} (T : Tx K mg) {X : Cx} (hr : Room 5 X.A) (hg : Gl X "word_of") {p pos : Pos} {e : Expr} {es : List Expr} {t : TA} (ha : PA X (e :: es) t) (hK : X.K = K := by rfl) (hM : X.mg = mg := by rfl) (he : starEach (e :: es) X.env = (false, eval e X.env) :: starEach es X.env := by rfl) (hpl : (backTo pos (starEach es X.env)).any (·.1) = false := by rfl) : PE X (.Call (.Name "word_of" p) (e :: es) [] pos) (tCall (sp_word_of K) [] E0 t) := by
  subst hK hM
  obtain ⟨fd, F⟩ := T.says.def_ 32 (d := d_word_of) rfl
  exact pe_call (ok_word_of T F) hr hg (T.glo 32 rfl) F.kp (F.bindsN fun _ _ _ _ _ _ us hl => match us, hl with | [_, _, _, _, _], _ => rfl) .nil pass0 ha (by decide) he hpl
end
end K75
-- KDict
/-! Dicts whose keys are rows of deeds: tuples of tuples. -/
namespace K75
open PySem PySem.Spec PyProof.Rows L2
def dk (d : Deed) : NestedKey := .tup [.text (wordOf d.1), .num (d.2 : Int)]
def nk (R : Row) : NestedKey := .tup (R.map dk)
theorem word_inj : ∀ {a b : Bool}, wordOf a = wordOf b → a = b := by
  intro a b h
  have h2 := w_seat a
  rw [h, w_seat] at h2
  exact h2.symm
theorem dk_inj {a b : Deed} (h : dk a = dk b) : a = b := by
  obtain ⟨x, i⟩ := a
  obtain ⟨y, j⟩ := b
  unfold dk at h
  injection h with h
  injection h with h1 h2
  injection h1 with h1
  injection h2 with h2 _
  injection h2 with h2
  have e : x = y := word_inj h1
  have e2 : i = j := by
    have : (i : Int) = (j : Int) := h2
    omega
  rw [e, e2]
theorem nk_inj {a b : Row} (h : nk a = nk b) : a = b := by
  unfold nk at h
  injection h with h
  exact (List.map_inj_right fun x y => dk_inj).mp h
theorem nk_depth (R : Row) : (nk R).depth ≤ 8 := by
  have all : ∀ l : List Deed, NestedKey.depthAll (l.map dk) ≤ 1 := by
    intro l
    induction l with
    | nil => simp [NestedKey.depthAll]
    | cons a r ih =>
      rw [List.map_cons, NestedKey.depthAll]
      have : (dk a).depth ≤ 1 := by simp [dk, NestedKey.depth, NestedKey.depthAll]
      omega
  unfold nk
  rw [NestedKey.depth]
  have := all R
  omega
/-- the entries: a row, its tuple, what it holds -/
abbrev Ents := List (Row × Addr × V)
def getN : Ents → Row → Option V
  | [], _ => none
  | e :: r, R => if e.1 = R then some e.2.2 else getN r R
def putN (xs : Ents) (R : Row) (b : Addr) (v : V) : Ents := if (getN xs R).isSome = true then xs.map fun e => if e.1 = R then (e.1, e.2.1, v) else e else xs ++ [(R, b, v)]
theorem getN_app {xs : Ents} {R R' : Row} {b : Addr} {v : V} (h : getN xs R = none) : getN (xs ++ [(R, b, v)]) R' = if R' = R then some v else getN xs R' := by
  induction xs with
  | nil =>
    show (if R = R' then some v else none) = _
    by_cases e : R' = R
    · rw [if_pos e, if_pos e.symm]
    · rw [if_neg e, if_neg fun z => e z.symm]; rfl
  | cons a r ih =>
    unfold getN at h
    split at h
    · cases h
    · rename_i ne
      rw [List.cons_append, getN, getN, ih h]
      by_cases e : a.1 = R'
      · rw [if_pos e, if_pos e, if_neg fun z => ne (by rw [e, z])]
      · rw [if_neg e, if_neg e]
theorem putN_new {xs : Ents} {R : Row} {b : Addr} {v : V} (h : getN xs R = none) : putN xs R b v = xs ++ [(R, b, v)] := by
  unfold putN
  rw [h]
  rfl
theorem getN_none {xs : Ents} {R : Row} (h : R ∉ xs.map (·.1)) : getN xs R = none := by
  induction xs with
  | nil => rfl
  | cons a r ih =>
    rw [List.map_cons, List.mem_cons, not_or] at h
    rw [getN, if_neg fun z => h.1 z.symm]
    exact ih h.2
def EntP (p : Row × Addr × V) (q : NestedKey × Addr × Value) : Prop := q.1 = nk p.1 ∧ q.2.1 = p.2.1 ∧ RelV p.2.2 q.2.2
theorem ent_val {xs : Ents} {ys : List (NestedKey × Addr × Value)} (r : Paired EntP xs ys) (R : Row) : RelO (getN xs R) ((atKey ys (nk R)).map (·.2)) := by
  induction r with
  | nil => exact True.intro
  | @cons p q ps qs h t ih =>
    obtain ⟨h1, _, h2⟩ := h
    by_cases e : p.1 = R
    · have e' : q.1 = nk R := by rw [h1, e]
      have b : atKey (q :: qs) (nk R) = some q.2 := by simp [atKey, List.find?_cons, e']
      rw [getN, if_pos e, b]; exact h2
    · have e' : ¬ q.1 = nk R := fun z => e (nk_inj (h1.symm.trans z))
      have b : atKey (q :: qs) (nk R) = atKey qs (nk R) := by simp [atKey, List.find?_cons, e']
      rw [getN, if_neg e, b]; exact ih
theorem ent_put {xs : Ents} {ys : List (NestedKey × Addr × Value)} (r : Paired EntP xs ys) (R : Row) (b : Addr) {v : V} {u : Value} (rv : RelV v u) : Paired EntP (putN xs R b v) (storedH ys (nk R) b u) := by
  have e : (getN xs R).isSome = (atKey ys (nk R)).isSome := by rw [(ent_val r R).isSome_eq, Option.isSome_map]
  unfold putN storedH
  rw [e]
  by_cases q : (atKey ys (nk R)).isSome = true
  · rw [if_pos q, if_pos q]
    clear e q
    induction r with
    | nil => exact .nil
    | @cons p q ps qs h t ih =>
      rw [List.map_cons, List.map_cons]
      refine .cons ?_ ih
      obtain ⟨h1, h2, h3⟩ := h
      unfold putAt
      by_cases e : p.1 = R
      · rw [if_pos e, if_pos (by rw [h1, e])]; exact ⟨h1, h2, rv⟩
      · rw [if_neg e, if_neg (fun z => e (nk_inj (h1.symm.trans z)))]; exact ⟨h1, h2, h3⟩
  · rw [if_neg q, if_neg q]; exact Paired.snoc r ⟨rfl, rfl, rv⟩
theorem putN_len (xs : Ents) (R : Row) (b : Addr) (v : V) : (putN xs R b v).length ≤ xs.length + 1 := by
  unfold putN
  split
  · rw [List.length_map]; omega
  · rw [List.length_append]; exact Nat.le_refl _
/-- at a stands a dict of rows -/
def DNp (P : Program) (w : World) (a : Addr) (xs : Ents) (h : Heap) : Prop := xs.length ≤ sizeLine ∧ (a == sysModules) = false ∧ ∃ ys : List (NestedKey × Addr × Value), Paired EntP xs ys ∧
  ∃ o es ep, h.get? a = some o ∧ o.ExactDict ∧ o.data = .dict es ep ∧ es.toList = ys.map (entryOfKey (nestedKind P w)) ∧ (ys.map (·.1)).Nodup
def DN (P : Program) (w : World) (a : Addr) (xs : Ents) : HO := .ext (DNp P w a xs)
theorem dn_mk {P : Program} {w : World} {H : Hp} {h : Heap} {a : Addr} {xs : Ents} (x : DNp P w a xs h) : ObjOk P w H h a (DN P w a xs) := by
  refine ⟨x, ?_, fun h1 h2 y k => ?_⟩
  · obtain ⟨_, _, ys, _, o, es, ep, ho, _⟩ := x
    exact ⟨o, ho⟩
  · obtain ⟨z, d, ys, r, o, es, ep, ho, c⟩ := y
    exact ⟨z, d, ys, r, o, es, ep, k _ ho, c⟩
theorem dn_rd {P : Program} {w : World} {H : Hp} {h : Heap} {a : Addr} {xs : Ents} (ok : HOk P w H h) (e : Rd H a (DN P w a xs)) : DNp P w a xs h := (show ObjOk P w H h a (DN P w a xs) from e.ok ok).1
/-- the keys' tuples stand -/
def NKeys (K : PySem.W.Frag) (H : Hp) (xs : Ents) : Prop := ∀ e ∈ xs, rRow K H (.ref e.2.1) e.1
theorem NKeys.keep {K : PySem.W.Frag} {H H' : Hp} {xs : Ents} (k : Keep H H') (n : NKeys K H xs) : NKeys K H' xs := fun e he => rRow_stays.k k (n e he)
section
variable {X : Cx} {pins : List (Addr × Obj)} {σ : L2.St} {H : Hp} {s : Shared} {a b : Addr} {xs : Ents} {R : Row}
theorem row_key (I : Inv X pins σ H s) (r : rRow X.K H (.ref b) R) : (nestedKind X.prog X.w).is s.heap (nk R) b := by
  refine ⟨?_, nk_depth R⟩
  obtain ⟨p, xs, e, hp, rel⟩ := r
  cases e
  obtain ⟨its, rv, ⟨o, ho, hc, n, hd⟩, hz⟩ := I.tuple hp
  refine .tup ho hc hd ?_
  show NestedAll s.heap (R.map dk) its.toArray.toList
  rw [List.toList_toArray]
  clear ho hd hp hz
  induction rel generalizing its with
  | nil =>
    cases rv
    exact .nil
  | @cons x d xs R hx t ih =>
    cases rv with
    | cons r0 rt =>
      rw [List.map_cons]
      refine .cons ?_ (ih _ rt)
      obtain ⟨q, rfl, hq⟩ := hx
      cases (show _ = Value.ref q from r0)
      obtain ⟨jts, rj, ⟨o', ho', hc', n', hd'⟩, _⟩ := I.tuple hq
      refine .tup ho' hc' hd' ?_
      rw [List.toList_toArray]
      cases rj with
      | cons j0 jt =>
        cases jt with
        | cons j1 je =>
          cases je
          obtain ⟨t1, rfl⟩ := j0
          obtain ⟨t2, rfl⟩ := j1
          exact .cons (.text _ _) (.cons (.int _ _) .nil)
theorem dn_dict (I : Inv X pins σ H s) (e : Rd H a (DN X.prog X.w a xs)) (n : NKeys X.K H xs) : xs.length ≤ sizeLine ∧ (a == sysModules) = false ∧ ∃ ys, Paired EntP xs ys ∧ s.heap.DictOfH (nestedKind X.prog X.w) a ys := by
  obtain ⟨z, hd, ys, r, o, es, ep, h1, h2, h3, h4, h5⟩ := dn_rd I.hok e
  refine ⟨z, hd, ys, r, o, es, ep, h1, h2, h3, h4, fun y hy => ?_, h5⟩
  have all : ∀ {l : Ents} {m : List (NestedKey × Addr × Value)}, Paired EntP l m → (∀ e ∈ l, rRow X.K H (.ref e.2.1) e.1) → ∀ y ∈ m, (nestedKind X.prog X.w).is s.heap y.1 y.2.1 := by
    intro l m q
    induction q with
    | nil => intro _ y hy; cases hy
    | @cons p q ps qs hq t ih =>
      intro hn y hy
      rcases List.mem_cons.mp hy with rfl | hy
      · rw [hq.1, hq.2.1]
        exact row_key I (hn _ List.mem_cons_self)
      · exact ih (fun e he => hn e (List.mem_cons_of_mem _ he)) y hy
  exact all r n y hy
end
/-- d[row] -/
def tNGet (K : PySem.W.Frag) (P : Program) (w : World) (td ty : TE) : TE := fun σ H Q => td σ H fun x H1 => ty σ H1 fun y H2 => ∃ a b xs R v, x = .ref a ∧ y = .ref b ∧ Rd H2 a (DN P w a xs) ∧ NKeys K H2 xs ∧ rRow K H2 (.ref b) R ∧ getN xs R = some v ∧ Q v H2
/-- d[row] = v -/
def sNPut (K : PySem.W.Frag) (P : Program) (w : World) (td ty tv : TE) : TS := fun D σ H => tv σ H fun v H1 => td σ H1 fun x H2 => ty σ H2 fun y H3 => ∃ a b xs R, x = .ref a ∧ y = .ref b ∧ H3 a = some (DN P w a xs) ∧ NKeys K H3 xs ∧ rRow K H3 (.ref b) R ∧ xs.length < sizeLine ∧ D.nx σ (upd H3 a (DN P w a (putN xs R b v)))
/-- {} and {(): 0} -/
def tNNew (P : Program) (w : World) : TE := fun _ H Q => ∀ p, H p = none → Q (.ref p) (upd H p (DN P w p []))
def tNOne (K : PySem.W.Frag) (P : Program) (w : World) (tk tv : TE) : TE := fun σ H Q => ∀ p, H p = none → tk σ (upd H p (DN P w p [])) fun x H1 => tv σ H1 fun v H2 => H2 p = some (DN P w p []) ∧ ∃ b R, x = .ref b ∧ rRow K H2 (.ref b) R ∧ Q (.ref p) (upd H2 p (DN P w p [(R, b, v)]))
section
variable {X : Cx} {o i e value : Expr} {pos pos' tpos : Pos} {td ty tv tk : TE}
theorem dn_empty {P : Program} {w : World} {H : Hp} (h : Heap) (hb : sysModules < h.objs.size) : ObjOk P w H (h.push { cls := .type "dict", data := .dict #[] }) h.objs.size (DN P w h.objs.size []) :=
  dn_mk ⟨Nat.zero_le _, beq_eq_false_iff_ne.mpr (Ne.symm (Nat.ne_of_lt hb)), [], .nil, _, #[], 0, Heap.get?_push_size _ rfl, ⟨rfl, rfl, rfl⟩, rfl, rfl, List.nodup_nil⟩
theorem pe_nnew : PE X (.Dict [] [] pos) (tNNew X.prog X.w) := ⟨fun pins s σ H Q I h =>
  wpAny_Dict_empty ⟨.ref s.heap.objs.size, _, I.laid (a := s.heap.objs.size) (o := DN X.prog X.w s.heap.objs.size []) (t' := s.toks) (fun _ _ q => Heap.get?_push_of_some _ q) (Nat.le_refl _) (dn_empty s.heap I.big), rfl, h _ (I.hok.fresh (Nat.le_refl _))⟩⟩
theorem nroom {A : Around} (hu : A.units + 64 < cLine) : (nestedKind X.prog X.w).room A.in1 := by
  show A.units + 1 + 8 < cLine
  omega
theorem nroom0 {A : Around} (hu : A.units + 64 < cLine) : (nestedKind X.prog X.w).room A := by
  show A.units + 8 < cLine
  omega
theorem pe_nget (hu : X.A.units + 64 < cLine) (ho : PE X o td) (hi : PE X i ty) (hs : NoSl i) : PE X (.Subscript o i pos) (tNGet X.K X.prog X.w td ty) := by
  refine ⟨fun pins s σ H Q I h => ?_⟩
  refine subD_of PySem.F.slot_dict_getitem.lookup hs (thn (ho.run pins s σ H _ I h) fun u s1 ⟨x, H1, I1, rx, q1⟩ => thn (hi.run pins s1 σ H1 _ I1 q1) fun iv s2 ⟨y, H2, I2, ry, a, b, xs, R, v, ex, ey, e, n, rr, g, q2⟩ => ?_)
  subst ex ey
  obtain rfl : u = Value.ref a := rx
  obtain rfl : iv = Value.ref b := ry
  obtain ⟨z, hd, ys, rel, dd⟩ := dn_dict I2 e n
  obtain ⟨w', hw, rw'⟩ := RelO.some_of (v := v) (o := (atKey ys (nk R)).map (·.2)) (by rw [← g]; exact ent_val rel R)
  obtain ⟨p, hp, hp2⟩ := Option.map_eq_some_iff.mp hw
  refine ⟨dd.typeIs, wpAny_getItem_heap (nroom (X := X) hu) (row_key I2 rr) dd hp ?_⟩
  rw [hp2]
  exact ⟨v, H2, I2.tok _, rw', q2⟩
theorem ps_nput (hu : X.A.units + 64 < cLine) (ho : PE X o td) (hi : PE X i ty) (hv : PE X value tv) (hs : swapsWith value (some (.Subscript o i pos')) pos.line X.env = pure false) :
    PS X (.Assign [.Subscript o i pos'] value pos) (sNPut X.K X.prog X.w td ty tv) := by
  refine ⟨fun pins s σ H D I h => ?_⟩
  refine wpAny_Assign_Subscript (thn (hv.run pins s σ H _ I h) fun r s1 ⟨v, H1, I1, rv, q1⟩ => thn (ho.run pins s1 σ H1 _ I1 q1) fun u s2 ⟨x, H2, I2, rx, q2⟩ => thn (hi.run pins s2 σ H2 _ I2 q2) fun iv s3 ⟨y, H3, I3, ry, a, b, xs, R, ex, ey, e, n, rr, l, q3⟩ => ?_) hs
  subst ex ey
  obtain rfl : u = Value.ref a := rx
  obtain rfl : iv = Value.ref b := ry
  obtain ⟨z, hd, ys, rel, dd⟩ := dn_dict I3 (.inl e) n
  have hz : ys.length ≤ sizeLine := by rw [← Paired.length rel]; exact z
  have hl : (putN xs R b v).length ≤ sizeLine := by have := putN_len xs R b v; omega
  refine wpAny_setItem_heap (hsz := hz) (nroom (X := X) hu) (row_key I3 rr) dd fun h' dd' hs => ⟨σ, _, ?_, q3⟩
  obtain ⟨q, es, ep, hq, h2, h3, h4, _, h5⟩ := dd'
  exact d_write I3 (by rw [e]; exact True.intro) hs ⟨q, hq⟩ (dn_mk ⟨hl, hd, _, ent_put rel R b rv, q, es, ep, hq, h2, h3, h4, h5⟩)
theorem pe_none {ke ve : Expr} (hu : X.A.units + 64 < cLine) (hk : PE X ke tk) (hv : PE X ve tv) : PE X (.Dict [some ke] [ve] pos) (tNOne X.K X.prog X.w tk tv) := by
  refine ⟨fun pins s σ H Q I h => ?_⟩
  have hn := I.hok.fresh (Nat.le_refl s.heap.objs.size)
  have I1 := I.laid (a := s.heap.objs.size) (o := DN X.prog X.w s.heap.objs.size []) (h' := s.heap.push { cls := .type "dict", data := .dict #[] }) (t' := s.toks) (fun _ _ q => Heap.get?_push_of_some _ q) (Nat.le_refl _) (dn_empty s.heap I.big)
  rw [arm_eval_Dict, zip_pairTrees [some ke] [ve] X.env pos rfl rfl, dictDisplay_pairs (pairTrees [some ke] [ve] X.env pos) (by intro z; cases z) (by show 1 < 17; decide)]
  refine wpAny_bind (wpAny_standAt (wpAny_bind (wpAny_subDictH (knd := nestedKind X.prog X.w) (Q := fun d s' => wpAny (model X.prog X.w) X.A (pure (Value.ref d)) (EP X pins σ Q) X.xe s') (nroom0 (X := X) hu) (by show 1 ≤ 15; decide) ?_)))
  refine pairTrees_cons_walk (thn (hk.run pins _ σ _ _ I1 (h _ hn)) fun u s1 ⟨x, H1, I2, r1, q1⟩ => thn (hv.run pins s1 σ H1 _ I2 q1) fun w2 s2 ⟨v, H2, I3, r2, e, b, R, ex, rr, q2⟩ => pairTrees_nil_walk ?_)
  subst ex
  obtain rfl : u = Value.ref b := r1
  obtain ⟨z, hd, ys, rel, dd⟩ := dn_dict I3 (.inl e) (fun _ h => nomatch h)
  cases rel
  refine ⟨[(nk R, b, w2)], ⟨rfl, rfl, row_key I3 rr, trivial⟩, dd, fun h' tk dd' hs => wpAny_pure ⟨.ref s.heap.objs.size, _, ?_, rfl, q2⟩⟩
  obtain ⟨q, es, ep, hq, h2, h3, h4, h6, h5⟩ := dd'
  exact d_write I3 (by rw [e]; exact True.intro) hs ⟨q, hq⟩ (dn_mk ⟨by show 1 ≤ sizeLine; decide, hd, [(nk R, b, w2)], .cons ⟨rfl, rfl, r2⟩ .nil, q, es, ep, hq, h2, h3, h4, h5⟩)
/-- len(d) -/
def rLenN (P : Program) (w : World) (K : PySem.W.Frag) : List V → Hp → VK → Prop := fun xs H Q => ∃ (p : Addr) (es : Ents), xs = [.ref p] ∧ H p = some (DN P w p es) ∧ NKeys K H es ∧ Q (.int ((es.length : Nat) : Int)) H
theorem call_len_dN : CallR X (.builtin "len") (rLenN X.prog X.w X.K) := by
  intro pins s σ H xs us Q I r h
  obtain ⟨p, es, rfl, hp, n, q⟩ := h
  obtain ⟨u, rfl, rx⟩ := vals1 r
  obtain rfl : u = .ref p := rx
  obtain ⟨z, hd, ys, rel, dd⟩ := dn_dict I (.inl hp) n
  have hl : es.length = ys.length := Paired.length rel
  refine call_len_dictH hd dd (by rw [← hl]; rw [sizeLine_eq] at z; omega) ?_
  rw [← hl]
  exact ⟨.int ((es.length : Nat) : Int), H, I.tok _, ⟨_, rfl⟩, q⟩
/-- a thing is frozen where it is handed on -/
def tFzD (te : TE) : TE := fun σ H Q => te σ H fun v H1 => ∃ p u, v = .ref p ∧ H1 p = some u ∧ Mut (some u) ∧ ∀ o, Q v (upd H1 p (.frz o u))
theorem pe_fzD {e : Expr} {te : TE} (h : PE X e te) : PE X e (tFzD te) := by
  refine ⟨fun pins s σ H Q I hw => ?_⟩
  refine thn (h.run pins s σ H _ I hw) fun v s1 ⟨x, H1, I1, r1, p, u, e1, e2, mu, q⟩ => ?_
  obtain ⟨o, I2⟩ := I1.lock e2 mu
  exact ⟨x, _, I2, r1, q o⟩
end
/-! ### for row, v in d.items() -/
section
variable {X : Cx} {pins : List (Addr × Obj)} {σ : L2.St} {H : Hp} {s : Shared} {d : Addr} {o : Obj} {xs : Ents}
theorem ent_at {ps : Ents} {ys : List (NestedKey × Addr × Value)} (r : Paired EntP ps ys) {i : Nat} {R : Row} {b : Addr} {v : V} (h : ps[i]? = some (R, b, v)) : ∃ u, ys[i]? = some (nk R, b, u) ∧ RelV v u := by
  obtain ⟨⟨k, c, u⟩, hy, h1, h2, h3⟩ := L2.paired_get r h
  cases h1
  cases h2
  exact ⟨u, hy, h3⟩
theorem frzN (I : Inv X pins σ H s) (h : H d = some (.frz o (DN X.prog X.w d xs))) :
    (d == sysModules) = false ∧ s.heap.get? d = some o ∧ o.ExactDict ∧ ∃ (es : Array DictEntry) (ep : Nat), o.data = .dict es ep ∧ es.size = xs.length ∧
      ∀ (i : Nat) (R : Row) (b : Addr) (v : V), xs[i]? = some (R, b, v) → ∃ (en : DictEntry), es[i]? = some en ∧ en.key = .ref b ∧ RelV v en.val := by
  obtain ⟨hd, x⟩ := I.hok d _ h
  obtain ⟨z, hs, ys, rel, o', es, ep, ho, hx, hdt, he, _⟩ := (show ObjOk X.prog X.w H s.heap d (DN X.prog X.w d xs) from x).1
  rw [hd] at ho
  cases ho
  refine ⟨hs, hd, hx, es, ep, hdt, ?_, fun i R b v e => ?_⟩
  · have l1 : es.size = ys.length := size_of_entries he
    have l2 : xs.length = ys.length := Paired.length rel
    omega
  · obtain ⟨u, hy, ru⟩ := ent_at rel e
    have q := entry_at he i
    rw [hy] at q
    exact ⟨_, q, rfl, ru⟩
def ItN (P : Program) (w : World) (d : Addr) (o : Obj) (xs : Ents) : It :=
  ⟨fun i H => H d = some (.frz o (DN P w d xs)) ∧ i < xs.length, fun i H x H' => ∃ T R b v, xs[i]? = some (R, b, v) ∧ x = .ref T ∧ H T = none ∧ H' = upd H T (.tup [.ref b, v]), fun i H => H d = some (.frz o (DN P w d xs)) ∧ xs.length ≤ i⟩
theorem turn_itemsN {P : Program} {w : World} {K : PySem.W.Frag} {es : Array DictEntry} {ep : Nat} {elts : List Expr} {kk : Nat} {tpos : Pos} (it : Addr) (hod : o.data = .dict es ep) :
    Turn P w K (.Tuple elts kk tpos) (ItN P w d o xs) [it] it (fun i h => ∃ ok ov, IsItemIter h it d i es.size ep ok ov) where
  mem := by simp
  obj := fun i h st b hb => by
    have e : b = it := by simpa using hb
    subst e
    obtain ⟨ok, ov, e⟩ := st
    exact ⟨_, e, fun v z => nomatch z⟩
  keep := fun i h h' st k => let ⟨ok, ov, e⟩ := st; ⟨ok, ov, k it (by simp) _ e⟩
  item := by
    intro X hP hw hK hc i pins s σ H E I hf st hg
    subst hP hw hK
    obtain ⟨hd, hi⟩ := hg
    obtain ⟨hs, hgd, hx, es', ep', hdt, hsz, ent⟩ := frzN I hd
    obtain ⟨rfl, rfl⟩ := dict_ep hod hdt
    obtain ⟨⟨R, b, v⟩, hkv⟩ : ∃ p, xs[i]? = some p := ⟨xs[i], List.getElem?_eq_getElem hi⟩
    obtain ⟨en, hen, ek, ru⟩ := ent i R b v hkv
    obtain ⟨ok, ov, he⟩ := st
    have hlt : it < s.heap.objs.size := Heap.lt_size he
    have hie : i < es'.size := by omega
    have een : es'[i] = en := by
      rw [Array.getElem?_eq_getElem hie] at hen
      exact Option.some.inj hen
    refine wpAny_pyNext_items_item_raw he ⟨o, hgd, hx, hdt⟩ hie fun h' ho hT hz hk => ?_
    refine ⟨_, rfl, wpAny_letOwnedTupleGo_items (s := { s with heap := h' }) ho fun h'' he' sb => ?_⟩
    have hT2 : h''.get? s.heap.objs.size = some { cls := .type "tuple", data := .seq #[.ref b, en.val] } := by
      rw [← ek, ← een]
      exact (sb.2 _ (Nat.ne_of_gt hlt)).trans hT
    have new : ObjOk X.prog X.w (upd H s.heap.objs.size (.tup [.ref b, v])) h'' s.heap.objs.size (.tup [.ref b, v]) :=
      ⟨by show 2 ≤ sizeLine; decide, [.ref b, en.val], .cons rfl (.cons ru .nil), ⟨_, hT2, rfl, _, rfl⟩⟩
    have I1 : Inv X pins σ (upd H s.heap.objs.size (.tup [.ref b, v])) { s with heap := h'' } :=
      I.turnedNew (t' := s.toks) (ch := [it]) (fun b ob hb e => (sb.2 b (by simpa using hb)).trans (hk b ob (by simpa using hb) e)) hf (Nat.le_refl _) new
    refine ⟨.ref s.heap.objs.size, _, I1, rfl, ⟨_, R, b, v, hkv, rfl, I.hok.fresh (Nat.le_refl _), rfl⟩, ⟨es'[i].key, es'[i].val, he'⟩, fun c hb => ?_⟩
    have e : c = it := by simpa using hb
    rw [e, upd_ne (Nat.ne_of_lt hlt)]
    exact (hf it (by simp)).1
  done := by
    intro X hP hw hK hc i pins s σ H E I hf st hg
    subst hP hw hK
    obtain ⟨hd, hi⟩ := hg
    obtain ⟨f0, f1, f2, f3, f4, f5⟩ := hf it (by simp)
    obtain ⟨hs, hgd, hx, es', ep', hdt, hsz, ent⟩ := frzN I hd
    obtain ⟨rfl, rfl⟩ := dict_ep hod hdt
    obtain ⟨ok, ov, he⟩ := st
    exact wpAny_pyNext_items_end_raw (I.ok.hd hc) he ⟨o, hgd, hx, hdt⟩ (by omega) fun h' eb => ⟨rfl, I.turned (t' := s.toks) (fun b ob hb e => eb b ob hb e) f0 f1 f3 f4 f5⟩
  self := fun A i s Q E st h => let ⟨_, _, e⟩ := st; PySem.W.kcp_self e h
def iItemsN (P : Program) (w : World) (td : TE) : TI := fun σ H R => td σ H fun x H1 => ∃ d o xs, x = .ref d ∧ H1 d = some (.frz o (DN P w d xs)) ∧ R (ItN P w d o xs) H1
theorem pi_itemsN {e : Expr} {td : TE} {apos cpos : Pos} {elts : List Expr} {kk : Nat} {tpos : Pos} (he : PE X e td) (hbase : attributeBase e "items" X.env (eval e X.env) = eval e X.env := by rfl) (hline : (apos.endLine == cpos.line) = true := by rfl) :
    PI X (.Tuple elts kk tpos) (.Call (.Attribute e "items" apos) [] [] cpos) (iItemsN X.prog X.w td) := by
  refine ⟨fun pins s σ H R I h => ?_⟩
  refine wpAny_Call_method (T := "dict") (id := "dict.items") hbase rfl hline F.plainAttrs_dict F.slot_dict_items F.type_dict_items (thn (he.run pins s σ H _ I h) fun u s1 ⟨x, H1, I1, rx, d, o, xs, ex, hd, q⟩ => ?_)
  subst ex
  obtain rfl : u = Value.ref d := rx
  obtain ⟨hs, hgd, hx, es, ep, hdt, hsz, ent⟩ := frzN I1 hd
  have raw : s1.heap.DictRaw d es ep := ⟨o, hgd, hx, hdt⟩
  refine ⟨raw.typeIs, fun b q => ?_, ?_⟩
  · cases q
    exact ⟨o, hgd, hx.2.1⟩
  have I2 : Inv X pins σ H1 { s1 with heap := s1.heap.push { cls := .type "dict_items", data := .fields #[.ref d] } } := I1.kept (t' := s1.toks) fun b ob q => Heap.get?_push_of_some _ q
  have fin : wpAny (model X.prog X.w) X.A (pyIter (.ref s1.heap.objs.size)) (PIE X pins σ (.Tuple elts kk tpos) R) X.xe { s1 with heap := s1.heap.push { cls := .type "dict_items", data := .fields #[.ref d] } } := by
    refine wpAny_pyIter_items_raw (d := d) ⟨_, Heap.get?_push_size _ rfl, rfl, rfl⟩ (raw.at fun o q => Heap.get?_push_of_some _ q) (pi_one (tk := s1.toks) I2 _ (turn_itemsN _ hdt) ⟨.none, .none, ?_⟩ q)
    exact Heap.get?_push_size _ rfl
  show wpAny _ _ (callWith cpos (.builtin "dict.items") [.ref d] [] []) _ X.xe s1
  exact method_meetsIn F.slot_dict_items F.entry_dict_items rfl (PySem.evalArgs_none ⟨rfl, raw.typeIs, F.args_dict_items_1 _, _, meets_dict_items_raw d hs, ⟨⟨es, ep, raw⟩, fin⟩⟩)
/-- the loop over the entries by an invariant by the place -/
theorem for_itemsN {P : Program} {w : World} {g : TG} {tb : TS} {D : Ends} {σ : L2.St} {H : Hp} (Pv : Nat → L2.St → Hp → Prop) (h0 : Pv 0 σ H) (hl : ∀ i σ H, i ≤ xs.length → Pv i σ H → H d = some (.frz o (DN P w d xs)))
    (hs : ∀ i R b v σ H T, xs[i]? = some (R, b, v) → Pv i σ H → H T = none → g (.ref T) σ (upd H T (.tup [.ref b, v])) fun σ2 H2 => tb { D with nx := Pv (i + 1), ct := Pv (i + 1), bk := D.nx } σ2 H2) (hd : ∀ σ H, Pv xs.length σ H → D.nx σ H) :
    ∃ W : Nat → Nat → L2.St → Hp → Prop, (∃ m, W 0 m σ H) ∧ ∀ i m σ H, W i m σ H →
      ((ItN P w d o xs).stop i H ∧ D.nx σ H) ∨ ((ItN P w d o xs).go i H ∧ ∃ N : L2.St → Hp → Prop, (∀ σ' H', N σ' H' → ∃ m', m' < m ∧ W (i + 1) m' σ' H') ∧ ∀ x H', (ItN P w d o xs).yld i H x H' → g x σ H' fun σ2 H2 => tb { D with nx := N, ct := N, bk := D.nx } σ2 H2) := by
  refine ⟨fun i m σ H => m = xs.length - i ∧ i ≤ xs.length ∧ Pv i σ H, ⟨xs.length, by simp, Nat.zero_le _, h0⟩, ?_⟩
  rintro i m σ H ⟨rfl, hi, p⟩
  have q := hl i σ H hi p
  by_cases hlt : i < xs.length
  · refine .inr ⟨⟨q, hlt⟩, Pv (i + 1), fun σ' H' p' => ⟨xs.length - (i + 1), by omega, rfl, hlt, p'⟩, fun x H' y => ?_⟩
    obtain ⟨T, R, b, v, e1, rfl, e3, rfl⟩ := y
    exact hs i R b v σ H T e1 p e3
  · have e : i = xs.length := by omega
    subst e
    exact .inl ⟨⟨q, Nat.le_refl _⟩, hd σ H p⟩
end
end K75
-- K16
/-! cases: state_behind, longer_ones, tree_of. -/
namespace K75
open PySem PySem.Spec PyProof.Rows L2
def dDeed (d : Deed) : PyData := .tuple [.str (wordOf d.1), .int (d.2 : Int)]
def dRow (R : Row) : PyData := .tuple (R.map dDeed)
theorem dRow_shaped (R : Row) : SeqAt.shaped (dRow R) = true := by
  have all : ∀ R : List Deed, PyData.canLayAll0 (R.map dDeed) = true ∧ PyData.depthAll (R.map dDeed) ≤ 1 := by
    intro R
    induction R with
    | nil => simp [PyData.canLayAll0, PyData.depthAll]
    | cons a r ih =>
      obtain ⟨h1, h2⟩ := ih
      constructor
      · have e : PyData.strOk (wordOf a.1) = true := by
          cases a.1 <;> decide +kernel
        simp [PyData.canLayAll0, dDeed, PyData.canLay0, h1, e]
      · rw [List.map_cons, PyData.depthAll]
        have : (dDeed a).depth ≤ 1 := by simp [dDeed, PyData.depth, PyData.depthAll]
        omega
  obtain ⟨h1, h2⟩ := all R
  unfold SeqAt.shaped dRow
  rw [PyData.canLay0, PyData.depth, h1]
  have : PyData.depthAll (R.map dDeed) + 1 ≤ 64 := by omega
  simpa using this
theorem dRow_nil (R : Row) : PyData.eqv (dRow R) (dRow []) = R.isEmpty := by
  cases R with
  | nil => simp [dRow, PyData.eqv, PyData.eqvAll]
  | cons a r => simp [dRow, PyData.eqv, PyData.eqvAll]
theorem row_dp {K : PySem.W.Frag} {H : Hp} {v : V} {R : Row} (h : rRow K H v R) : Dp K H v (dRow R) := by
  obtain ⟨p, xs, rfl, hp, rel⟩ := h
  refine .tup hp ?_
  clear hp
  induction rel with
  | nil => exact .nil
  | @cons x d xs R hx t ih =>
    obtain ⟨q, rfl, hq⟩ := hx
    exact .cons (.tup hq (.cons (.str _) (.cons (.int _) .nil))) ih
theorem row_empty {K : PySem.W.Frag} {H : Hp} {p : Addr} : rRow K (upd H p (.tup [])) (.ref p) [] := ⟨p, [], rfl, sqt_new, .nil⟩
theorem cut_last {xs : List V} {v : V} : cutV (xs ++ [v]) none (some (-1)) = xs ∧ ¬ (HT.sIx (xs ++ [v]).length 0 none = 0 ∧ HT.sIx (xs ++ [v]).length (xs ++ [v]).length (some (-1)) = (xs ++ [v]).length) := by
  have e : HT.sIx (xs ++ [v]).length (xs ++ [v]).length (some (-1)) = xs.length := by
    show (if (-1 : Int) < 0 then ((-1 : Int) + ((xs ++ [v]).length : Int)).toNat else min (-1 : Int).toNat (xs ++ [v]).length) = xs.length
    rw [if_pos (by decide), List.length_append]
    simp
    omega
  constructor
  · unfold cutV
    rw [e]
    show ((xs ++ [v]).drop 0).take (xs.length - 0) = xs
    simp
  · rw [e]
    simp
theorem row_snoc {K : PySem.W.Frag} {H : Hp} {v : V} {R : Row} {d : Deed} (h : rRow K H v (R ++ [d])) : ∃ p xs x, v = .ref p ∧ SqT K H p (xs ++ [x]) ∧ Paired (rD K H) xs R ∧ rD K H x d := by
  obtain ⟨p, ys, rfl, hp, rel⟩ := h
  have all : ∀ {ys : List V} {R : List Deed}, Paired (rD K H) ys (R ++ [d]) → ∃ xs x, ys = xs ++ [x] ∧ Paired (rD K H) xs R ∧ rD K H x d := by
    intro ys R
    induction R generalizing ys with
    | nil =>
      intro q
      cases q with
      | cons h t =>
        cases t
        exact ⟨[], _, rfl, .nil, h⟩
    | cons a r ih =>
      intro q
      cases q with
      | cons h t =>
        obtain ⟨xs, x, rfl, a1, a2⟩ := ih t
        exact ⟨_ :: xs, x, rfl, .cons h a1, a2⟩
  obtain ⟨xs, x, rfl, a1, a2⟩ := all rel
  exact ⟨p, xs, x, rfl, hp, a1, a2⟩
section
variable {P : Program} {w : World} {K : PySem.W.Frag} {mg : Str → Option Value} {base : Heap}
def sp_state_behind (K : PySem.W.Frag) (P : Program) (w : World) : Sp := fun vs H Q _ => ∃ (p st : Addr) (sv dv : V) (W : Hall) (S : Sheet) (R : Row) (es : Ents), vs = [.ref p, sv, .ref st, dv] ∧ WayAt K H p W ∧ HallOk W ∧ rSheet K H sv S ∧ S.length ≤ 100 ∧ total S ≤ 2 ^ 50 ∧
  H st = some (DN P w st es) ∧ NKeys K H es ∧ rRow K H dv R ∧ Valid W R ∧ (∀ R' d, R = R' ++ [d] → ∃ u, getN es R' = some u ∧ rState K H u (stOf S (W.cnt S R').F (W.cnt S R').G)) ∧
  ∀ H' u, Same H H' → rState K H' u (stOf S (W.cnt S R).F (W.cnt S R).G) → Q u H'
abbrev N_state_behind : List Str := ["way", "sheet", "states", "deeds", "word", "hand", "ahead"]
theorem sc_state_behind : FnScope N_state_behind ["way", "sheet", "states", "deeds"] (defScope s_state_behind) := ⟨rfl, rfl, rfl, by decide +kernel, rfl, by decide +kernel, by decide +kernel⟩
theorem ok_state_behind (T : Tx K mg) {fd : FuncData} (F : FnD K d_state_behind fd) : FnOk P w K mg base CX0 7 (He.fAd K d_state_behind.at_) fd ["way", "sheet", "states", "deeds"] (sp_state_behind K P w) := by
  have nd := sc_state_behind.nd
  refine okx F sc_state_behind (fun vs H Q E h => ?_) (fun cdv A outer s H vs Q E hr h => ?_)
  · obtain ⟨p, st, sv, dv, W, S, R, es, rfl, _⟩ := h
    rfl
  · obtain ⟨p, st, sv, dv, W, S, R, es, rfl, wa, ok, rs, hl, ht, hst, hk, rr, val, hpar, k⟩ := h
    refine ⟨_, (pss_cons (ps_if (pt_cmpR (op_eqD hr.units) (pv 3) (pe_tup pa_nil) (nomark _)) (pss_one (ps_ret (pc_begin T (hr.mono (by decide)) (by rfl) (pa_cons (pv 1) (pa_cons (pe_fld (pv 0) rfl) pa_nil))))) pss_nil)
      (pss_cons (ps_asg (pe_ix ix_tup (pv 3) (pe_un un_neg pe_int) (fun _ _ => rfl)) (pg_tup rfl (pgs_cons (pg_name (i := 4) nd rfl (Or.inl rfl)) (pgs_cons (pg_name (i := 5) nd rfl (Or.inl rfl)) pgs_nil))))
      (pss_cons (ps_set (i := 6) nd rfl (Or.inl rfl) (pe_nget hr.units (pv 2) (pe_slice sl_tupA (pv 3) po_none (po_some (pe_un un_neg pe_int))) (fun _ _ => rfl)))
      (pss_cons (ps_if (pt_cmpR op_eq (pv 4) pe_str (nomark _)) (pss_one (ps_ret (pv 6))) pss_nil)
      (pss_one (ps_ret (pc_kept_by T (hr.mono (by decide)) (by rfl) (pa_cons (pv 1) (pa_cons (pv 6) (pa_cons (pc_standing_behind T (hr.mono (by decide)) (by rfl) (pa_cons (pv 0) (pa_cons (pe_slice sl_tupA (pv 3) po_none (po_some (pe_un un_neg pe_int))) pa_nil))) (pa_cons (pv 5) (pa_cons (pq_Seats_quota T (hr.mono (by decide)) (pv 0) (pa_cons (pc_ballots_in T (hr.mono (by decide)) (by rfl) (pa_cons (pv 1) pa_nil)) pa_nil)) pa_nil)))))))))))), ?_⟩
    have h4 := ok.h4
    have hsh := ok.sh
    rcases List.eq_nil_or_concat R with rfl | ⟨R', d, rfl⟩
    · refine ⟨_, rfl, (by show 0 ≤ sizeLine; decide), fun z hz => ?_⟩
      have s1 : Same H (upd H z (.tup [])) := Same.new hz
      refine ⟨dRow [], dRow [], row_dp (rRow_stays.k (Keep.of s1) rr), row_dp row_empty, dRow_shaped _, dRow_shaped _, ?_⟩
      rw [dRow_nil]
      refine ⟨_, rfl, iteT ?_⟩
      exact ⟨_, rfl, _, rfl, (wa.same s1).hands T ⟨sv, S, W.hands, rfl, rSheet_stays.k (Keep.of s1) rs, hl, by omega, fun H2 u s2 ru => k _ _ (s1.trans s2) ru⟩⟩
    · rw [List.concat_eq_append] at *
      refine ⟨_, rfl, (by show 0 ≤ sizeLine; decide), fun z hz => ?_⟩
      have s1 : Same H (upd H z (.tup [])) := Same.new hz
      refine ⟨dRow (R' ++ [d]), dRow [], row_dp (rRow_stays.k (Keep.of s1) rr), row_dp row_empty, dRow_shaped _, dRow_shaped _, ?_⟩
      rw [dRow_nil, show (R' ++ [d]).isEmpty = false by simp]
      refine ⟨_, rfl, iteF ?_⟩
      obtain ⟨pd, xs, x, rfl, hpd, relx, t, rfl, hx⟩ := row_snoc rr
      refine ⟨_, rfl, _, rfl, pd, _, _, _, rfl, rfl, sqt_keep (Keep.of s1) hpd, atI_last _ _, ?_⟩
      refine ⟨t, _, rfl, sqt_keep (Keep.of s1) hx, rfl, _, _, rfl, _, _, rfl, rfl, ?_⟩
      refine ⟨_, rfl, _, rfl, _, rfl, _, rfl, pd, _, rfl, sqt_keep (Keep.of s1) hpd, fun hw => absurd hw cut_last.2, fun _ q hq => ?_⟩
      rw [cut_last.1]
      have s2 : Same H (upd (upd H z (.tup [])) q (.tup xs)) := s1.trans (Same.new hq)
      have rq : rRow K (upd (upd H z (.tup [])) q (.tup xs)) (.ref q) R' := ⟨q, xs, rfl, sqt_new, paired_mono (fun _ _ y => rD_stays.k (Keep.of s2) y) relx⟩
      obtain ⟨u, hu, ru⟩ := hpar R' d rfl
      refine ⟨st, q, es, R', u, rfl, rfl, .inl (s2 _ _ hst), hk.keep (Keep.of s2), rq, hu, ?_⟩
      have vp := val.at R' d [] rfl
      obtain ⟨b1, h⟩ := d
      have ecn := cnt_snoc W S R' (b1, h)
      have cst : (W.cnt S R').st = stAfter W.hands R' := cnt_st W S R'
      refine ⟨_, rfl, rfl, ?_⟩
      refine testE (w_out b1) ?_
      cases b1 with
      | false =>
        refine iteT ?_
        refine ⟨_, rfl, k _ _ s2 ?_⟩
        rw [ecn]
        exact rState_stays.k (Keep.of s2) ru
      | true =>
        refine iteF ?_
        obtain ⟨Dn, mm, _, _, good⟩ := good_row h4 hsh hl ht vp.1 (S := S)
        refine ⟨_, rfl, _, rfl, _, rfl, _, rfl, _, rfl, _, rfl, pd, _, rfl, sqt_keep (Keep.of s2) hpd, fun hw => absurd hw cut_last.2, fun _ q2 hq2 => ?_⟩
        rw [cut_last.1]
        have s3 : Same H (upd (upd (upd H z (.tup [])) q (.tup xs)) q2 (.tup xs)) := s2.trans (Same.new hq2)
        have rq2 : rRow K (upd (upd (upd H z (.tup [])) q (.tup xs)) q2 (.tup xs)) (.ref q2) R' := ⟨q2, xs, rfl, sqt_new, paired_mono (fun _ _ y => rD_stays.k (Keep.of s3) y) relx⟩
        refine ⟨p, .ref q2, W, R', rfl, wa.same s3, by omega, rq2, fun d hd => by have := valid_lt vp.1 d hd; omega, ?_⟩
        refine ⟨_, rfl, _, rfl, (wa.same s3).meth (by decide +kernel) (by decide +kernel) (by decide +kernel) ⟨_, rfl, sv, S, rfl, rSheet_stays.k (Keep.of s3) rs, hl, fun H4 s4 => ?_⟩⟩
        have s5 := s3.trans s4
        refine ⟨p, W, total S, rfl, wa.same s5, by omega, ?_⟩
        refine ⟨sv, u, S, W.hands, Dn, mm, (W.cnt S R').F, (W.cnt S R').G, stAfter W.hands R', h, W.q S, rfl, rSheet_stays.k (Keep.of s5) rs, rState_stays.k (Keep.of s5) ru, good, st_lt h4 R', st_mem _ vp.2.2, q_le ht, fun H6 nv s6 rn => k _ _ (s5.trans s6) ?_⟩
        rw [ecn]
        have : step S (W.q S) (W.cnt S R') (true, h) = ⟨freeBy S (W.q S) (W.cnt S R').F (stAfter W.hands R') h, keptBy S (W.q S) (W.cnt S R').F (W.cnt S R').G (stAfter W.hands R') h, without (stAfter W.hands R') h⟩ := by
          unfold step
          rw [if_pos rfl, cst]
        rw [this]
        exact rn
theorem pc_state_behind {K : PySem.W.Frag} {mg : Str → Option Value} (T : Tx K mg) {X : Cx} (hr : Room 7 X.A) (hg : Gl X "state_behind") {p pos : Pos} {e : Expr} {es : List Expr} {t : TA} (ha : PA X (e :: es) t) (hK : X.K = K := by rfl) (hM : X.mg = mg := by rfl) (he : starEach (e :: es) X.env = (false, eval e X.env) :: starEach es X.env := by rfl) (hpl : (backTo pos (starEach es X.env)).any (·.1) = false := by rfl) : PE X (.Call (.Name "state_behind" p) (e :: es) [] pos) (tCall (sp_state_behind K X.prog X.w) [] E0 t) := by
  subst hK hM
  obtain ⟨fd, F⟩ := T.says.def_ 30 (d := d_state_behind) rfl
  exact pe_call (ok_state_behind T F) hr hg (T.glo 30 rfl) F.kp (F.bindsN fun _ _ _ _ _ _ us hl => match us, hl with | [_, _, _, _], _ => rfl) .nil pass0 ha (by decide) he hpl
def kid (W : Hall) (S : Sheet) (R : Row) (m : Int) (h : Nat) (b : Bool) : Row × Int := (R ++ [(b, h)], max m (W.need S R (b, h)))
def kids (W : Hall) (S : Sheet) (R : Row) (m : Int) : List (Row × Int) := (members (stAfter W.hands R)).flatMap fun h => [kid W S R m h true, kid W S R m h false]
abbrev rKid : Rl (Row × Int) := rPair rRow rInt
theorem rKid_stays : Stays rKid := rPair_stays rRow_stays rInt_stays
def sp_longer_ones (K : PySem.W.Frag) : Sp := fun vs H Q _ => ∃ (p : Addr) (sv stv dv : V) (W : Hall) (S : Sheet) (R : Row) (m : Int), vs = [.ref p, sv, stv, dv, .int m] ∧ WayAt K H p W ∧ HallOk W ∧ rSheet K H sv S ∧ S.length ≤ 100 ∧ total S ≤ 2 ^ 50 ∧
  rState K H stv (stOf S (W.cnt S R).F (W.cnt S R).G) ∧ rRow K H dv R ∧ Valid W R ∧ R.length ≤ 60 ∧ ∀ H' u, Same H H' → rLst rKid K H' u (kids W S R m) → Q u H'
abbrev N_longer_ones : List Str := ["way", "sheet", "state", "deeds", "so_far", "standing", "sums", "ballots", "found", "hand", "word", "deed"]
theorem sc_longer_ones : FnScope N_longer_ones ["way", "sheet", "state", "deeds", "so_far"] (defScope s_longer_ones) := ⟨rfl, rfl, rfl, by decide +kernel, rfl, by decide +kernel, by decide +kernel⟩
theorem ok_longer_ones (T : Tx K mg) {fd : FuncData} (F : FnD K d_longer_ones fd) : FnOk P w K mg base CX0 6 (He.fAd K d_longer_ones.at_) fd ["way", "sheet", "state", "deeds", "so_far"] (sp_longer_ones K) := by
  have nd := sc_longer_ones.nd
  refine okx F sc_longer_ones (fun vs H Q E h => ?_) (fun cdv A outer s H vs Q E hr h => ?_)
  · obtain ⟨p, sv, stv, dv, W, S, R, m, rfl, _⟩ := h
    rfl
  · obtain ⟨p, sv, stv, dv, W, S, R, m, rfl, wa, ok, rs, hl, ht, rst, rr, val, hR, k⟩ := h
    refine ⟨_, (pss_cons (ps_set (i := 5) nd rfl (Or.inl rfl) (pc_standing_behind T (hr.mono (by decide)) (by rfl) (pa_cons (pv 0) (pa_cons (pv 3) pa_nil))))
      (pss_cons (ps_set (i := 6) nd rfl (Or.inl rfl) (pc_tallies T (hr.mono (by decide)) (by rfl) (pa_cons (pv 1) (pa_cons (pc_table T (hr.mono (by decide)) (by rfl) (pa_cons (pv 1) (pa_cons (pv 2) (pa_cons (pv 5) pa_nil)))) (pa_cons (pe_fld (pv 0) rfl) pa_nil)))))
      (pss_cons (ps_set (i := 7) nd rfl (Or.inl rfl) (pc_ballots_in T (hr.mono (by decide)) (by rfl) (pa_cons (pv 1) pa_nil)))
      (pss_cons (ps_set (i := 8) nd rfl (Or.inl rfl) (pe_lst pa_nil))
      (pss_cons (ps_for PassesOwn.never rfl (pi_list (pc_members T (hr.mono (by decide)) (by rfl) (pa_cons (pv 5) pa_nil))) (pg_name (i := 9) nd rfl (Or.inl rfl)) (pss_one (ps_for PassesOwn.never rfl (pi_list (pe_lst (pa_cons pe_str (pa_cons pe_str pa_nil)))) (pg_name (i := 10) nd rfl (Or.inl rfl)) (pss_cons (ps_set (i := 11) nd rfl (Or.inl rfl) (pe_tup (pa_cons (pv 10) (pa_cons (pv 9) pa_nil))))
      (pss_one (ps_expr (pe_bm PySem.F.plainAttrs_list PySem.F.slot_list_append PySem.F.type_list_append mt_append (pv 8) (pa_cons (pe_tup (pa_cons (pe_op op_catA (pv 3) (pe_tup (pa_cons (pv 11) pa_nil))) (pa_cons (pe_callB (call_max2 rfl) (by rfl) (T.free 55 rfl) (by decide +kernel) (pa_cons (pv 4) (pa_cons (pc_need T (hr.mono (by decide)) (by rfl) (pa_cons (pv 0) (pa_cons (pv 7) (pa_cons (pv 6) (pa_cons (pv 5) (pa_cons (pv 11) pa_nil)))))) pa_nil))) pa_nil))) pa_nil))))))))
      (pss_one (ps_ret (pe_fz (pv 8))))))))), ?_⟩
    have h4 := ok.h4
    have hsh := ok.sh
    obtain ⟨Dn, mm, _, _, good⟩ := good_row h4 hsh hl ht val (S := S)
    have cst : (W.cnt S R).st = stAfter W.hands R := cnt_st W S R
    have hst := st_lt h4 R
    refine ⟨_, rfl, _, rfl, p, dv, W, R, rfl, wa, by omega, rr, fun d hd => by have := valid_lt val d hd; omega, ?_⟩
    refine ⟨_, rfl, _, rfl, _, rfl, _, rfl, sv, stv, S, W.hands, Dn, mm, (W.cnt S R).F, (W.cnt S R).G, stAfter W.hands R, rfl, rs, rst, good, hst, fun x hx => st_mem x hx, fun H1 tv s1 rt => ?_⟩
    refine ⟨_, rfl, (wa.same s1).hands T ?_⟩
    refine ⟨sv, tv, S, (fun s => rowOf s ((W.cnt S R).F s) ((W.cnt S R).G s) (stAfter W.hands R)), W.hands, Dn * 12, rfl, rSheet_stays.k (Keep.of s1) rs, rt, hl, by omega, ht, fun s => by rw [row_len, good.fine.gl], good.p12.1, good.p12.2, fun s z hz => row_small good hst s z hz, fun H2 uv s2 ru => ?_⟩
    have es : (List.range (W.hands + 1)).map (fun j => wsum S fun s => (rowOf s ((W.cnt S R).F s) ((W.cnt S R).G s) (stAfter W.hands R)).getD j 0) = sumsOf S W.hands (W.cnt S R) := by unfold sumsOf; rw [cst]
    rw [es] at ru
    have s12 := s1.trans s2
    have tame : Tame (sumsOf S W.hands (W.cnt S R)) := sums_tame good (by rw [cst]; exact hst)
    refine ⟨_, rfl, sv, S, rfl, rSheet_stays.k (Keep.of s12) rs, hl, fun H3 s3 => ?_⟩
    have s13 := s12.trans s3
    refine ⟨(by show 0 ≤ sizeLine; decide), fun D hD => ?_⟩
    have hD0 : H D = none := s13.free hD
    refine ⟨_, rfl, stAfter W.hands R, rfl, Nat.lt_of_lt_of_le hst (by decide), fun H4 ml s4 hm fm => ⟨ml, rfl, ⟨_, fm.sq⟩, ?_⟩⟩
    have k24 : Keep H2 H4 := ((Keep.of s3).trans (Keep.new hD)).trans (Keep.of s4)
    have s03 : Same H (upd H3 D (.lst [])) := Same.at s13 hD0
    have s04 : Same H H4 := s03.trans s4
    have hlm : (members (stAfter W.hands R)).length ≤ 4 := by
      have h16 : stAfter W.hands R < 2 ^ 4 := hst
      rw [← upTo_all h16]
      exact Nat.le_trans (List.length_filter_le _ _) (by rw [List.length_range]; exact Nat.le_refl _)
    have hfl : ∀ i, (((members (stAfter W.hands R)).take i).flatMap fun h => [kid W S R m h true, kid W S R m h false]).length ≤ 8 := by
      intro i
      have all : ∀ l : List Nat, (l.flatMap fun h => [kid W S R m h true, kid W S R m h false]).length = 2 * l.length := by
        intro l
        induction l with
        | nil => rfl
        | cons a r ih => rw [List.flatMap_cons, List.length_append, ih]; simp; omega
      rw [all, List.length_take]
      omega
    refine for_list (K := K) (a := ml) (xs := nats (members (stAfter W.hands R))) (fun i σ H' => ∃ a b c, σ = [some (.ref p), some sv, some stv, some dv, some (.int m), some (.int (stAfter W.hands R : Nat)), some uv, some (.int (total S : Nat)), some (.ref D), a, b, c] ∧
      Acc K rKid H D H' (((members (stAfter W.hands R)).take i).flatMap fun h => [kid W S R m h true, kid W S R m h false]) ∧ Keep H4 H') ⟨none, none, none, rfl, ⟨[], s04, s4 _ _ upd_same, .nil⟩, Keep.refl _⟩ ?_ ?_ ?_
    · rintro i σ H' _ ⟨a, b, c, _, _, kp⟩
      exact (fm.keep kp).sq
    · rintro i x σ H' hx ⟨a, b, c, rfl, ac, kp⟩
      rw [List.getElem?_map] at hx
      obtain ⟨h, hh, rfl⟩ := Option.map_eq_some_iff.mp hx
      have hmem : h ∈ members (stAfter W.hands R) := List.mem_of_getElem? hh
      refine ⟨(by show 2 ≤ sizeLine; decide), fun L hL => ?_⟩
      refine ⟨L, rfl, ⟨_, SqL.of upd_same⟩, ?_⟩
      obtain ⟨vs0, _, eD, _⟩ := id ac
      have nLD : L ≠ D := fun z => by rw [z, eD] at hL; cases hL
      have acL : Acc K rKid H D (upd H' L (.lst [.str "seat", .str "out"])) (((members (stAfter W.hands R)).take i).flatMap fun h => [kid W S R m h true, kid W S R m h false]) := by
        obtain ⟨vs, b1, b2, b3⟩ := ac
        exact ⟨vs, b1.trans (Same.new hL), Same.new hL _ _ b2, paired_mono (fun _ _ z => rKid_stays.k (Keep.new hL) z) b3⟩
      refine for_list (K := K) (a := L) (xs := [.str "seat", .str "out"]) (fun j σ H'' => ∃ b c, σ = [some (.ref p), some sv, some stv, some dv, some (.int m), some (.int (stAfter W.hands R : Nat)), some uv, some (.int (total S : Nat)), some (.ref D), some (.int (h : Int)), b, c] ∧
        Acc K rKid H D H'' ((((members (stAfter W.hands R)).take i).flatMap fun h => [kid W S R m h true, kid W S R m h false]) ++ [kid W S R m h true, kid W S R m h false].take j) ∧ Keep H4 H'' ∧ H'' L = some (.lst [.str "seat", .str "out"])) ⟨_, _, rfl, by rw [List.take_zero, List.append_nil]; exact acL, kp.trans (Keep.new hL), upd_same⟩ ?_ ?_ ?_
      · rintro j σ H'' _ ⟨_, _, _, _, _, eL⟩
        exact SqL.of eL
      · rintro j x σ H'' hx ⟨b0, c0, rfl, ac1, ac1k, eL⟩
        obtain ⟨b, rfl, hb⟩ : ∃ b, x = .str (wordOf b) ∧ [kid W S R m h true, kid W S R m h false][j]? = some (kid W S R m h b) := by
          match j, hx with
          | 0, hx => exact ⟨true, (Option.some.inj hx).symm, rfl⟩
          | 1, hx => exact ⟨false, (Option.some.inj hx).symm, rfl⟩
        have etk : (((members (stAfter W.hands R)).take i).flatMap fun h => [kid W S R m h true, kid W S R m h false]) ++ [kid W S R m h true, kid W S R m h false].take (j + 1) = ((((members (stAfter W.hands R)).take i).flatMap fun h => [kid W S R m h true, kid W S R m h false]) ++ [kid W S R m h true, kid W S R m h false].take j) ++ [kid W S R m h b] := by
          rw [take_snoc hb, List.append_assoc]
        have eneed : needOf W.lots (quota W.seats (total S)) (fun x => (sumsOf S W.hands (W.cnt S R)).getD x 0) (stAfter W.hands R) (b, h) = W.need S R (b, h) := by
          show _ = needOf W.lots (W.q S) (W.T S R) (W.cnt S R).st (b, h)
          rw [cst]
          exact needOf_congr (fun x hx => sums_at val good hx) hmem
        refine ⟨_, rfl, _, rfl, (by show 2 ≤ sizeLine; decide), fun t1 ht1 => ?_⟩
        have sA : Same H'' (upd H'' t1 (.tup [.str (wordOf b), .int (h : Int)])) := Same.new ht1
        have rt1 : rD K (upd H'' t1 (.tup [.str (wordOf b), .int (h : Int)])) (.ref t1) (b, h) := ⟨t1, rfl, sqt_new⟩
        obtain ⟨vsD, d1, d2, d3⟩ := id ac1
        have hlen := hfl i
        have hvl2 : ((((members (stAfter W.hands R)).take i).flatMap fun h => [kid W S R m h true, kid W S R m h false]) ++ [kid W S R m h true, kid W S R m h false].take j).length ≤ 10 := by
          rw [List.length_append, List.length_take]
          have : min j [kid W S R m h true, kid W S R m h false].length ≤ 2 := Nat.min_le_right _ _
          omega
        refine ⟨_, rfl, .inl ⟨rfl, _, SqL.of (sA _ _ d2)⟩, _, rfl, _, rfl, (by show 1 ≤ sizeLine; decide), fun t2 ht2 => ?_⟩
        have sB := sA.trans (Same.new ht2 (o := .tup [.ref t1]))
        obtain ⟨pd, xs, rfl, hpd, relx⟩ := rr
        have sHB := d1.trans sB
        have ac2 : Acc K rKid H D (upd (upd H'' t1 (.tup [.str (wordOf b), .int (h : Int)])) t2 (.tup [.ref t1])) ((((members (stAfter W.hands R)).take i).flatMap fun h => [kid W S R m h true, kid W S R m h false]) ++ [kid W S R m h true, kid W S R m h false].take j) :=
          ⟨vsD, sHB, sB _ _ d2, paired_mono (fun _ _ z => rKid_stays.k (Keep.of sB) z) d3⟩
        have ac2k : Keep H4 (upd (upd H'' t1 (.tup [.str (wordOf b), .int (h : Int)])) t2 (.tup [.ref t1])) := ac1k.trans (Keep.of sB)
        have eL2 := sB _ _ eL
        have lxs := paired_len relx
        have rt2 := rD_stays.k (Keep.new ht2 (o := .tup [.ref t1])) rt1
        refine ⟨pd, t2, xs, [.ref t1], rfl, rfl, sqt_keep (Keep.of sHB) hpd, sqt_new, ?_, fun h0 => ?_, fun h0 h1 => absurd h1 (List.cons_ne_nil _ _), fun h0 _ t4 ht4 => ?_⟩
        · rw [lxs]
          exact Nat.le_trans (by simp; omega) (show 1000 ≤ sizeLine by decide)
        · have hR0 : R = [] := by
            subst h0
            cases relx
            rfl
          have sA6 : Same (upd H'' t1 (.tup [.str (wordOf b), .int (h : Int)])) (upd (upd H'' t1 (.tup [.str (wordOf b), .int (h : Int)])) t2 (.tup [.ref t1])) := Same.new ht2
          have s6 := (Same.refl (upd (upd H'' t1 (.tup [.str (wordOf b), .int (h : Int)])) t2 (.tup [.ref t1])))
          have rrow := (show rRow K (upd (upd H'' t1 (.tup [.str (wordOf b), .int (h : Int)])) t2 (.tup [.ref t1])) (.ref t2) (R ++ [(b, h)]) from ⟨t2, [.ref t1], rfl, sqt_new, by rw [hR0]; exact .cons rt2 .nil⟩)
          have kk6 := (k24.trans ac2k).trans (Keep.of s6)
          have sH6 := ac2.same.trans s6
          refine ⟨_, rfl, _, rfl, _, rfl, _, rfl, _, rfl, _, rfl, p, uv, .ref t1, W, total S, stAfter W.hands R, sumsOf S W.hands (W.cnt S R), (b, h), rfl, wa.same sH6, rRats_stays.k kk6 ru, rD_stays.k (Keep.of sA6) rt1, by omega, ht, Nat.lt_of_lt_of_le hst (by decide), fun x hx => ⟨by rw [sums_len]; have := st_mem (W := W) x hx; omega, ok.mem.mpr (st_mem x hx)⟩, hmem, tame, fun H7 s7 => ?_⟩
          refine ⟨_, _, rfl, ?_⟩
          rw [max_if, eneed]
          refine ⟨(by show 2 ≤ sizeLine; decide), fun t3 ht3 => ?_⟩
          have s8 := (s6.trans s7).trans (Same.new ht3 (o := .tup [(.ref t2), .int (max m (W.need S R (b, h)))]))
          obtain ⟨vs, a1, a2, a3⟩ := Acc.push rKid_stays hD0 ac2 s8 (v := .ref t3) (a := kid W S R m h b) ⟨t3, _, _, rfl, sqt_new, rRow_stays.k (Keep.of (s7.trans (Same.new ht3))) rrow, rfl⟩
          refine ⟨D, vs, .ref t3, rfl, rfl, a1, small1000 (by rw [a2]; omega), some (.str (wordOf b)), some (.ref t1), rfl, ?_, ?_, ?_⟩
          · rw [etk]
            exact a3
          · exact ac2k.trans ((Keep.of s8).trans (Keep.lst a1))
          · rw [upd_ne nLD]
            exact s8 _ _ eL2
        · have sA6 : Same (upd H'' t1 (.tup [.str (wordOf b), .int (h : Int)])) (upd (upd (upd H'' t1 (.tup [.str (wordOf b), .int (h : Int)])) t2 (.tup [.ref t1])) t4 (.tup (xs ++ [.ref t1]))) := (Same.new ht2).trans (Same.new ht4)
          have s6 := (Same.new ht4 (o := .tup (xs ++ [.ref t1])))
          have rrow := (show rRow K (upd (upd (upd H'' t1 (.tup [.str (wordOf b), .int (h : Int)])) t2 (.tup [.ref t1])) t4 (.tup (xs ++ [.ref t1]))) (.ref t4) (R ++ [(b, h)]) from ⟨t4, xs ++ [.ref t1], rfl, sqt_new, paired_snoc (paired_mono (fun _ _ z => rD_stays.k (Keep.of (sHB.trans (Same.new ht4))) z) relx) (rD_stays.k (Keep.new ht4) rt2)⟩)
          have kk6 := (k24.trans ac2k).trans (Keep.of s6)
          have sH6 := ac2.same.trans s6
          refine ⟨_, rfl, _, rfl, _, rfl, _, rfl, _, rfl, _, rfl, p, uv, .ref t1, W, total S, stAfter W.hands R, sumsOf S W.hands (W.cnt S R), (b, h), rfl, wa.same sH6, rRats_stays.k kk6 ru, rD_stays.k (Keep.of sA6) rt1, by omega, ht, Nat.lt_of_lt_of_le hst (by decide), fun x hx => ⟨by rw [sums_len]; have := st_mem (W := W) x hx; omega, ok.mem.mpr (st_mem x hx)⟩, hmem, tame, fun H7 s7 => ?_⟩
          refine ⟨_, _, rfl, ?_⟩
          rw [max_if, eneed]
          refine ⟨(by show 2 ≤ sizeLine; decide), fun t3 ht3 => ?_⟩
          have s8 := (s6.trans s7).trans (Same.new ht3 (o := .tup [(.ref t4), .int (max m (W.need S R (b, h)))]))
          obtain ⟨vs, a1, a2, a3⟩ := Acc.push rKid_stays hD0 ac2 s8 (v := .ref t3) (a := kid W S R m h b) ⟨t3, _, _, rfl, sqt_new, rRow_stays.k (Keep.of (s7.trans (Same.new ht3))) rrow, rfl⟩
          refine ⟨D, vs, .ref t3, rfl, rfl, a1, small1000 (by rw [a2]; omega), some (.str (wordOf b)), some (.ref t1), rfl, ?_, ?_, ?_⟩
          · rw [etk]
            exact a3
          · exact ac2k.trans ((Keep.of s8).trans (Keep.lst a1))
          · rw [upd_ne nLD]
            exact s8 _ _ eL2
      · rintro σ H'' ⟨b0, c0, rfl, ac1, ac1k, eL⟩
        refine ⟨_, _, _, rfl, ?_, ac1k⟩
        rw [take_snoc hh, List.flatMap_append]
        exact ac1
    · rintro σ H' ⟨a, b, c, rfl, ac, kp⟩
      rw [List.length_map, List.take_length] at ac
      obtain ⟨vs, e5, h5⟩ := ac.freeze rKid_stays hD0
      exact ⟨_, rfl, D, vs, rfl, e5, fun o => k _ _ (h5 o).1 (h5 o).2⟩
theorem pc_longer_ones {K : PySem.W.Frag} {mg : Str → Option Value} (T : Tx K mg) {X : Cx} (hr : Room 6 X.A) (hg : Gl X "longer_ones") {p pos : Pos} {e : Expr} {es : List Expr} {t : TA} (ha : PA X (e :: es) t) (hK : X.K = K := by rfl) (hM : X.mg = mg := by rfl) (he : starEach (e :: es) X.env = (false, eval e X.env) :: starEach es X.env := by rfl) (hpl : (backTo pos (starEach es X.env)).any (·.1) = false := by rfl) : PE X (.Call (.Name "longer_ones" p) (e :: es) [] pos) (tCall (sp_longer_ones K) [] E0 t) := by
  subst hK hM
  obtain ⟨fd, F⟩ := T.says.def_ 31 (d := d_longer_ones) rfl
  exact pe_call (ok_longer_ones T F) hr hg (T.glo 31 rfl) F.kp (F.bindsN fun _ _ _ _ _ _ us hl => match us, hl with | [_, _, _, _, _], _ => rfl) .nil pass0 ha (by decide) he hpl
end
end K75
-- K17
/-! cases: tree_of. -/
namespace K75
open PySem PySem.Spec PyProof.Rows L2
section
variable {P : Program} {w : World} {K : PySem.W.Frag} {mg : Str → Option Value} {base : Heap}
def sp_tree_of (K : PySem.W.Frag) (P : Program) (w : World) : Sp := fun vs H Q _ => ∃ (p d : Addr) (o : Obj) (ov : V) (W : Hall) (es : Ents) (ol : List Int) (low : Int), vs = [.ref p, .ref d, ov, .int low] ∧ WayAt K H p W ∧ W.hands ≤ 4 ∧
  H d = some (.frz o (DN P w d es)) ∧ NKeys K H es ∧ es.length ≤ 900 ∧ rLst rInt K H ov ol ∧ (∀ e ∈ es, (∃ m : Int, e.2.2 = .int m) ∧ e.1.length ≤ 60 ∧ (∀ x ∈ e.1, x.2 < W.hands) ∧ (∀ R' x, e.1 = R' ++ [x] → ∃ m : Int, getN es R' = some (.int m))) ∧
  ∀ H' l, Same H H' → Q (.ref l) H'
abbrev N_tree_of : List Str := ["way", "needs", "outcome", "low", "paper", "deeds", "many"]
theorem sc_tree_of : FnScope N_tree_of ["way", "needs", "outcome", "low"] (defScope s_tree_of) := ⟨rfl, rfl, rfl, by decide +kernel, rfl, by decide +kernel, by decide +kernel⟩
theorem ok_tree_of (T : Tx K mg) {fd : FuncData} (F : FnD K d_tree_of fd) : FnOk P w K mg base CX0 6 (He.fAd K d_tree_of.at_) fd ["way", "needs", "outcome", "low"] (sp_tree_of K P w) := by
  have nd := sc_tree_of.nd
  refine okx F sc_tree_of (fun vs H Q E h => ?_) (fun cdv A outer s H vs Q E hr h => ?_)
  · obtain ⟨p, d, o, ov, W, es, ol, low, rfl, _⟩ := h
    rfl
  · obtain ⟨p, d, o, ov, W, es, ol, low, rfl, wa, h4, hd, hk, hl, ro, he, k⟩ := h
    refine ⟨_, (pss_cons (ps_set (i := 4) nd rfl (Or.inl rfl) (pe_lst pa_nil))
      (pss_cons (ps_for PassesOwn.never rfl (pi_itemsN (pv 1)) (pg_tup rfl (pgs_cons (pg_name (i := 5) nd rfl (Or.inl rfl)) (pgs_cons (pg_name (i := 6) nd rfl (Or.inl rfl)) pgs_nil))) (pss_one (ps_if (PW.pt (pw_or (pt_cmpR (op_eqD hr.units) (pv 5) (pe_tup pa_nil) (nomark _)) (pw_or1 (pt_cmpR op_lt (pe_nget hr.units (pv 1) (pe_slice sl_tupA (pv 5) po_none (po_some (pe_un un_neg pe_int))) (fun _ _ => rfl)) (pv 3) (nomark _))))) (pss_one (ps_expr (pe_bm PySem.F.plainAttrs_list PySem.F.slot_list_append PySem.F.type_list_append mt_append (pv 4) (pa_cons (pe_tup (pa_cons (pv 5) (pa_cons (pv 6) (pa_cons (pc_word_of T (hr.mono (by decide)) (by rfl) (pa_cons (pv 0) (pa_cons (pv 5) (pa_cons (pv 6) (pa_cons (pv 2) (pa_cons (pv 3) pa_nil)))))) pa_nil)))) pa_nil)))) pss_nil)))
      (pss_one (ps_ret (pv 4))))), ?_⟩
    refine ⟨(by show 0 ≤ sizeLine; decide), fun D hD => ?_⟩
    have sD : Same H (upd H D (.lst [])) := Same.new hD
    refine ⟨_, rfl, d, o, es, rfl, sD _ _ hd, ?_⟩
    refine for_itemsN (xs := es) (d := d) (o := o) (fun i σ H' => ∃ a c, σ = [some (.ref p), some (.ref d), some ov, some (.int low), some (.ref D), a, c] ∧ Same H H' ∧ ∃ vs, H' D = some (.lst vs) ∧ vs.length ≤ i)
      ⟨none, none, rfl, sD, [], upd_same, Nat.le_refl _⟩ ?_ ?_ ?_
    · rintro i σ H' _ ⟨a, c, rfl, s1, _⟩
      exact s1 _ _ hd
    · rintro i R b v σ H' t hx ⟨a, c, rfl, s1, vs, eD, hvl⟩ ht
      have hmem := List.mem_of_getElem? hx
      obtain ⟨⟨m, rfl⟩, hlR, hlt, hpar⟩ := he _ hmem
      have hi : i < es.length := (List.getElem?_eq_some_iff.mp hx).1
      have rr := hk _ hmem
      have s2 : Same H (upd H' t (.tup [.ref b, .int m])) := s1.trans (Same.new ht)
      refine ⟨t, _, rfl, sqt_new, rfl, _, _, rfl, _, _, rfl, rfl, ?_⟩
      refine ⟨_, rfl, (by show 0 ≤ sizeLine; decide), fun z hz => ?_⟩
      have s3 := s2.trans (Same.new hz (o := .tup []))
      have eD3 := Same.new hz (o := .tup []) _ _ (Same.new ht (o := .tup [.ref b, .int m]) _ _ eD)
      refine ⟨dRow R, dRow [], row_dp (rRow_stays.k (Keep.of s3) rr), row_dp row_empty, dRow_shaped _, dRow_shaped _, ?_⟩
      rw [dRow_nil]
      rcases List.eq_nil_or_concat R with rfl | ⟨R', d', rfl⟩
      · refine ⟨_, rfl, iteT ?_⟩
        refine ⟨_, rfl, .inl ⟨rfl, _, SqL.of (eD3)⟩, _, rfl, _, rfl, _, rfl, _, rfl, _, rfl, _, rfl, _, rfl, p, .ref b, ov, W, _, ol, m, low, rfl, wa.same (s3), h4, rRow_stays.k (Keep.of (s3)) rr, hlR, hlt, rLst_stays rInt_stays |>.k (Keep.of (s3)) ro, fun H8 zw s8 => ?_⟩
        refine ⟨(by show 3 ≤ sizeLine; decide), fun t3 ht3 => ?_⟩
        have s9 : Same H (upd H8 t3 (.tup [.ref b, .int m, .str zw])) := ((s3).trans s8).trans (Same.new ht3)
        refine ⟨D, vs, .ref t3, rfl, rfl, Same.new ht3 _ _ (s8 _ _ (eD3)), small1000 (by omega), _, _, rfl, Same.at s9 hD, _, upd_same, ?_⟩
        rw [List.length_append]
        simp
        omega
      · rw [List.concat_eq_append] at *
        rw [show (R' ++ [d']).isEmpty = false by simp]
        refine ⟨_, rfl, iteF ?_⟩
        obtain ⟨m', hm'⟩ := hpar R' d' rfl
        obtain ⟨pd, xs, x, e0, hpd, relx, t', e1, hx'⟩ := row_snoc rr
        injection e0 with e0
        subst e0
        refine ⟨_, rfl, _, rfl, _, rfl, _, rfl, b, _, rfl, sqt_keep (Keep.of s3) hpd, fun hw => absurd hw cut_last.2, fun _ q hq => ?_⟩
        rw [cut_last.1]
        have s4 := s3.trans (Same.new hq (o := .tup xs))
        have eD4 := Same.new hq (o := .tup xs) _ _ eD3
        refine ⟨d, q, es, R', .int m', rfl, rfl, .inr ⟨o, s4 _ _ hd⟩, hk.keep (Keep.of s4), ⟨q, xs, rfl, sqt_new, paired_mono (fun _ _ y => rD_stays.k (Keep.of s4) y) relx⟩, hm', ?_⟩
        refine ⟨_, rfl, _, _, rfl, rfl, _, rfl, ite2 (fun c => ?_) (fun c => ?_)⟩
        · refine ⟨_, rfl, .inl ⟨rfl, _, SqL.of (eD4)⟩, _, rfl, _, rfl, _, rfl, _, rfl, _, rfl, _, rfl, _, rfl, p, .ref b, ov, W, _, ol, m, low, rfl, wa.same (s4), h4, rRow_stays.k (Keep.of (s4)) rr, hlR, hlt, rLst_stays rInt_stays |>.k (Keep.of (s4)) ro, fun H8 zw s8 => ?_⟩
          refine ⟨(by show 3 ≤ sizeLine; decide), fun t3 ht3 => ?_⟩
          have s9 : Same H (upd H8 t3 (.tup [.ref b, .int m, .str zw])) := ((s4).trans s8).trans (Same.new ht3)
          refine ⟨D, vs, .ref t3, rfl, rfl, Same.new ht3 _ _ (s8 _ _ (eD4)), small1000 (by omega), _, _, rfl, Same.at s9 hD, _, upd_same, ?_⟩
          rw [List.length_append]
          simp
          omega
        · exact ⟨_, _, rfl, s4, vs, eD4, by omega⟩
    · rintro σ H' ⟨a, c, rfl, s1, _⟩
      exact ⟨_, rfl, k _ _ s1⟩
theorem pc_tree_of {K : PySem.W.Frag} {mg : Str → Option Value} (T : Tx K mg) {X : Cx} (hr : Room 6 X.A) (hg : Gl X "tree_of") {p pos : Pos} {e : Expr} {es : List Expr} {t : TA} (ha : PA X (e :: es) t) (hK : X.K = K := by rfl) (hM : X.mg = mg := by rfl) (he : starEach (e :: es) X.env = (false, eval e X.env) :: starEach es X.env := by rfl) (hpl : (backTo pos (starEach es X.env)).any (·.1) = false := by rfl) : PE X (.Call (.Name "tree_of" p) (e :: es) [] pos) (tCall (sp_tree_of K X.prog X.w) [] E0 t) := by
  subst hK hM
  obtain ⟨fd, F⟩ := T.says.def_ 33 (d := d_tree_of) rfl
  exact pe_call (ok_tree_of T F) hr hg (T.glo 33 rfl) F.kp (F.bindsN fun _ _ _ _ _ _ us hl => match us, hl with | [_, _, _, _], _ => rfl) .nil pass0 ha (by decide) he hpl
end
end K75
-- KSort
/-! sorted(rows, key=lambda row: (d[row], -len(row))). -/
namespace K75
open PySem PySem.Spec PyProof.Rows L2 LamX
section
variable {P : Program} {w : World} {A : Around} {E : Value → Shared → Prop} {s : Shared} {env : Env}
/-- the lambda's body: two names, one cell -/
theorem key_eval {d b cN : Addr} {mm mg mb : Str → Option Value} {k : NestedKey} {ys : List (NestedKey × Addr × Value)} {q : Addr} {i : Int} {t0 : Tok} {its : Array Value} {p1 p2 p3 p4 p5 p6 p7 p9 : Pos} {c8 : Nat}
    (hk : env.scope.kind = .function) (hrow : env.kindOf "row" = some .local) (hneeds : env.kindOf "needs" = some .free) (hlen : env.kindOf "len" = some .globalImplicit)
    (hc : env.cells.lookup ("needs" : Str) = some cN) (hcell : s.heap.IsCell cN (some (.ref d))) (hns : s.heap.Ns env.locals mm) (hmm : mm "row" = some (.ref b))
    (hg : s.heap.Ns env.globals mg) (hmiss : mg "len" = none) (hb : s.heap.Ns env.builtins mb) (hv : mb "len" = some (.builtin "len"))
    (hu : A.units + 64 < cLine) (hkey : (nestedKind P w).is s.heap k b) (hd : s.heap.DictOfH (nestedKind P w) d ys) (hp : atKey ys k = some (q, .int i t0)) (ht : IsTup s.heap b its) (hsz : (its.size : Int) < 2 ^ 63) :
    wpAny (model P w) A (eval (.Tuple [.Subscript (.Name "needs" p1) (.Name "row" p2) p3, .UnaryOp .USub (.Call (.Name "len" p4) [.Name "row" p5] [] p6) p7] c8 p9) env) (PySem.W.KeyPure (.tuple [.int i, .int (-(its.size : Int))]) s) E s := by
  refine wpAny_Tuple_spliced ?_
  show wpAny _ _ (spliced ((false, eval (.Subscript (.Name "needs" p1) (.Name "row" p2) p3) env) :: (false, eval (.UnaryOp .USub (.Call (.Name "len" p4) [.Name "row" p5] [] p6) p7) env) :: [])) _ _ s
  refine Calls.spliced_cons ?_
  refine subD_of PySem.F.slot_dict_getitem.lookup (fun _ _ => rfl) ?_
  refine wpAny_Name (wpAny_loadName_free hk hneeds hc hcell ?_ (by decide)) (by decide)
  refine wpAny_Name (wpAny_loadName_local hk hrow hns hmm ?_) (by decide)
  refine ⟨hd.typeIs, wpAny_getItem_heap (by show A.units + 1 + 8 < cLine; omega) hkey hd hp ?_⟩
  refine Calls.spliced_cons ?_
  refine UnaryOp_ ?_
  refine wpAny_Call_Name_kw (Calls.Name_function_global hk hlen (Calls.loadGlobal_builtin hg hmiss hb hv ?_) (by decide))
  refine callWith_builtin1 ?_ (by rfl) (by rfl)
  show wpAny _ _ (spliced ((false, eval (.Name "row" p5) env) :: [])) _ _ _
  refine Calls.spliced_cons (wpAny_Name (wpAny_loadName_local hk hrow hns hmm ?_) (by decide))
  refine Calls.spliced_nil ?_
  refine len_tuple (t := b) ht hsz ?_
  refine neg_int ?_
  refine Calls.spliced_nil ⟨by show 2 ≤ sizeLine; decide, ?_⟩
  refine ⟨_, _, rfl, fun c o e => Heap.get?_push_of_some _ e, ?_⟩
  exact .tuple (Heap.get?_push_size _ rfl) rfl rfl (.cons (.int _ _) (.cons (.int _ _) .nil))
end
/-- a lambda of one parameter, one captured name, one global -/
def keyScB (sc scope : Scope) : Bool :=
  decide (scope.kind = .function) && !scope.isCoroutine && !scope.isGenerator && (scope.names.all fun y => !decide (y.2 = .cell) && (!decide (y.2 = .free) || decide (sc.names.lookup y.1 = some .cell) || decide (sc.names.lookup y.1 = some .free))) &&
  decide (scope.names.lookup ("row" : Str) = some .local) && decide (scope.names.lookup ("needs" : Str) = some .free) && decide (scope.names.lookup ("len" : Str) = some .globalImplicit)
structure KeySc (sc scope : Scope) : Prop where
  kind : scope.kind = .function
  co : scope.isCoroutine = false
  gen : scope.isGenerator = false
  nocell : ∀ y ∈ scope.names, y.2 ≠ .cell
  free : ∀ y ∈ scope.names, y.2 = .free → sc.names.lookup y.1 = some .cell ∨ sc.names.lookup y.1 = some .free
  row : scope.names.lookup ("row" : Str) = some .local
  needs : scope.names.lookup ("needs" : Str) = some .free
  len : scope.names.lookup ("len" : Str) = some .globalImplicit
theorem keySc_by {sc scope : Scope} (h : keyScB sc scope = true) : KeySc sc scope := by
  unfold keyScB at h
  simp only [Bool.and_eq_true, Bool.or_eq_true, Bool.not_eq_true', decide_eq_true_eq, decide_eq_false_iff_not, List.all_eq_true] at h
  obtain ⟨⟨⟨⟨⟨⟨h1, h2⟩, h3⟩, h4⟩, h5⟩, h6⟩, h7⟩ := h
  refine ⟨h1, h2, h3, fun y hy => (h4 y hy).1, fun y hy e => ?_, h5, h6, h7⟩
  rcases (h4 y hy).2 with (z | z) | z
  · exact absurd e z
  · exact .inl z
  · exact .inr z
theorem each_zip {xs : List V} {its : List Value} (r : Vals xs its) : ∀ {Rs : List Row}, xs.length = Rs.length → PySem.W.EachIs (fun (v : Value) (p : V × Row) => RelV p.1 v) its (xs.zip Rs) := by
  induction r with
  | nil =>
    intro Rs h
    exact .nil
  | cons h t ih =>
    intro Rs hl
    cases Rs with
    | nil => cases hl
    | cons a b => exact .cons h (ih (by simpa using hl))
theorem vals_each {out : List Value} {bs : List (V × Row)} (e : PySem.W.EachIs (fun (v : Value) (p : V × Row) => RelV p.1 v) out bs) : Vals (bs.map Prod.fst) out := by
  induction e with
  | nil => exact .nil
  | cons h t ih => exact .cons h ih
theorem paired_mem {α β : Type} {F : α → β → Prop} : ∀ {l : List α} {m : List β}, Paired F l m → ∀ p ∈ l.zip m, F p.1 p.2
  | _, _, .nil, p, h => nomatch h
  | _, _, .cons r t, p, h => by
    rcases List.mem_cons.mp h with rfl | h
    · exact r
    · exact paired_mem t p h
theorem paired_of {α β : Type} {F : α → β → Prop} : ∀ {bs : List (α × β)}, (∀ p ∈ bs, F p.1 p.2) → Paired F (bs.map Prod.fst) (bs.map Prod.snd)
  | [], _ => .nil
  | p :: r, h => .cons (h p List.mem_cons_self) (paired_of fun q hq => h q (List.mem_cons_of_mem _ hq))
def FreeN (H : Hp) (l : Addr) : Prop := ∀ o, H l = some o → ∃ ps, o = .tbl ps
theorem FreeN.of {H H' : Hp} {l : Addr} (e : ExtN H H') (h : H' l = none) : FreeN H l := fun o ho => by
  cases o with
  | tbl ps => exact ⟨ps, rfl⟩
  | _ => rw [e l _ ho (fun ps z => nomatch z)] at h; cases h
theorem FreeN.back {H H' : Hp} {l : Addr} (e : ExtN H H') (h : FreeN H' l) : FreeN H l := fun o ho => by
  cases o with
  | tbl ps => exact ⟨ps, rfl⟩
  | _ => exact h _ (e l _ ho (fun ps z => nomatch z))
def tSortN (K : PySem.W.Frag) (P : Program) (w : World) (T : List (Addr × Str)) (iN : Nat) (te : TE) : TE := fun σ H Q => te σ H fun x H1 => ∃ (a : Addr) (xs : List V) (Rs : List Row) (d : Addr) (es : Ents) (m : Row → Int), x = .ref a ∧ H1 a = some (.lst xs) ∧ Paired (rRow K H1) xs Rs ∧ xs.length ≤ 1000 ∧
  σ[iN]? = some (some (.ref d)) ∧ H1 d = some (DN P w d es) ∧ NKeys K H1 es ∧ Tabs T H1 ∧ (∀ R ∈ Rs, getN es R = some (.int (m R))) ∧
  ∀ H2 p ys Rs', ExtN H1 H2 → Keep H1 H2 → Tabs T H2 → FreeN H1 p → H2 p = some (.lst ys) → Paired (rRow K H2) ys Rs' → Rs'.Perm Rs → Rs'.Pairwise (fun R R' => m R ≤ m R') → Q (.ref p) H2
section
variable {X : Cx} {te : TE} {e : Expr} {p1 p2 p3 p4 p5 p6 p7 p9 p kpos lpos pos : Pos} {c8 : Nat}
theorem pe_sortN {T : List (Addr × Str)} {c Pt : Addr} {iN : Nat} {params : Arguments} {scope : Scope} (hr : Room 4 X.A) (hg : Gl X "sorted") (hm : X.mg "sorted" = none) (hml : X.mg "len" = none)
    (TB : TabB X.base X.mg c Pt) (hcode : X.env.code = .ref c) (hmT : (Pt, X.env.qual ++ "<lambda>") ∈ T) (hu : ∀ p ∈ T, p.1 = Pt → p.2 = X.env.qual ++ "<lambda>") (L : KeySc X.env.scope scope) (hdef : defaultsOf params X.env = ([], []))
    (hbind : ∀ (body : Expr) (q : Str) (cl : List (Str × Addr)) (pm cv ctv v : Value), bindArgs (PySem.W.kla_fn "<lambda>" q params body scope cl pm cv ctv) ⟨[v], []⟩ = pure [(("row" : Str), v)])
    (hN : X.N[iN]? = some "needs") (hcel : X.env.scope.names.lookup ("needs" : Str) = some .cell) (he : PE X e te)
    (hst : starEach [e] X.env = [(false, eval e X.env)] := by rfl) :
    PE X (.Call (.Name "sorted" p) [e] [⟨some "key", .Lambda params (.Tuple [.Subscript (.Name "needs" p1) (.Name "row" p2) p3, .UnaryOp .USub (.Call (.Name "len" p4) [.Name "row" p5] [] p6) p7] c8 p9) scope lpos, kpos⟩] pos) (tSortN X.K X.prog X.w T iN te) := by
  refine ⟨fun pins s σ H Q I h => ?_⟩
  refine wpAny_Call_Name_kw (ld_blt I hg hm (u := .builtin "sorted") (by decide +kernel) ?_ (by decide) (by decide))
  refine PyProof.Rows.callWith_kw ?_ (by rw [hst]; rfl) (by rw [hst]; rfl) (by rfl) (by rfl)
  rw [hst]
  show wpAny _ _ (spliced ((false, eval e X.env) :: [])) _ _ _
  refine Calls.spliced_cons (thn (he.run pins s σ H _ I h) fun u s1 ⟨x, H1, I1, rx, a, xs, Rs, d, es, m, ex, ha, rel, hlen, hσ, hd, hk, hT, hms, hq⟩ => Calls.spliced_nil ?_)
  subst ex
  obtain rfl : u = Value.ref a := rx
  have hfree : ∀ y ∈ scope.names, y.2 = .free → ∃ c, X.env.cells.lookup y.1 = some c := fun y hy e => by
    rcases L.free y hy e with k | k
    · exact I1.ok.has _ (.inl k)
    · exact I1.ok.has _ (.inr k)
  show wpAny _ _ (evalAll [(do let v ← eval (.Lambda params _ scope lpos) X.env; standAt pos; pure v)]) _ _ _
  refine wpAny_evalAll_cons (wpAny_bind (lam_make2 I1 TB hcode hmT hu hT hdef hfree fun f c' pm ctv H2 s2 I2 eN T2 hf hfn hfr hco => wpAny_bind (wpAny_standAt (wpAny_pure (wpAny_evalAll_nil ?_)))))
  show wpAny _ _ (call (.builtin "sorted") [.ref a] [(Str.ofString "key", .ref f)]) _ _ _
  have kp12 : Keep H1 H2 := ⟨fun b xs e => eN b _ e (fun ps z => nomatch z), fun b o u e => eN b _ e (fun ps z => nomatch z)⟩
  have ha2 := eN a _ ha (fun ps z => nomatch z)
  have hd2 := eN d _ hd (fun ps z => nomatch (show HO.ext _ = HO.tbl ps from z))
  have rel2 : Paired (rRow X.K H2) xs Rs := paired_mono (fun _ _ z => rRow_stays.k kp12 z) rel
  have hk2 : NKeys X.K H2 es := hk.keep kp12
  obtain ⟨its, rits, pl, hz⟩ := I2.list (SqL.of ha2)
  have lRs := paired_len rel
  obtain ⟨zes, hds, yes, rey, dd⟩ := dn_dict I2 (.inl hd2) hk2
  -- the captured cell
  obtain ⟨cN, hcX, hcell⟩ : ∃ c, X.env.cells.lookup ("needs" : Str) = some c ∧ s2.heap.IsCell c (some (.ref d)) := by
    obtain ⟨mloc, hn, hl⟩ := I2.loc
    obtain ⟨u, r, lk⟩ := hl iN "needs" (.ref d) hN hσ (.inr (.inl hcel))
    obtain rfl : u = Value.ref d := r
    rcases lk with ⟨k1, _⟩ | ⟨_, c, e1, e2⟩
    · have k1 : X.env.scope.names.lookup ("needs" : Str) = some .local := k1
      rw [hcel] at k1
      cases k1
    · exact ⟨c, e1, e2⟩
  have hcl : (cloFrom X.env.cells scope.names []).lookup ("needs" : Str) = some cN := by
    have hy : ((("needs" : Str)), NameKind.free) ∈ scope.names := PySem.mem_of_lookup L.needs
    obtain ⟨c2, h2⟩ := mem_lookup (cloFrom_has (cells := X.env.cells) (acc := []) hy)
    rw [h2]
    rcases cloFrom_mem (PySem.mem_of_lookup h2) with hm | ⟨h1, h3⟩
    · cases hm
    · rw [h3, hcX]; rfl
  obtain ⟨⟨oc, cvs, ct, hoc, hdc, hvc⟩, _, _⟩ := I2.hok c' _ hco
  obtain ⟨mb, hb1, hb2⟩ := I2.mod.blt
  have bs_mem : ∀ q ∈ xs.zip Rs, rRow X.K H2 q.1 q.2 := paired_mem rel2
  refine PySem.W.sorted_key_data (b := false) (R := fun (v : Value) (q : V × Row) => RelV q.1 v) (bs := xs.zip Rs) (fun q : V × Row => .tuple [.int (m q.2), .int (-(q.2.length : Int))]) pl.isList (each_zip rits lRs) (PySem.W.AllAlike.of fun _ _ => by simp [PySem.W.alike, PySem.W.alikeAll]) (PySem.W.Sortable.tuples fun _ => ⟨_, _, rfl⟩)
    (by rw [List.length_zip, lRs, Nat.min_self, ← lRs]; exact hz) (fun q _ => ?_) (ksk_s1 _ _) (fun _ => ksk_l1 _ _) (fun _ => ksk_t1 _ _) (fun v q hR hq' h tk kp => ?_) (fun out cc h' tk kp fresh hD hlo eo => ?_)
  · have hd : (PyData.tuple [.int (m q.2), .int (-(q.2.length : Int))]).depth = 1 := by simp [PyData.depth, PyData.depthAll]
    have := hr.un
    omega
  · obtain ⟨vx, R⟩ := q
    have rr : rRow X.K H2 vx R := bs_mem _ hq'
    have hRmem : R ∈ Rs := (List.of_mem_zip hq').2
    obtain ⟨b, ys0, rfl, hb0, relb⟩ := id rr
    obtain rfl : v = Value.ref b := hR
    obtain ⟨jts, rj, tpj, hjz⟩ := I2.tuple hb0
    have hjl : jts.toArray.size = R.length := by
      rw [List.size_toArray, ← rj.length, paired_len relb]
    obtain ⟨w', hw, rw'⟩ := RelO.some_of (v := .int (m R)) (o := (atKey yes (nk R)).map (·.2)) (by rw [← hms R hRmem]; exact ent_val rey R)
    obtain ⟨pq, hpq, hp2⟩ := Option.map_eq_some_iff.mp hw
    obtain ⟨t0, rfl⟩ := rw'
    obtain ⟨pq1, pq2⟩ := pq
    cases hp2
    have stays : ∀ b o vs n, s2.heap.get? b = some o → o.data = .seq vs n → h.get? b = some o := fun b o vs n e _ => kp b o e
    have key1 := nestedKind_stays.stays stays (row_key I2 rr)
    have dict1 : h.DictOfH (nestedKind X.prog X.w) d yes := by
      obtain ⟨o, es', ep, g1, g2, g3, g4, g5, g6⟩ := dd
      exact ⟨o, es', ep, kp _ _ g1, g2, g3, g4, fun y hy => nestedKind_stays.stays stays (g5 y hy), g6⟩
    have e1 : (PyData.int (-((jts.toArray.size : Nat) : Int))) = .int (-(R.length : Int)) := by rw [hjl]
    refine wpAny_call ?_
    refine PySem.W.kla_callFunE ?_ (kp _ _ hf) rfl L.co L.gen rfl ⟨c', oc, cvs, ct, rfl, kp _ _ hoc, hdc, hvc⟩ ?_
    · have := hr.dp
      show X.A.in1.in1.depth < recursionLimit
      have e : X.A.in1.in1.depth = X.A.depth := rfl
      omega
    rw [hbind]
    refine wpAny_pure (wpAny_newFunctionEnv (fun y hy => L.nocell y hy) (fun y hy => ?_) (fun h₁ hns hsb => ⟨(I2.nolimit.keeps kp).fresh _ hsb, ?_⟩) L.kind)
    · rw [List.mem_singleton.mp hy]
      exact L.row
    show codeAny _ _ (.expr _ (lamEnv X scope h.objs.size f c')) _ _
    have kp1 : ∀ b o, h.get? b = some o → h₁.get? b = some o := fun b o e => hsb.extBut b o (Nat.ne_of_lt (Heap.lt_size e)) (Heap.get?_push_of_some _ e)
    have kp2 : ∀ b o, s2.heap.get? b = some o → h₁.get? b = some o := fun b o e => kp1 b o (kp b o e)
    have stays1 : ∀ b o vs n, h.get? b = some o → o.data = .seq vs n → h₁.get? b = some o := fun b o vs n e _ => kp1 b o e
    have dict2 : h₁.DictOfH (nestedKind X.prog X.w) d yes := by
      obtain ⟨o, es', ep, g1, g2, g3, g4, g5, g6⟩ := dict1
      exact ⟨o, es', ep, kp1 _ _ g1, g2, g3, g4, fun y hy => nestedKind_stays.stays stays1 (g5 y hy), g6⟩
    obtain ⟨ot, hot, hct, ht⟩ := tpj
    obtain ⟨ocell, hoce, hdce⟩ := hcell
    refine PySem.W.kla_codeExpr (wpAny_mono (key_eval (P := X.prog) (w := X.w) (A := X.A.in1.in1.deeper (lamEnv X scope h.objs.size f c')) (E := fun _ _ => False) (env := lamEnv X scope h.objs.size f c') (d := d) (b := b) (cN := cN) (mg := X.mg) (mb := mb) (k := nk R) (ys := yes) (q := pq1) (i := m R) (t0 := t0) (its := jts.toArray)
      L.kind L.row L.needs L.len hcl ⟨ocell, kp2 _ _ hoce, hdce⟩ hns (by rfl) ((I2.mod.glob.keeps I2.bk).keeps kp2) hml ((hb1.keeps I2.bk).keeps kp2) ((hb2 "len" (by decide)).trans (by decide +kernel)) ?_ (nestedKind_stays.stays stays1 key1) dict2 hpq ⟨ot, kp2 _ _ hot, hct, ht⟩ ?_) (fun v s' hq2 => ?_) (fun _ _ z => z.elim))
    · have := hr.un
      show X.A.units + 1 + 1 + 3 + 64 < cLine
      omega
    · rw [hjl]
      have : R.length ≤ sizeLine := by rw [← paired_len relb]; exact hjz
      rw [sizeLine_eq] at this
      omega
    · obtain ⟨h3, tk3, e3, k3, rd⟩ := hq2
      rw [e1] at rd
      exact ⟨h3, tk3, e3, fun b o e => k3 b o (kp1 b o e), rd⟩
  · rw [PySem.W.dataLe_ii (β := V × Row) (fun q => m q.2) (fun q => -(q.2.length : Int))] at eo
    have perm := List.mergeSort_perm (xs.zip Rs) (fun p q : V × Row => decide (m p.2 < m q.2 ∨ (m p.2 = m q.2 ∧ -(p.2.length : Int) ≤ -(q.2.length : Int))))
    have srt := List.pairwise_mergeSort (le := fun p q : V × Row => decide (m p.2 < m q.2 ∨ (m p.2 = m q.2 ∧ -(p.2.length : Int) ≤ -(q.2.length : Int)))) (fun a b c h1 h2 => by simp only [decide_eq_true_eq] at *; omega) (fun a b => by simp only [Bool.or_eq_true, decide_eq_true_eq]; omega) (xs.zip Rs)
    generalize (xs.zip Rs).mergeSort (fun p q : V × Row => decide (m p.2 < m q.2 ∨ (m p.2 = m q.2 ∧ -(p.2.length : Int) ≤ -(q.2.length : Int)))) = bs' at eo perm srt
    have hl' : (bs'.map Prod.fst).length ≤ sizeLine := by
      rw [List.length_map, perm.length_eq, List.length_zip, lRs, Nat.min_self, ← lRs]
      exact hz
    have new : ObjOk X.prog X.w (upd H2 (s2.heap.objs.size + 1) (.lst (bs'.map Prod.fst))) h' (s2.heap.objs.size + 1) (.lst (bs'.map Prod.fst)) := ⟨hl', out, cc, vals_each eo, hD⟩
    have I3 := I2.laid (a := s2.heap.objs.size + 1) (t' := tk) kp (Nat.le_succ _) new
    have hnone : H2 (s2.heap.objs.size + 1) = none := I2.hok.fresh (Nat.le_succ _)
    have s23 : Same H2 (upd H2 (s2.heap.objs.size + 1) (.lst (bs'.map Prod.fst))) := Same.new hnone
    refine ⟨.ref (s2.heap.objs.size + 1), _, I3, rfl, hq _ _ (bs'.map Prod.fst) (bs'.map Prod.snd) (eN.trans (ExtN.of s23)) (kp12.trans (Keep.of s23)) (T2.ext s23) (FreeN.of eN hnone) upd_same ?_ ?_ ?_⟩
    · refine paired_of fun q hq => ?_
      exact rRow_stays.k (Keep.of s23) (bs_mem q (perm.mem_iff.mp hq))
    · have := perm.map Prod.snd
      rwa [List.map_snd_zip (by omega)] at this
    · rw [List.pairwise_map]
      refine List.Pairwise.imp (fun {p q} h => ?_) srt
      simp only [decide_eq_true_eq] at h
      omega
end
end K75
set_option maxHeartbeats 2000000
-- KSearch
/-! The search for the least need of another end; no program in sight. -/
namespace K75
theorem needRow_prefix (W : Hall) (S : Sheet) (Q : Row) : ∀ r : Row, W.needRow S Q ≤ W.needRow S (Q ++ r) := by
  intro r
  induction r generalizing Q with
  | nil => rw [List.append_nil]; exact Int.le_refl _
  | cons d r ih =>
    have e : Q ++ d :: r = (Q ++ [d]) ++ r := by simp
    rw [e]
    refine Int.le_trans ?_ (ih (Q ++ [d]))
    rw [needRow_snoc]
    exact Int.le_max_left _ _
structure Search (W : Hall) (o : List Int) (keys opened waiting : List Row) : Prop where
  val : ∀ R ∈ keys, Valid W R
  knd : keys.Nodup
  wk : ∀ R ∈ waiting, R ∈ keys
  ok : ∀ R ∈ opened, R ∈ keys
  on : ∀ R ∈ opened, endOf W R = none
  ond : opened.Nodup
  wnd : waiting.Nodup
  apart : ∀ R ∈ waiting, R ∉ opened
  par : ∀ R ∈ keys, R = [] ∨ ∃ Q d, R = Q ++ [d] ∧ Q ∈ opened
  root : [] ∈ waiting ∨ [] ∈ opened
  cover : ∀ Q ∈ opened, ∀ d : Deed, d.2 ∈ members (stAfter W.hands Q) → (Q ++ [d]) ∈ waiting ∨ (Q ++ [d]) ∈ opened ∨ endOf W (Q ++ [d]) = some o
  wend : ∀ R ∈ waiting, endOf W R ≠ some o
section
variable {W : Hall} {S : Sheet} {o : List Int} {keys opened waiting tail : List Row} {R : Row}
theorem Search.start (hn : endOf W [] = none) : Search W o [[]] [] [[]] where
  val := fun R h => by rw [List.mem_singleton.mp h]; exact .nil
  knd := by simp
  wk := fun R h => h
  ok := fun R h => nomatch h
  on := fun R h => nomatch h
  ond := List.nodup_nil
  wnd := by simp
  apart := fun R _ h => nomatch h
  par := fun R h => .inl (List.mem_singleton.mp h)
  root := .inl (List.mem_singleton.mpr rfl)
  cover := fun R h => nomatch h
  wend := fun R h => by rw [List.mem_singleton.mp h, hn]; exact fun z => nomatch z
theorem Search.perm (s : Search W o keys opened waiting) {w' : List Row} (p : w'.Perm waiting) : Search W o keys opened w' where
  val := s.val
  knd := s.knd
  wk := fun R h => s.wk R (p.mem_iff.mp h)
  ok := s.ok
  on := s.on
  ond := s.ond
  wnd := p.nodup_iff.mpr s.wnd
  apart := fun R h => s.apart R (p.mem_iff.mp h)
  par := s.par
  root := s.root.imp (fun h => p.mem_iff.mpr h) fun h => h
  cover := fun Q hQ d hd => (s.cover Q hQ d hd).imp (fun h => p.mem_iff.mpr h) fun h => h
  wend := fun R h => s.wend R (p.mem_iff.mp h)
/-- every other row has a waiting one ahead of it -/
theorem Search.ahead (s : Search W o keys opened waiting) {R : Row} (v : Valid W R) : (∃ Q r, Q ∈ waiting ∧ R = Q ++ r) ∨ R ∈ opened ∨ endOf W R = some o := by
  induction v with
  | nil =>
    rcases s.root with h | h
    · exact .inl ⟨[], [], h, rfl⟩
    · exact .inr (.inl h)
  | @snoc R d v e m ih =>
    rcases ih with ⟨Q, r, hQ, rfl⟩ | h | h
    · exact .inl ⟨Q, r ++ [d], hQ, by simp⟩
    · rcases s.cover R h d m with h | h | h
      · exact .inl ⟨R ++ [d], [], h, by simp⟩
      · exact .inr (.inl h)
      · exact .inr (.inr h)
    · rw [e] at h; cases h
theorem Search.ahead' (s : Search W o keys opened waiting) {R : Row} (h : Other W o R) : ∃ Q r, Q ∈ waiting ∧ R = Q ++ r := by
  obtain ⟨v, e, he, hne⟩ := h
  rcases s.ahead v with h | h | h
  · exact h
  · rw [s.on R h] at he; cases he
  · rw [h] at he; exact absurd (Option.some.inj he).symm hne
theorem Search.found (s : Search W o keys opened (R :: tail)) (srt : (R :: tail).Pairwise (fun A B => W.needRow S A ≤ W.needRow S B)) {e : List Int} (he : endOf W R = some e) : IsLow W S o (W.needRow S R) := by
  have hR : R ∈ R :: tail := List.mem_cons_self
  refine ⟨⟨R, ⟨s.val R (s.wk R hR), e, he, fun z => s.wend R hR (by rw [he, z])⟩, rfl⟩, fun R' h' => ?_⟩
  obtain ⟨Q, r, hQ, rfl⟩ := s.ahead' h'
  refine Int.le_trans ?_ (needRow_prefix W S Q r)
  rcases List.mem_cons.mp hQ with rfl | hQ
  · exact Int.le_refl _
  · exact (List.pairwise_cons.mp srt).1 Q hQ
theorem Search.some_ (s : Search W o keys opened waiting) (h : ∃ R, Other W o R) : waiting ≠ [] := by
  obtain ⟨R, h⟩ := h
  obtain ⟨Q, r, hQ, _⟩ := s.ahead' h
  exact List.ne_nil_of_mem hQ
theorem Search.fresh (s : Search W o keys opened (R :: tail)) (d : Deed) : R ++ [d] ∉ keys := fun h => by
  rcases s.par _ h with z | ⟨Q, d', e, hQ⟩
  · simp at z
  · obtain ⟨e1, _⟩ := snoc_inj e
    rw [← e1] at hQ
    exact s.apart R List.mem_cons_self hQ
/-- a row is opened: its goings-on are cs -/
theorem Search.open_ (s : Search W o keys opened (R :: tail)) (hn : endOf W R = none) {cs : List Row} (cnd : cs.Nodup) (hc : ∀ Q, Q ∈ cs ↔ ∃ d : Deed, Q = R ++ [d] ∧ d.2 ∈ members (stAfter W.hands R)) :
    Search W o (keys ++ cs) (opened ++ [R]) (tail ++ cs.filter fun Q => decide (endOf W Q ≠ some o)) where
  val := fun Q h => by
    rcases List.mem_append.mp h with h | h
    · exact s.val Q h
    · obtain ⟨d, rfl, hd⟩ := (hc Q).mp h
      exact .snoc (s.val R (s.wk R List.mem_cons_self)) hn hd
  knd := by
    rw [List.nodup_append]
    refine ⟨s.knd, cnd, fun A hA B hB e => ?_⟩
    subst e
    obtain ⟨d, rfl, _⟩ := (hc A).mp hB
    exact s.fresh d hA
  wk := fun Q h => by
    rcases List.mem_append.mp h with h | h
    · exact List.mem_append_left _ (s.wk Q (List.mem_cons_of_mem _ h))
    · exact List.mem_append_right _ (List.mem_filter.mp h).1
  ok := fun Q h => by
    rcases List.mem_append.mp h with h | h
    · exact List.mem_append_left _ (s.ok Q h)
    · rw [List.mem_singleton.mp h]
      exact List.mem_append_left _ (s.wk R List.mem_cons_self)
  on := fun Q h => by
    rcases List.mem_append.mp h with h | h
    · exact s.on Q h
    · rw [List.mem_singleton.mp h]; exact hn
  ond := by
    rw [List.nodup_append]
    refine ⟨s.ond, by simp, fun A hA B hB e => ?_⟩
    rw [List.mem_singleton.mp hB] at e
    subst e
    exact s.apart A List.mem_cons_self hA
  wnd := by
    rw [List.nodup_append]
    refine ⟨(List.nodup_cons.mp s.wnd).2, cnd.filter _, fun A hA B hB e => ?_⟩
    subst e
    obtain ⟨d, rfl, _⟩ := (hc A).mp (List.mem_filter.mp hB).1
    exact s.fresh d (s.wk _ (List.mem_cons_of_mem _ hA))
  apart := fun Q h z => by
    rcases List.mem_append.mp z with z | z
    · rcases List.mem_append.mp h with h | h
      · exact s.apart Q (List.mem_cons_of_mem _ h) z
      · obtain ⟨d, rfl, _⟩ := (hc Q).mp (List.mem_filter.mp h).1
        exact s.fresh d (s.ok _ z)
    · have e := List.mem_singleton.mp z
      rcases List.mem_append.mp h with h | h
      · rw [e] at h
        exact (List.nodup_cons.mp s.wnd).1 h
      · obtain ⟨d, e2, _⟩ := (hc Q).mp (List.mem_filter.mp h).1
        rw [e] at e2
        have e3 := congrArg List.length e2
        rw [List.length_append] at e3
        simp at e3
  par := fun Q h => by
    rcases List.mem_append.mp h with h | h
    · rcases s.par Q h with h | ⟨A, d, e, hA⟩
      · exact .inl h
      · exact .inr ⟨A, d, e, List.mem_append_left _ hA⟩
    · obtain ⟨d, rfl, _⟩ := (hc Q).mp h
      exact .inr ⟨R, d, rfl, List.mem_append_right _ (List.mem_singleton.mpr rfl)⟩
  root := by
    rcases s.root with h | h
    · rcases List.mem_cons.mp h with h | h
      · exact .inr (List.mem_append_right _ (List.mem_singleton.mpr h))
      · exact .inl (List.mem_append_left _ h)
    · exact .inr (List.mem_append_left _ h)
  cover := fun Q hQ d hd => by
    rcases List.mem_append.mp hQ with h | h
    · rcases s.cover Q h d hd with h | h | h
      · rcases List.mem_cons.mp h with h | h
        · exact .inr (.inl (List.mem_append_right _ (List.mem_singleton.mpr h)))
        · exact .inl (List.mem_append_left _ h)
      · exact .inr (.inl (List.mem_append_left _ h))
      · exact .inr (.inr h)
    · have e := List.mem_singleton.mp h
      subst e
      by_cases c : endOf W (Q ++ [d]) = some o
      · exact .inr (.inr c)
      · exact .inl (List.mem_append_right _ (List.mem_filter.mpr ⟨(hc _).mpr ⟨d, rfl, hd⟩, decide_eq_true c⟩))
  wend := fun Q h => by
    rcases List.mem_append.mp h with h | h
    · exact s.wend Q (List.mem_cons_of_mem _ h)
    · exact of_decide_eq_true (List.mem_filter.mp h).2
end
theorem nodup_le {α : Type} [DecidableEq α] : ∀ {l m : List α}, l.Nodup → (∀ x ∈ l, x ∈ m) → l.length ≤ m.length
  | [], m, _, _ => Nat.zero_le _
  | a :: r, m, nd, h => by
    obtain ⟨h1, h2⟩ := List.nodup_cons.mp nd
    have ha : a ∈ m := h a List.mem_cons_self
    have := nodup_le (l := r) (m := m.erase a) h2 fun x hx => (List.mem_erase_of_ne fun z => h1 (by rw [← z]; exact hx)).mpr (h x (List.mem_cons_of_mem _ hx))
    rw [List.length_erase_of_mem ha] at this
    have := List.length_pos_of_mem ha
    rw [List.length_cons]
    omega
theorem valid_len {W : Hall} (h4 : W.hands ≤ 4) {R : Row} (v : Valid W R) : R.length + size (stAfter W.hands R) = size (allOf W.hands) := by
  induction v with
  | nil => show 0 + size (allOf W.hands) = _; omega
  | @snoc R d v e m ih =>
    have sw := size_without (m := stAfter W.hands R) (h := d.2) (Nat.lt_of_lt_of_le (st_lt h4 R) (by decide)) (mem_members.mp m)
    rw [stAfter_snoc, List.length_append, List.length_singleton]
    omega
theorem all_le {n : Nat} (h4 : n ≤ 4) : size (allOf n) ≤ 4 := by
  have h16 : allOf n < 2 ^ 4 := st_lt (W := ⟨n, 0, []⟩) h4 []
  unfold size
  rw [← upTo_all h16]
  exact Nat.le_trans (List.length_filter_le _ _) (by rw [List.length_range]; exact Nat.le_refl _)
theorem row_len4 {W : Hall} (h4 : W.hands ≤ 4) {R : Row} (v : Valid W R) : R.length ≤ 4 := by
  have := valid_len h4 v
  have := all_le h4
  omega
def deeds8 : List Deed := [(true, 0), (true, 1), (true, 2), (true, 3), (false, 0), (false, 1), (false, 2), (false, 3)]
def rows73 : List Row := [] :: (deeds8.map (fun d => [d]) ++ deeds8.flatMap fun d => deeds8.map fun e => [d, e])
theorem mem8 {d : Deed} (h : d.2 < 4) : d ∈ deeds8 := by
  obtain ⟨b, x⟩ := d
  have h : x < 4 := h
  have : x = 0 ∨ x = 1 ∨ x = 2 ∨ x = 3 := by omega
  rcases this with rfl | rfl | rfl | rfl <;> cases b <;> decide
theorem open_few {W : Hall} (h4 : W.hands ≤ 4) {R : Row} (v : Valid W R) (e : endOf W R = none) : R ∈ rows73 := by
  have h1 := valid_len h4 v
  have h2 := all_le h4
  have h3 := go_on e
  have hl : R.length ≤ 2 := by omega
  have hd := valid_lt v
  unfold rows73
  match R, hl, hd with
  | [], _, _ => exact List.mem_cons_self
  | [a], _, hd => exact List.mem_cons_of_mem _ (List.mem_append_left _ (List.mem_map.mpr ⟨a, mem8 (by have := hd a (by simp); omega), rfl⟩))
  | [a, b], _, hd => exact List.mem_cons_of_mem _ (List.mem_append_right _ (List.mem_flatMap.mpr ⟨a, mem8 (by have := hd a (by simp); omega), List.mem_map.mpr ⟨b, mem8 (by have := hd b (by simp); omega), rfl⟩⟩))
theorem Search.few {W : Hall} (h4 : W.hands ≤ 4) {o : List Int} {keys opened waiting : List Row} (s : Search W o keys opened waiting) : opened.length ≤ 73 :=
  nodup_le (m := rows73) s.ond fun R h => open_few h4 (s.val R (s.ok R h)) (s.on R h)
def endN (hands seats : Nat) (R : Row) : Option (List Int) := endOf ⟨hands, seats, []⟩ R
theorem endN_eq (W : Hall) (R : Row) : endOf W R = endN W.hands W.seats R := rfl
def validB (hands seats : Nat) (R : Row) : Bool := (List.range R.length).all fun i => decide (endN hands seats (R.take i) = none) && (match R[i]? with | some d => decide (d.2 ∈ members (stAfter hands (R.take i))) | none => false)
theorem valid_of {W : Hall} {R : Row} (h : validB W.hands W.seats R = true) : Valid W R := by
  have all : ∀ i, i ≤ R.length → Valid W (R.take i) := by
    intro i
    induction i with
    | zero => intro _; rw [List.take_zero]; exact .nil
    | succ i ih =>
      intro hi
      have hv := ih (by omega)
      unfold validB at h
      have hx := List.all_eq_true.mp h i (List.mem_range.mpr (by omega))
      have hg : R[i]? = some R[i] := List.getElem?_eq_getElem (by omega)
      rw [hg] at hx
      simp only [Bool.and_eq_true, decide_eq_true_eq] at hx
      rw [List.take_add_one, hg]
      exact .snoc hv (by rw [endN_eq]; exact hx.1) hx.2
  have := all R.length (Nat.le_refl _)
  rwa [List.take_length] at this
theorem other_ex {W : Hall} (ok : HallOk W) (o : List Int) : ∃ R, Other W o R := by
  have go : ∀ A B : Row, ∀ a b : List Int, validB W.hands W.seats A = true → validB W.hands W.seats B = true → endN W.hands W.seats A = some a → endN W.hands W.seats B = some b → a ≠ b → ∃ R, Other W o R := by
    intro A B a b h1 h2 h3 h4 h5
    by_cases c : a = o
    · exact ⟨B, valid_of h2, b, by rw [endN_eq]; exact h4, fun z => h5 (by rw [c, z])⟩
    · exact ⟨A, valid_of h1, a, by rw [endN_eq]; exact h3, c⟩
  have h4 := ok.h4
  have hs := ok.s1
  have hsh := ok.sh
  have : (W.hands = 2 ∧ W.seats = 1) ∨ (W.hands = 3 ∧ W.seats = 1) ∨ (W.hands = 3 ∧ W.seats = 2) ∨ (W.hands = 4 ∧ W.seats = 1) ∨ (W.hands = 4 ∧ W.seats = 2) ∨ (W.hands = 4 ∧ W.seats = 3) := by omega
  rcases this with ⟨e1, e2⟩ | ⟨e1, e2⟩ | ⟨e1, e2⟩ | ⟨e1, e2⟩ | ⟨e1, e2⟩ | ⟨e1, e2⟩ <;> rw [e1, e2] at go
  · exact go [(true, 0)] [(true, 1)] [1, 0] [0, 1] (by decide) (by decide) (by decide) (by decide) (by decide)
  · exact go [(true, 0)] [(true, 1)] [1, 0, 0] [0, 1, 0] (by decide) (by decide) (by decide) (by decide) (by decide)
  · exact go [(true, 0), (true, 1)] [(true, 0), (true, 2)] [1, 1, 0] [1, 0, 1] (by decide) (by decide) (by decide) (by decide) (by decide)
  · exact go [(true, 0)] [(true, 1)] [1, 0, 0, 0] [0, 1, 0, 0] (by decide) (by decide) (by decide) (by decide) (by decide)
  · exact go [(true, 0), (true, 1)] [(true, 0), (true, 2)] [1, 1, 0, 0] [1, 0, 1, 0] (by decide) (by decide) (by decide) (by decide) (by decide)
  · exact go [(true, 0), (true, 1), (true, 2)] [(true, 0), (true, 1), (true, 3)] [1, 1, 1, 0] [1, 1, 0, 1] (by decide) (by decide) (by decide) (by decide) (by decide)
theorem end_start {W : Hall} (ok : HallOk W) : endOf W [] = none := by
  have h4 := ok.h4
  have hs := ok.s1
  have hsh := ok.sh
  have : (W.hands = 2 ∧ W.seats = 1) ∨ (W.hands = 3 ∧ W.seats = 1) ∨ (W.hands = 3 ∧ W.seats = 2) ∨ (W.hands = 4 ∧ W.seats = 1) ∨ (W.hands = 4 ∧ W.seats = 2) ∨ (W.hands = 4 ∧ W.seats = 3) := by omega
  rw [endN_eq]
  rcases this with ⟨e1, e2⟩ | ⟨e1, e2⟩ | ⟨e1, e2⟩ | ⟨e1, e2⟩ | ⟨e1, e2⟩ | ⟨e1, e2⟩ <;> rw [e1, e2] <;> decide
end K75
set_option maxHeartbeats 4000000
-- K18
/-! cases: SeatsMargin.least. -/
namespace K75
open PySem PySem.Spec PyProof.Rows L2 LamX
abbrev lamQ : Str := ("SeatsMargin.least" : Str) ++ ".<locals>." ++ "<lambda>"
/-- the table of the code object of least -/
def tT (K : PySem.W.Frag) : List (Addr × Str) := [((He.cT K leastAt).2, lamQ)]
section
variable {P : Program} {w : World} {K : PySem.W.Frag} {mg : Str → Option Value} {base : Heap}
theorem okxC {d : He.DefD} {fd : FuncData} {N ps : List Str} {k : Nat} {sp : Sp} (F : FnD K d fd) (S : FnScope N ps d.scope) (len : ∀ vs H Q E, sp vs H Q E → vs.length = ps.length)
    (hbody : ∀ (A : Around) (outer : List Env) (s : Shared) (H : Hp) (vs : List V) (Q : VK) (E : XK), Room k (A.deeper (envOfC d.qual d.scope s.heap.objs.size (He.fAd K d.at_) (.ref (He.codeOf K d.at_)))) → sp vs H Q E →
      ∃ t, PSs (cxOf CX0 P w K mg base N d.qual d.scope (He.fAd K d.at_) (.ref (He.codeOf K d.at_)) A outer s H E).nox d.body t ∧ t { nx := fun _ H' => Q .non H', rt := Q } (start N vs) H) : FnOk P w K mg base CX0 (k + 1) (He.fAd K d.at_) fd ps sp := by
  obtain ⟨oc, od, dV, kV, doc, pm, an, cdv, ct, osl, rfl, lk, hcd, _, _⟩ := F.ex
  obtain ⟨c, rfl⟩ := He.codeIn_ref hcd
  have e := He.codeOf_eq lk rfl
  subst e
  exact fn_of lk hcd S len fun A outer s H vs Q E hr hsp => let ⟨t, h, q⟩ := hbody A outer s H vs Q E hr hsp; ⟨t, h.nox, q⟩
/-! ### what stays beside the tables -/
theorem keep_ext {H H' : Hp} (e : ExtN H H') : Keep H H' := ⟨fun b xs h => e b _ h (fun ps z => nomatch z), fun b o u h => e b _ h (fun ps z => nomatch z)⟩
theorem ext_at {H H' : Hp} {l : Addr} {o : HO} (e : ExtN H H') (f : FreeN H l) : ExtN H (upd H' l o) := fun b u hb n => by
  have : b ≠ l := fun z => by
    subst z
    obtain ⟨ps, rfl⟩ := f u hb
    exact n ps rfl
  rw [upd_ne this]
  exact e b u hb n
theorem WayAt.ext {H H' : Hp} {a : Addr} {W : Hall} (s : ExtN H H') (h : WayAt K H a W) : WayAt K H' a W := let ⟨dx, l, e, f⟩ := h.ob; ⟨dx, l, s _ _ e (fun ps z => nomatch z), f.keep (keep_ext s)⟩
theorem heap_any (n : Nat) (o : Obj) (ho : o.isFreed = false) : ∃ h : Heap, h.get? n = some o := by
  have all : ∀ n : Nat, ∃ h : Heap, h.objs.size = n := by
    intro n
    induction n with
    | zero => exact ⟨⟨#[], {}⟩, rfl⟩
    | succ n ih =>
      obtain ⟨h, e⟩ := ih
      exact ⟨h.push o, by rw [Heap.size_push, e]⟩
  obtain ⟨h, e⟩ := all n
  exact ⟨h.push o, by rw [← e]; exact Heap.get?_push_size _ ho⟩
theorem dn_ne_code {a : Addr} {xs : Ents} {q : Str} : DN P w a xs ≠ CodeO a q := fun z => by
  unfold DN CodeO at z
  injection z with z
  obtain ⟨h, hh⟩ := heap_any a { cls := .none, data := .fields #[.none, .str q 0] } rfl
  have hc : (fun h : Heap => ∃ (oc : Obj) (vs : Array Value) (t : Tok), h.get? a = some oc ∧ oc.data = .fields vs ∧ vs[1]? = some (.str q t)) h := ⟨_, _, 0, hh, rfl, rfl⟩
  rw [← z] at hc
  obtain ⟨_, _, ys, _, o, es, ep, ho, _, hd, _⟩ := hc
  rw [hh] at ho
  cases ho
  cases hd
/-- a thing that is no table and no code object is changed -/
theorem tabs_upd {T : List (Addr × Str)} {H : Hp} {l : Addr} {u o : HO} (t : Tabs T H) (h : H l = some u) (n1 : ∀ ps, u ≠ .tbl ps) (n2 : ∀ q, u ≠ CodeO l q) : Tabs T (upd H l o) := fun p hp => by
  obtain ⟨ps, h1, h2, h3⟩ := t p hp
  refine ⟨ps, ?_, h2, fun pos cv hc => ?_⟩
  · rw [upd_ne fun z => by rw [z, h] at h1; exact n1 ps (Option.some.inj h1)]
    exact h1
  · obtain ⟨c, e1, e2⟩ := h3 pos cv hc
    refine ⟨c, e1, ?_⟩
    rw [upd_ne fun z => by rw [z, h] at e2; exact n2 _ (Option.some.inj e2)]
    exact e2
theorem tabs_lst {T : List (Addr × Str)} {H : Hp} {l : Addr} {xs : List V} {o : HO} (t : Tabs T H) (h : H l = some (.lst xs)) : Tabs T (upd H l o) := tabs_upd t h (fun ps z => nomatch z) fun q z => by unfold CodeO at z; cases z
theorem tabs_dn {T : List (Addr × Str)} {H : Hp} {l : Addr} {es : Ents} {o : HO} (t : Tabs T H) (h : H l = some (DN P w l es)) : Tabs T (upd H l o) := tabs_upd t h (fun ps z => nomatch (show HO.ext _ = HO.tbl ps from z)) fun q z => dn_ne_code z
/-- a margin over a way -/
structure MarAt (K : PySem.W.Frag) (H : Hp) (m : Addr) (W : Hall) : Prop where
  ob : ∃ dx p, H m = some (.ins (He.ga K "SeatsMargin") dx (putF "way" (.ref p) [])) ∧ WayAt K H p W
theorem MarAt.ext {H H' : Hp} {a : Addr} {W : Hall} (s : ExtN H H') (h : MarAt K H a W) : MarAt K H' a W := let ⟨dx, p, e, f⟩ := h.ob; ⟨dx, p, s _ _ e (fun ps z => nomatch z), f.ext s⟩
theorem MarAt.same {H H' : Hp} {a : Addr} {W : Hall} (s : Same H H') (h : MarAt K H a W) : MarAt K H' a W := h.ext (ExtN.of s)
theorem MarAt.way {H : Hp} {a : Addr} {W : Hall} (h : MarAt K H a W) (T : Tx K mg) {Q : V → Prop} (q : ∀ p, WayAt K H p W → Q (.ref p)) : ∃ b C dx fs v, V.ref a = .ref b ∧ H b = some (.ins C dx fs) ∧ Cls K C ∧ NoAttr K C "way" ∧ fs.lookup ("way" : Str) = some v ∧ Q v :=
  let ⟨dx, p, e, f⟩ := h.ob; ⟨a, _, dx, _, _, rfl, e, T.cls_SeatsMargin, T.noat 83 rfl, by rw [lookup_putF, if_pos rfl], q p f⟩
theorem WayAt.at_ext {H : Hp} {l a : Addr} {W : Hall} {φ : Heap → Prop} {o : HO} (h : WayAt K H a W) (e : H l = some (.ext φ)) : WayAt K (upd H l o) a W := by
  obtain ⟨dx, q, e1, f⟩ := h.ob
  exact ⟨dx, q, by rw [upd_ne (ne_of e1 e (fun z => nomatch z))]; exact e1, f.keep (Keep.ext e)⟩
theorem getN_mem {es : Ents} (nd : (es.map (·.1)).Nodup) {e : Row × Addr × V} (h : e ∈ es) : getN es e.1 = some e.2.2 := by
  induction es with
  | nil => cases h
  | cons a r ih =>
    rw [List.map_cons, List.nodup_cons] at nd
    rw [getN]
    rcases List.mem_cons.mp h with rfl | h
    · rw [if_pos rfl]
    · rw [if_neg fun z => nd.1 (by rw [z]; exact List.mem_map.mpr ⟨e, h, rfl⟩)]
      exact ih nd.2 h
theorem getN_some {es : Ents} {R : Row} (h : R ∈ es.map (·.1)) : ∃ v, getN es R = some v := by
  induction es with
  | nil => cases h
  | cons a r ih =>
    rw [getN]
    by_cases e : a.1 = R
    · rw [if_pos e]; exact ⟨_, rfl⟩
    · rw [if_neg e]
      rw [List.map_cons] at h
      rcases List.mem_cons.mp h with z | z
      · exact absurd z.symm e
      · exact ih z
theorem cut_tail {x : V} {xs : List V} : cutV (x :: xs) (some 1) none = xs := by
  have e : HT.sIx (x :: xs).length 0 (some 1) = 1 := by
    have := HT.sIx_nat (x :: xs).length 0 1
    rw [show ((1 : Nat) : Int) = 1 from rfl] at this
    rw [this, List.length_cons]
    omega
  unfold cutV
  rw [e]
  show ((x :: xs).drop 1).take ((x :: xs).length - 1) = xs
  simp
/-! ### the rows by which a row goes on -/
def kidRows (W : Hall) (R : Row) : List Row := (members (stAfter W.hands R)).flatMap fun h => [R ++ [(true, h)], R ++ [(false, h)]]
theorem kids_fst (W : Hall) (S : Sheet) (R : Row) (m : Int) : (kids W S R m).map (·.1) = kidRows W R := by
  unfold kids kidRows
  rw [List.map_flatMap]
  rfl
theorem kid_mem {W : Hall} {R Q : Row} : Q ∈ kidRows W R ↔ ∃ d : Deed, Q = R ++ [d] ∧ d.2 ∈ members (stAfter W.hands R) := by
  unfold kidRows
  rw [List.mem_flatMap]
  constructor
  · rintro ⟨h, hh, hq⟩
    simp only [List.mem_cons, List.not_mem_nil, or_false] at hq
    rcases hq with rfl | rfl
    · exact ⟨(true, h), rfl, hh⟩
    · exact ⟨(false, h), rfl, hh⟩
  · rintro ⟨⟨b, h⟩, rfl, hh⟩
    refine ⟨h, hh, ?_⟩
    cases b <;> simp
theorem kid_nd (W : Hall) (R : Row) : (kidRows W R).Nodup := by
  have all : ∀ l : List Nat, l.Nodup → (l.flatMap fun h => [R ++ [(true, h)], R ++ [(false, h)]]).Nodup := by
    intro l
    induction l with
    | nil => intro _; exact List.nodup_nil
    | cons a r ih =>
      intro nd
      obtain ⟨h1, h2⟩ := List.nodup_cons.mp nd
      rw [List.flatMap_cons, List.nodup_append]
      refine ⟨by simp, ih h2, fun x hx y hy e => ?_⟩
      subst e
      obtain ⟨h, hh, hq⟩ := List.mem_flatMap.mp hy
      simp only [List.mem_cons, List.not_mem_nil, or_false] at hq hx
      have key : h = a := by
        rcases hx with rfl | rfl <;> rcases hq with hq | hq <;> have := (snoc_inj hq).2 <;> simp at this <;> omega
      subst key
      exact h1 hh
  exact all _ (members_nodup _)
theorem kid_len {W : Hall} (h4 : W.hands ≤ 4) (R : Row) : (kidRows W R).length ≤ 8 := by
  have hlm : (members (stAfter W.hands R)).length ≤ 4 := by
    have h16 : stAfter W.hands R < 2 ^ 4 := st_lt h4 R
    rw [← upTo_all h16]
    exact Nat.le_trans (List.length_filter_le _ _) (by rw [List.length_range]; exact Nat.le_refl _)
  have all : ∀ l : List Nat, (l.flatMap fun h => [R ++ [(true, h)], R ++ [(false, h)]]).length = 2 * l.length := by
    intro l
    induction l with
    | nil => rfl
    | cons a r ih => rw [List.flatMap_cons, List.length_append, ih]; simp; omega
  unfold kidRows
  rw [all]
  omega
theorem kid_need {W : Hall} {S : Sheet} {R : Row} {q : Row × Int} (h : q ∈ kids W S R (W.needRow S R)) : q.2 = W.needRow S q.1 ∧ q.1 ∈ kidRows W R := by
  refine ⟨?_, by rw [← kids_fst W S R (W.needRow S R)]; exact List.mem_map.mpr ⟨q, h, rfl⟩⟩
  unfold kids at h
  obtain ⟨x, _, hq⟩ := List.mem_flatMap.mp h
  simp only [List.mem_cons, List.not_mem_nil, or_false] at hq
  rcases hq with rfl | rfl
  · exact (needRow_snoc W S R (true, x)).symm
  · exact (needRow_snoc W S R (false, x)).symm
/-! ### what the search keeps in the heap -/
structure LH (K : PySem.W.Frag) (P : Program) (w : World) (W : Hall) (S : Sheet) (o : List Int) (H0 : Hp) (dn ds : Addr) (ov : V) (keys opened : List Row) (H' : Hp) : Prop where
  d : ∃ es st, H' dn = some (DN P w dn es) ∧ NKeys K H' es ∧ es.map (·.1) = keys ∧ (∀ R ∈ keys, getN es R = some (.int (W.needRow S R))) ∧
    H' ds = some (DN P w ds st) ∧ NKeys K H' st ∧ st.map (·.1) = opened ∧ (∀ R ∈ opened, ∃ u, getN st R = some u ∧ rState K H' u (stOf S (W.cnt S R).F (W.cnt S R).G))
  ext : ExtN H0 H'
  tabs : Tabs (tT K) H'
  ro : rLst rInt K H' ov o
  ne : dn ≠ ds
  fn : FreeN H0 dn
  fs : FreeN H0 ds
section
variable {W : Hall} {S : Sheet} {o : List Int} {H0 H' H'' : Hp} {dn ds L b : Addr} {ov u : V} {keys opened : List Row} {xs ys : List V} {R : Row}
theorem LH.grow (h : LH K P w W S o H0 dn ds ov keys opened H') (e : ExtN H' H'') (t : Tabs (tT K) H'') : LH K P w W S o H0 dn ds ov keys opened H'' := by
  obtain ⟨es, st, a1, a2, a3, a4, a5, a6, a7, a8⟩ := h.d
  have k := keep_ext e
  exact ⟨⟨es, st, e _ _ a1 (fun ps z => nomatch (show HO.ext _ = HO.tbl ps from z)), a2.keep k, a3, a4, e _ _ a5 (fun ps z => nomatch (show HO.ext _ = HO.tbl ps from z)), a6.keep k, a7, fun R hR => let ⟨u, h1, h2⟩ := a8 R hR; ⟨u, h1, rState_stays.k k h2⟩⟩,
    h.ext.trans e, t, rLst_stays rInt_stays |>.k k h.ro, h.ne, h.fn, h.fs⟩
theorem LH.same (h : LH K P w W S o H0 dn ds ov keys opened H') (e : Same H' H'') : LH K P w W S o H0 dn ds ov keys opened H'' := h.grow (ExtN.of e) (h.tabs.ext e)
theorem LH.lst (h : LH K P w W S o H0 dn ds ov keys opened H') (e : H' L = some (.lst xs)) (f : FreeN H0 L) : LH K P w W S o H0 dn ds ov keys opened (upd H' L (.lst ys)) := by
  obtain ⟨es, st, a1, a2, a3, a4, a5, a6, a7, a8⟩ := h.d
  have k : Keep H' (upd H' L (.lst ys)) := Keep.lst e
  have ne1 : dn ≠ L := ne_of a1 e (fun z => nomatch (show HO.ext _ = HO.lst _ from z))
  have ne2 : ds ≠ L := ne_of a5 e (fun z => nomatch (show HO.ext _ = HO.lst _ from z))
  exact ⟨⟨es, st, by rw [upd_ne ne1]; exact a1, a2.keep k, a3, a4, by rw [upd_ne ne2]; exact a5, a6.keep k, a7, fun R hR => let ⟨u, h1, h2⟩ := a8 R hR; ⟨u, h1, rState_stays.k k h2⟩⟩,
    ext_at h.ext f, tabs_lst h.tabs e, rLst_stays rInt_stays |>.k k h.ro, h.ne, h.fn, h.fs⟩
theorem LH.putN {es : Ents} (h : LH K P w W S o H0 dn ds ov keys opened H') (e : H' dn = some (DN P w dn es)) (a2 : NKeys K H' es) (a3 : es.map (·.1) = keys) (a4 : ∀ R ∈ keys, getN es R = some (.int (W.needRow S R))) (rr : rRow K H' (.ref b) R) (fr : R ∉ keys) :
    LH K P w W S o H0 dn ds ov (keys ++ [R]) opened (upd H' dn (DN P w dn (K75.putN es R b (.int (W.needRow S R))))) := by
  obtain ⟨_, st, _, _, _, _, a5, a6, a7, a8⟩ := h.d
  have hn : getN es R = none := getN_none (by rw [a3]; exact fr)
  rw [K75.putN_new hn]
  have k : Keep H' (upd H' dn (DN P w dn (es ++ [(R, b, .int (W.needRow S R))]))) := Keep.ext e
  refine ⟨⟨_, st, upd_same, ?_, ?_, ?_, by rw [upd_ne (fun z => h.ne z.symm)]; exact a5, a6.keep k, a7, fun R hR => let ⟨u, h1, h2⟩ := a8 R hR; ⟨u, h1, rState_stays.k k h2⟩⟩, ext_at h.ext h.fn, tabs_dn h.tabs e, rLst_stays rInt_stays |>.k k h.ro, h.ne, h.fn, h.fs⟩
  · intro x hx
    rcases List.mem_append.mp hx with hx | hx
    · exact rRow_stays.k k (a2 x hx)
    · rw [List.mem_singleton.mp hx]; exact rRow_stays.k k rr
  · rw [List.map_append, a3]; rfl
  · intro Q hQ
    rw [getN_app hn]
    rcases List.mem_append.mp hQ with hQ | hQ
    · rw [if_neg (fun z : Q = R => fr (z ▸ hQ))]; exact a4 Q hQ
    · rw [List.mem_singleton.mp hQ, if_pos rfl]
theorem LH.putS {st : Ents} (h : LH K P w W S o H0 dn ds ov keys opened H') (e : H' ds = some (DN P w ds st)) (a6 : NKeys K H' st) (a7 : st.map (·.1) = opened) (a8 : ∀ R ∈ opened, ∃ u, getN st R = some u ∧ rState K H' u (stOf S (W.cnt S R).F (W.cnt S R).G))
    (rr : rRow K H' (.ref b) R) (fr : R ∉ opened) (ru : rState K H' u (stOf S (W.cnt S R).F (W.cnt S R).G)) :
    LH K P w W S o H0 dn ds ov keys (opened ++ [R]) (upd H' ds (DN P w ds (K75.putN st R b u))) := by
  obtain ⟨es, _, a1, a2, a3, a4, _, _, _, _⟩ := h.d
  have hn : getN st R = none := getN_none (by rw [a7]; exact fr)
  rw [K75.putN_new hn]
  have k : Keep H' (upd H' ds (DN P w ds (st ++ [(R, b, u)]))) := Keep.ext e
  refine ⟨⟨es, _, by rw [upd_ne h.ne]; exact a1, a2.keep k, a3, a4, upd_same, ?_, ?_, ?_⟩, ext_at h.ext h.fs, tabs_dn h.tabs e, rLst_stays rInt_stays |>.k k h.ro, h.ne, h.fn, h.fs⟩
  · intro x hx
    rcases List.mem_append.mp hx with hx | hx
    · exact rRow_stays.k k (a6 x hx)
    · rw [List.mem_singleton.mp hx]; exact rRow_stays.k k rr
  · rw [List.map_append, a7]; rfl
  · intro Q hQ
    rw [getN_app hn]
    rcases List.mem_append.mp hQ with hQ | hQ
    · rw [if_neg (fun z : Q = R => fr (z ▸ hQ))]
      obtain ⟨u', h1, h2⟩ := a8 Q hQ
      exact ⟨u', h1, rState_stays.k k h2⟩
    · rw [List.mem_singleton.mp hQ, if_pos rfl]
      exact ⟨u, rfl, rState_stays.k k ru⟩
end
/-- the loop's word -/
def LI (K : PySem.W.Frag) (P : Program) (w : World) (W : Hall) (S : Sheet) (o : List Int) (H0 : Hp) (m : Addr) (v ov : V) (dn ds : Addr) (n : Nat) (σ : L2.St) (H' : Hp) : Prop :=
  ∃ (keys opened waiting : List Row) (xs : List V) (aw : Addr) (x6 x7 x8 : Option V), σ = [some (.ref m), some v, some ov, some (.ref dn), some (.ref ds), some (.ref aw), x6, x7, x8] ∧ LH K P w W S o H0 dn ds ov keys opened H' ∧
    H' aw = some (.lst xs) ∧ Paired (rRow K H') xs waiting ∧ FreeN H0 aw ∧ Search W o keys opened waiting ∧ waiting.Pairwise (fun A B => W.needRow S A ≤ W.needRow S B) ∧ keys.length ≤ 1 + 8 * opened.length ∧ n + opened.length = 74
def sp_SeatsMargin_least (K : PySem.W.Frag) : Sp := fun vs H Q _ => ∃ (m : Addr) (v : V) (W : Hall) (S : Sheet), vs = [.ref m, v] ∧ MarAt K H m W ∧ HallOk W ∧ rSheet K H v S ∧ S.length ≤ 100 ∧ total S ≤ 2 ^ 50 ∧ Tabs (tT K) H ∧
  ∀ H' t x low o, ExtN H H' → Tabs (tT K) H' → SqT K H' t [.int low, x] → IsOutcome W S o → IsLow W S o low → Q (.ref t) H'
end
end K75
-- K19
/-! cases: SeatsMargin.least, the walk. -/
namespace K75
open PySem PySem.Spec PyProof.Rows L2 LamX
section
variable {P : Program} {w : World} {K : PySem.W.Frag} {mg : Str → Option Value} {base : Heap}
abbrev N_SeatsMargin_least : List Str := ["self", "sheet", "outcome", "needs", "states", "waiting", "deeds", "longer", "many"]
theorem sc_SeatsMargin_least : FnScope N_SeatsMargin_least ["self", "sheet"] (defScope s_SeatsMargin_least) := ⟨rfl, rfl, rfl, by decide +kernel, rfl, by decide +kernel, by decide +kernel⟩
theorem ok_SeatsMargin_least (T : Tx K mg) (TB : TabB base mg (He.cT K leastAt).1 (He.cT K leastAt).2) {fd : FuncData} (F : FnD K d_SeatsMargin_least fd) : FnOk P w K mg base CX0 10 (He.fAd K d_SeatsMargin_least.at_) fd ["self", "sheet"] (sp_SeatsMargin_least K) := by
  have nd := sc_SeatsMargin_least.nd
  refine okxC F sc_SeatsMargin_least (fun vs H Q E h => ?_) (fun A outer s H vs Q E hr h => ?_)
  · obtain ⟨m, v, W, S, rfl, _⟩ := h
    rfl
  · obtain ⟨m, v, W, S, rfl, ma, ok, rs, hl, ht, tabs, k⟩ := h
    refine ⟨_, (pss_cons (ps_set (i := 2) nd rfl (Or.inl rfl) (pq_Way_outcome T (hr.mono (by decide)) (pe_fld (pv 0) rfl) (pa_cons (pv 1) pa_nil)))
      (pss_cons (ps_set (i := 3) nd rfl (Or.inr rfl) (pe_none hr.units (pe_tup pa_nil) pe_int))
      (pss_cons (ps_set (i := 4) nd rfl (Or.inl rfl) pe_nnew)
      (pss_cons (ps_set (i := 5) nd rfl (Or.inl rfl) (pe_lst (pa_cons (pe_tup pa_nil) pa_nil)))
      (pss_one (ps_while PassesOwn.never (pt_val pe_bl) (pss_cons (ps_set (i := 6) nd rfl (Or.inl rfl) (pe_ix ix_list (pv 5) pe_int (fun _ _ => rfl)))
      (pss_cons (ps_if (pt_cmpR op_notN (pc_end_of T (hr.mono (by decide)) (by rfl) (pa_cons (pe_fld (pv 0) rfl) (pa_cons (pv 6) pa_nil))) pe_non (nomark _)) (pss_one (ps_ret (pe_tup (pa_cons (pe_nget hr.units (pv 3) (pv 6) (fun _ _ => rfl)) (pa_cons (pc_tree_of T (hr.mono (by decide)) (by rfl) (pa_cons (pe_fld (pv 0) rfl) (pa_cons (pe_fzD (pv 3)) (pa_cons (pv 2) (pa_cons (pe_nget hr.units (pv 3) (pv 6) (fun _ _ => rfl)) pa_nil))))) pa_nil))))) pss_nil)
      (pss_cons (ps_if (pt_cmpR op_eq (pe_callB call_len_dN (by rfl) (T.free 54 rfl) (by decide +kernel) (pa_cons (pv 4) pa_nil)) (g_MOST T) (nomark _)) (pss_one ps_never) pss_nil)
      (pss_cons (ps_nput hr.units (pv 4) (pv 6) (pc_state_behind T (hr.mono (by decide)) (by rfl) (pa_cons (pe_fld (pv 0) rfl) (pa_cons (pv 1) (pa_cons (pv 4) (pa_cons (pv 6) pa_nil))))) rfl)
      (pss_cons (ps_set (i := 5) nd rfl (Or.inl rfl) (pe_slice sl_list (pv 5) (po_some pe_int) po_none))
      (pss_cons (ps_for PassesOwn.never rfl (pi_list (pc_longer_ones T (hr.mono (by decide)) (by rfl) (pa_cons (pe_fld (pv 0) rfl) (pa_cons (pv 1) (pa_cons (pe_nget hr.units (pv 4) (pv 6) (fun _ _ => rfl)) (pa_cons (pv 6) (pa_cons (pe_nget hr.units (pv 3) (pv 6) (fun _ _ => rfl)) pa_nil))))))) (pg_tup rfl (pgs_cons (pg_name (i := 7) nd rfl (Or.inl rfl)) (pgs_cons (pg_name (i := 8) nd rfl (Or.inl rfl)) pgs_nil))) (pss_cons (ps_nput hr.units (pv 3) (pv 7) (pv 8) rfl)
      (pss_one (ps_if (pt_cmpR (op_neD hr.units) (pc_end_of T (hr.mono (by decide)) (by rfl) (pa_cons (pe_fld (pv 0) rfl) (pa_cons (pv 7) pa_nil))) (pv 2) (nomark _)) (pss_one (ps_expr (pe_bm PySem.F.plainAttrs_list PySem.F.slot_list_append PySem.F.type_list_append mt_append (pv 5) (pa_cons (pv 7) pa_nil)))) pss_nil))))
      (pss_one (ps_set (i := 5) nd rfl (Or.inl rfl) (pe_sortN (iN := 3) (T := tT K) (hr.mono (by decide)) (by rfl) (T.free 58 rfl) (T.free 54 rfl) TB rfl (List.mem_singleton.mpr rfl) (fun p hp _ => by rw [List.mem_singleton.mp hp]; rfl) (keySc_by (sc := defScope s_SeatsMargin_least) (by decide +kernel)) (by rfl) (fun _ _ _ _ _ _ _ => rfl) rfl rfl (pv 5)))))))))))))))), ?_⟩
    have h4 := ok.h4
    refine ⟨_, rfl, ma.way T fun p wa => wa.meth (by decide +kernel) (by decide +kernel) (by decide +kernel) ⟨_, rfl, p, v, W, S, rfl, wa, ok, rs, hl, ht, fun H1 ov o s1 ro iso => ?_⟩⟩
    intro dn hdn
    refine ⟨(by show 0 ≤ sizeLine; decide), fun b0 hb0 => ?_⟩
    have nb : b0 ≠ dn := fun z => by rw [z, upd_same] at hb0; cases hb0
    refine ⟨by rw [upd_ne (fun z => nb z.symm)]; exact upd_same, b0, [], rfl, row_empty, ?_⟩
    have sn : Same H1 (upd (upd (upd H1 dn (DN P w dn [])) b0 (.tup [])) dn (DN P w dn [([], b0, .int 0)])) := Same.at ((Same.new hdn).trans (Same.new hb0)) hdn
    have edn : (upd (upd (upd H1 dn (DN P w dn [])) b0 (.tup [])) dn (DN P w dn [([], b0, .int 0)])) dn = some (DN P w dn [([], b0, .int 0)]) := upd_same
    have rb0 : rRow K (upd (upd (upd H1 dn (DN P w dn [])) b0 (.tup [])) dn (DN P w dn [([], b0, .int 0)])) (.ref b0) [] := ⟨b0, [], rfl, SqT.of (by rw [upd_ne nb]; exact upd_same), .nil⟩
    intro ds hds
    refine ⟨(by show 0 ≤ sizeLine; decide), fun b1 hb1 => ⟨(by show 1 ≤ sizeLine; decide), fun aw haw => ?_⟩⟩
    have nds : dn ≠ ds := ne_of_none edn hds
    have st1 : Same (upd (upd (upd H1 dn (DN P w dn [])) b0 (.tup [])) dn (DN P w dn [([], b0, .int 0)])) (upd (upd (upd (upd H1 dn (DN P w dn [])) b0 (.tup [])) dn (DN P w dn [([], b0, .int 0)])) ds (DN P w ds [])) := Same.new hds
    have st2 : Same (upd (upd (upd (upd H1 dn (DN P w dn [])) b0 (.tup [])) dn (DN P w dn [([], b0, .int 0)])) ds (DN P w ds [])) (upd (upd (upd (upd (upd H1 dn (DN P w dn [])) b0 (.tup [])) dn (DN P w dn [([], b0, .int 0)])) ds (DN P w ds [])) b1 (.tup [])) := Same.new hb1
    have st3 : Same (upd (upd (upd (upd (upd H1 dn (DN P w dn [])) b0 (.tup [])) dn (DN P w dn [([], b0, .int 0)])) ds (DN P w ds [])) b1 (.tup [])) (upd (upd (upd (upd (upd (upd H1 dn (DN P w dn [])) b0 (.tup [])) dn (DN P w dn [([], b0, .int 0)])) ds (DN P w ds [])) b1 (.tup [])) aw (.lst [.ref b1])) := Same.new haw
    have s03 : Same H (upd (upd (upd (upd (upd (upd H1 dn (DN P w dn [])) b0 (.tup [])) dn (DN P w dn [([], b0, .int 0)])) ds (DN P w ds [])) b1 (.tup [])) aw (.lst [.ref b1])) := (((s1.trans sn).trans st1).trans st2).trans st3
    refine ⟨LI K P w W S o H m v ov dn ds, ⟨74, [[]], [], [[]], [.ref b1], aw, none, none, none, rfl, ⟨⟨[([], b0, .int 0)], [], st3 _ _ (st2 _ _ (st1 _ _ edn)), ?_, rfl, ?_, st3 _ _ (st2 _ _ upd_same), (show NKeys K _ [] from fun e he => absurd he List.not_mem_nil), rfl, fun R hR => absurd hR List.not_mem_nil⟩, ExtN.of s03, tabs.ext s03, rLst_stays rInt_stays |>.k (Keep.of (((sn.trans st1).trans st2).trans st3)) ro, nds, FreeN.of (ExtN.of s1) hdn, FreeN.of (ExtN.of (s1.trans sn)) hds⟩,
      upd_same, .cons (rRow_stays.k (Keep.of st3) row_empty) .nil, FreeN.of (ExtN.of (((s1.trans sn).trans st1).trans st2)) haw, Search.start (end_start ok), by simp, by decide, rfl⟩, ?_⟩
    · intro e he
      rw [List.mem_singleton.mp he]
      exact rRow_stays.k (Keep.of ((st1.trans st2).trans st3)) rb0
    · intro R hR
      rw [List.mem_singleton.mp hR]
      rfl
    rintro n σ H' ⟨keys, opened, waiting, xs, aw', x6, x7, x8, rfl, lh, eaw, relw, faw, sr, srt, hkl, hn⟩
    have few := sr.few h4
    obtain ⟨R, tail, rfl⟩ : ∃ R tail, waiting = R :: tail := List.exists_cons_of_ne_nil (sr.some_ (other_ex ok o))
    have hRk : R ∈ keys := sr.wk R List.mem_cons_self
    have val := sr.val R hRk
    have hRo : R ∉ opened := sr.apart R List.mem_cons_self
    obtain ⟨x, xt, rfl, rrx, relt⟩ : ∃ x xt, xs = x :: xt ∧ rRow K H' x R ∧ Paired (rRow K H') xt tail := by
      cases relw with
      | cons h t => exact ⟨_, _, rfl, h, t⟩
    obtain ⟨b, bxs, rfl, hb0', relb⟩ := id rrx
    have rl4 := row_len4 h4 val
    refine ⟨_, rfl, fun σ' H'' => ∃ n', n' < n ∧ LI K P w W S o H m v ov dn ds n' σ' H'', fun σ' H'' h => h, ?_⟩
    refine ⟨_, rfl, aw', _, _, _, rfl, rfl, SqL.of eaw, at_of (j := 0) rfl rfl, ?_⟩
    have ma' := ma.ext lh.ext
    refine ⟨_, rfl, ma'.way T fun p wa => ⟨_, rfl, p, .ref b, W, R, rfl, wa, h4, rrx, by omega, valid_lt val, fun H2 u s2 hu => ⟨rfl, ?_⟩⟩⟩
    have lh2 := lh.same s2
    have rr2 := rRow_stays.k (Keep.of s2) rrx
    have eaw2 := s2 _ _ eaw
    have relt2 : Paired (rRow K H2) xt tail := paired_mono (fun _ _ z => rRow_stays.k (Keep.of s2) z) relt
    have ma2 := ma.ext lh2.ext
    obtain ⟨es, st, a1, a2, a3, a4, a5, a6, a7, a8⟩ := lh2.d
    rcases hu with ⟨hend, rfl⟩ | ⟨e, hend, re⟩
    · refine ⟨false, rfl, iteF ?_⟩
      refine ⟨_, rfl, ds, st, rfl, a5, a6, rfl, ?_⟩
      have hst : st.length = opened.length := by rw [← a7, List.length_map]
      refine ⟨_, rfl, ite2 (fun c => ?_) (fun _ => ?_)⟩
      · have : V.int ((st.length : Nat) : Int) = V.int 100 := by simpa using c
        injection this with e
        omega
      -- states[deeds] = ..
      have hpar : ∀ R' d, R = R' ++ [d] → ∃ u, getN st R' = some u ∧ rState K H2 u (stOf S (W.cnt S R').F (W.cnt S R').G) := fun R' d e => by
        rcases sr.par R hRk with z | ⟨Q', d', e2, hQ⟩
        · rw [z] at e; simp at e
        · obtain ⟨e3, _⟩ := snoc_inj (e.symm.trans e2)
          rw [e3]
          exact a8 Q' hQ
      refine ⟨_, rfl, ma2.way T fun p wa => ⟨_, rfl, _, rfl, _, rfl, p, ds, v, .ref b, W, S, R, st, rfl, wa, ok, rSheet_stays.k (keep_ext lh2.ext) rs, hl, ht, a5, a6, rr2, val, hpar, fun H3 u s3 ru => ?_⟩⟩
      have lh3 := lh2.same s3
      have rr3 := rRow_stays.k (Keep.of s3) rr2
      refine ⟨_, rfl, _, rfl, ds, b, st, R, rfl, rfl, s3 _ _ a5, a6.keep (Keep.of s3), rr3, small1000 (by omega), ?_⟩
      have lh4 := lh3.putS (s3 _ _ a5) (a6.keep (Keep.of s3)) a7 (fun R hR => let ⟨u, h1, h2⟩ := a8 R hR; ⟨u, h1, rState_stays.k (Keep.of s3) h2⟩) rr3 hRo ru
      have k34 : Keep H3 (upd H3 ds (DN P w ds (K75.putN st R b u))) := Keep.ext (s3 _ _ a5)
      have rr4 := rRow_stays.k k34 rr3
      have neaw : aw' ≠ ds := ne_of (s3 _ _ eaw2) (s3 _ _ a5) (fun z => nomatch (show HO.lst _ = HO.ext _ from z))
      have eaw4 : (upd H3 ds (DN P w ds (K75.putN st R b u))) aw' = some (.lst (.ref b :: xt)) := by rw [upd_ne neaw]; exact s3 _ _ eaw2
      have relt4 : Paired (rRow K (upd H3 ds (DN P w ds (K75.putN st R b u)))) xt tail := paired_mono (fun _ _ z => rRow_stays.k ((Keep.of s3).trans k34) z) relt2
      -- waiting = waiting[1:]
      refine ⟨_, rfl, _, rfl, aw', _, rfl, SqL.of eaw4, fun L hL => ?_⟩
      rw [cut_tail]
      have s45 : Same (upd H3 ds (DN P w ds (K75.putN st R b u))) (upd (upd H3 ds (DN P w ds (K75.putN st R b u))) L (.lst xt)) := Same.new hL
      have lh5 := lh4.same s45
      have fL : FreeN H L := FreeN.of lh4.ext hL
      have ma5 := ma.ext lh5.ext
      have rr5 := rRow_stays.k (Keep.of s45) rr4
      have relt5 : Paired (rRow K (upd (upd H3 ds (DN P w ds (K75.putN st R b u))) L (.lst xt))) xt tail := paired_mono (fun _ _ z => rRow_stays.k (Keep.of s45) z) relt4
      obtain ⟨es5, st5, c1, c2, c3, c4, c5, c6, c7, c8⟩ := lh5.d
      obtain ⟨u5, hu5, ru5⟩ := c8 R (List.mem_append_right _ (List.mem_singleton.mpr rfl))
      refine ⟨_, rfl, ma5.way T fun p wa => ⟨_, rfl, _, rfl, _, rfl, ds, b, st5, R, u5, rfl, rfl, .inl c5, c6, rr5, hu5, _, rfl, _, rfl, _, rfl, dn, b, es5, R, .int (W.needRow S R), rfl, rfl, .inl c1, c2, rr5, c4 R hRk, ?_⟩⟩
      refine ⟨p, v, u5, .ref b, W, S, R, W.needRow S R, rfl, wa, ok, rSheet_stays.k (keep_ext lh5.ext) rs, hl, ht, ru5, rr5, val, by omega, fun H6 kv s56 hkv => ?_⟩
      obtain ⟨kl, ks, rfl, kfz, krel⟩ := hkv
      refine ⟨kl, rfl, ⟨_, kfz.sq⟩, ?_⟩
      have lh6 := lh5.same s56
      have eL6 := s56 _ _ (upd_same (H := upd H3 ds (DN P w ds (K75.putN st R b u))) (a := L) (o := .lst xt))
      have relt6 : Paired (rRow K H6) xt tail := paired_mono (fun _ _ z => rRow_stays.k (Keep.of s56) z) relt5
      have hlk : (kids W S R (W.needRow S R)).length = (kidRows W R).length := by rw [← kids_fst W S R (W.needRow S R), List.length_map]
      have h8 := kid_len h4 R
      refine for_list (K := K) (a := kl) (xs := ks) (fun j σ H'' => ∃ x7 x8 ys, σ = [some (.ref m), some v, some ov, some (.ref dn), some (.ref ds), some (.ref L), some (.ref b), x7, x8] ∧ LH K P w W S o H dn ds ov (keys ++ (kidRows W R).take j) (opened ++ [R]) H'' ∧
        H'' L = some (.lst ys) ∧ Paired (rRow K H'') ys (tail ++ ((kidRows W R).take j).filter fun Q => decide (endOf W Q ≠ some o)) ∧ Keep H6 H'') ⟨x7, x8, xt, rfl, by rw [List.take_zero, List.append_nil]; exact lh6, eL6, by rw [List.take_zero, List.filter_nil, List.append_nil]; exact relt6, Keep.refl _⟩ ?_ ?_ ?_
      · rintro j σ H'' _ ⟨_, _, _, _, _, _, _, kp⟩
        exact (kfz.keep kp).sq
      · rintro j x σ H'' hx ⟨x7, x8, ys, rfl, lh7, eL7, rel7, kp⟩
        obtain ⟨⟨R', n'⟩, hq, t, y1, y2, rfl, hsq, hr1, hr2⟩ := paired_get krel hx
        have hr2 : y2 = .int n' := hr2
        subst hr2
        obtain ⟨hq2, hqm⟩ := kid_need (List.mem_of_getElem? hq)
        have hq2 : n' = W.needRow S R' := hq2
        subst hq2
        have hqk : (kidRows W R)[j]? = some R' := by rw [← kids_fst W S R (W.needRow S R), List.getElem?_map, hq]; rfl
        have hqm : R' ∈ kidRows W R := hqm
        obtain ⟨dd, hdd, hdm⟩ := kid_mem.mp hqm
        have val' : Valid W R' := by rw [hdd]; exact .snoc val hend hdm
        have rl4' := row_len4 h4 val'
        have fresh : R' ∉ keys ++ (kidRows W R).take j := fun z => by
          rcases List.mem_append.mp z with z | z
          · rw [hdd] at z
            exact sr.fresh dd z
          · have nd2 : ((kidRows W R).take (j + 1)).Nodup := (kid_nd W R).sublist (List.take_sublist _ _)
            rw [take_snoc hqk, List.nodup_append] at nd2
            exact nd2.2.2 R' z R' (List.mem_singleton.mpr rfl) rfl
        have ekeys : keys ++ (kidRows W R).take (j + 1) = (keys ++ (kidRows W R).take j) ++ [R'] := by rw [take_snoc hqk, List.append_assoc]
        have efil : ((kidRows W R).take (j + 1)).filter (fun Q => decide (endOf W Q ≠ some o)) = ((kidRows W R).take j).filter (fun Q => decide (endOf W Q ≠ some o)) ++ (if decide (endOf W R' ≠ some o) = true then [R'] else []) := by
          rw [take_snoc hqk, List.filter_append, List.filter_cons, List.filter_nil]
        have rr7 := rRow_stays.k kp hr1
        obtain ⟨b', bxs', rfl, _, _⟩ := id rr7
        have hyl : ys.length ≤ 700 := by
          rw [paired_len rel7, List.length_append]
          have q1 := nodup_le sr.wnd sr.wk
          have q2 := List.length_filter_le (fun Q => decide (endOf W Q ≠ some o)) ((kidRows W R).take j)
          rw [List.length_take] at q2
          rw [List.length_cons] at q1
          omega
        obtain ⟨es7, st7, d1, d2, d3, d4, _⟩ := lh7.d
        have hel : es7.length ≤ 700 := by
          have := congrArg List.length d3
          rw [List.length_map, List.length_append, List.length_take] at this
          omega
        refine ⟨t, _, rfl, sqt_keep kp hsq, rfl, _, _, rfl, _, _, rfl, rfl, ?_⟩
        refine ⟨_, rfl, _, rfl, _, rfl, dn, b', es7, R', rfl, rfl, d1, d2, rr7, small1000 (by omega), ?_⟩
        have lh8 := lh7.putN d1 d2 d3 d4 rr7 fresh
        have k78 : Keep H'' (upd H'' dn (DN P w dn (K75.putN es7 R' b' (.int (W.needRow S R'))))) := Keep.ext d1
        have rr8 := rRow_stays.k k78 rr7
        have neL : L ≠ dn := ne_of eL7 d1 (fun z => nomatch (show HO.lst _ = HO.ext _ from z))
        have eL8 : (upd H'' dn (DN P w dn (K75.putN es7 R' b' (.int (W.needRow S R'))))) L = some (.lst ys) := by rw [upd_ne neL]; exact eL7
        refine ⟨_, rfl, (ma.ext lh8.ext).way T fun p wa => ⟨_, rfl, p, .ref b', W, R', rfl, wa, h4, rr8, by omega, valid_lt val', fun H9 u9 s9 hu9 => ⟨_, rfl, ?_⟩⟩⟩
        have lh9 := lh8.same s9
        have eL9 := s9 _ _ eL8
        have rr9 := rRow_stays.k (Keep.of s9) rr8
        have rel9 : Paired (rRow K H9) ys (tail ++ ((kidRows W R).take j).filter fun Q => decide (endOf W Q ≠ some o)) := paired_mono (fun _ _ z => rRow_stays.k (k78.trans (Keep.of s9)) z) rel7
        have kp9 := (kp.trans k78).trans (Keep.of s9)
        obtain ⟨oa, oxs, rfl, ofz, orel⟩ := lh9.ro
        rcases hu9 with ⟨hend', rfl⟩ | ⟨e', hend', re'⟩
        · have hp : decide (endOf W R' ≠ some o) = true := decide_eq_true (by rw [hend']; exact fun z => nomatch z)
          refine ⟨.none, dInts o, .non, .lst ofz.sq (ints_dp orel), rfl, dInts_shaped _, ?_⟩
          rw [show PyData.eqv .none (dInts o) = false by simp [dInts, PyData.eqv]]
          refine ⟨true, rfl, iteT ?_⟩
          refine ⟨_, rfl, .inl ⟨rfl, _, SqL.of eL9⟩, _, rfl, L, ys, .ref b', rfl, rfl, eL9, small1000 (by omega), some (.ref b'), some (.int (W.needRow S R')), ys ++ [.ref b'], rfl, ?_, upd_same, ?_, (kp9).trans (Keep.lst eL9)⟩
          · rw [ekeys]
            exact lh9.lst eL9 fL
          · rw [efil, if_pos hp]
            rw [← List.append_assoc]
            exact paired_snoc (paired_mono (fun _ _ z => rRow_stays.k (Keep.lst eL9) z) rel9) (rRow_stays.k (Keep.lst eL9) rr9)
        · obtain ⟨ea, exs, rfl, efz, erel⟩ := re'
          refine ⟨dInts e', dInts o, .lst efz.sq (ints_dp erel), .lst ofz.sq (ints_dp orel), dInts_shaped _, dInts_shaped _, ?_⟩
          rw [dInts_eqv]
          refine ⟨_, rfl, ite2 (fun c => ?_) (fun c => ?_)⟩
          · have hp : decide (endOf W R' ≠ some o) = true := decide_eq_true (by
              rw [hend']
              intro z
              have : e' = o := Option.some.inj z
              simp [this] at c)
            refine ⟨_, rfl, .inl ⟨rfl, _, SqL.of eL9⟩, _, rfl, L, ys, .ref b', rfl, rfl, eL9, small1000 (by omega), some (.ref b'), some (.int (W.needRow S R')), ys ++ [.ref b'], rfl, ?_, upd_same, ?_, (kp9).trans (Keep.lst eL9)⟩
            · rw [ekeys]
              exact lh9.lst eL9 fL
            · rw [efil, if_pos hp]
              rw [← List.append_assoc]
              exact paired_snoc (paired_mono (fun _ _ z => rRow_stays.k (Keep.lst eL9) z) rel9) (rRow_stays.k (Keep.lst eL9) rr9)
          · have hp : ¬ decide (endOf W R' ≠ some o) = true := by
              have : e' = o := by simpa using c
              rw [hend', this]
              simp
            refine ⟨some (.ref b'), some (.int (W.needRow S R')), ys, rfl, by rw [ekeys]; exact lh9, eL9, ?_, kp9⟩
            rw [efil, if_neg hp, List.append_nil]
            exact rel9
      · rintro σ H10 ⟨x7, x8, ys, rfl, lh10, eL10, rel10, kp⟩
        have ekl : ks.length = (kidRows W R).length := by rw [paired_len krel, hlk]
        rw [ekl, List.take_length] at lh10 rel10
        have sr' := sr.open_ hend (kid_nd W R) (fun Q => kid_mem)
        obtain ⟨es10, st10, d1, d2, d3, d4, _⟩ := lh10.d
        have hyl : ys.length ≤ 700 := by
          rw [paired_len rel10, List.length_append]
          have q1 := nodup_le sr.wnd sr.wk
          have q2 := List.length_filter_le (fun Q => decide (endOf W Q ≠ some o)) (kidRows W R)
          rw [List.length_cons] at q1
          omega
        refine ⟨_, rfl, L, ys, _, dn, es10, W.needRow S, rfl, eL10, rel10, by omega, rfl, d1, d2, lh10.tabs, fun Q hQ => d4 Q (sr'.wk Q hQ), fun H11 pp ys' Rs' eN kp11 T11 fpp e11 rel11 perm srt11 => ?_⟩
        refine ⟨n - 1, by omega, keys ++ kidRows W R, opened ++ [R], Rs', ys', pp, some (.ref b), x7, x8, rfl, lh10.grow eN T11, e11, rel11, FreeN.back lh10.ext fpp, sr'.perm perm, srt11, ?_, ?_⟩
        · rw [List.length_append, List.length_append, List.length_singleton]
          omega
        · rw [List.length_append, List.length_singleton]
          omega
    · obtain ⟨ra, rxs, rfl, _, _⟩ := re
      refine ⟨true, rfl, iteT ?_⟩
      have hmz : ∀ e ∈ es, (∃ m : Int, e.2.2 = .int m) ∧ e.1.length ≤ 60 ∧ (∀ x ∈ e.1, x.2 < W.hands) ∧ (∀ R' x, e.1 = R' ++ [x] → ∃ m : Int, getN es R' = some (.int m)) := fun e he => by
        have hk : e.1 ∈ keys := by rw [← a3]; exact List.mem_map.mpr ⟨e, he, rfl⟩
        have v := sr.val _ hk
        have g1 := getN_mem (by rw [a3]; exact sr.knd) he
        rw [a4 _ hk] at g1
        refine ⟨⟨_, (Option.some.inj g1).symm⟩, by have := row_len4 h4 v; omega, valid_lt v, fun R' x e2 => ?_⟩
        rcases sr.par _ hk with z | ⟨Q', d', e3, hQ⟩
        · rw [z] at e2; simp at e2
        · obtain ⟨e4, _⟩ := snoc_inj (e2.symm.trans e3)
          rw [e4]
          exact ⟨_, a4 Q' (sr.ok Q' hQ)⟩
      have hel : es.length ≤ 900 := by
        have := congrArg List.length a3
        rw [List.length_map] at this
        omega
      refine ⟨_, rfl, _, rfl, dn, b, es, R, .int (W.needRow S R), rfl, rfl, .inl a1, a2, rr2, a4 R hRk, ?_⟩
      refine ⟨_, rfl, ma2.way T fun p wa => ?_⟩
      refine ⟨_, rfl, dn, _, rfl, a1, trivial, fun od => ?_⟩
      have kz : Keep H2 (upd H2 dn (.frz od (DN P w dn es))) := Keep.ext a1
      refine ⟨_, rfl, _, rfl, _, rfl, dn, b, es, R, .int (W.needRow S R), rfl, rfl, .inr ⟨od, upd_same⟩, a2.keep kz, rRow_stays.k kz rr2, a4 R hRk, ?_⟩
      refine ⟨p, dn, od, ov, W, es, o, W.needRow S R, rfl, wa.at_ext a1, h4, upd_same, a2.keep kz, hel, rLst_stays rInt_stays |>.k kz lh2.ro, hmz, fun H3 l s3 => ⟨(by show 2 ≤ sizeLine; decide), fun t ht => ?_⟩⟩
      have sz := s3.trans (Same.new ht (o := .tup [.int (W.needRow S R), .ref l]))
      refine k _ t (.ref l) (W.needRow S R) o ((ext_at lh2.ext lh2.fn).trans (ExtN.of sz)) ((tabs_dn lh2.tabs a1).ext sz) sqt_new iso (sr.found srt hend)
end
end K75
-- K20
/-! margins: made, possible, held. -/
namespace K75
open PySem PySem.Spec PyProof.Rows L2 LamX
theorem pq_SeatsMargin_least {K : PySem.W.Frag} {mg : Str → Option Value} (T : Tx K mg) {X : Cx} (TB : TabB X.base mg (He.cT K leastAt).1 (He.cT K leastAt).2) (hr : Room 10 X.A) {pl : Sem Bool} {apos pos : Pos} {o e : Expr} {es : List Expr} {ta : TE} {t : TA} (ho : PE X o ta) (ha : PA X (e :: es) t) (hK : X.K = K := by rfl) (hM : X.mg = mg := by rfl) (he : starEach (e :: es) X.env = (false, eval e X.env) :: starEach es X.env := by rfl) (hpl : (backTo pos (starEach es X.env)).any (·.1) = false := by rfl)
    (ht : eval (.Call (.Attribute o "least" apos) (e :: es) [] pos) X.env = (do
      let ov ← eval o X.env
      standAt apos.atName
      let (f, first) ← holding [ov] (getMethod ov "least" pl)
      callWith pos f first (backTo pos (starEach (e :: es) X.env)) (backToKw pos (keywordEach [] X.env))) := by rfl) :
    PE X (.Call (.Attribute o "least" apos) (e :: es) [] pos) (tMeth (He.ga K "SeatsMargin") "least" (sp_SeatsMargin_least K) [] E0 ta t) := by
  subst hK hM
  obtain ⟨fd, F⟩ := T.says.def_ 53 (d := d_SeatsMargin_least) rfl
  exact pe_meth ho (T.cls_SeatsMargin) (T.meth_ 87 rfl) (ok_SeatsMargin_least T TB F) hr (F.bindsN fun _ _ _ _ _ _ us hl => match us, hl with | [_, _], _ => rfl) .nil pass0 ha he hpl ht
section
variable {P : Program} {w : World} {K : PySem.W.Frag} {mg : Str → Option Value} {base : Heap}
theorem MarAt.meth {H : Hp} {a : Addr} {W : Hall} (h : MarAt K H a W) {m : Str} (h1 : ¬ m = "way") {Q : Prop} (q : Q) : ∃ b dx fs, V.ref a = .ref b ∧ H b = some (.ins (He.ga K "SeatsMargin") dx fs) ∧ fs.lookup m = none ∧ Q :=
  let ⟨dx, p, e, _⟩ := h.ob; ⟨a, dx, _, rfl, e, by rw [lookup_putF, if_neg h1]; rfl, q⟩
def sp_Margin_init (K : PySem.W.Frag) : Sp := fun vs H Q _ => ∃ (m p dx : Addr), vs = [.ref m, .ref p] ∧ H m = some (.ins (He.ga K "SeatsMargin") dx []) ∧
  ∀ H', (∀ b o, H b = some o → b ≠ m → H' b = some o) → H' m = some (.ins (He.ga K "SeatsMargin") dx (putF "way" (.ref p) [])) → Q .non H'
abbrev N_Margin_init : List Str := ["self", "way"]
theorem sc_Margin_init : FnScope N_Margin_init ["self", "way"] (defScope s_Margin_init) := ⟨rfl, rfl, rfl, by decide +kernel, rfl, by decide +kernel, by decide +kernel⟩
theorem ok_Margin_init (T : Tx K mg) {fd : FuncData} (F : FnD K d_Margin_init fd) : FnOk P w K mg base CX0 1 (He.fAd K d_Margin_init.at_) fd ["self", "way"] (sp_Margin_init K) := by
  have nd := sc_Margin_init.nd
  refine okx F sc_Margin_init (fun vs H Q E h => ?_) (fun cdv A outer s H vs Q E hr h => ?_)
  · obtain ⟨m, p, dx, rfl, _⟩ := h
    rfl
  · obtain ⟨m, p, dx, rfl, hm, k⟩ := h
    refine ⟨_, (pss_one (ps_fld (pv 0) (pv 1) rfl)), ?_⟩
    refine ⟨_, rfl, _, rfl, m, _, dx, _, rfl, hm, T.cls_SeatsMargin, T.noat 83 rfl, (by show 0 < 1000; decide), ?_⟩
    exact k _ (fun b o e hb => by rw [upd_ne hb]; exact e) upd_same
theorem pm_SeatsMargin {K : PySem.W.Frag} {mg : Str → Option Value} (T : Tx K mg) {X : Cx} (hr : Room 2 X.A) (hg : Gl X "SeatsMargin") {p pos : Pos} {e : Expr} {es : List Expr} {t : TA} (ha : PA X (e :: es) t) (hK : X.K = K := by rfl) (hM : X.mg = mg := by rfl) (he : starEach (e :: es) X.env = (false, eval e X.env) :: starEach es X.env := by rfl) (hpl : (backTo pos (starEach es X.env)).any (·.1) = false := by rfl) :
    PE X (.Call (.Name "SeatsMargin" p) (e :: es) [] pos) (tMake (He.ga K "SeatsMargin") (sp_Margin_init K) [] E0 t) := by
  subst hK hM
  obtain ⟨fd, F⟩ := T.says.def_ 50 (d := d_Margin_init) rfl
  exact pe_make (T.mkr 84 rfl) (ok_Margin_init T F) hr hg (T.glo 51 rfl) (F.bindsN fun _ _ _ _ _ _ us hl => match us, hl with | [_, _], _ => rfl) .nil pass0 ha (by decide) he hpl
def sp_Margin_possible (K : PySem.W.Frag) : Sp := fun vs H Q _ => ∃ (m : Addr) (v : V) (W : Hall) (S : Sheet), vs = [.ref m, v] ∧ MarAt K H m W ∧ HallOk W ∧ rSheet K H v S ∧ S.length ≤ 100 ∧ ∀ H', Same H H' → Q (.bl (decide (0 < total S))) H'
abbrev N_Margin_possible : List Str := ["self", "sheet"]
theorem sc_Margin_possible : FnScope N_Margin_possible ["self", "sheet"] (defScope s_Margin_possible) := ⟨rfl, rfl, rfl, by decide +kernel, rfl, by decide +kernel, by decide +kernel⟩
theorem ok_Margin_possible (T : Tx K mg) {fd : FuncData} (F : FnD K d_Margin_possible fd) : FnOk P w K mg base CX0 2 (He.fAd K d_Margin_possible.at_) fd ["self", "sheet"] (sp_Margin_possible K) := by
  have nd := sc_Margin_possible.nd
  refine okx F sc_Margin_possible (fun vs H Q E h => ?_) (fun cdv A outer s H vs Q E hr h => ?_)
  · obtain ⟨m, v, W, S, rfl, _⟩ := h
    rfl
  · obtain ⟨m, v, W, S, rfl, ma, ok, rs, hl, k⟩ := h
    refine ⟨_, (pss_one (ps_ret (pe_and (pe_cmpR op_gt (pc_ballots_in T (hr.mono (by decide)) (by rfl) (pa_cons (pv 1) pa_nil)) pe_int (nomark _)) (pe_one (pe_cmpR op_gt (pe_fld (pe_fld (pv 0) rfl) rfl) (pe_fld (pe_fld (pv 0) rfl) rfl) (nomark _)))))), ?_⟩
    have hsh := ok.sh
    refine ⟨_, rfl, v, S, rfl, rs, hl, fun H1 s1 => ⟨_, _, rfl, rfl, ?_⟩⟩
    have ma1 := ma.same s1
    refine ⟨_, rfl, ite2 (fun c => ?_) (fun c => ?_)⟩
    · refine ⟨_, rfl, ma1.way T fun p wa => wa.hands T ⟨_, rfl, ma1.way T fun p2 wa2 => wa2.seats T ⟨_, _, rfl, rfl, ?_⟩⟩⟩
      have e1 : decide ((W.seats : Int) < (W.hands : Int)) = true := decide_eq_true (by omega)
      show Q (.bl (decide ((W.seats : Int) < (W.hands : Int)))) H1
      rw [e1]
      have e2 : decide (0 < total S) = true := by
        have : (0 : Int) < (total S : Nat) := by simpa using c
        exact decide_eq_true (by omega)
      rw [← e2]
      exact k H1 s1
    · have e2 : decide (0 < total S) = false := by
        have : ¬ (0 : Int) < (total S : Nat) := by simpa using c
        exact decide_eq_false (by omega)
      rw [← e2]
      exact k H1 s1
theorem pq_Margin_possible {K : PySem.W.Frag} {mg : Str → Option Value} (T : Tx K mg) {X : Cx} (hr : Room 2 X.A) {pl : Sem Bool} {apos pos : Pos} {o e : Expr} {es : List Expr} {ta : TE} {t : TA} (ho : PE X o ta) (ha : PA X (e :: es) t) (hK : X.K = K := by rfl) (hM : X.mg = mg := by rfl) (he : starEach (e :: es) X.env = (false, eval e X.env) :: starEach es X.env := by rfl) (hpl : (backTo pos (starEach es X.env)).any (·.1) = false := by rfl)
    (ht : eval (.Call (.Attribute o "possible" apos) (e :: es) [] pos) X.env = (do
      let ov ← eval o X.env
      standAt apos.atName
      let (f, first) ← holding [ov] (getMethod ov "possible" pl)
      callWith pos f first (backTo pos (starEach (e :: es) X.env)) (backToKw pos (keywordEach [] X.env))) := by rfl) :
    PE X (.Call (.Attribute o "possible" apos) (e :: es) [] pos) (tMeth (He.ga K "SeatsMargin") "possible" (sp_Margin_possible K) [] E0 ta t) := by
  subst hK hM
  obtain ⟨fd, F⟩ := T.says.def_ 51 (d := d_Margin_possible) rfl
  exact pe_meth ho (T.cls_SeatsMargin) (T.meth_ 85 rfl) (ok_Margin_possible T F) hr (F.bindsN fun _ _ _ _ _ _ us hl => match us, hl with | [_, _], _ => rfl) .nil pass0 ha he hpl ht
/-- what held answers -/
def HeldIs (W : Hall) (S : Sheet) (u : Nat) (b : Bool) : Prop := ((u = 0 ∨ total S = 0) ∧ b = true) ∨ (u ≠ 0 ∧ total S ≠ 0 ∧ ∃ low o, IsOutcome W S o ∧ IsLow W S o low ∧ b = decide ((u : Int) < low))
def sp_Margin_held (K : PySem.W.Frag) : Sp := fun vs H Q _ => ∃ (m : Addr) (sv v : V) (W : Hall) (S : Sheet) (u : Nat), vs = [.ref m, sv, .int (u : Int), v] ∧ MarAt K H m W ∧ HallOk W ∧ rSheet K H v S ∧ S.length ≤ 100 ∧ total S ≤ 2 ^ 50 ∧ Tabs (tT K) H ∧
  ∀ H' b, ExtN H H' → Tabs (tT K) H' → HeldIs W S u b → Q (.bl b) H'
abbrev N_Margin_held : List Str := ["self", "seen", "unseen", "known", "low", "paper"]
theorem sc_Margin_held : FnScope N_Margin_held ["self", "seen", "unseen", "known"] (defScope s_Margin_held) := ⟨rfl, rfl, rfl, by decide +kernel, rfl, by decide +kernel, by decide +kernel⟩
theorem ok_Margin_held (T : Tx K mg) (TB : TabB base mg (He.cT K leastAt).1 (He.cT K leastAt).2) {fd : FuncData} (F : FnD K d_Margin_held fd) : FnOk P w K mg base CX0 11 (He.fAd K d_Margin_held.at_) fd ["self", "seen", "unseen", "known"] (sp_Margin_held K) := by
  have nd := sc_Margin_held.nd
  refine okx F sc_Margin_held (fun vs H Q E h => ?_) (fun cdv A outer s H vs Q E hr h => ?_)
  · obtain ⟨m, sv, v, W, S, u, rfl, _⟩ := h
    rfl
  · obtain ⟨m, sv, v, W, S, u, rfl, ma, ok, rs, hl, ht, tabs, k⟩ := h
    refine ⟨_, (pss_cons (ps_if (PW.pt (pw_or (pt_cmpR op_eq (pv 2) pe_int (nomark _)) (pw_or1 (pt_not (pt_val (pq_Margin_possible T (hr.mono (by decide)) (pv 0) (pa_cons (pv 3) pa_nil))))))) (pss_one (ps_ret pe_bl)) pss_nil)
      (pss_one (ps_try_never (fun _ _ z => z) (pss_one (ps_asg (pq_SeatsMargin_least T TB (hr.mono (by decide)) (pv 0) (pa_cons (pv 3) pa_nil)) (pg_tup rfl (pgs_cons (pg_name (i := 4) nd rfl (Or.inl rfl)) (pgs_cons (pg_name (i := 5) nd rfl (Or.inl rfl)) pgs_nil))))) (pss_one (ps_ret (pe_cmpR op_gt (pv 4) (pv 2) (nomark _))))))), ?_⟩
    refine ⟨_, rfl, rfl, _, rfl, ite2 (fun c => ?_) (fun c => ?_)⟩
    · have c' : V.int (u : Int) = V.int 0 := by simpa using c
      injection c' with e
      exact k H true (ExtN.refl H) tabs (.inl ⟨.inl (by omega), rfl⟩)
    · have c' : u ≠ 0 := fun z => c (by rw [z]; simp)
      refine ⟨_, rfl, ma.meth (by decide +kernel) ⟨_, rfl, m, v, W, S, rfl, ma, ok, rs, hl, fun H1 s1 => ⟨_, rfl, ite2 (fun d => ?_) (fun d => ?_)⟩⟩⟩
      · have d' : total S = 0 := by
          have : ¬ 0 < total S := by simpa using d
          omega
        exact k H1 true (ExtN.of s1) (tabs.ext s1) (.inl ⟨.inr d', rfl⟩)
      · have d' : total S ≠ 0 := by
          intro z
          apply d
          rw [z]
          rfl
        have ma1 := ma.same s1
        refine ⟨_, rfl, ma1.meth (by decide +kernel) ⟨_, rfl, m, v, W, S, rfl, ma1, ok, rSheet_stays.k (Keep.of s1) rs, hl, ht, tabs.ext s1, fun H2 t x low o eN T2 hsq iso isl => ?_⟩⟩
        refine ⟨t, _, rfl, hsq, rfl, _, _, rfl, _, _, rfl, rfl, ?_⟩
        refine ⟨_, rfl, _, rfl, _, _, rfl, rfl, ?_⟩
        exact k H2 _ ((ExtN.of s1).trans eN) T2 (.inr ⟨c', d', low, o, iso, isl, rfl⟩)
theorem pq_Margin_held {K : PySem.W.Frag} {mg : Str → Option Value} (T : Tx K mg) {X : Cx} (TB : TabB X.base mg (He.cT K leastAt).1 (He.cT K leastAt).2) (hr : Room 11 X.A) {pl : Sem Bool} {apos pos : Pos} {o e : Expr} {es : List Expr} {ta : TE} {t : TA} (ho : PE X o ta) (ha : PA X (e :: es) t) (hK : X.K = K := by rfl) (hM : X.mg = mg := by rfl) (he : starEach (e :: es) X.env = (false, eval e X.env) :: starEach es X.env := by rfl) (hpl : (backTo pos (starEach es X.env)).any (·.1) = false := by rfl)
    (ht : eval (.Call (.Attribute o "held" apos) (e :: es) [] pos) X.env = (do
      let ov ← eval o X.env
      standAt apos.atName
      let (f, first) ← holding [ov] (getMethod ov "held" pl)
      callWith pos f first (backTo pos (starEach (e :: es) X.env)) (backToKw pos (keywordEach [] X.env))) := by rfl) :
    PE X (.Call (.Attribute o "held" apos) (e :: es) [] pos) (tMeth (He.ga K "SeatsMargin") "held" (sp_Margin_held K) [] E0 ta t) := by
  subst hK hM
  obtain ⟨fd, F⟩ := T.says.def_ 52 (d := d_Margin_held) rfl
  exact pe_meth ho (T.cls_SeatsMargin) (T.meth_ 86 rfl) (ok_Margin_held T TB F) hr (F.bindsN fun _ _ _ _ _ _ us hl => match us, hl with | [_, _, _, _], _ => rfl) .nil pass0 ha he hpl ht
end
end K75
-- KTup
/-! sorted(d) of a dict whose keys are tuples of ints, the empty one among them. -/
namespace K75
open PySem PySem.Calls PySem.Spec PySem.W PyProof.Rows PySem.SeqAt
section
variable {A : Around} {s : Shared}
theorem call_tuple_lt {prog : Program} {w : World} {E : Value → Shared → Prop} {Q : Value → Shared → Prop} {l b : Addr} {items items2 : Array Value} {e r : Nat → Bool} (hl : s.heap.IsTuple l items) (hb : s.heap.IsTuple b items2)
    (he : ∀ j (h1 : j < items.size) (h2 : j < items2.size), EqAt A.in1 s items[j] items2[j] (e j)) (hr : ∀ j (h1 : j < items.size) (h2 : j < items2.size), e j = false → RcLt A.in1 s items[j] items2[j] (r j))
    (h : Q (.bool (firstLt e r (decide (items.size < items2.size)) (List.range (min items.size items2.size)))) s) : wpAny (model prog w) A (call (.builtin "tuple.__lt__") [.ref l, .ref b]) Q E s := by
  obtain ⟨⟨cls, dd, data, sl⟩, ho, hc, n, hd⟩ := id hl
  obtain ⟨⟨cls2, dd2, data2, sl2⟩, ho2, hc2, n2, hd2⟩ := id hb
  simp only at hc hd hc2 hd2
  subst hc hd hc2 hd2
  exact call_meets F.slot_tuple_lt ⟨_, ho, rfl⟩ F.entry_tuple_lt (F.args_tuple_lt_2 _ _) (tuple_ltAt l b items items2 n n2 dd dd2 sl sl2 e r) ⟨ho, ho2, he, hr, h⟩
end
section
variable {prog : Program} {w : World} {A : Around} {E : Value → Shared → Prop} {s : Shared}
theorem oneLt_tup {xs ys : List PyData} {a b : Value} {as bs : List Addr} {Q : Bool → Shared → Prop} (ra : Reads s.heap a (.tuple xs) as) (rb : Reads s.heap b (.tuple ys) bs) (h : alike (.tuple xs) (.tuple ys) = true)
    (hu : A.units + min (PyData.tuple xs).depth (PyData.tuple ys).depth < cLine) (hq : Q (dataLt (.tuple xs) (.tuple ys)) s) : wpAny (model prog w) A (oneLt' true a b) Q E s := by
  have hal : alikeAll xs ys = true := by simpa [alike] using h
  cases ra with
  | @tuple l o vs n _ as₁ h1 h2 h3 h4 =>
    cases rb with
    | @tuple l' o' vs' n' _ bs₁ k1 k2 k3 k4 =>
      have n1 : vs.size = xs.length := by simpa using ReadsAll.length _ _ _ h4
      have n2 : vs'.size = ys.length := by simpa using ReadsAll.length _ _ _ k4
      rw [dataLt_tuple, ← firstLt_toks xs ys hal, ← n1, ← n2] at hq
      rw [oneLt'_eq]
      simp only [if_true]
      refine wpAny_bind (wpAny_cRoomFor (room_here hu) ?_)
      refine wpAny_bind (wpAny_callSpecialIfBound?_slot (T := "tuple") ⟨_, h1, h2⟩ F.slot_tuple_lt (call_tuple_lt (e := pairEq xs ys) (r := fun j => dataLt (xs.getD j .none) (ys.getD j .none)) ⟨_, h1, h2, _, h3⟩ ⟨_, k1, k2, _, k3⟩ (fun j j1 j2 => ?_) (fun j j1 j2 hj => ?_) ?_))
      · have := eqAt_alikeAll xs ys A.in1 s vs.toList vs'.toList _ _ h4 k4 hal (room_in hu) j (by simpa using j1) (by simpa using j2)
        simpa using this
      · have := rcLt_alikeAll xs ys A.in1 s vs.toList vs'.toList _ _ h4 k4 hal (room_in hu) j (by simpa using j1) (by simpa using j2) hj
        simpa using this
      · exact wpAny_truthy_bool hq
/-- the item in front -/
noncomputable def front (h : Heap) (v : Value) : Option Value := match v with
  | .ref a => match h.get? a with
    | some o => match o.data with
      | .seq xs _ => xs[0]?
      | _ => none
    | none => none
  | _ => none
theorem mapM_each {M : Model} {α β : Type} {f : α → Sem β} {g : α → β} : ∀ (l : List α) {Q : List β → Shared → Prop}, (∀ v ∈ l, ∀ (Q' : β → Shared → Prop), Q' (g v) s → wpAny M A (f v) Q' E s) → Q (l.map g) s → wpAny M A (l.mapM f) Q E s
  | [], _, _, h => by rw [List.mapM_nil]; exact wpAny_pure h
  | x :: l, Q, hf, h => by
    rw [List.mapM_cons]
    exact wpAny_bind (hf x (.head _) _ (wpAny_bind (mapM_each l (Q := fun bs s' => wpAny M A (pure (g x :: bs)) Q E s') (fun v hv => hf v (.tail _ hv)) (wpAny_pure h))))
theorem front_reads {h : Heap} {v : Value} {xs : List PyData} {as : List Addr} (r : Reads h v (.tuple xs) as) : ((front h v).isSome = true ↔ xs ≠ []) ∧ ∃ a o ys n, v = .ref a ∧ h.get? a = some o ∧ o.cls = .type "tuple" ∧ o.data = .seq ys n ∧ front h v = ys[0]? := by
  cases r with
  | @tuple a o vs n _ _ h1 h2 h3 h4 =>
    have e : front h (.ref a) = vs[0]? := by
      unfold front
      simp only [h1, h3]
    have n1 : vs.size = xs.length := by simpa using ReadsAll.length _ _ _ h4
    refine ⟨?_, a, o, vs, n, rfl, h1, h2, h3, e⟩
    rw [e]
    cases xs with
    | nil =>
      have : vs.size = 0 := n1
      simp [this]
    | cons x r =>
      have : 0 < vs.size := by rw [n1]; exact Nat.succ_pos _
      simp [this]
theorem keyLt'_general (x y : Value) : keyLt' general' x y = oneLt' false x y := rfl
/-- tuples, an empty one among them -/
theorem sortsAt_tups {vs : List Value} {ds : List PyData} (e : EachIs (fun v d => ∃ as, Reads s.heap v d as) vs ds) (hal : AllAlike ds) (ht : ∀ d ∈ ds, ∃ xs, d = .tuple xs) (hn : PyData.tuple [] ∈ ds) (hu : ∀ d, d ∈ ds → A.units + d.depth < cLine) :
    SortsAt prog w A s (dataKind s.heap ds) vs := by
  have room : ∀ {d d' : PyData}, d ∈ ds → A.units + min d.depth d'.depth < cLine := fun {d d'} hd => Nat.lt_of_le_of_lt (Nat.add_le_add_left (Nat.min_le_left _ _) _) (hu d hd)
  have tup : ∀ v ∈ vs, ∃ xs as, Reads s.heap v (.tuple xs) as := fun v hv => by
    obtain ⟨d, hd, as, r⟩ := e.left v hv
    obtain ⟨xs, rfl⟩ := ht d hd
    exact ⟨xs, as, r⟩
  have ask : ∀ (E : Value → Shared → Prop) {Q : List (Option Value) → Shared → Prop}, Q (vs.map (front s.heap)) s → wpAny (model prog w) A (vs.mapM firstOfTuple') Q E s := fun E Q h => by
    refine mapM_each vs (fun v hv Q' hq => ?_) h
    obtain ⟨xs, as, r⟩ := tup v hv
    obtain ⟨_, a, o, ys, n, rfl, ho, hc, hd, ef⟩ := front_reads r
    rw [kas_first_eq]
    refine wpAny_bind (Looks.here (show Looks _ s.heap (typeOf (.ref a)) o.cls from (Looks.ld ho).andThen .now) ?_)
    rw [hc, if_neg (by first | decide | simp)]
    refine wpAny_bind (listItems_at ho hd (wpAny_pure ?_))
    rw [← ef]
    exact hq
  have nall : ((vs.map (front s.heap)).toArray.all fun x => x.isSome) = false := by
    obtain ⟨v, hv, as, r⟩ : ∃ v ∈ vs, ∃ as, Reads s.heap v (.tuple []) as := by
      clear hal ht hu room tup ask
      induction e with
      | nil => cases hn
      | cons h t ih =>
        rcases List.mem_cons.mp hn with e1 | hn
        · subst e1
          exact ⟨_, List.mem_cons_self .., h⟩
        · obtain ⟨v, hv, q⟩ := ih hn
          exact ⟨v, List.mem_cons_of_mem _ hv, q⟩
    have q := (front_reads r).1
    have q2 : (front s.heap v).isSome = false := by
      cases hx : (front s.heap v).isSome with
      | true => exact absurd rfl (q.mp hx)
      | false => rfl
    rw [List.all_toArray, List.all_map, List.all_eq_false]
    exact ⟨v, hv, by simp [q2]⟩
  refine ⟨fun v hv => ?_, ?_⟩
  · obtain ⟨d, hd, as, r⟩ := e.left v hv
    exact ⟨_, dataKind_some hal hd r⟩
  · by_cases hc : (((vs.map (front s.heap)).toArray[0]?.bind id).isSome) = true
    · refine ⟨general', ?_, fun h2 E Q hq => ?_⟩
      · intro E x y a b Q ha hb hq
        obtain ⟨d, as, hd, ra, rfl⟩ := dataKind_inv ha
        obtain ⟨d', as', hd', rb, rfl⟩ := dataKind_inv hb
        rw [keyLt'_general]
        obtain ⟨xs, rfl⟩ := ht d hd
        exact oneLt_alike (f := false) (fun h => nomatch h) ra rb (hal _ hd d' hd') (fun h => nomatch h) (room hd) hq
      · rw [keyKind'_eq, List.mapM_toArray, map_eq_pure_bind]
        refine wpAny_bind (wpAny_bind (ask E (wpAny_pure ?_)))
        rw [if_neg (by rw [nall]; decide), if_pos hc]
        exact wpAny_pure hq
    · refine ⟨oneType', ?_, fun h2 E Q hq => ?_⟩
      · intro E x y a b Q ha hb hq
        obtain ⟨d, as, hd, ra, rfl⟩ := dataKind_inv ha
        obtain ⟨d', as', hd', rb, rfl⟩ := dataKind_inv hb
        rw [keyLt'_oneType]
        obtain ⟨xs, rfl⟩ := ht d hd
        obtain ⟨ys, rfl⟩ := ht d' hd'
        exact oneLt_tup ra rb (hal _ hd _ hd') (room hd) hq
      · rw [keyKind'_eq, List.mapM_toArray, map_eq_pure_bind]
        refine wpAny_bind (wpAny_bind (ask E (wpAny_pure ?_)))
        rw [if_neg (by rw [nall]; decide), if_neg hc]
        rw [oneTypeOnly'_eq, List.mapM_toArray, map_eq_pure_bind]
        refine wpAny_bind (wpAny_bind (wpAny_bind (kas_mapM (r := Value.type "tuple") _ (fun v hv Q' hq => ?_) (wpAny_pure ?_))))
        · obtain ⟨xs, as, r⟩ := tup v hv
          exact (looks_reads (d := .tuple xs) r).here hq
        · obtain ⟨v₁, v₂, rest, rfl⟩ : ∃ v₁ v₂ rest, vs = v₁ :: v₂ :: rest := by
            match vs, h2 with
            | [], h2 => simp at h2
            | [_], h2 => simp at h2
            | v₁ :: v₂ :: rest, _ => exact ⟨v₁, v₂, rest, rfl⟩
          have hall : ((List.map (fun _ => Value.type "tuple") (v₁ :: v₂ :: rest)).toArray.all fun x => x == Value.type "tuple") = true := by
            simp only [List.all_toArray, List.all_map, List.all_eq_true]
            intro _ _
            exact beq_self_eq_true _
          have h0 : (List.map (fun _ => Value.type "tuple") (v₁ :: v₂ :: rest)).toArray[0]? = some (Value.type "tuple") := by simp
          rw [h0]
          simp only [hall, if_true]
          exact wpAny_pure (wpAny_pure hq)
/-- tuples of ints can be sorted -/
theorem sortsAt_ints {vs : List Value} {ss : List (List Int)} (e : EachIs (fun v (d : List Int) => ∃ as, Reads s.heap v (.tuple (d.map .int)) as) vs ss) (hu : A.units + 4 < cLine) :
    SortsAt prog w A s (dataKind s.heap (ss.map fun d => PyData.tuple (d.map .int))) vs := by
  have hal : AllAlike (ss.map fun d => PyData.tuple (d.map .int)) := by
    intro d hd d' hd'
    obtain ⟨x, _, rfl⟩ := List.mem_map.mp hd
    obtain ⟨y, _, rfl⟩ := List.mem_map.mp hd'
    simpa [alike] using alike_ints x y
  have hd : ∀ d, d ∈ (ss.map fun d => PyData.tuple (d.map .int)) → A.units + d.depth < cLine := by
    intro d hd
    obtain ⟨x, _, rfl⟩ := List.mem_map.mp hd
    have : (PyData.tuple (x.map .int)).depth ≤ 1 := by
      simp [PyData.depth, depth_ints]
    omega
  have e' := each_map (R := fun v d => ∃ as, Reads s.heap v d as) (fun d : List Int => PyData.tuple (d.map .int)) e
  by_cases hn : [] ∈ ss
  · exact sortsAt_tups e' hal (fun d hd => by obtain ⟨x, _, rfl⟩ := List.mem_map.mp hd; exact ⟨_, rfl⟩) (List.mem_map.mpr ⟨[], hn, rfl⟩) hd
  · refine SortsAt.data e' hal (.inl fun d hd => ?_) hd
    obtain ⟨x, hx, rfl⟩ := List.mem_map.mp hd
    cases x with
    | nil => exact absurd hx hn
    | cons y r => exact ⟨_, _, rfl⟩
end
end K75
-- KTup2
/-! The law's dicts: slips as keys, numbers as values. -/
namespace K75
open PySem PySem.Calls PySem.Spec PyProof.Rows L2 LamX
def ik (s : Slip) : List L2.Key := s.map fun (m : Nat) => Sum.inl (m : Int)
def dS (M : Sheet) : List (List L2.Key × V) := M.map fun p => (ik p.1, V.int (p.2 : Int))
theorem ik_kV (s : Slip) : (ik s).map kV = s.map fun (m : Nat) => V.int (m : Int) := by
  unfold ik
  rw [List.map_map]
  rfl
theorem ik_inj : ∀ {s t : Slip}, ik s = ik t → s = t
  | [], [], _ => rfl
  | [], _ :: _, e => by simp [ik] at e
  | _ :: _, [], e => by simp [ik] at e
  | x :: s, y :: t, e => by
    unfold ik at e
    rw [List.map_cons, List.map_cons] at e
    injection e with e1 e2
    have e1 : (x : Int) = y := Sum.inl.inj e1
    rw [ik_inj (s := s) (t := t) e2, show x = y from by omega]
/-- how many -/
def cnt : Sheet → Slip → Nat
  | [], _ => 0
  | p :: r, s => if p.1 = s then p.2 else cnt r s
def has (M : Sheet) (s : Slip) : Prop := ∃ p ∈ M, p.1 = s
def putS : Sheet → Slip → Nat → Sheet
  | [], s, n => [(s, n)]
  | p :: r, s, n => if p.1 = s then (p.1, n) :: r else p :: putS r s n
theorem dS_val (M : Sheet) (s : Slip) (h : s ∈ M.map Prod.fst) : valV (dS M) (ik s) = some (.int (cnt M s : Int)) := by
  induction M with
  | nil => cases h
  | cons p r ih =>
    show valV ((ik p.1, V.int (p.2 : Int)) :: dS r) (ik s) = _
    by_cases e : p.1 = s
    · rw [valV_pos (by rw [e]), cnt, if_pos e]
    · rw [valV_neg (fun z => e (ik_inj z)), cnt, if_neg e]
      rcases List.mem_cons.mp h with h | h
      · exact absurd h.symm e
      · exact ih h
theorem dS_none (M : Sheet) (s : Slip) (h : ¬ s ∈ M.map Prod.fst) : valV (dS M) (ik s) = none ∧ cnt M s = 0 := by
  induction M with
  | nil => exact ⟨rfl, rfl⟩
  | cons p r ih =>
    have e : ¬ p.1 = s := fun e => h (e ▸ List.mem_cons_self ..)
    have h2 : ¬ s ∈ r.map Prod.fst := fun z => h (List.mem_cons_of_mem _ z)
    obtain ⟨a, b⟩ := ih h2
    refine ⟨?_, by rw [cnt, if_neg e]; exact b⟩
    show valV ((ik p.1, V.int (p.2 : Int)) :: dS r) (ik s) = _
    rw [valV_neg (fun z => e (ik_inj z))]
    exact a
theorem dS_any (M : Sheet) (s : Slip) : ((dS M).any fun kv => decide (kv.1 = ik s)) = decide (s ∈ M.map Prod.fst) := by
  induction M with
  | nil => rfl
  | cons p r ih =>
    show (((ik p.1, V.int (p.2 : Int)) :: dS r).any fun kv => decide (kv.1 = ik s)) = _
    rw [List.any_cons, ih]
    by_cases e : p.1 = s
    · simp [e]
    · have e2 : ¬ ik p.1 = ik s := fun z => e (ik_inj z)
      have e3 : ¬ s = p.1 := fun z => e z.symm
      simp [e2, e3]
theorem dS_repl (r : Sheet) (s : Slip) (n : Nat) (hn : ¬ s ∈ r.map Prod.fst) : ((dS r).map fun kv => if kv.1 = ik s then (kv.1, V.int (n : Int)) else kv) = dS r := by
  induction r with
  | nil => rfl
  | cons p r ih =>
    have e : ¬ p.1 = s := fun e => hn (e ▸ List.mem_cons_self ..)
    show (if ik p.1 = ik s then _ else (ik p.1, V.int (p.2 : Int))) :: List.map _ (dS r) = _
    rw [if_neg (fun z => e (ik_inj z)), ih (fun z => hn (List.mem_cons_of_mem _ z))]
    rfl
theorem dS_put (M : Sheet) (nd : (M.map Prod.fst).Nodup) (s : Slip) (n : Nat) : putK (dS M) (ik s) (.int (n : Int)) = dS (putS M s n) := by
  unfold putK
  rw [dS_any]
  by_cases hm : s ∈ M.map Prod.fst
  · rw [if_pos (decide_eq_true hm)]
    induction M with
    | nil => cases hm
    | cons p r ih =>
      obtain ⟨h1, h2⟩ := List.nodup_cons.mp nd
      show (if ik p.1 = ik s then (ik p.1, V.int (n : Int)) else (ik p.1, V.int (p.2 : Int))) :: List.map _ (dS r) = _
      by_cases e : p.1 = s
      · rw [if_pos (by rw [e]), dS_repl r s n (e ▸ h1), putS, if_pos e]
        rfl
      · rw [if_neg (fun z => e (ik_inj z)), putS, if_neg e]
        rcases List.mem_cons.mp hm with h | h
        · exact absurd h.symm e
        · rw [ih h2 h]
          rfl
  · rw [if_neg (by simpa using hm)]
    clear nd
    induction M with
    | nil => rfl
    | cons p r ih =>
      have e : ¬ p.1 = s := fun e => hm (e ▸ List.mem_cons_self ..)
      rw [putS, if_neg e]
      show (ik p.1, V.int (p.2 : Int)) :: (dS r ++ _) = _ :: dS (putS r s n)
      rw [ih (fun z => hm (List.mem_cons_of_mem _ z))]
theorem putS_keys_mem : ∀ (M : Sheet) (s : Slip) (n : Nat), s ∈ M.map Prod.fst → (putS M s n).map Prod.fst = M.map Prod.fst
  | [], _, _, h => nomatch h
  | p :: r, s, n, h => by
    rw [putS]
    by_cases e : p.1 = s
    · rw [if_pos e]; rfl
    · rw [if_neg e, List.map_cons, List.map_cons]
      rcases List.mem_cons.mp h with h | h
      · exact absurd h.symm e
      · rw [putS_keys_mem r s n h]
theorem putS_keys_new : ∀ (M : Sheet) (s : Slip) (n : Nat), ¬ s ∈ M.map Prod.fst → putS M s n = M ++ [(s, n)]
  | [], _, _, h => rfl
  | p :: r, s, n, h => by
    have e : ¬ p.1 = s := fun e => h (e ▸ List.mem_cons_self ..)
    rw [putS, if_neg e, putS_keys_new r s n (fun z => h (List.mem_cons_of_mem _ z))]
    rfl
theorem putS_nodup (M : Sheet) (s : Slip) (n : Nat) (nd : (M.map Prod.fst).Nodup) : ((putS M s n).map Prod.fst).Nodup := by
  by_cases h : s ∈ M.map Prod.fst
  · rw [putS_keys_mem M s n h]; exact nd
  · rw [putS_keys_new M s n h, List.map_append]
    refine List.nodup_append.mpr ⟨nd, by simp, fun a ha b hb => ?_⟩
    have : b = s := by simpa using hb
    subst this
    intro e
    exact h (e ▸ ha)
theorem putS_len (M : Sheet) (s : Slip) (n : Nat) : (putS M s n).length ≤ M.length + 1 ∧ M.length ≤ (putS M s n).length := by
  induction M with
  | nil => exact ⟨Nat.le_refl _, Nat.zero_le _⟩
  | cons p r ih =>
    rw [putS]
    by_cases e : p.1 = s
    · rw [if_pos e]; simp
    · rw [if_neg e]; simp only [List.length_cons]; omega
/-- the sum grows by what is put -/
theorem putS_wsum (M : Sheet) (s : Slip) (n : Nat) (f : Slip → Rat) : wsum (putS M s n) f + (cnt M s : Rat) * f s = wsum M f + (n : Rat) * f s := by
  induction M with
  | nil => simp only [putS, wsum, cnt]; grind
  | cons p r ih =>
    rw [putS, cnt]
    by_cases e : p.1 = s
    · rw [if_pos e, if_pos e]
      simp only [wsum]
      rw [e]
      grind
    · rw [if_neg e, if_neg e]
      simp only [wsum]
      grind
theorem putS_total (M : Sheet) (s : Slip) (n : Nat) : total (putS M s n) + cnt M s = total M + n := by
  induction M with
  | nil => simp [putS, total, cnt]
  | cons p r ih =>
    rw [putS, cnt]
    by_cases e : p.1 = s
    · rw [if_pos e, if_pos e]
      simp only [total]
      omega
    · rw [if_neg e, if_neg e]
      simp only [total]
      omega
/-- the sheet read off in another order -/
theorem cnt_read : ∀ {M : Sheet}, (M.map Prod.fst).Nodup → (M.map Prod.fst).map (fun s => (s, cnt M s)) = M
  | [], _ => rfl
  | p :: r, nd => by
    obtain ⟨h1, h2⟩ := List.nodup_cons.mp nd
    rw [List.map_cons, List.map_cons, cnt, if_pos rfl]
    have e : (r.map Prod.fst).map (fun s => (s, cnt (p :: r) s)) = (r.map Prod.fst).map (fun s => (s, cnt r s)) := by
      refine List.map_congr_left fun s hs => ?_
      have : ¬ p.1 = s := fun e => h1 (e ▸ hs)
      rw [cnt, if_neg this]
    rw [e, cnt_read h2]
theorem wsum_perm {S T : Sheet} (h : S.Perm T) (f : Slip → Rat) : wsum S f = wsum T f := by
  induction h with
  | nil => rfl
  | cons x _ ih => simp only [wsum, ih]
  | swap x y l => simp only [wsum]; grind
  | trans _ _ i j => rw [i, j]
theorem total_perm {S T : Sheet} (h : S.Perm T) : total S = total T := by
  induction h with
  | nil => rfl
  | cons x _ ih => simp only [total, ih]
  | swap x y l => simp only [total]; omega
  | trans _ _ i j => rw [i, j]
theorem read_perm {M : Sheet} (nd : (M.map Prod.fst).Nodup) {ss : List Slip} (h : ss.Perm (M.map Prod.fst)) : (ss.map fun s => (s, cnt M s)).Perm M := by
  have := h.map fun s => (s, cnt M s)
  rwa [cnt_read nd] at this
section
variable {X : Cx}
theorem paired_reads {hp : Heap} {H : Hp} {P : Program} {w : World} (ok : HOk P w H hp) : ∀ {M : Sheet} {bs : List Addr}, IsKeys H (dS M) bs →
    PySem.W.EachIs (fun (v : Value) (q : V × Slip) => RelV q.1 v) (bs.map Value.ref) ((bs.map V.ref).zip (M.map Prod.fst)) ∧
    PySem.W.EachIs (fun (v : Value) (d : List Int) => ∃ as, Reads hp v (.tuple (d.map .int)) as) (bs.map Value.ref) ((M.map Prod.fst).map fun s => s.map fun (m : Nat) => (m : Int)) ∧ ∀ q ∈ (bs.map V.ref).zip (M.map Prod.fst), ∀ K : PySem.W.Frag, rSlip K H q.1 q.2
  | [], _, h => by cases h; exact ⟨.nil, .nil, fun q h => nomatch h⟩
  | p :: r, _, h => by
    cases h with
    | @cons _ b _ bs h t =>
      obtain ⟨x, y, z⟩ := paired_reads ok (M := r) t
      have h : H b = some (.tup ((ik p.1).map kV)) := h
      rw [ik_kV] at h
      obtain ⟨_, its, rv, o, h1, h2, n, h3⟩ := (show ObjOk P w H _ b (.tup _) from ok b _ h)
      refine ⟨.cons rfl x, .cons ?_ y, fun q hq K => ?_⟩
      · have ra : ∀ {s : List Nat} {us : List Value}, Vals (s.map fun (m : Nat) => V.int (m : Int)) us → ∃ as, ReadsAll hp us ((s.map fun (m : Nat) => (m : Int)).map PyData.int) as := by
          intro s
          induction s with
          | nil => intro us r; cases r; exact ⟨_, .nil⟩
          | cons m s ih =>
            intro us r
            cases r with
            | cons a t =>
              obtain ⟨tk, rfl⟩ := a
              obtain ⟨as, q⟩ := ih t
              exact ⟨_, .cons (.int _ _) q⟩
        obtain ⟨as, q⟩ := ra rv
        exact ⟨_, .tuple h1 h2 h3 q⟩
      · rcases List.mem_cons.mp hq with rfl | hq
        · exact ⟨b, rfl, h⟩
        · exact z q hq K
/-- sorted(d), d's keys slips -/
theorem call_sortedDS (hr : Room 1 X.A) : CallR X (.builtin "sorted") (fun xs H Q => ∃ (a : Addr) (M : Sheet), xs = [.ref a] ∧ H a = some (.dT (dS M)) ∧ M.length < 1000 ∧ ∀ p ys ss, ss.Perm (M.map Prod.fst) → Paired (rSlip X.K H) ys ss → H p = none → Q (.ref p) (upd H p (.lst ys))) := by
  intro pins s σ H xs us Q I r h
  obtain ⟨d, M, rfl, hd, hm, q⟩ := h
  obtain ⟨u, rfl, rx⟩ := r.one
  cases rx
  obtain ⟨z, hs, ks, pr, o, es, ep, ho, hx, hdt, he, hn⟩ := (show ObjOk X.prog X.w H s.heap d (.dT (dS M)) from I.hok d _ hd)
  have l1 : es.size = ks.length := size_of_entries he
  have l2 : (dS M).length = ks.length := Paired.length pr
  have l3 : (dS M).length = M.length := List.length_map ..
  refine call_function_entry PyProof.Rows.kind_sorted PyProof.Rows.plain_sorted PyProof.Rows.entry_sorted (PyProof.Rows.args_sorted1 _) ?_
  unfold Builtin.«sorted»
  refine wpAny_bind (m := checkCount "sorted" 1 1 _) (wpAny_pure ?_)
  refine wpAny_bind (PySem.W.kdu_collect (A := X.A.in1) (kdl_raw hs hx hdt) hr.hd ho (by omega) fun h' tk acc' kp it => ?_)
  have ea : acc'.toList = ks.map fun x => Value.ref x.2.1 := by
    have hl : acc'.toList.length = ks.length := by rw [Array.length_toList, it.1]; exact l1
    apply List.ext_getElem?
    intro j
    rw [List.getElem?_map]
    cases hj : acc'.toList[j]? with
    | none =>
      have h1 := List.getElem?_eq_none_iff.mp hj
      rw [List.getElem?_eq_none (by omega)]
      all_goals rfl
    | some v =>
      obtain ⟨en, hen, hv⟩ := it.2 j v (by rw [← Array.getElem?_toList]; exact hj)
      have qe := entry_at he j
      rw [hen] at qe
      cases hb : ks[j]? with
      | none =>
        rw [hb] at qe
        exact nomatch (show some en = none from qe)
      | some b =>
        rw [hb] at qe
        have e2 : en = entryOfKey (tupleKind (mixKind X.prog X.w)) b := Option.some.inj qe
        rw [hv, e2]
        all_goals rfl
  have eb : acc'.toList = (ks.map fun x => x.2.1).map Value.ref := by rw [ea, List.map_map]; all_goals rfl
  have I1 : Inv X pins σ H { s with heap := h', toks := tk } := I.kept kp
  have isk : IsKeys H (dS M) (ks.map fun x => x.2.1) := isKeys_of pr
  rw [eb]
  generalize hbs : (ks.map fun x => x.2.1) = bs at isk
  have lbs : bs.length = M.length := by rw [← hbs, List.length_map, ← l2, l3]
  obtain ⟨e1, e2, e3⟩ := paired_reads I1.hok isk
  have hL : (bs.map Value.ref).length ≤ sizeLine := by rw [List.length_map, lbs, sizeLine_eq]; omega
  refine wpAny_bind (wpAny_newList ?_ hL)
  have hoL : (h'.push (seqObj "list" (bs.map Value.ref).toArray 0)).get? h'.objs.size = some (seqObj "list" (bs.map Value.ref).toArray 0) := Heap.get?_push_size _ rfl
  show wpAny _ _ _ _ _ { s with heap := h'.push (seqObj "list" (bs.map Value.ref).toArray 0), toks := tk }
  have keep : ∀ b o, h'.get? b = some o → (PySem.W.sortingHeap (h'.push (seqObj "list" (bs.map Value.ref).toArray 0)) h'.objs.size (bs.map Value.ref)).get? b = some o := fun b o e =>
    PySem.W.sortingHeap_old (Nat.ne_of_lt (Heap.lt_size e)) (Heap.get?_push_of_some _ e)
  have e2' := e2.mono fun v d ⟨as, r⟩ => (⟨as, PyProof.Rows.Reads.keeps keep r⟩ : ∃ as, Reads (PySem.W.sortingHeap (h'.push (seqObj "list" (bs.map Value.ref).toArray 0)) h'.objs.size (bs.map Value.ref)) v (.tuple (d.map .int)) as)
  have SA := sortsAt_ints (prog := X.prog) (w := X.w) (A := X.A.in1.in1) (s := { s with heap := PySem.W.sortingHeap (h'.push (seqObj "list" (bs.map Value.ref).toArray 0)) h'.objs.size (bs.map Value.ref), toks := tk }) e2' (by have := hr.un; show X.A.units + 1 + 1 + 4 < _; omega)
  refine wpAny_bind (wpAny_holding (wpAny_call_entry PyProof.Rows.slot_list_sort ⟨_, hoL, rfl⟩ PyProof.Rows.entry_list_sort
    (PySem.W.list_sort_vals (s := { s with heap := h'.push (seqObj "list" (bs.map Value.ref).toArray 0), toks := tk }) hoL SA hL ⟨_, rfl, ?_⟩) (PyProof.Rows.args_list_sort _)))
  have hal : PySem.W.AllAlike (((bs.map V.ref).zip (M.map Prod.fst)).map fun q : V × Slip => PyData.tuple ((q.2.map fun (m : Nat) => (m : Int)).map .int)) := by
    intro d hd d' hd'
    obtain ⟨x, _, rfl⟩ := List.mem_map.mp hd
    obtain ⟨y, _, rfl⟩ := List.mem_map.mp hd'
    have := PySem.W.alike_ints (x.2.map fun (m : Nat) => (m : Int)) (y.2.map fun (m : Nat) => (m : Int))
    simpa [PySem.W.alike] using this
  have ez : ((bs.map V.ref).zip (M.map Prod.fst)).map (fun q : V × Slip => PyData.tuple ((q.2.map fun (m : Nat) => (m : Int)).map .int)) = ((M.map Prod.fst).map fun s => s.map fun (m : Nat) => (m : Int)).map fun d => PyData.tuple (d.map .int) := by
    have : ((bs.map V.ref).zip (M.map Prod.fst)).map Prod.snd = M.map Prod.fst := List.map_snd_zip (by rw [List.length_map, List.length_map, lbs]; omega)
    rw [List.map_map, ← this, List.map_map, this]
    rfl
  have e2z : PySem.W.EachIs (fun (v : Value) (q : V × Slip) => ∃ as, Reads (PySem.W.sortingHeap (h'.push (seqObj "list" (bs.map Value.ref).toArray 0)) h'.objs.size (bs.map Value.ref)) v (PyData.tuple ((q.2.map fun (m : Nat) => (m : Int)).map .int)) as) (bs.map Value.ref) ((bs.map V.ref).zip (M.map Prod.fst)) := by
    clear SA hal ez
    have gen : ∀ {h0 : Heap} {bs : List Addr} {ss : List Slip}, PySem.W.EachIs (fun (v : Value) (d : List Int) => ∃ as, Reads h0 v (.tuple (d.map .int)) as) (bs.map Value.ref) (ss.map fun s => s.map fun (m : Nat) => (m : Int)) →
        PySem.W.EachIs (fun (v : Value) (q : V × Slip) => ∃ as, Reads h0 v (PyData.tuple ((q.2.map fun (m : Nat) => (m : Int)).map .int)) as) (bs.map Value.ref) ((bs.map V.ref).zip ss) := by
      intro h0 bs
      induction bs with
      | nil => intro ss e; exact .nil
      | cons b bs ih =>
        intro ss e
        cases ss with
        | nil => cases e
        | cons s ss =>
          cases e with
          | cons a t => exact .cons a (ih t)
    exact gen e2'
  have out := PySem.W.sortVals_data false e1 e2z hal
  rw [ez] at out
  obtain ⟨e', he'⟩ := PyProof.Rows.sortedHeap_at (vs := bs.map Value.ref) (out := (PySem.W.sortVals (PySem.W.dataKind (PySem.W.sortingHeap (h'.push (seqObj "list" (bs.map Value.ref).toArray 0)) h'.objs.size (bs.map Value.ref)) (((M.map Prod.fst).map fun s => s.map fun (m : Nat) => (m : Int)).map fun d => PyData.tuple (d.map .int))) false (bs.map Value.ref) (bs.map Value.ref)).toArray) hoL
  generalize PySem.W.sortVals (PySem.W.dataKind (PySem.W.sortingHeap (h'.push (seqObj "list" (bs.map Value.ref).toArray 0)) h'.objs.size (bs.map Value.ref)) (((M.map Prod.fst).map fun s => s.map fun (m : Nat) => (m : Int)).map fun d => PyData.tuple (d.map .int))) false (bs.map Value.ref) (bs.map Value.ref) = res at out he' ⊢
  have perm := List.mergeSort_perm ((bs.map V.ref).zip (M.map Prod.fst)) (PySem.W.dataLe false fun q : V × Slip => PyData.tuple ((q.2.map fun (m : Nat) => (m : Int)).map .int))
  generalize ((bs.map V.ref).zip (M.map Prod.fst)).mergeSort (PySem.W.dataLe false fun q : V × Slip => PyData.tuple ((q.2.map fun (m : Nat) => (m : Int)).map .int)) = bs' at out perm
  have vals : ∀ {out : List Value} {bs : List (V × Slip)}, PySem.W.EachIs (fun (v : Value) (p : V × Slip) => RelV p.1 v) out bs → Vals (bs.map Prod.fst) out := by
    intro out bs e
    induction e with
    | nil => exact .nil
    | cons h t ih => exact .cons h ih
  have hl' : (bs'.map Prod.fst).length ≤ sizeLine := by
    rw [List.length_map, perm.length_eq, List.length_zip, List.length_map, List.length_map, lbs, Nat.min_self, sizeLine_eq]
    omega
  have new : ObjOk X.prog X.w (upd H h'.objs.size (.lst (bs'.map Prod.fst))) (PyProof.Rows.sortedHeap (h'.push (seqObj "list" (bs.map Value.ref).toArray 0)) h'.objs.size (bs.map Value.ref) res.toArray) h'.objs.size (.lst (bs'.map Prod.fst)) := ⟨hl', res, e', vals out, he'⟩
  have hnone : H h'.objs.size = none := I1.hok.fresh (Nat.le_refl _)
  refine wpAny_pure ⟨_, rfl, .ref h'.objs.size, _, I1.laid (t' := tk) (fun b u e => ?_) (Nat.le_refl _) new, rfl, q _ (bs'.map Prod.fst) (bs'.map Prod.snd) ?_ (paired_of fun q hq => e3 q (perm.mem_iff.mp hq) _) hnone⟩
  · have hb : b < h'.objs.size := Heap.lt_size e
    rw [PyProof.Rows.sortedHeap_old (Nat.ne_of_lt hb) (by rw [size_push']; exact Nat.lt_succ_of_lt hb)]
    exact Heap.get?_push_of_some _ e
  · have := perm.map Prod.snd
    rwa [List.map_snd_zip (by rw [List.length_map, List.length_map, lbs]; omega)] at this
end
end K75
-- KTup3
/-! dict(sheet). -/
namespace K75
open PySem PySem.Calls PySem.Spec PyProof.Rows L2 LamX
section
variable {X : Cx} {pins : List (Addr × Obj)} {σ : L2.St} {H : Hp} {s : Shared}
theorem pairs_of (I : Inv X pins σ H s) : ∀ {S : Sheet} {xs : List V} {its : List Value}, Paired (rPair rSlip rNat X.K H) xs S → Vals xs its →
    ∃ (Ts : List Addr) (hs : List (List L2.Key × Addr × Value)), its = Ts.map Value.ref ∧ Ts.length = hs.length ∧ (∀ (j : Nat) (T : Addr) (x : List L2.Key × Addr × Value), Ts[j]? = some T → hs[j]? = some x → PairAt s.heap T (.ref x.2.1) x.2.2) ∧ KT H (dS S) hs
  | [], _, its, .nil, r => by
    cases r
    exact ⟨[], [], rfl, rfl, fun j T x e => by simp at e, .nil⟩
  | l :: S, _, its, .cons (a := v) r t, rv => by
    cases rv with
    | @cons _ u xs us ru tu =>
      obtain ⟨p, x, y, rfl, hp, ⟨b, rfl, hb⟩, rfl⟩ := r
      obtain rfl : u = Value.ref p := ru
      obtain ⟨jts, rj, tp, _⟩ := I.tuple hp
      cases rj with
      | @cons _ u1 _ us1 r1 t1 =>
        cases t1 with
        | @cons _ u2 _ us2 r2 t2 =>
          cases t2
          obtain rfl : u1 = Value.ref b := r1
          obtain ⟨Ts, hs, e1, e2, e3, e4⟩ := pairs_of I t tu
          refine ⟨p :: Ts, (ik l.1, b, u2) :: hs, by rw [e1]; rfl, by rw [List.length_cons, List.length_cons, e2], fun j T x h1 h2 => ?_, .cons ⟨rfl, by rw [ik_kV]; exact hb, r2⟩ e4⟩
          cases j with
          | zero =>
            simp only [List.getElem?_cons_zero, Option.some.injEq] at h1 h2
            subst h1 h2
            exact .inl tp
          | succ j =>
            simp only [List.getElem?_cons_succ] at h1 h2
            exact e3 j T x h1 h2
theorem kt_keys {M : Sheet} {hs : List (List L2.Key × Addr × Value)} (r : KT H (dS M) hs) : hs.map (·.1) = M.map fun p => ik p.1 := by
  induction M generalizing hs with
  | nil => cases r; rfl
  | cons p M ih =>
    cases r with
    | cons h t => rw [List.map_cons, List.map_cons, ih t, ← h.1]
theorem ik_nodup : ∀ {M : Sheet}, (M.map Prod.fst).Nodup → (M.map fun p => ik p.1).Nodup
  | [], _ => List.nodup_nil
  | p :: M, h => by
    obtain ⟨h1, h2⟩ := List.nodup_cons.mp h
    refine List.nodup_cons.mpr ⟨fun z => h1 ?_, ik_nodup h2⟩
    obtain ⟨q, hq, e⟩ := List.mem_map.mp z
    exact List.mem_map.mpr ⟨q, hq, ik_inj e⟩
end
section
variable {X : Cx}
/-- dict(sheet) -/
theorem call_dictDS (hr : Room 1 X.A) : CallR X (.type "dict") (fun xs H Q => ∃ (a : Addr) (ys : List V) (S : Sheet), xs = [.ref a] ∧ SqL X.K H a ys ∧ Paired (rPair rSlip rNat X.K H) ys S ∧ (S.map Prod.fst).Nodup ∧ ∀ p, H p = none → Q (.ref p) (upd H p (.dT (dS S)))) := by
  intro pins s σ H xs us Q I r h
  obtain ⟨a, ys, S, rfl, ha, rel, nd, q⟩ := h
  obtain ⟨u, rfl, rx⟩ := r.one
  cases rx
  obtain ⟨its, rits, ⟨oa, na, ho, hc, hd, hdat⟩, hz⟩ := I.list ha
  obtain ⟨Ts, hs, rfl, e2, e3, e4⟩ := pairs_of I rel rits
  have l1 : (dS S).length = hs.length := Paired.length e4
  have lz : hs.length ≤ sizeLine := by
    have q1 := rits.length
    rw [List.length_map] at q1
    omega
  have nk : (hs.map (·.1)).Nodup := by rw [kt_keys e4]; exact ik_nodup nd
  have keys : ∀ {l : List (List L2.Key × V)} {m : List (List L2.Key × Addr × Value)}, KT H l m → ∀ x ∈ m, (tupleKind (mixKind X.prog X.w)).is s.heap x.1 x.2.1 := by
    intro l m q
    induction q with
    | nil => intro x hx; exact nomatch hx
    | @cons p q ps qs hq t ih =>
      intro x hx
      rcases List.mem_cons.mp hx with e | hx
      · subst e
        exact key_of I.hok (by rw [← hq.1]; exact hq.2.1)
      · exact ih x hx
  refine call_dict_pairsH (knd := tupleKind (mixKind X.prog X.w)) (ps := hs) (PairArg.list a (Ts.map Value.ref).toArray (fun j => Ts.getD j 0) (hs.map fun x => (Value.ref x.2.1, x.2.2))) hr.hd ?_ ⟨⟨oa, na, ho, hc, hd, hdat⟩, ?_, fun j k v hj => ?_⟩ ⟨(List.length_map ..).symm, fun i key v hi => ?_⟩ (fun h' kp x hx => ?_) (by rw [List.length_map]; exact lz) (fun h' tk dd kp => ?_)
  · have := hr.un
    first
      | (show X.A.units + 1 + 1 + 8 < cLine; omega)
      | (show X.A.units + 1 + 1 < cLine; omega)
      | exact tupleKind_room_in1 (A := X.A.in1) (by show X.A.units + 1 + 1 < cLine; omega)
  · rw [List.size_toArray, List.length_map, List.length_map, e2]
  · rw [List.getElem?_map] at hj
    obtain ⟨x, hx, ex⟩ := Option.map_eq_some_iff.mp hj
    cases ex
    have hlt : j < Ts.length := by rw [e2]; exact (List.getElem?_eq_some_iff.mp hx).1
    have hT : Ts[j]? = some (Ts.getD j 0) := by simp [List.getD_eq_getElem?_getD, List.getElem?_eq_getElem hlt]
    refine ⟨?_, e3 j _ x hT hx⟩
    rw [List.getElem?_toArray, List.getElem?_map, hT]
    rfl
  · have hi : (hs.map fun x => (Value.ref x.2.1, x.2.2))[i]? = some (key, v) := hi
    rw [List.getElem?_map] at hi
    obtain ⟨x, hx, ex⟩ := Option.map_eq_some_iff.mp hi
    cases ex
    exact ⟨x.1, x.2.1, hx, rfl⟩
  · exact tupleKind_stays.stays (fun b o vs n e _ => kp b o (Nat.ne_of_lt (Heap.lt_size e)) (fun z => nomatch z) e) (keys e4 x hx)
  · rw [storedAllH_nil_of_nodup hs nk] at dd
    obtain ⟨o', es, ep, hq, h2, h3, h4, h6, h5⟩ := dd
    have hn := I.hok.fresh (Nat.le_refl s.heap.objs.size)
    refine ⟨.ref s.heap.objs.size, _, I.laid (a := s.heap.objs.size) (o := .dT (dS S)) (t' := tk) (fun b o e => kp b o (fun z => nomatch z) e) (Nat.le_refl _) ?_, rfl, q _ hn⟩
    exact ⟨by rw [l1]; exact lz, beq_eq_false_iff_ne.mpr (Nat.ne_of_gt I.big), hs, KT.keeps e4 (fun b ys e => by rw [upd_ne (ne_of_none e hn)]; exact e), o', es, ep, hq, h2, h3, h4, h5⟩
end
end K75
-- KL1
/-! the law's small defs: cell, mixed, number, mask. -/
namespace K75
open PySem PySem.Spec PyProof.Rows L2 LamX
/-- the script -/
def rScr (K : PySem.W.Frag) (H : Hp) (v : V) (xs : List Int) : Prop := ∃ a, v = .ref a ∧ SqL K H a (xs.map V.int)
section
variable {P : Program} {w : World} {K : PySem.W.Frag} {mg : Str → Option Value} {base : Heap}
def sp_L_cell (K : PySem.W.Frag) : Sp := fun vs H Q _ => ∃ (v : V) (xs : List Int) (k : Nat), vs = [v, .int (k : Int)] ∧ rScr K H v xs ∧ k ≤ 1000 ∧ ∀ c : Int, 0 ≤ c → c < 10 ^ 40 → Q (.int c) H
abbrev N_L_cell : List Str := ["_law_script", "_law_k", "_law_number_here"]
theorem sc_L_cell : FnScope N_L_cell ["_law_script", "_law_k"] (defScope s_L_cell) := ⟨rfl, rfl, rfl, by decide +kernel, rfl, by decide +kernel, by decide +kernel⟩
theorem ok_L_cell (T : Tx K mg) {fd : FuncData} (F : FnD K d_L_cell fd) : FnOk P w K mg base CX0 1 (He.fAd K d_L_cell.at_) fd ["_law_script", "_law_k"] (sp_L_cell K) := by
  have nd := sc_L_cell.nd
  refine okx F sc_L_cell (fun vs H Q E h => ?_) (fun cdv A outer s H vs Q E hr h => ?_)
  · obtain ⟨v, xs, k, rfl, _⟩ := h
    rfl
  · obtain ⟨v, xs, k, rfl, ⟨a, rfl, ha⟩, hk, q⟩ := h
    refine ⟨_, (pss_cons (ps_if (pt_cmpR op_lt (pv 1) (pe_callB call_len_seq (by rfl) (T.free 54 rfl) (by decide +kernel) (pa_cons (pv 0) pa_nil)) (nomark _)) (pss_one (ps_ret (pe_op op_mod (pe_ix ix_list (pv 0) (pv 1) (fun _ _ => rfl)) (pe_op op_pow pe_int pe_int)))) pss_nil)
      (pss_cons (ps_set (i := 2) nd rfl (Or.inl rfl) (pe_op op_add (pe_op op_mulW (pv 1) pe_int) pe_int))
      (pss_cons (ps_if (pt_cmpR op_gt (pe_callB call_len_seq (by rfl) (T.free 54 rfl) (by decide +kernel) (pa_cons (pv 0) pa_nil)) pe_int (nomark _)) (pss_one (ps_set (i := 2) nd rfl (Or.inl rfl) (pe_op op_add (pe_op op_mulW (pe_op op_mod (pe_ix ix_list (pv 0) (pe_op op_mod (pe_op op_mulW (pv 1) pe_int) (pe_callB call_len_seq (by rfl) (T.free 54 rfl) (by decide +kernel) (pa_cons (pv 0) pa_nil))) (fun _ _ => rfl)) (pe_op op_pow pe_int pe_int)) pe_int) (pe_op op_mulW (pe_op op_mulW (pv 1) (pv 1)) pe_int)))) pss_nil)
      (pss_one (ps_ret (pe_op op_mod (pe_op op_mulW (pe_op op_mod (pv 2) pe_int) pe_int) pe_int)))))), ?_⟩
    have e40 : (0 : Int) < 10 ^ 40 := by decide
    have hc40 : CPow 10 40 := ⟨by decide, by decide, by decide⟩
    refine ⟨_, rfl, _, rfl, a, _, rfl, .inl ha, _, _, rfl, rfl, _, rfl, ite2 (fun c => ?_) (fun c => ?_)⟩
    · have c' : k < xs.length := by
        have : (k : Int) < ((xs.map V.int).length : Nat) := by simpa using c
        rw [List.length_map] at this
        omega
      obtain ⟨x, hx⟩ : ∃ x, xs[k]? = some x := ⟨xs[k], List.getElem?_eq_getElem c'⟩
      have hx' : (xs.map V.int)[k]? = some (.int x) := by rw [List.getElem?_map, hx]; rfl
      refine ⟨_, rfl, _, rfl, a, _, _, _, rfl, rfl, ha, atI_nat hx', _, _, rfl, rfl, hc40, _, _, rfl, rfl, e40, ?_⟩
      exact q _ (Int.emod_nonneg _ (by decide)) (Int.emod_lt_of_pos _ e40)
    · have m2 : CMulW (k : Int) 7919 := wide_mul (a := 20) (b := 20) (by omega) (by decide) (by decide) (by decide) (by decide)
      have last : ∀ (m : Int), ∃ i j, V.int m = .int i ∧ V.int 2147483647 = .int j ∧ 0 < j ∧ ∃ i' j', V.int (i % j) = .int i' ∧ V.int 69621 = .int j' ∧ CMulW i' j' ∧ ∃ i2 j2, V.int (i' * j') = .int i2 ∧ V.int 2147483629 = .int j2 ∧ 0 < j2 ∧ Q (.int (i2 % j2)) H := fun m => by
        refine ⟨_, _, rfl, rfl, by decide, _, _, rfl, rfl, ?_, _, _, rfl, rfl, by decide, q _ (Int.emod_nonneg _ (by decide)) (Int.lt_trans (Int.emod_lt_of_pos _ (by decide)) (by decide))⟩
        have h1 := Int.emod_nonneg m (show (2147483647 : Int) ≠ 0 by decide)
        have h2 := Int.emod_lt_of_pos m (show (0 : Int) < 2147483647 by decide)
        exact wide_mul (a := 40) (b := 40) (by omega) (by decide) (by decide) (by decide) (by decide)
      refine ⟨_, rfl, _, _, rfl, rfl, m2, _, _, rfl, rfl, ?_⟩
      refine ⟨_, rfl, a, _, rfl, .inl ha, _, _, rfl, rfl, _, rfl, ite2 (fun d => ?_) (fun d => ?_)⟩
      · have d' : 0 < xs.length := by
          have : (0 : Int) < ((xs.map V.int).length : Nat) := by simpa using d
          rw [List.length_map] at this
          omega
        have hlt : k * 7 % xs.length < xs.length := Nat.mod_lt _ d'
        obtain ⟨x, hx⟩ : ∃ x, xs[k * 7 % xs.length]? = some x := ⟨_, List.getElem?_eq_getElem hlt⟩
        have hx' : atI (xs.map V.int) ((k : Int) * 7 % ((xs.map V.int).length : Nat)) = some (.int x) := by
          rw [List.length_map, show (k : Int) * 7 % (xs.length : Nat) = ((k * 7 % xs.length : Nat) : Int) by push_cast; rfl]
          refine atI_nat ?_
          rw [List.getElem?_map, hx]
          rfl
        have m3 : CMulW (k : Int) 7 := wide_mul (a := 20) (b := 20) (by omega) (by decide) (by decide) (by decide) (by decide)
        have m4 : CMulW (k : Int) (k : Int) := wide_mul (a := 20) (b := 20) (by omega) (by omega) (by decide) (by decide) (by decide)
        have kk : ((k : Int) * k).natAbs < 2 ^ 40 := wide_lt (a := 20) (b := 20) (by omega) (by omega)
        have m5 : CMulW ((k : Int) * k) 7919 := wide_mul (a := 40) (b := 20) kk (by decide) (by decide) (by decide) (by decide)
        have x1 := Int.emod_nonneg x (show (10 : Int) ^ 40 ≠ 0 by decide)
        have x2 := Int.emod_lt_of_pos x e40
        have m6 : CMulW (x % 10 ^ 40) 48271 := wide_mul (a := 140) (b := 20) (by generalize x % 10 ^ 40 = y at *; omega) (by decide) (by decide) (by decide) (by decide)
        refine ⟨_, rfl, _, rfl, _, _, rfl, rfl, m3, _, rfl, a, _, rfl, .inl ha, _, _, rfl, rfl, (by show (0 : Int) < ((xs.map V.int).length : Nat); rw [List.length_map]; omega), a, _, _, _, rfl, rfl, ha, hx', _, _, rfl, rfl, hc40, _, _, rfl, rfl, e40, _, _, rfl, rfl, m6, _, rfl, _, rfl, _, _, rfl, rfl, m4, _, _, rfl, rfl, m5, _, _, rfl, rfl, ?_⟩
        exact ⟨_, rfl, last _⟩
      · exact ⟨_, rfl, last _⟩
theorem pc_L_cell {K : PySem.W.Frag} {mg : Str → Option Value} (T : Tx K mg) {X : Cx} (hr : Room 1 X.A) (hg : Gl X "_law_cell") {p pos : Pos} {e : Expr} {es : List Expr} {t : TA} (ha : PA X (e :: es) t) (hK : X.K = K := by rfl) (hM : X.mg = mg := by rfl) (he : starEach (e :: es) X.env = (false, eval e X.env) :: starEach es X.env := by rfl) (hpl : (backTo pos (starEach es X.env)).any (·.1) = false := by rfl) : PE X (.Call (.Name "_law_cell" p) (e :: es) [] pos) (tCall (sp_L_cell K) [] E0 t) := by
  subst hK hM
  obtain ⟨fd, F⟩ := T.says.def_ 38 (d := d_L_cell) rfl
  exact pe_call (ok_L_cell T F) hr hg (T.glo 38 rfl) F.kp (F.bindsN fun _ _ _ _ _ _ us hl => match us, hl with | [_, _], _ => rfl) .nil pass0 ha (by decide) he hpl
end
end K75
-- KL2
/-! mixed, number, mask, lots. -/
namespace K75
open PySem PySem.Spec PyProof.Rows L2 LamX
theorem sum_pows : ∀ xs : List Nat, (xs.map fun (x : Nat) => (2 : Int) ^ x).sum = (((xs.map fun x => 2 ^ x).sum : Nat) : Int)
  | [] => rfl
  | x :: xs => by
    rw [List.map_cons, List.map_cons, List.sum_cons, List.sum_cons, sum_pows xs]
    push_cast
    rfl
theorem sql_same {K : PySem.W.Frag} {H H' : Hp} {p : Addr} {xs : List V} (s : Same H H') (h : SqL K H p xs) : SqL K H' p xs := by
  rcases h with (h | ⟨o, h⟩) | h
  · exact .inl (.inl (s _ _ h))
  · exact .inl (.inr ⟨o, s _ _ h⟩)
  · exact .inr h
theorem erase_perm {α : Type} : ∀ {l : List α} {k : Nat} {x : α}, l[k]? = some x → (x :: l.eraseIdx k).Perm l
  | [], _, _, h => by simp at h
  | y :: l, 0, x, h => by
    simp only [List.getElem?_cons_zero, Option.some.injEq] at h
    subst h
    exact .refl _
  | y :: l, k + 1, x, h => by
    simp only [List.getElem?_cons_succ] at h
    rw [List.eraseIdx_cons_succ]
    exact (List.Perm.swap y x _).trans ((erase_perm h).cons y)
theorem erase_map {α β : Type} (f : α → β) : ∀ (l : List α) (k : Nat), (l.map f).eraseIdx k = (l.eraseIdx k).map f
  | [], _ => rfl
  | _ :: _, 0 => rfl
  | x :: l, k + 1 => by
    rw [List.map_cons, List.eraseIdx_cons_succ, List.eraseIdx_cons_succ, List.map_cons, erase_map f l k]
section
variable {P : Program} {w : World} {K : PySem.W.Frag} {mg : Str → Option Value} {base : Heap}
def sp_L_mixed (K : PySem.W.Frag) : Sp := fun vs H Q _ => ∃ (c : Int) (b : Nat), vs = [.int c, .int (b : Int)] ∧ 0 ≤ c ∧ c < 10 ^ 40 ∧ b ≤ 1000 ∧ ∀ r : Nat, r < 10 ^ 31 → Q (.int (r : Int)) H
abbrev N_L_mixed : List Str := ["_law_cell_here", "_law_by", "_law_step"]
theorem sc_L_mixed : FnScope N_L_mixed ["_law_cell_here", "_law_by"] (defScope s_L_mixed) := ⟨rfl, rfl, rfl, by decide +kernel, rfl, by decide +kernel, by decide +kernel⟩
theorem ok_L_mixed (T : Tx K mg) {fd : FuncData} (F : FnD K d_L_mixed fd) : FnOk P w K mg base CX0 1 (He.fAd K d_L_mixed.at_) fd ["_law_cell_here", "_law_by"] (sp_L_mixed K) := by
  have nd := sc_L_mixed.nd
  refine okx F sc_L_mixed (fun vs H Q E h => ?_) (fun cdv A outer s H vs Q E hr h => ?_)
  · obtain ⟨c, b, rfl, _⟩ := h
    rfl
  · obtain ⟨c, b, rfl, h0, h1, hb, q⟩ := h
    refine ⟨_, (pss_cons (ps_set (i := 2) nd rfl (Or.inl rfl) (pe_op op_add pe_int (pe_op op_mulW (pv 1) pe_int)))
      (pss_one (ps_ret (pe_op op_mod (pe_op op_mulW (pe_op op_add (pv 0) pe_int) (pv 2)) (pe_op op_add (pe_op op_pow pe_int pe_int) pe_int))))), ?_⟩
    have b2 : (b : Int) ≤ 1000 := by omega
    have b0 : (0 : Int) ≤ b := by omega
    have m1 : CMulW (b : Int) 271828182845904523536028747 := wide_mul (a := 20) (b := 100) (by omega) (by decide) (by decide) (by decide) (by decide)
    have m2 : CMulW (c + 3) (618033988749894848204586834365 + (b : Int) * 271828182845904523536028747) := wide_mul (a := 140) (b := 140) (by omega) (by omega) (by decide) (by decide) (by decide)
    have hc30 : CPow 10 30 := ⟨by decide, by decide, by decide⟩
    refine ⟨_, rfl, _, _, rfl, rfl, m1, _, _, rfl, rfl, ?_⟩
    refine ⟨_, rfl, _, _, rfl, rfl, _, rfl, _, _, rfl, rfl, m2, _, _, rfl, rfl, hc30, _, _, rfl, rfl, _, _, rfl, rfl, (by show (0 : Int) < 10 ^ 30 + 57; decide), ?_⟩
    generalize (c + 3) * (618033988749894848204586834365 + (b : Int) * 271828182845904523536028747) = z
    have p0 := Int.emod_nonneg z (show (10 : Int) ^ 30 + 57 ≠ 0 by decide)
    have p1 := Int.emod_lt_of_pos z (show (0 : Int) < 10 ^ 30 + 57 by decide)
    have e : z % (10 ^ 30 + 57) = ((z % (10 ^ 30 + 57)).toNat : Nat) := by omega
    show Q (.int (z % (10 ^ 30 + 57))) H
    rw [e]
    exact q _ (by omega)
theorem pc_L_mixed {K : PySem.W.Frag} {mg : Str → Option Value} (T : Tx K mg) {X : Cx} (hr : Room 1 X.A) (hg : Gl X "_law_mixed") {p pos : Pos} {e : Expr} {es : List Expr} {t : TA} (ha : PA X (e :: es) t) (hK : X.K = K := by rfl) (hM : X.mg = mg := by rfl) (he : starEach (e :: es) X.env = (false, eval e X.env) :: starEach es X.env := by rfl) (hpl : (backTo pos (starEach es X.env)).any (·.1) = false := by rfl) : PE X (.Call (.Name "_law_mixed" p) (e :: es) [] pos) (tCall (sp_L_mixed K) [] E0 t) := by
  subst hK hM
  obtain ⟨fd, F⟩ := T.says.def_ 39 (d := d_L_mixed) rfl
  exact pe_call (ok_L_mixed T F) hr hg (T.glo 39 rfl) F.kp (F.bindsN fun _ _ _ _ _ _ us hl => match us, hl with | [_, _], _ => rfl) .nil pass0 ha (by decide) he hpl
def sp_L_number (K : PySem.W.Frag) : Sp := fun vs H Q _ => ∃ (c : Int) (b : Nat), vs = [.int c, .int (b : Int)] ∧ 0 ≤ c ∧ c < 10 ^ 40 ∧ 1 ≤ b ∧ ∀ r : Nat, 1 ≤ r → r ≤ b → Q (.int (r : Int)) H
abbrev N_L_number : List Str := ["_law_cell_here", "_law_most"]
theorem sc_L_number : FnScope N_L_number ["_law_cell_here", "_law_most"] (defScope s_L_number) := ⟨rfl, rfl, rfl, by decide +kernel, rfl, by decide +kernel, by decide +kernel⟩
theorem ok_L_number (T : Tx K mg) {fd : FuncData} (F : FnD K d_L_number fd) : FnOk P w K mg base CX0 1 (He.fAd K d_L_number.at_) fd ["_law_cell_here", "_law_most"] (sp_L_number K) := by
  have nd := sc_L_number.nd
  refine okx F sc_L_number (fun vs H Q E h => ?_) (fun cdv A outer s H vs Q E hr h => ?_)
  · obtain ⟨c, b, rfl, _⟩ := h
    rfl
  · obtain ⟨c, b, rfl, h0, h1, hb, q⟩ := h
    refine ⟨_, (pss_one (ps_ret (pe_op op_add pe_int (pe_op op_mod (pe_op op_mod (pe_op op_add (pe_op op_mulW (pv 0) pe_int) pe_int) pe_int) (pv 1))))), ?_⟩
    have m1 : CMulW c 48271 := wide_mul (a := 140) (b := 20) (by omega) (by decide) (by decide) (by decide) (by decide)
    refine ⟨_, rfl, _, _, rfl, rfl, m1, _, _, rfl, rfl, _, _, rfl, rfl, (by show (0 : Int) < 1000000007; decide), _, rfl, _, _, rfl, rfl, (by show (0 : Int) < (b : Int); omega), _, _, rfl, rfl, ?_⟩
    generalize (c * 48271 + 5) % 1000000007 = z
    have p0 := Int.emod_nonneg z (show (b : Int) ≠ 0 by omega)
    have p1 := Int.emod_lt_of_pos z (show (0 : Int) < b by omega)
    show Q (.int (1 + z % (b : Int))) H
    have e : 1 + z % (b : Int) = ((1 + z % (b : Int)).toNat : Nat) := by omega
    rw [e]
    exact q _ (by omega) (by omega)
theorem pc_L_number {K : PySem.W.Frag} {mg : Str → Option Value} (T : Tx K mg) {X : Cx} (hr : Room 1 X.A) (hg : Gl X "_law_number") {p pos : Pos} {e : Expr} {es : List Expr} {t : TA} (ha : PA X (e :: es) t) (hK : X.K = K := by rfl) (hM : X.mg = mg := by rfl) (he : starEach (e :: es) X.env = (false, eval e X.env) :: starEach es X.env := by rfl) (hpl : (backTo pos (starEach es X.env)).any (·.1) = false := by rfl) : PE X (.Call (.Name "_law_number" p) (e :: es) [] pos) (tCall (sp_L_number K) [] E0 t) := by
  subst hK hM
  obtain ⟨fd, F⟩ := T.says.def_ 43 (d := d_L_number) rfl
  exact pe_call (ok_L_number T F) hr hg (T.glo 43 rfl) F.kp (F.bindsN fun _ _ _ _ _ _ us hl => match us, hl with | [_, _], _ => rfl) .nil pass0 ha (by decide) he hpl
def sp_L_mask (K : PySem.W.Frag) : Sp := fun vs H Q _ => ∃ (p : Addr) (xs : List Nat), vs = [.ref p] ∧ SqL K H p (nats xs) ∧ xs.length ≤ 1000 ∧ (∀ x ∈ xs, x ≤ 1000) ∧ ∀ H' (m : Nat), Same H H' → Q (.int (m : Int)) H'
abbrev N_L_mask : List Str := ["_law_some", "_law_hand"]
theorem sc_L_mask : FnScope N_L_mask ["_law_some"] (defScope s_L_mask) := ⟨rfl, rfl, rfl, by decide +kernel, rfl, by decide +kernel, by decide +kernel⟩
theorem ok_L_mask (T : Tx K mg) {fd : FuncData} (F : FnD K d_L_mask fd) : FnOk P w K mg base CX0 1 (He.fAd K d_L_mask.at_) fd ["_law_some"] (sp_L_mask K) := by
  have nd := sc_L_mask.nd
  refine okx F sc_L_mask (fun vs H Q E h => ?_) (fun cdv A outer s H vs Q E hr h => ?_)
  · obtain ⟨p, xs, rfl, _⟩ := h
    rfl
  · obtain ⟨p, xs, rfl, hp, hl, hx, q⟩ := h
    refine ⟨_, (pss_one (ps_ret (pe_callB (cr_sum rfl) (by rfl) (T.free 57 rfl) (by decide +kernel) (pa_cons (pe_lc (own := [("_law_hand", 1)]) (g := (gName 1)) rfl nd (pi_list (pv 0)) (blkOk_by (N := N_L_mask) (sc := defScope s_L_mask) (by decide +kernel)) (fun _ _ _ _ _ => (pg_name (i := 1) nd rfl (Or.inl rfl))) (fun _ _ _ _ _ => pts_nil) (fun _ _ _ _ _ => (pe_op op_shl pe_int (pv 1)))) pa_nil)))), ?_⟩
    refine ⟨_, rfl, p, rfl, ⟨_, hp⟩, fun D hD => lc_list (K := K) (a := p) (xs := nats xs) (fun i H' => H' = upd H D (.lst (((xs.map fun (x : Nat) => (2 : Int) ^ x).take i).map V.int))) rfl ?_ ?_ ?_⟩
    · rintro i H' _ rfl
      exact sql_same (Same.new hD) hp
    · rintro i v H' hv rfl
      rw [List.getElem?_map] at hv
      obtain ⟨x, hx', rfl⟩ := Option.map_eq_some_iff.mp hv
      have hx2 := hx x (List.mem_of_getElem? hx')
      refine ⟨rfl, ?_⟩
      refine ⟨_, rfl, _, _, rfl, rfl, (⟨by omega, by omega, by decide⟩ : CPow 1 (x : Int)), _, upd_same, ?_, ?_⟩
      · rw [List.length_map, List.length_take, List.length_map]
        exact small1000 (by omega)
      · rw [upd_upd]
        have e : (xs.map fun (x : Nat) => (2 : Int) ^ x)[i]? = some ((2 : Int) ^ x) := by rw [List.getElem?_map, hx']; rfl
        rw [take_snoc e, List.map_append]
        have e2 : (1 : Int) * 2 ^ ((x : Int)).toNat = 2 ^ x := by rw [Int.toNat_natCast, Int.one_mul]
        show upd H D (.lst (_ ++ [V.int (1 * 2 ^ ((x : Int)).toNat)])) = _
        rw [e2]
        rfl
    · rintro H' rfl
      refine ⟨D, xs.map fun (x : Nat) => (2 : Int) ^ x, rfl, ?_, ?_⟩
      · have e : (nats xs).length = (xs.map fun (x : Nat) => (2 : Int) ^ x).length := by rw [List.length_map, List.length_map]
        rw [e, List.take_length]
        exact SqL.of upd_same
      · rw [sum_pows]
        exact q _ _ (Same.new hD)
theorem pc_L_mask {K : PySem.W.Frag} {mg : Str → Option Value} (T : Tx K mg) {X : Cx} (hr : Room 1 X.A) (hg : Gl X "_law_mask") {p pos : Pos} {e : Expr} {es : List Expr} {t : TA} (ha : PA X (e :: es) t) (hK : X.K = K := by rfl) (hM : X.mg = mg := by rfl) (he : starEach (e :: es) X.env = (false, eval e X.env) :: starEach es X.env := by rfl) (hpl : (backTo pos (starEach es X.env)).any (·.1) = false := by rfl) : PE X (.Call (.Name "_law_mask" p) (e :: es) [] pos) (tCall (sp_L_mask K) [] E0 t) := by
  subst hK hM
  obtain ⟨fd, F⟩ := T.says.def_ 41 (d := d_L_mask) rfl
  exact pe_call (ok_L_mask T F) hr hg (T.glo 41 rfl) F.kp (F.bindsN fun _ _ _ _ _ _ us hl => match us, hl with | [_], _ => rfl) .nil pass0 ha (by decide) he hpl
def sp_L_lots (K : PySem.W.Frag) : Sp := fun vs H Q _ => ∃ (c : Int) (n : Nat), vs = [.int c, .int (n : Int)] ∧ 0 ≤ c ∧ c < 10 ^ 40 ∧ n ≤ 12 ∧ ∀ H' l (ls : List Nat), Same H H' → ls.Perm (List.range n) → FzL H' l (nats ls) → Q (.ref l) H'
abbrev N_L_lots : List Str := ["_law_cell_here", "_law_hands", "_law_number_here", "_law_left", "_law_lots_here", "_law_k"]
theorem sc_L_lots : FnScope N_L_lots ["_law_cell_here", "_law_hands"] (defScope s_L_lots) := ⟨rfl, rfl, rfl, by decide +kernel, rfl, by decide +kernel, by decide +kernel⟩
theorem ok_L_lots (T : Tx K mg) {fd : FuncData} (F : FnD K d_L_lots fd) : FnOk P w K mg base CX0 2 (He.fAd K d_L_lots.at_) fd ["_law_cell_here", "_law_hands"] (sp_L_lots K) := by
  have nd := sc_L_lots.nd
  refine okx F sc_L_lots (fun vs H Q E h => ?_) (fun cdv A outer s H vs Q E hr h => ?_)
  · obtain ⟨c, n, rfl, _⟩ := h
    rfl
  · obtain ⟨c, n, rfl, h0, h1, hn, q⟩ := h
    refine ⟨_, (pss_cons (ps_set (i := 2) nd rfl (Or.inl rfl) (pc_L_mixed T (hr.mono (by decide)) (by rfl) (pa_cons (pv 0) (pa_cons pe_int pa_nil))))
      (pss_cons (ps_set (i := 3) nd rfl (Or.inl rfl) (pe_listRg rfl (by rfl) (T.free 60 rfl) (prg_1 (by rfl) (T.free 59 rfl) (pv 1))))
      (pss_cons (ps_set (i := 4) nd rfl (Or.inl rfl) (pe_lst pa_nil))
      (pss_cons (ps_for PassesOwn.never rfl (pi_range1 (by rfl) (T.free 59 rfl) (pa_cons (pv 1) pa_nil)) (pg_name (i := 5) nd rfl (Or.inl rfl)) (pss_cons (ps_expr (pe_bm PySem.F.plainAttrs_list PySem.F.slot_list_append PySem.F.type_list_append mt_append (pv 4) (pa_cons (pe_bm PySem.F.plainAttrs_list PySem.F.slot_list_pop PySem.F.type_list_pop mt_popAt (pv 3) (pa_cons (pe_op op_mod (pv 2) (pe_op op_sub (pv 1) (pv 5))) pa_nil)) pa_nil)))
      (pss_one (ps_set (i := 2) nd rfl (Or.inl rfl) (pe_op op_fdivW (pv 2) (pe_op op_sub (pv 1) (pv 5)))))))
      (pss_one (ps_ret (pe_fz (pv 4)))))))), ?_⟩
    refine ⟨_, rfl, c, 5, rfl, h0, h1, by decide, fun r hr0 => ?_⟩
    refine ⟨_, rfl, _, rfl, RgOk.of_le (by omega) (by omega) (by omega) (by omega), fun l hl => ?_⟩
    rw [rgV_nats]
    have S1 : Same H (upd H l (.lst (nats (List.range n)))) := Same.new hl
    refine ⟨(by show 0 ≤ sizeLine; decide), fun m hm => ?_⟩
    have hml : m ≠ l := fun z => by
      rw [z, upd_same] at hm
      cases hm
    have hm0 : H m = none := by rw [upd_ne hml] at hm; exact hm
    have S2 : Same H (upd (upd H l (.lst (nats (List.range n)))) m (.lst [])) := S1.trans (Same.new hm)
    refine ⟨_, rfl, _, rfl, by omega, by omega, ?_⟩
    refine for_range (lo := 0) (n := (n : Int).toNat) (fun i σ H' => ∃ (g : Nat) (L M : List Nat) (t : Option V), σ = [some (.int c), some (.int (n : Int)), some (.int (g : Int)), some (.ref l), some (.ref m), t] ∧ H' l = some (.lst (nats L)) ∧ H' m = some (.lst (nats M)) ∧ Same H H' ∧ L.length = n - i ∧ (M ++ L).Perm (List.range n) ∧ g < 10 ^ 31)
      ⟨r, List.range n, [], _, rfl, by rw [upd_ne (fun z => hml z.symm), upd_same], upd_same, S2, by rw [List.length_range]; rfl, List.Perm.refl _, hr0⟩ ?_ ?_
    · rintro i σ H' hi ⟨g, L, M, t, rfl, hL, hM, sm, ll, pm, hg⟩
      have hi' : i < n := by omega
      have hd : (n : Int) - (0 + (i : Int)) = ((n - i : Nat) : Int) := by omega
      have hpos : (0 : Int) < (n : Int) - (0 + (i : Int)) := by omega
      have hj : g % (n - i) < L.length := by rw [ll]; exact Nat.mod_lt _ (by omega)
      obtain ⟨x, hx⟩ : ∃ x, L[g % (n - i)]? = some x := ⟨_, List.getElem?_eq_getElem hj⟩
      have hx' : (nats L)[g % (n - i)]? = some (.int (x : Int)) := by rw [List.getElem?_map, hx]; rfl
      have em : (g : Int) % ((n : Int) - (0 + (i : Int))) = ((g % (n - i) : Nat) : Int) := by rw [hd]; push_cast; rfl
      have si : seqIndex? ((g : Int) % ((n : Int) - (0 + (i : Int)))) (nats L).length = some (g % (n - i)) := by
        rw [em]
        have e : ixN (nats L).length ((g % (n - i) : Nat) : Int) = some (g % (n - i)) := by
          have h3 : (nats L).length = L.length := List.length_map ..
          unfold ixN
          rw [if_pos (by omega), if_pos (by omega)]
          exact congrArg some (Int.toNat_natCast _)
        exact (ixN_seq e).1
      have b1 : (g : Int) % ((n : Int) - (0 + (i : Int))) < 2 ^ 63 := by rw [em]; have := Nat.le_of_lt hj; rw [ll] at this; omega
      have b0 : -(2 ^ 63) ≤ (g : Int) % ((n : Int) - (0 + (i : Int))) := by rw [em]; omega
      have mM : M.length ≤ 12 := by
        have := pm.length_eq
        rw [List.length_append, List.length_range] at this
        omega
      have hmL : (upd H' l (.lst ((nats L).eraseIdx (g % (n - i))))) m = some (.lst (nats M)) := by rw [upd_ne hml]; exact hM
      refine ⟨_, rfl, .inl ⟨rfl, _, SqL.of hM⟩, _, rfl, .inl ⟨rfl, _, SqL.of hL⟩, _, rfl, _, rfl, _, rfl, _, _, rfl, rfl, _, _, rfl, rfl, hpos, ?_⟩
      refine ⟨l, _, _, _, _, rfl, rfl, hL, b0, b1, si, hx', m, _, _, rfl, rfl, hmL, (by rw [List.length_map]; exact small1000 (by omega)), ?_⟩
      have dv : CDivW (g : Int) ((n : Int) - (0 + (i : Int))) := wide_div (b := 20) hpos (by omega) (by decide) (by decide)
      refine ⟨_, rfl, _, rfl, _, rfl, _, _, rfl, rfl, _, _, rfl, rfl, dv, ?_⟩
      refine ⟨g / (n - i), L.eraseIdx (g % (n - i)), M ++ [x], some (.int (0 + (i : Int))), ?_, ?_, ?_, ?_, ?_, ?_, ?_⟩
      · have e : (g : Int) / ((n : Int) - (0 + (i : Int))) = ((g / (n - i) : Nat) : Int) := by rw [hd]; push_cast; rfl
        rw [← e]
        rfl
      · rw [upd_ne (fun z => hml z.symm), upd_same]
        show some (HO.lst ((nats L).eraseIdx _)) = _
        have e : (nats L).eraseIdx (g % (n - i)) = nats (L.eraseIdx (g % (n - i))) := erase_map _ L _
        rw [e]
      · rw [upd_same]
        show some (HO.lst (nats M ++ [V.int (x : Int)])) = _
        have e : nats M ++ [V.int (x : Int)] = nats (M ++ [x]) := by
          unfold nats
          rw [List.map_append]
          rfl
        rw [e]
      · exact Same.at (Same.at sm hl) hm0
      · rw [List.length_eraseIdx_of_lt hj, ll]
        omega
      · rw [List.append_assoc]
        exact ((erase_perm hx).append_left M).trans pm
      · exact Nat.lt_of_le_of_lt (Nat.div_le_self _ _) hg
    · rintro σ H' ⟨g, L, M, t, rfl, hL, hM, sm, ll, pm, hg⟩
      have e : L = [] := List.eq_nil_of_length_eq_zero (by omega)
      subst e
      rw [List.append_nil] at pm
      refine ⟨_, rfl, m, _, rfl, hM, fun o => ?_⟩
      exact q _ m M (Same.at sm hm0) pm FzL.mk
theorem pc_L_lots {K : PySem.W.Frag} {mg : Str → Option Value} (T : Tx K mg) {X : Cx} (hr : Room 2 X.A) (hg : Gl X "_law_lots") {p pos : Pos} {e : Expr} {es : List Expr} {t : TA} (ha : PA X (e :: es) t) (hK : X.K = K := by rfl) (hM : X.mg = mg := by rfl) (he : starEach (e :: es) X.env = (false, eval e X.env) :: starEach es X.env := by rfl) (hpl : (backTo pos (starEach es X.env)).any (·.1) = false := by rfl) : PE X (.Call (.Name "_law_lots" p) (e :: es) [] pos) (tCall (sp_L_lots K) [] E0 t) := by
  subst hK hM
  obtain ⟨fd, F⟩ := T.says.def_ 40 (d := d_L_lots) rfl
  exact pe_call (ok_L_lots T F) hr hg (T.glo 40 rfl) F.kp (F.bindsN fun _ _ _ _ _ _ us hl => match us, hl with | [_, _], _ => rfl) .nil pass0 ha (by decide) he hpl
end
end K75
-- KL3
/-! slip. -/
namespace K75
open PySem PySem.Spec PyProof.Rows L2 LamX
theorem mem_putK {κ : Type} [DecidableEq κ] {kvs : List (κ × V)} {k : κ} {y : V} {p : κ × V} (h : p ∈ putK kvs k y) : p ∈ kvs ∨ p = (k, y) := by
  unfold putK at h
  split at h
  · obtain ⟨q, hq, e⟩ := List.mem_map.mp h
    by_cases c : q.1 = k
    · rw [if_pos c] at e
      exact .inr (by rw [← e, c])
    · rw [if_neg c] at e
      exact .inl (e ▸ hq)
  · rcases List.mem_append.mp h with h | h
    · exact .inl h
    · exact .inr (by simpa using h)
theorem mem_valV {κ : Type} [DecidableEq κ] : ∀ {kvs : List (κ × V)} {k : κ} {v : V}, valV kvs k = some v → (k, v) ∈ kvs
  | [], _, _, h => by rw [valV_nil] at h; cases h
  | p :: r, k, v, h => by
    by_cases e : p.1 = k
    · rw [valV_pos e] at h
      have := Option.some.inj h
      subst e this
      exact List.mem_cons_self ..
    · rw [valV_neg e] at h
      exact List.mem_cons_of_mem _ (mem_valV h)
theorem valV_mem {κ : Type} [DecidableEq κ] : ∀ {kvs : List (κ × V)} {k : κ}, k ∈ kvs.map (·.1) → ∃ v, valV kvs k = some v
  | [], _, h => nomatch h
  | p :: r, k, h => by
    by_cases e : p.1 = k
    · exact ⟨_, valV_pos e⟩
    · rcases List.mem_cons.mp h with h | h
      · exact absurd h.symm e
      · obtain ⟨v, hv⟩ := valV_mem (kvs := r) h
        exact ⟨v, by rw [valV_neg e]; exact hv⟩
/-- the tiers of a slip that is made -/
structure Tiers (H : Hp) (l d : Addr) (i : Nat) (kvs : List (L2.Key × V)) : Prop where
  en : ∀ p ∈ kvs, ∃ (r : Nat) (b : Addr) (xs : List Nat), p = (Sum.inl (r : Int), V.ref b) ∧ b ≠ l ∧ b ≠ d ∧ H b = some (.lst (nats xs)) ∧ xs.length ≤ i ∧ ∀ x ∈ xs, x ≤ 12
  len : kvs.length ≤ i
/-- how the making of a slip stands -/
def SlipInv (c : Int) (n way many : Nat) (l d : Addr) (H : Hp) (i : Nat) (σ : L2.St) (H' : Hp) : Prop := ∃ (g : Nat) (L : List Nat) (kvs : List (L2.Key × V)) (t1 t2 t3 t4 : Option V), σ = [some (.int c), some (.int (n : Int)), some (.int (g : Int)), some (.int (way : Int)), some (.int (many : Int)), some (.ref l), some (.ref d), t1, t2, t3, t4] ∧ H' l = some (.lst (nats L)) ∧ H' d = some (.dK kvs) ∧ Tiers H' l d i kvs ∧ Same H H' ∧
        (way = 3 ∨ way = 0 → n ≤ L.length + i) ∧ (∀ x ∈ L, x < n) ∧ g < 10 ^ 31 ∧ L.length ≤ 12
theorem putKlen {κ : Type} [DecidableEq κ] (c : List (κ × V)) (k : κ) (x : V) : (putK c k x).length ≤ c.length + 1 := by
  unfold putK
  split
  · rw [List.length_map]; omega
  · rw [List.length_append]; exact Nat.le_refl _
theorem iteN {a b : Int} {A B : Prop} (h : ¬ a = b) (x : B) : if decide (V.int a = V.int b) = true then A else B := ite2 (fun c => absurd (by simpa using c) h) (fun _ => x)
theorem iteY {a b : Int} {A B : Prop} (h : a = b) (x : A) : if decide (V.int a = V.int b) = true then A else B := ite2 (fun _ => x) (fun c => absurd (by simpa using h) c)
theorem Tiers.next {H H' : Hp} {l d : Addr} {i : Nat} {kvs : List (L2.Key × V)} (t : Tiers H l d i kvs) (k : ∀ b xs, b ≠ l → b ≠ d → H b = some (.lst xs) → H' b = some (.lst xs)) : Tiers H' l d (i + 1) kvs :=
  ⟨fun p hp => by
    obtain ⟨r, b, xs, e, h1, h2, h3, h4, h5⟩ := t.en p hp
    exact ⟨r, b, xs, e, h1, h2, k b _ h1 h2 h3, by omega, h5⟩, by have := t.len; omega⟩
theorem Tiers.put {H H' : Hp} {l d b : Addr} {i r : Nat} {xs : List Nat} {kvs : List (L2.Key × V)} (t : Tiers H l d i kvs) (k : ∀ b xs, b ≠ l → b ≠ d → H b = some (.lst xs) → H' b = some (.lst xs)) (hbl : b ≠ l) (hbd : b ≠ d) (hb : H' b = some (.lst (nats xs))) (hl : xs.length ≤ i + 1) (hx : ∀ x ∈ xs, x ≤ 12) :
    Tiers H' l d (i + 1) (putK kvs (Sum.inl (r : Int)) (V.ref b)) :=
  ⟨fun p hp => by
    rcases mem_putK hp with h | h
    · exact (t.next k).en p h
    · exact ⟨r, b, xs, h, hbl, hbd, hb, hl, hx⟩, by have := t.len; have := putKlen kvs (Sum.inl (r : Int)) (V.ref b); omega⟩
theorem SlipInv.same {c : Int} {n way many : Nat} {l d : Addr} {H H' H2 : Hp} {i : Nat} {σ : L2.St} (h : SlipInv c n way many l d H i σ H') (s : Same H' H2) : SlipInv c n way many l d H i σ H2 := by
  obtain ⟨g, L, kvs, t1, t2, t3, t4, e, hL, hD, ti, sm, r⟩ := h
  exact ⟨g, L, kvs, t1, t2, t3, t4, e, s _ _ hL, s _ _ hD, ⟨fun p hp => by
    obtain ⟨r, b, xs, e, h1, h2, h3, h4⟩ := ti.en p hp
    exact ⟨r, b, xs, e, h1, h2, s _ _ h3, h4⟩, ti.len⟩, sm.trans s, r⟩
section
variable {P : Program} {w : World} {K : PySem.W.Frag} {mg : Str → Option Value} {base : Heap}
def sp_L_slip (K : PySem.W.Frag) : Sp := fun vs H Q _ => ∃ (c : Int) (n : Nat), vs = [.int c, .int (n : Int)] ∧ 0 ≤ c ∧ c < 10 ^ 40 ∧ n ≤ 12 ∧ ∀ H' v s, Same H H' → rSlip K H' v s → Q v H'
abbrev N_L_slip : List Str := ["_law_cell_here", "_law_hands", "_law_number_here", "_law_way", "_law_many", "_law_left", "_law_tiers", "_law_k", "_law_base", "_law_lot", "_law_rank"]
theorem sc_L_slip : FnScope N_L_slip ["_law_cell_here", "_law_hands"] (defScope s_L_slip) := ⟨rfl, rfl, rfl, by decide +kernel, rfl, by decide +kernel, by decide +kernel⟩
theorem ok_L_slip (T : Tx K mg) {fd : FuncData} (F : FnD K d_L_slip fd) : FnOk P w K mg base CX0 3 (He.fAd K d_L_slip.at_) fd ["_law_cell_here", "_law_hands"] (sp_L_slip K) := by
  have nd := sc_L_slip.nd
  refine okx F sc_L_slip (fun vs H Q E h => ?_) (fun cdv A outer s H vs Q E hr h => ?_)
  · obtain ⟨c, n, rfl, _⟩ := h
    rfl
  · obtain ⟨c, n, rfl, h0, h1, hn, q⟩ := h
    refine ⟨_, (pss_cons (ps_set (i := 2) nd rfl (Or.inl rfl) (pc_L_mixed T (hr.mono (by decide)) (by rfl) (pa_cons (pv 0) (pa_cons (pv 1) pa_nil))))
      (pss_cons (ps_set (i := 3) nd rfl (Or.inl rfl) (pe_op op_mod (pv 2) pe_int))
      (pss_cons (ps_set (i := 4) nd rfl (Or.inl rfl) (pe_op op_mod (pe_op op_fdivW (pv 2) pe_int) (pe_op op_add (pv 1) pe_int)))
      (pss_cons (ps_set (i := 2) nd rfl (Or.inl rfl) (pe_op op_fdivW (pv 2) pe_int))
      (pss_cons (ps_set (i := 5) nd rfl (Or.inl rfl) (pe_listRg rfl (by rfl) (T.free 60 rfl) (prg_1 (by rfl) (T.free 59 rfl) (pv 1))))
      (pss_cons (ps_set (i := 6) nd rfl (Or.inr rfl) pe_dnewK)
      (pss_cons (ps_for PassesOwn.never rfl (pi_range1 (by rfl) (T.free 59 rfl) (pa_cons (pv 1) pa_nil)) (pg_name (i := 7) nd rfl (Or.inl rfl)) (pss_cons (ps_set (i := 8) nd rfl (Or.inl rfl) (pe_ix ix_list (pe_lst (pa_cons (pe_callB call_len_seq (by rfl) (T.free 54 rfl) (by decide +kernel) (pa_cons (pv 5) pa_nil)) (pa_cons (pe_op op_add (pv 1) pe_int) (pa_cons pe_int (pa_cons (pe_callB call_len_seq (by rfl) (T.free 54 rfl) (by decide +kernel) (pa_cons (pv 5) pa_nil)) pa_nil))))) (pv 3) (fun _ _ => rfl)))
      (pss_cons (ps_set (i := 9) nd rfl (Or.inl rfl) (pe_op op_mod (pv 2) (pv 8)))
      (pss_cons (ps_set (i := 2) nd rfl (Or.inl rfl) (pe_op op_fdivW (pv 2) (pv 8)))
      (pss_cons (ps_if (PW.pt (pw_or (pt_cmpR op_eq (pv 3) pe_int (nomark _)) (pw_or1 (PW.pt (pw_and (pt_cmpR op_eq (pv 3) pe_int (nomark _)) (pw_and1 (pt_cmpR op_lt (pv 7) (pv 4) (nomark _)))))))) (pss_one (ps_dput (hu_of hr) (pv 6) (pv 7) (pe_lst (pa_cons (pe_bm PySem.F.plainAttrs_list PySem.F.slot_list_pop PySem.F.type_list_pop mt_popAt (pv 5) (pa_cons (pv 9) pa_nil)) pa_nil)) rfl)) pss_nil)
      (pss_one (ps_if (PW.pt (pw_and (pt_cmpR op_in_seq (pv 3) (pe_tup (pa_cons pe_int (pa_cons pe_int pa_nil))) (by with_unfolding_all rfl)) (pw_and1 (pt_cmpR op_gt (pv 9) pe_int (nomark _))))) (pss_one (ps_dput (hu_of hr) (pv 6) (pv 9) (pe_op op_catL (pe_dget2 (hu_of hr) (pv 6) (pv 9) (pe_lst pa_nil) ⟨by rfl, by rfl, by rfl, by rfl⟩) (pe_lst (pa_cons (pv 7) pa_nil))) rfl)) pss_nil)))))))
      (pss_one (ps_ret (pe_callTy call_tuple_of (by rfl) (T.free 62 rfl) (by decide +kernel) (pa_cons (pe_lc (own := [("_law_rank", 10)]) (g := (gName 10)) rfl nd (pi_list (pe_callB (call_sortedDI rfl) (by rfl) (T.free 58 rfl) (by decide +kernel) (pa_cons (pv 6) pa_nil))) (blkOk_by (N := N_L_slip) (sc := defScope s_L_slip) (by decide +kernel)) (fun _ _ _ _ _ => (pg_name (i := 10) nd rfl (Or.inl rfl))) (fun _ _ _ _ _ => pts_nil) (fun _ _ _ _ _ => (pc_L_mask T (hr.mono (by decide)) (by rfl) (pa_cons (pe_dget (hu_of hr) (pv 6) (pv 10) (fun _ _ => rfl)) pa_nil)))) pa_nil))))))))))), ?_⟩
    refine ⟨_, rfl, _, rfl, c, n, rfl, h0, h1, by omega, fun r hr0 => ?_⟩
    refine ⟨_, rfl, _, _, rfl, rfl, (by show (0 : Int) < 4; decide), ?_⟩
    refine ⟨_, rfl, _, _, rfl, rfl, wide_div (b := 20) (by decide) (by decide) (by decide) (by decide), _, rfl, _, _, rfl, rfl, _, _, rfl, rfl, (by show (0 : Int) < (n : Int) + 1; omega), ?_⟩
    refine ⟨_, rfl, _, _, rfl, rfl, wide_div (b := 20) (by decide) (by decide) (by decide) (by decide), ?_⟩
    obtain ⟨way, hway, eway⟩ : ∃ way : Nat, way < 4 ∧ (r : Int) % 4 = (way : Int) := ⟨r % 4, Nat.mod_lt _ (by decide), by push_cast; rfl⟩
    obtain ⟨many, emany⟩ : ∃ many : Nat, (r : Int) / 4 % ((n : Int) + 1) = (many : Int) := ⟨r / 4 % (n + 1), by push_cast; rfl⟩
    obtain ⟨g0, hg0, eg0⟩ : ∃ g0 : Nat, g0 < 10 ^ 31 ∧ (r : Int) / 64 = (g0 : Int) := ⟨r / 64, Nat.lt_of_le_of_lt (Nat.div_le_self _ _) hr0, by push_cast; rfl⟩
    refine ⟨_, rfl, _, rfl, RgOk.of_le (by omega) (by omega) (by omega) (by omega), fun l hl => ?_⟩
    rw [rgV_nats]
    intro d hd
    have hdl : d ≠ l := fun z => by
      rw [z, upd_same] at hd
      cases hd
    have hd0 : H d = none := by rw [upd_ne hdl] at hd; exact hd
    have S2 : Same H (upd (upd H l (.lst (nats (List.range n)))) d (.dK [])) := (Same.new hl).trans (Same.new hd)
    refine ⟨_, rfl, _, rfl, by omega, by omega, ?_⟩
    refine for_range (lo := 0) (n := (n : Int).toNat) (SlipInv c n way many l d H)
      ?_ ?_ ?_
    · refine ⟨g0, List.range n, [], _, _, _, _, by rw [← eway, ← emany, ← eg0]; rfl, by rw [upd_ne (fun z => hdl z.symm), upd_same], upd_same, ⟨fun p hp => (nomatch hp), Nat.zero_le _⟩, S2, fun _ => by rw [List.length_range]; omega, fun x hx => List.mem_range.mp hx, hg0, by rw [List.length_range]; exact hn⟩
    · rintro i σ H' hi ⟨g, L, kvs, t1, t2, t3, t4, rfl, hL, hD, ti, sm, ll, lx, hg, llb⟩
      have hi' : i < n := by omega
      obtain ⟨bs, hbs, hb0, hb13, hbL⟩ : ∃ bs : Nat, atI [V.int ((nats L).length : Nat), V.int ((n : Int) + 1), V.int 3, V.int ((nats L).length : Nat)] (way : Int) = some (.int (bs : Int)) ∧ 0 < bs ∧ bs ≤ 100000 ∧ (way = 3 ∨ way = 0 → bs = L.length) := by
        have e3 : (nats L).length = L.length := List.length_map ..
        have big : (L.length ≤ 100000) := by omega
        match way, hway, ll with
        | 0, _, ll => exact ⟨L.length, by rw [e3]; rfl, by have := ll (.inr rfl); omega, big, fun _ => rfl⟩
        | 1, _, _ => exact ⟨n + 1, rfl, by omega, by omega, fun h => by rcases h with h | h <;> cases h⟩
        | 2, _, _ => exact ⟨3, rfl, by omega, by omega, fun h => by rcases h with h | h <;> cases h⟩
        | 3, _, ll => exact ⟨L.length, by rw [e3]; rfl, by have := ll (.inl rfl); omega, big, fun _ => rfl⟩
        | k + 4, h, _ => omega
      have hbpos : (0 : Int) < (bs : Int) := by omega
      refine ⟨_, rfl, l, _, rfl, .inl (SqL.of hL), _, rfl, _, _, rfl, rfl, _, rfl, l, _, rfl, .inl (SqL.of hL), (by show 4 ≤ sizeLine; decide), fun w0 hw0 => ⟨_, rfl, w0, _, _, _, rfl, rfl, SqL.of upd_same, hbs, ?_⟩⟩
      have hw1 : ∀ b u, H' b = some u → (upd H' w0 (.lst [V.int ((nats L).length : Nat), V.int ((n : Int) + 1), V.int 3, V.int ((nats L).length : Nat)])) b = some u := Same.new hw0
      generalize upd H' w0 (.lst [V.int ((nats L).length : Nat), V.int ((n : Int) + 1), V.int 3, V.int ((nats L).length : Nat)]) = H1 at hw1
      have hL1 := hw1 _ _ hL
      have hD1 := hw1 _ _ hD
      have sm1 : Same H H1 := sm.trans hw1
      have lot : (g : Int) % (bs : Int) = ((g % bs : Nat) : Int) := by push_cast; rfl
      have lotb : g % bs < bs := Nat.mod_lt _ hb0
      have dv : CDivW (g : Int) (bs : Int) := wide_div (b := 20) hbpos (by omega) (by decide) (by decide)
      have g1 : (g : Int) / (bs : Int) = ((g / bs : Nat) : Int) := by push_cast; rfl
      have g2 : g / bs < 10 ^ 31 := Nat.lt_of_le_of_lt (Nat.div_le_self _ _) hg
      refine ⟨_, rfl, _, rfl, _, _, rfl, rfl, hbpos, ?_⟩
      refine ⟨_, rfl, _, rfl, _, _, rfl, rfl, dv, ?_⟩
      have kl : ∀ {H2 : Hp}, (∀ b u, b ≠ l → b ≠ d → H1 b = some u → H2 b = some u) → ∀ b xs, b ≠ l → b ≠ d → H' b = some (.lst xs) → H2 b = some (.lst xs) := fun h b xs h1 h2 e => h b _ h1 h2 (hw1 b _ e)
      have idle : SlipInv c n way many l d H (i + 1) [some (.int c), some (.int (n : Int)), some (.int ((g : Int) / (bs : Int))), some (.int (way : Int)), some (.int (many : Int)), some (.ref l), some (.ref d), some (.int (0 + (i : Int))), some (.int (bs : Int)), some (.int ((g : Int) % (bs : Int))), t4] H1 :=
        ⟨g / bs, L, kvs, _, _, _, _, by rw [← g1], hL1, hD1, ti.next (kl fun b u _ _ e => e), sm1, fun hw => by have := ll hw; omega, lx, g2, llb⟩
      have pop1 : (way = 3 ∨ way = 0) → ∃ x, (nats L)[g % bs]? = some (.int ((x : Nat) : Int)) ∧ x < n ∧ seqIndex? ((g : Int) % (bs : Int)) (nats L).length = some (g % bs) ∧ -(2 ^ 63) ≤ (g : Int) % (bs : Int) ∧ (g : Int) % (bs : Int) < 2 ^ 63 := fun hw => by
        have h3 := hbL hw
        have h4 : g % bs < L.length := by omega
        have e3 : (nats L).length = L.length := List.length_map ..
        refine ⟨L[g % bs], by rw [List.getElem?_map, List.getElem?_eq_getElem h4]; rfl, lx _ (List.getElem_mem h4), ?_, ?_, ?_⟩
        · rw [lot]
          have e : ixN (nats L).length ((g % bs : Nat) : Int) = some (g % bs) := by
            unfold ixN
            rw [if_pos (by omega), if_pos (by omega)]
            exact congrArg some (Int.toNat_natCast _)
          exact (ixN_seq e).1
        · rw [lot]; omega
        · rw [lot]; omega
      have put1 : (hw : way = 3 ∨ way = 0) → ∀ (x : Nat) (b : Addr), x < n → (upd H1 l (.lst ((nats L).eraseIdx (g % bs)))) b = none → SlipInv c n way many l d H (i + 1) [some (.int c), some (.int (n : Int)), some (.int ((g : Int) / (bs : Int))), some (.int (way : Int)), some (.int (many : Int)), some (.ref l), some (.ref d), some (.int (0 + (i : Int))), some (.int (bs : Int)), some (.int ((g : Int) % (bs : Int))), t4]
          (upd (upd (upd H1 l (.lst ((nats L).eraseIdx (g % bs)))) b (.lst [V.int (x : Int)])) d (.dK (putK kvs (Sum.inl (0 + (i : Int))) (V.ref b)))) := fun hw x b hx hb => by
        have hbl : b ≠ l := fun z => by rw [z, upd_same] at hb; cases hb
        have hb1 : H1 b = none := by rw [upd_ne hbl] at hb; exact hb
        have hbd : b ≠ d := fun z => by rw [z, hD1] at hb1; cases hb1
        have h4 : g % bs < L.length := by have := hbL hw; omega
        have e : (nats L).eraseIdx (g % bs) = nats (L.eraseIdx (g % bs)) := erase_map _ L _
        rw [Int.zero_add]
        refine ⟨g / bs, L.eraseIdx (g % bs), _, _, _, _, _, by rw [← g1], ?_, upd_same, ti.put (xs := [x]) ?_ hbl hbd ?_ (by simp) ?_, ?_, fun _ => ?_, fun y hy => lx y (List.mem_of_mem_eraseIdx hy), g2, by rw [List.length_eraseIdx_of_lt h4]; omega⟩
        · rw [upd_ne (fun z => hdl z.symm), upd_ne (fun z => hbl z.symm), upd_same, e]
        · intro c xs hc1 hc2 hc
          have hc := hw1 _ _ hc
          rw [upd_ne hc2, upd_ne (fun z => by rw [z, hb1] at hc; cases hc), upd_ne hc1]
          exact hc
        · rw [upd_ne hbd, upd_same]
          rfl
        · intro y hy
          have : y = x := by simpa using hy
          omega
        · exact Same.at (Same.at (Same.at sm1 hl) (sm1.free hb1)) hd0
        · rw [List.length_eraseIdx_of_lt h4]
          have := ll hw
          omega
      rcases (by omega : way = 0 ∨ way = 1 ∨ way = 2 ∨ way = 3) with rfl | rfl | rfl | rfl
      · refine ⟨_, rfl, rfl, _, rfl, iteN (by decide) ⟨_, rfl, rfl, _, rfl, iteY (by decide) ⟨_, rfl, _, rfl, _, _, rfl, rfl, _, rfl, ite2 (fun hc => ?_) (fun hc => ?_)⟩⟩⟩
        · obtain ⟨x, hx', hxn, si, b0, b1⟩ := pop1 (.inr rfl)
          refine ⟨_, rfl, .inl ⟨rfl, _, SqL.of hL1⟩, _, rfl, l, _, _, _, _, rfl, rfl, hL1, b0, b1, si, hx', (by show 1 ≤ sizeLine; decide), fun b hb => ?_⟩
          have hbl : b ≠ l := fun z => by rw [z, upd_same] at hb; cases hb
          have hbd : b ≠ d := fun z => by rw [z, upd_ne hdl, hD1] at hb; cases hb
          refine ⟨_, rfl, _, rfl, d, _, rfl, DPut.k (kvs := kvs) (k := Sum.inl (0 + (i : Int))) (by rw [upd_ne (fun z => hbd z.symm), upd_ne hdl]; exact hD1) (small1000 (by have := ti.len; omega)), ?_⟩
          exact ⟨_, rfl, (by show 2 ≤ sizeLine; decide), fun p hp => ⟨p, _, rfl, .inr (SqT.of upd_same), rfl, rfl, _, rfl, iteF (iteF ((put1 (.inr rfl) x b hxn hb).same (Same.new hp)))⟩⟩
        · exact ⟨_, rfl, (by show 2 ≤ sizeLine; decide), fun p hp => ⟨p, _, rfl, .inr (SqT.of upd_same), rfl, rfl, _, rfl, iteF (iteF (idle.same (Same.new hp)))⟩⟩
      · have hnw : ¬ (1 = 3 ∨ 1 = 0) := by decide
        refine ⟨_, rfl, rfl, _, rfl, iteN (by decide) ⟨_, rfl, rfl, _, rfl, iteN (by decide) (iteF ?_)⟩⟩
        refine ⟨_, rfl, (by show 2 ≤ sizeLine; decide), fun p hp => ⟨p, _, rfl, .inr (SqT.of upd_same), rfl, rfl, _, rfl, iteT ⟨_, rfl, _, _, rfl, rfl, _, rfl, ite2 (fun hc => ?_) (fun hc => ?_)⟩⟩⟩
        · have hs2 := Same.new (o := .tup [V.int 1, V.int 2]) hp
          generalize upd H1 p (.tup [V.int 1, V.int 2]) = H2 at hs2
          have hD2 := hs2 _ _ hD1
          have hL2 := hs2 _ _ hL1
          have sm2 := sm1.trans hs2
          refine ⟨_, rfl, d, rfl, .inl ⟨kvs, .inl hD2⟩, _, rfl, (by show 0 ≤ sizeLine; decide), fun q1 hq1 => ?_⟩
          have fin : ∃ o, DGet (upd H2 q1 (.lst [])) d (.int ((g : Int) % (bs : Int))) o ∧ ∃ (bA : Addr) (xs : List Nat), o.getD (.ref q1) = .ref bA ∧ (upd H2 q1 (.lst [])) bA = some (.lst (nats xs)) ∧ xs.length ≤ i ∧ ∀ x ∈ xs, x ≤ 12 := by
            have hD3 : (upd H2 q1 (.lst [])) d = some (.dK kvs) := Same.new hq1 _ _ hD2
            refine ⟨_, DGet.k (k := Sum.inl ((g : Int) % (bs : Int))) hD3, ?_⟩
            cases hv : valV kvs (Sum.inl ((g : Int) % (bs : Int))) with
            | none => exact ⟨q1, [], rfl, upd_same, Nat.zero_le _, fun x hx => nomatch hx⟩
            | some v =>
              obtain ⟨r', b, xs, e, e1, e2, e3, e4, e5⟩ := ti.en _ (mem_valV hv)
              cases e
              exact ⟨b, xs, rfl, Same.new hq1 _ _ (hs2 _ _ (hw1 _ _ e3)), e4, e5⟩
          obtain ⟨o, hget, bA, xs, eo, hbA, hxl, hx12⟩ := fin
          have sm3 : Same H2 (upd H2 q1 (.lst [])) := Same.new hq1
          generalize upd H2 q1 (.lst []) = H3 at hget hbA sm3
          refine ⟨o, hget, _, rfl, (by show 1 ≤ sizeLine; decide), fun q2 hq2 => ?_⟩
          have sm4 : Same H3 (upd H3 q2 (.lst [V.int (0 + (i : Int))])) := Same.new hq2
          refine ⟨bA, q2, nats xs, [V.int (0 + (i : Int))], eo, rfl, .inl (sm4 _ _ hbA), .inl upd_same, (by rw [List.length_map]; exact Nat.le_of_lt (small1000 (by show xs.length + 1 ≤ 1000; omega))), fun q3 hq3 => ?_⟩
          have sm24 := (hs2.trans sm3).trans sm4
          have hq3l : q3 ≠ l := fun z => by rw [z, sm24 _ _ hL1] at hq3; cases hq3
          have hq3d : q3 ≠ d := fun z => by rw [z, sm24 _ _ hD1] at hq3; cases hq3
          have sm5 := sm24.trans (Same.new (o := .lst (nats xs ++ [V.int (0 + (i : Int))])) hq3)
          refine ⟨_, rfl, _, rfl, d, _, rfl, DPut.k (kvs := kvs) (k := Sum.inl ((g : Int) % (bs : Int))) (sm5 _ _ hD1) (small1000 (by have := ti.len; omega)), ?_⟩
          refine ⟨g / bs, L, _, _, _, _, _, by rw [← g1]; rfl, ?_, upd_same, ?_, Same.at (sm1.trans sm5) hd0, fun hw => absurd hw hnw, lx, g2, llb⟩
          · rw [upd_ne (fun z => hdl z.symm)]
            exact sm5 _ _ hL1
          · rw [lot]
            refine ti.put (xs := xs ++ [i]) ?_ hq3l hq3d ?_ (by rw [List.length_append]; show xs.length + 1 ≤ i + 1; omega) ?_
            · intro c ys hc1 hc2 hc
              rw [upd_ne hc2]
              exact sm5 _ _ (hw1 _ _ hc)
            · rw [upd_ne hq3d, upd_same, Int.zero_add]
              unfold nats
              rw [List.map_append]
              rfl
            · intro y hy
              rcases List.mem_append.mp hy with hy | hy
              · exact hx12 y hy
              · have : y = i := by simpa using hy
                omega
        · exact idle.same (Same.new hp)
      · have hnw : ¬ (2 = 3 ∨ 2 = 0) := by decide
        refine ⟨_, rfl, rfl, _, rfl, iteN (by decide) ⟨_, rfl, rfl, _, rfl, iteN (by decide) (iteF ?_)⟩⟩
        refine ⟨_, rfl, (by show 2 ≤ sizeLine; decide), fun p hp => ⟨p, _, rfl, .inr (SqT.of upd_same), rfl, rfl, _, rfl, iteT ⟨_, rfl, _, _, rfl, rfl, _, rfl, ite2 (fun hc => ?_) (fun hc => ?_)⟩⟩⟩
        · have hs2 := Same.new (o := .tup [V.int 1, V.int 2]) hp
          generalize upd H1 p (.tup [V.int 1, V.int 2]) = H2 at hs2
          have hD2 := hs2 _ _ hD1
          have hL2 := hs2 _ _ hL1
          have sm2 := sm1.trans hs2
          refine ⟨_, rfl, d, rfl, .inl ⟨kvs, .inl hD2⟩, _, rfl, (by show 0 ≤ sizeLine; decide), fun q1 hq1 => ?_⟩
          have fin : ∃ o, DGet (upd H2 q1 (.lst [])) d (.int ((g : Int) % (bs : Int))) o ∧ ∃ (bA : Addr) (xs : List Nat), o.getD (.ref q1) = .ref bA ∧ (upd H2 q1 (.lst [])) bA = some (.lst (nats xs)) ∧ xs.length ≤ i ∧ ∀ x ∈ xs, x ≤ 12 := by
            have hD3 : (upd H2 q1 (.lst [])) d = some (.dK kvs) := Same.new hq1 _ _ hD2
            refine ⟨_, DGet.k (k := Sum.inl ((g : Int) % (bs : Int))) hD3, ?_⟩
            cases hv : valV kvs (Sum.inl ((g : Int) % (bs : Int))) with
            | none => exact ⟨q1, [], rfl, upd_same, Nat.zero_le _, fun x hx => nomatch hx⟩
            | some v =>
              obtain ⟨r', b, xs, e, e1, e2, e3, e4, e5⟩ := ti.en _ (mem_valV hv)
              cases e
              exact ⟨b, xs, rfl, Same.new hq1 _ _ (hs2 _ _ (hw1 _ _ e3)), e4, e5⟩
          obtain ⟨o, hget, bA, xs, eo, hbA, hxl, hx12⟩ := fin
          have sm3 : Same H2 (upd H2 q1 (.lst [])) := Same.new hq1
          generalize upd H2 q1 (.lst []) = H3 at hget hbA sm3
          refine ⟨o, hget, _, rfl, (by show 1 ≤ sizeLine; decide), fun q2 hq2 => ?_⟩
          have sm4 : Same H3 (upd H3 q2 (.lst [V.int (0 + (i : Int))])) := Same.new hq2
          refine ⟨bA, q2, nats xs, [V.int (0 + (i : Int))], eo, rfl, .inl (sm4 _ _ hbA), .inl upd_same, (by rw [List.length_map]; exact Nat.le_of_lt (small1000 (by show xs.length + 1 ≤ 1000; omega))), fun q3 hq3 => ?_⟩
          have sm24 := (hs2.trans sm3).trans sm4
          have hq3l : q3 ≠ l := fun z => by rw [z, sm24 _ _ hL1] at hq3; cases hq3
          have hq3d : q3 ≠ d := fun z => by rw [z, sm24 _ _ hD1] at hq3; cases hq3
          have sm5 := sm24.trans (Same.new (o := .lst (nats xs ++ [V.int (0 + (i : Int))])) hq3)
          refine ⟨_, rfl, _, rfl, d, _, rfl, DPut.k (kvs := kvs) (k := Sum.inl ((g : Int) % (bs : Int))) (sm5 _ _ hD1) (small1000 (by have := ti.len; omega)), ?_⟩
          refine ⟨g / bs, L, _, _, _, _, _, by rw [← g1]; rfl, ?_, upd_same, ?_, Same.at (sm1.trans sm5) hd0, fun hw => absurd hw hnw, lx, g2, llb⟩
          · rw [upd_ne (fun z => hdl z.symm)]
            exact sm5 _ _ hL1
          · rw [lot]
            refine ti.put (xs := xs ++ [i]) ?_ hq3l hq3d ?_ (by rw [List.length_append]; show xs.length + 1 ≤ i + 1; omega) ?_
            · intro c ys hc1 hc2 hc
              rw [upd_ne hc2]
              exact sm5 _ _ (hw1 _ _ hc)
            · rw [upd_ne hq3d, upd_same, Int.zero_add]
              unfold nats
              rw [List.map_append]
              rfl
            · intro y hy
              rcases List.mem_append.mp hy with hy | hy
              · exact hx12 y hy
              · have : y = i := by simpa using hy
                omega
        · exact idle.same (Same.new hp)
      · refine ⟨_, rfl, rfl, _, rfl, iteY (by decide) (iteT ?_)⟩
        obtain ⟨x, hx', hxn, si, b0, b1⟩ := pop1 (.inl rfl)
        refine ⟨_, rfl, .inl ⟨rfl, _, SqL.of hL1⟩, _, rfl, l, _, _, _, _, rfl, rfl, hL1, b0, b1, si, hx', (by show 1 ≤ sizeLine; decide), fun b hb => ?_⟩
        have hbl : b ≠ l := fun z => by rw [z, upd_same] at hb; cases hb
        have hbd : b ≠ d := fun z => by rw [z, upd_ne hdl, hD1] at hb; cases hb
        refine ⟨_, rfl, _, rfl, d, _, rfl, DPut.k (kvs := kvs) (k := Sum.inl (0 + (i : Int))) (by rw [upd_ne (fun z => hbd z.symm), upd_ne hdl]; exact hD1) (small1000 (by have := ti.len; omega)), ?_⟩
        exact ⟨_, rfl, (by show 2 ≤ sizeLine; decide), fun p hp => ⟨p, _, rfl, .inr (SqT.of upd_same), rfl, rfl, _, rfl, iteF (iteF ((put1 (.inl rfl) x b hxn hb).same (Same.new hp)))⟩⟩
    · rintro σ H' ⟨g, L, kvs, t1, t2, t3, t4, rfl, hL, hD, ti, sm, ll, lx, hg, llb⟩
      have eks : kvs.map (·.1) = (kvs.map fun p => match p.1 with | .inl i => i | .inr _ => (0 : Int)).map Sum.inl := by
        rw [List.map_map]
        refine List.map_congr_left fun p hp => ?_
        obtain ⟨r', b, xs, e, _⟩ := ti.en p hp
        rw [e]
        rfl
      generalize (kvs.map fun p => match p.1 with | .inl i => i | .inr _ => (0 : Int)) = ks at eks
      have lks : ks.length = kvs.length := by
        have := congrArg List.length eks
        rw [List.length_map, List.length_map] at this
        exact this.symm
      have lkv := ti.len
      refine ⟨_, rfl, d, kvs, ks, rfl, .inl hD, eks, by omega, fun ys p perm _ hp => ?_⟩
      have s1 : Same H' (upd H' p (.lst (ys.map V.int))) := Same.new hp
      generalize hH2 : upd H' p (.lst (ys.map V.int)) = H2 at s1
      have hp2 : H2 p = some (.lst (ys.map V.int)) := by rw [← hH2, upd_same]
      refine ⟨p, rfl, ⟨_, SqL.of hp2⟩, fun D hDn => lc_list (K := K) (a := p) (xs := ys.map V.int) (fun i H4 => ∃ ms : List Nat, ms.length = i ∧ Acc K rNat H2 D H4 ms) ⟨[], rfl, Acc.start hDn⟩ ?_ ?_ ?_⟩
      · rintro i H4 _ ⟨ms, lm, ac⟩
        exact SqL.of (ac.same _ _ hp2)
      · rintro i x H4 hx ⟨ms, lm, ac⟩
        have hi2 : i < ys.length := by
          have := (List.getElem?_eq_some_iff.mp hx).1
          rwa [List.length_map] at this
        rw [List.getElem?_map] at hx
        obtain ⟨y, hy, rfl⟩ := Option.map_eq_some_iff.mp hx
        have hyk : (Sum.inl y : L2.Key) ∈ kvs.map (·.1) := by
          rw [eks]
          exact List.mem_map.mpr ⟨y, perm.mem_iff.mp (List.mem_of_getElem? hy), rfl⟩
        obtain ⟨v, hv⟩ := valV_mem hyk
        obtain ⟨r', b, xs, e, e1, e2, e3, e4, e5⟩ := ti.en _ (mem_valV hv)
        have ev : v = V.ref b := congrArg Prod.snd e
        subst ev
        have s14 := s1.trans ac.same
        refine ⟨rfl, ?_⟩
        refine ⟨_, rfl, _, rfl, d, V.ref b, rfl, by rw [← hv]; exact DGet.k (kvs := kvs) (k := Sum.inl y) (s14 _ _ hD), ?_⟩
        refine ⟨b, xs, rfl, SqL.of (s14 _ _ e3), by omega, fun x hx => by have := e5 x hx; omega, fun H5 m s5 => ?_⟩
        obtain ⟨vs, a1, a2, a3⟩ := Acc.push rNat_stays hDn ac s5 (v := .int (m : Int)) (a := m) rfl
        exact ⟨vs, a1, small1000 (by have := perm.length_eq; omega), ms ++ [m], by rw [List.length_append, lm]; rfl, a3⟩
      · rintro H4 ⟨ms, lm, vs, s4, hv, rel⟩
        have ev : vs = ms.map fun (m : Nat) => V.int (m : Int) := by
          clear lm hv
          induction rel with
          | nil => rfl
          | cons h t ih => rw [List.map_cons, ← ih, ← (show _ = V.int _ from h)]
        subst ev
        refine ⟨D, _, rfl, .inl ⟨SqL.of hv, fun t ht => q _ _ ms (((sm.trans s1).trans s4).trans (Same.new ht)) ⟨t, rfl, upd_same⟩⟩⟩
theorem pc_L_slip {K : PySem.W.Frag} {mg : Str → Option Value} (T : Tx K mg) {X : Cx} (hr : Room 3 X.A) (hg : Gl X "_law_slip") {p pos : Pos} {e : Expr} {es : List Expr} {t : TA} (ha : PA X (e :: es) t) (hK : X.K = K := by rfl) (hM : X.mg = mg := by rfl) (he : starEach (e :: es) X.env = (false, eval e X.env) :: starEach es X.env := by rfl) (hpl : (backTo pos (starEach es X.env)).any (·.1) = false := by rfl) : PE X (.Call (.Name "_law_slip" p) (e :: es) [] pos) (tCall (sp_L_slip K) [] E0 t) := by
  subst hK hM
  obtain ⟨fd, F⟩ := T.says.def_ 42 (d := d_L_slip) rfl
  exact pe_call (ok_L_slip T F) hr hg (T.glo 42 rfl) F.kp (F.bindsN fun _ _ _ _ _ _ us hl => match us, hl with | [_, _], _ => rfl) .nil pass0 ha (by decide) he hpl
end
end K75
-- KL4
/-! sheet. -/
namespace K75
open PySem PySem.Spec PyProof.Rows L2 LamX
def addS (M : Sheet) (s : Slip) (a : Nat) : Sheet := putS M s (cnt M s + a)
theorem addS_total (M : Sheet) (s : Slip) (a : Nat) : total (addS M s a) = total M + a := by
  have := putS_total M s (cnt M s + a)
  unfold addS
  omega
theorem addS_wsum (M : Sheet) (s : Slip) (a : Nat) (f : Slip → Rat) : wsum (addS M s a) f = wsum M f + (a : Rat) * f s := by
  have := putS_wsum M s (cnt M s + a) f
  unfold addS
  rw [Rat.natCast_add] at this
  grind
theorem mem_putS : ∀ {M : Sheet} {s : Slip} {n : Nat} {p : Slip × Nat}, p ∈ putS M s n → p ∈ M ∨ p.2 = n
  | [], s, n, p, h => by
    have : p = (s, n) := by simpa [putS] using h
    exact .inr (by rw [this])
  | q :: r, s, n, p, h => by
    rw [putS] at h
    by_cases e : q.1 = s
    · rw [if_pos e] at h
      rcases List.mem_cons.mp h with h | h
      · exact .inr (by rw [h])
      · exact .inl (List.mem_cons_of_mem _ h)
    · rw [if_neg e] at h
      rcases List.mem_cons.mp h with h | h
      · exact .inl (h ▸ List.mem_cons_self ..)
      · rcases mem_putS h with h | h
        · exact .inl (List.mem_cons_of_mem _ h)
        · exact .inr h
theorem addS_pos {M : Sheet} {s : Slip} {a : Nat} (ha : 1 ≤ a) (h : ∀ p ∈ M, 1 ≤ p.2) : ∀ p ∈ addS M s a, 1 ≤ p.2 := fun p hp => by
  rcases mem_putS hp with h2 | h2
  · exact h p h2
  · omega
theorem many_get {H : Hp} {d b : Addr} {M : Sheet} {s : Slip} (hd : H d = some (.dT (dS M))) (hb : H b = some (.tup (s.map fun (m : Nat) => V.int (m : Int)))) : ∃ o, DGet H d (.ref b) o ∧ o.getD (.int 0) = .int (cnt M s : Int) := by
  refine ⟨valV (dS M) (ik s), DGet.t hd (by rw [ik_kV]; exact hb), ?_⟩
  by_cases h : s ∈ M.map Prod.fst
  · rw [dS_val M s h]; rfl
  · obtain ⟨h1, h2⟩ := dS_none M s h
    rw [h1, h2]
    rfl
theorem many_put {H : Hp} {d b : Addr} {M : Sheet} {s : Slip} (n : Nat) (hd : H d = some (.dT (dS M))) (hb : H b = some (.tup (s.map fun (m : Nat) => V.int (m : Int)))) (nd : (M.map Prod.fst).Nodup) (hl : M.length < 1000) : DPut H d (.ref b) (.int (n : Int)) (upd H d (.dT (dS (putS M s n)))) := by
  rw [← dS_put M nd s n]
  refine DPut.t hd (by rw [ik_kV]; exact hb) ?_
  have : (dS M).length = M.length := List.length_map ..
  rw [this]
  exact small1000 (by omega)
theorem min_if (i j : Int) : (if j < i then j else i) = min i j := by
  split <;> omega
theorem total_len : ∀ {M : Sheet}, (∀ p ∈ M, 1 ≤ p.2) → M.length ≤ total M
  | [], _ => Nat.le_refl _
  | p :: r, h => by
    have h1 := h p (List.mem_cons_self ..)
    have h2 := total_len fun q hq => h q (List.mem_cons_of_mem _ hq)
    simp only [List.length_cons, total]
    omega
section
variable {P : Program} {w : World} {K : PySem.W.Frag} {mg : Str → Option Value} {base : Heap}
theorem rScr.same {H H' : Hp} {v : V} {xs : List Int} (s : Same H H') (h : rScr K H v xs) : rScr K H' v xs := let ⟨a, e, q⟩ := h; ⟨a, e, sql_same s q⟩
def sp_L_sheet (K : PySem.W.Frag) : Sp := fun vs H Q _ => ∃ (v : V) (xs : List Int) (at_ n ln mo : Nat), vs = [v, .int (at_ : Int), .int (n : Int), .int (ln : Int), .int (mo : Int)] ∧ rScr K H v xs ∧ at_ ≤ 100 ∧ 1 ≤ n ∧ n ≤ 12 ∧ 1 ≤ ln ∧ ln ≤ 40 ∧ 1 ≤ mo ∧ mo ≤ 10 ^ 9 ∧
  ∀ H' v S, Same H H' → rSheet K H' v S → (S.map Prod.fst).Nodup → S.length ≤ 41 → 1 ≤ total S → total S ≤ 43 * mo + 1 → (∀ p ∈ S, 1 ≤ p.2) → Q v H'
abbrev N_L_sheet : List Str := ["_law_script", "_law_at", "_law_hands", "_law_lines", "_law_most", "_law_slips", "_law_k", "_law_many", "_law_slip_here", "_law_lead"]
theorem sc_L_sheet : FnScope N_L_sheet ["_law_script", "_law_at", "_law_hands", "_law_lines", "_law_most"] (defScope s_L_sheet) := ⟨rfl, rfl, rfl, by decide +kernel, rfl, by decide +kernel, by decide +kernel⟩
theorem ok_L_sheet (T : Tx K mg) {fd : FuncData} (F : FnD K d_L_sheet fd) : FnOk P w K mg base CX0 4 (He.fAd K d_L_sheet.at_) fd ["_law_script", "_law_at", "_law_hands", "_law_lines", "_law_most"] (sp_L_sheet K) := by
  have nd := sc_L_sheet.nd
  refine okx F sc_L_sheet (fun vs H Q E h => ?_) (fun cdv A outer s H vs Q E hr h => ?_)
  · obtain ⟨v, xs, at_, n, ln, mo, rfl, _⟩ := h
    rfl
  · obtain ⟨v, xs, at_, n, ln, mo, rfl, scr, hat, n1, hn, l1, hl, m1, hm, q⟩ := h
    refine ⟨_, (pss_cons (ps_setLc (i := 5) (own := [("_law_k", 6)]) (g := (gName 6)) rfl nd rfl rfl (sw_true rfl rfl rfl (by decide +kernel)) (pi_range1 (by rfl) (T.free 59 rfl) (pa_cons (pv 3) pa_nil)) (blkOk_by (N := N_L_sheet) (sc := defScope s_L_sheet) (by decide +kernel)) (fun _ _ _ _ _ => (pg_name (i := 6) nd rfl (Or.inl rfl))) (fun _ _ _ _ _ => pts_nil) (fun _ _ _ _ _ => (pc_L_slip T (hr.mono (by decide)) (by rfl) (pa_cons (pc_L_cell T (hr.mono (by decide)) (by rfl) (pa_cons (pv 0) (pa_cons (pe_op op_add (pv 1) (pv 6)) pa_nil))) (pa_cons (pv 2) pa_nil)))))
      (pss_cons (ps_set (i := 7) nd rfl (Or.inr rfl) pe_dnewT)
      (pss_cons (ps_for PassesOwn.never rfl (pi_range1 (by rfl) (T.free 59 rfl) (pa_cons (pe_callB (call_max2 rfl) (by rfl) (T.free 55 rfl) (by decide +kernel) (pa_cons (pv 3) (pa_cons (pe_callB (call_min2 rfl) (by rfl) (T.free 56 rfl) (by decide +kernel) (pa_cons pe_int (pa_cons (pe_op op_sub (pe_callB call_len_seq (by rfl) (T.free 54 rfl) (by decide +kernel) (pa_cons (pv 0) pa_nil)) (pv 1)) pa_nil))) pa_nil))) pa_nil)) (pg_name (i := 6) nd rfl (Or.inl rfl)) (pss_cons (ps_set (i := 8) nd rfl (Or.inl rfl) (pe_ix ix_list (pv 5) (pe_op op_mod (pv 6) (pv 3)) (fun _ _ => rfl)))
      (pss_one (ps_dput (hu_of hr) (pv 7) (pv 8) (pe_op op_add (pe_dget2 (hu_of hr) (pv 7) (pv 8) pe_int ⟨by rfl, by rfl, by rfl, by rfl⟩) (pc_L_number T (hr.mono (by decide)) (by rfl) (pa_cons (pc_L_cell T (hr.mono (by decide)) (by rfl) (pa_cons (pv 0) (pa_cons (pe_op op_add (pv 1) (pv 6)) pa_nil))) (pa_cons (pv 4) pa_nil)))) rfl))))
      (pss_cons (ps_set (i := 9) nd rfl (Or.inl rfl) (pc_L_mixed T (hr.mono (by decide)) (by rfl) (pa_cons (pc_L_cell T (hr.mono (by decide)) (by rfl) (pa_cons (pv 0) (pa_cons pe_int pa_nil))) (pa_cons pe_int pa_nil))))
      (pss_cons (ps_if (pt_cmpR op_gt (pe_op op_mod (pv 9) pe_int) pe_int (nomark _)) (pss_cons (ps_set (i := 8) nd rfl (Or.inl rfl) (pe_tup (pa_cons (pe_op op_shl pe_int (pe_op op_mod (pe_op op_fdivW (pv 9) pe_int) (pv 2))) pa_nil)))
      (pss_one (ps_dput (hu_of hr) (pv 7) (pv 8) (pe_op op_add (pe_op op_add (pe_dget2 (hu_of hr) (pv 7) (pv 8) pe_int ⟨by rfl, by rfl, by rfl, by rfl⟩) pe_int) (pe_op op_mod (pe_op op_fdivW (pv 9) pe_int) (pe_op op_mulW pe_int (pv 4)))) rfl))) pss_nil)
      (pss_one (ps_ret (pe_fz (pe_lc (own := [("_law_slip_here", 8)]) (g := (gName 8)) rfl nd (pi_list (pe_callB (call_sortedDS (hr.mono (by decide))) (by rfl) (T.free 58 rfl) (by decide +kernel) (pa_cons (pv 7) pa_nil))) (blkOk_by (N := N_L_sheet) (sc := defScope s_L_sheet) (by decide +kernel)) (fun _ _ _ _ _ => (pg_name (i := 8) nd rfl (Or.inl rfl))) (fun _ _ _ _ _ => pts_nil) (fun _ _ _ _ _ => (pe_tup (pa_cons (pv 8) (pa_cons (pe_dget (hu_of hr) (pv 7) (pv 8) (fun _ _ => rfl)) pa_nil))))))))))))), ?_⟩
    refine ⟨_, rfl, _, rfl, by omega, by omega, fun D hD => lc_range (lo := 0) (n := (ln : Int).toNat) (fun i H' => ∃ ss : List Slip, ss.length = i ∧ Acc K rSlip H D H' ss) ⟨[], rfl, Acc.start hD⟩ ?_ ?_⟩
    · rintro i H' hi ⟨ss, lss, ac⟩
      refine ⟨rfl, ?_⟩
      have ek : (at_ : Int) + (0 + (i : Int)) = ((at_ + i : Nat) : Int) := by omega
      refine ⟨_, rfl, _, rfl, _, rfl, _, _, rfl, rfl, v, xs, at_ + i, congrArg (fun z => [v, V.int z]) ek, scr.same ac.same, by omega, fun c c0 c1 => ⟨_, rfl, c, n, rfl, c0, c1, by omega, fun H4 v4 s4 sm4 rs => ?_⟩⟩
      obtain ⟨vs, a1, a2, a3⟩ := Acc.push rSlip_stays hD ac sm4 rs
      exact ⟨vs, a1, small1000 (by omega), ss ++ [s4], by rw [List.length_append, lss]; rfl, a3⟩
    · rintro H1 ⟨ss, lss, vs, sm1, hDl, rel⟩
      have lss' : ss.length = ln := by omega
      obtain ⟨a, rfl, ha⟩ := id scr
      intro d hd
      have hdD : d ≠ D := fun z => by rw [z, hDl] at hd; cases hd
      have hd0 : H d = none := sm1.free hd
      have S2 : Same H1 (upd H1 d (.dT [])) := Same.new hd
      refine ⟨_, rfl, _, rfl, a, _, rfl, .inl (sql_same (sm1.trans S2) ha), _, rfl, _, _, rfl, rfl, _, _, rfl, _, _, rfl, _, rfl, ?_⟩
      have hz : ∃ N0 : Nat, (if (if ((xs.map V.int).length : Int) - (at_ : Int) < 40 then ((xs.map V.int).length : Int) - (at_ : Int) else 40) > (ln : Int) then (if ((xs.map V.int).length : Int) - (at_ : Int) < 40 then ((xs.map V.int).length : Int) - (at_ : Int) else 40) else (ln : Int)) = (N0 : Int) ∧ 1 ≤ N0 ∧ N0 ≤ 40 := by
        generalize ((xs.map V.int).length : Int) - (at_ : Int) = y
        refine ⟨(if (if y < 40 then y else 40) > (ln : Int) then (if y < 40 then y else 40) else (ln : Int)).toNat, ?_, ?_, ?_⟩ <;> (repeat' split) <;> omega
      obtain ⟨N0, eN, hN1, hN40⟩ := hz
      rw [eN]
      refine ⟨by omega, by omega, ?_⟩
      refine for_range (lo := 0) (n := (N0 : Int).toNat) (fun i σ H' => ∃ (M : Sheet) (t1 t2 t3 : Option V), σ = [some (.ref a), some (.int (at_ : Int)), some (.int (n : Int)), some (.int (ln : Int)), some (.int (mo : Int)), some (.ref D), t1, some (.ref d), t2, t3] ∧ H' d = some (.dT (dS M)) ∧ Same H1 H' ∧ (M.map Prod.fst).Nodup ∧ i ≤ total M ∧ total M ≤ i * mo ∧ M.length ≤ i ∧ ∀ p ∈ M, 1 ≤ p.2)
        ⟨[], _, _, _, rfl, upd_same, S2, List.nodup_nil, Nat.le_refl _, Nat.zero_le _, Nat.zero_le _, fun p hp => nomatch hp⟩ ?_ ?_
      · rintro i σ H' hi ⟨M, t1, t2, t3, rfl, hM, sm, ndM, iM, tM, lM, pM⟩
        have hi' : i < N0 := by omega
        have lv : vs.length = ss.length := paired_len rel
        have hlt : i % ln < ss.length := by rw [lss']; exact Nat.mod_lt _ (by omega)
        obtain ⟨s0, hs0⟩ : ∃ s0, ss[i % ln]? = some s0 := ⟨_, List.getElem?_eq_getElem hlt⟩
        obtain ⟨u, hu, b, rfl, hb⟩ := paired_at rel hs0
        have ei : (0 + (i : Int)) % (ln : Int) = ((i % ln : Nat) : Int) := by rw [Int.zero_add]; push_cast; rfl
        have hat' : atI vs ((0 + (i : Int)) % (ln : Int)) = some (.ref b) := by rw [ei]; exact atI_nat hu
        have hb' := sm _ _ hb
        have smH := sm1.trans sm
        obtain ⟨o, hget, eo⟩ := many_get hM hb'
        have ek : (at_ : Int) + (0 + (i : Int)) = ((at_ + i : Nat) : Int) := by omega
        refine ⟨_, rfl, _, rfl, _, rfl, _, _, rfl, rfl, (by show (0 : Int) < (ln : Int); omega), D, vs, _, _, rfl, rfl, SqL.of (sm _ _ hDl), hat', ?_⟩
        refine ⟨_, rfl, d, rfl, .inr ⟨_, .inl hM⟩, _, rfl, o, hget, ?_⟩
        refine ⟨_, rfl, _, rfl, _, rfl, _, _, rfl, rfl, .ref a, xs, at_ + i, congrArg (fun z => [V.ref a, V.int z]) ek, scr.same smH, by omega, fun c c0 c1 => ⟨_, rfl, c, mo, rfl, c0, c1, m1, fun r r1 r2 => ?_⟩⟩
        refine ⟨_, _, eo, rfl, _, rfl, _, rfl, d, _, rfl, many_put (cnt M s0 + r) hM hb' ndM (by omega), ?_⟩
        refine ⟨addS M s0 r, _, _, _, rfl, upd_same, Same.at sm hd, putS_nodup M s0 _ ndM, ?_, ?_, ?_, addS_pos r1 pM⟩
        · rw [addS_total]; omega
        · rw [addS_total, Nat.succ_mul]; omega
        · have := (putS_len M s0 (cnt M s0 + r)).1
          unfold addS
          omega
      · rintro σ H2 ⟨M, t1, t2, t3, rfl, hM, sm, ndM, iM, tM, lM, pM⟩
        have eN0 : (N0 : Int).toNat = N0 := Int.toNat_natCast _
        rw [eN0] at iM tM lM
        have tM40 : total M ≤ 40 * mo := Nat.le_trans tM (Nat.mul_le_mul_right _ hN40)
        have smH := sm1.trans sm
        refine ⟨_, rfl, .ref a, xs, 1, rfl, scr.same smH, by decide, fun c c0 c1 => ⟨c, 97, rfl, c0, c1, by decide, fun r hr0 => ?_⟩⟩
        refine ⟨_, rfl, _, _, rfl, rfl, (by show (0 : Int) < 3; decide), _, _, rfl, rfl, _, rfl, ite2 (fun hc => ?_) (fun hc => ?_)⟩
        · have dv3 : CDivW (r : Int) 3 := wide_div (b := 20) (by decide) (by decide) (by decide) (by decide)
          have dv36 : CDivW (r : Int) 36 := wide_div (b := 20) (by decide) (by decide) (by decide) (by decide)
          have ew : (r : Int) / 3 % (n : Int) = ((r / 3 % n : Nat) : Int) := by push_cast; rfl
          have hw : r / 3 % n < n := Nat.mod_lt _ (by omega)
          have cp : CPow 1 ((r : Int) / 3 % (n : Int)) := by rw [ew]; exact ⟨by omega, by omega, by decide⟩
          refine ⟨_, rfl, _, _, rfl, rfl, dv3, _, rfl, _, _, rfl, rfl, (by show (0 : Int) < (n : Int); omega), _, _, rfl, rfl, cp, (by show 1 ≤ sizeLine; decide), fun b hb => ?_⟩
          have em : (1 : Int) * 2 ^ ((r : Int) / 3 % (n : Int)).toNat = ((2 ^ (r / 3 % n) : Nat) : Int) := by rw [ew, Int.toNat_natCast, Int.one_mul]; push_cast; rfl
          have sb : Same H2 (upd H2 b (.tup [V.int ((1 : Int) * 2 ^ ((r : Int) / 3 % (n : Int)).toNat)])) := Same.new hb
          have hb2 : (upd H2 b (.tup [V.int ((1 : Int) * 2 ^ ((r : Int) / 3 % (n : Int)).toNat)])) b = some (.tup (([2 ^ (r / 3 % n)] : Slip).map fun (m : Nat) => V.int (m : Int))) := by rw [upd_same, em]; rfl
          generalize upd H2 b (.tup [V.int ((1 : Int) * 2 ^ ((r : Int) / 3 % (n : Int)).toNat)]) = H2b at sb hb2
          generalize ([2 ^ (r / 3 % n)] : Slip) = s0 at hb2
          have hMb := sb _ _ hM
          obtain ⟨o, hget, eo⟩ := many_get hMb hb2
          have mm : CMulW 3 (mo : Int) := wide_mul (a := 20) (b := 40) (by decide) (by omega) (by decide) (by decide) (by decide)
          have ez : (cnt M s0 : Int) + 1 + (r : Int) / 36 % (3 * (mo : Int)) = ((cnt M s0 + (1 + r / 36 % (3 * mo)) : Nat) : Int) := by push_cast; omega
          have hput := many_put (cnt M s0 + (1 + r / 36 % (3 * mo))) hMb hb2 ndM (by omega)
          rw [← ez] at hput
          have hlt : r / 36 % (3 * mo) < 3 * mo := Nat.mod_lt _ (by omega)
          refine ⟨_, rfl, d, rfl, .inr ⟨_, .inl hMb⟩, _, rfl, o, hget, ?_⟩
          refine ⟨_, _, eo, rfl, _, rfl, _, _, rfl, rfl, dv36, _, rfl, _, _, rfl, rfl, mm, _, _, rfl, rfl, (by show (0 : Int) < 3 * (mo : Int); omega), _, _, rfl, rfl, _, rfl, _, rfl, d, _, rfl, hput, ?_⟩
          have smH := (smH.trans sb)
          have hM : (upd H2b d (.dT (dS (putS M s0 (cnt M s0 + (1 + r / 36 % (3 * mo))))))) d = some (.dT (dS (putS M s0 (cnt M s0 + (1 + r / 36 % (3 * mo)))))) := upd_same
          have smH : Same H (upd H2b d (.dT (dS (putS M s0 (cnt M s0 + (1 + r / 36 % (3 * mo))))))) := Same.at smH hd0
          have ndM := putS_nodup M s0 (cnt M s0 + (1 + r / 36 % (3 * mo))) ndM
          have posM : ∀ p ∈ putS M s0 (cnt M s0 + (1 + r / 36 % (3 * mo))), 1 ≤ p.2 := addS_pos (M := M) (s := s0) (a := 1 + r / 36 % (3 * mo)) (by omega) pM
          have tot : total (putS M s0 (cnt M s0 + (1 + r / 36 % (3 * mo)))) = total M + (1 + r / 36 % (3 * mo)) := addS_total M s0 (1 + r / 36 % (3 * mo))
          have lM2 := (putS_len M s0 (cnt M s0 + (1 + r / 36 % (3 * mo)))).1
          clear hput ez
          generalize putS M s0 (cnt M s0 + (1 + r / 36 % (3 * mo))) = M' at *
          generalize upd H2b d (.dT (dS M')) = H3 at *
          refine ⟨_, rfl, d, M', rfl, hM, by omega, fun p ys ss2 perm rel2 hp => ?_⟩
          have s31 : Same H3 (upd H3 p (.lst ys)) := Same.new hp
          generalize hH4 : upd H3 p (.lst ys) = H4 at s31
          have hp4 : H4 p = some (.lst ys) := by rw [← hH4, upd_same]
          refine ⟨p, rfl, ⟨_, SqL.of hp4⟩, fun D2 hD2 => lc_list (K := K) (a := p) (xs := ys) (fun i H5 => Acc K (rPair rSlip rNat) H4 D2 H5 ((ss2.map fun s => (s, cnt M' s)).take i)) (Acc.start hD2) ?_ ?_ ?_⟩
          · rintro i H5 _ ac
            exact SqL.of (ac.same _ _ hp4)
          · rintro i x H5 hx ac
            obtain ⟨s0, hs0, b0, rfl, hb0⟩ := paired_get rel2 hx
            have hmem : s0 ∈ M'.map Prod.fst := perm.mem_iff.mp (List.mem_of_getElem? hs0)
            have s35 := s31.trans ac.same
            have e : (ss2.map fun s => (s, cnt M' s))[i]? = some (s0, cnt M' s0) := by rw [List.getElem?_map, hs0]; rfl
            refine ⟨rfl, ?_⟩
            refine ⟨_, rfl, _, rfl, _, rfl, d, .int (cnt M' s0 : Int), rfl, by rw [← dS_val M' s0 hmem]; exact DGet.t (s35 _ _ hM) (by rw [ik_kV]; exact s35 _ _ hb0), (by show 2 ≤ sizeLine; decide), fun t ht => ?_⟩
            have st : Same H5 (upd H5 t (.tup [.ref b0, .int (cnt M' s0 : Int)])) := Same.new ht
            obtain ⟨vs2, a1, a2, a3⟩ := Acc.push (rPair_stays rSlip_stays rNat_stays) hD2 ac st (v := .ref t) (a := (s0, cnt M' s0)) ⟨t, .ref b0, .int (cnt M' s0 : Int), rfl, SqT.of upd_same, ⟨b0, rfl, st _ _ (s35 _ _ hb0)⟩, rfl⟩
            refine ⟨vs2, a1, ?_, ?_⟩
            · rw [a2, List.length_take, List.length_map]
              exact small1000 (by have := perm.length_eq; rw [List.length_map] at this; omega)
            · rw [take_snoc e]
              exact a3
          · rintro H5 ac
            have el : ys.length = (ss2.map fun s => (s, cnt M' s)).length := by rw [List.length_map]; exact paired_len rel2
            rw [el, List.take_length] at ac
            obtain ⟨vs2, e, f⟩ := Acc.freeze (rPair_stays rSlip_stays rNat_stays) hD2 ac
            have rp := read_perm ndM perm
            refine ⟨D2, vs2, rfl, e, fun o => q _ _ _ ((smH.trans s31).trans (f o).1) (f o).2 ?_ ?_ ?_ ?_ ?_⟩
            · exact (rp.map Prod.fst).nodup_iff.mpr ndM
            · rw [rp.length_eq]; omega
            · rw [total_perm rp]; omega
            · rw [total_perm rp]; omega
            · exact fun p hp => posM p (rp.mem_iff.mp hp)
        · refine ⟨_, rfl, d, M, rfl, hM, by omega, fun p ys ss2 perm rel2 hp => ?_⟩
          have s31 : Same H2 (upd H2 p (.lst ys)) := Same.new hp
          generalize hH4 : upd H2 p (.lst ys) = H4 at s31
          have hp4 : H4 p = some (.lst ys) := by rw [← hH4, upd_same]
          refine ⟨p, rfl, ⟨_, SqL.of hp4⟩, fun D2 hD2 => lc_list (K := K) (a := p) (xs := ys) (fun i H5 => Acc K (rPair rSlip rNat) H4 D2 H5 ((ss2.map fun s => (s, cnt M s)).take i)) (Acc.start hD2) ?_ ?_ ?_⟩
          · rintro i H5 _ ac
            exact SqL.of (ac.same _ _ hp4)
          · rintro i x H5 hx ac
            obtain ⟨s0, hs0, b0, rfl, hb0⟩ := paired_get rel2 hx
            have hmem : s0 ∈ M.map Prod.fst := perm.mem_iff.mp (List.mem_of_getElem? hs0)
            have s35 := s31.trans ac.same
            have e : (ss2.map fun s => (s, cnt M s))[i]? = some (s0, cnt M s0) := by rw [List.getElem?_map, hs0]; rfl
            refine ⟨rfl, ?_⟩
            refine ⟨_, rfl, _, rfl, _, rfl, d, .int (cnt M s0 : Int), rfl, by rw [← dS_val M s0 hmem]; exact DGet.t (s35 _ _ hM) (by rw [ik_kV]; exact s35 _ _ hb0), (by show 2 ≤ sizeLine; decide), fun t ht => ?_⟩
            have st : Same H5 (upd H5 t (.tup [.ref b0, .int (cnt M s0 : Int)])) := Same.new ht
            obtain ⟨vs2, a1, a2, a3⟩ := Acc.push (rPair_stays rSlip_stays rNat_stays) hD2 ac st (v := .ref t) (a := (s0, cnt M s0)) ⟨t, .ref b0, .int (cnt M s0 : Int), rfl, SqT.of upd_same, ⟨b0, rfl, st _ _ (s35 _ _ hb0)⟩, rfl⟩
            refine ⟨vs2, a1, ?_, ?_⟩
            · rw [a2, List.length_take, List.length_map]
              exact small1000 (by have := perm.length_eq; rw [List.length_map] at this; omega)
            · rw [take_snoc e]
              exact a3
          · rintro H5 ac
            have el : ys.length = (ss2.map fun s => (s, cnt M s)).length := by rw [List.length_map]; exact paired_len rel2
            rw [el, List.take_length] at ac
            obtain ⟨vs2, e, f⟩ := Acc.freeze (rPair_stays rSlip_stays rNat_stays) hD2 ac
            have rp := read_perm ndM perm
            refine ⟨D2, vs2, rfl, e, fun o => q _ _ _ ((smH.trans s31).trans (f o).1) (f o).2 ?_ ?_ ?_ ?_ ?_⟩
            · exact (rp.map Prod.fst).nodup_iff.mpr ndM
            · rw [rp.length_eq]; omega
            · rw [total_perm rp]; omega
            · rw [total_perm rp]; omega
            · exact fun p hp => pM p (rp.mem_iff.mp hp)
theorem pc_L_sheet {K : PySem.W.Frag} {mg : Str → Option Value} (T : Tx K mg) {X : Cx} (hr : Room 4 X.A) (hg : Gl X "_law_sheet") {p pos : Pos} {e : Expr} {es : List Expr} {t : TA} (ha : PA X (e :: es) t) (hK : X.K = K := by rfl) (hM : X.mg = mg := by rfl) (he : starEach (e :: es) X.env = (false, eval e X.env) :: starEach es X.env := by rfl) (hpl : (backTo pos (starEach es X.env)).any (·.1) = false := by rfl) : PE X (.Call (.Name "_law_sheet" p) (e :: es) [] pos) (tCall (sp_L_sheet K) [] E0 t) := by
  subst hK hM
  obtain ⟨fd, F⟩ := T.says.def_ 44 (d := d_L_sheet) rfl
  exact pe_call (ok_L_sheet T F) hr hg (T.glo 44 rfl) F.kp (F.bindsN fun _ _ _ _ _ _ us hl => match us, hl with | [_, _, _, _, _], _ => rfl) .nil pass0 ha (by decide) he hpl
end
end K75
-- KL5
/-! hall, whole. -/
namespace K75
open PySem PySem.Spec PyProof.Rows L2 LamX
section
variable {P : Program} {w : World} {K : PySem.W.Frag} {mg : Str → Option Value} {base : Heap}
def sp_L_whole (K : PySem.W.Frag) : Sp := fun vs H Q _ => ∃ i : Int, vs = [.int i] ∧ Q (.bl true) H
abbrev N_L_whole : List Str := ["_law_found"]
theorem sc_L_whole : FnScope N_L_whole ["_law_found"] (defScope s_L_whole) := ⟨rfl, rfl, rfl, by decide +kernel, rfl, by decide +kernel, by decide +kernel⟩
theorem ok_L_whole (T : Tx K mg) {fd : FuncData} (F : FnD K d_L_whole fd) : FnOk P w K mg base CX0 1 (He.fAd K d_L_whole.at_) fd ["_law_found"] (sp_L_whole K) := by
  have nd := sc_L_whole.nd
  refine okx F sc_L_whole (fun vs H Q E h => ?_) (fun cdv A outer s H vs Q E hr h => ?_)
  · obtain ⟨i, rfl, _⟩ := h
    rfl
  · obtain ⟨i, rfl, q⟩ := h
    refine ⟨_, (pss_one (ps_ret (pe_and (pe_callB call_isi (by rfl) (T.free 65 rfl) (by decide +kernel) (pa_cons (pv 0) (pa_cons (pe_bltn (v := .ty "int") (u := .type "int") (by rfl) (T.free 63 rfl) (by decide +kernel) rfl) pa_nil))) (pe_one (pe_not (pe_callB call_isi (by rfl) (T.free 65 rfl) (by decide +kernel) (pa_cons (pv 0) (pa_cons (pe_bltn (v := .ty "bool") (u := .type "bool") (by rfl) (T.free 64 rfl) (by decide +kernel) rfl) pa_nil)))))))), ?_⟩
    refine ⟨_, rfl, _, _, _, _, true, rfl, .ty _, .base (.int i), kit_ty (by decide +kernel), true, rfl, iteT ?_⟩
    exact ⟨_, rfl, _, _, _, _, false, rfl, .ty _, .base (.int i), kit_ty (by decide +kernel), _, rfl, q⟩
theorem pc_L_whole {K : PySem.W.Frag} {mg : Str → Option Value} (T : Tx K mg) {X : Cx} (hr : Room 1 X.A) (hg : Gl X "_law_whole") {p pos : Pos} {e : Expr} {es : List Expr} {t : TA} (ha : PA X (e :: es) t) (hK : X.K = K := by rfl) (hM : X.mg = mg := by rfl) (he : starEach (e :: es) X.env = (false, eval e X.env) :: starEach es X.env := by rfl) (hpl : (backTo pos (starEach es X.env)).any (·.1) = false := by rfl) : PE X (.Call (.Name "_law_whole" p) (e :: es) [] pos) (tCall (sp_L_whole K) [] E0 t) := by
  subst hK hM
  obtain ⟨fd, F⟩ := T.says.def_ 46 (d := d_L_whole) rfl
  exact pe_call (ok_L_whole T F) hr hg (T.glo 46 rfl) F.kp (F.bindsN fun _ _ _ _ _ _ us hl => match us, hl with | [_], _ => rfl) .nil pass0 ha (by decide) he hpl
def sp_L_hall (K : PySem.W.Frag) : Sp := fun vs H Q _ => ∃ (v : V) (xs : List Int), vs = [v] ∧ rScr K H v xs ∧
  ∀ H' t l sv (W : Hall) (S : Sheet), Same H H' → SqT K H' t [.int (W.hands : Int), .int (W.seats : Int), .ref l, sv] → HallOk W → FzL H' l (nats W.lots) → rSheet K H' sv S → (S.map Prod.fst).Nodup → S.length ≤ 41 → 1 ≤ total S → total S ≤ 2 ^ 40 → (∀ p ∈ S, 1 ≤ p.2) → Q (.ref t) H'
abbrev N_L_hall : List Str := ["_law_script", "_law_cell_here", "_law_hands", "_law_seats", "_law_lines", "_law_most", "_law_sheet_here"]
theorem sc_L_hall : FnScope N_L_hall ["_law_script"] (defScope s_L_hall) := ⟨rfl, rfl, rfl, by decide +kernel, rfl, by decide +kernel, by decide +kernel⟩
theorem ok_L_hall (T : Tx K mg) {fd : FuncData} (F : FnD K d_L_hall fd) : FnOk P w K mg base CX0 5 (He.fAd K d_L_hall.at_) fd ["_law_script"] (sp_L_hall K) := by
  have nd := sc_L_hall.nd
  refine okx F sc_L_hall (fun vs H Q E h => ?_) (fun cdv A outer s H vs Q E hr h => ?_)
  · obtain ⟨v, xs, rfl, _⟩ := h
    rfl
  · obtain ⟨v, xs, rfl, scr, q⟩ := h
    refine ⟨_, (pss_cons (ps_set (i := 1) nd rfl (Or.inl rfl) (pc_L_cell T (hr.mono (by decide)) (by rfl) (pa_cons (pv 0) (pa_cons pe_int pa_nil))))
      (pss_cons (ps_set (i := 2) nd rfl (Or.inl rfl) (pe_ix ix_list (pe_lst (pa_cons pe_int (pa_cons pe_int (pa_cons pe_int (pa_cons pe_int (pa_cons pe_int (pa_cons pe_int (pa_cons pe_int (pa_cons pe_int (pa_cons pe_int (pa_cons pe_int (pa_cons pe_int (pa_cons pe_int pa_nil))))))))))))) (pe_op op_mod (pv 1) pe_int) (fun _ _ => rfl)))
      (pss_cons (ps_set (i := 3) nd rfl (Or.inl rfl) (pe_op op_add pe_int (pe_op op_mod (pe_op op_fdivW (pv 1) pe_int) (pe_op op_sub (pv 2) pe_int))))
      (pss_cons (ps_set (i := 4) nd rfl (Or.inl rfl) (pe_op op_add pe_int (pe_op op_mod (pe_op op_fdivW (pv 1) pe_int) (pe_ix ix_list (pe_lst (pa_cons pe_int (pa_cons pe_int pa_nil))) (pe_callTy call_int1 (by rfl) (T.free 63 rfl) (by decide +kernel) (pa_cons (pe_cmpR op_eq (pv 2) pe_int (nomark _)) pa_nil)) (fun _ _ => rfl)))))
      (pss_cons (ps_set (i := 5) nd rfl (Or.inl rfl) pe_int)
      (pss_cons (ps_if (PW.pt (pw_and (pt_cmpR op_eq (pv 3) pe_int (nomark _)) (pw_and1 (pt_cmpR op_eq (pe_op op_mod (pe_op op_fdivW (pv 1) pe_int) pe_int) pe_int (nomark _))))) (pss_one (ps_set (i := 5) nd rfl (Or.inl rfl) (pe_op op_pow pe_int pe_int))) pss_nil)
      (pss_cons (ps_set (i := 6) nd rfl (Or.inl rfl) (pc_L_sheet T (hr.mono (by decide)) (by rfl) (pa_cons (pv 0) (pa_cons pe_int (pa_cons (pv 2) (pa_cons (pv 4) (pa_cons (pv 5) pa_nil)))))))
      (pss_one (ps_ret (pe_tup (pa_cons (pv 2) (pa_cons (pv 3) (pa_cons (pc_L_lots T (hr.mono (by decide)) (by rfl) (pa_cons (pc_L_cell T (hr.mono (by decide)) (by rfl) (pa_cons (pv 0) (pa_cons pe_int pa_nil))) (pa_cons (pv 2) pa_nil))) (pa_cons (pv 6) pa_nil)))))))))))))), ?_⟩
    refine ⟨_, rfl, v, xs, 0, rfl, scr, by decide, fun c c0 c1 => ?_⟩
    obtain ⟨m12, em, hm⟩ : ∃ m : Nat, c % 12 = (m : Int) ∧ m < 12 := ⟨(c % 12).toNat, by omega, by omega⟩
    obtain ⟨n, hn, n2, n4⟩ : ∃ n : Nat, atI [V.int 2, V.int 3, V.int 3, V.int 3, V.int 3, V.int 3, V.int 3, V.int 3, V.int 3, V.int 3, V.int 3, V.int 4] (c % 12) = some (.int (n : Int)) ∧ 2 ≤ n ∧ n ≤ 4 := by
      rw [em]
      have : m12 = 0 ∨ m12 = 11 ∨ (1 ≤ m12 ∧ m12 ≤ 10) := by omega
      rcases this with rfl | rfl | h
      · exact ⟨2, rfl, by decide, by decide⟩
      · exact ⟨4, rfl, by decide, by decide⟩
      · refine ⟨3, atI_nat ?_, by decide, by decide⟩
        have : m12 = 1 ∨ m12 = 2 ∨ m12 = 3 ∨ m12 = 4 ∨ m12 = 5 ∨ m12 = 6 ∨ m12 = 7 ∨ m12 = 8 ∨ m12 = 9 ∨ m12 = 10 := by omega
        rcases this with rfl | rfl | rfl | rfl | rfl | rfl | rfl | rfl | rfl | rfl <;> rfl
    refine ⟨(by show 12 ≤ sizeLine; decide), fun p1 hp1 => ⟨_, rfl, _, _, rfl, rfl, (by show (0 : Int) < 12; decide), p1, _, _, _, rfl, rfl, SqL.of upd_same, hn, ?_⟩⟩
    have s1 : Same H (upd H p1 (.lst [V.int 2, V.int 3, V.int 3, V.int 3, V.int 3, V.int 3, V.int 3, V.int 3, V.int 3, V.int 3, V.int 3, V.int 4])) := Same.new hp1
    generalize upd H p1 (.lst [V.int 2, V.int 3, V.int 3, V.int 3, V.int 3, V.int 3, V.int 3, V.int 3, V.int 3, V.int 3, V.int 3, V.int 4]) = H1 at s1
    have d12 : CDivW c 12 := wide_div (b := 20) (by decide) (by decide) (by decide) (by decide)
    have d144 : CDivW c 144 := wide_div (b := 20) (by decide) (by decide) (by decide) (by decide)
    have d720 : CDivW c 720 := wide_div (b := 20) (by decide) (by decide) (by decide) (by decide)
    refine ⟨_, rfl, _, _, rfl, rfl, d12, _, rfl, _, _, rfl, rfl, _, _, rfl, rfl, (by show (0 : Int) < (n : Int) - 1; omega), _, _, rfl, rfl, ?_⟩
    obtain ⟨se, es, s1', s2⟩ : ∃ se : Nat, 1 + c / 12 % ((n : Int) - 1) = (se : Int) ∧ 1 ≤ se ∧ se < n := by
      have h1 := Int.emod_nonneg (c / 12) (show (n : Int) - 1 ≠ 0 by omega)
      have h2 := Int.emod_lt_of_pos (c / 12) (show (0 : Int) < (n : Int) - 1 by omega)
      exact ⟨(1 + c / 12 % ((n : Int) - 1)).toNat, by omega, by omega, by omega⟩
    refine ⟨_, rfl, _, _, rfl, rfl, d144, (by show 2 ≤ sizeLine; decide), fun p2 hp2 => ?_⟩
    have s12 : Same H1 (upd H1 p2 (.lst [V.int 5, V.int 2])) := Same.new hp2
    obtain ⟨L, hL, hL0, hL5⟩ : ∃ L : Nat, atI [V.int 5, V.int 2] (if decide (V.int (n : Int) = V.int 4) = true then 1 else 0) = some (.int (L : Int)) ∧ 1 ≤ L ∧ L ≤ 5 := by
      by_cases hc : decide (V.int (n : Int) = V.int 4) = true
      · rw [if_pos hc]; exact ⟨2, rfl, by decide, by decide⟩
      · rw [if_neg hc]; exact ⟨5, rfl, by decide, by decide⟩
    obtain ⟨ln, eln, l1, l5⟩ : ∃ ln : Nat, 1 + c / 144 % (L : Int) = (ln : Int) ∧ 1 ≤ ln ∧ ln ≤ 5 := by
      have h1 := Int.emod_nonneg (c / 144) (show (L : Int) ≠ 0 by omega)
      have h2 := Int.emod_lt_of_pos (c / 144) (show (0 : Int) < (L : Int) by omega)
      exact ⟨(1 + c / 144 % (L : Int)).toNat, by omega, by omega, by omega⟩
    refine ⟨_, rfl, rfl, .inr ⟨_, rfl, p2, _, _, _, rfl, rfl, SqL.of upd_same, hL, _, _, rfl, rfl, (by show (0 : Int) < (L : Int); omega), _, _, rfl, rfl, ?_⟩⟩
    have s12 := s1.trans s12
    generalize upd H1 p2 (.lst [V.int 5, V.int 2]) = H2 at s12
    refine ⟨_, rfl, rfl, _, rfl, ite2 (fun _ => ?_) (fun _ => iteF ?_)⟩
    · refine ⟨_, rfl, _, _, rfl, rfl, d720, _, _, rfl, rfl, (by show (0 : Int) < 2; decide), rfl, _, rfl, ite2 (fun _ => ?_) (fun _ => ?_)⟩
      · refine ⟨_, _, rfl, rfl, (⟨by decide, by decide, by decide⟩ : CPow 10 9), ?_⟩
        refine ⟨_, rfl, _, rfl, _, rfl, _, rfl, v, xs, 2, n, ln, 10 ^ 9, by rw [← eln]; rfl, scr.same s12, by decide, by omega, by omega, by omega, by omega, by decide, by decide, fun H3 sv S s3 rS ndS lS t1 t2 pS => ?_⟩
        refine ⟨_, rfl, _, rfl, _, rfl, v, xs, 1, rfl, scr.same (s12.trans s3), by decide, fun c' c0' c1' => ⟨_, rfl, c', n, rfl, c0', c1', by omega, fun H4 l ls s4 pm fz => ⟨_, rfl, (by show 4 ≤ sizeLine; decide), fun t ht => ?_⟩⟩⟩
        have st : Same H4 (upd H4 t (.tup [V.int (n : Int), V.int (1 + c / 12 % ((n : Int) - 1)), V.ref l, sv])) := Same.new ht
        refine q _ t l sv ⟨n, se, ls⟩ S (((s12.trans s3).trans s4).trans st) (by rw [← es]; exact SqT.of upd_same) ⟨n4, s1', s2, pm⟩ (fz.keep (Keep.of st)) (rSheet_stays.k (Keep.of (s4.trans st)) rS) ndS lS t1 ?_ pS
        refine Nat.le_trans t2 (by decide)
      · refine ⟨_, rfl, _, rfl, _, rfl, _, rfl, v, xs, 2, n, ln, 30, by rw [← eln]; rfl, scr.same s12, by decide, by omega, by omega, by omega, by omega, by decide, by decide, fun H3 sv S s3 rS ndS lS t1 t2 pS => ?_⟩
        refine ⟨_, rfl, _, rfl, _, rfl, v, xs, 1, rfl, scr.same (s12.trans s3), by decide, fun c' c0' c1' => ⟨_, rfl, c', n, rfl, c0', c1', by omega, fun H4 l ls s4 pm fz => ⟨_, rfl, (by show 4 ≤ sizeLine; decide), fun t ht => ?_⟩⟩⟩
        have st : Same H4 (upd H4 t (.tup [V.int (n : Int), V.int (1 + c / 12 % ((n : Int) - 1)), V.ref l, sv])) := Same.new ht
        refine q _ t l sv ⟨n, se, ls⟩ S (((s12.trans s3).trans s4).trans st) (by rw [← es]; exact SqT.of upd_same) ⟨n4, s1', s2, pm⟩ (fz.keep (Keep.of st)) (rSheet_stays.k (Keep.of (s4.trans st)) rS) ndS lS t1 ?_ pS
        refine Nat.le_trans t2 (by decide)
    · refine ⟨_, rfl, _, rfl, _, rfl, _, rfl, v, xs, 2, n, ln, 30, by rw [← eln]; rfl, scr.same s12, by decide, by omega, by omega, by omega, by omega, by decide, by decide, fun H3 sv S s3 rS ndS lS t1 t2 pS => ?_⟩
      refine ⟨_, rfl, _, rfl, _, rfl, v, xs, 1, rfl, scr.same (s12.trans s3), by decide, fun c' c0' c1' => ⟨_, rfl, c', n, rfl, c0', c1', by omega, fun H4 l ls s4 pm fz => ⟨_, rfl, (by show 4 ≤ sizeLine; decide), fun t ht => ?_⟩⟩⟩
      have st : Same H4 (upd H4 t (.tup [V.int (n : Int), V.int (1 + c / 12 % ((n : Int) - 1)), V.ref l, sv])) := Same.new ht
      refine q _ t l sv ⟨n, se, ls⟩ S (((s12.trans s3).trans s4).trans st) (by rw [← es]; exact SqT.of upd_same) ⟨n4, s1', s2, pm⟩ (fz.keep (Keep.of st)) (rSheet_stays.k (Keep.of (s4.trans st)) rS) ndS lS t1 ?_ pS
      refine Nat.le_trans t2 (by decide)
theorem pc_L_hall {K : PySem.W.Frag} {mg : Str → Option Value} (T : Tx K mg) {X : Cx} (hr : Room 5 X.A) (hg : Gl X "_law_hall") {p pos : Pos} {e : Expr} {es : List Expr} {t : TA} (ha : PA X (e :: es) t) (hK : X.K = K := by rfl) (hM : X.mg = mg := by rfl) (he : starEach (e :: es) X.env = (false, eval e X.env) :: starEach es X.env := by rfl) (hpl : (backTo pos (starEach es X.env)).any (·.1) = false := by rfl) : PE X (.Call (.Name "_law_hall" p) (e :: es) [] pos) (tCall (sp_L_hall K) [] E0 t) := by
  subst hK hM
  obtain ⟨fd, F⟩ := T.says.def_ 45 (d := d_L_hall) rfl
  exact pe_call (ok_L_hall T F) hr hg (T.glo 45 rfl) F.kp (F.bindsN fun _ _ _ _ _ _ us hl => match us, hl with | [_], _ => rfl) .nil pass0 ha (by decide) he hpl
end
end K75
-- KL6
/-! seen. -/
namespace K75
open PySem PySem.Spec PyProof.Rows L2 LamX
theorem cnt_putS : ∀ (M : Sheet) (s t : Slip) (n : Nat), cnt (putS M s n) t = if t = s then n else cnt M t
  | [], s, t, n => by
    simp only [putS, cnt]
    by_cases h : s = t
    · rw [if_pos h, if_pos h.symm]
    · rw [if_neg h, if_neg (fun z => h z.symm)]
  | p :: r, s, t, n => by
    rw [putS]
    by_cases e : p.1 = s
    · rw [if_pos e, cnt, cnt]
      by_cases h : t = s
      · rw [if_pos (e.trans h.symm), if_pos h]
      · rw [if_neg (fun z => h (z.symm.trans e)), if_neg h, if_neg (fun z => h (z.symm.trans e))]
    · rw [if_neg e, cnt, cnt, cnt_putS r s t n]
      by_cases h : p.1 = t
      · have : ¬ t = s := fun z => e (h.trans z)
        rw [if_pos h, if_neg this, if_pos h]
      · rw [if_neg h, if_neg h]
theorem wsum_filter (S : Sheet) (f : Slip → Rat) : wsum (S.filter fun p => decide (0 < p.2)) f = wsum S f := by
  induction S with
  | nil => rfl
  | cons p r ih =>
    rw [List.filter_cons]
    by_cases h : 0 < p.2
    · rw [if_pos (decide_eq_true h)]
      simp only [wsum, ih]
    · rw [if_neg (by simpa using h), ih]
      have : p.2 = 0 := by omega
      simp only [wsum, this]
      rw [show ((0 : Nat) : Rat) = 0 from rfl]
      grind
theorem total_filter (S : Sheet) : total (S.filter fun p => decide (0 < p.2)) = total S := by
  induction S with
  | nil => rfl
  | cons p r ih =>
    rw [List.filter_cons]
    by_cases h : 0 < p.2
    · rw [if_pos (decide_eq_true h)]
      simp only [total, ih]
    · rw [if_neg (by simpa using h), ih]
      simp only [total]
      omega
theorem cut_drop (xs : List V) (n : Nat) : cutV xs (some (n : Int)) none = xs.drop n := by
  unfold cutV
  rw [HT.sIx_nat, HT.sIx_none]
  by_cases h : n ≤ xs.length
  · rw [Nat.min_eq_left h]
    exact List.take_of_length_le (by rw [List.length_drop]; exact Nat.le_refl _)
  · rw [Nat.min_eq_right (by omega), List.drop_of_length_le (Nat.le_refl _), List.drop_of_length_le (by omega), List.take_nil]
theorem cut_take (xs : List V) (n : Nat) : cutV xs none (some (n : Int)) = xs.take n := by
  unfold cutV
  rw [HT.sIx_nat, HT.sIx_none, List.drop_zero, Nat.sub_zero]
  by_cases h : n ≤ xs.length
  · rw [Nat.min_eq_left h]
  · rw [Nat.min_eq_right (by omega), List.take_of_length_le (Nat.le_refl _), List.take_of_length_le (by omega)]
/-- the sheet turned -/
def turned (S : Sheet) (k : Nat) : Sheet := S.drop k ++ S.take k
theorem turned_perm (S : Sheet) (k : Nat) : (turned S k).Perm S := (List.perm_append_comm).trans (by rw [List.take_append_drop])
theorem paired_turned {α β : Type} {F : α → β → Prop} {l : List α} {m : List β} (h : Paired F l m) (k : Nat) : Paired F (l.drop k ++ l.take k) (m.drop k ++ m.take k) := by
  have app : ∀ {l1 : List α} {m1 : List β} {l2 : List α} {m2 : List β}, Paired F l1 m1 → Paired F l2 m2 → Paired F (l1 ++ l2) (m1 ++ m2) := by
    intro l1 m1 l2 m2 h1 h2
    induction h1 with
    | nil => exact h2
    | cons a t ih => exact .cons a ih
  have tk : ∀ {l : List α} {m : List β}, Paired F l m → ∀ k, Paired F (l.drop k) (m.drop k) ∧ Paired F (l.take k) (m.take k) := by
    intro l m h
    induction h with
    | nil => intro k; rw [List.drop_nil, List.drop_nil, List.take_nil, List.take_nil]; exact ⟨.nil, .nil⟩
    | cons a t ih =>
      intro k
      cases k with
      | zero => exact ⟨.cons a t, .nil⟩
      | succ k => exact ⟨(ih k).1, .cons a (ih k).2⟩
  exact app (tk h k).1 (tk h k).2
section
variable {P : Program} {w : World} {K : PySem.W.Frag} {mg : Str → Option Value} {base : Heap}
def sp_L_seen (K : PySem.W.Frag) : Sp := fun vs H Q _ => ∃ (v sv : V) (xs : List Int) (S : Sheet) (u : Nat), vs = [v, sv, .int (u : Int)] ∧ rScr K H v xs ∧ rSheet K H sv S ∧ (S.map Prod.fst).Nodup ∧ 1 ≤ S.length ∧ S.length ≤ 41 ∧ u ≤ total S ∧
  ∀ H' cv C, Same H H' → rSheet K H' cv C → (C.map Prod.fst).Nodup → C.length ≤ S.length → total C + u = total S → (∀ f : Slip → Rat, (∀ s, 0 ≤ f s) → wsum C f ≤ wsum S f) → Q cv H'
abbrev N_L_seen : List Str := ["_law_script", "_law_sheet_here", "_law_unseen", "_law_left", "_law_start", "_law_slip_here", "_law_number_here", "_law_taken"]
theorem sc_L_seen : FnScope N_L_seen ["_law_script", "_law_sheet_here", "_law_unseen"] (defScope s_L_seen) := ⟨rfl, rfl, rfl, by decide +kernel, rfl, by decide +kernel, by decide +kernel⟩
theorem ok_L_seen (T : Tx K mg) {fd : FuncData} (F : FnD K d_L_seen fd) : FnOk P w K mg base CX0 3 (He.fAd K d_L_seen.at_) fd ["_law_script", "_law_sheet_here", "_law_unseen"] (sp_L_seen K) := by
  have nd := sc_L_seen.nd
  refine okx F sc_L_seen (fun vs H Q E h => ?_) (fun cdv A outer s H vs Q E hr h => ?_)
  · obtain ⟨v, sv, xs, S, u, rfl, _⟩ := h
    rfl
  · obtain ⟨v, sv, xs, S, u, rfl, scr, ⟨p, ys, rfl, fz, rel⟩, ndS, l1, l41, hu, q⟩ := h
    refine ⟨_, (pss_cons (ps_set (i := 3) nd rfl (Or.inr rfl) (pe_callTy (call_dictDS (hr.mono (by decide))) (by rfl) (T.free 61 rfl) (by decide +kernel) (pa_cons (pv 1) pa_nil)))
      (pss_cons (ps_set (i := 4) nd rfl (Or.inl rfl) (pe_op op_mod (pc_L_mixed T (hr.mono (by decide)) (by rfl) (pa_cons (pc_L_cell T (hr.mono (by decide)) (by rfl) (pa_cons (pv 0) (pa_cons pe_int pa_nil))) (pa_cons pe_int pa_nil))) (pe_callB call_len_seq (by rfl) (T.free 54 rfl) (by decide +kernel) (pa_cons (pv 1) pa_nil))))
      (pss_cons (ps_for PassesOwn.never rfl (pi_list (pe_op op_catL (pe_slice sl_list (pv 1) (po_some (pv 4)) po_none) (pe_slice sl_list (pv 1) po_none (po_some (pv 4))))) (pg_tup rfl (pgs_cons (pg_name (i := 5) nd rfl (Or.inl rfl)) (pgs_cons (pg_name (i := 6) nd rfl (Or.inl rfl)) pgs_nil))) (pss_cons (ps_set (i := 7) nd rfl (Or.inl rfl) (pe_callB (call_min2 rfl) (by rfl) (T.free 56 rfl) (by decide +kernel) (pa_cons (pv 6) (pa_cons (pv 2) pa_nil))))
      (pss_cons (ps_set (i := 2) nd rfl (Or.inl rfl) (pe_op op_sub (pv 2) (pv 7)))
      (pss_one (ps_dput (hu_of hr) (pv 3) (pv 5) (pe_op op_sub (pv 6) (pv 7)) rfl)))))
      (pss_one (ps_ret (pe_fz (pe_lc (own := [("_law_slip_here", 5)]) (g := (gName 5)) rfl nd (pi_list (pe_callB (call_sortedDS (hr.mono (by decide))) (by rfl) (T.free 58 rfl) (by decide +kernel) (pa_cons (pv 3) pa_nil))) (blkOk_by (N := N_L_seen) (sc := defScope s_L_seen) (by decide +kernel)) (fun _ _ _ _ _ => (pg_name (i := 5) nd rfl (Or.inl rfl))) (fun _ _ _ _ _ => pts_one (pt_cmpR op_gt (pe_dget (hu_of hr) (pv 3) (pv 5) (fun _ _ => rfl)) pe_int (nomark _))) (fun _ _ _ _ _ => (pe_tup (pa_cons (pv 5) (pa_cons (pe_dget (hu_of hr) (pv 3) (pv 5) (fun _ _ => rfl)) pa_nil))))))))))), ?_⟩
    have ly : ys.length = S.length := paired_len rel
    refine ⟨_, rfl, p, ys, S, rfl, fz.sq, rel, ndS, fun d hd => ?_⟩
    have s1 : Same H (upd H d (.dT (dS S))) := Same.new hd
    have hM0 : (upd H d (.dT (dS S))) d = some (.dT (dS S)) := upd_same
    generalize upd H d (.dT (dS S)) = H1 at s1 hM0
    refine ⟨_, rfl, v, xs, 1, rfl, scr.same s1, by decide, fun c c0 c1 => ⟨c, 9, rfl, c0, c1, by decide, fun r hr0 => ?_⟩⟩
    refine ⟨_, rfl, p, ys, rfl, .inl (fz.keep (Keep.of s1)).sq, _, _, rfl, rfl, (by show (0 : Int) < (ys.length : Nat); omega), ?_⟩
    have est : (r : Int) % ((ys.length : Nat) : Int) = ((r % ys.length : Nat) : Int) := by push_cast; rfl
    generalize hk : r % ys.length = k at est
    refine ⟨_, rfl, _, rfl, _, rfl, p, ys, rfl, (fz.keep (Keep.of s1)).sq, fun p1 hp1 => ?_⟩
    have s2 : Same H1 (upd H1 p1 (.lst (cutV ys (some ((r : Int) % ((ys.length : Nat) : Int))) none))) := Same.new hp1
    refine ⟨_, rfl, _, rfl, _, rfl, p, ys, rfl, (fz.keep (Keep.of (s1.trans s2))).sq, fun p2 hp2 => ?_⟩
    refine ⟨p1, p2, _, _, rfl, rfl, .inl (Same.new hp2 _ _ upd_same), .inl upd_same, ?_, fun p3 hp3 => ?_⟩
    · have h1 := cutV_length ys (some ((r : Int) % ((ys.length : Nat) : Int))) none
      have h2 := cutV_length ys none (some ((r : Int) % ((ys.length : Nat) : Int)))
      rw [sizeLine_eq]
      omega
    have s4 := (s2.trans (Same.new (o := .lst (cutV ys none (some ((r : Int) % ((ys.length : Nat) : Int))))) hp2)).trans (Same.new (o := .lst (cutV ys (some ((r : Int) % ((ys.length : Nat) : Int))) none ++ cutV ys none (some ((r : Int) % ((ys.length : Nat) : Int))))) hp3)
    generalize hH4 : upd (upd (upd H1 p1 (.lst (cutV ys (some ((r : Int) % ((ys.length : Nat) : Int))) none))) p2 (.lst (cutV ys none (some ((r : Int) % ((ys.length : Nat) : Int)))))) p3 (.lst (cutV ys (some ((r : Int) % ((ys.length : Nat) : Int))) none ++ cutV ys none (some ((r : Int) % ((ys.length : Nat) : Int))))) = H4 at s4
    have hp4 : H4 p3 = some (.lst (ys.drop k ++ ys.take k)) := by rw [← hH4, upd_same, est, cut_drop, cut_take]
    have hp3d : p3 ≠ d := fun z => by
      have := s4 _ _ hM0
      rw [← z, hp4] at this
      cases this
    have s14 := s1.trans s4
    have relR : Paired (rPair rSlip rNat K H) (ys.drop k ++ ys.take k) (turned S k) := paired_turned rel k
    have permR := turned_perm S k
    have ndR : ((turned S k).map Prod.fst).Nodup := (permR.map Prod.fst).nodup_iff.mpr ndS
    have totR := total_perm permR
    have lR : (ys.drop k ++ ys.take k).length = (turned S k).length := paired_len relR
    generalize hRR : turned S k = R at *
    generalize hYR : ys.drop k ++ ys.take k = yR at *
    refine ⟨p3, rfl, ⟨_, SqL.of hp4⟩, for_list (K := K) (a := p3) (xs := yR) (fun i σ H' => ∃ (M : Sheet) (t1 t2 t3 : Option V), σ = [some v, some (.ref p), some (.int ((u - total (R.take i) : Nat) : Int)), some (.ref d), some (.int ((r : Int) % ((ys.length : Nat) : Int))), t1, t2, t3] ∧ H' d = some (.dT (dS M)) ∧ H' p3 = some (.lst yR) ∧ Same H H' ∧ M.map Prod.fst = S.map Prod.fst ∧
      total M + u = total S + (u - total (R.take i)) ∧ (∀ f : Slip → Rat, (∀ s, 0 ≤ f s) → wsum M f ≤ wsum S f) ∧ ∀ l ∈ R.drop i, cnt M l.1 = l.2) ⟨S, _, _, _, rfl, s4 _ _ hM0, hp4, s14, rfl, by rw [List.take_zero]; show total S + u = total S + (u - 0); omega, fun f _ => Rat.le_refl, ?_⟩ ?_ ?_ ?_⟩
    · intro l hl
      rw [List.drop_zero] at hl
      have hl' := permR.mem_iff.mp hl
      rw [← cnt_read ndS] at hl'
      obtain ⟨s0, _, e⟩ := List.mem_map.mp hl'
      rw [← e]
    · rintro i σ H' _ ⟨M, t1, t2, t3, rfl, hM, h3, _⟩
      exact SqL.of h3
    · rintro i x σ H' hx ⟨M, t1, t2, t3, rfl, hM, h3, sm, ek, tot, wl, un⟩
      obtain ⟨⟨s0, n0⟩, hl, t, y, z, rfl, ht, ⟨b, rfl, hb⟩, rfl⟩ := paired_get relR hx
      have ndM : (M.map Prod.fst).Nodup := by rw [ek]; exact ndS
      have lM : M.length = S.length := by have := congrArg List.length ek; rwa [List.length_map, List.length_map] at this
      have hi : i < R.length := (List.getElem?_eq_some_iff.mp hl).1
      have edrop : R.drop i = (s0, n0) :: R.drop (i + 1) := by
        rw [List.drop_eq_getElem_cons hi]
        rw [List.getElem?_eq_getElem hi] at hl
        rw [Option.some.inj hl]
      have hc0 : cnt M s0 = n0 := un (s0, n0) (by rw [edrop]; exact List.mem_cons_self ..)
      have hmem : s0 ∈ M.map Prod.fst := by
        rw [ek]
        exact (permR.map Prod.fst).mem_iff.mp (List.mem_map.mpr ⟨(s0, n0), List.mem_of_getElem? hl, rfl⟩)
      have etk : total (R.take (i + 1)) = total (R.take i) + n0 := by
        rw [take_snoc hl, total_append]
        show _ + (n0 + 0) = _
        omega
      generalize hU : u - total (R.take i) = U at *
      have hU1 : u - total (R.take (i + 1)) = U - min n0 U := by omega
      have em : (if (U : Int) < (n0 : Int) then (U : Int) else (n0 : Int)) = ((min n0 U : Nat) : Int) := by split <;> omega
      have hb' := sm _ _ hb
      have hput := many_put (n0 - min n0 U) hM hb' ndM (by omega)
      have ez : (n0 : Int) - (if (U : Int) < (n0 : Int) then (U : Int) else (n0 : Int)) = ((n0 - min n0 U : Nat) : Int) := by split <;> omega
      have ey : (U : Int) - (if (U : Int) < (n0 : Int) then (U : Int) else (n0 : Int)) = ((U - min n0 U : Nat) : Int) := by split <;> omega
      rw [← ez] at hput
      refine ⟨t, _, rfl, sqt_keep (Keep.of sm) ht, rfl, _, _, rfl, _, _, rfl, rfl, ?_⟩
      refine ⟨_, rfl, _, rfl, _, _, rfl, ?_⟩
      refine ⟨_, rfl, _, rfl, _, _, rfl, rfl, ?_⟩
      refine ⟨_, rfl, _, rfl, _, _, rfl, rfl, _, rfl, _, rfl, d, _, rfl, hput, ?_⟩
      have hw := putS_wsum M s0 (n0 - min n0 U)
      have htt := putS_total M s0 (n0 - min n0 U)
      rw [hc0] at htt
      refine ⟨putS M s0 (n0 - min n0 U), _, _, _, by rw [hU1, ← ey]; rfl, upd_same, by rw [upd_ne hp3d]; exact h3, Same.at sm hd, by rw [putS_keys_mem M s0 _ hmem]; exact ek, ?_, fun f hf => ?_, fun l hl2 => ?_⟩
      · rw [hU1]
        omega
      · have h1 := hw f
        rw [hc0] at h1
        have h2 := wl f hf
        have h3 : ((n0 - min n0 U : Nat) : Rat) * f s0 ≤ (n0 : Rat) * f s0 := Rat.mul_le_mul_of_nonneg_right (Rat.natCast_le_natCast.mpr (Nat.sub_le _ _)) (hf s0)
        grind
      · have hnd : ((R.drop i).map Prod.fst).Nodup := (((List.drop_sublist i R).map Prod.fst)).nodup ndR
        rw [edrop, List.map_cons] at hnd
        have hne : ¬ l.1 = s0 := fun z => (List.nodup_cons.mp hnd).1 (List.mem_map.mpr ⟨l, hl2, z⟩)
        rw [cnt_putS, if_neg hne]
        exact un l (by rw [edrop]; exact List.mem_cons_of_mem _ hl2)
    · rintro σ H3 ⟨M, t1, t2, t3, rfl, hM, h3, smH, ek, tot, wl, un⟩
      have ndM : (M.map Prod.fst).Nodup := by rw [ek]; exact ndS
      have lM : M.length = S.length := by have := congrArg List.length ek; rwa [List.length_map, List.length_map] at this
      rw [lR, List.take_length, totR] at tot
      have tot : total M + u = total S := by omega
      refine ⟨_, rfl, d, M, rfl, hM, by omega, fun p5 zs ss2 perm rel2 hp5 => ?_⟩
      have s31 : Same H3 (upd H3 p5 (.lst zs)) := Same.new hp5
      generalize hH5 : upd H3 p5 (.lst zs) = H5 at s31
      have hp6 : H5 p5 = some (.lst zs) := by rw [← hH5, upd_same]
      have lz : zs.length = ss2.length := paired_len rel2
      refine ⟨p5, rfl, ⟨_, SqL.of hp6⟩, fun D2 hD2 => lc_list (K := K) (a := p5) (xs := zs) (fun i H6 => Acc K (rPair rSlip rNat) H5 D2 H6 (((ss2.map fun s => (s, cnt M s)).take i).filter fun p => decide (0 < p.2))) (Acc.start hD2) ?_ ?_ ?_⟩
      · rintro i H6 _ ac
        exact SqL.of (ac.same _ _ hp6)
      · rintro i x H6 hx ac
        obtain ⟨s0, hs0, b0, rfl, hb0⟩ := paired_get rel2 hx
        have hmem : s0 ∈ M.map Prod.fst := perm.mem_iff.mp (List.mem_of_getElem? hs0)
        have s35 := s31.trans ac.same
        have e : (ss2.map fun s => (s, cnt M s))[i]? = some (s0, cnt M s0) := by rw [List.getElem?_map, hs0]; rfl
        have hg : DGet H6 d (.ref b0) (some (.int (cnt M s0 : Int))) := by rw [← dS_val M s0 hmem]; exact DGet.t (s35 _ _ hM) (by rw [ik_kV]; exact s35 _ _ hb0)
        refine ⟨rfl, ?_⟩
        refine ⟨_, rfl, _, rfl, d, .int (cnt M s0 : Int), rfl, hg, _, _, rfl, rfl, _, rfl, ite2 (fun hc => ?_) (fun hc => ?_)⟩
        · have hc' : 0 < cnt M s0 := by
            have : (0 : Int) < (cnt M s0 : Int) := by simpa using hc
            omega
          refine ⟨_, rfl, _, rfl, _, rfl, d, .int (cnt M s0 : Int), rfl, hg, (by show 2 ≤ sizeLine; decide), fun t ht => ?_⟩
          have st : Same H6 (upd H6 t (.tup [.ref b0, .int (cnt M s0 : Int)])) := Same.new ht
          obtain ⟨vs2, a1, a2, a3⟩ := Acc.push (rPair_stays rSlip_stays rNat_stays) hD2 ac st (v := .ref t) (a := (s0, cnt M s0)) ⟨t, .ref b0, .int (cnt M s0 : Int), rfl, SqT.of upd_same, ⟨b0, rfl, st _ _ (s35 _ _ hb0)⟩, rfl⟩
          refine ⟨vs2, a1, ?_, ?_⟩
          · rw [a2]
            refine small1000 ?_
            refine Nat.le_trans (List.length_filter_le _ _) ?_
            rw [List.length_take, List.length_map]
            have := perm.length_eq
            rw [List.length_map] at this
            omega
          · rw [take_snoc e, List.filter_append]
            have ef : [(s0, cnt M s0)].filter (fun p : Slip × Nat => decide (0 < p.2)) = [(s0, cnt M s0)] := by simp [hc']
            rw [ef]
            exact a3
        · have hc' : ¬ 0 < cnt M s0 := by
            intro z
            apply hc
            simpa using (show (0 : Int) < (cnt M s0 : Int) by omega)
          rw [take_snoc e, List.filter_append]
          have ef : [(s0, cnt M s0)].filter (fun p : Slip × Nat => decide (0 < p.2)) = [] := by simp [hc']
          rw [ef, List.append_nil]
          exact ac
      · rintro H6 ac
        have el : zs.length = (ss2.map fun s => (s, cnt M s)).length := by rw [List.length_map]; exact lz
        rw [el, List.take_length] at ac
        obtain ⟨vs2, e, f⟩ := Acc.freeze (rPair_stays rSlip_stays rNat_stays) hD2 ac
        have rp := read_perm ndM perm
        refine ⟨D2, vs2, rfl, e, fun o => q _ _ _ ((smH.trans s31).trans (f o).1) (f o).2 ?_ ?_ ?_ ?_⟩
        · exact ((List.filter_sublist).map Prod.fst).nodup ((rp.map Prod.fst).nodup_iff.mpr ndM)
        · refine Nat.le_trans (List.length_filter_le _ _) ?_
          rw [rp.length_eq]; omega
        · rw [total_filter, total_perm rp]; omega
        · intro f hf
          rw [wsum_filter, wsum_perm rp]
          exact wl f hf
theorem pc_L_seen {K : PySem.W.Frag} {mg : Str → Option Value} (T : Tx K mg) {X : Cx} (hr : Room 3 X.A) (hg : Gl X "_law_seen") {p pos : Pos} {e : Expr} {es : List Expr} {t : TA} (ha : PA X (e :: es) t) (hK : X.K = K := by rfl) (hM : X.mg = mg := by rfl) (he : starEach (e :: es) X.env = (false, eval e X.env) :: starEach es X.env := by rfl) (hpl : (backTo pos (starEach es X.env)).any (·.1) = false := by rfl) : PE X (.Call (.Name "_law_seen" p) (e :: es) [] pos) (tCall (sp_L_seen K) [] E0 t) := by
  subst hK hM
  obtain ⟨fd, F⟩ := T.says.def_ 47 (d := d_L_seen) rfl
  exact pe_call (ok_L_seen T F) hr hg (T.glo 47 rfl) F.kp (F.bindsN fun _ _ _ _ _ _ us hl => match us, hl with | [_, _, _], _ => rfl) .nil pass0 ha (by decide) he hpl
end
end K75
-- KL7
/-! filled. -/
namespace K75
open PySem PySem.Spec PyProof.Rows L2 LamX
section
variable {P : Program} {w : World} {K : PySem.W.Frag} {mg : Str → Option Value} {base : Heap}
def sp_L_filled (K : PySem.W.Frag) : Sp := fun vs H Q _ => ∃ (v cv : V) (xs : List Int) (C : Sheet) (n u : Nat), vs = [v, cv, .int (n : Int), .int (u : Int)] ∧ rScr K H v xs ∧ rSheet K H cv C ∧ (C.map Prod.fst).Nodup ∧ C.length ≤ 41 ∧ 1 ≤ n ∧ n ≤ 12 ∧ u ≤ 2 ^ 50 ∧
  ∀ H' bv B, Same H H' → rSheet K H' bv B → (B.map Prod.fst).Nodup → B.length ≤ 50 → total B = total C + u → (∀ f : Slip → Rat, (∀ s, 0 ≤ f s) → wsum C f ≤ wsum B f) → Q bv H'
abbrev N_L_filled : List Str := ["_law_script", "_law_seen_here", "_law_hands", "_law_unseen", "_law_many", "_law_cell_here", "_law_k", "_law_drawn", "_law_slip_here", "_law_put"]
theorem sc_L_filled : FnScope N_L_filled ["_law_script", "_law_seen_here", "_law_hands", "_law_unseen"] (defScope s_L_filled) := ⟨rfl, rfl, rfl, by decide +kernel, rfl, by decide +kernel, by decide +kernel⟩
theorem ok_L_filled (T : Tx K mg) {fd : FuncData} (F : FnD K d_L_filled fd) : FnOk P w K mg base CX0 4 (He.fAd K d_L_filled.at_) fd ["_law_script", "_law_seen_here", "_law_hands", "_law_unseen"] (sp_L_filled K) := by
  have nd := sc_L_filled.nd
  refine okx F sc_L_filled (fun vs H Q E h => ?_) (fun cdv A outer s H vs Q E hr h => ?_)
  · obtain ⟨v, cv, xs, C, n, u, rfl, _⟩ := h
    rfl
  · obtain ⟨v, cv, xs, C, n, u, rfl, scr, ⟨p, ys, rfl, fz, rel⟩, ndC, l41, hn1, hn, hu, q⟩ := h
    refine ⟨_, (pss_cons (ps_set (i := 4) nd rfl (Or.inr rfl) (pe_callTy (call_dictDS (hr.mono (by decide))) (by rfl) (T.free 61 rfl) (by decide +kernel) (pa_cons (pv 1) pa_nil)))
      (pss_cons (ps_set (i := 5) nd rfl (Or.inl rfl) (pc_L_mixed T (hr.mono (by decide)) (by rfl) (pa_cons (pc_L_cell T (hr.mono (by decide)) (by rfl) (pa_cons (pv 0) (pa_cons pe_int pa_nil))) (pa_cons pe_int pa_nil))))
      (pss_cons (ps_for PassesOwn.never rfl (pi_range1 (by rfl) (T.free 59 rfl) (pa_cons (pe_op op_add pe_int (pe_op op_mod (pv 5) pe_int)) pa_nil)) (pg_name (i := 6) nd rfl (Or.inl rfl)) (pss_cons (ps_set (i := 7) nd rfl (Or.inl rfl) (pc_L_mixed T (hr.mono (by decide)) (by rfl) (pa_cons (pc_L_cell T (hr.mono (by decide)) (by rfl) (pa_cons (pv 0) (pa_cons (pe_op op_add pe_int (pv 6)) pa_nil))) (pa_cons (pe_op op_add pe_int (pv 6)) pa_nil))))
      (pss_cons (ps_set (i := 8) nd rfl (Or.inl rfl) (pe_ix ix_list (pe_lst (pa_cons (pc_L_slip T (hr.mono (by decide)) (by rfl) (pa_cons (pv 7) (pa_cons (pv 2) pa_nil))) (pa_cons (pe_tup (pa_cons (pe_op op_shl pe_int (pe_op op_mod (pe_op op_fdivW (pv 7) pe_int) (pv 2))) pa_nil)) (pa_cons (pe_tup pa_nil) pa_nil)))) (pe_op op_mod (pe_op op_mod (pv 7) pe_int) pe_int) (fun _ _ => rfl)))
      (pss_cons (ps_set (i := 9) nd rfl (Or.inl rfl) (pv 3))
      (pss_cons (ps_if (pt_cmpR op_lt (pv 6) (pe_op op_mod (pv 5) pe_int) (nomark _)) (pss_one (ps_set (i := 9) nd rfl (Or.inl rfl) (pe_op op_mod (pe_op op_fdivW (pv 7) pe_int) (pe_op op_add (pv 3) pe_int)))) pss_nil)
      (pss_cons (ps_if (pt_cmpR op_gt (pv 9) pe_int (nomark _)) (pss_one (ps_dput (hu_of hr) (pv 4) (pv 8) (pe_op op_add (pe_dget2 (hu_of hr) (pv 4) (pv 8) pe_int ⟨by rfl, by rfl, by rfl, by rfl⟩) (pv 9)) rfl)) pss_nil)
      (pss_one (ps_set (i := 3) nd rfl (Or.inl rfl) (pe_op op_sub (pv 3) (pv 9))))))))))
      (pss_one (ps_ret (pe_fz (pe_lc (own := [("_law_slip_here", 8)]) (g := (gName 8)) rfl nd (pi_list (pe_callB (call_sortedDS (hr.mono (by decide))) (by rfl) (T.free 58 rfl) (by decide +kernel) (pa_cons (pv 4) pa_nil))) (blkOk_by (N := N_L_filled) (sc := defScope s_L_filled) (by decide +kernel)) (fun _ _ _ _ _ => (pg_name (i := 8) nd rfl (Or.inl rfl))) (fun _ _ _ _ _ => pts_nil) (fun _ _ _ _ _ => (pe_tup (pa_cons (pv 8) (pa_cons (pe_dget (hu_of hr) (pv 4) (pv 8) (fun _ _ => rfl)) pa_nil))))))))))), ?_⟩
    refine ⟨_, rfl, p, ys, C, rfl, fz.sq, rel, ndC, fun d hd => ?_⟩
    have s1 : Same H (upd H d (.dT (dS C))) := Same.new hd
    have hM0 : (upd H d (.dT (dS C))) d = some (.dT (dS C)) := upd_same
    generalize upd H d (.dT (dS C)) = H1 at s1 hM0
    refine ⟨_, rfl, v, xs, 0, rfl, scr.same s1, by decide, fun c c0 c1 => ⟨c, 11, rfl, c0, c1, by decide, fun cw hcw => ?_⟩⟩
    have ecw : (cw : Int) % 4 = ((cw % 4 : Nat) : Int) := by push_cast; rfl
    generalize hcw4 : cw % 4 = m at ecw
    have hm4 : m < 4 := by omega
    refine ⟨_, rfl, _, _, rfl, rfl, (by show (0 : Int) < 4; decide), _, _, rfl, rfl, _, rfl, by omega, by omega, ?_⟩
    have en : (1 + (cw : Int) % 4).toNat = m + 1 := by rw [ecw]; omega
    refine for_range (lo := 0) (n := (1 + (cw : Int) % 4).toNat) (fun i σ H' => ∃ (M : Sheet) (U : Nat) (t1 t2 t3 t4 : Option V), σ = [some v, some (.ref p), some (.int (n : Int)), some (.int (U : Int)), some (.ref d), some (.int (cw : Int)), t1, t2, t3, t4] ∧ H' d = some (.dT (dS M)) ∧ Same H H' ∧ (M.map Prod.fst).Nodup ∧
      total M + U = total C + u ∧ M.length ≤ C.length + i ∧ (∀ f : Slip → Rat, (∀ s, 0 ≤ f s) → wsum C f ≤ wsum M f) ∧ (i = m + 1 → U = 0) ∧ U ≤ u) ⟨C, u, _, _, _, _, rfl, hM0, s1, ndC, rfl, Nat.le_refl _, fun f _ => Rat.le_refl, fun h => absurd h (by omega), Nat.le_refl _⟩ ?_ ?_
    · rintro i σ H' hi ⟨M, U, t1, t2, t3, t4, rfl, hM, sm, ndM, tot, lM, wl, _, hU⟩
      have hi' : i < m + 1 := by omega
      have e3 : (3 : Int) + (0 + (i : Int)) = ((3 + i : Nat) : Int) := by omega
      have e12 : (12 : Int) + (0 + (i : Int)) = ((12 + i : Nat) : Int) := by omega
      refine ⟨_, rfl, _, rfl, _, _, rfl, rfl, v, xs, 3 + i, congrArg (fun z => [v, V.int z]) e3, scr.same sm, by omega, fun c c0 c1 => ?_⟩
      refine ⟨_, rfl, _, _, rfl, rfl, c, 12 + i, congrArg (fun z => [V.int c, V.int z]) e12, c0, c1, by omega, fun dr hdr => ?_⟩
      have e10 : (dr : Int) < 10 ^ 40 := by omega
      refine ⟨_, rfl, _, rfl, (dr : Int), n, rfl, by omega, e10, hn, fun H2 v0 sl0 s2 r0 => ?_⟩
      have dv4 : CDivW (dr : Int) 4 := wide_div (b := 20) (by decide) (by decide) (by decide) (by decide)
      have dv48 : CDivW (dr : Int) 48 := wide_div (b := 20) (by decide) (by decide) (by decide) (by decide)
      have ew : (dr : Int) / 4 % (n : Int) = ((dr / 4 % n : Nat) : Int) := by push_cast; rfl
      have hw : dr / 4 % n < n := Nat.mod_lt _ (by omega)
      have cp : CPow 1 ((dr : Int) / 4 % (n : Int)) := by rw [ew]; exact ⟨by omega, by omega, by decide⟩
      have em : (1 : Int) * 2 ^ ((dr : Int) / 4 % (n : Int)).toNat = ((2 ^ (dr / 4 % n) : Nat) : Int) := by rw [ew, Int.toNat_natCast, Int.one_mul]; push_cast; rfl
      refine ⟨_, rfl, _, _, rfl, rfl, dv4, _, rfl, _, _, rfl, rfl, (by show (0 : Int) < (n : Int); omega), _, _, rfl, rfl, cp, (by show 1 ≤ sizeLine; decide), fun b1 hb1 => ?_⟩
      have sb1 : Same H2 (upd H2 b1 (.tup [V.int ((1 : Int) * 2 ^ ((dr : Int) / 4 % (n : Int)).toNat)])) := Same.new hb1
      have r1 : rSlip K (upd H2 b1 (.tup [V.int ((1 : Int) * 2 ^ ((dr : Int) / 4 % (n : Int)).toNat)])) (.ref b1) [2 ^ (dr / 4 % n)] := ⟨b1, rfl, by rw [upd_same, em]; rfl⟩
      generalize upd H2 b1 (.tup [V.int ((1 : Int) * 2 ^ ((dr : Int) / 4 % (n : Int)).toNat)]) = H3 at sb1 r1
      refine ⟨(by show 0 ≤ sizeLine; decide), fun b2 hb2 => ⟨(by show 3 ≤ sizeLine; decide), fun b3 hb3 => ?_⟩⟩
      have sb2 : Same H3 (upd H3 b2 (.tup [])) := Same.new hb2
      have r2 : rSlip K (upd H3 b2 (.tup [])) (.ref b2) [] := ⟨b2, rfl, upd_same⟩
      generalize upd H3 b2 (.tup []) = H4 at sb2 r2 hb3
      have sb3 : Same H4 (upd H4 b3 (.lst [v0, .ref b1, .ref b2])) := Same.new hb3
      have e43 : (dr : Int) % 4 % 3 = ((dr % 4 % 3 : Nat) : Int) := by push_cast; rfl
      have h43 : dr % 4 % 3 < 3 := Nat.mod_lt _ (by decide)
      obtain ⟨y, b, s0, hy, ey, hb⟩ : ∃ y b, ∃ s0 : Slip, atI [v0, V.ref b1, V.ref b2] ((dr : Int) % 4 % 3) = some y ∧ y = V.ref b ∧ (upd H4 b3 (.lst [v0, .ref b1, .ref b2])) b = some (.tup (s0.map fun (m : Nat) => V.int (m : Int))) := by
        rw [e43]
        obtain ⟨b0, rfl, h0⟩ := r0
        obtain ⟨_, e1, h1⟩ := r1
        cases e1
        obtain ⟨_, e2, h2⟩ := r2
        cases e2
        rcases (by omega : dr % 4 % 3 = 0 ∨ dr % 4 % 3 = 1 ∨ dr % 4 % 3 = 2) with h | h | h
        · rw [h]; exact ⟨_, b0, sl0, rfl, rfl, sb3 _ _ (sb2 _ _ (sb1 _ _ h0))⟩
        · rw [h]; exact ⟨_, b1, _, rfl, rfl, sb3 _ _ (sb2 _ _ h1)⟩
        · rw [h]; exact ⟨_, b2, _, rfl, rfl, sb3 _ _ h2⟩
      subst ey
      refine ⟨_, rfl, _, _, rfl, rfl, (by show (0 : Int) < 4; decide), _, _, rfl, rfl, (by show (0 : Int) < 3; decide), b3, _, _, _, rfl, rfl, SqL.of upd_same, hy, ?_⟩
      have s5 := ((s2.trans sb1).trans sb2).trans sb3
      generalize upd H4 b3 (.lst [v0, .ref b1, .ref b2]) = H5 at s5 hb
      have hM5 := s5 _ _ hM
      have sm5 := sm.trans s5
      obtain ⟨o, hget, eo⟩ := many_get hM5 hb
      have hmod : dr / 48 % (U + 1) ≤ U := Nat.le_of_lt_succ (Nat.mod_lt (dr / 48) (Nat.succ_pos U))
      have eput : (dr : Int) / 48 % ((U : Int) + 1) = ((dr / 48 % (U + 1) : Nat) : Int) := by push_cast; rfl
      refine ⟨_, rfl, ?_⟩
      refine ⟨_, rfl, _, rfl, _, _, rfl, rfl, (by show (0 : Int) < 4; decide), _, _, rfl, rfl, _, rfl, ite2 (fun hc => ?_) (fun hc => ?_)⟩
      · have hc' : i < m := by
          have h9 : (0 : Int) + (i : Int) < (cw : Int) % 4 := by simpa using hc
          omega
        refine ⟨_, rfl, _, _, rfl, rfl, dv48, _, rfl, _, _, rfl, rfl, _, _, rfl, rfl, (by show (0 : Int) < (U : Int) + 1; omega), ?_⟩
        have hput := many_put (cnt M s0 + dr / 48 % (U + 1)) hM5 hb ndM (by omega)
        refine ⟨_, rfl, _, _, rfl, rfl, _, rfl, ite2 (fun hp => ?_) (fun hp => ?_)⟩
        · refine ⟨_, rfl, d, rfl, .inr ⟨_, .inl hM5⟩, _, rfl, o, hget, ?_⟩
          refine ⟨_, rfl, _, _, eo, rfl, _, rfl, _, rfl, d, _, rfl, (by rw [eput]; have hh := hput; exact hh), ?_⟩
          refine ⟨_, rfl, _, rfl, _, _, rfl, rfl, ?_⟩
          refine ⟨addS M s0 (dr / 48 % (U + 1)), U - (dr / 48 % (U + 1)), _, _, _, _, by rw [show ((U - dr / 48 % (U + 1) : Nat) : Int) = (U : Int) - (dr : Int) / 48 % ((U : Int) + 1) by rw [eput]; omega]; rfl, upd_same, Same.at sm5 hd, putS_nodup M s0 _ ndM, by rw [addS_total]; omega, by have := (putS_len M s0 (cnt M s0 + (dr / 48 % (U + 1)))).1; unfold addS; omega, fun f hf => ?_, fun h => by omega, by omega⟩
          rw [addS_wsum]
          have h1 := wl f hf
          have h2 : (0 : Rat) ≤ ((dr / 48 % (U + 1) : Nat) : Rat) * f s0 := Rat.mul_nonneg Rat.natCast_nonneg (hf s0)
          grind
        · have hz : dr / 48 % (U + 1) = 0 := by
            have : ¬ (0 : Int) < ((dr / 48 % (U + 1) : Nat) : Int) := fun z => hp (by rw [eput]; simpa using z)
            omega
          refine ⟨_, rfl, _, rfl, _, _, rfl, rfl, ?_⟩
          refine ⟨M, U - (dr / 48 % (U + 1)), _, _, _, _, by rw [show ((U - dr / 48 % (U + 1) : Nat) : Int) = (U : Int) - (dr : Int) / 48 % ((U : Int) + 1) by rw [eput]; omega]; rfl, hM5, sm5, ndM, by omega, by omega, wl, fun h => by omega, by omega⟩
      · have hc' : ¬ i < m := by
          have h9 : ¬ (0 : Int) + (i : Int) < (cw : Int) % 4 := by simpa using hc
          omega
        have hput := many_put (cnt M s0 + U) hM5 hb ndM (by omega)
        refine ⟨_, rfl, _, _, rfl, rfl, _, rfl, ite2 (fun hp => ?_) (fun hp => ?_)⟩
        · refine ⟨_, rfl, d, rfl, .inr ⟨_, .inl hM5⟩, _, rfl, o, hget, ?_⟩
          refine ⟨_, rfl, _, _, eo, rfl, _, rfl, _, rfl, d, _, rfl, (by have hh := hput; exact hh), ?_⟩
          refine ⟨_, rfl, _, rfl, _, _, rfl, rfl, ?_⟩
          refine ⟨addS M s0 (U), U - (U), _, _, _, _, by rw [show ((U - U : Nat) : Int) = (U : Int) - (U : Int) by omega]; rfl, upd_same, Same.at sm5 hd, putS_nodup M s0 _ ndM, by rw [addS_total]; omega, by have := (putS_len M s0 (cnt M s0 + (U))).1; unfold addS; omega, fun f hf => ?_, fun h => by omega, by omega⟩
          rw [addS_wsum]
          have h1 := wl f hf
          have h2 : (0 : Rat) ≤ ((U : Nat) : Rat) * f s0 := Rat.mul_nonneg Rat.natCast_nonneg (hf s0)
          grind
        · have hz : U = 0 := by
            have : ¬ (0 : Int) < ((U : Nat) : Int) := fun z => hp (by simpa using z)
            omega
          refine ⟨_, rfl, _, rfl, _, _, rfl, rfl, ?_⟩
          refine ⟨M, U - (U), _, _, _, _, by rw [show ((U - U : Nat) : Int) = (U : Int) - (U : Int) by omega]; rfl, hM5, sm5, ndM, by omega, by omega, wl, fun h => by omega, by omega⟩
    · rintro σ H3 ⟨M, U, t1, t2, t3, t4, rfl, hM, smH, ndM, tot, lM, wl, h0, hU⟩
      have hU0 := h0 (by omega)
      refine ⟨_, rfl, d, M, rfl, hM, by omega, fun p ys ss2 perm rel2 hp => ?_⟩
      have s31 : Same H3 (upd H3 p (.lst ys)) := Same.new hp
      generalize hH4 : upd H3 p (.lst ys) = H4 at s31
      have hp4 : H4 p = some (.lst ys) := by rw [← hH4, upd_same]
      refine ⟨p, rfl, ⟨_, SqL.of hp4⟩, fun D2 hD2 => lc_list (K := K) (a := p) (xs := ys) (fun i H5 => Acc K (rPair rSlip rNat) H4 D2 H5 ((ss2.map fun s => (s, cnt M s)).take i)) (Acc.start hD2) ?_ ?_ ?_⟩
      · rintro i H5 _ ac
        exact SqL.of (ac.same _ _ hp4)
      · rintro i x H5 hx ac
        obtain ⟨s0, hs0, b0, rfl, hb0⟩ := paired_get rel2 hx
        have hmem : s0 ∈ M.map Prod.fst := perm.mem_iff.mp (List.mem_of_getElem? hs0)
        have s35 := s31.trans ac.same
        have e : (ss2.map fun s => (s, cnt M s))[i]? = some (s0, cnt M s0) := by rw [List.getElem?_map, hs0]; rfl
        refine ⟨rfl, ?_⟩
        refine ⟨_, rfl, _, rfl, _, rfl, d, .int (cnt M s0 : Int), rfl, by rw [← dS_val M s0 hmem]; exact DGet.t (s35 _ _ hM) (by rw [ik_kV]; exact s35 _ _ hb0), (by show 2 ≤ sizeLine; decide), fun t ht => ?_⟩
        have st : Same H5 (upd H5 t (.tup [.ref b0, .int (cnt M s0 : Int)])) := Same.new ht
        obtain ⟨vs2, a1, a2, a3⟩ := Acc.push (rPair_stays rSlip_stays rNat_stays) hD2 ac st (v := .ref t) (a := (s0, cnt M s0)) ⟨t, .ref b0, .int (cnt M s0 : Int), rfl, SqT.of upd_same, ⟨b0, rfl, st _ _ (s35 _ _ hb0)⟩, rfl⟩
        refine ⟨vs2, a1, ?_, ?_⟩
        · rw [a2, List.length_take, List.length_map]
          exact small1000 (by have := perm.length_eq; rw [List.length_map] at this; omega)
        · rw [take_snoc e]
          exact a3
      · rintro H5 ac
        have el : ys.length = (ss2.map fun s => (s, cnt M s)).length := by rw [List.length_map]; exact paired_len rel2
        rw [el, List.take_length] at ac
        obtain ⟨vs2, e, f⟩ := Acc.freeze (rPair_stays rSlip_stays rNat_stays) hD2 ac
        have rp := read_perm ndM perm
        refine ⟨D2, vs2, rfl, e, fun o => q _ _ _ ((smH.trans s31).trans (f o).1) (f o).2 ?_ ?_ ?_ ?_⟩
        · exact (rp.map Prod.fst).nodup_iff.mpr ndM
        · rw [rp.length_eq]; omega
        · rw [total_perm rp]; omega
        · intro f hf
          rw [wsum_perm rp]
          exact wl f hf
theorem pc_L_filled {K : PySem.W.Frag} {mg : Str → Option Value} (T : Tx K mg) {X : Cx} (hr : Room 4 X.A) (hg : Gl X "_law_filled") {p pos : Pos} {e : Expr} {es : List Expr} {t : TA} (ha : PA X (e :: es) t) (hK : X.K = K := by rfl) (hM : X.mg = mg := by rfl) (he : starEach (e :: es) X.env = (false, eval e X.env) :: starEach es X.env := by rfl) (hpl : (backTo pos (starEach es X.env)).any (·.1) = false := by rfl) : PE X (.Call (.Name "_law_filled" p) (e :: es) [] pos) (tCall (sp_L_filled K) [] E0 t) := by
  subst hK hM
  obtain ⟨fd, F⟩ := T.says.def_ 48 (d := d_L_filled) rfl
  exact pe_call (ok_L_filled T F) hr hg (T.glo 48 rfl) F.kp (F.bindsN fun _ _ _ _ _ _ us hl => match us, hl with | [_, _, _, _], _ => rfl) .nil pass0 ha (by decide) he hpl
end
end K75
set_option maxHeartbeats 200000
-- KLM
/-! what the law needs of the sheets. -/
namespace K75
theorem ones_total (S : Sheet) : wsum S (fun _ => 1) = (total S : Rat) := by
  induction S with
  | nil => rfl
  | cons p r ih =>
    simp only [wsum, total]
    rw [ih, Rat.natCast_add]
    grind
theorem differ_of {S C B : Sheet} {u : Nat} (tC : total C + u = total S) (tB : total B = total C + u) (wC : ∀ f : Slip → Rat, (∀ s, 0 ≤ f s) → wsum C f ≤ wsum S f) (wB : ∀ f : Slip → Rat, (∀ s, 0 ≤ f s) → wsum C f ≤ wsum B f) : Differ S B u := by
  refine ⟨⟨C, ⟨wC⟩, ⟨wB⟩, ?_, ?_⟩, by omega⟩
  · rw [ones_total, ones_total, ← tC, Rat.natCast_add]
    grind
  · rw [ones_total, ones_total, tB, Rat.natCast_add]
    grind
/-- what held answers, told by the law's own low -/
theorem held_law {W : Hall} {S : Sheet} {u : Nat} {b : Bool} {low : Int} {o : List Int} (told : Told W) (h : HeldIs W S u b) (t : 1 ≤ total S) (iso : IsOutcome W S o) (isl : IsLow W S o low) : b = (decide ((u : Int) = 0) || decide (low > (u : Int))) := by
  rcases h with ⟨h1, rfl⟩ | ⟨h1, _, low', o', iso', isl', rfl⟩
  · have hu : u = 0 := by rcases h1 with h1 | h1 <;> omega
    rw [hu]
    rfl
  · have e1 : o' = o := outcome_one told iso' iso
    subst e1
    have e2 : low' = low := low_one isl' isl
    subst e2
    have : decide ((u : Int) = 0) = false := decide_eq_false (by omega)
    rw [this, Bool.false_or]
end K75
set_option maxHeartbeats 4000000
-- KL8
/-! the law. -/
namespace K75
open PySem PySem.Spec PyProof.Rows L2 LamX
theorem made_same {H H' : Hp} {x dx : Addr} {o1 o2 : HO} (hx : H x = none) (hd : H dx = none) (k : ∀ b o, (upd (upd H dx o1) x o2) b = some o → b ≠ x → H' b = some o) : Same H H' := fun b o e => by
  have h1 := ne_of_none e hx
  have h2 := ne_of_none e hd
  exact k b o (by rw [upd_ne h1, upd_ne h2]; exact e) h1
section
variable {P : Program} {w : World} {K : PySem.W.Frag} {mg : Str → Option Value} {base : Heap}
theorem mar_is (T : Tx K mg) {H : Hp} {a : Addr} {W : Hall} (h : MarAt K H a W) : TyX K H (.ref a) (.ref (He.ga K "SeatsMargin")) :=
  let ⟨dx, p, e, _⟩ := h.ob
  let q := He.ba (He.ba (He.ba T.ex).2).2
  let r := He.ba q.2
  .base (.ins e T.cls_SeatsMargin (He.eqO_ok r.1) (He.eqO_ok (He.ba r.2).1) (of_decide_eq_true (He.ba (He.ba r.2).2).1) (of_decide_eq_true (He.ba (He.ba (He.ba r.2).2).2).1))
theorem mar_one (T : Tx K mg) : PySem.W.kitOne K (.ref (He.ga K "SeatsMargin")) (.ref (He.ga K "Margin")) = some true := of_decide_eq_true (He.ba (He.ba (He.ba T.ex).2).2).1
/-- a sheet as data -/
def dSheet (S : Sheet) : PyData := .list (S.map fun l => .tuple [.tuple (l.1.map fun (m : Nat) => .int (m : Int)), .int (l.2 : Int)])
theorem dSlip_all (l : Slip) : PyData.canLayAll0 (l.map fun (n : Nat) => PyData.int (n : Int)) = true ∧ PyData.depthAll (l.map fun (n : Nat) => PyData.int (n : Int)) = 0 ∧ PyData.eqvAll (l.map fun (n : Nat) => PyData.int (n : Int)) (l.map fun (n : Nat) => PyData.int (n : Int)) = true := dNats_all l
theorem dSheet_all (S : Sheet) : PyData.canLayAll0 (S.map fun l => PyData.tuple [.tuple (l.1.map fun (m : Nat) => .int (m : Int)), .int (l.2 : Int)]) = true ∧ PyData.depthAll (S.map fun l => PyData.tuple [.tuple (l.1.map fun (m : Nat) => .int (m : Int)), .int (l.2 : Int)]) ≤ 2 ∧
    PyData.eqvAll (S.map fun l => PyData.tuple [.tuple (l.1.map fun (m : Nat) => .int (m : Int)), .int (l.2 : Int)]) (S.map fun l => PyData.tuple [.tuple (l.1.map fun (m : Nat) => .int (m : Int)), .int (l.2 : Int)]) = true := by
  induction S with
  | nil => simp [PyData.canLayAll0, PyData.depthAll, PyData.eqvAll]
  | cons a r ih =>
    obtain ⟨h1, h2, h3⟩ := ih
    obtain ⟨g1, g2, g3⟩ := dSlip_all a.1
    refine ⟨?_, ?_, ?_⟩
    · simp [PyData.canLayAll0, PyData.canLay0, h1, g1]
    · simp only [List.map_cons, PyData.depthAll, PyData.depth, g2]
      omega
    · simp [PyData.eqvAll, PyData.eqv, h3, g3]
theorem sheet_dp {H : Hp} {sv : V} {S : Sheet} (h : rSheet K H sv S) : Dp K H sv (dSheet S) := by
  obtain ⟨p, ys, rfl, fz, rel⟩ := h
  refine .lst fz.sq ?_
  clear fz
  induction rel with
  | nil => exact .nil
  | cons h t ih =>
    obtain ⟨q, x, y, rfl, hq, ⟨b, rfl, hb⟩, rfl⟩ := h
    exact .cons (.tup hq (.cons (.tup (SqT.of hb) (nats_dp _)) (.cons (.int _) .nil))) ih
/-- a frozen copy reads as the sheet -/
theorem copy_sheet {H : Hp} {l : Addr} {o : Obj} {S : Sheet} {ys : List V} (hl : H l = none) (rel : Paired (rPair rSlip rNat K H) ys S) : rSheet K (upd (upd H l (.lst ys)) l (.frz o (.lst ys))) (.ref l) S := by
  rw [upd_upd]
  exact ⟨l, ys, rfl, FzL.mk, paired_mono (fun _ _ z => (rPair_stays rSlip_stays rNat_stays).k (Keep.of (Same.new hl)) z) rel⟩
theorem scr_ext {H H' : Hp} {v : V} {xs : List Int} (s : ExtN H H') (h : rScr K H v xs) : rScr K H' v xs := by
  obtain ⟨a, e, q⟩ := h
  refine ⟨a, e, ?_⟩
  rcases q with (q | ⟨o, q⟩) | q
  · exact .inl (.inl (s _ _ q (fun ps z => nomatch z)))
  · exact .inl (.inr ⟨o, s _ _ q (fun ps z => nomatch z)⟩)
  · exact .inr q
/-- two sheets in a list, as data -/
def dTwo (C S : Sheet) : PyData := .list [dSheet C, dSheet S]
theorem dTwo_shaped (C S : Sheet) : SeqAt.shaped (dTwo C S) = true := by
  obtain ⟨a1, a2, _⟩ := dSheet_all C
  obtain ⟨b1, b2, _⟩ := dSheet_all S
  simp only [dTwo, dSheet, SeqAt.shaped, PyData.canLay0, PyData.canLayAll0, PyData.depth, PyData.depthAll, a1, b1, Bool.and_self, Bool.true_and, Bool.and_true]
  exact decide_eq_true (by omega)
theorem dTwo_eqv (C S : Sheet) : PyData.eqv (dTwo C S) (dTwo C S) = true := by
  obtain ⟨_, _, a⟩ := dSheet_all C
  obtain ⟨_, _, b⟩ := dSheet_all S
  simp [dTwo, dSheet, PyData.eqv, PyData.eqvAll, a, b]
/-- unseen == 0 or low > unseen -/
theorem orv_law {σ : L2.St} {H : Hp} {Q : VK} {low : Int} {u : Nat} {b : Bool} (h7 : σ[7]? = some (some (.int low))) (h9 : σ[9]? = some (some (.int (u : Int)))) (hb : b = (decide ((u : Int) = 0) || decide (low > (u : Int)))) (h : Q (.bl b) H) :
    tOrV (tOp rEq (tVar 9) (L2.tC (.int 0))) (tOp (rI0 fun i j => .bl (decide (j < i))) (tVar 7) (tVar 9)) σ H Q := by
  refine ⟨_, h9, rfl, _, rfl, ite2 (fun c => ?_) (fun c => ?_)⟩
  · have e : (u : Int) = 0 := by simpa using c
    have : b = true := by rw [hb, decide_eq_true e, Bool.true_or]
    rw [← this]
    exact h
  · have e : ¬ (u : Int) = 0 := fun z => c (by rw [z]; rfl)
    refine ⟨_, h7, _, h9, _, _, rfl, rfl, ?_⟩
    have : b = decide ((u : Int) < low) := by rw [hb, decide_eq_false e, Bool.false_or]
    show Q (.bl (decide ((u : Int) < low))) H
    rw [← this]
    exact h
def sp_law (K : PySem.W.Frag) : Sp := fun vs H Q _ => ∃ (v : V) (xs : List Int), vs = [v] ∧ rScr K H v xs ∧ Tabs (tT K) H ∧ ∀ H', Q (.bl true) H'
abbrev N_law : List Str := ["_law_script", "_law_hands", "_law_seats", "_law_lots_here", "_law_sheet_here", "_law_way", "_law_margin", "_law_low", "_law_cell_here", "_law_unseen", "_law_slip_here", "_law_number_here", "_law_seen_here", "_law_other", "_law_outcome", "_law_lent", "_law_found"]
theorem sc_law : FnScope N_law ["_law_script"] (defScope s_law) := ⟨rfl, rfl, rfl, by decide +kernel, rfl, by decide +kernel, by decide +kernel⟩
theorem ok_law (T : Tx K mg) (TB : TabB base mg (He.cT K leastAt).1 (He.cT K leastAt).2) {fd : FuncData} (F : FnD K d_law fd) : FnOk P w K mg base CX0 12 (He.fAd K d_law.at_) fd ["_law_script"] (sp_law K) := by
  have nd := sc_law.nd
  refine okx F sc_law (fun vs H Q E h => ?_) (fun cdv A outer s H vs Q E hr h => ?_)
  · obtain ⟨v, xs, rfl, _⟩ := h
    rfl
  · obtain ⟨v, xs, rfl, scr, tab, q⟩ := h
    refine ⟨_, (pss_cons (ps_asg (pc_L_hall T (hr.mono (by decide)) (by rfl) (pa_cons (pv 0) pa_nil)) (pg_tup rfl (pgs_cons (pg_name (i := 1) nd rfl (Or.inl rfl)) (pgs_cons (pg_name (i := 2) nd rfl (Or.inl rfl)) (pgs_cons (pg_name (i := 3) nd rfl (Or.inl rfl)) (pgs_cons (pg_name (i := 4) nd rfl (Or.inl rfl)) pgs_nil))))))
      (pss_cons (ps_set (i := 5) nd rfl (Or.inl rfl) (pm_Seats T (hr.mono (by decide)) (by rfl) (pa_cons (pv 1) (pa_cons (pv 2) (pa_cons (pe_callTy call_list_of (by rfl) (T.free 60 rfl) (by decide +kernel) (pa_cons (pv 3) pa_nil)) pa_nil)))))
      (pss_cons (ps_set (i := 6) nd rfl (Or.inl rfl) (pm_SeatsMargin T (hr.mono (by decide)) (by rfl) (pa_cons (pm_Seats T (hr.mono (by decide)) (by rfl) (pa_cons (pv 1) (pa_cons (pv 2) (pa_cons (pe_callTy call_list_of (by rfl) (T.free 60 rfl) (by decide +kernel) (pa_cons (pv 3) pa_nil)) pa_nil)))) pa_nil)))
      (pss_cons (ps_set (i := 7) nd rfl (Or.inl rfl) (pe_ix ix_tup (pq_SeatsMargin_least T TB (hr.mono (by decide)) (pv 6) (pa_cons (pe_fz (pe_callTy call_list_of (by rfl) (T.free 60 rfl) (by decide +kernel) (pa_cons (pv 4) pa_nil))) pa_nil)) pe_int (fun _ _ => rfl)))
      (pss_cons (ps_if (PW.pt (pw_or (pt_not (pt_val (pe_callB call_isi (by rfl) (T.free 65 rfl) (by decide +kernel) (pa_cons (pv 6) (pa_cons (pe_glob (v := .ref (He.ga K "Margin")) (by rfl) (T.glo 50 rfl) rfl) pa_nil))))) (pw_or (pt_not (pt_val (pc_L_whole T (hr.mono (by decide)) (by rfl) (pa_cons (pv 7) pa_nil)))) (pw_or1 (pt_cmpR op_lt (pv 7) pe_int (nomark _)))))) (pss_one (ps_ret pe_bl)) pss_nil)
      (pss_cons (ps_set (i := 8) nd rfl (Or.inl rfl) (pc_L_mixed T (hr.mono (by decide)) (by rfl) (pa_cons (pc_L_cell T (hr.mono (by decide)) (by rfl) (pa_cons (pv 0) (pa_cons pe_int pa_nil))) (pa_cons pe_int pa_nil))))
      (pss_cons (ps_set (i := 9) nd rfl (Or.inl rfl) (pe_ix ix_list (pe_lst (pa_cons (pe_op op_sub (pv 7) pe_int) (pa_cons (pe_op op_sub (pv 7) pe_int) (pa_cons (pv 7) (pa_cons (pe_op op_mod (pe_op op_fdivW (pv 8) pe_int) (pe_op op_mul pe_int (pv 7))) pa_nil))))) (pe_op op_mod (pv 8) pe_int) (fun _ _ => rfl)))
      (pss_cons (ps_set (i := 9) nd rfl (Or.inl rfl) (pe_callB (call_min2 rfl) (by rfl) (T.free 56 rfl) (by decide +kernel) (pa_cons (pv 9) (pa_cons (pe_callB (cr_sum rfl) (by rfl) (T.free 57 rfl) (by decide +kernel) (pa_cons (pe_lc (own := [("_law_slip_here", 10), ("_law_number_here", 11)]) (g := (gTup K 2 (gCons (gName 10) (gCons (gName 11) gNil)))) rfl nd (pi_list (pv 4)) (blkOk_by (N := N_law) (sc := defScope s_law) (by decide +kernel)) (fun _ _ _ _ _ => (pg_tup rfl (pgs_cons (pg_name (i := 10) nd rfl (Or.inl rfl)) (pgs_cons (pg_name (i := 11) nd rfl (Or.inl rfl)) pgs_nil)))) (fun _ _ _ _ _ => pts_nil) (fun _ _ _ _ _ => (pv 11))) pa_nil)) pa_nil))))
      (pss_cons (ps_set (i := 12) nd rfl (Or.inl rfl) (pc_L_seen T (hr.mono (by decide)) (by rfl) (pa_cons (pv 0) (pa_cons (pv 4) (pa_cons (pv 9) pa_nil)))))
      (pss_cons (ps_set (i := 13) nd rfl (Or.inl rfl) (pc_L_filled T (hr.mono (by decide)) (by rfl) (pa_cons (pv 0) (pa_cons (pv 12) (pa_cons (pv 1) (pa_cons (pv 9) pa_nil))))))
      (pss_cons (ps_set (i := 14) nd rfl (Or.inl rfl) (pq_Way_outcome T (hr.mono (by decide)) (pv 5) (pa_cons (pe_fz (pe_callTy call_list_of (by rfl) (T.free 60 rfl) (by decide +kernel) (pa_cons (pv 4) pa_nil))) pa_nil)))
      (pss_cons (ps_if (PW.pt (pw_and (pt_cmpR op_lt (pv 9) (pv 7) (nomark _)) (pw_and1 (pt_cmpR (op_neD hr.units) (pq_Way_outcome T (hr.mono (by decide)) (pv 5) (pa_cons (pe_fz (pe_callTy call_list_of (by rfl) (T.free 60 rfl) (by decide +kernel) (pa_cons (pv 13) pa_nil))) pa_nil)) (pv 14) (nomark _))))) (pss_one (ps_ret pe_bl)) pss_nil)
      (pss_cons (ps_set (i := 15) nd rfl (Or.inl rfl) (pe_lst (pa_cons (pe_fz (pe_callTy call_list_of (by rfl) (T.free 60 rfl) (by decide +kernel) (pa_cons (pv 12) pa_nil))) (pa_cons (pe_fz (pe_callTy call_list_of (by rfl) (T.free 60 rfl) (by decide +kernel) (pa_cons (pv 4) pa_nil))) pa_nil))))
      (pss_cons (ps_set (i := 16) nd rfl (Or.inl rfl) (pq_Margin_held T TB (hr.mono (by decide)) (pv 6) (pa_cons (pe_ix ix_list (pv 15) pe_int (fun _ _ => rfl)) (pa_cons (pv 9) (pa_cons (pe_ix ix_list (pv 15) pe_int (fun _ _ => rfl)) pa_nil)))))
      (pss_cons (ps_if (PW.pt (pw_or (pt_cmpR (op_neD hr.units) (pv 15) (pe_lst (pa_cons (pv 12) (pa_cons (pv 4) pa_nil))) (nomark _)) (pw_or (pt_not (pt_val (pe_callB call_isi (by rfl) (T.free 65 rfl) (by decide +kernel) (pa_cons (pv 16) (pa_cons (pe_bltn (v := .ty "bool") (u := .type "bool") (by rfl) (T.free 64 rfl) (by decide +kernel) rfl) pa_nil))))) (pw_or1 (pt_cmpR op_ne (pv 16) (pe_or (pe_cmpR op_eq (pv 9) pe_int (nomark _)) (pe_one (pe_cmpR op_gt (pv 7) (pv 9) (nomark _)))) (nomark _)))))) (pss_one (ps_ret pe_bl)) pss_nil)
      (pss_cons (ps_if (pt_cmpR op_eq (pv 1) pe_int (nomark _)) (pss_one (ps_ret pe_bl)) pss_nil)
      (pss_cons (ps_set (i := 16) nd rfl (Or.inl rfl) (pq_Margin_held T TB (hr.mono (by decide)) (pv 6) (pa_cons (pe_fz (pe_callTy call_list_of (by rfl) (T.free 60 rfl) (by decide +kernel) (pa_cons (pv 12) pa_nil))) (pa_cons (pv 9) (pa_cons (pe_fz (pe_callTy call_list_of (by rfl) (T.free 60 rfl) (by decide +kernel) (pa_cons (pv 13) pa_nil))) pa_nil)))))
      (pss_cons (ps_set (i := 7) nd rfl (Or.inl rfl) (pe_ix ix_tup (pq_SeatsMargin_least T TB (hr.mono (by decide)) (pm_SeatsMargin T (hr.mono (by decide)) (by rfl) (pa_cons (pv 5) pa_nil)) (pa_cons (pe_fz (pe_callTy call_list_of (by rfl) (T.free 60 rfl) (by decide +kernel) (pa_cons (pv 13) pa_nil))) pa_nil)) pe_int (fun _ _ => rfl)))
      (pss_one (ps_ret (pe_and (pe_callB call_isi (by rfl) (T.free 65 rfl) (by decide +kernel) (pa_cons (pv 16) (pa_cons (pe_bltn (v := .ty "bool") (u := .type "bool") (by rfl) (T.free 64 rfl) (by decide +kernel) rfl) pa_nil))) (pe_one (pe_cmpR op_eq (pv 16) (pe_or (pe_cmpR op_eq (pv 9) pe_int (nomark _)) (pe_one (pe_cmpR op_gt (pv 7) (pv 9) (nomark _)))) (nomark _)))))))))))))))))))))))), ?_⟩
    refine ⟨_, rfl, v, xs, rfl, scr, fun H1 t l sv W S s1 ht ok fz rS ndS lS t1 t2 pS => ?_⟩
    refine ⟨t, _, rfl, ht, rfl, _, _, rfl, _, _, rfl, _, _, rfl, _, _, rfl, rfl, ?_⟩
    -- way
    refine ⟨_, rfl, _, rfl, _, rfl, l, _, rfl, .inl fz.sq, fun l2 hl2 => ?_⟩
    have sl2 : Same H1 (upd H1 l2 (.lst (nats W.lots))) := Same.new hl2
    refine fun x dx hx hdx hne => ⟨x, l2, dx, W, rfl, upd_same, ?_, ok, fun H2 lw kp _ e fzw => ⟨rfl, ?_⟩⟩
    · rw [upd_ne (fun z => by rw [← z, upd_same] at hx; cases hx), upd_ne (fun z => by rw [← z, upd_same] at hdx; cases hdx), upd_same]
    have s2 := sl2.trans (made_same hx hdx kp)
    have way2 : WayAt K H2 x W := ⟨dx, lw, e, fzw⟩
    have s12 := s1.trans s2
    refine ⟨_, rfl, _, rfl, _, rfl, l, _, rfl, .inl (fz.keep (Keep.of s2)).sq, fun l3 hl3 => ?_⟩
    have sl3 : Same H2 (upd H2 l3 (.lst (nats W.lots))) := Same.new hl3
    refine fun x3 dx3 hx3 hdx3 hne3 => ⟨x3, l3, dx3, W, rfl, upd_same, ?_, ok, fun H3 lw3 kp3 _ e3 fzw3 => ⟨rfl, ?_⟩⟩
    · rw [upd_ne (fun z => by rw [← z, upd_same] at hx3; cases hx3), upd_ne (fun z => by rw [← z, upd_same] at hdx3; cases hdx3), upd_same]
    have s3 := sl3.trans (made_same hx3 hdx3 kp3)
    have way3 : WayAt K H3 x3 W := ⟨dx3, lw3, e3, fzw3⟩
    refine fun m dm hm hdm hnm => ⟨m, x3, dm, rfl, upd_same, fun H4 kp4 e4 => ⟨rfl, ?_⟩⟩
    have s4 : Same H3 H4 := made_same hm hdm kp4
    have mar4 : MarAt K H4 m W := ⟨dm, x3, e4, way3.same s4⟩
    have way4 := way2.same (s3.trans s4)
    have s14 := s2.trans (s3.trans s4)
    obtain ⟨ps, ys, rfl, fzS, relS⟩ := id rS
    have tab4 := tab.ext (s1.trans s14)
    have told := ok.told
    have t250 : total S ≤ 2 ^ 50 := Nat.le_trans t2 (by decide)
    refine ⟨_, rfl, mar4.meth (by decide +kernel) ⟨_, rfl, ps, ys, rfl, .inl (fzS.keep (Keep.of s14)).sq, fun c1 hc1 => ⟨c1, _, rfl, upd_same, fun o1 => ?_⟩⟩⟩
    have rS5 := copy_sheet (o := o1) hc1 (paired_mono (fun _ _ z => (rPair_stays rSlip_stays rNat_stays).k (Keep.of s14) z) relS)
    have s5 : Same H4 (upd (upd H4 c1 (.lst ys)) c1 (.frz o1 (.lst ys))) := by rw [upd_upd]; exact Same.new hc1
    refine ⟨m, .ref c1, W, S, rfl, mar4.same s5, ok, rS5, by omega, t250, tab4.ext s5, fun H6 t6 x6 low oA eN6 tab6 hsq6 iso isl => ?_⟩
    have eN := (ExtN.of s5).trans eN6
    have mar6 := mar4.ext eN
    have way6 := way4.ext eN
    have low1 : 1 ≤ low := low_pos told iso isl
    have eN16 := (ExtN.of s14).trans eN
    have kp16 : Keep H1 H6 := ⟨fun b xs e => eN16 b _ e (fun ps z => nomatch z), fun b o u e => eN16 b _ e (fun ps z => nomatch z)⟩
    have scr6 : rScr K H6 v xs := scr_ext ((ExtN.of s1).trans eN16) scr
    have rS6 : rSheet K H6 (.ref ps) S := rSheet_stays.k kp16 rS
    refine ⟨t6, _, _, _, rfl, rfl, hsq6, rfl, ?_⟩
    refine ⟨_, rfl, _, _, _, _, true, rfl, .own _, mar_is T mar6, mar_one T, true, rfl, iteF ?_⟩
    refine ⟨_, rfl, low, rfl, true, rfl, iteF ?_⟩
    refine ⟨_, rfl, _, _, rfl, rfl, _, rfl, ite2 (fun c => absurd (show low < 1 by simpa using c) (by omega)) (fun _ => ?_)⟩
    refine ⟨_, rfl, v, xs, 1, rfl, scr6, by decide, fun c c0 c1 => ⟨c, 10, rfl, c0, c1, by decide, fun r hr0 => ?_⟩⟩
    have eσ : (((((((L2.start N_law [v]).set 1 (some (V.int (W.hands : Int)))).set 2 (some (V.int (W.seats : Int)))).set 3 (some (V.ref l))).set 4 (some (V.ref ps))).set 5 (some (V.ref x))).set 6 (some (V.ref m))).set 7 (some (V.int low)) = [some v, some (V.int (W.hands : Int)), some (V.int (W.seats : Int)), some (V.ref l), some (V.ref ps), some (V.ref x), some (V.ref m), some (V.int low), none, none, none, none, none, none, none, none, none] := rfl
    rw [eσ]
    have dv4 : CDivW (r : Int) 4 := wide_div (b := 20) (by decide) (by decide) (by decide) (by decide)
    have mul2 : CMul 2 low := .inl ⟨by decide, by decide⟩
    refine ⟨_, rfl, _, _, rfl, rfl, _, rfl, _, _, rfl, rfl, _, rfl, _, rfl, _, _, rfl, rfl, dv4, _, rfl, _, _, rfl, rfl, mul2, _, _, rfl, rfl, (by show (0 : Int) < 2 * low; omega), (by show 4 ≤ sizeLine; decide), fun b7 hb7 => ?_⟩
    have e4 : (r : Int) % 4 = ((r % 4 : Nat) : Int) := by push_cast; rfl
    obtain ⟨uz, huz⟩ : ∃ uz : Nat, atI [V.int (low - 1), V.int (low - 1), V.int low, V.int ((r : Int) / 4 % (2 * low))] ((r : Int) % 4) = some (.int (uz : Int)) := by
      rw [e4]
      have hm := Int.emod_nonneg ((r : Int) / 4) (show 2 * low ≠ 0 by omega)
      rcases (by omega : r % 4 = 0 ∨ r % 4 = 1 ∨ r % 4 = 2 ∨ r % 4 = 3) with h | h | h | h
      · exact ⟨(low - 1).toNat, by rw [h, Int.toNat_of_nonneg (by omega)]; rfl⟩
      · exact ⟨(low - 1).toNat, by rw [h, Int.toNat_of_nonneg (by omega)]; rfl⟩
      · exact ⟨low.toNat, by rw [h, Int.toNat_of_nonneg (by omega)]; rfl⟩
      · exact ⟨((r : Int) / 4 % (2 * low)).toNat, by rw [h, Int.toNat_of_nonneg hm]; rfl⟩
    refine ⟨_, rfl, _, _, rfl, rfl, (by show (0 : Int) < 4; decide), b7, _, _, _, rfl, rfl, SqL.of upd_same, huz, ?_⟩
    have s67 : Same H6 (upd H6 b7 (.lst [V.int (low - 1), V.int (low - 1), V.int low, V.int ((r : Int) / 4 % (2 * low))])) := Same.new hb7
    generalize upd H6 b7 (.lst [V.int (low - 1), V.int (low - 1), V.int low, V.int ((r : Int) / 4 % (2 * low))]) = H7 at s67
    have rS7 := rSheet_stays.k (Keep.of s67) rS6
    obtain ⟨_, ys7, ex, fz7, rel7⟩ := id rS7
    cases ex
    have lS7 := paired_len rel7
    refine ⟨_, rfl, _, rfl, ps, rfl, ⟨_, fz7.sq⟩, fun D hD => lc_list (K := K) (a := ps) (xs := ys7) (fun i H' => H' = upd H7 D (.lst (((S.map fun l => ((l.2 : Nat) : Int)).take i).map V.int))) rfl ?_ ?_ ?_⟩
    · rintro i H' _ rfl
      exact (fz7.keep (Keep.new hD)).sq
    · rintro i x H' hx rfl
      obtain ⟨l, hl, t, y, z, rfl, ht, hy, rfl⟩ := paired_get rel7 hx
      refine ⟨t, _, rfl, sqt_keep (Keep.new hD) ht, rfl, _, _, rfl, _, _, rfl, rfl, rfl, ?_⟩
      refine ⟨_, rfl, _, upd_same, ?_, ?_⟩
      · rw [List.length_map, List.length_take, List.length_map]
        exact small1000 (by omega)
      · rw [upd_upd]
        have e : (S.map fun l => ((l.2 : Nat) : Int))[i]? = some ((l.2 : Nat) : Int) := by rw [List.getElem?_map, hl]; rfl
        rw [take_snoc e, List.map_append]
        rfl
    rintro H' rfl
    refine ⟨D, S.map fun l => ((l.2 : Nat) : Int), rfl, ?_, ?_⟩
    · rw [lS7, show S.length = (S.map fun l => ((l.2 : Nat) : Int)).length by rw [List.length_map], List.take_length]
      exact SqL.of upd_same
    have sD : Same H7 (upd H7 D (.lst (((S.map fun l => ((l.2 : Nat) : Int)).take ys7.length).map V.int))) := Same.new hD
    generalize upd H7 D (.lst (((S.map fun l => ((l.2 : Nat) : Int)).take ys7.length).map V.int)) = H8 at sD
    rw [total_sum]
    have s68 := s67.trans sD
    have eu : (if ((total S : Nat) : Int) < (uz : Int) then ((total S : Nat) : Int) else (uz : Int)) = ((min (total S) uz : Nat) : Int) := by split <;> omega
    have hu : min (total S) uz ≤ total S := Nat.min_le_left _ _
    refine ⟨_, _, rfl, ?_⟩
    have l1 : 1 ≤ S.length := by
      cases S with
      | nil => simp [total] at t1
      | cons a b => simp
    refine ⟨_, rfl, _, rfl, _, rfl, v, .ref ps, xs, S, min (total S) uz, congrArg (fun z => [v, V.ref ps, V.int z]) eu, scr6.same s68, rSheet_stays.k (Keep.of s68) rS6, ndS, l1, lS, hu, fun H9 cv C s9 rC ndC lC tC wC => ?_⟩
    refine ⟨_, rfl, _, rfl, _, rfl, _, rfl, v, cv, xs, C, W.hands, min (total S) uz, congrArg (fun z => [v, cv, V.int (W.hands : Int), V.int z]) eu, scr6.same (s68.trans s9), rC, ndC, by omega, by have := ok.s1; have := ok.sh; omega, by have := ok.h4; omega, by omega, fun H10 bv B s10 rB ndB lB tB wB => ?_⟩
    have eσ2 : (((([some v, some (V.int (W.hands : Int)), some (V.int (W.seats : Int)), some (V.ref l), some (V.ref ps), some (V.ref x), some (V.ref m), some (V.int low), none, none, none, none, none, none, none, none, none].set 8 (some (V.int (r : Int)))).set 9 (some (V.int (uz : Int)))).set 9 (some (V.int (if ((total S : Nat) : Int) < (uz : Int) then ((total S : Nat) : Int) else (uz : Int))))).set 12 (some cv)) = [some v, some (V.int (W.hands : Int)), some (V.int (W.seats : Int)), some (V.ref l), some (V.ref ps), some (V.ref x), some (V.ref m), some (V.int low), some (V.int (r : Int)), some (V.int (if ((total S : Nat) : Int) < (uz : Int) then ((total S : Nat) : Int) else (uz : Int))), none, none, some cv, none, none, none, none] := rfl
    rw [eσ2, eu]
    generalize hU : min (total S) uz = u at *
    have s610 := (s68.trans s9).trans s10
    have way10 := way6.same s610
    have mar10 := mar6.same s610
    have rS10 := rSheet_stays.k (Keep.of s610) rS6
    have rC10 := rSheet_stays.k (Keep.of s10) rC
    have tab10 := tab6.ext s610
    have tB250 : total B ≤ 2 ^ 50 := by omega
    have tB1 : 1 ≤ total B := by omega
    have df := differ_of tC tB wC wB
    obtain ⟨_, ys10, ex, fz10, rel10⟩ := id rS10
    cases ex
    refine ⟨_, rfl, way10.meth (by decide +kernel) (by decide +kernel) (by decide +kernel) ⟨_, rfl, ps, ys10, rfl, .inl fz10.sq, fun c2 hc2 => ⟨c2, _, rfl, upd_same, fun o2 => ?_⟩⟩⟩
    have rS11 := copy_sheet (o := o2) hc2 rel10
    have s11 : Same H10 (upd (upd H10 c2 (.lst ys10)) c2 (.frz o2 (.lst ys10))) := by rw [upd_upd]; exact Same.new hc2
    refine ⟨x, .ref c2, W, S, rfl, way10.same s11, ok, rS11, by omega, t250, fun H12 ua oA' s12' rlA isoA => ?_⟩
    have e : oA' = oA := outcome_one told isoA iso
    subst e
    have s1012 := s11.trans s12'
    have eσ3 : [some v, some (V.int (W.hands : Int)), some (V.int (W.seats : Int)), some (V.ref l), some (V.ref ps), some (V.ref x), some (V.ref m), some (V.int low), some (V.int (r : Int)), some (V.int (u : Int)), none, none, some cv, none, none, none, none].set 13 (some bv) = [some v, some (V.int (W.hands : Int)), some (V.int (W.seats : Int)), some (V.ref l), some (V.ref ps), some (V.ref x), some (V.ref m), some (V.int low), some (V.int (r : Int)), some (V.int (u : Int)), none, none, some cv, some bv, none, none, none] := rfl
    rw [eσ3]
    refine ⟨_, rfl, _, rfl, _, _, rfl, rfl, _, rfl, ite2 (fun hc => ?_) (fun hc => iteF ?_)⟩
    · have hul : (u : Int) < low := by simpa using hc
      have s12 := s610.trans s1012
      have way12 := way6.same s12
      have rB12 := rSheet_stays.k (Keep.of s1012) rB
      obtain ⟨pb, yb, rfl, fzB, relB⟩ := id rB12
      refine ⟨_, rfl, way12.meth (by decide +kernel) (by decide +kernel) (by decide +kernel) ⟨_, rfl, pb, yb, rfl, .inl fzB.sq, fun c3 hc3 => ⟨c3, _, rfl, upd_same, fun o3 => ?_⟩⟩⟩
      have rB13 := copy_sheet (o := o3) hc3 relB
      have s13 : Same H12 (upd (upd H12 c3 (.lst yb)) c3 (.frz o3 (.lst yb))) := by rw [upd_upd]; exact Same.new hc3
      refine ⟨x, .ref c3, W, B, rfl, way12.same s13, ok, rB13, by omega, tB250, fun H14 ub oB s14' rlB isoB => ?_⟩
      have s1214 := s13.trans s14'
      have e : oA' = oB := fewer df isoB isl hul
      obtain ⟨pa, ya, rfl, fzA, relA⟩ := id rlA
      obtain ⟨pq, yq, rfl, fzQ, relQ⟩ := id rlB
      refine ⟨_, rfl, dInts oB, dInts oA', .lst fzQ.sq (ints_dp relQ), .lst (fzA.keep (Keep.of s1214)).sq (ints_dp relA), dInts_shaped _, dInts_shaped _, ?_⟩
      rw [dInts_eqv, ← e, decide_eq_true rfl]
      refine ⟨_, rfl, iteF ?_⟩
      have sH := s12.trans s1214
      have sC := (s10.trans s1012).trans s1214
      have sB := s1012.trans s1214
      have way12 := way6.same sH
      have mar12 := mar6.same sH
      have tab12 := tab6.ext sH
      have rS12 := rSheet_stays.k (Keep.of sH) rS6
      have rC12 := rSheet_stays.k (Keep.of sC) rC
      have rB12 := rSheet_stays.k (Keep.of sB) rB
      obtain ⟨pc, yc, rfl, fzC, relC⟩ := id rC12
      obtain ⟨_, yb2, ex, fzB2, relB2⟩ := id rB12
      cases ex
      obtain ⟨_, y2, ex, fzS2, relS2⟩ := id rS12
      cases ex
      refine ⟨_, rfl, pc, yc, rfl, .inl fzC.sq, fun a1 h1 => ⟨a1, _, rfl, upd_same, fun oa => ?_⟩⟩
      have cC := copy_sheet (o := oa) h1 relC
      have sa : Same H14 (upd (upd H14 a1 (.lst yc)) a1 (.frz oa (.lst yc))) := by rw [upd_upd]; exact Same.new h1
      generalize upd (upd H14 a1 (.lst yc)) a1 (.frz oa (.lst yc)) = Ha at cC sa
      refine ⟨_, rfl, ps, y2, rfl, .inl (fzS2.keep (Keep.of sa)).sq, fun a2 h2 => ⟨a2, _, rfl, upd_same, fun ob => ?_⟩⟩
      have cS := copy_sheet (o := ob) h2 (paired_mono (fun _ _ z => (rPair_stays rSlip_stays rNat_stays).k (Keep.of sa) z) relS2)
      have sb : Same Ha (upd (upd Ha a2 (.lst y2)) a2 (.frz ob (.lst y2))) := by rw [upd_upd]; exact Same.new h2
      generalize upd (upd Ha a2 (.lst y2)) a2 (.frz ob (.lst y2)) = Hb at cS sb
      refine ⟨(by show 2 ≤ sizeLine; decide), fun lt hlt => ?_⟩
      have sc : Same Hb (upd Hb lt (.lst [.ref a1, .ref a2])) := Same.new hlt
      have hlt2 : (upd Hb lt (.lst [.ref a1, .ref a2])) lt = some (.lst [.ref a1, .ref a2]) := upd_same
      generalize upd Hb lt (.lst [.ref a1, .ref a2]) = Hc at sc hlt2
      have cC := rSheet_stays.k (Keep.of (sb.trans sc)) cC
      have cS := rSheet_stays.k (Keep.of sc) cS
      have sHc := (sa.trans sb).trans sc
      refine ⟨_, rfl, (mar12.same sHc).meth (by decide +kernel) ⟨_, rfl, lt, _, _, _, rfl, rfl, SqL.of hlt2, rfl, _, rfl, _, rfl, lt, _, _, _, rfl, rfl, SqL.of hlt2, rfl, ?_⟩⟩
      refine ⟨m, .ref a1, .ref a2, W, S, u, rfl, mar12.same sHc, ok, cS, by omega, t250, tab12.ext sHc, fun Hd b eNd tabd his => ?_⟩
      have hb := held_law told his t1 iso isl
      refine ⟨_, rfl, _, rfl, _, rfl, (by show 2 ≤ sizeLine; decide), fun q0 hq => ?_⟩
      have sq : Same Hd (upd Hd q0 (.lst [.ref pc, .ref ps])) := Same.new hq
      have hq2 : (upd Hd q0 (.lst [.ref pc, .ref ps])) q0 = some (.lst [.ref pc, .ref ps]) := upd_same
      generalize upd Hd q0 (.lst [.ref pc, .ref ps]) = He1 at sq hq2
      have hltE : He1 lt = some (.lst [.ref a1, .ref a2]) := sq _ _ (eNd _ _ hlt2 (fun ps z => nomatch z))
      have kE : Keep Hc He1 := (keep_ext eNd).trans (Keep.of sq)
      have kH : Keep H14 He1 := (Keep.of sHc).trans kE
      refine ⟨dTwo C S, dTwo C S, .lst (SqL.of hltE) (.cons (sheet_dp (rSheet_stays.k kE cC)) (.cons (sheet_dp (rSheet_stays.k kE cS)) .nil)), .lst (SqL.of hq2) (.cons (sheet_dp (rSheet_stays.k kH rC12)) (.cons (sheet_dp (rSheet_stays.k kH rS12)) .nil)), dTwo_shaped C S, dTwo_shaped C S, _, rfl, ?_⟩
      rw [dTwo_eqv]
      refine iteF ?_
      refine ⟨_, rfl, _, _, _, _, true, rfl, .ty _, .base (.bl b), kit_ty (by decide +kernel), true, rfl, iteF ?_⟩
      refine ⟨_, rfl, orv_law rfl rfl hb ⟨rfl, _, rfl, ?_⟩⟩
      rw [decide_eq_true (rfl : V.bl b = V.bl b)]
      refine iteF ?_
      refine ⟨_, rfl, rfl, _, rfl, ite2 (fun _ => q _) (fun _ => ?_)⟩
      have eE : ExtN H14 He1 := ((ExtN.of sHc).trans eNd).trans (ExtN.of sq)
      have marE := mar12.ext eE
      have wayE := way12.ext eE
      have tabE := tabd.ext sq
      have rCE := rSheet_stays.k kH rC12
      have rBE := rSheet_stays.k kH rB12
      clear hq2 hltE kE kH eE hq hlt2
      obtain ⟨_, yc3, ex, fzC3, relC3⟩ := id rCE
      cases ex
      refine ⟨_, rfl, marE.meth (by decide +kernel) ⟨_, rfl, pc, yc3, rfl, .inl fzC3.sq, fun a3 h3 => ⟨a3, _, rfl, upd_same, fun oc => ?_⟩⟩⟩
      have sf : Same He1 (upd (upd He1 a3 (.lst yc3)) a3 (.frz oc (.lst yc3))) := by rw [upd_upd]; exact Same.new h3
      generalize upd (upd He1 a3 (.lst yc3)) a3 (.frz oc (.lst yc3)) = Hf at sf
      have rBf := rSheet_stays.k (Keep.of sf) rBE
      obtain ⟨_, yb3, ex, fzB3, relB3⟩ := id rBf
      cases ex
      refine ⟨_, rfl, _, rfl, pb, yb3, rfl, .inl fzB3.sq, fun a4 h4 => ⟨a4, _, rfl, upd_same, fun od => ?_⟩⟩
      have cB := copy_sheet (o := od) h4 relB3
      have sg : Same Hf (upd (upd Hf a4 (.lst yb3)) a4 (.frz od (.lst yb3))) := by rw [upd_upd]; exact Same.new h4
      generalize upd (upd Hf a4 (.lst yb3)) a4 (.frz od (.lst yb3)) = Hg at cB sg
      have seg := sf.trans sg
      refine ⟨m, .ref a3, .ref a4, W, B, u, rfl, marE.same seg, ok, cB, by omega, tB250, tabE.ext seg, fun Hi b2 eNi tabi his2 => ?_⟩
      have eEi := (ExtN.of seg).trans eNi
      have wayI := wayE.ext eEi
      have rBI := rSheet_stays.k (keep_ext eEi) rBE
      refine ⟨_, rfl, fun m2 dm2 hm2 hdm2 hnm2 => ⟨m2, x, dm2, rfl, upd_same, fun Hj kpj ej => ⟨rfl, ?_⟩⟩⟩
      have sj : Same Hi Hj := made_same hm2 hdm2 kpj
      have marJ : MarAt K Hj m2 W := ⟨dm2, x, ej, wayI.same sj⟩
      have rBJ := rSheet_stays.k (Keep.of sj) rBI
      obtain ⟨_, yb4, ex, fzB4, relB4⟩ := id rBJ
      cases ex
      refine marJ.meth (by decide +kernel) ⟨_, rfl, pb, yb4, rfl, .inl fzB4.sq, fun a5 h5 => ⟨a5, _, rfl, upd_same, fun oe => ?_⟩⟩
      have cB5 := copy_sheet (o := oe) h5 relB4
      have sk : Same Hj (upd (upd Hj a5 (.lst yb4)) a5 (.frz oe (.lst yb4))) := by rw [upd_upd]; exact Same.new h5
      generalize upd (upd Hj a5 (.lst yb4)) a5 (.frz oe (.lst yb4)) = Hk at cB5 sk
      refine ⟨m2, .ref a5, W, B, rfl, marJ.same sk, ok, cB5, by omega, tB250, tabi.ext (sj.trans sk), fun Hl t8 x8 low8 o8 eN8 tab8 hsq8 iso8 isl8 => ?_⟩
      refine ⟨t8, _, _, _, rfl, rfl, hsq8, rfl, ?_⟩
      have hb2 := held_law told his2 tB1 iso8 isl8
      refine ⟨_, rfl, _, _, _, _, true, rfl, .ty _, .base (.bl b2), kit_ty (by decide +kernel), true, rfl, iteT ⟨_, rfl, orv_law rfl rfl hb2 ⟨rfl, ?_⟩⟩⟩
      rw [decide_eq_true (rfl : V.bl b2 = V.bl b2)]
      exact q _
    · have sH := s610.trans s1012
      have sC := s10.trans s1012
      have sB := s1012
      have way12 := way6.same sH
      have mar12 := mar6.same sH
      have tab12 := tab6.ext sH
      have rS12 := rSheet_stays.k (Keep.of sH) rS6
      have rC12 := rSheet_stays.k (Keep.of sC) rC
      have rB12 := rSheet_stays.k (Keep.of sB) rB
      obtain ⟨pc, yc, rfl, fzC, relC⟩ := id rC12
      obtain ⟨pb, yb, rfl, fzB, relB⟩ := id rB12
      obtain ⟨_, y2, ex, fzS2, relS2⟩ := id rS12
      cases ex
      refine ⟨_, rfl, pc, yc, rfl, .inl fzC.sq, fun a1 h1 => ⟨a1, _, rfl, upd_same, fun oa => ?_⟩⟩
      have cC := copy_sheet (o := oa) h1 relC
      have sa : Same H12 (upd (upd H12 a1 (.lst yc)) a1 (.frz oa (.lst yc))) := by rw [upd_upd]; exact Same.new h1
      generalize upd (upd H12 a1 (.lst yc)) a1 (.frz oa (.lst yc)) = Ha at cC sa
      refine ⟨_, rfl, ps, y2, rfl, .inl (fzS2.keep (Keep.of sa)).sq, fun a2 h2 => ⟨a2, _, rfl, upd_same, fun ob => ?_⟩⟩
      have cS := copy_sheet (o := ob) h2 (paired_mono (fun _ _ z => (rPair_stays rSlip_stays rNat_stays).k (Keep.of sa) z) relS2)
      have sb : Same Ha (upd (upd Ha a2 (.lst y2)) a2 (.frz ob (.lst y2))) := by rw [upd_upd]; exact Same.new h2
      generalize upd (upd Ha a2 (.lst y2)) a2 (.frz ob (.lst y2)) = Hb at cS sb
      refine ⟨(by show 2 ≤ sizeLine; decide), fun lt hlt => ?_⟩
      have sc : Same Hb (upd Hb lt (.lst [.ref a1, .ref a2])) := Same.new hlt
      have hlt2 : (upd Hb lt (.lst [.ref a1, .ref a2])) lt = some (.lst [.ref a1, .ref a2]) := upd_same
      generalize upd Hb lt (.lst [.ref a1, .ref a2]) = Hc at sc hlt2
      have cC := rSheet_stays.k (Keep.of (sb.trans sc)) cC
      have cS := rSheet_stays.k (Keep.of sc) cS
      have sHc := (sa.trans sb).trans sc
      refine ⟨_, rfl, (mar12.same sHc).meth (by decide +kernel) ⟨_, rfl, lt, _, _, _, rfl, rfl, SqL.of hlt2, rfl, _, rfl, _, rfl, lt, _, _, _, rfl, rfl, SqL.of hlt2, rfl, ?_⟩⟩
      refine ⟨m, .ref a1, .ref a2, W, S, u, rfl, mar12.same sHc, ok, cS, by omega, t250, tab12.ext sHc, fun Hd b eNd tabd his => ?_⟩
      have hb := held_law told his t1 iso isl
      refine ⟨_, rfl, _, rfl, _, rfl, (by show 2 ≤ sizeLine; decide), fun q0 hq => ?_⟩
      have sq : Same Hd (upd Hd q0 (.lst [.ref pc, .ref ps])) := Same.new hq
      have hq2 : (upd Hd q0 (.lst [.ref pc, .ref ps])) q0 = some (.lst [.ref pc, .ref ps]) := upd_same
      generalize upd Hd q0 (.lst [.ref pc, .ref ps]) = He1 at sq hq2
      have hltE : He1 lt = some (.lst [.ref a1, .ref a2]) := sq _ _ (eNd _ _ hlt2 (fun ps z => nomatch z))
      have kE : Keep Hc He1 := (keep_ext eNd).trans (Keep.of sq)
      have kH : Keep H12 He1 := (Keep.of sHc).trans kE
      refine ⟨dTwo C S, dTwo C S, .lst (SqL.of hltE) (.cons (sheet_dp (rSheet_stays.k kE cC)) (.cons (sheet_dp (rSheet_stays.k kE cS)) .nil)), .lst (SqL.of hq2) (.cons (sheet_dp (rSheet_stays.k kH rC12)) (.cons (sheet_dp (rSheet_stays.k kH rS12)) .nil)), dTwo_shaped C S, dTwo_shaped C S, _, rfl, ?_⟩
      rw [dTwo_eqv]
      refine iteF ?_
      refine ⟨_, rfl, _, _, _, _, true, rfl, .ty _, .base (.bl b), kit_ty (by decide +kernel), true, rfl, iteF ?_⟩
      refine ⟨_, rfl, orv_law rfl rfl hb ⟨rfl, _, rfl, ?_⟩⟩
      rw [decide_eq_true (rfl : V.bl b = V.bl b)]
      refine iteF ?_
      refine ⟨_, rfl, rfl, _, rfl, ite2 (fun _ => q _) (fun _ => ?_)⟩
      have eE : ExtN H12 He1 := ((ExtN.of sHc).trans eNd).trans (ExtN.of sq)
      have marE := mar12.ext eE
      have wayE := way12.ext eE
      have tabE := tabd.ext sq
      have rCE := rSheet_stays.k kH rC12
      have rBE := rSheet_stays.k kH rB12
      clear hq2 hltE kE kH eE hq hlt2
      obtain ⟨_, yc3, ex, fzC3, relC3⟩ := id rCE
      cases ex
      refine ⟨_, rfl, marE.meth (by decide +kernel) ⟨_, rfl, pc, yc3, rfl, .inl fzC3.sq, fun a3 h3 => ⟨a3, _, rfl, upd_same, fun oc => ?_⟩⟩⟩
      have sf : Same He1 (upd (upd He1 a3 (.lst yc3)) a3 (.frz oc (.lst yc3))) := by rw [upd_upd]; exact Same.new h3
      generalize upd (upd He1 a3 (.lst yc3)) a3 (.frz oc (.lst yc3)) = Hf at sf
      have rBf := rSheet_stays.k (Keep.of sf) rBE
      obtain ⟨_, yb3, ex, fzB3, relB3⟩ := id rBf
      cases ex
      refine ⟨_, rfl, _, rfl, pb, yb3, rfl, .inl fzB3.sq, fun a4 h4 => ⟨a4, _, rfl, upd_same, fun od => ?_⟩⟩
      have cB := copy_sheet (o := od) h4 relB3
      have sg : Same Hf (upd (upd Hf a4 (.lst yb3)) a4 (.frz od (.lst yb3))) := by rw [upd_upd]; exact Same.new h4
      generalize upd (upd Hf a4 (.lst yb3)) a4 (.frz od (.lst yb3)) = Hg at cB sg
      have seg := sf.trans sg
      refine ⟨m, .ref a3, .ref a4, W, B, u, rfl, marE.same seg, ok, cB, by omega, tB250, tabE.ext seg, fun Hi b2 eNi tabi his2 => ?_⟩
      have eEi := (ExtN.of seg).trans eNi
      have wayI := wayE.ext eEi
      have rBI := rSheet_stays.k (keep_ext eEi) rBE
      refine ⟨_, rfl, fun m2 dm2 hm2 hdm2 hnm2 => ⟨m2, x, dm2, rfl, upd_same, fun Hj kpj ej => ⟨rfl, ?_⟩⟩⟩
      have sj : Same Hi Hj := made_same hm2 hdm2 kpj
      have marJ : MarAt K Hj m2 W := ⟨dm2, x, ej, wayI.same sj⟩
      have rBJ := rSheet_stays.k (Keep.of sj) rBI
      obtain ⟨_, yb4, ex, fzB4, relB4⟩ := id rBJ
      cases ex
      refine marJ.meth (by decide +kernel) ⟨_, rfl, pb, yb4, rfl, .inl fzB4.sq, fun a5 h5 => ⟨a5, _, rfl, upd_same, fun oe => ?_⟩⟩
      have cB5 := copy_sheet (o := oe) h5 relB4
      have sk : Same Hj (upd (upd Hj a5 (.lst yb4)) a5 (.frz oe (.lst yb4))) := by rw [upd_upd]; exact Same.new h5
      generalize upd (upd Hj a5 (.lst yb4)) a5 (.frz oe (.lst yb4)) = Hk at cB5 sk
      refine ⟨m2, .ref a5, W, B, rfl, marJ.same sk, ok, cB5, by omega, tB250, tabi.ext (sj.trans sk), fun Hl t8 x8 low8 o8 eN8 tab8 hsq8 iso8 isl8 => ?_⟩
      refine ⟨t8, _, _, _, rfl, rfl, hsq8, rfl, ?_⟩
      have hb2 := held_law told his2 tB1 iso8 isl8
      refine ⟨_, rfl, _, _, _, _, true, rfl, .ty _, .base (.bl b2), kit_ty (by decide +kernel), true, rfl, iteT ⟨_, rfl, orv_law rfl rfl hb2 ⟨rfl, ?_⟩⟩⟩
      rw [decide_eq_true (rfl : V.bl b2 = V.bl b2)]
      exact q _
end
end K75
-- KHead
/-! the facts at the head's end. -/
namespace K75
open PySem PySem.Spec PyProof.Rows L2 LamX
theorem lawAt {w : World} {K : PySem.W.Frag} {h : Heap} {mg : Str → Option Value} {fa : Addr} (X : K.In h) (G : h.Ns mainGlobals mg) (hfa : mg ("law" : Str) = some (.ref fa)) (c : SaysY w h K) :
    LawAtS PySem.Challenge.rw_pollproof_k75_whole_fewer_change_nothing w K CX0 12 63 "_law_script" mg fa h := by
  have T : Tx K mg := ⟨c.t.d, c.more, h, X, G⟩
  obtain ⟨fd, F⟩ := T.says.def_ 49 (d := d_law) rfl
  have e := hfa.symm.trans (T.glo 49 rfl)
  cases e
  have b := FunD.bindsA (ps := ["_law_script"]) F fun _ _ _ _ _ _ us hl => match us, hl with | [_], _ => rfl
  refine ⟨fd, [He.cT K leastAt], sp_law K, fun p hp => c.empty leastAt (List.mem_singleton.mpr rfl) |> fun z => by rw [List.mem_singleton.mp hp]; exact z, fun p hp => ?_, fun p hp => ?_, fun s v => b s [v] rfl, fun H a ns hl _ hH hS => ?_, fun base _ _ TB => ok_law T (TB _ (List.mem_singleton.mpr rfl)) F⟩
  · rw [List.mem_singleton.mp hp]
    exact c.out leastAt (List.mem_singleton.mpr rfl)
  · rw [List.mem_singleton.mp hp]
    exact PySem.W.codeHd_of_K X (c.hd leastAt (List.mem_singleton.mpr rfl))
  · refine ⟨.ref a, ns, rfl, ⟨a, rfl, hS⟩, fun p hp => ?_, fun _ => rfl⟩
    rw [List.mem_singleton.mp hp]
    exact TabS.nil (hH _ (List.mem_singleton.mpr rfl))
end K75
set_option maxHeartbeats 0
-- KEnd
open PySem PySem.W PySem.Calls PyProof.Rows
theorem PySem.Challenge.cw_pollproof_k75_whole_fewer_change_nothing_holds : PySem.Challenge.rw_pollproof_k75_whole_fewer_change_nothing.Holds := by
  w_on; o_law
  refine HandSHeadRun.head_any (r := OpenLaw.row PySem.Challenge.rw_pollproof_k75_whole_fewer_change_nothing) (q := K75.viewK) (H := K75.hookK) (ob := K75.obsK) (M := 40000) (loose := K75.loose) (d := HandSHeadRun.topDef (OpenLaw.row PySem.Challenge.rw_pollproof_k75_whole_fewer_change_nothing).prog 84) (kwd := []) K75.obsK_eq
    (by kernel_rfl) (fun s => by kernel_rfl) K75.headRun (by kernel_rfl) (by kernel_rfl) (by kernel_rfl) (by rfl) (by first | assumption | decide +kernel) (by decide +kernel) ⟨rfl, rfl, rfl, rfl, rfl, by decide +kernel⟩ ?hw ?hc
  case hw => w_witness2
  case hc =>
    refine LamX.walk_ofTsE (l := PySem.Challenge.rw_pollproof_k75_whole_fewer_change_nothing) (n := 63) (k := 12) (x := "_law_script") (CX := fun _ => L2.CX0) rfl (by decide) (by kernel_rfl) ⟨rfl, by decide, by decide⟩ ?F (fun _ _ _ _ _ z => z)
    intro w mg fa h Y G hmg0
    obtain ⟨K, KX, c⟩ := Y
    have hmg : mg ("law" : PySem.Str) = some (.ref fa) := by
      have e : (HandSHeadRun.topDef (OpenLaw.row PySem.Challenge.rw_pollproof_k75_whole_fewer_change_nothing).prog 84).name = ("law" : PySem.Str) := by kernel_rfl
      rw [← e]
      exact hmg0
    exact ⟨K, KX, K75.lawAt KX G hmg c⟩
