import PyProof.Rows.All
import Wide.All
import OpenK.AllK
import Wide.FinOn
import KE.KStateDown
import HandS.ForExc
import HandS.Defaults
import HandS.Head0
import HandS.Head1
import HandS.Head2
import HandS.Head3
import HandS.HeadEnd
import HandS.HeadHook1
import HandS.HeadHook2
import HandS.HeadHook3
import HandS.HeadHook4
import HandS.ForMost
import HandS.Deep
import HandS.RevRange
import HandS.Gcd
import HandS.Wide
import HandS.IsInst
import HandS.TupAny
import HandS.TupMul
import HandS.Conv
import HandS.Codes
import HandS.Exc
import HandS.WordsExc
import HandS.SortInts
import HandS.OwnEq
import KE.DataMinMax
import KE.SortData
import KE.KTupSum
import KE.GoesEnum
import KE.GoesMore
import HandS.GenList
import HandS.Dict
import HandS.More
import PyProof.NeKinds
import HandS.ExcInit
import HandS.ExcField
import HandS.TryOnly
import PyProof.ListMulRoad
import PyProof.FactsAll.tuple_2
import HandS.Star
import PySem.Challenge.RW_jointsapart_k47_whole_one_couple_for_all
set_option Elab.async false
set_option linter.all false
set_option maxRecDepth 100000
set_option maxHeartbeats 0
namespace JA
open PySem PySem.Spec PyProof.Rows L2
def topS (i : Nat) : Stmt := PySem.Challenge.pw_jointsapart_k47_whole_one_couple_for_all.main.body.getD i (.Pass ⟨0, 0, 0, 0⟩)
abbrev s_is_whole : Stmt := topS 13
abbrev s_is_ratio : Stmt := topS 14
abbrev s_in_lowest_terms : Stmt := topS 15
abbrev s_make_ratio : Stmt := topS 16
abbrev s_plus : Stmt := topS 17
abbrev s_negative : Stmt := topS 18
abbrev s_minus : Stmt := topS 19
abbrev s_times : Stmt := topS 20
abbrev s_over : Stmt := topS 21
abbrev s_compare : Stmt := topS 22
abbrev s_greatest_of : Stmt := topS 23
abbrev s_check_pattern : Stmt := topS 27
abbrev s_pattern_counts : Stmt := topS 28
abbrev s_pattern_joints : Stmt := topS 29
abbrev s_check_brick_ratio : Stmt := topS 30
abbrev s_check_share : Stmt := topS 31
abbrev s_check_counts : Stmt := topS 32
abbrev s_row_after : Stmt := topS 33
abbrev s_patterns_of : Stmt := topS 34
abbrev s_goes_to : Stmt := topS 37
abbrev s_lesser_high : Stmt := topS 38
abbrev s_greater_high : Stmt := topS 39
abbrev s_merged_ends : Stmt := topS 40
abbrev s_either_stretches : Stmt := topS 41
abbrev s_both_stretches : Stmt := topS 42
abbrev s_kept_stretches : Stmt := topS 44
abbrev s_apart_stretches : Stmt := topS 45
abbrev s_gap_between : Stmt := topS 46
abbrev s_nearest_joints : Stmt := topS 47
abbrev s_share_at : Stmt := topS 48
abbrev s_differences_of : Stmt := topS 50
abbrev s_likely_couples : Stmt := topS 51
abbrev s_nearest_line : Stmt := topS 52
abbrev s_profile_borders : Stmt := topS 56
abbrev s_line_at : Stmt := topS 57
abbrev s_share_profile : Stmt := topS 58
abbrev s_profile_share : Stmt := topS 59
abbrev s_piece_stretches : Stmt := topS 60
abbrev s_couple_stretches : Stmt := topS 61
abbrev s_is_pattern : Stmt := topS 62
abbrev s_patterns_fault : Stmt := topS 63
abbrev s_last_whole : Stmt := topS 65
abbrev s_best_couple : Stmt := topS 66
abbrev s_is_worse : Stmt := topS 67
abbrev s_best_fault : Stmt := topS 68
abbrev s_law_hand : Stmt := topS 70
abbrev s_law_mix : Stmt := topS 71
abbrev s_law_draw : Stmt := topS 72
abbrev s_law_pick : Stmt := topS 73
abbrev s_law_gcd : Stmt := topS 74
abbrev s_law_ratio : Stmt := topS 75
abbrev s_law_cmp : Stmt := topS 76
abbrev s_law_mid : Stmt := topS 77
abbrev s_law_is_whole : Stmt := topS 78
abbrev s_law_is_ratio : Stmt := topS 79
abbrev s_law_share : Stmt := topS 80
abbrev s_law_counts : Stmt := topS 81
abbrev s_law_patterns : Stmt := topS 82
abbrev s_law_joints : Stmt := topS 83
abbrev s_law_steps : Stmt := topS 84
abbrev s_law_least : Stmt := topS 85
abbrev s_law_free : Stmt := topS 86
abbrev s_law_ascending : Stmt := topS 87
abbrev s_law_points : Stmt := topS 88
abbrev s_law_is_list : Stmt := topS 89
abbrev s_law_shuffled : Stmt := topS 90
abbrev s_law_equal_at : Stmt := topS 91
abbrev s_law_widest : Stmt := topS 92
abbrev s_law_is_row : Stmt := topS 93
abbrev s_law_couple_word : Stmt := topS 94
abbrev s_law_spoilt_couple : Stmt := topS 95
abbrev s_law_own_last : Stmt := topS 96
abbrev s_law_is_best : Stmt := topS 97
abbrev s_law_word : Stmt := topS 98
abbrev s_law_by_wholes : Stmt := topS 99
abbrev s_law_told_right : Stmt := topS 100
abbrev s_law_eight_right : Stmt := topS 101
abbrev s_law_door : Stmt := topS 102
abbrev s_law_refused : Stmt := topS 103
abbrev s_law : Stmt := topS 104
abbrev s_BadRatio_init : Stmt := inClass (topS 4) 0
abbrev s_BadPattern_init : Stmt := inClass (topS 5) 0
abbrev s_BadCounts_init : Stmt := inClass (topS 6) 0
abbrev s_BadShare_init : Stmt := inClass (topS 7) 0
abbrev s_BadBrickRatio_init : Stmt := inClass (topS 8) 0
abbrev s_BadStretch_init : Stmt := inClass (topS 9) 0
abbrev s_Stretch_init : Stmt := inClass (topS 36) 0
abbrev s_Stretch_eq : Stmt := inClass (topS 36) 2
abbrev s_Segment_init : Stmt := inClass (topS 55) 0
def d0 : He.DefD := ⟨("is_whole", none), "is_whole", "is_whole", defArgs s_is_whole, defBody s_is_whole, defScope s_is_whole, [.non, .non], []⟩
def d1 : He.DefD := ⟨("is_ratio", none), "is_ratio", "is_ratio", defArgs s_is_ratio, defBody s_is_ratio, defScope s_is_ratio, [], []⟩
def d2 : He.DefD := ⟨("in_lowest_terms", none), "in_lowest_terms", "in_lowest_terms", defArgs s_in_lowest_terms, defBody s_in_lowest_terms, defScope s_in_lowest_terms, [], []⟩
def d3 : He.DefD := ⟨("make_ratio", none), "make_ratio", "make_ratio", defArgs s_make_ratio, defBody s_make_ratio, defScope s_make_ratio, [.int 1], []⟩
def d4 : He.DefD := ⟨("plus", none), "plus", "plus", defArgs s_plus, defBody s_plus, defScope s_plus, [], []⟩
def d5 : He.DefD := ⟨("negative", none), "negative", "negative", defArgs s_negative, defBody s_negative, defScope s_negative, [], []⟩
def d6 : He.DefD := ⟨("minus", none), "minus", "minus", defArgs s_minus, defBody s_minus, defScope s_minus, [], []⟩
def d7 : He.DefD := ⟨("times", none), "times", "times", defArgs s_times, defBody s_times, defScope s_times, [], []⟩
def d8 : He.DefD := ⟨("over", none), "over", "over", defArgs s_over, defBody s_over, defScope s_over, [], []⟩
def d9 : He.DefD := ⟨("compare", none), "compare", "compare", defArgs s_compare, defBody s_compare, defScope s_compare, [], []⟩
def d10 : He.DefD := ⟨("greatest_of", none), "greatest_of", "greatest_of", defArgs s_greatest_of, defBody s_greatest_of, defScope s_greatest_of, [], []⟩
def d11 : He.DefD := ⟨("check_pattern", none), "check_pattern", "check_pattern", defArgs s_check_pattern, defBody s_check_pattern, defScope s_check_pattern, [], []⟩
def d12 : He.DefD := ⟨("pattern_counts", none), "pattern_counts", "pattern_counts", defArgs s_pattern_counts, defBody s_pattern_counts, defScope s_pattern_counts, [], []⟩
def d13 : He.DefD := ⟨("pattern_joints", none), "pattern_joints", "pattern_joints", defArgs s_pattern_joints, defBody s_pattern_joints, defScope s_pattern_joints, [], []⟩
def d14 : He.DefD := ⟨("check_brick_ratio", none), "check_brick_ratio", "check_brick_ratio", defArgs s_check_brick_ratio, defBody s_check_brick_ratio, defScope s_check_brick_ratio, [], []⟩
def d15 : He.DefD := ⟨("check_share", none), "check_share", "check_share", defArgs s_check_share, defBody s_check_share, defScope s_check_share, [], []⟩
def d16 : He.DefD := ⟨("check_counts", none), "check_counts", "check_counts", defArgs s_check_counts, defBody s_check_counts, defScope s_check_counts, [], []⟩
def d17 : He.DefD := ⟨("row_after", none), "row_after", "row_after", defArgs s_row_after, defBody s_row_after, defScope s_row_after, [], []⟩
def d18 : He.DefD := ⟨("patterns_of", none), "patterns_of", "patterns_of", defArgs s_patterns_of, defBody s_patterns_of, defScope s_patterns_of, [], []⟩
def d19 : He.DefD := ⟨("goes_to", none), "goes_to", "goes_to", defArgs s_goes_to, defBody s_goes_to, defScope s_goes_to, [], []⟩
def d20 : He.DefD := ⟨("lesser_high", none), "lesser_high", "lesser_high", defArgs s_lesser_high, defBody s_lesser_high, defScope s_lesser_high, [], []⟩
def d21 : He.DefD := ⟨("greater_high", none), "greater_high", "greater_high", defArgs s_greater_high, defBody s_greater_high, defScope s_greater_high, [], []⟩
def d22 : He.DefD := ⟨("merged_ends", none), "merged_ends", "merged_ends", defArgs s_merged_ends, defBody s_merged_ends, defScope s_merged_ends, [], []⟩
def d23 : He.DefD := ⟨("either_stretches", none), "either_stretches", "either_stretches", defArgs s_either_stretches, defBody s_either_stretches, defScope s_either_stretches, [], []⟩
def d24 : He.DefD := ⟨("both_stretches", none), "both_stretches", "both_stretches", defArgs s_both_stretches, defBody s_both_stretches, defScope s_both_stretches, [], []⟩
def d25 : He.DefD := ⟨("kept_stretches", none), "kept_stretches", "kept_stretches", defArgs s_kept_stretches, defBody s_kept_stretches, defScope s_kept_stretches, [], []⟩
def d26 : He.DefD := ⟨("apart_stretches", none), "apart_stretches", "apart_stretches", defArgs s_apart_stretches, defBody s_apart_stretches, defScope s_apart_stretches, [], []⟩
def d27 : He.DefD := ⟨("gap_between", none), "gap_between", "gap_between", defArgs s_gap_between, defBody s_gap_between, defScope s_gap_between, [], []⟩
def d28 : He.DefD := ⟨("nearest_joints", none), "nearest_joints", "nearest_joints", defArgs s_nearest_joints, defBody s_nearest_joints, defScope s_nearest_joints, [], []⟩
def d29 : He.DefD := ⟨("share_at", none), "share_at", "share_at", defArgs s_share_at, defBody s_share_at, defScope s_share_at, [], []⟩
def d30 : He.DefD := ⟨("differences_of", none), "differences_of", "differences_of", defArgs s_differences_of, defBody s_differences_of, defScope s_differences_of, [], []⟩
def d31 : He.DefD := ⟨("likely_couples", none), "likely_couples", "likely_couples", defArgs s_likely_couples, defBody s_likely_couples, defScope s_likely_couples, [], []⟩
def d32 : He.DefD := ⟨("nearest_line", none), "nearest_line", "nearest_line", defArgs s_nearest_line, defBody s_nearest_line, defScope s_nearest_line, [], []⟩
def d33 : He.DefD := ⟨("profile_borders", none), "profile_borders", "profile_borders", defArgs s_profile_borders, defBody s_profile_borders, defScope s_profile_borders, [], []⟩
def d34 : He.DefD := ⟨("line_at", none), "line_at", "line_at", defArgs s_line_at, defBody s_line_at, defScope s_line_at, [], []⟩
def d35 : He.DefD := ⟨("share_profile", none), "share_profile", "share_profile", defArgs s_share_profile, defBody s_share_profile, defScope s_share_profile, [], []⟩
def d36 : He.DefD := ⟨("profile_share", none), "profile_share", "profile_share", defArgs s_profile_share, defBody s_profile_share, defScope s_profile_share, [], []⟩
def d37 : He.DefD := ⟨("piece_stretches", none), "piece_stretches", "piece_stretches", defArgs s_piece_stretches, defBody s_piece_stretches, defScope s_piece_stretches, [], []⟩
def d38 : He.DefD := ⟨("couple_stretches", none), "couple_stretches", "couple_stretches", defArgs s_couple_stretches, defBody s_couple_stretches, defScope s_couple_stretches, [], []⟩
def d39 : He.DefD := ⟨("is_pattern", none), "is_pattern", "is_pattern", defArgs s_is_pattern, defBody s_is_pattern, defScope s_is_pattern, [], []⟩
def d40 : He.DefD := ⟨("patterns_fault", none), "patterns_fault", "patterns_fault", defArgs s_patterns_fault, defBody s_patterns_fault, defScope s_patterns_fault, [], []⟩
def d41 : He.DefD := ⟨("last_whole", none), "last_whole", "last_whole", defArgs s_last_whole, defBody s_last_whole, defScope s_last_whole, [], []⟩
def d42 : He.DefD := ⟨("best_couple", none), "best_couple", "best_couple", defArgs s_best_couple, defBody s_best_couple, defScope s_best_couple, [], []⟩
def d43 : He.DefD := ⟨("is_worse", none), "is_worse", "is_worse", defArgs s_is_worse, defBody s_is_worse, defScope s_is_worse, [], []⟩
def d44 : He.DefD := ⟨("best_fault", none), "best_fault", "best_fault", defArgs s_best_fault, defBody s_best_fault, defScope s_best_fault, [], []⟩
def d45 : He.DefD := ⟨("_law_hand", none), "_law_hand", "_law_hand", defArgs s_law_hand, defBody s_law_hand, defScope s_law_hand, [], []⟩
def d46 : He.DefD := ⟨("_law_mix", none), "_law_mix", "_law_mix", defArgs s_law_mix, defBody s_law_mix, defScope s_law_mix, [], []⟩
def d47 : He.DefD := ⟨("_law_draw", none), "_law_draw", "_law_draw", defArgs s_law_draw, defBody s_law_draw, defScope s_law_draw, [], []⟩
def d48 : He.DefD := ⟨("_law_pick", none), "_law_pick", "_law_pick", defArgs s_law_pick, defBody s_law_pick, defScope s_law_pick, [], []⟩
def d49 : He.DefD := ⟨("_law_gcd", none), "_law_gcd", "_law_gcd", defArgs s_law_gcd, defBody s_law_gcd, defScope s_law_gcd, [], []⟩
def d50 : He.DefD := ⟨("_law_ratio", none), "_law_ratio", "_law_ratio", defArgs s_law_ratio, defBody s_law_ratio, defScope s_law_ratio, [], []⟩
def d51 : He.DefD := ⟨("_law_cmp", none), "_law_cmp", "_law_cmp", defArgs s_law_cmp, defBody s_law_cmp, defScope s_law_cmp, [], []⟩
def d52 : He.DefD := ⟨("_law_mid", none), "_law_mid", "_law_mid", defArgs s_law_mid, defBody s_law_mid, defScope s_law_mid, [], []⟩
def d53 : He.DefD := ⟨("_law_is_whole", none), "_law_is_whole", "_law_is_whole", defArgs s_law_is_whole, defBody s_law_is_whole, defScope s_law_is_whole, [], []⟩
def d54 : He.DefD := ⟨("_law_is_ratio", none), "_law_is_ratio", "_law_is_ratio", defArgs s_law_is_ratio, defBody s_law_is_ratio, defScope s_law_is_ratio, [], []⟩
def d55 : He.DefD := ⟨("_law_share", none), "_law_share", "_law_share", defArgs s_law_share, defBody s_law_share, defScope s_law_share, [], []⟩
def d56 : He.DefD := ⟨("_law_counts", none), "_law_counts", "_law_counts", defArgs s_law_counts, defBody s_law_counts, defScope s_law_counts, [], []⟩
def d57 : He.DefD := ⟨("_law_patterns", none), "_law_patterns", "_law_patterns", defArgs s_law_patterns, defBody s_law_patterns, defScope s_law_patterns, [], []⟩
def d58 : He.DefD := ⟨("_law_joints", none), "_law_joints", "_law_joints", defArgs s_law_joints, defBody s_law_joints, defScope s_law_joints, [], []⟩
def d59 : He.DefD := ⟨("_law_steps", none), "_law_steps", "_law_steps", defArgs s_law_steps, defBody s_law_steps, defScope s_law_steps, [], []⟩
def d60 : He.DefD := ⟨("_law_least", none), "_law_least", "_law_least", defArgs s_law_least, defBody s_law_least, defScope s_law_least, [], []⟩
def d61 : He.DefD := ⟨("_law_free", none), "_law_free", "_law_free", defArgs s_law_free, defBody s_law_free, defScope s_law_free, [], []⟩
def d62 : He.DefD := ⟨("_law_ascending", none), "_law_ascending", "_law_ascending", defArgs s_law_ascending, defBody s_law_ascending, defScope s_law_ascending, [], []⟩
def d63 : He.DefD := ⟨("_law_points", none), "_law_points", "_law_points", defArgs s_law_points, defBody s_law_points, defScope s_law_points, [], []⟩
def d64 : He.DefD := ⟨("_law_is_list", none), "_law_is_list", "_law_is_list", defArgs s_law_is_list, defBody s_law_is_list, defScope s_law_is_list, [], []⟩
def d65 : He.DefD := ⟨("_law_shuffled", none), "_law_shuffled", "_law_shuffled", defArgs s_law_shuffled, defBody s_law_shuffled, defScope s_law_shuffled, [], []⟩
def d66 : He.DefD := ⟨("_law_equal_at", none), "_law_equal_at", "_law_equal_at", defArgs s_law_equal_at, defBody s_law_equal_at, defScope s_law_equal_at, [], []⟩
def d67 : He.DefD := ⟨("_law_widest", none), "_law_widest", "_law_widest", defArgs s_law_widest, defBody s_law_widest, defScope s_law_widest, [], []⟩
def d68 : He.DefD := ⟨("_law_is_row", none), "_law_is_row", "_law_is_row", defArgs s_law_is_row, defBody s_law_is_row, defScope s_law_is_row, [], []⟩
def d69 : He.DefD := ⟨("_law_couple_word", none), "_law_couple_word", "_law_couple_word", defArgs s_law_couple_word, defBody s_law_couple_word, defScope s_law_couple_word, [], []⟩
def d70 : He.DefD := ⟨("_law_spoilt_couple", none), "_law_spoilt_couple", "_law_spoilt_couple", defArgs s_law_spoilt_couple, defBody s_law_spoilt_couple, defScope s_law_spoilt_couple, [], []⟩
def d71 : He.DefD := ⟨("_law_own_last", none), "_law_own_last", "_law_own_last", defArgs s_law_own_last, defBody s_law_own_last, defScope s_law_own_last, [], []⟩
def d72 : He.DefD := ⟨("_law_is_best", none), "_law_is_best", "_law_is_best", defArgs s_law_is_best, defBody s_law_is_best, defScope s_law_is_best, [], []⟩
def d73 : He.DefD := ⟨("_law_word", none), "_law_word", "_law_word", defArgs s_law_word, defBody s_law_word, defScope s_law_word, [], []⟩
def d74 : He.DefD := ⟨("_law_by_wholes", none), "_law_by_wholes", "_law_by_wholes", defArgs s_law_by_wholes, defBody s_law_by_wholes, defScope s_law_by_wholes, [], []⟩
def d75 : He.DefD := ⟨("_law_told_right", none), "_law_told_right", "_law_told_right", defArgs s_law_told_right, defBody s_law_told_right, defScope s_law_told_right, [], []⟩
def d76 : He.DefD := ⟨("_law_eight_right", none), "_law_eight_right", "_law_eight_right", defArgs s_law_eight_right, defBody s_law_eight_right, defScope s_law_eight_right, [], []⟩
def d77 : He.DefD := ⟨("_law_door", none), "_law_door", "_law_door", defArgs s_law_door, defBody s_law_door, defScope s_law_door, [], []⟩
def d78 : He.DefD := ⟨("_law_refused", none), "_law_refused", "_law_refused", defArgs s_law_refused, defBody s_law_refused, defScope s_law_refused, [], []⟩
def d79 : He.DefD := ⟨("law", none), "law", "law", defArgs s_law, defBody s_law, defScope s_law, [], []⟩
def d80 : He.DefD := ⟨("BadPattern", some "__init__"), "__init__", "BadPattern.__init__", defArgs s_BadPattern_init, defBody s_BadPattern_init, defScope s_BadPattern_init, [], []⟩
def d81 : He.DefD := ⟨("BadCounts", some "__init__"), "__init__", "BadCounts.__init__", defArgs s_BadCounts_init, defBody s_BadCounts_init, defScope s_BadCounts_init, [], []⟩
def d82 : He.DefD := ⟨("Stretch", some "__init__"), "__init__", "Stretch.__init__", defArgs s_Stretch_init, defBody s_Stretch_init, defScope s_Stretch_init, [], []⟩
def d83 : He.DefD := ⟨("Stretch", some "__eq__"), "__eq__", "Stretch.__eq__", defArgs s_Stretch_eq, defBody s_Stretch_eq, defScope s_Stretch_eq, [], []⟩
def d84 : He.DefD := ⟨("Segment", some "__init__"), "__init__", "Segment.__init__", defArgs s_Segment_init, defBody s_Segment_init, defScope s_Segment_init, [], []⟩
def fn : List He.DefD := [d0, d1, d2, d3, d4, d5, d6, d7, d8, d9, d10, d11, d12, d13, d14, d15, d16, d17, d18, d19, d20, d21, d22, d23, d24, d25, d26, d27, d28, d29, d30, d31, d32, d33, d34, d35, d36, d37, d38, d39, d40, d41, d42, d43, d44, d45, d46, d47, d48, d49, d50, d51, d52, d53, d54, d55, d56, d57, d58, d59, d60, d61, d62, d63, d64, d65, d66, d67, d68, d69, d70, d71, d72, d73, d74, d75, d76, d77, d78, d79, d80, d81, d82, d83, d84]
def fa0 : List He.Fa := [.glo "is_whole", .glo "is_ratio", .glo "in_lowest_terms", .glo "make_ratio", .glo "plus", .glo "negative", .glo "minus", .glo "times", .glo "over", .glo "compare", .glo "greatest_of", .glo "check_pattern", .glo "pattern_counts", .glo "pattern_joints", .glo "check_brick_ratio", .glo "check_share", .glo "check_counts", .glo "row_after", .glo "patterns_of", .glo "goes_to", .glo "lesser_high", .glo "greater_high", .glo "merged_ends", .glo "either_stretches", .glo "both_stretches", .glo "kept_stretches", .glo "apart_stretches", .glo "gap_between", .glo "nearest_joints", .glo "share_at"]
def fa1 : List He.Fa := [.glo "differences_of", .glo "likely_couples", .glo "nearest_line", .glo "profile_borders", .glo "line_at", .glo "share_profile", .glo "profile_share", .glo "piece_stretches", .glo "couple_stretches", .glo "is_pattern", .glo "patterns_fault", .glo "last_whole", .glo "best_couple", .glo "is_worse", .glo "best_fault", .glo "_law_hand", .glo "_law_mix", .glo "_law_draw", .glo "_law_pick", .glo "_law_gcd", .glo "_law_ratio", .glo "_law_cmp", .glo "_law_mid", .glo "_law_is_whole", .glo "_law_is_ratio", .glo "_law_share", .glo "_law_counts", .glo "_law_patterns", .glo "_law_joints", .glo "_law_steps"]
def fa2 : List He.Fa := [.glo "_law_least", .glo "_law_free", .glo "_law_ascending", .glo "_law_points", .glo "_law_is_list", .glo "_law_shuffled", .glo "_law_equal_at", .glo "_law_widest", .glo "_law_is_row", .glo "_law_couple_word", .glo "_law_spoilt_couple", .glo "_law_own_last", .glo "_law_is_best", .glo "_law_word", .glo "_law_by_wholes", .glo "_law_told_right", .glo "_law_eight_right", .glo "_law_door", .glo "_law_refused", .glo "law", .glo "Stretch", .glo "Segment", .glo "BadPattern", .glo "BadCounts", .glo "WallError", .glo "ZERO", .glo "ONE", .free "ValueError", .free "abs", .free "all"]
def fa3 : List He.Fa := [.free "any", .free "bool", .free "enumerate", .free "int", .free "isinstance", .free "len", .free "list", .free "max", .free "min", .free "property", .free "range", .free "reversed", .free "sorted", .free "sum", .free "tuple", .int "MOST_BRICKS" 50, .int "MOST_COUNT" 8, .int "COMMON" 720720, .cls "Stretch", .mkr "Stretch", .meth "Stretch" "__init__", .noat "Stretch" "low", .noat "Stretch" "high", .cls "Segment", .mkr "Segment", .meth "Segment" "__init__", .noat "Segment" "low", .noat "Segment" "high", .noat "Segment" "start", .noat "Segment" "rise"]
def fa4 : List He.Fa := [.meth "Stretch" "__eq__", .noat "BadPattern" "index", .exm "BadPattern" "BadPattern" true, .keep "BadPattern", .noat "BadCounts" "what", .exm "BadCounts" "BadCounts" true, .keep "BadCounts"]
def fa : List He.Fa := fa0 ++ (fa1 ++ (fa2 ++ (fa3 ++ (fa4))))
def isaB (K : PySem.W.Frag) (C : Addr) : Bool := He.eqO (PySem.W.findIn K (.ref C) "__class__") (some (some (.builtin "object.__class__"))) && (He.eqO (PySem.W.specialIn K (.builtin "object.__class__") "__get__") (some (some (.builtin "getset_descriptor.__get__"))) && (decide (PySem.W.takesIn K (.builtin "object.__class__") = some true) && (decide (PySem.W.mroIn K C (.type "object") = some true) && decide (PySem.W.kitOne K (.ref C) (.ref C) = some true))))
def oexB (K : PySem.W.Frag) (C : Addr) : Bool := (match K.lookup C with
  | some (Obj.mk (.type "type") _ (.cls cd) sl) => (match cd.mro, sl.toList with
    | .ref C' :: bm, [_, _, _, _, some (.builtin n), _] => C' == C && (n == "ValueError.__new__" && (!cd.hasDel && (PySem.HandSPX.refsVE bm && cd.hasDict)))
    | _, _ => false)
  | _ => false)
def excB (K : PySem.W.Frag) (x : Str) : Bool := oexB K (He.ga K x) && (PySem.W.keepIn K (.ref (He.ga K x)) && (decide (PySem.W.subIn K (.ref (He.ga K x)) (.type "BaseException") = some true) && (decide (PySem.W.typeIn K (.ref (He.ga K x)) = some (.type "type")) &&
  (He.eqO (PySem.W.findIn K (.ref (He.ga K x)) "__setattr__") (some (some (.builtin "object.__setattr__"))) && (He.eqO (PySem.W.findIn K (.ref (He.ga K x)) "__getattribute__") (some (some (.builtin "BaseException.__getattribute__"))) && (He.eqO (PySem.W.findIn K (.ref (He.ga K x)) "__getattr__") (some none) &&
  (He.eqO (PySem.W.findIn K (.ref (He.ga K x)) "__init__") (some (some (.ref (He.ma K (He.ga K x) "__init__")))) && (decide (PySem.W.typeIn K (.ref (He.ma K (He.ga K x) "__init__")) = some (.type "function")) && PySem.W.hasDictIn K (He.ga K x)))))))))
def exB (K : PySem.W.Frag) : Bool := He.tupB K "ZERO" [.int 0, .int 1] && (He.tupB K "ONE" [.int 1, .int 1] && (He.eqO (PySem.W.nsIn K mainGlobals "gcd") (some (some (.builtin "math.gcd"))) && (excB K "BadPattern" && (excB K "BadCounts" && isaB K (He.ga K "Stretch")))))
def nm0 : List PySem.Str := ["gcd", "_wall", "WallError", "BadRatio", "BadPattern", "BadCounts", "BadShare", "BadBrickRatio", "BadStretch", "ZERO", "ONE", "is_whole", "is_ratio", "in_lowest_terms", "make_ratio"]
def nm1 : List PySem.Str := ["plus", "negative", "minus", "times", "over", "compare", "greatest_of", "MOST_BRICKS", "MOST_COUNT", "check_pattern", "pattern_counts", "pattern_joints", "check_brick_ratio", "check_share", "check_counts"]
def nm2 : List PySem.Str := ["row_after", "patterns_of", "Stretch", "goes_to", "lesser_high", "greater_high", "merged_ends", "either_stretches", "both_stretches", "kept_stretches", "apart_stretches", "gap_between", "nearest_joints", "share_at", "differences_of"]
def nm3 : List PySem.Str := ["likely_couples", "nearest_line", "COMMON", "Segment", "profile_borders", "line_at", "share_profile", "profile_share", "piece_stretches", "couple_stretches", "is_pattern", "patterns_fault", "last_whole", "best_couple", "is_worse"]
def nm4 : List PySem.Str := ["best_fault", "_law_hand", "_law_mix", "_law_draw", "_law_pick", "_law_gcd", "_law_ratio", "_law_cmp", "_law_mid", "_law_is_whole", "_law_is_ratio", "_law_share", "_law_counts", "_law_patterns", "_law_joints"]
def nm5 : List PySem.Str := ["_law_steps", "_law_least", "_law_free", "_law_ascending", "_law_points", "_law_is_list", "_law_shuffled", "_law_equal_at", "_law_widest", "_law_is_row", "_law_couple_word", "_law_spoilt_couple", "_law_own_last", "_law_is_best", "_law_word"]
def nm6 : List PySem.Str := ["_law_by_wholes", "_law_told_right", "_law_eight_right", "_law_door", "_law_refused"]
def names : List PySem.Str := nm0 ++ (nm1 ++ (nm2 ++ (nm3 ++ (nm4 ++ (nm5 ++ (nm6))))))
/-! the hook: what the top's names reach, each once, by a short road -/
def refsM (o : Obj) : List Addr := match o.data with
  | .func fd => He.refV fd.code ++ He.refV fd.defaults
  | .cls cd => cd.ns :: cd.mro.flatMap He.refV
  | _ => []
def refsD (o : Obj) : List Addr := match o.data with
  | .dict es _ => es.toList.flatMap fun e => He.refV e.val
  | _ => []
def onG (g : Addr → Option Obj) (r : Obj → List Addr) (as : List Addr) : List Addr := as.flatMap fun a => match g a with
  | some o => r o
  | none => []
def asM (g : Addr → Option Obj) : List Addr :=
  (fun f1 => (fun f2 => (fun f3 => mainGlobals :: (f1 ++ (f2 ++ (f3 ++ onG g refsM f3)))) (onG g refsD f2)) (onG g refsM f1)) (onG g refsD [mainGlobals])
abbrev AlM : Type := He.AlD × Bool
def obsM (g : Addr → Option Obj) : AlM := (fun K => (He.obsD fa fn K, exB K)) (He.frG g (asM g))
def SaysM (K : PySem.W.Frag) : Prop := He.SaysD fa fn K ∧ exB K = true
def hk : PySem.W.Hook where
  α := AlM
  obs := fun s => obsM s.heap.get?
  val := fun _ => (He.valD fn, true)
  says := fun _ h => ∃ K : PySem.W.Frag, K.In h ∧ SaysM K
  of := fun _ _ e => ⟨_, He.frG_in, congrArg (fun z : AlM => z.1) e, congrArg (fun z : AlM => z.2) e⟩
  keeps := fun _ _ _ ⟨K, hK, c⟩ k => ⟨K, PySem.W.Frag.In.keeps hK k, c⟩
abbrev R : PySem.W.OpenRow := PySem.W.OpenLaw.row PySem.Challenge.rw_jointsapart_k47_whole_one_couple_for_all
def ob (s : PySem.W.SharedT) : AlM := obsM (HandSHeadRun.getT s)
theorem ob_eq (s : PySem.W.SharedT) : ob s = hk.obs s.abs := by
  have e : HandSHeadRun.getT s = s.abs.heap.get? := funext (HandSHeadRun.getT_eq s)
  show obsM (HandSHeadRun.getT s) = obsM s.abs.heap.get?
  rw [e]
end JA
set_option maxHeartbeats 0
namespace JA
open PySem PySem.Spec PyProof.Rows L2
theorem run (w : World) : HandSHeadRun.RunEqI R (PySem.W.view R.prog [0, 104]) hk ob 60000 names w := by
  unfold HandSHeadRun.RunEqI
  kernel_rfl
end JA
set_option maxHeartbeats 2000000
/-! Data over the layer: what a value stands for, a state by data, evaluation by data. -/
namespace JD
open PySem PySem.Spec PyProof.Rows L2

inductive D where
  | non | bl (b : Bool) | int (i : Int) | str (x : Str) | tup (ds : List D) | lst (ds : List D) | ins (C : Addr) (fs : List (Str × D)) | opq (a : Addr) | ty (n : String) | scr (ns : List Int)

mutual
inductive Rep (K : PySem.W.Frag) (B : Hp) : V → D → Prop
  | non : Rep K B .non .non
  | bl (b : Bool) : Rep K B (.bl b) (.bl b)
  | int (i : Int) : Rep K B (.int i) (.int i)
  | str (x : Str) : Rep K B (.str x) (.str x)
  | tup {a : Addr} {xs : List V} {ds : List D} : SqT K B a xs → RepL K B xs ds → Rep K B (.ref a) (.tup ds)
  | lst {a : Addr} {xs : List V} {ds : List D} : B a = some (.lst xs) → RepL K B xs ds → Rep K B (.ref a) (.lst ds)
  | ins {a C dx : Addr} {fs : List (Str × V)} {gs : List (Str × D)} : B a = some (.ins C dx fs) → RepF K B fs gs → Rep K B (.ref a) (.ins C gs)
  | opq (a : Addr) : Rep K B (.ref a) (.opq a)
  | ty (n : String) : Rep K B (.ty n) (.ty n)
  | scr {a : Addr} {ns : List Int} : SqL K B a (ns.map V.int) → Rep K B (.ref a) (.scr ns)
inductive RepL (K : PySem.W.Frag) (B : Hp) : List V → List D → Prop
  | nil : RepL K B [] []
  | cons {v : V} {vs : List V} {d : D} {ds : List D} : Rep K B v d → RepL K B vs ds → RepL K B (v :: vs) (d :: ds)
inductive RepF (K : PySem.W.Frag) (B : Hp) : List (Str × V) → List (Str × D) → Prop
  | nil : RepF K B [] []
  | cons {f : Str} {v : V} {vs : List (Str × V)} {d : D} {ds : List (Str × D)} : Rep K B v d → RepF K B vs ds → RepF K B ((f, v) :: vs) ((f, d) :: ds)
end

theorem Same.sqT {K : PySem.W.Frag} {H H' : Hp} {a : Addr} {xs : List V} (e : Same H H') (h : SqT K H a xs) : SqT K H' a xs := by
  rcases h with (h | ⟨o, h⟩) | h
  · exact .inl (.inl (e _ _ h))
  · exact .inl (.inr ⟨o, e _ _ h⟩)
  · exact .inr h
theorem Same.sqL {K : PySem.W.Frag} {H H' : Hp} {a : Addr} {xs : List V} (e : Same H H') (h : SqL K H a xs) : SqL K H' a xs := by
  rcases h with (h | ⟨o, h⟩) | h
  · exact .inl (.inl (e _ _ h))
  · exact .inl (.inr ⟨o, e _ _ h⟩)
  · exact .inr h

mutual
theorem Rep.mono {K : PySem.W.Frag} {B B' : Hp} (s : Same B B') : ∀ {v : V} {d : D}, Rep K B v d → Rep K B' v d
  | _, _, .non => .non
  | _, _, .bl b => .bl b
  | _, _, .int i => .int i
  | _, _, .str x => .str x
  | _, _, .tup h r => .tup (Same.sqT s h) (RepL.mono s r)
  | _, _, .lst h r => .lst (s _ _ h) (RepL.mono s r)
  | _, _, .ins h r => .ins (s _ _ h) (RepF.mono s r)
  | _, _, .opq a => .opq a
  | _, _, .ty n => .ty n
  | _, _, .scr h => .scr (Same.sqL s h)
theorem RepL.mono {K : PySem.W.Frag} {B B' : Hp} (s : Same B B') : ∀ {v : List V} {d : List D}, RepL K B v d → RepL K B' v d
  | _, _, .nil => .nil
  | _, _, .cons h r => .cons (Rep.mono s h) (RepL.mono s r)
theorem RepF.mono {K : PySem.W.Frag} {B B' : Hp} (s : Same B B') : ∀ {v : List (Str × V)} {d : List (Str × D)}, RepF K B v d → RepF K B' v d
  | _, _, .nil => .nil
  | _, _, .cons h r => .cons (Rep.mono s h) (RepF.mono s r)
end

section
variable {K : PySem.W.Frag} {B : Hp}
theorem RepL.length : ∀ {vs : List V} {ds : List D}, RepL K B vs ds → vs.length = ds.length
  | _, _, .nil => rfl
  | _, _, .cons _ r => congrArg (· + 1) r.length
theorem RepL.get : ∀ {vs : List V} {ds : List D} {i : Nat} {d : D}, RepL K B vs ds → ds[i]? = some d → ∃ v, vs[i]? = some v ∧ Rep K B v d
  | _, _, _, _, .nil, e => by simp at e
  | _, _, 0, _, .cons r _, e => by simp at e; subst e; exact ⟨_, rfl, r⟩
  | _, _, i + 1, d, .cons _ t, e => by
    obtain ⟨u, h1, h2⟩ := RepL.get (i := i) (d := d) t (by simpa using e)
    exact ⟨u, by simpa using h1, h2⟩
theorem RepL.getV : ∀ {vs : List V} {ds : List D} {i : Nat} {v : V}, RepL K B vs ds → vs[i]? = some v → ∃ d, ds[i]? = some d ∧ Rep K B v d
  | _, _, _, _, .nil, e => by simp at e
  | _, _, 0, _, .cons r _, e => by simp at e; subst e; exact ⟨_, rfl, r⟩
  | _, _, i + 1, d, .cons _ t, e => by
    obtain ⟨u, h1, h2⟩ := RepL.getV (i := i) (v := d) t (by simpa using e)
    exact ⟨u, by simpa using h1, h2⟩
theorem RepL.append : ∀ {vs ws : List V} {ds es : List D}, RepL K B vs ds → RepL K B ws es → RepL K B (vs ++ ws) (ds ++ es)
  | _, _, _, _, .nil, s => s
  | _, _, _, _, .cons r t, s => .cons r (RepL.append t s)
theorem RepL.one {v : V} {d : D} (r : Rep K B v d) : RepL K B [v] [d] := .cons r .nil
theorem RepL.take : ∀ {vs : List V} {ds : List D} (n : Nat), RepL K B vs ds → RepL K B (vs.take n) (ds.take n)
  | _, _, 0, _ => .nil
  | _, _, _ + 1, .nil => .nil
  | _, _, n + 1, .cons r t => .cons r (RepL.take n t)
theorem RepL.drop : ∀ {vs : List V} {ds : List D} (n : Nat), RepL K B vs ds → RepL K B (vs.drop n) (ds.drop n)
  | _, _, 0, r => r
  | _, _, _ + 1, .nil => .nil
  | _, _, n + 1, .cons _ t => RepL.drop n t
theorem RepL.set {v : V} {d : D} (r : Rep K B v d) : ∀ {vs : List V} {ds : List D} (n : Nat), RepL K B vs ds → RepL K B (vs.set n v) (ds.set n d)
  | _, _, _, .nil => .nil
  | _, _, 0, .cons _ t => .cons r t
  | _, _, n + 1, .cons q t => .cons q (RepL.set r n t)
theorem RepL.eraseIdx : ∀ {vs : List V} {ds : List D} (n : Nat), RepL K B vs ds → RepL K B (vs.eraseIdx n) (ds.eraseIdx n)
  | _, _, _, .nil => .nil
  | _, _, 0, .cons _ t => t
  | _, _, n + 1, .cons q t => .cons q (RepL.eraseIdx n t)
theorem RepL.dropLast {vs : List V} {ds : List D} (r : RepL K B vs ds) : RepL K B vs.dropLast ds.dropLast := by
  rw [List.dropLast_eq_take, List.dropLast_eq_take, r.length]
  exact r.take _
theorem RepL.ints : ∀ (ns : List Int), RepL K B (ns.map V.int) (ns.map D.int)
  | [] => .nil
  | n :: r => .cons (.int n) (RepL.ints r)
theorem RepL.bls : ∀ (ns : List Bool), RepL K B (ns.map V.bl) (ns.map D.bl)
  | [] => .nil
  | n :: r => .cons (.bl n) (RepL.bls r)
theorem Rep.ofInt {v : V} {i : Int} (r : Rep K B v (.int i)) : v = .int i := by cases r; rfl
theorem Rep.ofBl {v : V} {i : Bool} (r : Rep K B v (.bl i)) : v = .bl i := by cases r; rfl
theorem Rep.ofStr {v : V} {i : Str} (r : Rep K B v (.str i)) : v = .str i := by cases r; rfl
theorem Rep.ofNon {v : V} (r : Rep K B v .non) : v = .non := by cases r; rfl
theorem Rep.ofTup {v : V} {ds : List D} (r : Rep K B v (.tup ds)) : ∃ a xs, v = .ref a ∧ SqT K B a xs ∧ RepL K B xs ds := by
  cases r with
  | tup h q => exact ⟨_, _, rfl, h, q⟩
theorem Rep.ofLst {v : V} {ds : List D} (r : Rep K B v (.lst ds)) : ∃ a xs, v = .ref a ∧ B a = some (.lst xs) ∧ RepL K B xs ds := by
  cases r with
  | lst h q => exact ⟨_, _, rfl, h, q⟩
theorem Rep.ofIns {v : V} {C : Addr} {gs : List (Str × D)} (r : Rep K B v (.ins C gs)) : ∃ a dx fs, v = .ref a ∧ B a = some (.ins C dx fs) ∧ RepF K B fs gs := by
  cases r with
  | ins h q => exact ⟨_, _, _, rfl, h, q⟩
theorem Rep.ofOpq {v : V} {a : Addr} (r : Rep K B v (.opq a)) : v = .ref a := by cases r; rfl
theorem Rep.ofScr {v : V} {ns : List Int} (r : Rep K B v (.scr ns)) : ∃ a, v = .ref a ∧ SqL K B a (ns.map V.int) := by
  cases r with
  | scr h => exact ⟨_, rfl, h⟩
theorem Rep.ofTy {v : V} {n : String} (r : Rep K B v (.ty n)) : v = .ty n := by cases r; rfl
theorem RepL.ofInts : ∀ {vs : List V} {ns : List Int}, RepL K B vs (ns.map D.int) → vs = ns.map V.int
  | [], [], _ => rfl
  | v :: vs, n :: ns, h => by
    cases h with
    | cons r t =>
      rw [Rep.ofInt r, RepL.ofInts t]
      rfl
  | [], _ :: _, h => by cases h
  | _ :: _, [], h => by cases h
theorem RepL.ofBls : ∀ {vs : List V} {ns : List Bool}, RepL K B vs (ns.map D.bl) → vs = ns.map V.bl
  | [], [], _ => rfl
  | v :: vs, n :: ns, h => by
    cases h with
    | cons r t =>
      rw [Rep.ofBl r, RepL.ofBls t]
      rfl
  | [], _ :: _, h => by cases h
  | _ :: _, [], h => by cases h
theorem RepF.lookup : ∀ {fs : List (Str × V)} {gs : List (Str × D)} {f : Str} {d : D}, RepF K B fs gs → gs.lookup f = some d → ∃ v, fs.lookup f = some v ∧ Rep K B v d
  | _, _, _, _, .nil, e => by cases e
  | _, _, f, d, .cons (f := g) r t, e => by
    rw [List.lookup_cons] at e ⊢
    cases h : f == g with
    | true =>
      rw [h] at e
      cases Option.some.inj e
      exact ⟨_, rfl, r⟩
    | false =>
      rw [h] at e
      exact RepF.lookup t e
end

/-! ### the hand: a list that draws change; what stays of it -/
structure Hd where
  l : Addr
  c : Addr
  cells : List Int
def HdOk (hd : Option Hd) (B H : Hp) : Prop := ∀ h, hd = some h → B h.l = none ∧ B h.c = some (.lst (h.cells.map V.int)) ∧ (∀ z ∈ h.cells, 0 ≤ z) ∧ h.cells.length ≤ 63 ∧
  ∃ pos rest tot : Int, H h.l = some (.lst [.ref h.c, .int pos, .int rest, .int tot]) ∧ (0 ≤ pos ∧ pos ≤ 63) ∧ 0 ≤ rest ∧ 0 ≤ tot

def HO.isT : HO → Bool
  | .tup _ => true
  | _ => false
/-- what an evaluation leaves as it was -/
structure Go (hd : Option Hd) (B H B' H' : Hp) : Prop where
  ext : Same B B'
  sub : Same B' H'
  keep : ∀ a o, HO.isT o = false → H a = some o → B a = none → (∀ h, hd = some h → a ≠ h.l) → H' a = some o ∧ B' a = none
  tups : ∀ a xs, H a = some (.tup xs) → H' a = some (.tup xs)
  hand : HdOk hd B' H'
section
variable {hd : Option Hd} {B H B' H' B2 H2 : Hp}
theorem Go.refl (s : Same B H) (h : HdOk hd B H) : Go hd B H B H := ⟨Same.refl B, s, fun _ _ _ e n _ => ⟨e, n⟩, fun _ _ e => e, h⟩
theorem Go.trans (a : Go hd B H B' H') (b : Go hd B' H' B2 H2) : Go hd B H B2 H2 :=
  ⟨a.ext.trans b.ext, b.sub, fun x o t e n k => by
    obtain ⟨e1, n1⟩ := a.keep x o t e n k
    exact b.keep x o t e1 n1 k, fun x xs e => b.tups x xs (a.tups x xs e), b.hand⟩
theorem hd_none {B H : Hp} : HdOk none B H := fun _ e => by cases e
theorem Go.up (g : Go none B H B' H') (h : HdOk hd B H) : Go hd B H B' H' :=
  ⟨g.ext, g.sub, fun x o t e n _ => g.keep x o t e n fun _ z => (by cases z), g.tups, fun z ez => by
    obtain ⟨a, b, c, c2, pos, rest, tot, d, e⟩ := h z ez
    obtain ⟨e1, n1⟩ := g.keep _ _ rfl d a fun _ z => (by cases z)
    exact ⟨n1, g.ext _ _ b, c, c2, pos, rest, tot, e1, e⟩⟩
/-- all that H has is kept -/
theorem Go.live (g : Go hd B H B' H') (hh : HdOk hd B H) (s : Same B H) {p : Addr} (n : H' p = none) : H p = none := by
  cases q : H p with
  | none => rfl
  | some o =>
    exfalso
    cases qb : B p with
    | some u =>
      have := g.sub _ _ (g.ext _ _ qb)
      rw [n] at this
      cases this
    | none =>
      by_cases hx : ∃ h, hd = some h ∧ p = h.l
      · obtain ⟨h, e1, e2⟩ := hx
        obtain ⟨_, _, _, _, pos, rest, tot, d, _⟩ := g.hand h e1
        rw [← e2, n] at d
        cases d
      · cases t : HO.isT o with
        | false =>
          have := (g.keep p o t q qb fun h e z => hx ⟨h, e, z⟩).1
          rw [n] at this
          cases this
        | true =>
          cases o with
          | tup xs =>
            have := g.tups p xs q
            rw [n] at this
            cases this
          | _ => cases t
theorem same_upd {H : Hp} {p : Addr} {o : HO} (h : H p = none) : Same H (upd H p o) := fun b x e => by
  rw [upd_ne (ne_of_none e h)]
  exact e
/-- a new object that stays as it is -/
theorem Go.alloc (g : Go hd B H B' H') {p : Addr} {o : HO} (n : H' p = none) : Go hd B H (upd B' p o) (upd H' p o) := by
  have nb : B' p = none := by
    cases q : B' p with
    | none => rfl
    | some u =>
      rw [g.sub _ _ q] at n
      cases n
  refine ⟨g.ext.trans (same_upd nb), fun b x e => ?_, fun a u t e nB k => ?_, fun a xs e => ?_, fun h eh => ?_⟩
  · by_cases hb : b = p
    · rw [hb, upd_same] at e
      rw [hb, upd_same]
      exact e
    · rw [upd_ne hb] at e
      rw [upd_ne hb]
      exact g.sub _ _ e
  · obtain ⟨e1, n1⟩ := g.keep a u t e nB k
    have hp : a ≠ p := ne_of_none e1 n
    rw [upd_ne hp, upd_ne hp]
    exact ⟨e1, n1⟩
  · have e1 := g.tups a xs e
    rw [upd_ne (ne_of_none e1 n)]
    exact e1
  · obtain ⟨a, b, c, c2, pos, rest, tot, d, e⟩ := g.hand h eh
    have hp : h.l ≠ p := ne_of_none d n
    have hc : h.c ≠ p := ne_of_none (g.sub _ _ b) n
    rw [upd_ne hp, upd_ne hc, upd_ne hp]
    exact ⟨a, b, c, c2, pos, rest, tot, d, e⟩
/-- a new object that is one's own -/
theorem Go.fresh (g : Go hd B H B' H') {p : Addr} {o : HO} (n : H' p = none) : Go hd B H B' (upd H' p o) := by
  refine ⟨g.ext, fun b x e => ?_, fun a u t e nB k => ?_, fun a xs e => ?_, fun h eh => ?_⟩
  · have := g.sub _ _ e
    rw [upd_ne (ne_of_none this n)]
    exact this
  · obtain ⟨e1, n1⟩ := g.keep a u t e nB k
    rw [upd_ne (ne_of_none e1 n)]
    exact ⟨e1, n1⟩
  · have e1 := g.tups a xs e
    rw [upd_ne (ne_of_none e1 n)]
    exact e1
  · obtain ⟨a, b, c, c2, pos, rest, tot, d, e⟩ := g.hand h eh
    rw [upd_ne (ne_of_none d n)]
    exact ⟨a, b, c, c2, pos, rest, tot, d, e⟩
end

/-! ### a state by data -/
inductive O where
  | lst (ds : List D)
  | dK (kvs : List (Key × D))
  | dT (kvs : List (List Key × D))
inductive S where
  | no | val (d : D) | own (o : O) | hand
def RepKV {κ : Type} (K : PySem.W.Frag) (B : Hp) : List (κ × V) → List (κ × D) → Prop := Paired fun p q => p.1 = q.1 ∧ Rep K B p.2 q.2
def ORep (K : PySem.W.Frag) (B : Hp) : HO → O → Prop
  | .lst xs, .lst ds => RepL K B xs ds
  | .dK xs, .dK ys => RepKV K B xs ys
  | .dT xs, .dT ys => RepKV K B xs ys
  | _, _ => False
theorem RepKV.mono {κ : Type} {K : PySem.W.Frag} {B B' : Hp} (s : Same B B') : ∀ {xs : List (κ × V)} {ys : List (κ × D)}, RepKV K B xs ys → RepKV K B' xs ys
  | _, _, .nil => .nil
  | _, _, .cons r t => .cons ⟨r.1, r.2.mono s⟩ (RepKV.mono s t)
theorem ORep.mono {K : PySem.W.Frag} {B B' : Hp} (s : Same B B') {h : HO} {o : O} (r : ORep K B h o) : ORep K B' h o := by
  cases h <;> cases o <;> first | exact r.elim | exact RepL.mono s r | exact RepKV.mono s r
def SlotOk (K : PySem.W.Frag) (hd : Option Hd) (fr : Addr → Prop) (B H : Hp) (x : Option (Option V)) : S → Prop
  | .no => True
  | .val d => ∃ v, x = some (some v) ∧ Rep K B v d
  | .own o => ∃ l u, x = some (some (.ref l)) ∧ fr l ∧ B l = none ∧ H l = some u ∧ ORep K B u o ∧ ∀ h, hd = some h → l ≠ h.l
  | .hand => ∃ h, hd = some h ∧ x = some (some (.ref h.l))
structure Sx (K : PySem.W.Frag) (hd : Option Hd) (fr : Addr → Prop) (B H : Hp) (σ : L2.St) (Γ : List S) : Prop where
  sub : Same B H
  hand : HdOk hd B H
  new : ∀ p, H p = none → fr p
  len : σ.length = Γ.length
  slot : ∀ (i : Nat) (s : S), Γ[i]? = some s → SlotOk K hd fr B H σ[i]? s
  dis : ∀ (i j : Nat) (l : Addr) (o u : O), i ≠ j → Γ[i]? = some (.own o) → Γ[j]? = some (.own u) → σ[i]? = some (some (.ref l)) → σ[j]? = some (some (.ref l)) → False
/-- what a statement leaves as it was -/
structure Gs (hd : Option Hd) (fr : Addr → Prop) (B H B' H' : Hp) : Prop where
  ext : Same B B'
  keep : ∀ a o, HO.isT o = false → H a = some o → B a = none → ¬ fr a → (∀ h, hd = some h → a ≠ h.l) → H' a = some o ∧ B' a = none
  tups : ∀ a xs, H a = some (.tup xs) → H' a = some (.tup xs)
section
variable {K : PySem.W.Frag} {hd : Option Hd} {fr : Addr → Prop} {B H B' H' B2 H2 : Hp} {σ : L2.St} {Γ : List S}
theorem Gs.refl : Gs hd fr B H B H := ⟨Same.refl B, fun _ _ _ e n _ _ => ⟨e, n⟩, fun _ _ e => e⟩
theorem Gs.trans (a : Gs hd fr B H B' H') (b : Gs hd fr B' H' B2 H2) : Gs hd fr B H B2 H2 :=
  ⟨a.ext.trans b.ext, fun x o t e n f k => by
    obtain ⟨e1, n1⟩ := a.keep x o t e n f k
    exact b.keep x o t e1 n1 f k, fun x xs e => b.tups x xs (a.tups x xs e)⟩
theorem Go.gs (g : Go hd B H B' H') : Gs hd fr B H B' H' := ⟨g.ext, fun a o t e n _ k => g.keep a o t e n k, g.tups⟩
theorem ORep.nt {u : HO} {o : O} (r : ORep K B u o) : HO.isT u = false := by
  cases u <;> cases o <;> first | rfl | exact r.elim
theorem Sx.go (S0 : Sx K hd fr B H σ Γ) (g : Go hd B H B' H') : Sx K hd fr B' H' σ Γ := by
  refine ⟨g.sub, g.hand, fun p n => S0.new p (g.live S0.hand S0.sub n), S0.len, fun i s e => ?_, S0.dis⟩
  have q := S0.slot i s e
  cases s with
  | no => exact q
  | val d =>
    obtain ⟨v, e1, r⟩ := q
    exact ⟨v, e1, r.mono g.ext⟩
  | own o =>
    obtain ⟨l, u, e1, f, n, hl, r, k⟩ := q
    obtain ⟨e2, n2⟩ := g.keep l u r.nt hl n k
    exact ⟨l, u, e1, f, n2, e2, r.mono g.ext, k⟩
  | hand => exact q
theorem Sx.val (S0 : Sx K hd fr B H σ Γ) {i : Nat} {d : D} (e : Γ[i]? = some (.val d)) : ∃ v, σ[i]? = some (some v) ∧ Rep K B v d := S0.slot i _ e
theorem Sx.set_val (S0 : Sx K hd fr B H σ Γ) (i : Nat) {v : V} {d : D} (r : Rep K B v d) : Sx K hd fr B H (σ.set i (some v)) (Γ.set i (.val d)) := by
  refine ⟨S0.sub, S0.hand, S0.new, by rw [List.length_set, List.length_set]; exact S0.len, fun j s e => ?_, fun j k l o u hjk e1 e2 e3 e4 => ?_⟩
  · rw [List.getElem?_set] at e ⊢
    by_cases h : i = j
    · subst h
      rw [if_pos rfl] at e ⊢
      by_cases hl : i < Γ.length
      · rw [if_pos hl] at e
        rw [if_pos (by rw [S0.len]; exact hl)]
        cases Option.some.inj e
        exact ⟨v, rfl, r⟩
      · rw [if_neg hl] at e
        cases e
    · rw [if_neg h] at e ⊢
      exact S0.slot j s e
  · rw [List.getElem?_set] at e1 e2 e3 e4
    have h1 : i ≠ j := by
      intro h
      subst h
      rw [if_pos rfl] at e1
      split at e1 <;> cases e1
    have h2 : i ≠ k := by
      intro h
      subst h
      rw [if_pos rfl] at e2
      split at e2 <;> cases e2
    rw [if_neg h1] at e1 e3
    rw [if_neg h2] at e2 e4
    exact S0.dis j k l o u hjk e1 e2 e3 e4
/-- a slot is forgotten -/
theorem Sx.forget (S0 : Sx K hd fr B H σ Γ) (i : Nat) : Sx K hd fr B H σ (Γ.set i .no) := by
  refine ⟨S0.sub, S0.hand, S0.new, by rw [List.length_set]; exact S0.len, fun j s e => ?_, fun j k l o u hjk e1 e2 e3 e4 => ?_⟩
  · rw [List.getElem?_set] at e
    by_cases h : i = j
    · subst h
      rw [if_pos rfl] at e
      split at e
      · cases Option.some.inj e
        trivial
      · cases e
    · rw [if_neg h] at e
      exact S0.slot j s e
  · rw [List.getElem?_set] at e1 e2
    have h1 : i ≠ j := by
      intro h
      subst h
      rw [if_pos rfl] at e1
      split at e1 <;> cases e1
    have h2 : i ≠ k := by
      intro h
      subst h
      rw [if_pos rfl] at e2
      split at e2 <;> cases e2
    rw [if_neg h1] at e1
    rw [if_neg h2] at e2
    exact S0.dis j k l o u hjk e1 e2 e3 e4
/-- a new object becomes a slot's own -/
theorem Sx.set_own (S0 : Sx K hd fr B H σ Γ) (i : Nat) {p : Addr} {u : HO} {o : O} (f : fr p) (n : B p = none) (e : H p = some u) (r : ORep K B u o) (k : ∀ h, hd = some h → p ≠ h.l)
    (no : ∀ (j : Nat) (o' : O), Γ[j]? = some (S.own o') → σ[j]? ≠ some (some (V.ref p))) : Sx K hd fr B H (σ.set i (some (.ref p))) (Γ.set i (.own o)) := by
  refine ⟨S0.sub, S0.hand, S0.new, by rw [List.length_set, List.length_set]; exact S0.len, fun j s e => ?_, fun j k l o u hjk e1 e2 e3 e4 => ?_⟩
  · rw [List.getElem?_set] at e ⊢
    by_cases h : i = j
    · subst h
      rw [if_pos rfl] at e ⊢
      by_cases hl : i < Γ.length
      · rw [if_pos hl] at e
        rw [if_pos (by rw [S0.len]; exact hl)]
        cases Option.some.inj e
        exact ⟨p, u, rfl, f, n, by assumption, r, k⟩
      · rw [if_neg hl] at e
        cases e
    · rw [if_neg h] at e ⊢
      exact S0.slot j s e
  · rw [List.getElem?_set] at e1 e2 e3 e4
    by_cases h1 : i = j
    · subst h1
      have h2 : i ≠ k := hjk
      rw [if_neg h2] at e2 e4
      rw [if_pos rfl] at e3
      split at e3
      · cases Option.some.inj (Option.some.inj e3)
        exact no k u e2 (by assumption)
      · cases e3
    · rw [if_neg h1] at e1 e3
      by_cases h2 : i = k
      · subst h2
        rw [if_pos rfl] at e4
        split at e4
        · cases Option.some.inj (Option.some.inj e4)
          exact no j o e1 (by assumption)
        · cases e4
      · rw [if_neg h2] at e2 e4
        exact S0.dis j k l o u hjk e1 e2 e3 e4
/-- one's own object is changed -/
theorem Sx.upd_own (S0 : Sx K hd fr B H σ Γ) {i : Nat} {l : Addr} {o o' : O} {u' : HO} (ei : Γ[i]? = some (.own o)) (es : σ[i]? = some (some (.ref l))) (r : ORep K B u' o') :
    Sx K hd fr B (upd H l u') σ (Γ.set i (.own o')) ∧ Gs hd fr B H B (upd H l u') := by
  obtain ⟨l', u, e1, f, n, hl, ru, k⟩ := S0.slot i _ ei
  have el : l' = l := by
    rw [es] at e1
    cases Option.some.inj (Option.some.inj e1)
    rfl
  subst el
  refine ⟨⟨fun b x e => ?_, fun h eh => ?_, fun p np => ?_, by rw [List.length_set]; exact S0.len, fun j s e => ?_, fun j j2 l2 o2 u2 hjk g1 g2 g3 g4 => ?_⟩, ⟨Same.refl B, fun a x t e nB nf _ => ?_, fun a xs e => ?_⟩⟩
  · rw [upd_ne (ne_of_none e n)]
    exact S0.sub _ _ e
  · obtain ⟨a, b, c, c2, pos, rest, tot, d, e⟩ := S0.hand h eh
    rw [upd_ne (Ne.symm (k h eh))]
    exact ⟨a, b, c, c2, pos, rest, tot, d, e⟩
  · by_cases hp : p = l'
    · rw [hp]
      exact f
    · rw [upd_ne hp] at np
      exact S0.new p np
  · rw [List.getElem?_set] at e
    by_cases h : i = j
    · subst h
      rw [if_pos rfl] at e
      split at e
      · cases Option.some.inj e
        exact ⟨l', u', es, f, n, upd_same, r, k⟩
      · cases e
    · rw [if_neg h] at e
      have q := S0.slot j s e
      cases s with
      | no => exact q
      | val d => exact q
      | own o2 =>
        obtain ⟨l2, u2, e3, f2, n2, hl2, r2, k2⟩ := q
        have hne : l2 ≠ l' := by
          intro z
          rw [z] at e3
          exact S0.dis i j l' o o2 h ei e es e3
        exact ⟨l2, u2, e3, f2, n2, by rw [upd_ne hne]; exact hl2, r2, k2⟩
      | hand => exact q
  · rw [List.getElem?_set] at g1 g2
    by_cases h1 : i = j
    · subst h1
      rw [if_neg hjk] at g2
      exact S0.dis i j2 l2 o u2 hjk ei g2 g3 g4
    · rw [if_neg h1] at g1
      by_cases h2 : i = j2
      · subst h2
        exact S0.dis j i l2 o2 o hjk g1 ei g3 g4
      · rw [if_neg h2] at g2
        exact S0.dis j j2 l2 o2 u2 hjk g1 g2 g3 g4
  · have hne : a ≠ l' := fun z => nf (z ▸ f)
    rw [upd_ne hne]
    exact ⟨e, nB⟩
  · have hne : a ≠ l' := by
      intro z
      rw [z, hl] at e
      cases Option.some.inj e
      have := ru.nt
      cases this
    rw [upd_ne hne]
    exact e
/-- one's own list becomes a value -/
theorem Sx.freeze (S0 : Sx K hd fr B H σ Γ) {i : Nat} {ds : List D} (ei : Γ[i]? = some (.own (.lst ds))) :
    ∃ B', Sx K hd fr B' H σ (Γ.set i (.val (.lst ds))) ∧ Gs hd fr B H B' H ∧ (∃ l xs, σ[i]? = some (some (.ref l)) ∧ B' = upd B l (.lst xs) ∧ H l = some (.lst xs) ∧ B l = none ∧ fr l ∧ RepL K B xs ds) := by
  obtain ⟨l, u, e1, f, n, hl, r, k⟩ := S0.slot i _ ei
  cases u with
  | lst xs =>
    have rr : RepL K B xs ds := r
    have ss : Same B (upd B l (.lst xs)) := same_upd n
    refine ⟨upd B l (.lst xs), ⟨fun b x e => ?_, fun h eh => ?_, S0.new, by rw [List.length_set]; exact S0.len, fun j s e => ?_, fun j j2 l2 o2 u2 hjk g1 g2 g3 g4 => ?_⟩, ⟨ss, fun a x t e nB nf _ => ⟨e, ?_⟩, fun _ _ e => e⟩, l, xs, e1, rfl, hl, n, f, rr⟩
    · by_cases hb : b = l
      · rw [hb, upd_same] at e
        rw [hb, hl]
        exact e
      · rw [upd_ne hb] at e
        exact S0.sub _ _ e
    · obtain ⟨a, b, c, c2, pos, rest, tot, d, e⟩ := S0.hand h eh
      rw [upd_ne (Ne.symm (k h eh))]
      exact ⟨a, ss _ _ b, c, c2, pos, rest, tot, d, e⟩
    · rw [List.getElem?_set] at e
      by_cases h : i = j
      · subst h
        rw [if_pos rfl] at e
        split at e
        · cases Option.some.inj e
          exact ⟨.ref l, e1, .lst upd_same (rr.mono ss)⟩
        · cases e
      · rw [if_neg h] at e
        have q := S0.slot j s e
        cases s with
        | no => exact q
        | val d =>
          obtain ⟨v, e2, r2⟩ := q
          exact ⟨v, e2, r2.mono ss⟩
        | own o2 =>
          obtain ⟨l2, u2, e3, f2, n2, hl2, r2, k2⟩ := q
          have hne : l2 ≠ l := by
            intro z
            rw [z] at e3
            exact S0.dis i j l _ o2 h ei e e1 e3
          exact ⟨l2, u2, e3, f2, by rw [upd_ne hne]; exact n2, hl2, r2.mono ss, k2⟩
        | hand => exact q
    · rw [List.getElem?_set] at g1 g2
      have h1 : i ≠ j := by
        intro h
        subst h
        rw [if_pos rfl] at g1
        split at g1 <;> cases g1
      have h2 : i ≠ j2 := by
        intro h
        subst h
        rw [if_pos rfl] at g2
        split at g2 <;> cases g2
      rw [if_neg h1] at g1
      rw [if_neg h2] at g2
      exact S0.dis j j2 l2 o2 u2 hjk g1 g2 g3 g4
    · have hne : a ≠ l := fun z => nf (z ▸ f)
      rw [upd_ne hne]
      exact nB
  | _ => exact r.elim
end
end JD
set_option maxHeartbeats 2000000
namespace JD
open PySem PySem.Spec PyProof.Rows L2

section
variable (K : PySem.W.Frag)
/-! ### evaluation by data -/
def Ee (te : TE) (Γ : List S) (Φ : D → Prop) : Prop := ∀ (hd : Option Hd) (fr : Addr → Prop) (B H : Hp) (σ : L2.St) (Q : VK), Sx K hd fr B H σ Γ →
  (∀ B' H' v d, Go hd B H B' H' → Rep K B' v d → Φ d → Q v H') → te σ H Q
def Ev (te : TE) (Γ : List S) (d : D) : Prop := Ee K te Γ fun x => x = d
/-- a new list -/
def EL (te : TE) (Γ : List S) (Φ : List D → Prop) : Prop := ∀ (hd : Option Hd) (fr : Addr → Prop) (B H : Hp) (σ : L2.St) (Q : VK), Sx K hd fr B H σ Γ →
  (∀ B' H' p xs ds, Go hd B H B' H' → H p = none → B' p = none → H' p = some (.lst xs) → RepL K B' xs ds → Φ ds → Q (.ref p) H') → te σ H Q
def Et (tc : TT) (Γ : List S) (Φ : Bool → Prop) : Prop := ∀ (hd : Option Hd) (fr : Addr → Prop) (B H : Hp) (σ : L2.St) (Q : Bool → Hp → Prop), Sx K hd fr B H σ Γ →
  (∀ B' H' b, Go hd B H B' H' → Φ b → Q b H') → tc σ H Q
def Ea (ta : TA) (Γ : List S) (Φ : List D → Prop) : Prop := ∀ (hd : Option Hd) (fr : Addr → Prop) (B H : Hp) (σ : L2.St) (Q : List V → Hp → Prop), Sx K hd fr B H σ Γ →
  (∀ B' H' vs ds, Go hd B H B' H' → RepL K B' vs ds → Φ ds → Q vs H') → ta σ H Q
def Eo (to : TO) (Γ : List S) (o : Option Int) : Prop := ∀ (hd : Option Hd) (fr : Addr → Prop) (B H : Hp) (σ : L2.St) (Q : Option Int → Hp → Prop), Sx K hd fr B H σ Γ →
  (∀ B' H', Go hd B H B' H' → Q o H') → to σ H Q
/-- an operation, a call, a method on data -/
def Ro (r : R2) (x y : D) (Φ : D → Prop) : Prop := ∀ (B H : Hp) (v w : V) (Q : VK), Same B H → Rep K B v x → Rep K B w y → (∀ B' H' u z, Go none B H B' H' → Rep K B' u z → Φ z → Q u H') → r v w H Q
def RoU (r : V → Hp → VK → Prop) (x : D) (Φ : D → Prop) : Prop := ∀ (B H : Hp) (v : V) (Q : VK), Same B H → Rep K B v x → (∀ B' H' u z, Go none B H B' H' → Rep K B' u z → Φ z → Q u H') → r v H Q
def Rc (r : List V → Hp → VK → Prop) (ds : List D) (Φ : D → Prop) : Prop := ∀ (B H : Hp) (vs : List V) (Q : VK), Same B H → RepL K B vs ds → (∀ B' H' u z, Go none B H B' H' → Rep K B' u z → Φ z → Q u H') → r vs H Q
/-- a call that gives a new list -/
def RcL (r : List V → Hp → VK → Prop) (ds : List D) (Φ : List D → Prop) : Prop := ∀ (B H : Hp) (vs : List V) (Q : VK), Same B H → RepL K B vs ds → (∀ B' H' p xs zs, Go none B H B' H' → H p = none → B' p = none → H' p = some (.lst xs) → RepL K B' xs zs → Φ zs → Q (.ref p) H') → r vs H Q
/-- what is walked -/
def Yields (J : It) (B : Hp) (ds : List D) : Prop := ∀ B2 H2, Same B B2 → Same B2 H2 → (∀ i d, ds[i]? = some d → J.go i H2 ∧ ∀ x H3, J.yld i H2 x H3 → ∃ B3, Go none B2 H2 B3 H3 ∧ Rep K B3 x d) ∧ J.stop ds.length H2
def Ei (wi : TI) (Γ : List S) (ds : List D) : Prop := ∀ (hd : Option Hd) (fr : Addr → Prop) (B H : Hp) (σ : L2.St) (R : It → Hp → Prop), Sx K hd fr B H σ Γ →
  (∀ B' H' J, Go hd B H B' H' → Yields K J B' ds → R J H') → wi σ H R
/-- a target: the slots vs alone are stored -/
def Eg (g : TG) (d : D) (Γ Γ' : List S) (vs : List Nat) : Prop := ∀ (hd : Option Hd) (fr : Addr → Prop) (B H : Hp) (σ : L2.St) (v : V) (Q : L2.St → Hp → Prop), Sx K hd fr B H σ Γ → Rep K B v d →
  (∀ σ', Sx K hd fr B H σ' Γ' → wipe σ' vs = wipe σ vs → Q σ' H) → g v σ H Q
def Egs (g : TGs) (ds : List D) (Γ Γ' : List S) (vs : List Nat) : Prop := ∀ (hd : Option Hd) (fr : Addr → Prop) (B H : Hp) (σ : L2.St) (ws : List V) (Q : L2.St → Hp → Prop), Sx K hd fr B H σ Γ → RepL K B ws ds →
  (∀ σ', Sx K hd fr B H σ' Γ' → wipe σ' vs = wipe σ vs → Q σ' H) → g ws σ H Q
end
structure Post where
  nx : List S → Prop
  rt : D → Prop
  bk : List S → Prop
  ct : List S → Prop
def Es (K : PySem.W.Frag) (ts : TS) (Γ : List S) (Ψ : Post) : Prop := ∀ (hd : Option Hd) (fr : Addr → Prop) (B H : Hp) (σ : L2.St) (Dd : Ends), Sx K hd fr B H σ Γ →
  (∀ B' H' σ' Γ', Gs hd fr B H B' H' → Sx K hd fr B' H' σ' Γ' → Ψ.nx Γ' → Dd.nx σ' H') →
  (∀ B' H' v d, Gs hd fr B H B' H' → Same B' H' → HdOk hd B' H' → Rep K B' v d → Ψ.rt d → Dd.rt v H') →
  (∀ B' H' σ' Γ', Gs hd fr B H B' H' → Sx K hd fr B' H' σ' Γ' → Ψ.bk Γ' → Dd.bk σ' H') →
  (∀ B' H' σ' Γ', Gs hd fr B H B' H' → Sx K hd fr B' H' σ' Γ' → Ψ.ct Γ' → Dd.ct σ' H') → ts Dd σ H
/-- less is known -/
inductive Le : List S → List S → Prop
  | nil : Le [] []
  | eq {s : S} {a b : List S} : Le a b → Le (s :: a) (s :: b)
  | no {s : S} {a b : List S} : Le a b → Le (.no :: a) (s :: b)
theorem Le.refl : ∀ Γ : List S, Le Γ Γ
  | [] => .nil
  | _ :: r => .eq (Le.refl r)
theorem Le.len : ∀ {a b : List S}, Le a b → a.length = b.length
  | _, _, .nil => rfl
  | _, _, .eq h => congrArg (· + 1) h.len
  | _, _, .no h => congrArg (· + 1) h.len
theorem Le.get : ∀ {a b : List S} {i : Nat} {s : S}, Le a b → a[i]? = some s → s = .no ∨ b[i]? = some s
  | _, _, _, _, .nil, e => by simp at e
  | _, _, 0, _, .eq _, e => .inr e
  | _, _, 0, _, .no _, e => .inl (by simp at e; exact e.symm)
  | _, _, i + 1, _, .eq h, e => by simp only [List.getElem?_cons_succ] at e ⊢; exact Le.get h e
  | _, _, i + 1, _, .no h, e => by simp only [List.getElem?_cons_succ] at e ⊢; exact Le.get h e
section
variable {K : PySem.W.Frag} {hd : Option Hd} {fr : Addr → Prop} {B H B' H' : Hp} {σ : L2.St} {Γ Γ' Γ2 : List S}
theorem Sx.le (S0 : Sx K hd fr B H σ Γ) (l : Le Γ' Γ) : Sx K hd fr B H σ Γ' := by
  refine ⟨S0.sub, S0.hand, S0.new, by rw [l.len]; exact S0.len, fun i s e => ?_, fun i j a o u hij e1 e2 e3 e4 => ?_⟩
  · rcases l.get e with h | h
    · subst h
      trivial
    · exact S0.slot i s h
  · rcases l.get e1 with h1 | h1
    · cases h1
    · rcases l.get e2 with h2 | h2
      · cases h2
      · exact S0.dis i j a o u hij h1 h2 e3 e4
theorem Sx.refl (S0 : Sx K hd fr B H σ Γ) : Go hd B H B H := Go.refl S0.sub S0.hand
variable {ta tb te : TE} {tc td : TT} {x y z d e : D} {Φ : D → Prop} {r : R2}

/-! ### expressions -/
theorem e_imp {Φ' : D → Prop} (h : Ee K te Γ Φ) (i : ∀ d, Φ d → Φ' d) : Ee K te Γ Φ' := fun hd fr B H σ Q S0 k => h hd fr B H σ Q S0 fun B' H' v d g r p => k B' H' v d g r (i d p)
theorem Ev.imp (h : Ev K te Γ d) (p : Φ d) : Ee K te Γ Φ := e_imp h fun _ e => e ▸ p
theorem Ev.cast (h : Ev K te Γ d) (p : d = e) : Ev K te Γ e := p ▸ h
theorem e_var {i : Nat} (h : Γ[i]? = some (.val d)) : Ev K (tVar i) Γ d := fun hd fr B H σ Q S0 k => by
  obtain ⟨v, e1, r⟩ := S0.val h
  exact ⟨v, e1, k B H v d S0.refl r rfl⟩
theorem e_c {v : V} (h : ∀ B, Rep K B v d) : Ev K (tC v) Γ d := fun hd fr B H σ Q S0 k => k B H v d S0.refl (h B) rfl
theorem e_int {i : Int} : Ev K (tC (.int i)) Γ (.int i) := e_c fun _ => .int i
theorem e_bl {i : Bool} : Ev K (tC (.bl i)) Γ (.bl i) := e_c fun _ => .bl i
theorem e_str {i : Str} : Ev K (tC (.str i)) Γ (.str i) := e_c fun _ => .str i
theorem e_non : Ev K (tC .non) Γ .non := e_c fun _ => .non
theorem e_ty {n : String} : Ev K (tC (.ty n)) Γ (.ty n) := e_c fun _ => .ty n
theorem e_opq {a : Addr} : Ev K (tC (.ref a)) Γ (.opq a) := e_c fun _ => .opq a
/-- a tuple of the written part -/
theorem e_ktup {a : Addr} {xs : List V} {ds : List D} (h : ∀ H, SqT K H a xs) (r : ∀ B, RepL K B xs ds) : Ev K (tC (.ref a)) Γ (.tup ds) := e_c fun B => .tup (h B) (r B)
theorem e_op2 {Φa : D → Prop} {Φb : D → D → Prop} (ha : Ee K ta Γ Φa) (hb : ∀ x, Φa x → Ee K tb Γ (Φb x)) (hr : ∀ x y, Φa x → Φb x y → Ro K r x y Φ) : Ee K (tOp r ta tb) Γ Φ := fun hd fr B H σ Q S0 k =>
  ha hd fr B H σ _ S0 fun B1 H1 v x g1 r1 p1 => hb x p1 hd fr B1 H1 σ _ (S0.go g1) fun B2 H2 w y g2 r2 p2 => hr x y p1 p2 B2 H2 v w Q g2.sub (r1.mono g2.ext) r2 fun B3 H3 u z g3 r3 p3 => k B3 H3 u z ((g1.trans g2).trans (g3.up g2.hand)) r3 p3
theorem e_op (ha : Ev K ta Γ x) (hb : Ev K tb Γ y) (hr : Ro K r x y fun u => u = z) : Ev K (tOp r ta tb) Γ z :=
  e_op2 (Φb := fun _ b => b = y) ha (fun _ _ => hb) fun a b ea eb => by rw [ea, eb]; exact hr
theorem e_un {r : V → Hp → VK → Prop} (ha : Ev K ta Γ x) (hr : RoU K r x fun u => u = z) : Ev K (tUn r ta) Γ z := fun hd fr B H σ Q S0 k =>
  ha hd fr B H σ _ S0 fun B1 H1 v x' g1 r1 p1 => hr B1 H1 v Q g1.sub (p1 ▸ r1) fun B3 H3 u z g3 r3 p3 => k B3 H3 u z (g1.trans (g3.up g1.hand)) r3 p3
theorem ea_nil : Ea K tNil Γ fun x => x = [] := fun hd fr B H σ Q S0 k => k B H [] [] S0.refl .nil rfl
theorem ea_cons2 {Φa : D → Prop} {Φb : D → List D → Prop} {tr : TA} (ha : Ee K ta Γ Φa) (hr : ∀ x, Φa x → Ea K tr Γ (Φb x)) : Ea K (tCons ta tr) Γ fun zs => ∃ x xs, zs = x :: xs ∧ Φa x ∧ Φb x xs := fun hd fr B H σ Q S0 k =>
  ha hd fr B H σ _ S0 fun B1 H1 v x g1 r1 p1 => hr x p1 hd fr B1 H1 σ _ (S0.go g1) fun B2 H2 vs xs g2 r2 p2 => k B2 H2 _ (x :: xs) (g1.trans g2) (.cons (r1.mono g2.ext) r2) ⟨x, xs, rfl, p1, p2⟩
theorem ea_cons {tr : TA} {ds : List D} (ha : Ev K ta Γ x) (hr : Ea K tr Γ fun z => z = ds) : Ea K (tCons ta tr) Γ fun z => z = x :: ds := fun hd fr B H σ Q S0 k =>
  ea_cons2 (Φb := fun _ b => b = ds) ha (fun _ _ => hr) hd fr B H σ Q S0 fun B' H' vs ds' g r p => k B' H' vs ds' g r (by obtain ⟨a, b, e1, e2, e3⟩ := p; rw [e1, e2, e3])
theorem e_tup {ta : TA} {ds : List D} (h : Ea K ta Γ fun z => z = ds) (hl : ds.length ≤ 1000) : Ev K (tTup ta) Γ (.tup ds) := fun hd fr B H σ Q S0 k =>
  h hd fr B H σ _ S0 fun B1 H1 vs zs g r p => by
    subst p
    refine ⟨by rw [r.length]; exact Nat.le_of_lt (small1000 hl), fun q hq => ?_⟩
    have g2 := g.alloc (o := .tup vs) hq
    exact k _ _ _ _ g2 (.tup (.inl (.inl upd_same)) (r.mono ((Go.refl (hd := none) g.sub hd_none).alloc (o := .tup vs) hq).ext)) rfl
theorem l_lst {ta : TA} {ds : List D} (h : Ea K ta Γ fun z => z = ds) (hl : ds.length ≤ 1000) : EL K (tLst ta) Γ fun z => z = ds := fun hd fr B H σ Q S0 k =>
  h hd fr B H σ _ S0 fun B1 H1 vs zs g r p => by
    subst p
    refine ⟨by rw [r.length]; exact Nat.le_of_lt (small1000 hl), fun q hq => ?_⟩
    have nb : B1 q = none := by
      cases e : B1 q with
      | none => rfl
      | some u =>
        rw [g.sub _ _ e] at hq
        cases hq
    exact k B1 _ q vs zs (g.fresh hq) (g.live S0.hand S0.sub hq) nb upd_same r rfl
/-- a new list, taken as a value -/
theorem EL.ee {Φ : List D → Prop} (h : EL K te Γ Φ) : Ee K te Γ fun z => ∃ ds, z = .lst ds ∧ Φ ds := fun hd fr B H σ Q S0 k =>
  h hd fr B H σ Q S0 fun B1 H1 p xs ds g np nb hp r f => by
    have ss : Same B1 (upd B1 p (.lst xs)) := same_upd nb
    refine k (upd B1 p (.lst xs)) H1 _ (.lst ds) ⟨g.ext.trans ss, fun b o e => ?_, fun a o t e nB c => ?_, g.tups, fun h eh => ?_⟩ (.lst upd_same (r.mono ss)) ⟨ds, rfl, f⟩
    · by_cases hb : b = p
      · rw [hb, upd_same] at e
        rw [hb, hp]
        exact e
      · rw [upd_ne hb] at e
        exact g.sub _ _ e
    · obtain ⟨e1, n1⟩ := g.keep a o t e nB c
      have hne : a ≠ p := ne_of_none e np
      exact ⟨e1, by rw [upd_ne hne]; exact n1⟩
    · obtain ⟨a, b, c, c2, pos, rest, tot, d, e⟩ := g.hand h eh
      have hl : h.l ≠ p := by
        obtain ⟨_, _, _, _, p2, r2, t2, d2, _⟩ := S0.hand h eh
        exact ne_of_none d2 np
      exact ⟨by rw [upd_ne hl]; exact a, ss _ _ b, c, c2, pos, rest, tot, d, e⟩
theorem EL.ev {ds : List D} (h : EL K te Γ fun z => z = ds) : Ev K te Γ (.lst ds) := e_imp h.ee fun z p => by obtain ⟨a, e1, e2⟩ := p; rw [e1, e2]
theorem e_lst {ta : TA} {ds : List D} (h : Ea K ta Γ fun z => z = ds) (hl : ds.length ≤ 1000) : Ev K (tLst ta) Γ (.lst ds) := (l_lst h hl).ev
theorem e_cb {r : List V → Hp → VK → Prop} {ta : TA} {ds : List D} (h : Ea K ta Γ fun z => z = ds) (hr : Rc K r ds Φ) : Ee K (tCB r ta) Γ Φ := fun hd fr B H σ Q S0 k =>
  h hd fr B H σ _ S0 fun B1 H1 vs zs g r1 p => hr B1 H1 vs Q g.sub (p ▸ r1) fun B3 H3 u z g3 r3 p3 => k B3 H3 u z (g.trans (g3.up g.hand)) r3 p3
theorem l_cb {r : List V → Hp → VK → Prop} {ta : TA} {ds : List D} {Φ : List D → Prop} (h : Ea K ta Γ fun z => z = ds) (hr : RcL K r ds Φ) : EL K (tCB r ta) Γ Φ := fun hd fr B H σ Q S0 k =>
  h hd fr B H σ _ S0 fun B1 H1 vs zs g r1 p => hr B1 H1 vs Q g.sub (p ▸ r1) fun B3 H3 q xs us g3 nq nb hq r3 p3 => k B3 H3 q xs us (g.trans (g3.up g.hand)) (g.live S0.hand S0.sub nq) nb hq r3 p3
theorem e_fld {f : Str} {C : Addr} {gs : List (Str × D)} (h : Ev K te Γ (.ins C gs)) (hc : Cls K C) (hn : NoAttr K C f) (hl : gs.lookup f = some d) : Ev K (tFld K te f) Γ d := fun hd fr B H σ Q S0 k =>
  h hd fr B H σ _ S0 fun B1 H1 v x g r p => by
    subst p
    obtain ⟨a, dx, fs, rfl, ha, rf⟩ := r.ofIns
    obtain ⟨u, hu, ru⟩ := rf.lookup hl
    exact ⟨a, C, dx, fs, u, rfl, g.sub _ _ ha, hc, hn, hu, k B1 H1 u d g ru rfl⟩
theorem e_if {b : Bool} (h : Et K tc Γ fun x => x = b) (h1 : b = true → Ee K ta Γ Φ) (h2 : b = false → Ee K tb Γ Φ) : Ee K (tIf tc ta tb) Γ Φ := fun hd fr B H σ Q S0 k =>
  h hd fr B H σ _ S0 fun B1 H1 b' g p => by
    subst p
    cases b' with
    | true => exact iteT (h1 rfl hd fr B1 H1 σ Q (S0.go g) fun B2 H2 v d g2 r2 p2 => k B2 H2 v d (g.trans g2) r2 p2)
    | false => exact iteF (h2 rfl hd fr B1 H1 σ Q (S0.go g) fun B2 H2 v d g2 r2 p2 => k B2 H2 v d (g.trans g2) r2 p2)
theorem e_and {a b : Bool} (h1 : Ev K ta Γ (.bl a)) (h2 : a = true → Ev K tb Γ (.bl b)) : Ev K (tAndV ta tb) Γ (.bl (a && b)) := fun hd fr B H σ Q S0 k =>
  h1 hd fr B H σ _ S0 fun B1 H1 v x g r p => by
    subst p
    refine ⟨a, r.ofBl, ?_⟩
    cases a with
    | true => exact iteT (h2 rfl hd fr B1 H1 σ Q (S0.go g) fun B2 H2 v d g2 r2 p2 => k B2 H2 v d (g.trans g2) r2 p2)
    | false => exact iteF (k B1 H1 _ _ g (.bl false) rfl)
theorem e_or {a b : Bool} (h1 : Ev K ta Γ (.bl a)) (h2 : a = false → Ev K tb Γ (.bl b)) : Ev K (tOrV ta tb) Γ (.bl (a || b)) := fun hd fr B H σ Q S0 k =>
  h1 hd fr B H σ _ S0 fun B1 H1 v x g r p => by
    subst p
    refine ⟨a, r.ofBl, ?_⟩
    cases a with
    | false => exact iteF (h2 rfl hd fr B1 H1 σ Q (S0.go g) fun B2 H2 v d g2 r2 p2 => k B2 H2 v d (g.trans g2) r2 p2)
    | true => exact iteT (k B1 H1 _ _ g (.bl true) rfl)
theorem e_not {a : Bool} (h1 : Ev K ta Γ (.bl a)) : Ev K (tNotV ta) Γ (.bl (!a)) := fun hd fr B H σ Q S0 k =>
  h1 hd fr B H σ _ S0 fun B1 H1 v x g r p => by
    subst p
    exact ⟨a, r.ofBl, k B1 H1 _ _ g (.bl _) rfl⟩
theorem e_chain {r r' : R2} {tc' : TE} {a b : Bool} (h1 : Ev K ta Γ x) (h2 : Ev K tb Γ y) (hr : Ro K r x y fun u => u = .bl a) (h3 : a = true → Ev K tc' Γ z) (hr' : a = true → Ro K r' y z fun u => u = .bl b) : Ev K (tChain r r' ta tb tc') Γ (.bl (a && b)) := fun hd fr B H σ Q S0 k =>
  h1 hd fr B H σ _ S0 fun B1 H1 v x' g1 r1 p1 => h2 hd fr B1 H1 σ _ (S0.go g1) fun B2 H2 w y' g2 r2 p2 => by
    subst p1 p2
    refine hr B2 H2 v w _ g2.sub (r1.mono g2.ext) r2 fun B3 H3 u z' g3 r3 p3 => ?_
    subst p3
    refine ⟨a, r3.ofBl, ?_⟩
    have g' := (g1.trans g2).trans (g3.up g2.hand)
    cases a with
    | true => exact iteT (h3 rfl hd fr B3 H3 σ _ (S0.go g') fun B4 H4 w' z4 g4 r4 p4 => by
        subst p4
        exact hr' rfl B4 H4 w w' Q g4.sub (r2.mono (g3.ext.trans g4.ext)) r4 fun B5 H5 u5 z5 g5 r5 p5 => k B5 H5 u5 z5 ((g'.trans g4).trans (g5.up g4.hand)) r5 p5)
    | false => exact iteF (k B3 H3 _ _ g' (.bl false) rfl)
theorem o_none : Eo K tNoPart Γ none := fun hd fr B H σ Q S0 k => k B H S0.refl
theorem o_some {i : Int} (h : Ev K te Γ (.int i)) : Eo K (tPart te) Γ (some i) := fun hd fr B H σ Q S0 k => h hd fr B H σ _ S0 fun B1 H1 v x g r p => ⟨i, (p ▸ r).ofInt, k B1 H1 g⟩
/-- a slice -/
def RoS (K : PySem.W.Frag) (r : V → Option Int → Option Int → Hp → VK → Prop) (x : D) (lo hi : Option Int) (Φ : D → Prop) : Prop := ∀ (B H : Hp) (v : V) (Q : VK), Same B H → Rep K B v x → (∀ B' H' u z, Go none B H B' H' → Rep K B' u z → Φ z → Q u H') → r v lo hi H Q
theorem e_sl {r : V → Option Int → Option Int → Hp → VK → Prop} {tl th : TO} {lo hi : Option Int} (h : Ev K te Γ x) (h1 : Eo K tl Γ lo) (h2 : Eo K th Γ hi) (hr : RoS K r x lo hi Φ) : Ee K (tSl r te tl th) Γ Φ := fun hd fr B H σ Q S0 k =>
  h hd fr B H σ _ S0 fun B1 H1 v x' g1 r1 p1 => h1 hd fr B1 H1 σ _ (S0.go g1) fun B2 H2 g2 => h2 hd fr B2 H2 σ _ (S0.go (g1.trans g2)) fun B3 H3 g3 => by
    subst p1
    exact hr B3 H3 v Q g3.sub (r1.mono (g2.ext.trans g3.ext)) fun B4 H4 u z g4 r4 p4 => k B4 H4 u z (((g1.trans g2).trans g3).trans (g4.up g3.hand)) r4 p4

/-! ### tests -/
theorem t_imp {Φ Φ' : Bool → Prop} (h : Et K tc Γ Φ) (i : ∀ d, Φ d → Φ' d) : Et K tc Γ Φ' := fun hd fr B H σ Q S0 k => h hd fr B H σ Q S0 fun B' H' b g p => k B' H' b g (i b p)
theorem t_test2 {Φ : Bool → Prop} (h : Ee K te Γ fun z => ∃ b, z = .bl b ∧ Φ b) : Et K (tTest te) Γ Φ := fun hd fr B H σ Q S0 k => h hd fr B H σ _ S0 fun B1 H1 v x g r p => by
  obtain ⟨b, e, f⟩ := p
  subst e
  exact ⟨b, r.ofBl, k B1 H1 b g f⟩
theorem t_test {b : Bool} (h : Ev K te Γ (.bl b)) : Et K (tTest te) Γ fun x => x = b := t_test2 (e_imp h fun _ e => ⟨b, e, rfl⟩)
theorem t_B {b : Bool} (h : Ev K te Γ (.bl b)) : Et K (tB te) Γ fun x => x = b := fun hd fr B H σ Q S0 k => h hd fr B H σ _ S0 fun B1 H1 v x g r p => by
  subst p
  exact ⟨b, r.ofBl, k B1 H1 b g rfl⟩
theorem t_and2 {Φ Φ' : Bool → Prop} (h1 : Et K tc Γ Φ) (h2 : Φ true → Et K td Γ Φ') (h3 : Φ false → Φ' false) : Et K (tAnd tc td) Γ Φ' := fun hd fr B H σ Q S0 k => h1 hd fr B H σ _ S0 fun B1 H1 b g p => by
  cases b with
  | true => exact iteT (h2 p hd fr B1 H1 σ Q (S0.go g) fun B2 H2 b2 g2 p2 => k B2 H2 b2 (g.trans g2) p2)
  | false => exact iteF (k B1 H1 false g (h3 p))
theorem t_and {a b : Bool} (h1 : Et K tc Γ fun x => x = a) (h2 : a = true → Et K td Γ fun x => x = b) : Et K (tAnd tc td) Γ fun x => x = (a && b) :=
  t_and2 h1 (fun e => by subst e; exact h2 rfl) fun e => by subst e; rfl
theorem t_or {a b : Bool} (h1 : Et K tc Γ fun x => x = a) (h2 : a = false → Et K td Γ fun x => x = b) : Et K (tOr tc td) Γ fun x => x = (a || b) := fun hd fr B H σ Q S0 k => h1 hd fr B H σ _ S0 fun B1 H1 b' g p => by
  subst p
  cases b' with
  | false => exact iteF (h2 rfl hd fr B1 H1 σ Q (S0.go g) fun B2 H2 b2 g2 p2 => k B2 H2 b2 (g.trans g2) p2)
  | true => exact iteT (k B1 H1 true g rfl)
theorem t_not {a : Bool} (h1 : Et K tc Γ fun x => x = a) : Et K (tNot tc) Γ fun x => x = !a := fun hd fr B H σ Q S0 k => h1 hd fr B H σ _ S0 fun B1 H1 b g p => k B1 H1 _ g (by rw [p])

/-! ### one's own list looked at -/
def D.flat : D → Bool
  | .non | .bl _ | .int _ | .str _ => true
  | _ => false
theorem Rep.flat_any {v : V} {d : D} {B B' : Hp} (f : d.flat = true) (r : Rep K B v d) : Rep K B' v d := by
  cases d with
  | non => cases r; exact .non
  | bl b => cases r; exact .bl _
  | int i => cases r; exact .int _
  | str x => cases r; exact .str _
  | tup _ => cases f
  | lst _ => cases f
  | ins _ _ => cases f
  | opq _ => cases f
  | ty _ => cases f
  | scr _ => cases f
theorem Go.unpeek {l : Addr} {xs : List V} (n : B l = none) (hl : H l = some (.lst xs)) (k : ∀ h, hd = some h → l ≠ h.l) (hh : HdOk hd B H) (g : Go hd (upd B l (.lst xs)) H B' H') :
    Go hd B H (fun a => if a = l then none else B' a) H' := by
  refine ⟨fun b o e => ?_, fun b o e => ?_, fun a o t e nB c => ?_, g.tups, fun h eh => ?_⟩
  · have hb : b ≠ l := ne_of_none e n
    show (if b = l then none else B' b) = some o
    rw [if_neg hb]
    exact g.ext _ _ (by rw [upd_ne hb]; exact e)
  · have e' : (if b = l then none else B' b) = some o := e
    by_cases hb : b = l
    · rw [if_pos hb] at e'
      cases e'
    · rw [if_neg hb] at e'
      exact g.sub _ _ e'
  · show H' a = some o ∧ (if a = l then none else B' a) = none
    by_cases ha : a = l
    · rw [if_pos ha]
      refine ⟨?_, rfl⟩
      rw [ha] at e ⊢
      rw [hl] at e
      rw [← e]
      exact g.sub _ _ (g.ext _ _ upd_same)
    · rw [if_neg ha]
      exact g.keep a o t e (by rw [upd_ne ha]; exact nB) c
  · obtain ⟨a, b, c, c2, pos, rest, tot, d, e⟩ := g.hand h eh
    obtain ⟨_, b0, _⟩ := hh h eh
    have hc : h.c ≠ l := ne_of_none b0 n
    refine ⟨?_, ?_, c, c2, pos, rest, tot, d, e⟩
    · show (if h.l = l then none else B' h.l) = none
      rw [if_neg (Ne.symm (k h eh))]
      exact a
    · show (if h.c = l then none else B' h.c) = _
      rw [if_neg hc]
      exact b
theorem e_peek {i : Nat} {ds : List D} (ei : Γ[i]? = some (.own (.lst ds))) (h : Ee K te (Γ.set i (.val (.lst ds))) Φ) (f : ∀ d, Φ d → d.flat = true) : Ee K te Γ Φ := fun hd fr B H σ Q S0 k => by
  obtain ⟨B1, S1, g1, l, xs, e1, eB, hl, n, fl, r⟩ := S0.freeze ei
  obtain ⟨l', u, e1', _, _, _, _, kk⟩ := S0.slot i _ ei
  rw [e1] at e1'
  cases Option.some.inj (Option.some.inj e1')
  subst eB
  exact h hd fr _ H σ Q S1 fun B' H' v d g rr p => k _ H' v d (Go.unpeek n hl kk S0.hand g) (rr.flat_any (f d p)) p
theorem t_peek {i : Nat} {ds : List D} {Φ : Bool → Prop} (ei : Γ[i]? = some (.own (.lst ds))) (h : Et K tc (Γ.set i (.val (.lst ds))) Φ) : Et K tc Γ Φ := fun hd fr B H σ Q S0 k => by
  obtain ⟨B1, S1, g1, l, xs, e1, eB, hl, n, fl, r⟩ := S0.freeze ei
  obtain ⟨l', u, e1', _, _, _, _, kk⟩ := S0.slot i _ ei
  rw [e1] at e1'
  cases Option.some.inj (Option.some.inj e1')
  subst eB
  exact h hd fr _ H σ Q S1 fun B' H' b g p => k _ H' b (Go.unpeek n hl kk S0.hand g) p
/-- an item of one's own list -/
theorem e_ixOwn {i : Nat} {ds : List D} {j : Int} (ei : Γ[i]? = some (.own (.lst ds))) (hj : Ev K tb Γ (.int j)) (ha : atI ds j = some d) (hr : ∀ (H : Hp) (a : Addr) (xs : List V) (v : V) (Q : VK), SqL K H a xs → atI xs j = some v → Q v H → r (.ref a) (.int j) H Q) : Ev K (tOp r (tVar i) tb) Γ d := fun hd fr B H σ Q S0 k => by
  obtain ⟨l, u, e1, f, n, hl, rr, kk⟩ := S0.slot i _ ei
  cases u with
  | lst xs =>
    have rl : RepL K B xs ds := rr
    refine ⟨.ref l, e1, hj hd fr B H σ _ S0 fun B1 H1 w y g r1 p => ?_⟩
    subst p
    rw [r1.ofInt]
    obtain ⟨h1, n1⟩ := g.keep l _ rfl hl n kk
    unfold atI at ha
    cases q : ixN ds.length j with
    | none => rw [q] at ha; cases ha
    | some m =>
      rw [q] at ha
      have ha' : ds[m]? = some d := ha
      obtain ⟨v, hv, rv⟩ := rl.get ha'
      refine hr H1 l xs v Q (.inl (.inl h1)) ?_ (k B1 H1 v d g (rv.mono g.ext) rfl)
      unfold atI
      rw [rl.length, q]
      exact hv
  | _ => exact rr.elim
end
end JD
set_option maxHeartbeats 2000000
namespace JD
open PySem PySem.Spec PyProof.Rows L2
section
variable {K : PySem.W.Frag} {Γ Γ' Γ2 : List S} {ta tb te : TE} {tc td : TT} {x y z d e : D} {Φ : D → Prop} {r : R2} {Ψ : Post} {ts tu : TS}
/-! ### statements -/
theorem s_seq (h : Es K ts Γ { Ψ with nx := fun Γ' => Es K tu Γ' Ψ }) : Es K (tSeq ts tu) Γ Ψ := fun hd fr B H σ Dd S0 k1 k2 k3 k4 =>
  h hd fr B H σ { Dd with nx := tu Dd } S0
    (fun B' H' σ' Γ' g S1 q => q hd fr B' H' σ' Dd S1 (fun B2 H2 σ2 Γ2 g2 S2 q2 => k1 B2 H2 σ2 Γ2 (g.trans g2) S2 q2) (fun B2 H2 v d g2 a b c e => k2 B2 H2 v d (g.trans g2) a b c e)
      (fun B2 H2 σ2 Γ2 g2 S2 q2 => k3 B2 H2 σ2 Γ2 (g.trans g2) S2 q2) (fun B2 H2 σ2 Γ2 g2 S2 q2 => k4 B2 H2 σ2 Γ2 (g.trans g2) S2 q2)) k2 k3 k4
theorem s_imp {Ψ' : Post} (h : Es K ts Γ Ψ) (h1 : ∀ Γ', Ψ.nx Γ' → Ψ'.nx Γ') (h2 : ∀ d, Ψ.rt d → Ψ'.rt d) (h3 : ∀ Γ', Ψ.bk Γ' → Ψ'.bk Γ') (h4 : ∀ Γ', Ψ.ct Γ' → Ψ'.ct Γ') : Es K ts Γ Ψ' := fun hd fr B H σ Dd S0 k1 k2 k3 k4 =>
  h hd fr B H σ Dd S0 (fun B' H' σ' Γ' g S1 q => k1 B' H' σ' Γ' g S1 (h1 _ q)) (fun B' H' v d g a b c q => k2 B' H' v d g a b c (h2 _ q)) (fun B' H' σ' Γ' g S1 q => k3 B' H' σ' Γ' g S1 (h3 _ q)) (fun B' H' σ' Γ' g S1 q => k4 B' H' σ' Γ' g S1 (h4 _ q))
/-- a word between -/
theorem s_mid (M : List S → Prop) (h : Es K ts Γ ⟨M, Ψ.rt, Ψ.bk, Ψ.ct⟩) (k : ∀ Γ', M Γ' → Es K tu Γ' Ψ) : Es K (tSeq ts tu) Γ Ψ := s_seq (s_imp h k (fun _ z => z) (fun _ z => z) fun _ z => z)
/-- less known ahead of a statement -/
theorem s_le (l : Le Γ' Γ) (h : Es K ts Γ' Ψ) : Es K ts Γ Ψ := fun hd fr B H σ Dd S0 k1 k2 k3 k4 => h hd fr B H σ Dd (S0.le l) k1 k2 k3 k4
/-- one's own list is a value from here on -/
theorem s_frz (i : Nat) {ds : List D} (ei : Γ[i]? = some (.own (.lst ds))) (h : Es K ts (Γ.set i (.val (.lst ds))) Ψ) : Es K ts Γ Ψ := fun hd fr B H σ Dd S0 k1 k2 k3 k4 => by
  obtain ⟨B1, S1, g1, _⟩ := S0.freeze ei
  exact h hd fr B1 H σ Dd S1 (fun B' H' σ' Γ' g S2 q => k1 B' H' σ' Γ' (g1.trans g) S2 q) (fun B' H' v d g a b c q => k2 B' H' v d (g1.trans g) a b c q) (fun B' H' σ' Γ' g S2 q => k3 B' H' σ' Γ' (g1.trans g) S2 q) (fun B' H' σ' Γ' g S2 q => k4 B' H' σ' Γ' (g1.trans g) S2 q)
theorem s_next (h : Ψ.nx Γ) : Es K tNext Γ Ψ := fun hd fr B H σ Dd S0 k1 k2 k3 k4 => k1 B H σ Γ .refl S0 h
theorem s_brk (h : Ψ.bk Γ) : Es K tBreak Γ Ψ := fun hd fr B H σ Dd S0 k1 k2 k3 k4 => k3 B H σ Γ .refl S0 h
theorem s_ret (h : Ee K te Γ Φ) (q : ∀ d, Φ d → Ψ.rt d) : Es K (tRet te) Γ Ψ := fun hd fr B H σ Dd S0 k1 k2 k3 k4 => h hd fr B H σ _ S0 fun B' H' v d g r p => k2 B' H' v d g.gs g.sub g.hand r (q d p)
theorem s_retV (h : Ev K te Γ d) (q : Ψ.rt d) : Es K (tRet te) Γ Ψ := s_ret h fun _ e => e ▸ q
theorem s_asg {i : Nat} (h : Ee K te Γ Φ) (q : ∀ d, Φ d → Ψ.nx (Γ.set i (.val d))) : Es K (tAsg te (gName i)) Γ Ψ := fun hd fr B H σ Dd S0 k1 k2 k3 k4 => h hd fr B H σ _ S0 fun B' H' v d g r p => k1 B' H' _ _ g.gs ((S0.go g).set_val i r) (q d p)
theorem s_asgV {i : Nat} (h : Ev K te Γ d) (q : Ψ.nx (Γ.set i (.val d))) : Es K (tAsg te (gName i)) Γ Ψ := s_asg h fun _ e => e ▸ q
theorem s_asgL {i : Nat} {Φ : List D → Prop} (h : EL K te Γ Φ) (q : ∀ ds, Φ ds → Ψ.nx (Γ.set i (.own (.lst ds)))) : Es K (tAsg te (gName i)) Γ Ψ := fun hd fr B H σ Dd S0 k1 k2 k3 k4 => h hd fr B H σ _ S0 fun B' H' p xs ds g np nb hp r f => by
  have S1 := S0.go g
  refine k1 B' H' _ _ g.gs (S1.set_own i (S0.new p np) nb hp (show ORep K B' (.lst xs) (.lst ds) from r) (fun h eh => ?_) (fun j o' ej e2 => ?_)) (q ds f)
  · obtain ⟨_, _, _, _, p2, r2, t2, d2, _⟩ := S0.hand h eh
    exact (ne_of_none d2 np).symm
  · obtain ⟨l, u, e1, _, _, hl, _⟩ := S0.slot j _ ej
    rw [e1] at e2
    have z := Option.some.inj (Option.some.inj e2)
    injection z with z
    rw [z, np] at hl
    cases hl
theorem s_asgLV {i : Nat} {ds : List D} (h : EL K te Γ fun z => z = ds) (q : Ψ.nx (Γ.set i (.own (.lst ds)))) : Es K (tAsg te (gName i)) Γ Ψ := s_asgL h fun _ e => e ▸ q
theorem s_par {i j : Nat} {ta : TA} {a b : D} (h : Ea K ta Γ fun z => z = [a, b]) (q : Ψ.nx ((Γ.set i (.val a)).set j (.val b))) : Es K (tPar i j ta) Γ Ψ := fun hd fr B H σ Dd S0 k1 k2 k3 k4 => h hd fr B H σ _ S0 fun B' H' vs ds g r p => by
  subst p
  cases r with
  | cons r1 t => cases t with
    | cons r2 t2 => cases t2 with
      | nil => exact ⟨_, _, rfl, k1 B' H' _ _ g.gs (((S0.go g).set_val i r1).set_val j r2) q⟩
theorem s_asgG {g : TG} {vs : List Nat} (h : Ev K te Γ d) (hg : Eg K g d Γ Γ' vs) (q : Ψ.nx Γ') : Es K (tAsg te g) Γ Ψ := fun hd fr B H σ Dd S0 k1 k2 k3 k4 => h hd fr B H σ _ S0 fun B' H' v d' g1 r p => by
  subst p
  exact hg hd fr B' H' σ v _ (S0.go g1) r fun σ' S1 _ => k1 B' H' σ' Γ' g1.gs S1 q
theorem s_if {Φ : Bool → Prop} (h : Et K tc Γ Φ) (h1 : Φ true → Es K ts Γ Ψ) (h2 : Φ false → Es K tu Γ Ψ) : Es K (tIfS tc ts tu) Γ Ψ := fun hd fr B H σ Dd S0 k1 k2 k3 k4 => h hd fr B H σ _ S0 fun B' H' b g p => by
  have S1 := S0.go g
  have gg := g.gs (fr := fr)
  cases b with
  | true => exact iteT (h1 p hd fr B' H' σ Dd S1 (fun B2 H2 σ2 Γ2 g2 S2 q => k1 B2 H2 σ2 Γ2 (gg.trans g2) S2 q) (fun B2 H2 v d g2 a b c q => k2 B2 H2 v d (gg.trans g2) a b c q) (fun B2 H2 σ2 Γ2 g2 S2 q => k3 B2 H2 σ2 Γ2 (gg.trans g2) S2 q) (fun B2 H2 σ2 Γ2 g2 S2 q => k4 B2 H2 σ2 Γ2 (gg.trans g2) S2 q))
  | false => exact iteF (h2 p hd fr B' H' σ Dd S1 (fun B2 H2 σ2 Γ2 g2 S2 q => k1 B2 H2 σ2 Γ2 (gg.trans g2) S2 q) (fun B2 H2 v d g2 a b c q => k2 B2 H2 v d (gg.trans g2) a b c q) (fun B2 H2 σ2 Γ2 g2 S2 q => k3 B2 H2 σ2 Γ2 (gg.trans g2) S2 q) (fun B2 H2 σ2 Γ2 g2 S2 q => k4 B2 H2 σ2 Γ2 (gg.trans g2) S2 q))
theorem s_ifT (h : Et K tc Γ fun x => x = true) (h1 : Es K ts Γ Ψ) : Es K (tIfS tc ts tu) Γ Ψ := s_if h (fun _ => h1) fun e => by cases e
theorem s_ifF (h : Et K tc Γ fun x => x = false) (h1 : Es K tu Γ Ψ) : Es K (tIfS tc ts tu) Γ Ψ := s_if h (fun e => by cases e) fun _ => h1
theorem s_ifB {b : Bool} (h : Et K tc Γ fun x => x = b) (h1 : b = true → Es K ts Γ Ψ) (h2 : b = false → Es K tu Γ Ψ) : Es K (tIfS tc ts tu) Γ Ψ := s_if h (fun e => h1 e.symm) fun e => h2 e.symm
theorem s_drop (h : Ee K te Γ Φ) (q : Ψ.nx Γ) : Es K (tDrop te) Γ Ψ := fun hd fr B H σ Dd S0 k1 k2 k3 k4 => h hd fr B H σ _ S0 fun B' H' v d g r p => k1 B' H' _ _ g.gs (S0.go g) q
/-- xs.append(e) -/
theorem s_app {i : Nat} {ds : List D} (ei : Γ[i]? = some (.own (.lst ds))) (h : Ee K te Γ Φ) (hz : ds.length < 100000) (q : ∀ d, Φ d → Ψ.nx (Γ.set i (.own (.lst (ds ++ [d]))))) : Es K (tDrop (tBM K "list" rAppend (tVar i) (tCons te tNil))) Γ Ψ := fun hd fr B H σ Dd S0 k1 k2 k3 k4 => by
  obtain ⟨l, u, e1, f, n, hl, rr, kk⟩ := S0.slot i _ ei
  cases u with
  | lst xs =>
    have rl : RepL K B xs ds := rr
    refine ⟨.ref l, e1, .inl ⟨rfl, xs, .inl (.inl hl)⟩, h hd fr B H σ _ S0 fun B1 H1 v d g r p => ?_⟩
    obtain ⟨h1, n1⟩ := g.keep l _ rfl hl n kk
    refine ⟨l, xs, v, rfl, rfl, h1, by rw [rl.length]; exact Nat.lt_of_lt_of_le hz (by decide), ?_⟩
    obtain ⟨S2, g2⟩ := (S0.go g).upd_own (u' := .lst (xs ++ [v])) (o' := .lst (ds ++ [d])) ei e1 ((rl.mono g.ext).append (.one r))
    exact k1 B1 _ σ _ (g.gs.trans g2) S2 (q d p)
  | _ => exact rr.elim
theorem s_appV {i : Nat} {ds : List D} (ei : Γ[i]? = some (.own (.lst ds))) (h : Ev K te Γ d) (hz : ds.length < 100000) (q : Ψ.nx (Γ.set i (.own (.lst (ds ++ [d]))))) : Es K (tDrop (tBM K "list" rAppend (tVar i) (tCons te tNil))) Γ Ψ := s_app ei h hz fun _ e => e ▸ q
/-- x = xs.pop() (x in slot j) -/
theorem s_pop {i j : Nat} {ds : List D} (ei : Γ[i]? = some (.own (.lst (ds ++ [d])))) (hij : i ≠ j) (q : Ψ.nx ((Γ.set i (.own (.lst ds))).set j (.val d))) : Es K (tAsg (tBM0 K "list" rPop (tVar i)) (gName j)) Γ Ψ := fun hd fr B H σ Dd S0 k1 k2 k3 k4 => by
  obtain ⟨l, u, e1, f, n, hl, rr, kk⟩ := S0.slot i _ ei
  cases u with
  | lst xs =>
    have rl : RepL K B xs (ds ++ [d]) := rr
    obtain ⟨v, hv, rv⟩ := rl.get (i := ds.length) (d := d) (by simp)
    have hlen : xs.length = ds.length + 1 := by rw [rl.length]; simp
    refine ⟨.ref l, e1, .inl ⟨rfl, xs, .inl (.inl hl)⟩, l, xs, v, rfl, rfl, hl, by rw [hlen]; exact hv, ?_⟩
    obtain ⟨S2, g2⟩ := S0.upd_own (u' := .lst xs.dropLast) (o' := .lst ds) ei e1 (by
      have := rl.dropLast
      rw [List.dropLast_concat] at this
      exact this)
    exact k1 B _ _ _ g2 (S2.set_val j rv) q
  | _ => exact rr.elim
/-- xs[i] = e -/
theorem s_setL {i : Nat} {ds : List D} {j : Int} {m : Nat} (ei : Γ[i]? = some (.own (.lst ds))) (h : Ev K te Γ d) (hj : Ev K tb Γ (.int j)) (hm : ixN ds.length j = some m) (q : Ψ.nx (Γ.set i (.own (.lst (ds.set m d))))) : Es K (tAsg te (gSub (tVar i) tb rSetL)) Γ Ψ := fun hd fr B H σ Dd S0 k1 k2 k3 k4 =>
  h hd fr B H σ _ S0 fun B1 H1 v d' g1 r1 p1 => by
    subst p1
    obtain ⟨l, u, e1, f, n, hl, rr, kk⟩ := (S0.go g1).slot i _ ei
    cases u with
    | lst xs =>
      have rl : RepL K B1 xs ds := rr
      refine ⟨.ref l, e1, hj hd fr B1 H1 σ _ (S0.go g1) fun B2 H2 w y g2 r2 p2 => ?_⟩
      subst p2
      obtain ⟨h2, n2⟩ := g2.keep l _ rfl hl n kk
      refine ⟨l, xs, j, m, rfl, r2.ofInt, h2, by rw [rl.length]; exact hm, ?_⟩
      obtain ⟨S2, g3⟩ := ((S0.go g1).go g2).upd_own (u' := .lst (xs.set m v)) (o' := .lst (ds.set m d')) ei e1 (RepL.set (r1.mono g2.ext) m (rl.mono g2.ext))
      exact k1 B2 _ σ _ ((g1.gs.trans g2.gs).trans g3) S2 q
    | _ => exact rr.elim

/-! ### targets -/
theorem wipe_set {σ : L2.St} {i : Nat} {v : V} {vs : List Nat} (h : i ∈ vs) : wipe (σ.set i (some v)) vs = wipe σ vs := by
  apply List.ext_getElem?
  intro n
  have key : ∀ (vs : List Nat) (σ : L2.St) (n : Nat), (wipe σ vs)[n]? = if n ∈ vs then (if n < σ.length then some none else none) else σ[n]? := by
    intro vs
    induction vs with
    | nil => intro σ n; simp [wipe]
    | cons a r ih =>
      intro σ n
      show ((wipe σ r).set a none)[n]? = _
      rw [List.getElem?_set]
      by_cases e : a = n
      · subst e
        rw [if_pos rfl, wipe_length]
        simp
      · rw [if_neg e, ih]
        by_cases m : n ∈ r
        · simp [m]
        · have : ¬ n = a := fun z => e z.symm
          simp [m, this]
  rw [key, key, List.length_set]
  by_cases m : n ∈ vs
  · rw [if_pos m, if_pos m]
  · rw [if_neg m, if_neg m, List.getElem?_set_ne]
    intro z
    exact m (z ▸ h)
theorem g_name {i : Nat} {vs : List Nat} (h : i ∈ vs := by simp) : Eg K (gName i) d Γ (Γ.set i (.val d)) vs := fun hd fr B H σ v Q S0 r k => k _ (S0.set_val i r) (wipe_set h)
theorem gs_nil {vs : List Nat} : Egs K gNil [] Γ Γ vs := fun hd fr B H σ ws Q S0 r k => by
  cases r
  exact ⟨rfl, k σ S0 rfl⟩
theorem gs_cons {g : TG} {gs : TGs} {ds : List D} {vs : List Nat} (h : Eg K g d Γ Γ' vs) (t : Egs K gs ds Γ' Γ2 vs) : Egs K (gCons g gs) (d :: ds) Γ Γ2 vs := fun hd fr B H σ ws Q S0 r k => by
  cases r with
  | cons r1 r2 => exact ⟨_, _, rfl, h hd fr B H σ _ _ S0 r1 fun σ' S1 e1 => t hd fr B H σ' _ Q S1 r2 fun σ2 S2 e2 => k σ2 S2 (e2.trans e1)⟩
theorem g_tup {gs : TGs} {ds : List D} {n : Nat} {vs : List Nat} (h : Egs K gs ds Γ Γ' vs) (hn : ds.length = n := by rfl) : Eg K (gTup K n gs) (.tup ds) Γ Γ' vs := fun hd fr B H σ v Q S0 r k => by
  obtain ⟨a, xs, rfl, ha, rl⟩ := r.ofTup
  exact ⟨a, xs, rfl, Same.sqT S0.sub ha, rl.length.trans hn, h hd fr B H σ xs Q S0 rl k⟩

/-! ### what is walked -/
theorem i_list {ds : List D} {tl : TE} (h : Ev K tl Γ (.lst ds)) : Ei K (iList K tl) Γ ds := fun hd fr B H σ R S0 k => h hd fr B H σ _ S0 fun B1 H1 v x g r p => by
  subst p
  obtain ⟨a, xs, rfl, ha, rl⟩ := r.ofLst
  refine ⟨a, rfl, ⟨xs, .inl (.inl (g.sub _ _ ha))⟩, k B1 H1 _ g fun B2 H2 s1 s2 => ?_⟩
  have h2 : H2 a = some (.lst xs) := s2 _ _ (s1 _ _ ha)
  refine ⟨fun i d e => ?_, ⟨xs, .inl (.inl h2), by rw [rl.length]; exact Nat.le_refl _⟩⟩
  obtain ⟨v, hv, rv⟩ := rl.get e
  refine ⟨⟨xs, v, .inl (.inl h2), hv⟩, fun x H3 q => ?_⟩
  obtain ⟨rfl, q⟩ := q
  have e2 := q xs (.inl (.inl h2))
  rw [hv] at e2
  cases Option.some.inj e2
  exact ⟨B2, Go.refl s2 hd_none, rv.mono s1⟩
theorem i_tup {ds : List D} {tl : TE} (h : Ev K tl Γ (.tup ds)) : Ei K (iTup K tl) Γ ds := fun hd fr B H σ R S0 k => h hd fr B H σ _ S0 fun B1 H1 v x g r p => by
  subst p
  obtain ⟨a, xs, rfl, ha, rl⟩ := r.ofTup
  refine ⟨a, rfl, ⟨xs, Same.sqT g.sub ha⟩, k B1 H1 _ g fun B2 H2 s1 s2 => ?_⟩
  have h2 : SqT K H2 a xs := Same.sqT s2 (Same.sqT s1 ha)
  refine ⟨fun i d e => ?_, ⟨xs, h2, by rw [rl.length]; exact Nat.le_refl _⟩⟩
  obtain ⟨v, hv, rv⟩ := rl.get e
  refine ⟨⟨xs, v, h2, hv⟩, fun x H3 q => ?_⟩
  obtain ⟨rfl, q⟩ := q
  have e2 := q xs h2
  rw [hv] at e2
  cases Option.some.inj e2
  exact ⟨B2, Go.refl s2 hd_none, rv.mono s1⟩
def dints (lo : Int) (n : Nat) : List D := (List.range n).map fun (i : Nat) => D.int (lo + (i : Int))
theorem ints_len {lo : Int} {n : Nat} : (dints lo n).length = n := by unfold dints; rw [List.length_map, List.length_range]
theorem ints_get {lo : Int} {n i : Nat} {d : D} (h : (dints lo n)[i]? = some d) : i < n ∧ d = .int (lo + (i : Int)) := by
  unfold dints at h
  rw [List.getElem?_map] at h
  by_cases hi : i < n
  · rw [List.getElem?_range hi] at h
    exact ⟨hi, (Option.some.inj h).symm⟩
  · rw [List.getElem?_eq_none (by rw [List.length_range]; omega)] at h
    cases h
theorem yields_rng {lo : Int} {n : Nat} {B : Hp} : Yields K (Itr lo n) B (dints lo n) := fun B2 H2 s1 s2 => by
  refine ⟨fun i d e => ?_, by rw [ints_len]; exact Nat.le_refl _⟩
  obtain ⟨hi, rfl⟩ := ints_get e
  refine ⟨hi, fun x H3 q => ?_⟩
  obtain ⟨rfl, rfl⟩ := q
  exact ⟨B2, Go.refl s2 hd_none, .int _⟩
theorem i_rng1 {ta : TA} {n : Int} (h : Ea K ta Γ fun z => z = [.int n]) (hn : -1000000 ≤ n ∧ n ≤ 1000000) : Ei K (iRng1 ta) Γ (dints 0 n.toNat) := fun hd fr B H σ R S0 k => h hd fr B H σ _ S0 fun B1 H1 vs ds g r p => by
  subst p
  cases r with
  | cons r1 t => cases t with
    | nil => exact ⟨n, by rw [r1.ofInt], by omega, by omega, k B1 H1 _ g yields_rng⟩
theorem i_rng2 {ta : TA} {lo n : Int} (h : Ea K ta Γ fun z => z = [.int lo, .int n]) (hl : -1000000 ≤ lo ∧ lo ≤ 1000000) (hn : -1000000 ≤ n ∧ n ≤ 1000000) : Ei K (iRng2 ta) Γ (dints lo (n - lo).toNat) := fun hd fr B H σ R S0 k => h hd fr B H σ _ S0 fun B1 H1 vs ds g r p => by
  subst p
  cases r with
  | cons r1 t => cases t with
    | cons r2 t2 => cases t2 with
      | nil => exact ⟨lo, n, by rw [r1.ofInt, r2.ofInt], ⟨by omega, by omega, by omega, by omega⟩, k B1 H1 _ g yields_rng⟩

/-! ### loops -/
theorem s_for {wi : TI} {g : TG} {ds : List D} {vs : List Nat} (Inv : Nat → List S → Prop) (hi : Ei K wi Γ ds) (h0 : Inv 0 Γ)
    (hs : ∀ i d Γ1, ds[i]? = some d → Inv i Γ1 → ∃ Γ2, Eg K g d Γ1 Γ2 vs ∧ Es K ts Γ2 ⟨fun Γ3 => ∃ Γ4, Le Γ4 Γ3 ∧ Inv (i + 1) Γ4, Ψ.rt, Ψ.nx, fun Γ3 => ∃ Γ4, Le Γ4 Γ3 ∧ Inv (i + 1) Γ4⟩)
    (hd' : ∀ Γ1, Inv ds.length Γ1 → Ψ.nx Γ1) : Es K (tFor wi g ts) Γ Ψ := fun hd fr B H σ Dd S0 k1 k2 k3 k4 => hi hd fr B H σ _ S0 fun B1 H1 J g1 Y => by
  refine ⟨fun i m σ' H' => m = ds.length - i ∧ i ≤ ds.length ∧ ∃ B' Γ', Gs hd fr B H B' H' ∧ Same B1 B' ∧ Sx K hd fr B' H' σ' Γ' ∧ Inv i Γ', ⟨_, rfl, Nat.zero_le _, B1, Γ, g1.gs, Same.refl _, S0.go g1, h0⟩, ?_⟩
  rintro i m σ' H' ⟨rfl, hle, B', Γ', gg, s1, S1, iv⟩
  obtain ⟨ys, yd⟩ := Y B' H' s1 S1.sub
  by_cases hlt : i < ds.length
  · obtain ⟨go, yl⟩ := ys i _ (List.getElem?_eq_getElem hlt)
    refine .inr ⟨go, fun σ2 H2 => i < ds.length ∧ ∃ B2 Γ2, Gs hd fr B H B2 H2 ∧ Same B1 B2 ∧ Sx K hd fr B2 H2 σ2 Γ2 ∧ Inv (i + 1) Γ2, fun σ2 H2 q => ⟨_, by omega, rfl, hlt, q.2⟩, fun x H2 yx => ?_⟩
    obtain ⟨B3, g3, r3⟩ := yl x H2 yx
    have g3' := g3.up S1.hand
    obtain ⟨Γ2, hg, hb⟩ := hs i _ Γ' (List.getElem?_eq_getElem hlt) iv
    refine hg hd fr B3 H2 σ' x _ (S1.go g3') r3 fun σ2 S2 _ => ?_
    have g4 : Gs hd fr B H B3 H2 := gg.trans g3'.gs
    have s4 : Same B1 B3 := s1.trans g3.ext
    refine hb hd fr B3 H2 σ2 _ S2 (fun B5 H5 σ5 Γ5 g5 S5 q => ?_) (fun B5 H5 v d g5 a b c q => k2 B5 H5 v d (g4.trans g5) a b c q) (fun B5 H5 σ5 Γ5 g5 S5 q => k1 B5 H5 σ5 Γ5 (g4.trans g5) S5 q) (fun B5 H5 σ5 Γ5 g5 S5 q => ?_)
    · obtain ⟨Γ6, l6, q6⟩ := q
      exact ⟨hlt, B5, Γ6, g4.trans g5, s4.trans g5.ext, S5.le l6, q6⟩
    · obtain ⟨Γ6, l6, q6⟩ := q
      exact ⟨hlt, B5, Γ6, g4.trans g5, s4.trans g5.ext, S5.le l6, q6⟩
  · have e : i = ds.length := by omega
    subst e
    exact .inl ⟨yd, k1 B' H' σ' Γ' gg S1 (hd' Γ' iv)⟩
theorem s_while (Inv : Nat → List S → Prop) (m0 : Nat) (h0 : Inv m0 Γ)
    (hs : ∀ m Γ1, Inv m Γ1 → ∃ b, Et K tc Γ1 (fun x => x = b) ∧ (b = true → Es K ts Γ1 ⟨fun Γ3 => ∃ m' Γ4, m' < m ∧ Le Γ4 Γ3 ∧ Inv m' Γ4, Ψ.rt, Ψ.nx, fun Γ3 => ∃ m' Γ4, m' < m ∧ Le Γ4 Γ3 ∧ Inv m' Γ4⟩) ∧ (b = false → Ψ.nx Γ1)) :
    Es K (tWhile tc ts) Γ Ψ := fun hd fr B H σ Dd S0 k1 k2 k3 k4 => by
  refine ⟨fun m σ' H' => ∃ B' Γ', Gs hd fr B H B' H' ∧ Sx K hd fr B' H' σ' Γ' ∧ Inv m Γ', ⟨m0, B, Γ, .refl, S0, h0⟩, ?_⟩
  rintro m σ' H' ⟨B', Γ', gg, S1, iv⟩
  obtain ⟨b, ht, h1, h2⟩ := hs m Γ' iv
  refine ht hd fr B' H' σ' _ S1 fun B2 H2 b' g2 p => ?_
  subst p
  have g4 := gg.trans g2.gs
  cases b' with
  | true =>
    refine iteT ⟨fun σ3 H3 => ∃ m', m' < m ∧ ∃ B' Γ', Gs hd fr B H B' H3 ∧ Sx K hd fr B' H3 σ3 Γ' ∧ Inv m' Γ', fun σ3 H3 q => q, ?_⟩
    refine h1 rfl hd fr B2 H2 σ' _ (S1.go g2) (fun B5 H5 σ5 Γ5 g5 S5 q => ?_) (fun B5 H5 v d g5 a b c q => k2 B5 H5 v d (g4.trans g5) a b c q) (fun B5 H5 σ5 Γ5 g5 S5 q => k1 B5 H5 σ5 Γ5 (g4.trans g5) S5 q) (fun B5 H5 σ5 Γ5 g5 S5 q => ?_)
    · obtain ⟨m', Γ6, hm, l6, q6⟩ := q
      exact ⟨m', hm, B5, Γ6, g4.trans g5, S5.le l6, q6⟩
    · obtain ⟨m', Γ6, hm, l6, q6⟩ := q
      exact ⟨m', hm, B5, Γ6, g4.trans g5, S5.le l6, q6⟩
  | false => exact iteF (k1 B2 H2 σ' Γ' g4 (S1.go g2) (h2 rfl))

/-! ### comprehensions -/
def wipeG (Γ : List S) : List Nat → List S
  | [] => Γ
  | v :: vs => (wipeG Γ vs).set v .no
theorem Sx.wipe {hd : Option Hd} {fr : Addr → Prop} {B H : Hp} {σ : L2.St} (S0 : Sx K hd fr B H σ Γ) : ∀ vs : List Nat, Sx K hd fr B H (wipe σ vs) (wipeG Γ vs)
  | [] => S0
  | v :: vs => by
    have S1 := Sx.wipe S0 vs
    show Sx K hd fr B H ((L2.wipe σ vs).set v none) ((wipeG Γ vs).set v .no)
    refine ⟨S1.sub, S1.hand, S1.new, by rw [List.length_set, List.length_set]; exact S1.len, fun j s e => ?_, fun j k l o u hjk e1 e2 e3 e4 => ?_⟩
    · rw [List.getElem?_set] at e
      by_cases h : v = j
      · subst h
        rw [if_pos rfl] at e
        split at e
        · cases Option.some.inj e
          trivial
        · cases e
      · rw [if_neg h] at e
        rw [List.getElem?_set_ne h]
        exact S1.slot j s e
    · rw [List.getElem?_set] at e1 e2
      have h1 : v ≠ j := by
        intro h
        subst h
        rw [if_pos rfl] at e1
        split at e1 <;> cases e1
      have h2 : v ≠ k := by
        intro h
        subst h
        rw [if_pos rfl] at e2
        split at e2 <;> cases e2
      rw [if_neg h1] at e1
      rw [if_neg h2] at e2
      rw [List.getElem?_set_ne h1] at e3
      rw [List.getElem?_set_ne h2] at e4
      exact S1.dis j k l o u hjk e1 e2 e3 e4
theorem t_yes : Et K tYes Γ fun x => x = true := fun hd fr B H σ Q S0 k => k B H true S0.refl rfl
/-- [te for g in wi if tt]: out i is what the i-th turn gives -/
theorem l_lc {wi : TI} {g : TG} {tt : TT} {vs : List Nat} {ds : List D} (out : Nat → Option D) (hi : Ei K wi Γ ds) (hz : ds.length < 100000)
    (hs : ∀ i d, ds[i]? = some d → ∃ Γ2, Eg K g d (wipeG Γ vs) Γ2 vs ∧ Et K tt Γ2 (fun b => b = (out i).isSome) ∧ ∀ e, out i = some e → Ev K te Γ2 e) :
    EL K (tLc wi g tt te vs) Γ fun z => z = (List.range ds.length).filterMap out := fun hd fr B H σ Q S0 k => hi hd fr B H σ _ S0 fun B1 H1 J g1 Y => fun Dl hD => by
  have nB1 : B1 Dl = none := by
    cases e : B1 Dl with
    | none => rfl
    | some u =>
      rw [g1.sub _ _ e] at hD
      cases hD
  have kD : ∀ h, hd = some h → Dl ≠ h.l := fun h eh => by
    obtain ⟨_, _, _, _, p2, r2, t2, d2, _⟩ := g1.hand h eh
    exact (ne_of_none d2 hD).symm
  refine ⟨fun i m H' => m = ds.length - i ∧ i ≤ ds.length ∧ ∃ B' acc, Go hd B H B' H' ∧ Same B1 B' ∧ B' Dl = none ∧ H' Dl = some (.lst acc) ∧ RepL K B' acc ((List.range i).filterMap out), ⟨_, rfl, Nat.zero_le _, B1, [], g1.fresh hD, Same.refl _, nB1, upd_same, .nil⟩, ?_⟩
  rintro i m H' ⟨rfl, hle, B', acc, gg, s1, nD, eD, ra⟩
  have S1 := S0.go gg
  obtain ⟨ys, yd⟩ := Y B' H' s1 S1.sub
  by_cases hlt : i < ds.length
  · obtain ⟨go, yl⟩ := ys i _ (List.getElem?_eq_getElem hlt)
    refine .inr ⟨go, fun H2 => ∃ B' acc, Go hd B H B' H2 ∧ Same B1 B' ∧ B' Dl = none ∧ H2 Dl = some (.lst acc) ∧ RepL K B' acc ((List.range (i + 1)).filterMap out), fun H2 q => ⟨_, by omega, rfl, hlt, q⟩, fun x H2 yx => ?_⟩
    obtain ⟨B3, g3, r3⟩ := yl x H2 yx
    have g3' := g3.up S1.hand
    obtain ⟨Γ2, hg, ht, he⟩ := hs i _ (List.getElem?_eq_getElem hlt)
    have S3 := (S1.go g3').wipe vs
    refine hg hd fr B3 H2 _ x _ S3 r3 fun σ2 S4 ew => ⟨ew.trans ?_, ht hd fr B3 H2 σ2 _ S4 fun B5 H5 b g5 p5 => ?_⟩
    · apply List.ext_getElem?
      intro n
      have key : ∀ (vs ws : List Nat) (σ : L2.St), (∀ a ∈ vs, a ∈ ws) → L2.wipe (L2.wipe σ ws) vs = L2.wipe σ ws := by
        intro vs
        induction vs with
        | nil => intro ws σ _; rfl
        | cons a r ih =>
          intro ws σ hm
          show (L2.wipe (L2.wipe σ ws) r).set a none = _
          rw [ih ws σ fun b hb => hm b (List.mem_cons_of_mem _ hb)]
          apply List.ext_getElem?
          intro n
          rw [List.getElem?_set]
          by_cases e : a = n
          · subst e
            rw [if_pos rfl]
            by_cases hl : a < (L2.wipe σ ws).length
            · rw [if_pos hl]
              cases q : (L2.wipe σ ws)[a]? with
              | none => rw [List.getElem?_eq_none_iff] at q; omega
              | some o =>
                cases o with
                | none => rfl
                | some v => exact absurd (hm a (List.mem_cons_self ..)) (wipe_some q).2
            · rw [if_neg hl, List.getElem?_eq_none (by omega)]
          · rw [if_neg e]
      rw [key vs vs σ fun _ h => h]
    · have gA := (gg.trans g3').trans g5
      have sA : Same B1 B5 := (s1.trans g3.ext).trans g5.ext
      have keepD : ∀ {B0 H0 B2 H2 : Hp}, Go hd B0 H0 B2 H2 → B0 Dl = none → H0 Dl = some (.lst acc) → H2 Dl = some (.lst acc) ∧ B2 Dl = none := fun g n e => g.keep Dl _ rfl e n kD
      obtain ⟨e3, n3⟩ := keepD g3' nD eD
      obtain ⟨e5, n5⟩ := keepD g5 n3 e3
      subst p5
      cases ho : out i with
      | none =>
        show (if (none : Option D).isSome = true then _ else _)
        refine iteF ⟨B5, acc, gA, sA, n5, e5, ?_⟩
        rw [List.range_succ, List.filterMap_append]
        have : List.filterMap out [i] = [] := by simp [ho]
        rw [this, List.append_nil]
        exact ra.mono (g3.ext.trans g5.ext)
      | some o =>
        show (if (some o : Option D).isSome = true then _ else _)
        refine iteT (he o ho hd fr B5 H5 σ2 _ (S4.go g5) fun B6 H6 y d g6 r6 p6 => ?_)
        subst p6
        obtain ⟨e6, n6⟩ := keepD g6 n5 e5
        have rl := ra.mono ((g3.ext.trans g5.ext).trans g6.ext)
        refine ⟨acc, e6, ?_, B6, acc ++ [y], ?_, sA.trans g6.ext, n6, upd_same, ?_⟩
        · rw [rl.length]
          have h1 := List.length_filterMap_le out (List.range i)
          rw [List.length_range] at h1
          exact Nat.lt_of_lt_of_le (show _ < 100000 by omega) (by decide)
        · have gB := gA.trans g6
          refine ⟨gB.ext, fun b o e => ?_, fun a o t e nB c => ?_, fun a xs e => ?_, fun h eh => ?_⟩
          · rw [upd_ne (ne_of_none e n6)]
            exact gB.sub _ _ e
          · obtain ⟨q1, q2⟩ := gB.keep a o t e nB c
            have hne : a ≠ Dl := by
              have hD0 : H Dl = none := g1.live S0.hand S0.sub hD
              exact ne_of_none e hD0
            rw [upd_ne hne]
            exact ⟨q1, q2⟩
          · have hne : a ≠ Dl := by
              have hD0 : H Dl = none := g1.live S0.hand S0.sub hD
              exact ne_of_none e hD0
            rw [upd_ne hne]
            exact gB.tups a xs e
          · obtain ⟨a, b, c, c2, pos, rest, tot, d, e⟩ := gB.hand h eh
            rw [upd_ne (Ne.symm (kD h eh))]
            exact ⟨a, b, c, c2, pos, rest, tot, d, e⟩
        · rw [List.range_succ, List.filterMap_append]
          have : List.filterMap out [i] = [d] := by simp [ho]
          rw [this]
          exact rl.append (.one r6)
  · have e : i = ds.length := by omega
    subst e
    exact .inl ⟨yd, k B' H' Dl acc _ gg (g1.live S0.hand S0.sub hD) nD eD ra rfl⟩
/-- a comprehension without tests -/
theorem l_lcM {wi : TI} {g : TG} {vs : List Nat} {ds es : List D} (hi : Ei K wi Γ ds) (hz : ds.length < 100000) (hl : es.length = ds.length)
    (hs : ∀ (i : Nat) d e, ds[i]? = some d → es[i]? = some e → ∃ Γ2, Eg K g d (wipeG Γ vs) Γ2 vs ∧ Ev K te Γ2 e) : EL K (tLc wi g tYes te vs) Γ fun z => z = es := fun hd fr B H σ Q S0 k => by
  refine l_lc (fun i => es[i]?) hi hz (fun i d h => ?_) hd fr B H σ Q S0 fun B' H' p xs zs a b c d e f => k B' H' p xs zs a b c d e ?_
  · have hlt : i < es.length := by
      rw [hl]
      exact (List.getElem?_eq_some_iff.mp h).1
    obtain ⟨Γ2, h1, h2⟩ := hs i d _ h (List.getElem?_eq_getElem hlt)
    refine ⟨Γ2, h1, ?_, fun e he => ?_⟩
    · rw [List.getElem?_eq_getElem hlt]
      exact t_yes
    · rw [List.getElem?_eq_getElem hlt] at he
      cases Option.some.inj he
      exact h2
  · rw [f, ← hl]
    apply List.ext_getElem?
    intro n
    have key : ∀ m, m ≤ es.length → (List.range m).filterMap (fun i => es[i]?) = es.take m := by
      intro m
      induction m with
      | zero => intro _; simp
      | succ m ih =>
        intro hm
        rw [List.range_succ, List.filterMap_append, ih (by omega), List.take_succ]
        have : m < es.length := by omega
        simp [List.getElem?_eq_getElem this]
    rw [key _ (Nat.le_refl _), List.take_length]
end
end JD
set_option maxHeartbeats 2000000
namespace JD
open PySem PySem.Spec PyProof.Rows L2
/-! ### plain data -/
mutual
def D.py : D → PyData
  | .non => .none
  | .bl b => .bool b
  | .int i => .int i
  | .str x => .str x
  | .tup ds => .tuple (D.pyAll ds)
  | .lst ds => .list (D.pyAll ds)
  | .ins _ _ => .none
  | .opq _ => .none
  | .ty _ => .none
  | .scr _ => .none
def D.pyAll : List D → List PyData
  | [] => []
  | d :: r => D.py d :: D.pyAll r
end
mutual
/-- plain, at most n deep -/
def D.shp : Nat → D → Bool
  | _, .non => true
  | _, .bl _ => true
  | _, .int _ => true
  | _, .str x => PyData.canLay0 (.str x)
  | n, .tup ds => match n with
    | 0 => false
    | n + 1 => D.shpAll n ds
  | n, .lst ds => match n with
    | 0 => false
    | n + 1 => D.shpAll n ds
  | _, .ins _ _ => false
  | _, .opq _ => false
  | _, .ty _ => false
  | _, .scr _ => false
def D.shpAll : Nat → List D → Bool
  | _, [] => true
  | n, d :: r => D.shp n d && D.shpAll n r
end
theorem shpAll_iff {n : Nat} : ∀ {ds : List D}, D.shpAll n ds = true ↔ ∀ d ∈ ds, D.shp n d = true
  | [] => by simp [D.shpAll]
  | d :: r => by
    rw [D.shpAll, Bool.and_eq_true, shpAll_iff (ds := r)]
    simp
mutual
theorem shp_lay : ∀ {n : Nat} {d : D}, D.shp n d = true → PyData.canLay0 d.py = true ∧ d.py.depth ≤ n
  | _, .non, _ => by simp [D.py, PyData.canLay0, PyData.depth]
  | _, .bl _, _ => by simp [D.py, PyData.canLay0, PyData.depth]
  | _, .int _, _ => by simp [D.py, PyData.canLay0, PyData.depth]
  | _, .str x, h => by
    refine ⟨?_, by simp [D.py, PyData.depth]⟩
    rw [D.py]
    rw [D.shp] at h
    exact h
  | 0, .tup ds, h => by simp [D.shp] at h
  | n + 1, .tup ds, h => by
    rw [D.shp] at h
    obtain ⟨h1, h2⟩ := shpAll_lay h
    rw [D.py, PyData.canLay0, PyData.depth]
    exact ⟨h1, by omega⟩
  | 0, .lst ds, h => by simp [D.shp] at h
  | n + 1, .lst ds, h => by
    rw [D.shp] at h
    obtain ⟨h1, h2⟩ := shpAll_lay h
    rw [D.py, PyData.canLay0, PyData.depth]
    exact ⟨h1, by omega⟩
  | _, .ins _ _, h => by simp [D.shp] at h
  | _, .opq _, h => by simp [D.shp] at h
  | _, .ty _, h => by simp [D.shp] at h
  | _, .scr _, h => by simp [D.shp] at h
theorem shpAll_lay : ∀ {n : Nat} {d : List D}, D.shpAll n d = true → PyData.canLayAll0 (D.pyAll d) = true ∧ PyData.depthAll (D.pyAll d) ≤ n
  | _, [], _ => by simp [D.pyAll, PyData.canLayAll0, PyData.depthAll]
  | n, d :: r, h => by
    rw [D.shpAll, Bool.and_eq_true] at h
    obtain ⟨h1, h2⟩ := shp_lay h.1
    obtain ⟨h3, h4⟩ := shpAll_lay h.2
    rw [D.pyAll, PyData.canLayAll0, PyData.depthAll, h1, h3]
    exact ⟨rfl, by omega⟩
end
theorem shp_shaped {n : Nat} {d : D} (h : D.shp n d = true) (hn : n ≤ 60) : SeqAt.shaped d.py = true := by
  obtain ⟨h1, h2⟩ := shp_lay h
  unfold SeqAt.shaped
  rw [h1, Bool.true_and]
  exact decide_eq_true (by omega)
mutual
theorem rep_dp {K : PySem.W.Frag} {B H : Hp} (s : Same B H) : ∀ {n : Nat} {v : V} {d : D}, D.shp n d = true → Rep K B v d → Dp K H v d.py
  | _, _, .non, _, r => by cases r; exact .non
  | _, _, .bl _, _, r => by cases r; exact .bl _
  | _, _, .int _, _, r => by cases r; exact .int _
  | _, _, .str _, _, r => by cases r; exact .str _
  | 0, _, .tup ds, h, r => by simp [D.shp] at h
  | n + 1, _, .tup ds, h, r => by
    rw [D.shp] at h
    obtain ⟨a, xs, rfl, ha, rl⟩ := r.ofTup
    rw [D.py]
    exact .tup (Same.sqT s ha) (repL_dp s h rl)
  | 0, _, .lst ds, h, r => by simp [D.shp] at h
  | n + 1, _, .lst ds, h, r => by
    rw [D.shp] at h
    obtain ⟨a, xs, rfl, ha, rl⟩ := r.ofLst
    rw [D.py]
    exact .lst (.inl (.inl (s _ _ ha))) (repL_dp s h rl)
  | _, _, .ins _ _, h, _ => by simp [D.shp] at h
  | _, _, .opq _, h, _ => by simp [D.shp] at h
  | _, _, .ty _, h, _ => by simp [D.shp] at h
  | _, _, .scr _, h, _ => by simp [D.shp] at h
theorem repL_dp {K : PySem.W.Frag} {B H : Hp} (s : Same B H) : ∀ {n : Nat} {v : List V} {d : List D}, D.shpAll n d = true → RepL K B v d → DpAll K H v (D.pyAll d)
  | _, _, [], _, r => by cases r; rw [D.pyAll]; exact .nil
  | n, _, d :: ds, h, r => by
    rw [D.shpAll, Bool.and_eq_true] at h
    cases r with
    | cons r1 r2 =>
      rw [D.pyAll]
      exact .cons (rep_dp s h.1 r1) (repL_dp s h.2 r2)
end

/-! ### operations on data -/
section
variable {K : PySem.W.Frag} {x y z d e : D} {i j : Int}
theorem ro_I0 {g : Int → Int → V} (h : ∀ B, Rep K B (g i j) z) : Ro K (rI0 g) (.int i) (.int j) fun u => u = z := fun B H v w Q s r1 r2 k =>
  ⟨i, j, r1.ofInt, r2.ofInt, k B H _ z (Go.refl s hd_none) (h B) rfl⟩
theorem ro_I {C : Int → Int → Prop} {g : Int → Int → V} (hc : C i j) (h : ∀ B, Rep K B (g i j) z) : Ro K (rI C g) (.int i) (.int j) fun u => u = z := fun B H v w Q s r1 r2 k =>
  ⟨i, j, r1.ofInt, r2.ofInt, hc, k B H _ z (Go.refl s hd_none) (h B) rfl⟩
theorem ro_l {r r' : R2} {Φ : D → Prop} (h : Ro K r x y Φ) : Ro K (fun a b H Q => r a b H Q ∨ r' a b H Q) x y Φ := fun B H v w Q s r1 r2 k => .inl (h B H v w Q s r1 r2 k)
theorem ro_r {r r' : R2} {Φ : D → Prop} (h : Ro K r' x y Φ) : Ro K (fun a b H Q => r a b H Q ∨ r' a b H Q) x y Φ := fun B H v w Q s r1 r2 k => .inr (h B H v w Q s r1 r2 k)
-- +
def rAddX (K : PySem.W.Frag) : R2 := fun a b H Q => rI0 (fun i j => .int (i + j)) a b H Q ∨ (rCat a b H Q ∨ rCatA K a b H Q)
theorem op_addX {X : Cx} : OpR X (binaryOp .Add) (rAddX X.K) := OpR.or op_add (OpR.or op_cat op_catA)
theorem ro_add : Ro K (rAddX K) (.int i) (.int j) fun u => u = .int (i + j) := ro_l (ro_I0 fun _ => .int _)
theorem ro_cat {ds es : List D} (h : ds.length + es.length ≤ 100000) : Ro K (rAddX K) (.lst ds) (.lst es) fun u => u = .lst (ds ++ es) := ro_r (ro_l fun B H v w Q s r1 r2 k => by
  obtain ⟨a, xs, rfl, ha, ra⟩ := r1.ofLst
  obtain ⟨b, ys, rfl, hb, rb⟩ := r2.ofLst
  refine ⟨a, b, xs, ys, rfl, rfl, s _ _ ha, s _ _ hb, by rw [ra.length, rb.length]; exact Nat.le_trans h (by decide), fun p hp => ?_⟩
  have g := (Go.refl (hd := none) s hd_none).alloc (o := .lst (xs ++ ys)) hp
  exact k _ _ _ _ g (.lst upd_same ((ra.append rb).mono g.ext)) rfl)
theorem ro_catT {ds es : List D} (h : ds.length + es.length ≤ 100000) : Ro K (rAddX K) (.tup ds) (.tup es) fun u => u = .tup (ds ++ es) := ro_r (ro_r fun B H v w Q s r1 r2 k => by
  obtain ⟨a, xs, rfl, ha, ra⟩ := r1.ofTup
  obtain ⟨b, ys, rfl, hb, rb⟩ := r2.ofTup
  refine ⟨a, b, xs, ys, rfl, rfl, Same.sqT s ha, Same.sqT s hb, by rw [ra.length, rb.length]; exact Nat.le_trans h (by decide), fun e => ?_, fun e1 e2 => ?_, fun e1 e2 p hp => ?_⟩
  · subst e
    cases ra
    exact k B H _ _ (Go.refl s hd_none) (.tup hb rb) rfl
  · subst e2
    cases rb
    rw [List.append_nil] at k
    exact k B H _ _ (Go.refl s hd_none) (.tup ha ra) rfl
  · have g := (Go.refl (hd := none) s hd_none).alloc (o := .tup (xs ++ ys)) hp
    exact k _ _ _ _ g (.tup (.inl (.inl upd_same)) ((ra.append rb).mono g.ext)) rfl)
/-- + as a new list -/
theorem ro_sub : Ro K (rI0 fun i j => .int (i - j)) (.int i) (.int j) fun u => u = .int (i - j) := ro_I0 fun _ => .int _
theorem ro_mod (h : 0 < j) : Ro K (rI (fun _ j => 0 < j) fun i j => .int (i % j)) (.int i) (.int j) fun u => u = .int (i % j) := ro_I h fun _ => .int _
/-- a size that products keep within the line -/
def Sz (n : Nat) (i : Int) : Prop := i.natAbs < 2 ^ n
theorem ro_div (h : 0 < j) (hs : Sz 8999 j) : Ro K (rI CDivW fun i j => .int (i / j)) (.int i) (.int j) fun u => u = .int (i / j) := ro_I (wide_div h hs (by decide) (by decide)) fun _ => .int _
-- *
def rMulX : R2 := fun a b H Q => rI CMulW (fun i j => .int (i * j)) a b H Q ∨ rRep a b H Q
theorem op_mulX {X : Cx} : OpR X (binaryOp .Mult) rMulX := OpR.or op_mulW op_rep
theorem ro_mul (hi : Sz 400000 i) (hj : Sz 400000 j) : Ro K rMulX (.int i) (.int j) fun u => u = .int (i * j) := ro_l (ro_I (wide_mul hi hj (by decide) (by decide) (by decide)) fun _ => .int _)
theorem RepL.flat {B : Hp} {xs : List V} {ds : List D} (r : RepL K B xs ds) : ∀ n, RepL K B (List.replicate n xs).flatten (List.replicate n ds).flatten
  | 0 => .nil
  | n + 1 => by
    rw [List.replicate_succ, List.replicate_succ, List.flatten_cons, List.flatten_cons]
    exact r.append (r.flat n)
theorem ro_rep {ds : List D} (h : ds.length ≤ 100) (hj : -100 ≤ j ∧ j ≤ 100) : Ro K rMulX (.lst ds) (.int j) fun u => u = .lst (List.replicate j.toNat ds).flatten := ro_r fun B H v w Q s r1 r2 k => by
  obtain ⟨a, xs, rfl, ha, ra⟩ := r1.ofLst
  refine ⟨a, j, xs, rfl, r2.ofInt, s _ _ ha, by omega, by omega, ?_, fun p hp => ?_⟩
  · rw [ra.length]
    refine Nat.le_trans (Nat.mul_le_mul h (show j.toNat ≤ 100 by omega)) (by decide)
  · have g := (Go.refl (hd := none) s hd_none).alloc (o := .lst (List.replicate j.toNat xs).flatten) hp
    exact k _ _ _ _ g (.lst upd_same ((ra.flat _).mono g.ext)) rfl
-- comparisons
theorem ro_lt : Ro K (rI0 fun i j => .bl (decide (i < j))) (.int i) (.int j) fun u => u = .bl (decide (i < j)) := ro_I0 fun _ => .bl _
theorem ro_le : Ro K (rI0 fun i j => .bl (decide (i ≤ j))) (.int i) (.int j) fun u => u = .bl (decide (i ≤ j)) := ro_I0 fun _ => .bl _
theorem ro_gt : Ro K (rI0 fun i j => .bl (decide (j < i))) (.int i) (.int j) fun u => u = .bl (decide (j < i)) := ro_I0 fun _ => .bl _
theorem ro_ge : Ro K (rI0 fun i j => .bl (decide (j ≤ i))) (.int i) (.int j) fun u => u = .bl (decide (j ≤ i)) := ro_I0 fun _ => .bl _
theorem ro_eqD (hx : D.shp 50 x = true) (hy : D.shp 50 y = true) : Ro K (rEqD K) x y fun u => u = .bl (PyData.eqv x.py y.py) := fun B H v w Q s r1 r2 k =>
  ⟨x.py, y.py, rep_dp s hx r1, rep_dp s hy r2, shp_shaped hx (by decide), shp_shaped hy (by decide), k B H _ _ (Go.refl s hd_none) (.bl _) rfl⟩
theorem ro_neD (hx : D.shp 50 x = true) (hy : D.shp 50 y = true) : Ro K (rNeD K) x y fun u => u = .bl (!PyData.eqv x.py y.py) := fun B H v w Q s r1 r2 k =>
  ⟨x.py, y.py, rep_dp s hx r1, rep_dp s hy r2, shp_shaped hx (by decide), shp_shaped hy (by decide), k B H _ _ (Go.refl s hd_none) (.bl _) rfl⟩
theorem eqv_int : PyData.eqv (D.py (.int i)) (D.py (.int j)) = decide (i = j) := by
  rw [D.py, D.py, PyData.eqv]
  by_cases h : i = j
  · rw [decide_eq_true h, h, beq_self_eq_true]
  · rw [decide_eq_false h, beq_eq_false_iff_ne.mpr h]
theorem ro_eq : Ro K (rEqD K) (.int i) (.int j) fun u => u = .bl (decide (i = j)) := by
  rw [← eqv_int]
  exact ro_eqD (by simp [D.shp]) (by simp [D.shp])
theorem ro_ne : Ro K (rNeD K) (.int i) (.int j) fun u => u = .bl (!decide (i = j)) := by
  rw [← eqv_int]
  exact ro_neD (by simp [D.shp]) (by simp [D.shp])
def D.isNon : D → Bool
  | .non => true
  | _ => false
theorem isNon_of {B : Hp} {v : V} (r : Rep K B v x) : decide (v = .non) = x.isNon := by
  cases r <;> rfl
def rIsNX : R2 := fun x y H Q => y = .non ∧ Q (.bl (decide (x = .non))) H
def rNotNX : R2 := fun x y H Q => y = .non ∧ Q (.bl (!decide (x = .non))) H
theorem op_isNX {X : Cx} : OpR X (compareOp .Is) rIsNX := op_isN
theorem op_notNX {X : Cx} : OpR X (compareOp .IsNot) rNotNX := op_notN
theorem ro_isN : Ro K rIsNX x .non fun u => u = .bl x.isNon := fun B H v w Q s r1 r2 k => ⟨r2.ofNon, by rw [isNon_of r1]; exact k B H _ _ (Go.refl s hd_none) (.bl _) rfl⟩
theorem ro_notN : Ro K rNotNX x .non fun u => u = .bl (!x.isNon) := fun B H v w Q s r1 r2 k => ⟨r2.ofNon, by rw [isNon_of r1]; exact k B H _ _ (Go.refl s hd_none) (.bl _) rfl⟩
theorem ro_in {ds : List D} (hx : D.shp 50 x = true) (hy : D.shp 50 (.lst ds) = true) : Ro K (rInD K) x (.lst ds) fun u => u = .bl ((D.pyAll ds).any fun z => PyData.eqv z x.py) := fun B H v w Q s r1 r2 k => by
  have h2 := rep_dp s hy r2
  have h3 := shp_shaped hy (by decide)
  rw [D.py] at h2 h3
  exact ⟨x.py, D.pyAll ds, rep_dp s hx r1, h2, shp_shaped hx (by decide), h3, k B H _ _ (Go.refl s hd_none) (.bl _) rfl⟩
theorem ro_notIn {ds : List D} (hx : D.shp 50 x = true) (hy : D.shp 50 (.lst ds) = true) : Ro K (rNotInD K) x (.lst ds) fun u => u = .bl (!(D.pyAll ds).any fun z => PyData.eqv z x.py) := fun B H v w Q s r1 r2 k => by
  have h2 := rep_dp s hy r2
  have h3 := shp_shaped hy (by decide)
  rw [D.py] at h2 h3
  exact ⟨x.py, D.pyAll ds, rep_dp s hx r1, h2, shp_shaped hx (by decide), h3, k B H _ _ (Go.refl s hd_none) (.bl _) rfl⟩
theorem ru_neg : RoU K (rU fun i => .int (-i)) (.int i) fun u => u = .int (-i) := fun B H v Q s r k => ⟨i, r.ofInt, k B H _ _ (Go.refl s hd_none) (.int _) rfl⟩
-- subscripts
def D.at (d : D) (j : Int) : Option D := match d with
  | .tup ds => atI ds j
  | .lst ds => atI ds j
  | _ => none
theorem atI_rep {B : Hp} {xs : List V} {ds : List D} (r : RepL K B xs ds) (h : atI ds j = some d) : ∃ v, atI xs j = some v ∧ Rep K B v d := by
  unfold atI at h ⊢
  rw [r.length]
  cases q : ixN ds.length j with
  | none => rw [q] at h; cases h
  | some m =>
    rw [q] at h
    exact r.get h
theorem ro_ix (h : x.at j = some d) : Ro K (rIx K) x (.int j) fun u => u = d := fun B H v w Q s r1 r2 k => by
  cases x with
  | tup ds =>
    obtain ⟨a, xs, rfl, ha, ra⟩ := r1.ofTup
    obtain ⟨v, hv, rv⟩ := atI_rep ra h
    exact .inr (.inl ⟨a, xs, j, v, rfl, r2.ofInt, Same.sqT s ha, hv, k B H v d (Go.refl s hd_none) rv rfl⟩)
  | lst ds =>
    obtain ⟨a, xs, rfl, ha, ra⟩ := r1.ofLst
    obtain ⟨v, hv, rv⟩ := atI_rep ra h
    exact .inl ⟨a, xs, j, v, rfl, r2.ofInt, .inl (.inl (s _ _ ha)), hv, k B H v d (Go.refl s hd_none) rv rfl⟩
  | _ => cases h
-- slices
def rSlX (K : PySem.W.Frag) : V → Option Int → Option Int → Hp → VK → Prop := fun x l u H Q => rSlL K x l u H Q ∨ rSlA K x l u H Q
theorem sl_X {X : Cx} : SlR X (rSlX X.K) := L2.SlR.or sl_list sl_tupA
def cutD (ds : List D) (lo hi : Option Int) : List D := (ds.drop (HT.sIx ds.length 0 lo)).take (HT.sIx ds.length ds.length hi - HT.sIx ds.length 0 lo)
theorem cut_rep {B : Hp} {xs : List V} {ds : List D} (r : RepL K B xs ds) (lo hi : Option Int) : RepL K B (cutV xs lo hi) (cutD ds lo hi) := by
  unfold cutV cutD
  rw [r.length]
  exact (r.drop _).take _
theorem rs_lst {ds : List D} {lo hi : Option Int} : RoS K (rSlX K) (.lst ds) lo hi fun u => u = .lst (cutD ds lo hi) := fun B H v Q s r k => by
  obtain ⟨a, xs, rfl, ha, ra⟩ := r.ofLst
  refine .inl ⟨a, xs, rfl, .inl (.inl (s _ _ ha)), fun p hp => ?_⟩
  have g := (Go.refl (hd := none) s hd_none).alloc (o := .lst (cutV xs lo hi)) hp
  exact k _ _ _ _ g (.lst upd_same ((cut_rep ra lo hi).mono g.ext)) rfl
theorem rs_tup {ds : List D} {lo hi : Option Int} : RoS K (rSlX K) (.tup ds) lo hi fun u => u = .tup (cutD ds lo hi) := fun B H v Q s r k => by
  obtain ⟨a, xs, rfl, ha, ra⟩ := r.ofTup
  refine .inr ⟨a, xs, rfl, Same.sqT s ha, fun hw => ?_, fun _ p hp => ?_⟩
  · have e : cutD ds lo hi = ds := by
      unfold cutD
      rw [ra.length] at hw
      rw [hw.1, hw.2, List.drop_zero, Nat.sub_zero, List.take_length]
    exact k B H _ _ (Go.refl s hd_none) (.tup ha ra) (by rw [e])
  · have g := (Go.refl (hd := none) s hd_none).alloc (o := .tup (cutV xs lo hi)) hp
    exact k _ _ _ _ g (.tup (.inl (.inl upd_same)) ((cut_rep ra lo hi).mono g.ext)) rfl
-- calls of built-ins
def D.len : D → Option Nat
  | .tup ds => some ds.length
  | .lst ds => some ds.length
  | _ => none
def rLenX (K : PySem.W.Frag) : List V → Hp → VK → Prop := fun xs H Q => ∃ p ys, xs = [.ref p] ∧ (SqL K H p ys ∨ SqT K H p ys) ∧ Q (.int ys.length) H
theorem call_lenX {X : Cx} : CallR X (.builtin "len") (rLenX X.K) := call_len_seq
theorem rc_len {n : Nat} (h : x.len = some n) : Rc K (rLenX K) [x] fun u => u = .int n := fun B H vs Q s r k => by
  cases r with
  | cons r t =>
    cases t
    cases x with
    | tup ds =>
      obtain ⟨a, xs, rfl, ha, ra⟩ := r.ofTup
      have e : ds.length = n := Option.some.inj h
      exact ⟨a, xs, rfl, .inr (Same.sqT s ha), by rw [ra.length, e]; exact k B H _ _ (Go.refl s hd_none) (.int _) rfl⟩
    | lst ds =>
      obtain ⟨a, xs, rfl, ha, ra⟩ := r.ofLst
      have e : ds.length = n := Option.some.inj h
      exact ⟨a, xs, rfl, .inl (.inl (.inl (s _ _ ha))), by rw [ra.length, e]; exact k B H _ _ (Go.refl s hd_none) (.int _) rfl⟩
    | _ => cases h
def rAbsX : List V → Hp → VK → Prop := fun xs H Q => ∃ i, xs = [.int i] ∧ Q (.int (if i < 0 then -i else i)) H
theorem call_absX {X : Cx} : CallR X (.builtin "abs") rAbsX := call_abs
theorem rc_abs : Rc K rAbsX [.int i] fun u => u = .int i.natAbs := fun B H vs Q s r k => by
  cases r with
  | cons r t =>
    cases t
    refine ⟨i, by rw [r.ofInt], ?_⟩
    rw [show (if i < 0 then -i else i) = (i.natAbs : Int) by split <;> omega]
    exact k B H _ _ (Go.refl s hd_none) (.int _) rfl
def rMinX : List V → Hp → VK → Prop := fun xs H Q => ∃ i j, xs = [.int i, .int j] ∧ Q (.int (if j < i then j else i)) H
theorem call_minX {X : Cx} (hc : X.calm = true) : CallR X (.builtin "min") rMinX := call_min2 hc
theorem rc_min : Rc K rMinX [.int i, .int j] fun u => u = .int (min i j) := fun B H vs Q s r k => by
  cases r with
  | cons r t => cases t with
    | cons r2 t =>
      cases t
      refine ⟨i, j, by rw [r.ofInt, r2.ofInt], ?_⟩
      rw [show (if j < i then j else i) = min i j by split <;> omega]
      exact k B H _ _ (Go.refl s hd_none) (.int _) rfl
def rMax2X : List V → Hp → VK → Prop := fun xs H Q => ∃ i j, xs = [.int i, .int j] ∧ Q (.int (if j > i then j else i)) H
theorem call_max2X {X : Cx} (hc : X.calm = true) : CallR X (.builtin "max") rMax2X := call_max2 hc
theorem rc_max2 : Rc K rMax2X [.int i, .int j] fun u => u = .int (max i j) := fun B H vs Q s r k => by
  cases r with
  | cons r t => cases t with
    | cons r2 t =>
      cases t
      refine ⟨i, j, by rw [r.ofInt, r2.ofInt], ?_⟩
      rw [show (if j > i then j else i) = max i j by split <;> omega]
      exact k B H _ _ (Go.refl s hd_none) (.int _) rfl
def rIntX : List V → Hp → VK → Prop := fun xs H Q => (∃ i, xs = [.int i] ∧ Q (.int i) H) ∨ ∃ k, xs = [.bl k] ∧ Q (.int (if k then 1 else 0)) H
theorem call_intX {X : Cx} : CallR X (.type "int") rIntX := call_int1
theorem rc_int : Rc K rIntX [.int i] fun u => u = .int i := fun B H vs Q s r k => by
  cases r with
  | cons r t =>
    cases t
    exact .inl ⟨i, by rw [r.ofInt], k B H _ _ (Go.refl s hd_none) (.int _) rfl⟩
theorem rc_intB {b : Bool} : Rc K rIntX [.bl b] fun u => u = .int (if b then 1 else 0) := fun B H vs Q s r k => by
  cases r with
  | cons r t =>
    cases t
    exact .inr ⟨b, by rw [r.ofBl], k B H _ _ (Go.refl s hd_none) (.int _) rfl⟩
theorem rc_gcd : Rc K rGcd [.int i, .int j] fun u => u = .int ((Nat.gcd i.natAbs j.natAbs : Nat) : Int) := fun B H vs Q s r k => by
  cases r with
  | cons r t => cases t with
    | cons r2 t =>
      cases t
      exact ⟨i, j, by rw [r.ofInt, r2.ofInt], k B H _ _ (Go.refl s hd_none) (.int _) rfl⟩
def D.items : D → Option (List D)
  | .tup ds => some ds
  | .lst ds => some ds
  | _ => none
def rListX (K : PySem.W.Frag) : List V → Hp → VK → Prop := fun xs H Q => ∃ p ys, xs = [.ref p] ∧ (SqL K H p ys ∨ SqT K H p ys) ∧ ∀ l, H l = none → Q (.ref l) (upd H l (.lst ys))
theorem call_listX {X : Cx} : CallR X (.type "list") (rListX X.K) := call_list_of
theorem rl_list {ds : List D} (h : x.items = some ds) : RcL K (rListX K) [x] fun u => u = ds := fun B H vs Q s r k => by
  have fin : ∀ {p : Addr} {xs : List V}, RepL K B xs ds → ∀ l, H l = none → Q (.ref l) (upd H l (.lst xs)) := fun {p xs} ra l hl => by
    have nb : B l = none := by
      cases e : B l with
      | none => rfl
      | some u =>
        rw [s _ _ e] at hl
        cases hl
    exact k B _ l xs ds ((Go.refl (hd := none) s hd_none).fresh hl) hl nb upd_same ra rfl
  cases r with
  | cons r t =>
    cases t
    cases x with
    | tup es =>
      obtain ⟨a, xs, rfl, ha, ra⟩ := r.ofTup
      cases Option.some.inj h
      exact ⟨a, xs, rfl, .inr (Same.sqT s ha), fin (p := a) ra⟩
    | lst es =>
      obtain ⟨a, xs, rfl, ha, ra⟩ := r.ofLst
      cases Option.some.inj h
      exact ⟨a, xs, rfl, .inl (.inl (.inl (s _ _ ha))), fin (p := a) ra⟩
    | _ => cases h
def rTupleX (K : PySem.W.Frag) : List V → Hp → VK → Prop := fun xs H Q => ∃ p ys, xs = [.ref p] ∧ ((SqL K H p ys ∧ ∀ l, H l = none → Q (.ref l) (upd H l (.tup ys))) ∨ (SqT K H p ys ∧ Q (.ref p) H))
theorem call_tupleX {X : Cx} : CallR X (.type "tuple") (rTupleX X.K) := call_tuple_of
theorem rc_tuple {ds : List D} (h : x.items = some ds) : Rc K (rTupleX K) [x] fun u => u = .tup ds := fun B H vs Q s r k => by
  cases r with
  | cons r t =>
    cases t
    cases x with
    | tup es =>
      obtain ⟨a, xs, rfl, ha, ra⟩ := r.ofTup
      cases Option.some.inj h
      exact ⟨a, xs, rfl, .inr ⟨Same.sqT s ha, k B H _ _ (Go.refl s hd_none) (.tup ha ra) rfl⟩⟩
    | lst es =>
      obtain ⟨a, xs, rfl, ha, ra⟩ := r.ofLst
      cases Option.some.inj h
      refine ⟨a, xs, rfl, .inl ⟨.inl (.inl (s _ _ ha)), fun p hp => ?_⟩⟩
      have g := (Go.refl (hd := none) s hd_none).alloc (o := .tup xs) hp
      exact k _ _ _ _ g (.tup (.inl (.inl upd_same)) (ra.mono g.ext)) rfl
    | _ => cases h
theorem rc_all {bs : List Bool} : Rc K (rAll K) [.lst (bs.map D.bl)] fun u => u = .bl (bs.all id) := fun B H vs Q s r k => by
  cases r with
  | cons r t =>
    cases t
    obtain ⟨a, xs, rfl, ha, ra⟩ := r.ofLst
    rw [RepL.ofBls ra] at ha
    exact ⟨a, bs, rfl, .inl (.inl (s _ _ ha)), k B H _ _ (Go.refl s hd_none) (.bl _) rfl⟩
theorem rc_any {bs : List Bool} : Rc K (rAny K) [.lst (bs.map D.bl)] fun u => u = .bl (bs.any id) := fun B H vs Q s r k => by
  cases r with
  | cons r t =>
    cases t
    obtain ⟨a, xs, rfl, ha, ra⟩ := r.ofLst
    rw [RepL.ofBls ra] at ha
    exact ⟨a, bs, rfl, .inl (.inl (s _ _ ha)), k B H _ _ (Go.refl s hd_none) (.bl _) rfl⟩
theorem rl_sorted {ns : List Int} : RcL K (rSortedI K) [.lst (ns.map D.int)] fun u => ∃ ns' : List Int, ns'.Perm ns ∧ ns'.Pairwise (· ≤ ·) ∧ u = ns'.map D.int := fun B H vs Q s r k => by
  cases r with
  | cons r t =>
    cases t
    obtain ⟨a, xs, rfl, ha, ra⟩ := r.ofLst
    rw [RepL.ofInts ra] at ha
    refine ⟨a, ns, rfl, .inl (.inl (s _ _ ha)), fun ns' p h1 h2 hp => ?_⟩
    have nb : B p = none := by
      cases e : B p with
      | none => rfl
      | some u =>
        rw [s _ _ e] at hp
        cases hp
    exact k B _ p _ _ ((Go.refl (hd := none) s hd_none).fresh hp) hp nb upd_same (.ints ns') ⟨ns', h1, h2, rfl⟩
theorem rc_maxL {ns : List Int} {m : Int} (hm : m ∈ ns) (hx : ∀ y ∈ ns, y ≤ m) : Rc K (rMax K) [.lst (ns.map D.int)] fun u => u = .int m := fun B H vs Q s r k => by
  cases r with
  | cons r t =>
    cases t
    obtain ⟨a, xs, rfl, ha, ra⟩ := r.ofLst
    rw [RepL.ofInts ra] at ha
    refine ⟨a, ns, rfl, .inl (.inl (s _ _ ha)), List.length_pos_of_mem hm, fun m' h1 h2 => ?_⟩
    have e : m' = m := Int.le_antisymm (hx m' h1) (h2 m hm)
    rw [e]
    exact k B H _ _ (Go.refl s hd_none) (.int _) rfl
theorem rc_minL {ns : List Int} {m : Int} (hm : m ∈ ns) (hx : ∀ y ∈ ns, m ≤ y) : Rc K (rMin K) [.lst (ns.map D.int)] fun u => u = .int m := fun B H vs Q s r k => by
  cases r with
  | cons r t =>
    cases t
    obtain ⟨a, xs, rfl, ha, ra⟩ := r.ofLst
    rw [RepL.ofInts ra] at ha
    refine ⟨a, ns, rfl, .inl (.inl (s _ _ ha)), List.length_pos_of_mem hm, fun m' h1 h2 => ?_⟩
    have e : m' = m := Int.le_antisymm (h2 m hm) (hx m' h1)
    rw [e]
    exact k B H _ _ (Go.refl s hd_none) (.int _) rfl
end
end JD
set_option maxHeartbeats 2000000
namespace JD
open PySem PySem.Spec PyProof.Rows L2
open C8 (Cal)
/-! ### promises by data -/
/-- arguments ds, result d -/
def spV (K : PySem.W.Frag) (R : List D → D → Prop) : Sp := fun vs H Q _ => ∃ B ds d, R ds d ∧ RepL K B vs ds ∧ Same B H ∧ ∀ B' H' v, Go none B H B' H' → Rep K B' v d → Q v H'
/-- the hand ahead, arguments ds, a result that Φ holds of -/
def spH (K : PySem.W.Frag) (R : List D → (D → Prop) → Prop) : Sp := fun vs H Q _ => ∃ (h : Hd) (B : Hp) (ws : List V) (ds : List D) (Φ : D → Prop), R ds Φ ∧ vs = .ref h.l :: ws ∧ RepL K B ws ds ∧ Same B H ∧ HdOk (some h) B H ∧
  ∀ B' H' v d, Go (some h) B H B' H' → Rep K B' v d → Φ d → Q v H'
/-- an __init__ -/
def spI (K : PySem.W.Frag) (C : Addr) (R : List D → List (Str × D) → Prop) : Sp := fun vs H Q _ => ∃ (B : Hp) (x dx : Addr) (ws : List V) (ds : List D) (gs : List (Str × D)), R ds gs ∧ vs = .ref x :: ws ∧ RepL K B ws ds ∧ Same B H ∧ B x = none ∧ H x = some (.ins C dx []) ∧
  ∀ B' H' fs, Same B B' → Same B' H' → B' x = none → H' x = some (.ins C dx fs) → RepF K B' fs gs → (∀ a o, HO.isT o = false → H a = some o → B a = none → a ≠ x → H' a = some o ∧ B' a = none) → (∀ a xs, H a = some (.tup xs) → H' a = some (.tup xs)) → Q .non H'
section
variable {K : PySem.W.Frag} {Γ : List S} {te : TE} {ta : TA} {d : D} {ds dds : List D} {dvs : List V} {E : XK} {Φ : D → Prop} {R : List D → D → Prop}
theorem e_callE {Φa : List D → Prop} (ha : Ea K ta Γ Φa) (hd : ∀ B, RepL K B dvs dds) (h : ∀ ds, Φa ds → ∃ d, R (ds ++ dds) d ∧ Φ d) : Ee K (tCall (spV K R) dvs E ta) Γ Φ := fun hd' fr B H σ Q S0 k => ha hd' fr B H σ _ S0 fun B1 H1 vs ds g r p => by
  obtain ⟨d, hR, hΦ⟩ := h ds p
  exact ⟨B1, ds ++ dds, d, hR, r.append (hd B1), g.sub, fun B2 H2 v g2 r2 => k B2 H2 v d (g.trans (g2.up g.hand)) r2 hΦ⟩
theorem e_call (ha : Ea K ta Γ fun z => z = ds) (h : R ds d) : Ev K (tCall (spV K R) [] E ta) Γ d := e_callE (dds := []) ha (fun _ => .nil) fun z e => ⟨d, by rw [e, List.append_nil]; exact h, rfl⟩
theorem e_callD (ha : Ea K ta Γ fun z => z = ds) (hd : ∀ B, RepL K B dvs dds) (h : R (ds ++ dds) d) : Ev K (tCall (spV K R) dvs E ta) Γ d := e_callE ha hd fun z e => ⟨d, by rw [e]; exact h, rfl⟩
theorem e_callHE {i : Nat} {R : List D → (D → Prop) → Prop} {Φa : List D → Prop} (ei : Γ[i]? = some .hand) (ha : Ea K ta Γ Φa) (h : ∀ ds, Φa ds → R ds Φ) : Ee K (tCall (spH K R) [] E (tCons (tVar i) ta)) Γ Φ := fun hd fr B H σ Q S0 k => by
  obtain ⟨h0, eh, es⟩ := S0.slot i _ ei
  subst eh
  refine ⟨.ref h0.l, es, ha _ fr B H σ _ S0 fun B1 H1 vs ds g r p => ?_⟩
  exact ⟨h0, B1, vs, ds, Φ, h ds p, by rw [List.append_nil], r, g.sub, g.hand, fun B2 H2 v d g2 r2 p2 => k B2 H2 v d (g.trans g2) r2 p2⟩
theorem e_callH {i : Nat} {R : List D → (D → Prop) → Prop} (ei : Γ[i]? = some .hand) (ha : Ea K ta Γ fun z => z = ds) (h : R ds Φ) : Ee K (tCall (spH K R) [] E (tCons (tVar i) ta)) Γ Φ := e_callHE ei ha fun z e => by rw [e]; exact h
theorem e_mk {C : Addr} {R : List D → List (Str × D) → Prop} {gs : List (Str × D)} (ha : Ea K ta Γ fun z => z = ds) (h : R ds gs) : Ev K (tMake C (spI K C R) [] E ta) Γ (.ins C gs) := fun hd fr B H σ Q S0 k => ha hd fr B H σ _ S0 fun B1 H1 vs zs g r p => by
  subst p
  intro x dx nx ndx nex
  have gN : Go hd B H B1 (upd (upd H1 dx (.own x)) x (.ins C dx [])) := (g.fresh ndx).fresh (by rw [upd_ne (Ne.symm nex)]; exact nx)
  have nb : B1 x = none := by
    cases e : B1 x with
    | none => rfl
    | some u =>
      rw [g.sub _ _ e] at nx
      cases nx
  refine ⟨B1, x, dx, vs, zs, gs, h, by rw [List.append_nil], r, gN.sub, nb, upd_same, fun B2 H2 fs s1 s2 n2 hx rf kp kt => ⟨rfl, ?_⟩⟩
  have s3 : Same B2 (upd B2 x (.ins C dx fs)) := same_upd n2
  refine k (upd B2 x (.ins C dx fs)) H2 _ (.ins C gs) ⟨(g.ext.trans s1).trans s3, fun b o e => ?_, fun a o t e nB c => ?_, fun a xs e => kt a xs (gN.tups a xs e), fun hh eh => ?_⟩ (.ins upd_same (rf.mono s3)) rfl
  · by_cases hb : b = x
    · rw [hb, upd_same] at e
      rw [hb, hx]
      exact e
    · rw [upd_ne hb] at e
      exact s2 _ _ e
  · obtain ⟨e1, n1⟩ := gN.keep a o t e nB c
    have hne : a ≠ x := by
      intro z
      rw [z] at e
      have := g.live S0.hand S0.sub nx
      rw [e] at this
      cases this
    obtain ⟨e2, n2'⟩ := kp a o t e1 n1 hne
    exact ⟨e2, by rw [upd_ne hne]; exact n2'⟩
  · obtain ⟨a, b, c, c2, pos, rest, tot, d, e⟩ := gN.hand hh eh
    have hl : hh.l ≠ x := by
      intro z
      rw [z, upd_same] at d
      cases d
    obtain ⟨e2, n2'⟩ := kp _ _ rfl d a hl
    exact ⟨by rw [upd_ne hl]; exact n2', s3 _ _ (s1 _ _ b), c, c2, pos, rest, tot, e2, e⟩
theorem sx_start {B H : Hp} {vs : List V} {hd : Option Hd} (s : Same B H) (hh : HdOk hd B H) (r : RepL K B vs ds) (m : Nat) : Sx K hd (fun a => H a = none) B H (vs.map some ++ List.replicate m none) (ds.map S.val ++ List.replicate m .no) := by
  refine ⟨s, hh, fun p h => h, by rw [List.length_append, List.length_append, List.length_map, List.length_map, List.length_replicate, List.length_replicate, r.length], fun i s' e => ?_, fun i j l o u hij e1 _ _ _ => ?_⟩
  · by_cases hi : i < ds.length
    · rw [List.getElem?_append_left (by rw [List.length_map]; exact hi), List.getElem?_map, List.getElem?_eq_getElem hi] at e
      cases Option.some.inj e
      obtain ⟨v, hv, rv⟩ := r.get (List.getElem?_eq_getElem hi)
      refine ⟨v, ?_, rv⟩
      rw [List.getElem?_append_left (by rw [List.length_map, r.length]; exact hi), List.getElem?_map, hv]
      rfl
    · rw [List.getElem?_append_right (by rw [List.length_map]; omega), List.getElem?_replicate] at e
      split at e
      · cases Option.some.inj e
        trivial
      · cases e
  · by_cases hi : i < ds.length
    · rw [List.getElem?_append_left (by rw [List.length_map]; exact hi), List.getElem?_map, List.getElem?_eq_getElem hi] at e1
      cases e1
    · rw [List.getElem?_append_right (by rw [List.length_map]; omega), List.getElem?_replicate] at e1
      split at e1 <;> cases e1
theorem sx_hand {B H : Hp} {vs : List V} {h : Hd} (s : Same B H) (hh : HdOk (some h) B H) (r : RepL K B vs ds) (m : Nat) : Sx K (some h) (fun a => H a = none) B H ((V.ref h.l :: vs).map some ++ List.replicate m none) (.hand :: (ds.map S.val ++ List.replicate m .no)) := by
  have S0 := sx_start (hd := some h) s hh r m
  refine ⟨s, hh, fun p h => h, by simp only [List.map_cons, List.cons_append, List.length_cons]; exact congrArg (· + 1) S0.len, fun i s' e => ?_, fun i j l o u hij e1 e2 e3 e4 => ?_⟩
  · cases i with
    | zero =>
      cases Option.some.inj (show some S.hand = some s' from e)
      exact ⟨h, rfl, rfl⟩
    | succ i => exact S0.slot i s' e
  · cases i with
    | zero => cases e1
    | succ i =>
      cases j with
      | zero => cases e2
      | succ j => exact S0.dis i j l o u (fun z => hij (z ▸ rfl)) e1 e2 e3 e4
end

/-! ### what the top has written -/
structure Tx (K : PySem.W.Frag) (mg : Str → Option Value) : Prop where
  ex : ∃ h : Heap, K.In h ∧ h.Ns mainGlobals mg
  says : JA.SaysM K
section
variable {P : Program} {w : World} {K : PySem.W.Frag} {mg : Str → Option Value} {base : Heap}
theorem Tx.glo (T : Tx K mg) (i : Nat) {x : Str} (h : JA.fa[i]? = some (.glo x) := by rfl) : mg x = some (.ref (He.ga K x)) := by
  obtain ⟨hp, X, G⟩ := T.ex
  exact He.glo_ok X G (T.says.1.fact i h)
theorem Tx.free (T : Tx K mg) (i : Nat) {x : Str} (h : JA.fa[i]? = some (.free x) := by rfl) : mg x = none := by
  obtain ⟨hp, X, G⟩ := T.ex
  exact He.free_ok X G (T.says.1.fact i h)
theorem Tx.int (T : Tx K mg) (j : Nat) {x : Str} {i : Int} (h : JA.fa[j]? = some (.int x i) := by rfl) : ∃ u, mg x = some u ∧ RelV (.int i) u := by
  obtain ⟨hp, X, G⟩ := T.ex
  obtain ⟨t, e⟩ := He.int_ok X G (T.says.1.fact j h)
  exact ⟨_, e, t, rfl⟩
theorem Tx.gcd (T : Tx K mg) : mg "gcd" = some (.builtin "math.gcd") := by
  obtain ⟨hp, X, G⟩ := T.ex
  have h := T.says.2
  unfold JA.exB at h
  rw [Bool.and_eq_true, Bool.and_eq_true, Bool.and_eq_true] at h
  exact PySem.W.mg_of X G (He.eqO_ok h.2.2.1)
theorem Tx.zero (T : Tx K mg) (H : Hp) : SqT K H (He.ga K "ZERO") [.int 0, .int 1] := by
  have h := T.says.2
  unfold JA.exB at h
  rw [Bool.and_eq_true] at h
  exact He.tupB_ok h.1 H
theorem Tx.one (T : Tx K mg) (H : Hp) : SqT K H (He.ga K "ONE") [.int 1, .int 1] := by
  have h := T.says.2
  unfold JA.exB at h
  rw [Bool.and_eq_true, Bool.and_eq_true] at h
  exact He.tupB_ok h.2.1 H
/-- a promise by data: from the body -/
theorem fnok_V {CX : CXT} {x qual : Str} {st : Stmt} {dv : List V} {f : Addr} {fd : FuncData} {N ps : List Str} {k : Nat} {R : List D → D → Prop} (F : FunD K x qual (defArgs st) (defBody st) (defScope st) dv [] f fd) (Sc : FnScope N ps (defScope st)) (len : ∀ ds d, R ds d → ds.length = ps.length)
    (hb : ∀ (cdv : Value) (A : Around) (outer : List Env) (s : Shared) (H : Hp) (E : XK), Room k (A.deeper (envOfC qual (defScope st) s.heap.objs.size f cdv)) → ∀ ds d, R ds d →
      ∃ t, PSs (cxOf CX P w K mg base N qual (defScope st) f cdv A outer s H E).nox (defBody st) t ∧ Es K t (ds.map S.val ++ List.replicate (N.length - ps.length) .no) ⟨fun _ => d = .non, fun z => z = d, fun _ => False, fun _ => False⟩) :
    FnOk P w K mg base CX (k + 1) f fd ps (spV K R) := by
  refine F.ok Sc (fun vs H Q E h => ?_) fun cdv A outer s H vs Q E hr h => ?_
  · obtain ⟨B, ds, d, hR, r, _⟩ := h
    rw [r.length]
    exact len ds d hR
  · obtain ⟨B, ds, d, hR, r, ss, q⟩ := h
    obtain ⟨t, ht, he⟩ := hb cdv A outer s H E hr ds d hR
    refine ⟨t, ht.nox, ?_⟩
    have S0 := sx_start (hd := none) ss hd_none r (N.length - ps.length)
    have el : L2.start N vs = vs.map some ++ List.replicate (N.length - ps.length) none := by
      unfold L2.start
      rw [r.length, len ds d hR]
    rw [el]
    have fin : ∀ {B' H' : Hp}, Gs none (fun a => H a = none) B H B' H' → Same B' H' → Go none B H B' H' := fun {B' H'} g s' => ⟨g.ext, s', fun a o t e n _ => g.keep a o t e n (fun z => by rw [z] at e; cases e) (fun _ z => by cases z), g.tups, hd_none⟩
    refine he none _ B H _ _ S0 (fun B' H' σ' Γ' g S1 e => ?_) (fun B' H' v d' g s' _ rv e => ?_) (fun _ _ _ _ _ _ z => z.elim) (fun _ _ _ _ _ _ z => z.elim)
    · have e' : d = .non := e
      subst e'
      exact q B' H' .non (fin g S1.sub) .non
    · have e' : d' = d := e
      subst e'
      exact q B' H' v (fin g s') rv
theorem fnok_H {CX : CXT} {x qual : Str} {st : Stmt} {dv : List V} {f : Addr} {fd : FuncData} {N : List Str} {p : Str} {ps : List Str} {k : Nat} {R : List D → (D → Prop) → Prop} (F : FunD K x qual (defArgs st) (defBody st) (defScope st) dv [] f fd) (Sc : FnScope N (p :: ps) (defScope st)) (len : ∀ ds Φ, R ds Φ → ds.length = ps.length)
    (hb : ∀ (cdv : Value) (A : Around) (outer : List Env) (s : Shared) (H : Hp) (E : XK), Room k (A.deeper (envOfC qual (defScope st) s.heap.objs.size f cdv)) → ∀ ds Φ, R ds Φ →
      ∃ t, PSs (cxOf CX P w K mg base N qual (defScope st) f cdv A outer s H E).nox (defBody st) t ∧ Es K t (.hand :: (ds.map S.val ++ List.replicate (N.length - (p :: ps).length) .no)) ⟨fun _ => Φ .non, Φ, fun _ => False, fun _ => False⟩) :
    FnOk P w K mg base CX (k + 1) f fd (p :: ps) (spH K R) := by
  refine F.ok Sc (fun vs H Q E h => ?_) fun cdv A outer s H vs Q E hr h => ?_
  · obtain ⟨h, B, ws, ds, Φ, hR, rfl, r, _⟩ := h
    rw [List.length_cons, List.length_cons, r.length, len ds Φ hR]
  · obtain ⟨h, B, ws, ds, Φ, hR, rfl, r, ss, hh, q⟩ := h
    obtain ⟨t, ht, he⟩ := hb cdv A outer s H E hr ds Φ hR
    refine ⟨t, ht.nox, ?_⟩
    have S0 := sx_hand ss hh r (N.length - (p :: ps).length)
    have el : L2.start N (.ref h.l :: ws) = (V.ref h.l :: ws).map some ++ List.replicate (N.length - (p :: ps).length) none := by
      unfold L2.start
      rw [List.length_cons, List.length_cons, r.length, len ds Φ hR]
    rw [el]
    have fin : ∀ {B' H' : Hp}, Gs (some h) (fun a => H a = none) B H B' H' → Same B' H' → HdOk (some h) B' H' → Go (some h) B H B' H' := fun {B' H'} g s' h' => ⟨g.ext, s', fun a o t e n c => g.keep a o t e n (fun z => by rw [z] at e; cases e) c, g.tups, h'⟩
    refine he (some h) _ B H _ _ S0 (fun B' H' σ' Γ' g S1 e => ?_) (fun B' H' v d' g s' h' rv e => ?_) (fun _ _ _ _ _ _ z => z.elim) (fun _ _ _ _ _ _ z => z.elim)
    · exact q B' H' .non .non (fin g S1.sub S1.hand) .non e
    · exact q B' H' v d' (fin g s' h') rv e
/-- .. as a def that is called by its name, no defaults left out -/
theorem cal_V {x : Str} {st : Stmt} {N ps : List Str} {k : Nat} {R : List D → D → Prop} (gx : mg x = some (.ref (He.ga K x))) (F : ∃ fd, FunD K x x (defArgs st) (defBody st) (defScope st) [] [] (He.ga K x) fd) (Sc : FnScope N ps (defScope st)) (len : ∀ ds d, R ds d → ds.length = ps.length)
    (hbi : ∀ (kV doc pm : Value) (an : Option Addr) (cdv ct : Value) (us : List Value), us.length = ps.length → bindArgs (PySem.W.fnOf x x (defArgs st) (defBody st) (defScope st) .none kV doc pm an cdv ct) ⟨us, []⟩ = pure (ps.zip us))
    (hb : ∀ (cdv : Value) (A : Around) (outer : List Env) (s : Shared) (H : Hp) (E : XK), Room k (A.deeper (envOfC x (defScope st) s.heap.objs.size (He.ga K x) cdv)) → ∀ ds d, R ds d →
      ∃ t, PSs (cxOf CX0 P w K mg base N x (defScope st) (He.ga K x) cdv A outer s H E).nox (defBody st) t ∧ Es K t (ds.map S.val ++ List.replicate (N.length - ps.length) .no) ⟨fun _ => d = .non, fun z => z = d, fun _ => False, fun _ => False⟩) :
    Cal P w K mg base (k + 1) x (spV K R) [] := by
  obtain ⟨fd, F⟩ := F
  exact ⟨_, fd, ps, [], fnok_V F Sc len hb, gx, F.kp, F.bindsN hbi, .nil⟩
theorem cal_H {x : Str} {st : Stmt} {N : List Str} {p : Str} {ps : List Str} {k : Nat} {R : List D → (D → Prop) → Prop} (gx : mg x = some (.ref (He.ga K x))) (F : ∃ fd, FunD K x x (defArgs st) (defBody st) (defScope st) [] [] (He.ga K x) fd) (Sc : FnScope N (p :: ps) (defScope st)) (len : ∀ ds Φ, R ds Φ → ds.length = ps.length)
    (hbi : ∀ (kV doc pm : Value) (an : Option Addr) (cdv ct : Value) (us : List Value), us.length = (p :: ps).length → bindArgs (PySem.W.fnOf x x (defArgs st) (defBody st) (defScope st) .none kV doc pm an cdv ct) ⟨us, []⟩ = pure ((p :: ps).zip us))
    (hb : ∀ (cdv : Value) (A : Around) (outer : List Env) (s : Shared) (H : Hp) (E : XK), Room k (A.deeper (envOfC x (defScope st) s.heap.objs.size (He.ga K x) cdv)) → ∀ ds Φ, R ds Φ →
      ∃ t, PSs (cxOf CX0 P w K mg base N x (defScope st) (He.ga K x) cdv A outer s H E).nox (defBody st) t ∧ Es K t (.hand :: (ds.map S.val ++ List.replicate (N.length - (p :: ps).length) .no)) ⟨fun _ => Φ .non, Φ, fun _ => False, fun _ => False⟩) :
    Cal P w K mg base (k + 1) x (spH K R) [] := by
  obtain ⟨fd, F⟩ := F
  exact ⟨_, fd, p :: ps, [], fnok_H F Sc len hb, gx, F.kp, F.bindsN hbi, .nil⟩
end
end JD
set_option maxHeartbeats 4000000
namespace JD
open PySem PySem.Spec PyProof.Rows L2 PySem.SeqAt
open PySem.W (alike alikeAll dataLt dataLt_tuple dataLt_ints minD AlikeAll min_list_data reads_keeps alike_unique)
/-! ### isinstance -/
def rIsiT2 (K : PySem.W.Frag) : List V → Hp → VK → Prop := fun xs H Q => ∃ (x : V) (tp : Addr) (cs : List V) (t : Value) (us : List Value) (b : Bool), xs = [x, .ref tp] ∧ SqT K H tp cs ∧ Paired ClsV cs us ∧ TyX K H x t ∧ PySem.W.kitAny K t us = some b ∧ Q (.bl b) H
theorem call_isiT2 {X : Cx} : CallR X (.builtin "isinstance") (rIsiT2 X.K) := by
  intro pins s σ H xs us Q I r h
  obtain ⟨x, tp, cs, t, ws, b, rfl, hT, k, ty, e, q⟩ := h
  obtain ⟨u1, u2, rfl, r1, r2⟩ := vals2 r
  cases (show u2 = Value.ref tp from r2)
  obtain ⟨P, Z, p, hx⟩ := kit_of I r1 ty
  obtain ⟨its, rv, ⟨o, h1, h2, n, h3⟩, _⟩ := I.tuple hT
  have e3 := ClsV.all k rv
  subst e3
  obtain ⟨oc, od, dt, sl⟩ := o
  simp only at h2 h3
  subst h2 h3
  exact PySem.W.kia_tup Z I.kIn p h1 e hx fun tk => ⟨.bl b, H, I.tok tk, rfl, q⟩
def rIsiX (K : PySem.W.Frag) : List V → Hp → VK → Prop := fun xs H Q => rIsi K xs H Q ∨ rIsiT2 K xs H Q
theorem call_isiX {X : Cx} : CallR X (.builtin "isinstance") (rIsiX X.K) := by
  intro pins s σ H xs us Q I r h
  rcases h with h | h
  · exact call_isi pins s σ H xs us Q I r h
  · exact call_isiT2 pins s σ H xs us Q I r h
def D.tyV : D → Option String
  | .non => some "NoneType"
  | .bl _ => some "bool"
  | .int _ => some "int"
  | .str _ => some "str"
  | .tup _ => some "tuple"
  | .lst _ => some "list"
  | _ => none
section
variable {K : PySem.W.Frag} {mg : Str → Option Value} {B H : Hp} {x : D} {t n : String} {b : Bool}
theorem tyX_of {v : V} (s : Same B H) (r : Rep K B v x) (h : x.tyV = some t) : TyX K H v (.type t) := by
  cases r with
  | non => cases Option.some.inj h; exact .base .non
  | bl => cases Option.some.inj h; exact .base (.bl _)
  | int => cases Option.some.inj h; exact .base (.int _)
  | str => cases Option.some.inj h; exact .base (.str _)
  | tup hs _ =>
    cases Option.some.inj h
    rcases hs with (h1 | ⟨o, h1⟩) | ⟨o, its, n, hk, hc, _⟩
    · exact .base (.tup (s _ _ h1))
    · exact .fTuple (s _ _ h1)
    · exact .kTuple hk hc
  | lst hs _ => cases Option.some.inj h; exact .base (.lst (s _ _ hs))
  | ins => cases h
  | opq => cases h
  | ty => cases h
  | scr => cases h
theorem rc_isi (h : x.tyV = some t) (k : PySem.W.kitOne K (.type t) (.type n) = some b) : Rc K (rIsiX K) [x, .ty n] fun u => u = .bl b := fun B H vs Q s r q => by
  cases r with
  | cons r1 t1 => cases t1 with
    | cons r2 t2 =>
      cases t2
      exact .inl ⟨_, _, _, _, b, rfl, by rw [r2.ofTy]; exact .ty n, tyX_of s r1 h, k, q B H _ _ (Go.refl s hd_none) (.bl _) rfl⟩
theorem paired_ty : ∀ ns : List String, Paired ClsV (ns.map V.ty) (ns.map Value.type)
  | [] => .nil
  | n :: r => .cons (.ty n) (paired_ty r)
theorem repL_ty {B : Hp} : ∀ {vs : List V} {ns : List String}, RepL K B vs (ns.map D.ty) → vs = ns.map V.ty
  | [], [], _ => rfl
  | v :: vs, n :: ns, h => by
    cases h with
    | cons r t =>
      rw [Rep.ofTy r, repL_ty t]
      rfl
  | [], _ :: _, h => by cases h
  | _ :: _, [], h => by cases h
theorem rc_isiT {ns : List String} (h : x.tyV = some t) (k : PySem.W.kitAny K (.type t) (ns.map Value.type) = some b) : Rc K (rIsiX K) [x, .tup (ns.map D.ty)] fun u => u = .bl b := fun B H vs Q s r q => by
  cases r with
  | cons r1 t1 => cases t1 with
    | cons r2 t2 =>
      cases t2
      obtain ⟨a, xs, rfl, ha, ra⟩ := r2.ofTup
      rw [repL_ty ra] at ha
      exact .inr ⟨_, a, _, _, _, b, rfl, Same.sqT s ha, paired_ty ns, tyX_of s r1 h, k, q B H _ _ (Go.refl s hd_none) (.bl _) rfl⟩
/-- an instance of Stretch -/
theorem rc_isiS (T : Tx K mg) (c : Cls K (He.ga K "Stretch")) {gs : List (Str × D)} : Rc K (rIsiX K) [.ins (He.ga K "Stretch") gs, .opq (He.ga K "Stretch")] fun u => u = .bl true := fun B H vs Q s r q => by
  have h := T.says.2
  unfold JA.exB at h
  simp only [Bool.and_eq_true] at h
  obtain ⟨_, _, _, _, _, h⟩ := h
  unfold JA.isaB at h
  simp only [Bool.and_eq_true] at h
  obtain ⟨h1, h2, h3, h4, h5⟩ := h
  cases r with
  | cons r1 t1 => cases t1 with
    | cons r2 t2 =>
      cases t2
      obtain ⟨a, dx, fs, rfl, ha, _⟩ := r1.ofIns
      exact .inl ⟨_, _, _, _, true, rfl, by rw [r2.ofOpq]; exact .own _, .base (.ins (s _ _ ha) c (He.eqO_ok h1) (He.eqO_ok h2) (of_decide_eq_true h3) (of_decide_eq_true h4)), of_decide_eq_true h5, q B H _ _ (Go.refl s hd_none) (.bl _) rfl⟩
end

/-! ### sum of a list or tuple -/
def rSumT (K : PySem.W.Frag) : List V → Hp → VK → Prop := fun vs H Q => ∃ (a : Addr) (ns : List Int), vs = [V.ref a] ∧ SqT K H a (ns.map V.int) ∧ Q (.int ns.sum) H
theorem cr_sumT {X : Cx} (hc : X.calm = true) : CallR X (.builtin "sum") (rSumT X.K) := by
  intro pins s σ H vs us Q I r h
  obtain ⟨a, ns, rfl, hs, q⟩ := h
  obtain ⟨its, rv, hl, _⟩ := I.tuple hs
  rw [Vals.ref1 r]
  have hi := rv.ints
  obtain ⟨xs, hx⟩ := hi.allInts.items
  have hn : numsOf its.toArray.toList = ns := by rw [show its.toArray.toList = its from rfl, hi.numsOf]
  rw [hx] at hl hn
  rw [nums_intItems] at hn
  refine PySem.W.ktm_sumG (I.ok.hd hc) hl fun h' tk t' hk => ?_
  rw [preSum_eq, List.take_of_length_le (by simp), hn]
  exact ⟨.int _, H, I.kept hk, ⟨_, rfl⟩, q⟩
def rSumX (K : PySem.W.Frag) : List V → Hp → VK → Prop := fun xs H Q => rSum K xs H Q ∨ rSumT K xs H Q
theorem cr_sumX {X : Cx} (hc : X.calm = true) : CallR X (.builtin "sum") (rSumX X.K) := by
  intro pins s σ H xs us Q I r h
  rcases h with h | h
  · exact cr_sum hc pins s σ H xs us Q I r h
  · exact cr_sumT hc pins s σ H xs us Q I r h
section
variable {K : PySem.W.Frag} {x : D}
theorem rc_sum {ns : List Int} (h : x.items = some (ns.map D.int)) : Rc K (rSumX K) [x] fun u => u = .int ns.sum := fun B H vs Q s r q => by
  cases r with
  | cons r1 t1 =>
    cases t1
    cases x with
    | tup ds =>
      obtain ⟨a, xs, rfl, ha, ra⟩ := r1.ofTup
      rw [Option.some.inj (show some ds = some (ns.map D.int) from h)] at ra
      rw [RepL.ofInts ra] at ha
      exact .inr ⟨a, ns, rfl, Same.sqT s ha, q B H _ _ (Go.refl s hd_none) (.int _) rfl⟩
    | lst ds =>
      obtain ⟨a, xs, rfl, ha, ra⟩ := r1.ofLst
      rw [Option.some.inj (show some ds = some (ns.map D.int) from h)] at ra
      rw [RepL.ofInts ra] at ha
      exact .inl ⟨a, ns, rfl, .inl (.inl (s _ _ ha)), q B H _ _ (Go.refl s hd_none) (.int _) rfl⟩
    | _ => cases h
end

/-! ### the least of a list of rows of ints, the greater of two -/
def row (ns : List Int) : D := .tup (ns.map D.int)
theorem pyAll_ints : ∀ ns : List Int, D.pyAll (ns.map D.int) = ns.map PyData.int
  | [] => rfl
  | n :: r => by
    rw [List.map_cons, D.pyAll, D.py, pyAll_ints r]
    rfl
theorem row_py (ns : List Int) : (row ns).py = .tuple (ns.map PyData.int) := by
  unfold row
  rw [D.py, pyAll_ints]
theorem pyAll_rows : ∀ l : List (List Int), D.pyAll (l.map row) = l.map fun ns => PyData.tuple (ns.map PyData.int)
  | [] => rfl
  | n :: r => by
    rw [List.map_cons, D.pyAll, row_py, pyAll_rows r]
    rfl
theorem shp_ints {n : Nat} : ∀ ns : List Int, D.shpAll n (ns.map D.int) = true
  | [] => by rw [List.map_nil, D.shpAll]
  | n :: r => by rw [List.map_cons, D.shpAll, D.shp, shp_ints r]; rfl
theorem shp_row {n : Nat} (ns : List Int) : D.shp (n + 1) (row ns) = true := by
  unfold row
  rw [D.shp]
  exact shp_ints ns
theorem shp_rows {n : Nat} (l : List (List Int)) : D.shpAll (n + 1) (l.map row) = true := shpAll_iff.mpr fun d hd => by
  obtain ⟨ns, _, rfl⟩ := List.mem_map.mp hd
  exact shp_row ns
theorem alike_intsAll : ∀ (a b : List Int), a.length = b.length → alikeAll (a.map PyData.int) (b.map PyData.int) = true
  | [], [], _ => by simp [alikeAll]
  | x :: a, y :: b, h => by
    have := alike_intsAll a b (by simpa using h)
    simp [alikeAll, alike, this]
  | [], _ :: _, h => by simp at h
  | _ :: _, [], h => by simp at h
theorem alike_rows (a b : List Int) (h : a.length = b.length) : alike (.tuple (a.map PyData.int)) (.tuple (b.map PyData.int)) = true := by
  rw [alike]
  exact alike_intsAll a b h
theorem dataLt_rows (a b : List Int) : dataLt (.tuple (a.map PyData.int)) (.tuple (b.map PyData.int)) = decide (a < b) := by
  rw [dataLt_tuple]
  exact dataLt_ints a b
theorem row_inj {a b : List Int} (h : (PyData.tuple (a.map PyData.int)) = .tuple (b.map PyData.int)) : a = b := by
  injection h with h
  induction a generalizing b with
  | nil => cases b with
    | nil => rfl
    | cons => simp at h
  | cons x r ih => cases b with
    | nil => simp at h
    | cons y t =>
      simp only [List.map_cons, List.cons.injEq, PyData.int.injEq] at h
      rw [h.1, ih h.2]
def minR (x : List Int) (xs : List (List Int)) : List Int := xs.foldl (fun a y => if y < a then y else a) x
theorem minD_rows (x : List Int) : ∀ xs : List (List Int), minD (.tuple (x.map PyData.int)) (xs.map fun ns => .tuple (ns.map PyData.int)) = .tuple ((minR x xs).map PyData.int) := by
  intro xs
  unfold minD minR
  induction xs generalizing x with
  | nil => rfl
  | cons k r ih =>
    rw [List.map_cons, List.foldl_cons, List.foldl_cons, ← ih, dataLt_rows]
    by_cases h : k < x
    · rw [decide_eq_true h, if_pos rfl, if_pos h]
    · rw [decide_eq_false h, if_neg Bool.false_ne_true, if_neg h]
theorem minR_mem (x : List Int) : ∀ xs : List (List Int), minR x xs ∈ x :: xs := by
  intro xs
  unfold minR
  induction xs generalizing x with
  | nil => simp
  | cons k r ih =>
    rw [List.foldl_cons]
    have := ih (if k < x then k else x)
    split at this
    · rw [if_pos (by assumption)]
      exact List.mem_cons_of_mem _ this
    · rw [if_neg (by assumption)]
      rcases List.mem_cons.mp this with h | h
      · rw [h]
        exact List.mem_cons_self
      · exact List.mem_cons_of_mem _ (List.mem_cons_of_mem _ h)
/-- the values of a list whose data are rows: the one whose row is m -/
theorem repRows_at {K : PySem.W.Frag} {B : Hp} {xs : List V} {l : List (List Int)} (r : RepL K B xs (l.map row)) {i : Nat} {v : V} (h : xs[i]? = some v) : ∃ ns, l[i]? = some ns ∧ Rep K B v (row ns) := by
  obtain ⟨d, hd, rd⟩ := r.getV h
  rw [List.getElem?_map] at hd
  cases q : l[i]? with
  | none => rw [q] at hd; cases hd
  | some ns =>
    rw [q] at hd
    cases Option.some.inj hd
    exact ⟨ns, rfl, rd⟩
theorem depth_intsAll : ∀ ns : List Int, PyData.depthAll (ns.map PyData.int) = 0
  | [] => by simp [PyData.depthAll]
  | n :: r => by simp [PyData.depthAll, PyData.depth, depth_intsAll r]
theorem depth_rows : ∀ l : List (List Int), PyData.depthAll (l.map fun ns => PyData.tuple (ns.map PyData.int)) ≤ 1
  | [] => by simp [PyData.depthAll]
  | n :: r => by
    have := depth_rows r
    rw [List.map_cons, PyData.depthAll, PyData.depth, depth_intsAll]
    omega
/-- min(xs), xs a list of rows of one length -/
def rMinRows (K : PySem.W.Frag) : List V → Hp → VK → Prop := fun vs H Q => ∃ (B : Hp) (a : Addr) (xs : List V) (x : List Int) (l : List (List Int)) (m : Nat), vs = [V.ref a] ∧ Same B H ∧ SqL K H a xs ∧ RepL K B xs ((x :: l).map row) ∧ (∀ ns ∈ x :: l, ns.length = m) ∧ ∀ v, Rep K B v (row (minR x l)) → Q v H
theorem cr_minRows {X : Cx} (hc : X.calm = true) (hu : X.A.units + 64 < cLine) : CallR X (.builtin "min") (rMinRows X.K) := by
  intro pins s σ H vs us Q I r h
  obtain ⟨B, a, xs, x, l, m, rfl, ss, hs, rr, hm, q⟩ := h
  obtain ⟨its, rv, hl, _⟩ := I.list hs
  rw [Vals.ref1 r]
  have dp := repL_dp ss (n := 1) (shp_rows (x :: l)) rr
  rw [pyAll_rows] at dp
  obtain ⟨as, ra⟩ := Dp.readsAll I _ _ _ dp rv
  have ra' : ReadsAll s.heap its.toArray.toList (PyData.tuple (x.map PyData.int) :: l.map fun ns => PyData.tuple (ns.map PyData.int)) as := ra
  refine min_list_data (I.ok.hd hc) hl.isList ra' ⟨fun y hy z hz => ?_, fun y hy e => ?_⟩ ?_ fun i v h' tk bs hv rd hk => ?_
  · obtain ⟨n1, h1, rfl⟩ := List.mem_map.mp (show y ∈ (x :: l).map fun ns => PyData.tuple (ns.map PyData.int) from hy)
    obtain ⟨n2, h2, rfl⟩ := List.mem_map.mp (show z ∈ (x :: l).map fun ns => PyData.tuple (ns.map PyData.int) from hz)
    exact alike_rows _ _ ((hm _ h1).trans (hm _ h2).symm)
  · obtain ⟨n1, h1, rfl⟩ := List.mem_map.mp (show y ∈ (x :: l).map fun ns => PyData.tuple (ns.map PyData.int) from hy)
    cases e
  · have := depth_rows (x :: l)
    rw [List.map_cons] at this
    omega
  · have hv' : its[i]? = some v := by simpa using hv
    have hi : i < xs.length := by
      rw [rv.length]
      exact (List.getElem?_eq_some_iff.mp hv').1
    obtain ⟨u, hu1, hu2⟩ := rv.get (List.getElem?_eq_getElem hi)
    rw [hv'] at hu1
    cases Option.some.inj hu1
    obtain ⟨ns, hns, rns⟩ := repRows_at rr (List.getElem?_eq_getElem hi)
    rw [minD_rows] at rd
    have hmem : ns ∈ x :: l := List.mem_of_getElem? hns
    have hal : alike (.tuple (ns.map PyData.int)) (.tuple ((minR x l).map PyData.int)) = true := alike_rows _ _ ((hm _ hmem).trans (hm _ (minR_mem x l)).symm)
    have dp1 := rep_dp ss (n := 1) (shp_row ns) rns
    rw [row_py] at dp1
    obtain ⟨as1, r1⟩ := Dp.reads I _ _ _ dp1 hu2
    have e := alike_unique _ _ _ _ _ hal (reads_keeps hk r1) rd
    have en : ns = minR x l := row_inj e
    rw [en] at rns
    exact ⟨xs[i], H, I.kept hk, hu2, q _ rns⟩
theorem rc_minRows {K : PySem.W.Frag} {x : List Int} {l : List (List Int)} {m : Nat} (hm : ∀ ns ∈ x :: l, ns.length = m) : Rc K (rMinRows K) [.lst ((x :: l).map row)] fun u => u = row (minR x l) := fun B H vs Q s r q => by
  cases r with
  | cons r1 t1 =>
    cases t1
    obtain ⟨a, xs, rfl, ha, ra⟩ := r1.ofLst
    exact ⟨B, a, xs, x, l, m, rfl, s, .inl (.inl (s _ _ ha)), ra, hm, fun v rv => q B H v _ (Go.refl s hd_none) rv rfl⟩
end JD
namespace PySem
open SeqAt W PyProof.Rows
section
variable {prog : Program} {w : World} {A : Around} {E : Value → Shared → Prop} {s : Shared}
theorem call_max_twoH {a b : Value} {Q : Value → Shared → Prop}
    (h : wpAny (model prog w) A.in1 (pyIter (.ref s.heap.objs.size)) (fun it s₂ => ∃ I fp wr G n P St H bt, it = .ref I ∧ WalksS prog w A.in1 I fp wr G n P St ∧ St 0 s₂ ∧ (∀ b ∈ fp, b < s₂.heap.objs.size) ∧ 0 < n ∧
      (∀ b o, H.get? b = some o → b ∉ wr) ∧ (∀ b o, H.get? b = some o → s₂.heap.get? b = some o) ∧ CmpIn prog w A.in1 .Gt H P bt ∧ ∀ v s', P (argBest bt (n - 1)) v → Moved wr G s₂ s' → Q v s') E
      { s with heap := s.heap.push { cls := .type "tuple", data := .seq #[a, b] } }) :
    wpAny (model prog w) A (call (.builtin "max") [a, b]) Q E s := by
  have hname : (toString "max" ++ toString ".loop" : String) = "max.loop" := by decide
  refine call_function_tree F.kind_max F.plain_max F.entry_max (F.args_max2 _ _) ?_
  show wpAny _ A.in1 (Builtin.Builtins.bindParams "max" ["key", "default"] 0 ⟨[], []⟩ >>= _) _ _ s
  refine wpAny_bind (wpAny_of_eq (show Builtin.Builtins.bindParams "max" ["key", "default"] 0 ⟨[], []⟩ = pure [none, none] from rfl) ?_)
  show wpAny _ A.in1 (newTuple [a, b] >>= _) _ _ s
  refine wpAny_bind (wpAny_newObj_type ?_)
  refine wpAny_bind (wpAny_mono h (fun it s₂ h₂ => ?_) fun _ _ e => e)
  obtain ⟨I, fp, wr, G, n, P, St, H, bt, rfl, W, hst, hfp, hn, hw, hkeep, hcmp, hQ⟩ := h₂
  refine wpAny_bind (wpAny_newObj_type ?_)
  have hSf : s₂.heap.objs.size ∉ fp := fun hm => Nat.lt_irrefl _ (hfp _ hm)
  rw [hname]
  refine wpAny_pure ⟨plainId_quiet F.plain_max_loop _, codeAny_max_loop_firstH W H hw bt hcmp s₂.heap.objs.size hSf (fresh_in hkeep) _ hn (fun b o e => Heap.get?_push_of_some _ (hkeep b o e)) (W.frame 0 s₂ _ s₂.toks hst (Nat.le_refl _) fun b _ o e => Heap.get?_push_of_some _ e) (Heap.get?_push_size _ rfl) fun v s' hP hm => ?_⟩
  exact hQ v s' hP (Moved.drop_new (tk := s₂.toks) hm (Nat.le_refl _))
/-- max(a, b) of two alike data -/
theorem max_two_data {a b : Value} {x y : PyData} {as bs : List Addr} {Q : Value → Shared → Prop} (hh : A.handled = none) (ra : Reads s.heap a x as) (rb : Reads s.heap b y bs) (ha : AlikeAll [x, y]) (hu : A.units + 1 + PyData.depthAll [x, y] < cLine)
    (h : ∀ h' tk, (∀ c o, s.heap.get? c = some o → h'.get? c = some o) → Q (if dataLt x y = true then b else a) { s with heap := h', toks := tk }) :
    wpAny (model prog w) A (call (.builtin "max") [a, b]) Q E s := by
  have hT : (s.heap.push { cls := .type "tuple", data := .seq #[a, b] }).IsTuple s.heap.objs.size #[a, b] := ⟨_, Heap.get?_push_size _ rfl, rfl, 0, rfl⟩
  have kp : ∀ c o, s.heap.get? c = some o → (s.heap.push { cls := .type "tuple", data := .seq #[a, b] }).get? c = some o := fun c o e => Heap.get?_push_of_some _ e
  have hr : ReadsAll (s.heap.push { cls := .type "tuple", data := .seq #[a, b] }) [a, b] [x, y] _ := .cons (reads_keeps kp ra) (.cons (reads_keeps kp rb) .nil)
  refine call_max_twoH (iter_tupleW (s := { s with heap := s.heap.push { cls := .type "tuple", data := .seq #[a, b] } }) (A := A.in1) hh hT fun s₂ e W st hfp hw hk => ?_)
  refine ⟨_, _, _, _, _, _, _, s.heap.push { cls := .type "tuple", data := .seq #[a, b] }, _, rfl, W, st, hfp, by simp, hw, hk, cmpIn_gt (s := { s with heap := s.heap.push { cls := .type "tuple", data := .seq #[a, b] } }) (A := A.in1) (vs := #[a, b]) hr ha (by show A.units + 1 + _ < _; exact hu), fun v s' hP m => ?_⟩
  obtain ⟨h', tk, rfl, hk'⟩ := moved_old e rfl m
  have q := h h' tk fun c o e => hk' c o (kp c o e)
  have hv : v = if dataLt x y = true then b else a := by
    cases hc : dataLt x y <;> simp [argBest, hc] at hP <;> simp [hP]
  rw [hv]
  exact q
end
end PySem
namespace JD
open PySem PySem.Spec PyProof.Rows L2 PySem.SeqAt
open PySem.W (alike alikeAll dataLt dataLt_tuple dataLt_ints minD AlikeAll min_list_data reads_keeps alike_unique)
def rMax2Rows (K : PySem.W.Frag) : List V → Hp → VK → Prop := fun vs H Q => ∃ (B : Hp) (v u : V) (x y : List Int), vs = [v, u] ∧ Same B H ∧ Rep K B v (row x) ∧ Rep K B u (row y) ∧ x.length = y.length ∧ Q (if x < y then u else v) H
theorem cr_max2Rows {X : Cx} (hc : X.calm = true) (hu : X.A.units + 64 < cLine) : CallR X (.builtin "max") (rMax2Rows X.K) := by
  intro pins s σ H vs us Q I r h
  obtain ⟨B, v, u, x, y, rfl, ss, r1, r2, hl, q⟩ := h
  obtain ⟨u1, u2, rfl, v1, v2⟩ := vals2 r
  have d1 := rep_dp ss (n := 1) (shp_row x) r1
  have d2 := rep_dp ss (n := 1) (shp_row y) r2
  rw [row_py] at d1 d2
  obtain ⟨as, ra⟩ := Dp.reads I _ _ _ d1 v1
  obtain ⟨bs, rb⟩ := Dp.reads I _ _ _ d2 v2
  have mem : ∀ z ∈ [PyData.tuple (x.map PyData.int), .tuple (y.map PyData.int)], ∃ n : List Int, z = .tuple (n.map PyData.int) ∧ n.length = x.length := fun z hz => by
    rcases List.mem_cons.mp hz with h | h
    · exact ⟨x, h, rfl⟩
    · exact ⟨y, List.mem_singleton.mp h, hl.symm⟩
  refine max_two_data (I.ok.hd hc) ra rb ⟨fun z hz z2 hz2 => ?_, fun z hz e => ?_⟩ ?_ fun h' tk hk => ?_
  · obtain ⟨n1, rfl, l1⟩ := mem z hz
    obtain ⟨n2, rfl, l2⟩ := mem z2 hz2
    exact alike_rows _ _ (l1.trans l2.symm)
  · obtain ⟨n1, rfl, _⟩ := mem z hz
    cases e
  · have := depth_rows [x, y]
    rw [List.map_cons, List.map_cons, List.map_nil] at this
    omega
  · rw [dataLt_rows]
    by_cases hx : x < y
    · rw [if_pos hx] at q
      rw [decide_eq_true hx, if_pos rfl]
      exact ⟨u, H, I.kept hk, v2, q⟩
    · rw [if_neg hx] at q
      rw [decide_eq_false hx, if_neg Bool.false_ne_true]
      exact ⟨v, H, I.kept hk, v1, q⟩
theorem rc_max2Rows {K : PySem.W.Frag} {x y : List Int} (hl : x.length = y.length) : Rc K (rMax2Rows K) [row x, row y] fun u => u = row (if x < y then y else x) := fun B H vs Q s r q => by
  cases r with
  | cons r1 t1 => cases t1 with
    | cons r2 t2 =>
      cases t2
      refine ⟨B, _, _, x, y, rfl, s, r1, r2, hl, ?_⟩
      by_cases hx : x < y
      · rw [if_pos hx] at q ⊢
        exact q B H _ _ (Go.refl s hd_none) r2 rfl
      · rw [if_neg hx] at q ⊢
        exact q B H _ _ (Go.refl s hd_none) r1 rfl
end JD
set_option maxHeartbeats 4000000
namespace JD
open PySem PySem.Spec PyProof.Rows L2
open C8 (Cal Mak)
section
variable {K : PySem.W.Frag} {mg : Str → Option Value} {Γ Γ' : List S} {te ti : TE} {d e : D} {Ψ : Post} {ts tu : TS} {Φ : D → Prop} {M : List S → Prop}
/-- a first part of a body, told by Es; the rest raw -/
theorem es_use {hd : Option Hd} {fr : Addr → Prop} {B H : Hp} {σ : L2.St} {Dd : Ends} (h : Es K ts Γ ⟨M, fun _ => False, fun _ => False, fun _ => False⟩) (S0 : Sx K hd fr B H σ Γ)
    (k : ∀ B' H' σ' Γ', Gs hd fr B H B' H' → Sx K hd fr B' H' σ' Γ' → M Γ' → tu Dd σ' H') : tSeq ts tu Dd σ H :=
  h hd fr B H σ { Dd with nx := tu Dd } S0 k (fun _ _ _ _ _ _ _ _ z => z.elim) (fun _ _ _ _ _ _ z => z.elim) (fun _ _ _ _ _ _ z => z.elim)
theorem seqIx {i : Int} {n m : Nat} (h0 : 0 ≤ i) (h1 : i < n) (hm : i.toNat = m) : seqIndex? i n = some m := by
  unfold seqIndex?
  have e : (if i < 0 then i + (n : Int) else i) = i := if_neg (by omega)
  show (if (decide (0 ≤ (if i < 0 then i + (n : Int) else i)) && decide ((if i < 0 then i + (n : Int) else i) < n)) = true then some (if i < 0 then i + (n : Int) else i).toNat else none) = some m
  rw [e, decide_eq_true h0, decide_eq_true h1, hm]
  rfl
/-- xs.append(ys.pop(0)) -/
theorem s_appPop {i j : Nat} {ds es : List D} (ei : Γ[i]? = some (.own (.lst ds))) (ej : Γ[j]? = some (.own (.lst (e :: es)))) (hij : i ≠ j) (hz : ds.length < 100000) (q : Ψ.nx ((Γ.set j (.own (.lst es))).set i (.own (.lst (ds ++ [e]))))) :
    Es K (tDrop (tBM K "list" rAppend (tVar i) (tCons (tBM K "list" rPopAt (tVar j) (tCons (tC (.int 0)) tNil)) tNil))) Γ Ψ := fun hd fr B H σ Dd S0 k1 k2 k3 k4 => by
  obtain ⟨l, u, e1, f, n, hl, rr, kk⟩ := S0.slot i _ ei
  obtain ⟨l2, u2, e2, f2, n2, hl2, rr2, kk2⟩ := S0.slot j _ ej
  cases u with
  | lst xs =>
    cases u2 with
    | lst ys =>
      have rl : RepL K B xs ds := rr
      have rl2 : RepL K B ys (e :: es) := rr2
      cases rl2 with
      | @cons v vs _ _ rv rs =>
        obtain ⟨S1, g1⟩ := S0.upd_own (u' := .lst vs) (o' := .lst es) ej e2 rs
        have hne : l ≠ l2 := by
          intro z
          rw [z] at e1
          exact S0.dis i j l2 _ _ hij ei ej e1 e2
        have ei' : (Γ.set j (.own (.lst es)))[i]? = some (.own (.lst ds)) := by
          rw [List.getElem?_set_ne (Ne.symm hij)]
          exact ei
        obtain ⟨S2, g2⟩ := S1.upd_own (u' := .lst (xs ++ [v])) (o' := .lst (ds ++ [e])) ei' e1 (rl.append (.one rv))
        refine ⟨.ref l, e1, .inl ⟨rfl, xs, .inl (.inl hl)⟩, .ref l2, e2, .inl ⟨rfl, _, .inl (.inl hl2)⟩, l2, v :: vs, 0, 0, v, rfl, rfl, hl2, by decide, by decide, seqIx (by decide) (by rw [List.length_cons]; omega) rfl, rfl, ?_⟩
        refine ⟨l, xs, v, rfl, rfl, by show upd H l2 _ l = _; rw [upd_ne hne]; exact hl, by rw [rl.length]; exact Nat.lt_of_lt_of_le hz (by decide), ?_⟩
        exact k1 B _ σ _ (g1.trans g2) S2 q
    | _ => exact rr2.elim
  | _ => exact rr.elim
theorem e_ixO {i : Nat} {ds : List D} {j : Int} (ei : Γ[i]? = some (.own (.lst ds))) (hj : Ev K ti Γ (.int j)) (ha : atI ds j = some d) : Ev K (tOp (rIx K) (tVar i) ti) Γ d :=
  e_ixOwn ei hj ha fun H a xs v Q h1 h2 q => .inl ⟨a, xs, j, v, rfl, rfl, h1, h2, q⟩
theorem eqv_nil (ds : List D) : PyData.eqv (D.py (.lst ds)) (D.py (.lst [])) = ds.isEmpty := by
  cases ds with
  | nil => rw [D.py, D.pyAll, PyData.eqv, PyData.eqvAll]; rfl
  | cons x r => rw [D.py, D.pyAll, D.py, D.pyAll, PyData.eqv, PyData.eqvAll]; rfl
theorem shp_lst {n : Nat} {ds : List D} (h : ∀ d ∈ ds, D.shp n d = true) : D.shp (n + 1) (.lst ds) = true := by
  rw [D.shp]
  exact shpAll_iff.mpr h
theorem shp_tup {n : Nat} {ds : List D} (h : ∀ d ∈ ds, D.shp n d = true) : D.shp (n + 1) (.tup ds) = true := by
  rw [D.shp]
  exact shpAll_iff.mpr h
/-- xs != [], xs == [] of one's own list of plain data -/
theorem t_neNil {i : Nat} {ds : List D} (ei : Γ[i]? = some (.own (.lst ds))) (hs : D.shp 50 (.lst ds) = true) : Et K (tTest (tOp (rNeD K) (tVar i) (tLst tNil))) Γ fun x => x = !ds.isEmpty := by
  have hl : i < Γ.length := (List.getElem?_eq_some_iff.mp ei).1
  refine t_peek ei (t_imp (t_test (e_op (x := .lst ds) (y := .lst []) (e_var ?_) (e_lst ea_nil (of_decide_eq_true rfl)) (ro_neD hs (by rw [D.shp]; rfl)))) fun x e => ?_)
  · rw [List.getElem?_set_self hl]
  · rw [e, eqv_nil]
theorem t_eqNil {i : Nat} {ds : List D} (ei : Γ[i]? = some (.own (.lst ds))) (hs : D.shp 50 (.lst ds) = true) : Et K (tTest (tOp (rEqD K) (tVar i) (tLst tNil))) Γ fun x => x = ds.isEmpty := by
  have hl : i < Γ.length := (List.getElem?_eq_some_iff.mp ei).1
  refine t_peek ei (t_imp (t_test (e_op (x := .lst ds) (y := .lst []) (e_var ?_) (e_lst ea_nil (of_decide_eq_true rfl)) (ro_eqD hs (by rw [D.shp]; rfl)))) fun x e => ?_)
  · rw [List.getElem?_set_self hl]
  · rw [e, eqv_nil]
theorem Tx.cls (T : Tx K mg) (i : Nat) {x : Str} (h : JA.fa[i]? = some (.cls x) := by rfl) : Cls K (He.ga K x) := He.cls_ok (T.says.1.fact i h)
theorem Tx.noat (T : Tx K mg) (i : Nat) {x f : Str} (h : JA.fa[i]? = some (.noat x f) := by rfl) : NoAttr K (He.ga K x) f := He.noat_ok (T.says.1.fact i h)
end
end JD
set_option maxHeartbeats 4000000
namespace JD
open PySem PySem.Spec PyProof.Rows L2
open C8 (Cal)
/-! ### sizes -/
theorem Sz.mul {a b : Nat} {i j : Int} (h : Sz a i) (k : Sz b j) : Sz (a + b) (i * j) := wide_lt h k
theorem Sz.mono {a b : Nat} {i : Int} (h : Sz a i) (k : a ≤ b) : Sz b i := Nat.lt_of_lt_of_le h (Nat.pow_le_pow_right (by decide) k)
theorem Sz.add {a : Nat} {i j : Int} (h : Sz a i) (k : Sz a j) : Sz (a + 1) (i + j) := by
  unfold Sz at *
  rw [Nat.pow_succ]
  omega
theorem Sz.sub {a : Nat} {i j : Int} (h : Sz a i) (k : Sz a j) : Sz (a + 1) (i - j) := by
  unfold Sz at *
  rw [Nat.pow_succ]
  omega
theorem Sz.neg {a : Nat} {i : Int} (h : Sz a i) : Sz a (-i) := by
  unfold Sz at *
  omega
theorem Sz.lit {a : Nat} {i : Int} (h : i.natAbs < 1000000) (k : 20 ≤ a) : Sz a i := Sz.mono (a := 20) (Nat.lt_trans h (by decide)) k
theorem Sz.le {a : Nat} {i j : Int} (h : Sz a j) (k : i.natAbs ≤ j.natAbs) : Sz a i := Nat.lt_of_le_of_lt k h
/-! ### ratios -/
abbrev rat (r : Rat) : D := .tup [.int r.num, .int r.den]
def Sr (n : Nat) (r : Rat) : Prop := Sz n r.num ∧ Sz n r.den
theorem Sr.mono {a b : Nat} {r : Rat} (h : Sr a r) (k : a ≤ b) : Sr b r := ⟨h.1.mono k, h.2.mono k⟩
theorem den_pos (r : Rat) : (0 : Int) < r.den := Int.natCast_pos.mpr r.den_pos
def loB (lo : D) (i : Int) : Bool := match lo with
  | .int l => decide (l ≤ i)
  | _ => true
def hiB (hi : D) (i : Int) : Bool := match hi with
  | .int l => decide (i ≤ l)
  | _ => true
def wholeD (x lo hi : D) : Bool := match x with
  | .int i => loB lo i && hiB hi i
  | _ => false
def bndD : D → Bool
  | .non => true
  | .int _ => true
  | _ => false
def isW : D → Bool
  | .int _ => true
  | _ => false
theorem divInt_eq (t b : Int) (hb : 0 < b) : t / ((Nat.gcd t.natAbs b.natAbs : Nat) : Int) = (Rat.divInt t b).num ∧ b / ((Nat.gcd t.natAbs b.natAbs : Nat) : Int) = ((Rat.divInt t b).den : Int) := by
  have e : Int.gcd b t = Nat.gcd t.natAbs b.natAbs := by
    rw [Int.gcd_comm]
    rfl
  rw [Rat.num_divInt, Rat.den_divInt, e, if_neg (by omega)]
  have s : b.sign = 1 := Int.sign_eq_one_of_pos hb
  rw [s, Int.one_mul]
  refine ⟨rfl, ?_⟩
  rw [Int.natCast_ediv]
  congr 1
  omega
theorem Sr.divInt {n : Nat} {t b : Int} (ht : Sz n t) (hb : Sz n b) (h0 : b ≠ 0) : Sr n (Rat.divInt t b) := by
  have key : ∀ t b : Int, Sz n t → Sz n b → 0 < b → Sr n (Rat.divInt t b) := fun t b ht hb h0 => by
    obtain ⟨e1, e2⟩ := divInt_eq t b h0
    refine ⟨ht.le ?_, hb.le ?_⟩
    · rw [← e1, Int.natAbs_ediv_of_dvd, Int.natAbs_natCast]
      · exact Nat.div_le_self _ _
      · rw [← Int.dvd_natAbs, Int.ofNat_dvd]
        exact Nat.gcd_dvd_left _ _
    · rw [← e2, Int.natAbs_ediv_of_dvd, Int.natAbs_natCast]
      · exact Nat.div_le_self _ _
      · rw [← Int.dvd_natAbs, Int.ofNat_dvd]
        exact Nat.gcd_dvd_right _ _
  rcases Int.lt_or_gt_of_ne h0 with h | h
  · rw [← Rat.neg_divInt_neg]
    exact key _ _ ht.neg hb.neg (by omega)
  · exact key _ _ ht hb h
theorem rat_add (a b : Rat) : Rat.divInt (a.num * b.den + b.num * a.den) (a.den * b.den) = a + b := by
  rw [Rat.add_def', ← Int.natCast_mul, Rat.divInt_ofNat]
theorem rat_mul (a b : Rat) : Rat.divInt (a.num * b.num) (a.den * b.den) = a * b := by
  rw [Rat.mul_def', ← Int.natCast_mul, Rat.divInt_ofNat]
theorem rat_div (a b : Rat) : Rat.divInt (a.num * b.den) (a.den * b.num) = a / b := by
  have h := Rat.divInt_mul_divInt a.num b.den (d₁ := (a.den : Int)) (d₂ := b.num)
  rw [← h, Rat.num_divInt_den, Rat.div_def, Rat.inv_def]
def cmpR (a b : Rat) : Int := if a = b then 0 else if b < a then 1 else -1
theorem cmpR_sign (a b : Rat) : (a.num * b.den - b.num * a.den = 0 ↔ a = b) ∧ (0 < a.num * b.den - b.num * a.den ↔ b < a) := by
  rw [Rat.eq_iff_mul_eq_mul, Rat.lt_iff]
  omega
theorem Sr.add {n : Nat} {a b : Rat} (ha : Sr n a) (hb : Sr n b) : Sr (n + n + 1) (a + b) := by
  rw [← rat_add]
  refine Sr.divInt ((ha.1.mul hb.2).add (hb.1.mul ha.2)) ((ha.2.mul hb.2).mono (by omega)) ?_
  have := Int.mul_pos (den_pos a) (den_pos b)
  omega
theorem Sr.mul {n : Nat} {a b : Rat} (ha : Sr n a) (hb : Sr n b) : Sr (n + n) (a * b) := by
  rw [← rat_mul]
  refine Sr.divInt (ha.1.mul hb.1) (ha.2.mul hb.2) ?_
  have := Int.mul_pos (den_pos a) (den_pos b)
  omega
theorem Sr.neg {n : Nat} {a : Rat} (ha : Sr n a) : Sr n (-a) := ⟨ha.1.neg, ha.2⟩
theorem Sr.div {n : Nat} {a b : Rat} (ha : Sr n a) (hb : Sr n b) (h : b ≠ 0) : Sr (n + n) (a / b) := by
  rw [← rat_div]
  refine Sr.divInt (ha.1.mul hb.2) (ha.2.mul hb.1) ?_
  have h1 : b.num ≠ 0 := fun z => h (Rat.num_eq_zero.mp z)
  exact Int.mul_ne_zero (by have := den_pos a; omega) h1
theorem eqv_rat (a b : Rat) : PyData.eqv (rat a).py (rat b).py = decide (a = b) := by
  simp only [D.py, D.pyAll, PyData.eqv, PyData.eqvAll, Bool.and_true]
  by_cases h : a = b
  · subst h
    simp
  · rw [decide_eq_false h, Bool.and_eq_false_iff]
    by_cases h1 : a.num = b.num
    · right
      refine beq_eq_false_iff_ne.mpr fun z => h (Rat.ext h1 ?_)
      omega
    · left
      exact beq_eq_false_iff_ne.mpr h1
theorem shp_rat (n : Nat) (a : Rat) : D.shp (n + 1) (rat a) = true := by
  rw [D.shp]
  simp [D.shpAll, D.shp]
section
variable {P : Program} {w : World} {K : PySem.W.Frag} {mg : Str → Option Value} {base : Heap}
theorem e_zero (T : Tx K mg) {Γ : List S} : Ev K (tC (.ref (He.ga K "ZERO"))) Γ (rat 0) := e_ktup T.zero fun _ => .cons (.int _) (.cons (.int _) .nil)
theorem e_one (T : Tx K mg) {Γ : List S} : Ev K (tC (.ref (He.ga K "ONE"))) Γ (rat 1) := e_ktup T.one fun _ => .cons (.int _) (.cons (.int _) .nil)
theorem ro_eqR {a b : Rat} : Ro K (rEqD K) (rat a) (rat b) fun u => u = .bl (decide (a = b)) := by
  rw [← eqv_rat]
  exact ro_eqD (shp_rat _ _) (shp_rat _ _)
theorem ro_neR {a b : Rat} : Ro K (rNeD K) (rat a) (rat b) fun u => u = .bl (!decide (a = b)) := by
  rw [← eqv_rat]
  exact ro_neD (shp_rat _ _) (shp_rat _ _)

abbrev N_is_whole : List Str := ["thing", "low", "high"]
theorem sc_is_whole : FnScope N_is_whole ["thing", "low", "high"] (defScope JA.s_is_whole) := ⟨rfl, rfl, rfl, by decide +kernel, rfl, by decide +kernel, by decide +kernel⟩
def R_is_whole : List D → D → Prop := fun ds d => ∃ x lo hi, ds = [x, lo, hi] ∧ x.tyV.isSome = true ∧ bndD lo = true ∧ bndD hi = true ∧ d = .bl (wholeD x lo hi)
theorem kit_notint {t : String} (h : ∃ x : D, x.tyV = some t ∧ isW x = false ∧ t ≠ "bool") : PySem.W.kitOne K (.type t) (.type "bool") = some false ∧ PySem.W.kitOne K (.type t) (.type "int") = some false := by
  obtain ⟨x, h1, h2, h3⟩ := h
  cases x <;> first
    | (cases Option.some.inj h1; first | exact absurd rfl h3 | exact (Bool.noConfusion h2) | exact ⟨kit_ty (by decide +kernel), kit_ty (by decide +kernel)⟩)
    | cases h1
theorem f_is_whole (T : Tx K mg) {CX : CXT} {dv : List V} {f : Addr} {fd : FuncData} (F : FunD K "is_whole" "is_whole" (defArgs JA.s_is_whole) (defBody JA.s_is_whole) (defScope JA.s_is_whole) dv [] f fd) : FnOk P w K mg base CX 1 f fd ["thing", "low", "high"] (spV K R_is_whole) := by
  refine fnok_V F sc_is_whole (fun ds d h => ?_) fun cdv A outer s H E hRm ds d h => ?_
  · obtain ⟨x, lo, hi, rfl, _⟩ := h
    rfl
  · obtain ⟨x, lo, hi, rfl, hx, hl, hh, rfl⟩ := h
    refine ⟨_, (pss_cons (ps_if (PW.pt (pw_or (pt_val (pe_callB call_isiX (by rfl) (T.free 94) (by decide +kernel) (pa_cons (pv 0) (pa_cons (pe_bltn (v := .ty "bool") (by rfl) (T.free 91) (by decide +kernel) rfl) pa_nil)))) (pw_or1 (pt_not (pt_val (pe_callB call_isiX (by rfl) (T.free 94) (by decide +kernel) (pa_cons (pv 0) (pa_cons (pe_bltn (v := .ty "int") (by rfl) (T.free 93) (by decide +kernel) rfl) pa_nil)))))))) (pss_one (ps_ret pe_bl)) pss_nil)
    (pss_one (ps_ret (pe_and (pe_or (pe_cmpR op_isNX (pv 1) pe_non (nomark _)) (pe_one (pe_cmpR (op_le) (pv 1) (pv 0) (nomark _)))) (pe_one (pe_or (pe_cmpR op_isNX (pv 2) pe_non (nomark _)) (pe_one (pe_cmpR (op_le) (pv 0) (pv 2) (nomark _))))))))), ?_⟩
    by_cases hw : isW x = true
    · cases x with
      | int i =>
        refine s_seq (s_ifF (t_or (a := false) (b := false) (t_B (e_cb (ea_cons (e_var rfl) (ea_cons e_ty ea_nil)) (rc_isi rfl (kit_ty (by decide +kernel))))) fun _ => t_not (a := true) (t_B (e_cb (ea_cons (e_var rfl) (ea_cons e_ty ea_nil)) (rc_isi rfl (kit_ty (by decide +kernel)))))) (s_next ?_))
        have lop : ∃ b : Bool, b = loB lo i ∧ Ev K (tOrV (tOp rIsNX (tVar 1) (tC .non)) (tOp (rI0 fun i j => .bl (decide (i ≤ j))) (tVar 1) (tVar 0))) [.val (.int i), .val lo, .val hi] (.bl b) := by
          cases lo with
          | non => exact ⟨true, rfl, e_or (a := true) (b := true) (e_op (e_var rfl) e_non ro_isN) fun z => by cases z⟩
          | int l => exact ⟨decide (l ≤ i), rfl, (e_or (a := false) (b := decide (l ≤ i)) (e_op (e_var rfl) e_non ro_isN) fun _ => (e_op (e_var rfl) (e_var rfl) ro_le)).cast (by rw [Bool.false_or])⟩
          | _ => cases hl
        have hip : ∃ b : Bool, b = hiB hi i ∧ Ev K (tOrV (tOp rIsNX (tVar 2) (tC .non)) (tOp (rI0 fun i j => .bl (decide (i ≤ j))) (tVar 0) (tVar 2))) [.val (.int i), .val lo, .val hi] (.bl b) := by
          cases hi with
          | non => exact ⟨true, rfl, e_or (a := true) (b := true) (e_op (e_var rfl) e_non ro_isN) fun z => by cases z⟩
          | int l => exact ⟨decide (i ≤ l), rfl, (e_or (a := false) (b := decide (i ≤ l)) (e_op (e_var rfl) e_non ro_isN) fun _ => (e_op (e_var rfl) (e_var rfl) ro_le)).cast (by rw [Bool.false_or])⟩
          | _ => cases hh
        obtain ⟨b1, e1, h1⟩ := lop
        obtain ⟨b2, e2, h2⟩ := hip
        refine s_retV (e_and h1 fun _ => h2) ?_
        show D.bl (b1 && b2) = .bl (wholeD (.int i) lo hi)
        rw [e1, e2]
        rfl
      | _ => cases hw
    · have e : wholeD x lo hi = false := by
        cases x with
        | int i => exact absurd rfl hw
        | _ => rfl
      rw [e]
      obtain ⟨t, ht⟩ := Option.isSome_iff_exists.mp hx
      by_cases hb : t = "bool"
      · subst hb
        exact s_seq (s_ifT (t_or (a := true) (b := false) (t_B (e_cb (ea_cons (e_var rfl) (ea_cons e_ty ea_nil)) (rc_isi ht (kit_ty (by decide +kernel))))) fun z => by cases z) (s_retV e_bl rfl))
      · obtain ⟨k1, k2⟩ := kit_notint (K := K) ⟨x, ht, by simpa using hw, hb⟩
        exact s_seq (s_ifT (t_or (a := false) (b := true) (t_B (e_cb (ea_cons (e_var rfl) (ea_cons e_ty ea_nil)) (rc_isi ht k1))) fun _ => t_not (a := false) (t_B (e_cb (ea_cons (e_var rfl) (ea_cons e_ty ea_nil)) (rc_isi ht k2)))) (s_retV e_bl rfl))
theorem c_is_whole_3 (T : Tx K mg) : Cal P w K mg base 1 "is_whole" (spV K R_is_whole) [] := by
  obtain ⟨fd, F⟩ := T.says.1.def_ 0
  obtain ⟨ds, r, b⟩ := F.binds1 (ps := ["thing", "low", "high"]) 3 2 (by simp [He.DefD.dvs, JA.d0, JA.d3]) rfl fun _ _ _ _ _ _ _ us its hl h2 => match us, hl, its, h2 with | [_, _, _], _, [_, _], _ => ⟨_, rfl, rfl⟩
  exact ⟨_, fd, _, ds, f_is_whole T F, T.glo 0, F.kp, b, r⟩
theorem c_is_whole_2 (T : Tx K mg) : Cal P w K mg base 1 "is_whole" (spV K R_is_whole) [.non] := by
  obtain ⟨fd, F⟩ := T.says.1.def_ 0
  obtain ⟨ds, r, b⟩ := F.binds1 (ps := ["thing", "low", "high"]) 2 1 (by simp [He.DefD.dvs, JA.d0, JA.d3]) rfl fun _ _ _ _ _ _ _ us its hl h2 => match us, hl, its, h2 with | [_, _], _, [_, _], _ => ⟨_, rfl, rfl⟩
  exact ⟨_, fd, _, ds, f_is_whole T F, T.glo 0, F.kp, b, r⟩
theorem c_is_whole_1 (T : Tx K mg) : Cal P w K mg base 1 "is_whole" (spV K R_is_whole) [.non, .non] := by
  obtain ⟨fd, F⟩ := T.says.1.def_ 0
  obtain ⟨ds, r, b⟩ := F.binds1 (ps := ["thing", "low", "high"]) 1 0 (by simp [He.DefD.dvs, JA.d0, JA.d3]) rfl fun _ _ _ _ _ _ _ us its hl h2 => match us, hl, its, h2 with | [_], _, [_, _], _ => ⟨_, rfl, rfl⟩
  exact ⟨_, fd, _, ds, f_is_whole T F, T.glo 0, F.kp, b, r⟩
/-- is_whole(x), is_whole(x, lo) -/
theorem rl_n1 {B : Hp} : RepL K B [.non] [.non] := .cons .non .nil
theorem rl_n2 {B : Hp} : RepL K B [.non, .non] [.non, .non] := .cons .non (.cons .non .nil)
theorem e_whole1 {Γ : List S} {te : TE} {x : D} {E : XK} (h : Ev K te Γ x) (hx : x.tyV.isSome = true) : Ev K (tCall (spV K R_is_whole) [.non, .non] E (tCons te tNil)) Γ (.bl (isW x)) :=
  e_callD (ea_cons h ea_nil) (fun _ => rl_n2) ⟨x, .non, .non, rfl, hx, rfl, rfl, by cases x <;> rfl⟩
theorem e_wholeI {Γ : List S} {te : TE} {i : Int} {E : XK} (h : Ev K te Γ (.int i)) : Ev K (tCall (spV K R_is_whole) [.non, .non] E (tCons te tNil)) Γ (.bl true) := e_whole1 h rfl
theorem e_whole2 {Γ : List S} {te tl : TE} {x : D} {l : Int} {E : XK} (h : Ev K te Γ x) (hl : Ev K tl Γ (.int l)) (hx : x.tyV.isSome = true) : Ev K (tCall (spV K R_is_whole) [.non] E (tCons te (tCons tl tNil))) Γ (.bl (wholeD x (.int l) .non)) :=
  e_callD (ea_cons h (ea_cons hl ea_nil)) (fun _ => rl_n1) ⟨x, .int l, .non, rfl, hx, rfl, rfl, rfl⟩

abbrev N_is_ratio : List Str := ["thing", "top", "bottom"]
theorem sc_is_ratio : FnScope N_is_ratio ["thing"] (defScope JA.s_is_ratio) := ⟨rfl, rfl, rfl, by decide +kernel, rfl, by decide +kernel, by decide +kernel⟩
def R_is_ratio : List D → D → Prop := fun ds d => ∃ r : Rat, ds = [rat r] ∧ d = .bl true
theorem c_is_ratio (T : Tx K mg) : Cal P w K mg base 2 "is_ratio" (spV K R_is_ratio) [] := by
  refine cal_V (T.glo 1) (T.says.1.def_ 1) sc_is_ratio (fun ds d h => ?_) (fun _ _ _ _ _ _ us hl => match us, hl with | [_], _ => rfl) fun cdv A outer s H E hRm ds d h => ?_
  · obtain ⟨r, rfl, _⟩ := h
    rfl
  · obtain ⟨r, rfl, rfl⟩ := h
    refine ⟨_, (pss_cons (ps_if (PW.pt (pw_or (pt_not (pt_val (pe_callB call_isiX (by rfl) (T.free 94) (by decide +kernel) (pa_cons (pv 0) (pa_cons (pe_bltn (v := .ty "tuple") (by rfl) (T.free 104) (by decide +kernel) rfl) pa_nil))))) (pw_or1 (pt_cmpR (op_neD hRm.units) (pe_callB call_lenX (by rfl) (T.free 95) (by decide +kernel) (pa_cons (pv 0) pa_nil)) pe_int (nomark _))))) (pss_one (ps_ret pe_bl)) pss_nil)
    (pss_cons (ps_asg (pv 0) (pg_tup rfl (pgs_cons (pg_name (i := 1) sc_is_ratio.nd rfl (by first | exact Or.inl rfl | exact Or.inr rfl)) (pgs_cons (pg_name (i := 2) sc_is_ratio.nd rfl (by first | exact Or.inl rfl | exact Or.inr rfl)) pgs_nil))))
    (pss_one (ps_ret (pe_and (C8.pe_c (c_is_whole_1 T) hRm (by decide) (by rfl) (pa_cons (pv 1) pa_nil)) (pe_and (C8.pe_c (c_is_whole_2 T) hRm (by decide) (by rfl) (pa_cons (pv 2) (pa_cons pe_int pa_nil))) (pe_one (pe_cmpR (op_eqD hRm.units) (pe_callBfun cr_gcd (by rfl) T.gcd (pa_cons (pv 1) (pa_cons (pv 2) pa_nil))) pe_int (nomark _))))))))), ?_⟩
    refine s_seq (s_ifF (t_or (a := false) (b := false) (t_not (a := true) (t_B (e_cb (ea_cons (e_var rfl) (ea_cons e_ty ea_nil)) (rc_isi rfl (kit_ty (by decide +kernel)))))) fun _ => (t_test (e_op (e_cb (ea_cons (e_var rfl) ea_nil) (rc_len rfl)) e_int ro_ne))) (s_next ?_))
    refine s_seq (s_asgG (vs := [1, 2]) (e_var rfl) (g_tup (gs_cons g_name (gs_cons g_name gs_nil))) ?_)
    refine s_retV ((e_and (a := true) (b := true) (e_wholeI (e_var rfl)) fun _ => (e_and (a := true) (b := true) ((e_whole2 (e_var rfl) e_int rfl).cast ?_) fun _ => ((e_op (e_cb (ea_cons (e_var rfl) (ea_cons (e_var rfl) ea_nil)) rc_gcd) e_int ro_eq)).cast ?_))) rfl
    · show D.bl (decide ((1 : Int) ≤ r.den) && true) = .bl true
      rw [Bool.and_true, decide_eq_true (by have := den_pos r; omega)]
    · rw [decide_eq_true]
      have := r.reduced
      unfold Nat.Coprime at this
      rw [show (r.den : Int).natAbs = r.den from Int.natAbs_natCast _, this]
      rfl

abbrev N_in_lowest_terms : List Str := ["top", "bottom", "common_part"]
theorem sc_in_lowest_terms : FnScope N_in_lowest_terms ["top", "bottom"] (defScope JA.s_in_lowest_terms) := ⟨rfl, rfl, rfl, by decide +kernel, rfl, by decide +kernel, by decide +kernel⟩
def R_in_lowest_terms : List D → D → Prop := fun ds d => ∃ t b : Int, ds = [.int t, .int b] ∧ b ≠ 0 ∧ Sz 8000 b ∧ d = rat (Rat.divInt t b)
theorem c_in_lowest_terms (T : Tx K mg) : Cal P w K mg base 1 "in_lowest_terms" (spV K R_in_lowest_terms) [] := by
  refine cal_V (T.glo 2) (T.says.1.def_ 2) sc_in_lowest_terms (fun ds d h => ?_) (fun _ _ _ _ _ _ us hl => match us, hl with | [_, _], _ => rfl) fun cdv A outer s H E hRm ds d h => ?_
  · obtain ⟨t, b, rfl, _⟩ := h
    rfl
  · obtain ⟨t, b, rfl, hb, hs, rfl⟩ := h
    refine ⟨_, (pss_cons (ps_if (pt_cmpR (op_lt) (pv 1) pe_int (nomark _)) (pss_one (ps_par (i := 0) (j := 1) (by rfl) sc_in_lowest_terms.nd rfl rfl (by decide) rfl rfl (pa_cons (pe_un un_neg (pv 0)) (pa_cons (pe_un un_neg (pv 1)) pa_nil)) (by rfl))) pss_nil)
    (pss_cons (ps_set (i := 2) sc_in_lowest_terms.nd rfl (by first | exact Or.inl rfl | exact Or.inr rfl) (pe_callBfun cr_gcd (by rfl) T.gcd (pa_cons (pv 0) (pa_cons (pv 1) pa_nil))))
    (pss_one (ps_ret (pe_tup (pa_cons (pe_op op_fdivW (pv 0) (pv 2)) (pa_cons (pe_op op_fdivW (pv 1) (pv 2)) pa_nil))))))), ?_⟩
    refine s_mid (fun Γ => ∃ t' b' : Int, 0 < b' ∧ Sz 8000 b' ∧ Rat.divInt t' b' = Rat.divInt t b ∧ Γ = [.val (.int t'), .val (.int b'), .no]) (s_ifB (t_test (e_op (e_var rfl) e_int ro_lt)) (fun h => ?_) (fun h => ?_)) fun Γ iv => ?_
    · refine s_par (ea_cons (e_un (e_var rfl) ru_neg) (ea_cons (e_un (e_var rfl) ru_neg) ea_nil)) ?_
      have h' : b < 0 := of_decide_eq_true h
      exact ⟨-t, -b, by omega, hs.neg, Rat.neg_divInt_neg t b, rfl⟩
    · refine s_next ?_
      have h' : ¬ b < 0 := of_decide_eq_false h
      exact ⟨t, b, by omega, hs, rfl, rfl⟩
    · obtain ⟨t', b', hb', hs', hr', rfl⟩ := iv
      have hg : (0 : Int) < ((Nat.gcd t'.natAbs b'.natAbs : Nat) : Int) := Int.natCast_pos.mpr (Nat.gcd_pos_of_pos_right _ (by omega))
      have hz : Sz 8999 ((Nat.gcd t'.natAbs b'.natAbs : Nat) : Int) := (hs'.mono (by decide)).le (by
        rw [Int.natAbs_natCast]
        exact Nat.le_of_dvd (by omega) (Nat.gcd_dvd_right _ _))
      refine s_seq (s_asgV (e_cb (ea_cons (e_var rfl) (ea_cons (e_var rfl) ea_nil)) rc_gcd) ?_)
      refine s_retV (e_tup (ea_cons (e_op (e_var rfl) (e_var rfl) (ro_div hg hz)) (ea_cons (e_op (e_var rfl) (e_var rfl) (ro_div hg hz)) ea_nil)) (of_decide_eq_true rfl)) ?_
      obtain ⟨e1, e2⟩ := divInt_eq t' b' hb'
      show D.tup [.int _, .int _] = rat (Rat.divInt t b)
      rw [e1, e2, hr']
theorem e_low {Γ : List S} {ta tb : TE} {t b : Int} {E : XK} (h1 : Ev K ta Γ (.int t)) (h2 : Ev K tb Γ (.int b)) (h0 : b ≠ 0) (hs : Sz 8000 b) : Ev K (tCall (spV K R_in_lowest_terms) [] E (tCons ta (tCons tb tNil))) Γ (rat (Rat.divInt t b)) :=
  e_call (ea_cons h1 (ea_cons h2 ea_nil)) ⟨t, b, rfl, h0, hs, rfl⟩

abbrev N_make_ratio : List Str := ["top", "bottom"]
theorem sc_make_ratio : FnScope N_make_ratio ["top", "bottom"] (defScope JA.s_make_ratio) := ⟨rfl, rfl, rfl, by decide +kernel, rfl, by decide +kernel, by decide +kernel⟩
def R_make_ratio : List D → D → Prop := fun ds d => ∃ t b : Int, ds = [.int t, .int b] ∧ b ≠ 0 ∧ Sz 8000 b ∧ d = rat (Rat.divInt t b)
theorem f_make_ratio (T : Tx K mg) {CX : CXT} {dv : List V} {f : Addr} {fd : FuncData} (F : FunD K "make_ratio" "make_ratio" (defArgs JA.s_make_ratio) (defBody JA.s_make_ratio) (defScope JA.s_make_ratio) dv [] f fd) : FnOk P w K mg base CX 2 f fd ["top", "bottom"] (spV K R_make_ratio) := by
  refine fnok_V F sc_make_ratio (fun ds d h => ?_) fun cdv A outer s H E hRm ds d h => ?_
  · obtain ⟨t, b, rfl, _⟩ := h
    rfl
  · obtain ⟨t, b, rfl, hb, hs, rfl⟩ := h
    refine ⟨_, (pss_cons (ps_if (pt_not (pt_val (C8.pe_c (c_is_whole_1 T) hRm (by decide) (by rfl) (pa_cons (pv 0) pa_nil)))) pss_never pss_nil)
    (pss_cons (ps_if (PW.pt (pw_or (pt_not (pt_val (C8.pe_c (c_is_whole_1 T) hRm (by decide) (by rfl) (pa_cons (pv 1) pa_nil)))) (pw_or1 (pt_cmpR (op_eqD hRm.units) (pv 1) pe_int (nomark _))))) pss_never pss_nil)
    (pss_one (ps_ret (C8.pe_c (c_in_lowest_terms T) hRm (by decide) (by rfl) (pa_cons (pv 0) (pa_cons (pv 1) pa_nil))))))), ?_⟩
    refine s_seq (s_ifF (t_not (a := true) (t_B (e_wholeI (e_var rfl)))) (s_next ?_))
    refine s_seq (s_ifF (t_or (a := false) (b := false) (t_not (a := true) (t_B (e_wholeI (e_var rfl)))) fun _ => t_imp (t_test (e_op (e_var rfl) e_int ro_eq)) fun x e => by rw [e, decide_eq_false hb]) (s_next ?_))
    exact s_retV (e_low (e_var rfl) (e_var rfl) hb hs) rfl
theorem c_make_ratio_2 (T : Tx K mg) : Cal P w K mg base 2 "make_ratio" (spV K R_make_ratio) [] := by
  obtain ⟨fd, F⟩ := T.says.1.def_ 3
  obtain ⟨ds, r, b⟩ := F.binds1 (ps := ["top", "bottom"]) 2 1 (by simp [He.DefD.dvs, JA.d0, JA.d3]) rfl fun _ _ _ _ _ _ _ us its hl h2 => match us, hl, its, h2 with | [_, _], _, [_], _ => ⟨_, rfl, rfl⟩
  exact ⟨_, fd, _, ds, f_make_ratio T F, T.glo 3, F.kp, b, r⟩

abbrev N_plus : List Str := ["one", "other"]
theorem sc_plus : FnScope N_plus ["one", "other"] (defScope JA.s_plus) := ⟨rfl, rfl, rfl, by decide +kernel, rfl, by decide +kernel, by decide +kernel⟩
def R_plus : List D → D → Prop := fun ds d => ∃ a b : Rat, ds = [rat a, rat b] ∧ Sr 3000 a ∧ Sr 3000 b ∧ d = rat (a + b)
theorem c_plus (T : Tx K mg) : Cal P w K mg base 2 "plus" (spV K R_plus) [] := by
  refine cal_V (T.glo 4) (T.says.1.def_ 4) sc_plus (fun ds d h => ?_) (fun _ _ _ _ _ _ us hl => match us, hl with | [_, _], _ => rfl) fun cdv A outer s H E hRm ds d h => ?_
  · obtain ⟨a, b, rfl, _⟩ := h
    rfl
  · obtain ⟨a, b, rfl, ha, hb, rfl⟩ := h
    refine ⟨_, (pss_one (ps_ret (C8.pe_c (c_in_lowest_terms T) hRm (by decide) (by rfl) (pa_cons (pe_op op_addX (pe_op op_mulX (pe_ix ix_seq (pv 0) pe_int (fun _ _ => rfl)) (pe_ix ix_seq (pv 1) pe_int (fun _ _ => rfl))) (pe_op op_mulX (pe_ix ix_seq (pv 1) pe_int (fun _ _ => rfl)) (pe_ix ix_seq (pv 0) pe_int (fun _ _ => rfl)))) (pa_cons (pe_op op_mulX (pe_ix ix_seq (pv 0) pe_int (fun _ _ => rfl)) (pe_ix ix_seq (pv 1) pe_int (fun _ _ => rfl))) pa_nil))))), ?_⟩
    have hp := Int.mul_pos (den_pos a) (den_pos b)
    refine s_retV ((e_low (e_op (e_op (e_op (e_var rfl) e_int (ro_ix rfl)) (e_op (e_var rfl) e_int (ro_ix rfl)) (ro_mul ?_ ?_)) (e_op (e_op (e_var rfl) e_int (ro_ix rfl)) (e_op (e_var rfl) e_int (ro_ix rfl)) (ro_mul ?_ ?_)) ro_add) (e_op (e_op (e_var rfl) e_int (ro_ix rfl)) (e_op (e_var rfl) e_int (ro_ix rfl)) (ro_mul ?_ ?_)) (by omega) ((ha.2.mul hb.2).mono (by decide))).cast (by rw [rat_add])) rfl
    · exact ha.1.mono (by decide)
    · exact hb.2.mono (by decide)
    · exact hb.1.mono (by decide)
    · exact ha.2.mono (by decide)
    · exact ha.2.mono (by decide)
    · exact hb.2.mono (by decide)
theorem e_plus {Γ : List S} {ta tb : TE} {a b : Rat} {E : XK} (h1 : Ev K ta Γ (rat a)) (h2 : Ev K tb Γ (rat b)) (ha : Sr 3000 a) (hb : Sr 3000 b) : Ev K (tCall (spV K R_plus) [] E (tCons ta (tCons tb tNil))) Γ (rat (a + b)) :=
  e_call (ea_cons h1 (ea_cons h2 ea_nil)) ⟨a, b, rfl, ha, hb, rfl⟩

abbrev N_negative : List Str := ["one"]
theorem sc_negative : FnScope N_negative ["one"] (defScope JA.s_negative) := ⟨rfl, rfl, rfl, by decide +kernel, rfl, by decide +kernel, by decide +kernel⟩
def R_negative : List D → D → Prop := fun ds d => ∃ a : Rat, ds = [rat a] ∧ d = rat (-a)
theorem c_negative (T : Tx K mg) : Cal P w K mg base 1 "negative" (spV K R_negative) [] := by
  refine cal_V (T.glo 5) (T.says.1.def_ 5) sc_negative (fun ds d h => ?_) (fun _ _ _ _ _ _ us hl => match us, hl with | [_], _ => rfl) fun cdv A outer s H E hRm ds d h => ?_
  · obtain ⟨a, rfl, _⟩ := h
    rfl
  · obtain ⟨a, rfl, rfl⟩ := h
    refine ⟨_, (pss_one (ps_ret (pe_tup (pa_cons (pe_un un_neg (pe_ix ix_seq (pv 0) pe_int (fun _ _ => rfl))) (pa_cons (pe_ix ix_seq (pv 0) pe_int (fun _ _ => rfl)) pa_nil))))), ?_⟩
    exact s_retV (e_tup (ea_cons (e_un (e_op (e_var rfl) e_int (ro_ix rfl)) ru_neg) (ea_cons (e_op (e_var rfl) e_int (ro_ix rfl)) ea_nil)) (of_decide_eq_true rfl)) rfl

abbrev N_minus : List Str := ["one", "other"]
theorem sc_minus : FnScope N_minus ["one", "other"] (defScope JA.s_minus) := ⟨rfl, rfl, rfl, by decide +kernel, rfl, by decide +kernel, by decide +kernel⟩
def R_minus : List D → D → Prop := fun ds d => ∃ a b : Rat, ds = [rat a, rat b] ∧ Sr 3000 a ∧ Sr 3000 b ∧ d = rat (a - b)
theorem c_minus (T : Tx K mg) : Cal P w K mg base 3 "minus" (spV K R_minus) [] := by
  refine cal_V (T.glo 6) (T.says.1.def_ 6) sc_minus (fun ds d h => ?_) (fun _ _ _ _ _ _ us hl => match us, hl with | [_, _], _ => rfl) fun cdv A outer s H E hRm ds d h => ?_
  · obtain ⟨a, b, rfl, _⟩ := h
    rfl
  · obtain ⟨a, b, rfl, ha, hb, rfl⟩ := h
    refine ⟨_, (pss_one (ps_ret (C8.pe_c (c_plus T) hRm (by decide) (by rfl) (pa_cons (pv 0) (pa_cons (C8.pe_c (c_negative T) hRm (by decide) (by rfl) (pa_cons (pv 1) pa_nil)) pa_nil))))), ?_⟩
    exact s_retV (e_plus (b := -b) (e_var rfl) (e_call (ea_cons (e_var rfl) ea_nil) ⟨b, rfl, rfl⟩) ha hb.neg) (by rw [Rat.sub_eq_add_neg])
theorem e_minus {Γ : List S} {ta tb : TE} {a b : Rat} {E : XK} (h1 : Ev K ta Γ (rat a)) (h2 : Ev K tb Γ (rat b)) (ha : Sr 3000 a) (hb : Sr 3000 b) : Ev K (tCall (spV K R_minus) [] E (tCons ta (tCons tb tNil))) Γ (rat (a - b)) :=
  e_call (ea_cons h1 (ea_cons h2 ea_nil)) ⟨a, b, rfl, ha, hb, rfl⟩

abbrev N_times : List Str := ["one", "other"]
theorem sc_times : FnScope N_times ["one", "other"] (defScope JA.s_times) := ⟨rfl, rfl, rfl, by decide +kernel, rfl, by decide +kernel, by decide +kernel⟩
def R_times : List D → D → Prop := fun ds d => ∃ a b : Rat, ds = [rat a, rat b] ∧ Sr 3000 a ∧ Sr 3000 b ∧ d = rat (a * b)
theorem c_times (T : Tx K mg) : Cal P w K mg base 2 "times" (spV K R_times) [] := by
  refine cal_V (T.glo 7) (T.says.1.def_ 7) sc_times (fun ds d h => ?_) (fun _ _ _ _ _ _ us hl => match us, hl with | [_, _], _ => rfl) fun cdv A outer s H E hRm ds d h => ?_
  · obtain ⟨a, b, rfl, _⟩ := h
    rfl
  · obtain ⟨a, b, rfl, ha, hb, rfl⟩ := h
    refine ⟨_, (pss_one (ps_ret (C8.pe_c (c_in_lowest_terms T) hRm (by decide) (by rfl) (pa_cons (pe_op op_mulX (pe_ix ix_seq (pv 0) pe_int (fun _ _ => rfl)) (pe_ix ix_seq (pv 1) pe_int (fun _ _ => rfl))) (pa_cons (pe_op op_mulX (pe_ix ix_seq (pv 0) pe_int (fun _ _ => rfl)) (pe_ix ix_seq (pv 1) pe_int (fun _ _ => rfl))) pa_nil))))), ?_⟩
    have hp := Int.mul_pos (den_pos a) (den_pos b)
    refine s_retV ((e_low (e_op (e_op (e_var rfl) e_int (ro_ix rfl)) (e_op (e_var rfl) e_int (ro_ix rfl)) (ro_mul ?_ ?_)) (e_op (e_op (e_var rfl) e_int (ro_ix rfl)) (e_op (e_var rfl) e_int (ro_ix rfl)) (ro_mul ?_ ?_)) (by omega) ((ha.2.mul hb.2).mono (by decide))).cast (by rw [rat_mul])) rfl
    · exact ha.1.mono (by decide)
    · exact hb.1.mono (by decide)
    · exact ha.2.mono (by decide)
    · exact hb.2.mono (by decide)
theorem e_times {Γ : List S} {ta tb : TE} {a b : Rat} {E : XK} (h1 : Ev K ta Γ (rat a)) (h2 : Ev K tb Γ (rat b)) (ha : Sr 3000 a) (hb : Sr 3000 b) : Ev K (tCall (spV K R_times) [] E (tCons ta (tCons tb tNil))) Γ (rat (a * b)) :=
  e_call (ea_cons h1 (ea_cons h2 ea_nil)) ⟨a, b, rfl, ha, hb, rfl⟩

abbrev N_over : List Str := ["one", "other"]
theorem sc_over : FnScope N_over ["one", "other"] (defScope JA.s_over) := ⟨rfl, rfl, rfl, by decide +kernel, rfl, by decide +kernel, by decide +kernel⟩
def R_over : List D → D → Prop := fun ds d => ∃ a b : Rat, ds = [rat a, rat b] ∧ Sr 3000 a ∧ Sr 3000 b ∧ b ≠ 0 ∧ d = rat (a / b)
theorem c_over (T : Tx K mg) : Cal P w K mg base 2 "over" (spV K R_over) [] := by
  refine cal_V (T.glo 8) (T.says.1.def_ 8) sc_over (fun ds d h => ?_) (fun _ _ _ _ _ _ us hl => match us, hl with | [_, _], _ => rfl) fun cdv A outer s H E hRm ds d h => ?_
  · obtain ⟨a, b, rfl, _⟩ := h
    rfl
  · obtain ⟨a, b, rfl, ha, hb, h0, rfl⟩ := h
    refine ⟨_, (pss_cons (ps_if (pt_cmpR (op_eqD hRm.units) (pv 1) (C8.pe_gc (v := .ref (He.ga K "ZERO")) (by rfl) ⟨_, T.glo 85, rfl⟩) (nomark _)) pss_never pss_nil)
    (pss_one (ps_ret (C8.pe_c (c_in_lowest_terms T) hRm (by decide) (by rfl) (pa_cons (pe_op op_mulX (pe_ix ix_seq (pv 0) pe_int (fun _ _ => rfl)) (pe_ix ix_seq (pv 1) pe_int (fun _ _ => rfl))) (pa_cons (pe_op op_mulX (pe_ix ix_seq (pv 0) pe_int (fun _ _ => rfl)) (pe_ix ix_seq (pv 1) pe_int (fun _ _ => rfl))) pa_nil)))))), ?_⟩
    have h1 : b.num ≠ 0 := fun z => h0 (Rat.num_eq_zero.mp z)
    have hp := Int.mul_ne_zero (show (a.den : Int) ≠ 0 by have := den_pos a; omega) h1
    refine s_seq (s_ifF (t_imp (t_test (e_op (e_var rfl) (e_zero T) ro_eqR)) fun x e => by rw [e, decide_eq_false h0]) (s_next ?_))
    refine s_retV ((e_low (e_op (e_op (e_var rfl) e_int (ro_ix rfl)) (e_op (e_var rfl) e_int (ro_ix rfl)) (ro_mul ?_ ?_)) (e_op (e_op (e_var rfl) e_int (ro_ix rfl)) (e_op (e_var rfl) e_int (ro_ix rfl)) (ro_mul ?_ ?_)) hp ((ha.2.mul hb.1).mono (by decide))).cast (by rw [rat_div])) rfl
    · exact ha.1.mono (by decide)
    · exact hb.2.mono (by decide)
    · exact ha.2.mono (by decide)
    · exact hb.1.mono (by decide)
theorem e_over {Γ : List S} {ta tb : TE} {a b : Rat} {E : XK} (h1 : Ev K ta Γ (rat a)) (h2 : Ev K tb Γ (rat b)) (ha : Sr 3000 a) (hb : Sr 3000 b) (h0 : b ≠ 0) : Ev K (tCall (spV K R_over) [] E (tCons ta (tCons tb tNil))) Γ (rat (a / b)) :=
  e_call (ea_cons h1 (ea_cons h2 ea_nil)) ⟨a, b, rfl, ha, hb, h0, rfl⟩

abbrev N_compare : List Str := ["one", "other", "difference"]
theorem sc_compare : FnScope N_compare ["one", "other"] (defScope JA.s_compare) := ⟨rfl, rfl, rfl, by decide +kernel, rfl, by decide +kernel, by decide +kernel⟩
def R_compare : List D → D → Prop := fun ds d => ∃ a b : Rat, ds = [rat a, rat b] ∧ Sr 3000 a ∧ Sr 3000 b ∧ d = .int (cmpR a b)
theorem c_compare (T : Tx K mg) : Cal P w K mg base 1 "compare" (spV K R_compare) [] := by
  refine cal_V (T.glo 9) (T.says.1.def_ 9) sc_compare (fun ds d h => ?_) (fun _ _ _ _ _ _ us hl => match us, hl with | [_, _], _ => rfl) fun cdv A outer s H E hRm ds d h => ?_
  · obtain ⟨a, b, rfl, _⟩ := h
    rfl
  · obtain ⟨a, b, rfl, ha, hb, rfl⟩ := h
    refine ⟨_, (pss_cons (ps_set (i := 2) sc_compare.nd rfl (by first | exact Or.inl rfl | exact Or.inr rfl) (pe_op op_sub (pe_op op_mulX (pe_ix ix_seq (pv 0) pe_int (fun _ _ => rfl)) (pe_ix ix_seq (pv 1) pe_int (fun _ _ => rfl))) (pe_op op_mulX (pe_ix ix_seq (pv 1) pe_int (fun _ _ => rfl)) (pe_ix ix_seq (pv 0) pe_int (fun _ _ => rfl)))))
    (pss_cons (ps_if (pt_cmpR (op_eqD hRm.units) (pv 2) pe_int (nomark _)) (pss_one (ps_ret pe_int)) pss_nil)
    (pss_one (ps_ret (pe_ifExp (pt_cmpR (op_gt) (pv 2) pe_int (nomark _)) pe_int (pe_un un_neg pe_int)))))), ?_⟩
    obtain ⟨z1, z2⟩ := cmpR_sign a b
    refine s_seq (s_asgV (e_op (e_op (e_op (e_var rfl) e_int (ro_ix rfl)) (e_op (e_var rfl) e_int (ro_ix rfl)) (ro_mul ?_ ?_)) (e_op (e_op (e_var rfl) e_int (ro_ix rfl)) (e_op (e_var rfl) e_int (ro_ix rfl)) (ro_mul ?_ ?_)) ro_sub) ?_)
    · exact ha.1.mono (by decide)
    · exact hb.2.mono (by decide)
    · exact hb.1.mono (by decide)
    · exact ha.2.mono (by decide)
    refine s_seq (s_ifB (t_test (e_op (e_var rfl) e_int ro_eq)) (fun h => ?_) (fun h => ?_))
    · have h' := z1.mp (of_decide_eq_true h)
      refine s_retV e_int ?_
      show D.int 0 = .int (cmpR a b)
      unfold cmpR
      rw [if_pos h']
    · have h' : ¬ a = b := fun z => of_decide_eq_false h (z1.mpr z)
      refine s_next ?_
      refine s_ret (e_if (t_test (e_op (e_var rfl) e_int ro_gt)) (fun h2 => Ev.imp e_int ?_) (fun h2 => Ev.imp (e_un e_int ru_neg) ?_)) fun d hd => hd
      · show D.int 1 = .int (cmpR a b)
        unfold cmpR
        rw [if_neg h', if_pos (z2.mp (of_decide_eq_true h2))]
      · show D.int (-1) = .int (cmpR a b)
        unfold cmpR
        rw [if_neg h', if_neg fun z => of_decide_eq_false h2 (z2.mpr z)]
theorem e_compare {Γ : List S} {ta tb : TE} {a b : Rat} {E : XK} (h1 : Ev K ta Γ (rat a)) (h2 : Ev K tb Γ (rat b)) (ha : Sr 3000 a) (hb : Sr 3000 b) : Ev K (tCall (spV K R_compare) [] E (tCons ta (tCons tb tNil))) Γ (.int (cmpR a b)) :=
  e_call (ea_cons h1 (ea_cons h2 ea_nil)) ⟨a, b, rfl, ha, hb, rfl⟩
theorem e_m1 {Γ : List S} : Ev K (tUn (rU fun i => V.int (-i)) (tC (V.int 1))) Γ (.int (-1)) := e_un e_int ru_neg
theorem cmpR_m1 (a b : Rat) : cmpR a b = -1 ↔ a < b := by
  unfold cmpR
  have h1 := @Rat.lt_irrefl a
  have h2 := @Rat.le_total a b
  by_cases e : a = b
  · subst e
    rw [if_pos rfl]
    exact ⟨fun z => (by cases z), fun z => absurd z h1⟩
  · rw [if_neg e]
    by_cases l : b < a
    · rw [if_pos l]
      refine ⟨fun z => (by cases z), fun z => ?_⟩
      exact absurd (Rat.le_antisymm (Rat.le_of_lt z) (Rat.le_of_lt l)) e
    · rw [if_neg l]
      refine ⟨fun _ => ?_, fun _ => rfl⟩
      exact Rat.lt_of_le_of_ne (Rat.not_lt.mp l) e
theorem cmpR_1 (a b : Rat) : cmpR a b = 1 ↔ b < a := by
  unfold cmpR
  by_cases e : a = b
  · subst e
    rw [if_pos rfl]
    exact ⟨fun z => (by cases z), fun z => absurd z Rat.lt_irrefl⟩
  · rw [if_neg e]
    by_cases l : b < a
    · rw [if_pos l]
      exact ⟨fun _ => l, fun _ => rfl⟩
    · rw [if_neg l]
      exact ⟨fun z => (by cases z), fun z => absurd z l⟩
/-- compare(a, b) == -1, == 1 -/
theorem t_lt {Γ : List S} {te t1 : TE} {a b : Rat} (h : Ev K te Γ (.int (cmpR a b))) (h1 : Ev K t1 Γ (.int (-1))) : Ev K (tOp (rEqD K) te t1) Γ (.bl (decide (a < b))) := (e_op h h1 ro_eq).cast (by
  congr 1
  exact decide_eq_decide.mpr (cmpR_m1 a b))
theorem t_gt {Γ : List S} {te t1 : TE} {a b : Rat} (h : Ev K te Γ (.int (cmpR a b))) (h1 : Ev K t1 Γ (.int 1)) : Ev K (tOp (rEqD K) te t1) Γ (.bl (decide (b < a))) := (e_op h h1 ro_eq).cast (by
  congr 1
  exact decide_eq_decide.mpr (cmpR_1 a b))
theorem t_nlt {Γ : List S} {te t1 : TE} {a b : Rat} (h : Ev K te Γ (.int (cmpR a b))) (h1 : Ev K t1 Γ (.int (-1))) : Ev K (tOp (rNeD K) te t1) Γ (.bl (!decide (a < b))) := (e_op h h1 ro_ne).cast (by
  congr 2
  exact decide_eq_decide.mpr (cmpR_m1 a b))
theorem t_ngt {Γ : List S} {te t1 : TE} {a b : Rat} (h : Ev K te Γ (.int (cmpR a b))) (h1 : Ev K t1 Γ (.int 1)) : Ev K (tOp (rNeD K) te t1) Γ (.bl (!decide (b < a))) := (e_op h h1 ro_ne).cast (by
  congr 2
  exact decide_eq_decide.mpr (cmpR_1 a b))


abbrev N_greatest_of : List Str := ["ratios", "best", "entry"]
theorem sc_greatest_of : FnScope N_greatest_of ["ratios"] (defScope JA.s_greatest_of) := ⟨rfl, rfl, rfl, by decide +kernel, rfl, by decide +kernel, by decide +kernel⟩
def R_greatest_of : List D → D → Prop := fun ds d => ∃ a b : Rat, ds = [.tup [rat a, rat b]] ∧ Sr 3000 a ∧ Sr 3000 b ∧ d = rat (if a < b then b else a)
theorem c_greatest_of (T : Tx K mg) : Cal P w K mg base 2 "greatest_of" (spV K R_greatest_of) [] := by
  refine cal_V (T.glo 10) (T.says.1.def_ 10) sc_greatest_of (fun ds d h => ?_) (fun _ _ _ _ _ _ us hl => match us, hl with | [_], _ => rfl) fun cdv A outer s H E hRm ds d h => ?_
  · obtain ⟨a, b, rfl, _⟩ := h
    rfl
  · obtain ⟨a, b, rfl, ha, hb, rfl⟩ := h
    refine ⟨_, (pss_cons (ps_set (i := 1) sc_greatest_of.nd rfl (by first | exact Or.inl rfl | exact Or.inr rfl) (pe_ix ix_seq (pv 0) pe_int (fun _ _ => rfl)))
    (pss_cons (ps_for PassesOwn.never rfl (pi_tup (pe_slice sl_X (pv 0) (po_some pe_int) po_none)) (pg_name (i := 2) sc_greatest_of.nd rfl (by first | exact Or.inl rfl | exact Or.inr rfl)) (pss_one (ps_if (pt_cmpR (op_eqD hRm.units) (C8.pe_c (c_compare T) hRm (by decide) (by rfl) (pa_cons (pv 2) (pa_cons (pv 1) pa_nil))) pe_int (nomark _)) (pss_one (ps_set (i := 1) sc_greatest_of.nd rfl (by first | exact Or.inl rfl | exact Or.inr rfl) (pv 2))) pss_nil)))
    (pss_one (ps_ret (pv 1))))), ?_⟩
    refine s_seq (s_asgV (e_op (e_var rfl) e_int (ro_ix rfl)) ?_)
    refine s_seq (s_for (vs := [2]) (ds := [rat b]) (fun i Γ => Γ = [.val (.tup [rat a, rat b]), .val (rat (if i = 0 then a else if a < b then b else a)), .no]) (i_tup (e_sl (e_var rfl) (o_some e_int) o_none rs_tup)) rfl (fun i d Γ1 hi iv => ?_) (fun Γ1 iv => ?_))
    · cases i with
      | zero =>
        cases Option.some.inj hi
        subst iv
        refine ⟨_, g_name, ?_⟩
        refine s_ifB (t_test (t_gt (e_compare (e_var rfl) (e_var rfl) hb ha) e_int)) (fun h => ?_) (fun h => ?_)
        · refine s_asgV (e_var rfl) ⟨_, .eq (.eq (.no .nil)), ?_⟩
          have h' : a < b := of_decide_eq_true h
          show _ = [S.val (.tup [rat a, rat b]), .val (rat (if a < b then b else a)), .no]
          rw [if_pos h']
        · refine s_next ⟨_, .eq (.eq (.no .nil)), ?_⟩
          have h' : ¬ a < b := of_decide_eq_false h
          show _ = [S.val (.tup [rat a, rat b]), .val (rat (if a < b then b else a)), .no]
          rw [if_neg h']
          rfl
      | succ i => cases hi
    · subst iv
      exact s_retV (e_var rfl) rfl
theorem e_great {Γ : List S} {ta tb : TE} {a b : Rat} {E : XK} (h1 : Ev K ta Γ (rat a)) (h2 : Ev K tb Γ (rat b)) (ha : Sr 3000 a) (hb : Sr 3000 b) : Ev K (tCall (spV K R_greatest_of) [] E (tCons (tTup (tCons ta (tCons tb tNil))) tNil)) Γ (rat (if a < b then b else a)) :=
  e_call (ea_cons (e_tup (ea_cons h1 (ea_cons h2 ea_nil)) (of_decide_eq_true rfl)) ea_nil) ⟨a, b, rfl, ha, hb, rfl⟩
end
end JD
set_option maxHeartbeats 4000000
namespace JD
open PySem PySem.Spec PyProof.Rows L2
open C8 (Cal Mak)
/-! ### stretches -/
abbrev SR : Type := Rat × Option Rat
def ratO : Option Rat → D
  | none => .non
  | some r => rat r
def strD (K : PySem.W.Frag) (s : SR) : D := .ins (He.ga K "Stretch") [(("low" : Str), rat s.1), (("high" : Str), ratO s.2)]
def endD (s : SR) : D := .tup [rat s.1, ratO s.2]
def SOk (n : Nat) (s : SR) : Prop := Sr n s.1 ∧ 1 ≤ s.1 ∧ ∀ h, s.2 = some h → Sr n h ∧ s.1 ≤ h ∧ h ≠ 1
def OOk (n : Nat) (o : Option Rat) : Prop := ∀ h, o = some h → Sr n h
theorem sr_one {n : Nat} (h : 20 ≤ n := by decide) : Sr n 1 := ⟨Sz.lit (by decide) h, Sz.lit (by decide) h⟩
theorem sr_zero {n : Nat} (h : 20 ≤ n := by decide) : Sr n 0 := ⟨Sz.lit (by decide) h, Sz.lit (by decide) h⟩
/-- high goes to the low or beyond -/
def goesTo (hi : Option Rat) (lo : Rat) : Bool := match hi with
  | none => true
  | some h => !decide (h < lo)
def minO : Option Rat → Option Rat → Option Rat
  | none, b => b
  | some a, none => some a
  | some a, some b => some (if a < b then a else b)
def maxO : Option Rat → Option Rat → Option Rat
  | none, _ => none
  | some _, none => none
  | some a, some b => some (if b < a then a else b)
def maxR (a b : Rat) : Rat := if a < b then b else a
theorem isNon_ratO (o : Option Rat) : (ratO o).isNon = o.isNone := by cases o <;> rfl
theorem eqv_ratO (a b : Option Rat) : PyData.eqv (ratO a).py (ratO b).py = decide (a = b) := by
  cases a with
  | none => cases b with
    | none => rfl
    | some b => simp [ratO, D.py, PyData.eqv]
  | some a => cases b with
    | none => simp [ratO, D.py, PyData.eqv]
    | some b =>
      show PyData.eqv (rat a).py (rat b).py = _
      rw [eqv_rat]
      simp
theorem shp_ratO (n : Nat) (a : Option Rat) : D.shp (n + 1) (ratO a) = true := by
  cases a with
  | none => show D.shp (n + 1) .non = true; simp [D.shp]
  | some a => exact shp_rat n a
theorem shp_end (n : Nat) (s : SR) : D.shp (n + 2) (endD s) = true := shp_tup fun d hd => by
  rcases List.mem_cons.mp hd with rfl | hd
  · exact shp_rat _ _
  · rcases List.mem_cons.mp hd with rfl | hd
    · exact shp_ratO _ _
    · cases hd
theorem shp_ends (l : List SR) : D.shp 50 (.lst (l.map endD)) = true := shp_lst fun d hd => by
  obtain ⟨s, _, rfl⟩ := List.mem_map.mp hd
  exact shp_end _ s
section
variable {P : Program} {w : World} {K : PySem.W.Frag} {mg : Str → Option Value} {base : Heap}
theorem ro_eqO {a b : Option Rat} : Ro K (rEqD K) (ratO a) (ratO b) fun u => u = .bl (decide (a = b)) := by
  rw [← eqv_ratO]
  exact ro_eqD (shp_ratO _ _) (shp_ratO _ _)
theorem e_ratio {Γ : List S} {te : TE} {r : Rat} {E : XK} (h : Ev K te Γ (rat r)) : Ev K (tCall (spV K R_is_ratio) [] E (tCons te tNil)) Γ (.bl true) := e_call (ea_cons h ea_nil) ⟨r, rfl, rfl⟩

abbrev N_check_brick_ratio : List Str := ["ratio"]
theorem sc_check_brick_ratio : FnScope N_check_brick_ratio ["ratio"] (defScope JA.s_check_brick_ratio) := ⟨rfl, rfl, rfl, by decide +kernel, rfl, by decide +kernel, by decide +kernel⟩
def R_check_brick_ratio : List D → D → Prop := fun ds d => ∃ r : Rat, ds = [rat r] ∧ Sr 3000 r ∧ 1 < r ∧ d = rat r
theorem c_check_brick_ratio (T : Tx K mg) : Cal P w K mg base 3 "check_brick_ratio" (spV K R_check_brick_ratio) [] := by
  refine cal_V (T.glo 14) (T.says.1.def_ 14) sc_check_brick_ratio (fun ds d h => ?_) (fun _ _ _ _ _ _ us hl => match us, hl with | [_], _ => rfl) fun cdv A outer s H E hRm ds d h => ?_
  · obtain ⟨r, rfl, _⟩ := h
    rfl
  · obtain ⟨r, rfl, hr, h1, rfl⟩ := h
    refine ⟨_, (pss_cons (ps_if (PW.pt (pw_or (pt_not (pt_val (C8.pe_c (c_is_ratio T) hRm (by decide) (by rfl) (pa_cons (pv 0) pa_nil)))) (pw_or1 (pt_cmpR (op_neD hRm.units) (C8.pe_c (c_compare T) hRm (by decide) (by rfl) (pa_cons (pv 0) (pa_cons (C8.pe_gc (v := .ref (He.ga K "ONE")) (by rfl) ⟨_, T.glo 86, rfl⟩) pa_nil))) pe_int (nomark _))))) pss_never pss_nil)
    (pss_one (ps_ret (pv 0)))), ?_⟩
    refine s_seq (s_ifF (t_or (a := false) (b := false) (t_not (a := true) (t_B (e_ratio (e_var rfl)))) fun _ => t_imp (t_test (t_ngt (e_compare (e_var rfl) (e_one T) hr sr_one) e_int)) fun x e => ?_) (s_next ?_))
    · rw [e, decide_eq_true h1]
      rfl
    exact s_retV (e_var rfl) rfl

abbrev N_check_share : List Str := ["share"]
theorem sc_check_share : FnScope N_check_share ["share"] (defScope JA.s_check_share) := ⟨rfl, rfl, rfl, by decide +kernel, rfl, by decide +kernel, by decide +kernel⟩
def R_check_share : List D → D → Prop := fun ds d => ∃ r : Rat, ds = [rat r] ∧ Sr 3000 r ∧ 0 < r ∧ r ≤ 1 ∧ d = rat r
theorem c_check_share (T : Tx K mg) : Cal P w K mg base 3 "check_share" (spV K R_check_share) [] := by
  refine cal_V (T.glo 15) (T.says.1.def_ 15) sc_check_share (fun ds d h => ?_) (fun _ _ _ _ _ _ us hl => match us, hl with | [_], _ => rfl) fun cdv A outer s H E hRm ds d h => ?_
  · obtain ⟨r, rfl, _⟩ := h
    rfl
  · obtain ⟨r, rfl, hr, h1, h2, rfl⟩ := h
    refine ⟨_, (pss_cons (ps_if (PW.pt (pw_or (pt_not (pt_val (C8.pe_c (c_is_ratio T) hRm (by decide) (by rfl) (pa_cons (pv 0) pa_nil)))) (pw_or (pt_cmpR (op_neD hRm.units) (C8.pe_c (c_compare T) hRm (by decide) (by rfl) (pa_cons (pv 0) (pa_cons (C8.pe_gc (v := .ref (He.ga K "ZERO")) (by rfl) ⟨_, T.glo 85, rfl⟩) pa_nil))) pe_int (nomark _)) (pw_or1 (pt_cmpR (op_eqD hRm.units) (C8.pe_c (c_compare T) hRm (by decide) (by rfl) (pa_cons (pv 0) (pa_cons (C8.pe_gc (v := .ref (He.ga K "ONE")) (by rfl) ⟨_, T.glo 86, rfl⟩) pa_nil))) pe_int (nomark _)))))) pss_never pss_nil)
    (pss_one (ps_ret (pv 0)))), ?_⟩
    refine s_seq (s_ifF (t_or (a := false) (b := false) (t_not (a := true) (t_B (e_ratio (e_var rfl)))) fun _ => t_or (a := false) (b := false) (t_imp (t_test (t_ngt (e_compare (e_var rfl) (e_zero T) hr sr_zero) e_int)) fun x e => ?_) fun _ => t_imp (t_test (t_gt (e_compare (e_var rfl) (e_one T) hr sr_one) e_int)) fun x e => ?_) (s_next ?_))
    · rw [e, decide_eq_true h1]
      rfl
    · rw [e, decide_eq_false (Rat.not_lt.mpr h2)]
    exact s_retV (e_var rfl) rfl
theorem e_cshare {Γ : List S} {te : TE} {r : Rat} {E : XK} (h : Ev K te Γ (rat r)) (hr : Sr 3000 r) (h1 : 0 < r) (h2 : r ≤ 1) : Ev K (tCall (spV K R_check_share) [] E (tCons te tNil)) Γ (rat r) := e_call (ea_cons h ea_nil) ⟨r, rfl, hr, h1, h2, rfl⟩

abbrev N_Stretch_init : List Str := ["self", "low", "high"]
theorem sc_Stretch_init : FnScope N_Stretch_init ["self", "low", "high"] (defScope JA.s_Stretch_init) := ⟨rfl, rfl, rfl, by decide +kernel, rfl, by decide +kernel, by decide +kernel⟩
def R_Stretch : List D → List (Str × D) → Prop := fun ds gs => ∃ s : SR, ds = [rat s.1, ratO s.2] ∧ SOk 3000 s ∧ gs = [(("low" : Str), rat s.1), (("high" : Str), ratO s.2)]
theorem f_Stretch (T : Tx K mg) {CX : CXT} {dv : List V} {f : Addr} {fd : FuncData} (F : FunD K "__init__" "Stretch.__init__" (defArgs JA.s_Stretch_init) (defBody JA.s_Stretch_init) (defScope JA.s_Stretch_init) dv [] f fd) : FnOk P w K mg base CX 3 f fd ["self", "low", "high"] (spI K (He.ga K "Stretch") R_Stretch) := by
  refine F.ok sc_Stretch_init (fun vs H Q E h => ?_) fun cdv A outer s H vs Q E hRm h => ?_
  · obtain ⟨B, x, dx, ws, ds, gs, ⟨s, rfl, _⟩, rfl, r, _⟩ := h
    rw [List.length_cons, r.length]
    rfl
  · obtain ⟨B, x, dx, ws, ds, gs, ⟨⟨lo, hi⟩, rfl, hs, rfl⟩, rfl, r, ss, nb, hx, q⟩ := h
    obtain ⟨h1, h2, h3⟩ := hs
    refine ⟨_, PSs.nox (pss_cons (ps_if (PW.pt (pw_or (pt_not (pt_val (C8.pe_c (c_is_ratio T) hRm (by decide) (by rfl) (pa_cons (pv 1) pa_nil)))) (pw_or1 (pt_cmpR (op_eqD hRm.units) (C8.pe_c (c_compare T) hRm (by decide) (by rfl) (pa_cons (pv 1) (pa_cons (C8.pe_gc (v := .ref (He.ga K "ONE")) (by rfl) ⟨_, T.glo 86, rfl⟩) pa_nil))) (pe_un un_neg pe_int) (nomark _))))) pss_never pss_nil)
    (pss_cons (ps_if (pt_cmpR op_notNX (pv 2) pe_non (nomark _)) (pss_one (ps_if (PW.pt (pw_or (pt_not (pt_val (C8.pe_c (c_is_ratio T) hRm (by decide) (by rfl) (pa_cons (pv 2) pa_nil)))) (pw_or (pt_cmpR (op_eqD hRm.units) (C8.pe_c (c_compare T) hRm (by decide) (by rfl) (pa_cons (pv 2) (pa_cons (pv 1) pa_nil))) (pe_un un_neg pe_int) (nomark _)) (pw_or1 (pt_cmpR (op_eqD hRm.units) (pv 2) (C8.pe_gc (v := .ref (He.ga K "ONE")) (by rfl) ⟨_, T.glo 86, rfl⟩) (nomark _)))))) pss_never pss_nil)) pss_nil)
    (pss_cons (ps_fld (pv 0) (pv 1) rfl)
    (pss_one (ps_fld (pv 0) (pv 2) rfl))))), ?_⟩
    have S0 := sx_start (hd := none) (ds := [.opq x, rat lo, ratO hi]) ss hd_none (.cons (.opq x) r) 0
    have el : L2.start N_Stretch_init (.ref x :: ws) = (V.ref x :: ws).map some ++ List.replicate 0 none := by
      unfold L2.start
      rw [List.length_cons (a := V.ref x), r.length]
      rfl
    rw [el]
    refine es_use (M := fun Γ => Γ = [.val (.opq x), .val (rat lo), .val (ratO hi)]) (s_ifF (t_or (a := false) (b := false) (t_not (a := true) (t_B (e_ratio (e_var rfl)))) fun _ => t_imp (t_test (t_lt (e_compare (e_var rfl) (e_one T) h1 sr_one) e_m1)) fun x e => ?_) (s_next rfl)) S0 fun B1 H1 σ1 Γ1 g1 S1 e1 => ?_
    · rw [e, decide_eq_false (Rat.not_lt.mpr h2)]
    subst e1
    refine es_use (M := fun Γ => Γ = [.val (.opq x), .val (rat lo), .val (ratO hi)]) ?_ S1 fun B2 H2 σ2 Γ2 g2 S2 e2 => ?_
    · cases hi with
      | none => exact s_ifF (t_test (e_op (e_var rfl) e_non ro_notN)) (s_next rfl)
      | some hh =>
        obtain ⟨k1, k2, k3⟩ := h3 hh rfl
        refine s_ifT (t_test (e_op (e_var rfl) e_non ro_notN)) (s_ifF (t_or (a := false) (b := false) (t_not (a := true) (t_B (e_ratio (r := hh) (e_var rfl)))) fun _ => t_or (a := false) (b := false) (t_imp (t_test (t_lt (e_compare (a := hh) (e_var rfl) (e_var rfl) k1 h1) e_m1)) fun x e => ?_) fun _ => t_imp (t_test (e_op (e_var rfl) (e_one T) (ro_eqR (a := hh)))) fun x e => ?_) (s_next rfl))
        · rw [e, decide_eq_false (Rat.not_lt.mpr k2)]
        · rw [e, decide_eq_false k3]
    subst e2
    have gg := g1.trans g2
    have nfr : ¬ (H x = none) := by rw [hx]; exact fun z => by cases z
    obtain ⟨hx2, nb2⟩ := gg.keep x _ rfl hx nb nfr fun _ z => by cases z
    obtain ⟨v0, s0, r0⟩ := S2.val (i := 0) rfl
    obtain ⟨v1, s1, r1⟩ := S2.val (i := 1) rfl
    obtain ⟨v2, s2, r2⟩ := S2.val (i := 2) rfl
    refine ⟨v1, s1, v0, s0, x, _, dx, [], r0.ofOpq, hx2, T.cls 108, T.noat 111, by decide, ?_⟩
    refine ⟨v2, s2, v0, s0, x, _, dx, _, r0.ofOpq, upd_same, T.cls 108, T.noat 112, by show 1 < 1000; decide, ?_⟩
    rw [upd_upd]
    refine q B2 _ _ gg.ext (fun b o e => ?_) nb2 upd_same (.cons r1 (.cons r2 .nil)) (fun a o t e n hne => ?_) fun a xs e => ?_
    · rw [upd_ne (ne_of_none e nb2)]
      exact S2.sub _ _ e
    · rw [upd_ne hne]
      exact gg.keep a o t e n (fun z => by rw [z] at e; cases e) fun _ z => by cases z
    · have hne : a ≠ x := by
        intro z
        rw [z, hx] at e
        cases e
      rw [upd_ne hne]
      exact gg.tups a xs e
theorem c_Stretch (T : Tx K mg) : Mak P w K mg base 3 "Stretch" (He.ga K "Stretch") (spI K (He.ga K "Stretch") R_Stretch) [] := by
  obtain ⟨fd, F⟩ := T.says.1.def_ 82
  exact ⟨_, fd, _, [], He.mkr_ok (T.says.1.fact 109 (f := .mkr "Stretch")), f_Stretch T F, T.glo 80, F.bindsN fun _ _ _ _ _ _ us hl => match us, hl with | [_, _, _], _ => rfl, .nil⟩
theorem e_stretch {Γ : List S} {ta tb : TE} {s : SR} {E : XK} (h1 : Ev K ta Γ (rat s.1)) (h2 : Ev K tb Γ (ratO s.2)) (hs : SOk 3000 s) : Ev K (tMake (He.ga K "Stretch") (spI K (He.ga K "Stretch") R_Stretch) [] E (tCons ta (tCons tb tNil))) Γ (strD K s) :=
  e_mk (ea_cons h1 (ea_cons h2 ea_nil)) ⟨s, rfl, hs, rfl⟩
theorem e_low_ (T : Tx K mg) {Γ : List S} {te : TE} {s : SR} (h : Ev K te Γ (strD K s)) : Ev K (tFld K te "low") Γ (rat s.1) := e_fld h (T.cls 108) (T.noat 111) rfl
theorem e_high_ (T : Tx K mg) {Γ : List S} {te : TE} {s : SR} (h : Ev K te Γ (strD K s)) : Ev K (tFld K te "high") Γ (ratO s.2) := e_fld h (T.cls 108) (T.noat 112) rfl

abbrev N_goes_to : List Str := ["high", "low"]
theorem sc_goes_to : FnScope N_goes_to ["high", "low"] (defScope JA.s_goes_to) := ⟨rfl, rfl, rfl, by decide +kernel, rfl, by decide +kernel, by decide +kernel⟩
def R_goes_to : List D → D → Prop := fun ds d => ∃ (hi : Option Rat) (lo : Rat), ds = [ratO hi, rat lo] ∧ OOk 3000 hi ∧ Sr 3000 lo ∧ d = .bl (goesTo hi lo)
theorem c_goes_to (T : Tx K mg) : Cal P w K mg base 2 "goes_to" (spV K R_goes_to) [] := by
  refine cal_V (T.glo 19) (T.says.1.def_ 19) sc_goes_to (fun ds d h => ?_) (fun _ _ _ _ _ _ us hl => match us, hl with | [_, _], _ => rfl) fun cdv A outer s H E hRm ds d h => ?_
  · obtain ⟨hi, lo, rfl, _⟩ := h
    rfl
  · obtain ⟨hi, lo, rfl, hh, hl, rfl⟩ := h
    refine ⟨_, (pss_one (ps_ret (pe_or (pe_cmpR op_isNX (pv 0) pe_non (nomark _)) (pe_one (pe_cmpR (op_neD hRm.units) (C8.pe_c (c_compare T) hRm (by decide) (by rfl) (pa_cons (pv 0) (pa_cons (pv 1) pa_nil))) (pe_un un_neg pe_int) (nomark _)))))), ?_⟩
    cases hi with
    | none => exact s_retV (e_or (a := true) (b := true) (e_op (e_var rfl) e_non ro_isN) fun z => by cases z) rfl
    | some h => exact s_retV (e_or (a := false) (e_op (e_var rfl) e_non ro_isN) fun _ => t_nlt (e_compare (a := h) (e_var rfl) (e_var rfl) (hh h rfl) hl) e_m1) rfl
theorem e_goes {Γ : List S} {ta tb : TE} {hi : Option Rat} {lo : Rat} {E : XK} (h1 : Ev K ta Γ (ratO hi)) (h2 : Ev K tb Γ (rat lo)) (ha : OOk 3000 hi) (hb : Sr 3000 lo) : Ev K (tCall (spV K R_goes_to) [] E (tCons ta (tCons tb tNil))) Γ (.bl (goesTo hi lo)) :=
  e_call (ea_cons h1 (ea_cons h2 ea_nil)) ⟨hi, lo, rfl, ha, hb, rfl⟩

abbrev N_lesser_high : List Str := ["one", "other"]
theorem sc_lesser_high : FnScope N_lesser_high ["one", "other"] (defScope JA.s_lesser_high) := ⟨rfl, rfl, rfl, by decide +kernel, rfl, by decide +kernel, by decide +kernel⟩
def R_lesser_high : List D → D → Prop := fun ds d => ∃ a b : Option Rat, ds = [ratO a, ratO b] ∧ OOk 3000 a ∧ OOk 3000 b ∧ d = ratO (minO a b)
theorem c_lesser_high (T : Tx K mg) : Cal P w K mg base 2 "lesser_high" (spV K R_lesser_high) [] := by
  refine cal_V (T.glo 20) (T.says.1.def_ 20) sc_lesser_high (fun ds d h => ?_) (fun _ _ _ _ _ _ us hl => match us, hl with | [_, _], _ => rfl) fun cdv A outer s H E hRm ds d h => ?_
  · obtain ⟨a, b, rfl, _⟩ := h
    rfl
  · obtain ⟨a, b, rfl, ha, hb, rfl⟩ := h
    refine ⟨_, (pss_cons (ps_if (PW.pt (pw_or (pt_cmpR op_isNX (pv 0) pe_non (nomark _)) (pw_or1 (pt_cmpR op_isNX (pv 1) pe_non (nomark _))))) (pss_one (ps_ret (pe_ifExp (pt_cmpR op_isNX (pv 0) pe_non (nomark _)) (pv 1) (pv 0)))) pss_nil)
    (pss_one (ps_ret (pe_ifExp (pt_cmpR (op_eqD hRm.units) (C8.pe_c (c_compare T) hRm (by decide) (by rfl) (pa_cons (pv 0) (pa_cons (pv 1) pa_nil))) (pe_un un_neg pe_int) (nomark _)) (pv 0) (pv 1))))), ?_⟩
    cases a with
    | none =>
      refine s_seq (s_ifT (t_or (a := true) (b := true) (t_test (e_op (e_var rfl) e_non ro_isN)) fun z => by cases z) ?_)
      exact s_retV (e_if (b := true) (t_test (e_op (e_var rfl) e_non ro_isN)) (fun _ => e_var rfl) fun z => by cases z) rfl
    | some a =>
      cases b with
      | none =>
        refine s_seq (s_ifT (t_or (a := false) (b := true) (t_test (e_op (e_var rfl) e_non ro_isN)) fun z => t_test (e_op (e_var rfl) e_non ro_isN)) ?_)
        exact s_retV (e_if (b := false) (t_test (e_op (e_var rfl) e_non ro_isN)) (fun z => by cases z) fun _ => e_var rfl) rfl
      | some b =>
        refine s_seq (s_ifF (t_or (a := false) (b := false) (t_test (e_op (e_var rfl) e_non ro_isN)) fun z => t_test (e_op (e_var rfl) e_non ro_isN)) (s_next ?_))
        refine s_ret (e_if (t_test (t_lt (e_compare (a := a) (b := b) (e_var rfl) (e_var rfl) (ha a rfl) (hb b rfl)) e_m1)) (fun h => Ev.imp (e_var rfl) ?_) (fun h => Ev.imp (e_var rfl) ?_)) fun d hd => hd
        · show rat a = rat (if a < b then a else b)
          rw [if_pos (of_decide_eq_true h)]
        · show rat b = rat (if a < b then a else b)
          rw [if_neg (of_decide_eq_false h)]
theorem e_lesser {Γ : List S} {ta tb : TE} {a b : Option Rat} {E : XK} (h1 : Ev K ta Γ (ratO a)) (h2 : Ev K tb Γ (ratO b)) (ha : OOk 3000 a) (hb : OOk 3000 b) : Ev K (tCall (spV K R_lesser_high) [] E (tCons ta (tCons tb tNil))) Γ (ratO (minO a b)) :=
  e_call (ea_cons h1 (ea_cons h2 ea_nil)) ⟨a, b, rfl, ha, hb, rfl⟩

abbrev N_greater_high : List Str := ["one", "other"]
theorem sc_greater_high : FnScope N_greater_high ["one", "other"] (defScope JA.s_greater_high) := ⟨rfl, rfl, rfl, by decide +kernel, rfl, by decide +kernel, by decide +kernel⟩
def R_greater_high : List D → D → Prop := fun ds d => ∃ a b : Option Rat, ds = [ratO a, ratO b] ∧ OOk 3000 a ∧ OOk 3000 b ∧ d = ratO (maxO a b)
theorem c_greater_high (T : Tx K mg) : Cal P w K mg base 2 "greater_high" (spV K R_greater_high) [] := by
  refine cal_V (T.glo 21) (T.says.1.def_ 21) sc_greater_high (fun ds d h => ?_) (fun _ _ _ _ _ _ us hl => match us, hl with | [_, _], _ => rfl) fun cdv A outer s H E hRm ds d h => ?_
  · obtain ⟨a, b, rfl, _⟩ := h
    rfl
  · obtain ⟨a, b, rfl, ha, hb, rfl⟩ := h
    refine ⟨_, (pss_cons (ps_if (PW.pt (pw_or (pt_cmpR op_isNX (pv 0) pe_non (nomark _)) (pw_or1 (pt_cmpR op_isNX (pv 1) pe_non (nomark _))))) (pss_one (ps_ret pe_non)) pss_nil)
    (pss_one (ps_ret (pe_ifExp (pt_cmpR (op_eqD hRm.units) (C8.pe_c (c_compare T) hRm (by decide) (by rfl) (pa_cons (pv 0) (pa_cons (pv 1) pa_nil))) pe_int (nomark _)) (pv 0) (pv 1))))), ?_⟩
    cases a with
    | none =>
      refine s_seq (s_ifT (t_or (a := true) (b := true) (t_test (e_op (e_var rfl) e_non ro_isN)) fun z => by cases z) ?_)
      exact s_retV e_non rfl
    | some a =>
      cases b with
      | none =>
        refine s_seq (s_ifT (t_or (a := false) (b := true) (t_test (e_op (e_var rfl) e_non ro_isN)) fun z => t_test (e_op (e_var rfl) e_non ro_isN)) ?_)
        exact s_retV e_non rfl
      | some b =>
        refine s_seq (s_ifF (t_or (a := false) (b := false) (t_test (e_op (e_var rfl) e_non ro_isN)) fun z => t_test (e_op (e_var rfl) e_non ro_isN)) (s_next ?_))
        refine s_ret (e_if (t_test (t_gt (e_compare (a := a) (b := b) (e_var rfl) (e_var rfl) (ha a rfl) (hb b rfl)) e_int)) (fun h => Ev.imp (e_var rfl) ?_) (fun h => Ev.imp (e_var rfl) ?_)) fun d hd => hd
        · show rat a = rat (if b < a then a else b)
          rw [if_pos (of_decide_eq_true h)]
        · show rat b = rat (if b < a then a else b)
          rw [if_neg (of_decide_eq_false h)]
theorem e_greater {Γ : List S} {ta tb : TE} {a b : Option Rat} {E : XK} (h1 : Ev K ta Γ (ratO a)) (h2 : Ev K tb Γ (ratO b)) (ha : OOk 3000 a) (hb : OOk 3000 b) : Ev K (tCall (spV K R_greater_high) [] E (tCons ta (tCons tb tNil))) Γ (ratO (maxO a b)) :=
  e_call (ea_cons h1 (ea_cons h2 ea_nil)) ⟨a, b, rfl, ha, hb, rfl⟩
end
end JD
set_option maxHeartbeats 4000000
namespace JD
open PySem PySem.Spec PyProof.Rows L2
section
variable {K : PySem.W.Frag} {Γ Γ' Γ2 : List S} {ta tb te : TE} {tc td tt : TT} {x y z d e : D} {Φ : D → Prop} {r : R2} {Ψ : Post} {ts tu : TS} {α : Type}
/-- for x in xs, the invariant by what was walked -/
theorem s_forL {wi : TI} {g : TG} {vs : List Nat} (xs : List α) (f : α → D) (Inv : List α → List S → Prop) (hi : Ei K wi Γ (xs.map f)) (h0 : Inv [] Γ)
    (hs : ∀ pre x post Γ1, xs = pre ++ x :: post → Inv pre Γ1 → ∃ Γ2, Eg K g (f x) Γ1 Γ2 vs ∧ Es K ts Γ2 ⟨fun Γ3 => ∃ Γ4, Le Γ4 Γ3 ∧ Inv (pre ++ [x]) Γ4, Ψ.rt, Ψ.nx, fun Γ3 => ∃ Γ4, Le Γ4 Γ3 ∧ Inv (pre ++ [x]) Γ4⟩)
    (hd' : ∀ Γ1, Inv xs Γ1 → Ψ.nx Γ1) : Es K (tFor wi g ts) Γ Ψ := by
  refine s_for (vs := vs) (fun i Γ => Inv (xs.take i) Γ) hi h0 (fun i d Γ1 hd iv => ?_) fun Γ1 iv => hd' Γ1 ?_
  · rw [List.getElem?_map] at hd
    cases q : xs[i]? with
    | none => rw [q] at hd; cases hd
    | some x =>
      rw [q] at hd
      cases Option.some.inj hd
      have hlt := (List.getElem?_eq_some_iff.mp q).1
      have hx := (List.getElem?_eq_some_iff.mp q).2
      have e : xs.take (i + 1) = xs.take i ++ [x] := by rw [List.take_succ, q]; rfl
      obtain ⟨Γ2, a, b⟩ := hs (xs.take i) x (xs.drop (i + 1)) Γ1 (by rw [← hx, ← List.drop_eq_getElem_cons hlt, List.take_append_drop]) iv
      exact ⟨Γ2, a, by rw [e]; exact b⟩
  · rw [List.length_map, List.take_length] at iv
    exact iv
/-- [te for g in xs] -/
theorem l_map {wi : TI} {g : TG} {vs : List Nat} (xs : List α) (f : α → D) (h : α → D) (hi : Ei K wi Γ (xs.map f)) (hz : xs.length < 100000)
    (hs : ∀ x ∈ xs, ∃ Γ2, Eg K g (f x) (wipeG Γ vs) Γ2 vs ∧ Ev K te Γ2 (h x)) : EL K (tLc wi g tYes te vs) Γ fun z => z = xs.map h := by
  refine l_lcM hi (by rw [List.length_map]; exact hz) (by rw [List.length_map, List.length_map]) fun i d e h1 h2 => ?_
  rw [List.getElem?_map] at h1 h2
  cases q : xs[i]? with
  | none => rw [q] at h1; cases h1
  | some x =>
    rw [q] at h1 h2
    cases Option.some.inj h1
    cases Option.some.inj h2
    exact hs x (List.mem_of_getElem? q)
/-- [te for g in xs if tt] -/
theorem l_flt {wi : TI} {g : TG} {vs : List Nat} (xs : List α) (f : α → D) (h : α → D) (p : α → Bool) (hi : Ei K wi Γ (xs.map f)) (hz : xs.length < 100000)
    (hs : ∀ x ∈ xs, ∃ Γ2, Eg K g (f x) (wipeG Γ vs) Γ2 vs ∧ Et K tt Γ2 (fun b => b = p x) ∧ (p x = true → Ev K te Γ2 (h x))) : EL K (tLc wi g tt te vs) Γ fun z => z = (xs.filter p).map h := by
  have key : ∀ m, m ≤ xs.length → (List.range m).filterMap (fun i => (xs[i]?).bind fun x => if p x = true then some (h x) else none) = ((xs.take m).filter p).map h := by
    intro m
    induction m with
    | zero => intro _; simp
    | succ m ih =>
      intro hm
      have hlt : m < xs.length := by omega
      rw [List.range_succ, List.filterMap_append, ih (by omega), List.take_succ, List.filter_append, List.map_append]
      congr 1
      rw [List.getElem?_eq_getElem hlt]
      simp only [List.filterMap_cons, List.filterMap_nil, List.getElem?_eq_getElem hlt, Option.bind_some, Option.toList_some, List.filter_cons, List.filter_nil]
      by_cases c : p xs[m] = true
      · simp [c]
      · simp [c]
  have hlen : (xs.map f).length = xs.length := List.length_map _
  have base := l_lc (K := K) (Γ := Γ) (te := te) (tt := tt) (g := g) (vs := vs) (fun i => (xs[i]?).bind fun x => if p x = true then some (h x) else none) hi (by rw [hlen]; exact hz) (fun i d h1 => ?_)
  · rw [hlen, key _ (Nat.le_refl _), List.take_length] at base
    exact base
  · rw [List.getElem?_map] at h1
    cases q : xs[i]? with
    | none => rw [q] at h1; cases h1
    | some x =>
      rw [q] at h1
      cases Option.some.inj h1
      obtain ⟨Γ2, a, b, c⟩ := hs x (List.mem_of_getElem? q)
      refine ⟨Γ2, a, ?_, fun e he => ?_⟩
      · refine t_imp b fun z ez => ez.trans ?_
        show p x = ((if p x = true then some (h x) else none) : Option D).isSome
        by_cases c : p x = true
        · rw [if_pos c, c]; rfl
        · rw [if_neg c]; exact Bool.eq_false_iff.mpr c
      · have he' : ((if p x = true then some (h x) else none) : Option D) = some e := he
        by_cases w : p x = true
        · rw [if_pos w] at he'
          rw [← Option.some.inj he']
          exact c w
        · rw [if_neg w] at he'
          cases he'
theorem dints_map {lo : Int} {n : Nat} : dints lo n = (List.range n).map fun (i : Nat) => D.int (lo + (i : Int)) := rfl
theorem dints0 {n : Nat} : dints 0 n = (List.range n).map fun (i : Nat) => D.int (i : Int) := by
  rw [dints_map]
  congr 1
  funext i
  rw [Int.zero_add]
theorem ixN_pos {n : Nat} {j : Int} (h : 0 ≤ j) (k : j < n) : ixN n j = some j.toNat := by
  unfold ixN
  rw [if_pos h, if_pos k]
theorem ixN_0 {n : Nat} : ixN (n + 1) 0 = some 0 := ixN_pos (by omega) (by omega)
theorem ixN_neg {n : Nat} {j : Int} (h : j < 0) (k : 0 ≤ j + n) : ixN n j = some (j + n).toNat := by
  unfold ixN
  rw [if_neg (by omega), if_pos (by omega)]
theorem atI_0 {d : D} {ds : List D} : atI (d :: ds) 0 = some d := by
  unfold atI
  rw [List.length_cons, ixN_0]
  rfl
theorem atI_nat {ds : List D} {i : Nat} (h : i < ds.length) : atI ds (i : Int) = ds[i]? := by
  unfold atI
  rw [ixN_pos (Int.natCast_nonneg i) (by omega)]
  rfl
theorem atI_last {d : D} {ds : List D} : atI (ds ++ [d]) (-1) = some d := by
  unfold atI
  rw [List.length_append, List.length_singleton, ixN_neg (by omega) (by omega)]
  have : ((-1 : Int) + ((ds.length + 1 : Nat) : Int)).toNat = ds.length := by omega
  rw [this]
  show (ds ++ [d])[ds.length]? = some d
  simp
/-- an end of a body: less known, the invariant there -/
theorem le_end {Γ3 : List S} {P : List S → Prop} (l : Le Γ' Γ3) (h : P Γ') : ∃ Γ4, Le Γ4 Γ3 ∧ P Γ4 := ⟨Γ', l, h⟩
end
/-! ### within a comprehension: the part that is written is named -/
section
variable {X : Cx} {K : PySem.W.Frag}
theorem pe_fldK {e : Expr} {ta : TE} {f : Str} {pos : Pos} (hK : X.K = K) (he : PE X e ta) (hb : attributeBase e f X.env (eval e X.env) = eval e X.env) : PE X (.Attribute e f pos) (tFld K ta f) := hK ▸ pe_fld he hb
theorem ix_seqK (hK : X.K = K) : IxR X (rIx K) := hK ▸ ix_seq
theorem op_addXK (hK : X.K = K) : OpR X (binaryOp .Add) (rAddX K) := hK ▸ op_addX
theorem op_eqDK (hK : X.K = K) (hu : X.A.units + 64 < cLine) : OpR X (compareOp .Eq) (rEqD K) := hK ▸ op_eqD hu
theorem op_neDK (hK : X.K = K) (hu : X.A.units + 64 < cLine) : OpR X (compareOp .NotEq) (rNeD K) := hK ▸ op_neD hu
theorem call_lenXK (hK : X.K = K) : CallR X (.builtin "len") (rLenX K) := hK ▸ call_lenX
theorem cr_sumXK (hK : X.K = K) (hc : X.calm = true) : CallR X (.builtin "sum") (rSumX K) := hK ▸ cr_sumX hc
end
end JD
set_option maxHeartbeats 4000000
/-! enumerate over a tuple, or over a list or a tuple -/
namespace PySem
open Sem (wp)
open AutoSeq1 (wpAny_loadPart')
set_option maxHeartbeats 1000000 in
theorem meets_enumerate_newB1 {v : Value} {o : Obj} {H : Heap → Prop} (B : Begins v o H) :
    Meets (Builtin.«enumerate.__new__» ⟨[.type "enumerate", v], []⟩) (fun _ R s => H s.heap ∧
      R (.ok (.ret (.ref (s.heap.push o).objs.size))) { s with heap := (s.heap.push o).push { cls := .type "enumerate", data := .fields #[.none, .bool false, .ref s.heap.objs.size, rawInt 0, .none, .none] } }) :=
  .of_wp fun prog w A R s h => by
    obtain ⟨hp, g, d, tk, os⟩ := s; obtain ⟨h1, h⟩ := h
    have hsub := sub_enumerate
    have q1 : ∀ {A' : Around} {E : Value → Shared → Prop} {Q : Value → Shared → Prop}, Q (.ref hp.objs.size) ⟨hp.push o, g, d, tk, os⟩ → wpAny (model prog w) A' (pyIter v) Q E ⟨hp, g, d, tk, os⟩ :=
      fun q => B.iter prog w _ _ ⟨hp, g, d, tk, os⟩ _ h1 q
    wp_walk using q1
    refine wpAny_stack_any fun st => wpAny_pure ?_
    split
    · rename_i c _ _ _ _ _
      cases (c == Value.type "enumerate")
      · wp_walk using q1
        exact ⟨_, rfl, h⟩
      · wp_walk using q1
        exact ⟨_, rfl, h⟩
    · wp_walk using q1
      exact ⟨_, rfl, h⟩
section
variable {prog : Program} {w : World} {A : Around} {E : Value → Shared → Prop} {s : Shared}
theorem enum_begins1 {v : Value} {o : Obj} {H : Heap → Prop} {Q : Value → Shared → Prop} (B : Begins v o H) (h1 : H s.heap)
    (h : ∀ h', IsEnum h' (s.heap.objs.size + 1) s.heap.objs.size 0 .none → h'.get? s.heap.objs.size = some o → h'.objs.size = s.heap.objs.size + 2 →
      (∀ b o, s.heap.get? b = some o → h'.get? b = some o) → Q (.ref (s.heap.objs.size + 1)) { s with heap := h' }) :
    wpAny (model prog w) A (call (.type "enumerate") [v]) Q E s := by
  refine callType_new F.called_enumerate (by decide) (F.typeCall_enumerate_1 _) (F.newCall_enumerate_1 _) (fun obj => F.args_object_init_2 obj _) F.entry_enumerate_new
    (meets_enumerate_newB1 B) ⟨h1, ?_⟩
  have hz : (s.heap.push o).objs.size = s.heap.objs.size + 1 := Heap.size_push ..
  show _ ∧ _
  rw [hz]
  have he : IsEnum ((s.heap.push o).push { cls := .type "enumerate", data := .fields #[.none, .bool false, .ref s.heap.objs.size, rawInt 0, .none, .none] }) (s.heap.objs.size + 1) s.heap.objs.size 0 .none := by
    have := Heap.get?_push_size (s.heap.push o) (o := { cls := .type "enumerate", data := .fields #[.none, .bool false, .ref s.heap.objs.size, rawInt 0, .none, .none] }) rfl
    rw [hz] at this; exact this
  refine ⟨⟨_, he, rfl⟩, h _ he (Heap.get?_push_of_some _ (Heap.get?_push_size _ B.free)) (by rw [Heap.size_push, hz]) fun b o x => Heap.get?_push_of_some _ (Heap.get?_push_of_some _ x)⟩
end
end PySem
namespace L2
open PySem PySem.Spec PyProof.Rows
def IteT (K : PySem.W.Frag) (a : Addr) : It :=
  ⟨fun i H => ∃ (xs : List V) (x : V), SqT K H a xs ∧ xs[i]? = some x, fun i H v H' => ∃ T x, v = .ref T ∧ H T = none ∧ H' = upd H T (.tup [.int (i : Nat), x]) ∧ ∀ xs, SqT K H a xs → xs[i]? = some x, fun i H => ∃ xs : List V, SqT K H a xs ∧ xs.length ≤ i⟩
theorem turn_enumT {P : Program} {w : World} {K : PySem.W.Frag} {elts : List Expr} {kk : Nat} {tpos : Pos} (a e it : Addr) :
    Turn P w K (.Tuple elts kk tpos) (IteT K a) [e, it] e (fun i h => (∃ old, IsEnum h e it ((i : Nat) : Int) old) ∧ h.IsTupleIter it a i ∧ e ≠ it ∧ a ≠ it ∧ a ≠ e) where
  mem := by simp
  obj := fun i h st b hb => by
    obtain ⟨⟨old, he⟩, ⟨o, ho, hc, hd⟩, _⟩ := st
    have e' : b = e ∨ b = it := by simpa using hb
    rcases e' with z | z
    · rw [z]; exact ⟨_, he, fun v q => nomatch q⟩
    · rw [z]; exact ⟨o, ho, fun v q => by rw [hd] at q; cases q⟩
  keep := fun i h h' st k => let ⟨⟨old, he⟩, hi, hne⟩ := st; ⟨⟨old, k e (by simp) _ he⟩, hi.at fun o q => k it (by simp) o q, hne⟩
  item := by
    intro X hP hw hK hc i pins s σ H E I hf st hg
    subst hP hw hK
    obtain ⟨⟨old, he⟩, hit, hne, hai, hae⟩ := st
    obtain ⟨xs, x, hq, hx⟩ := hg
    obtain ⟨its, rv, p, hz⟩ := I.tuple hq
    obtain ⟨u, hu, ru⟩ := rv.get hx
    have hel : e < s.heap.objs.size := Heap.lt_size he
    have hil : it < s.heap.objs.size := by obtain ⟨_, q, _⟩ := hit; exact Heap.lt_size q
    have hD : Draws X.prog X.w X.A.in1 it [it, a] its.toArray.size (fun i v => its.toArray[i]? = some v) (fun i h => h.IsTupleIter it a i ∧ h.IsTuple a its.toArray) := Draws.tuple (A := X.A.in1) (show X.A.in1.handled = none from I.ok.hd hc) it a hai its.toArray
    have hlt : i < its.toArray.size := by
      rw [List.size_toArray]
      exact (List.getElem?_eq_some_iff.mp hu).1
    refine wpAny_pyNext_enum_itemC hD he ⟨hit, p⟩ hlt hne (by simp [hne, Ne.symm hae]) fun x' h' tk hx' ho hit' hT hsz hk => ?_
    obtain rfl : u = x' := by
      have : its.toArray[i]? = some u := by simpa using hu
      rw [this] at hx'
      exact Option.some.inj hx'
    refine ⟨_, rfl, wpAny_letOwnedTupleGo_enum (s := { s with heap := h', toks := tk + 1 }) ho fun h'' he' sb => ?_⟩
    have hT2 : h''.get? s.heap.objs.size = some { cls := .type "tuple", data := .seq #[.int i tk, u] } := (sb.2 _ (Nat.ne_of_gt hel)).trans hT
    have new : ObjOk X.prog X.w (upd H s.heap.objs.size (.tup [.int (i : Nat), x])) h'' s.heap.objs.size (.tup [.int (i : Nat), x]) :=
      ⟨by show 2 ≤ sizeLine; decide, [.int i tk, u], .cons ⟨_, rfl⟩ (.cons ru .nil), ⟨_, hT2, rfl, _, rfl⟩⟩
    have I1 : Inv X pins σ (upd H s.heap.objs.size (.tup [.int (i : Nat), x])) { s with heap := h'', toks := tk + 1 } :=
      I.turnedNew (ch := [e, it]) (fun b ob hb q => (sb.2 b (fun z => hb (by simp [z]))).trans (hk b ob (fun z => hb (by simp [z])) (fun z => hb (by simp [z])) q)) hf (Nat.le_refl _) new
    refine ⟨.ref s.heap.objs.size, _, I1, rfl, ⟨_, x, rfl, I.hok.fresh (Nat.le_refl _), rfl, fun ys hy => by rw [I.tuple_inj hy hq]; exact hx⟩, ⟨⟨u, ?_⟩, hit'.1.at fun o q => (sb.2 it (Ne.symm hne)).trans q, hne, hai, hae⟩, fun b hb => ?_⟩
    · have e1 : ((i + 1 : Nat) : Int) = (i : Int) + 1 := by omega
      rw [e1]; exact he'
    · have hb' : b < s.heap.objs.size := by
        have e' : b = e ∨ b = it := by simpa using hb
        rcases e' with z | z
        · rw [z]; exact hel
        · rw [z]; exact hil
      rw [upd_ne (Nat.ne_of_lt hb')]
      exact (hf b hb).1
  done := by
    intro X hP hw hK hc i pins s σ H E I hf st hg
    subst hP hw hK
    obtain ⟨⟨old, he⟩, hit, hne, hai, hae⟩ := st
    obtain ⟨xs, hq, hx⟩ := hg
    obtain ⟨its, rv, p, hz⟩ := I.tuple hq
    obtain ⟨f0, f1, f2, f3, f4, f5⟩ := hf it (by simp)
    have hl := rv.length
    have hT : s.TypeIs (.ref e) "enumerate" := ⟨_, he, rfl⟩
    unfold pyNext
    refine wpAny_bind (wpAny_attempt (wpAny_callSpecial?_slot (name := Str.ofString "__next__") hT F.slot_enumerate_next
      (wpAny_call_entry F.slot_enumerate_next hT F.entry_enumerate_next ?_ (F.args_enumerate_next_1 _))))
    show wpAny _ _ (field (.ref e) 2 >>= _) _ _ _
    refine wpAny_bind (wpAny_field he rfl (x := .ref it) rfl ?_)
    refine wpAny_bind (wpAny_nextOf_tuple_end (I.ok.hd hc) hit p (by simp; omega) fun h' x he' hx' => ?_)
    obtain ⟨o, ho, hc'⟩ := hx'
    refine wpAny_bind (wpAny_isInstance (T := "StopIteration") (b := true) ⟨o, ho, hc'⟩ isSubtype_stop ?_)
    exact wpAny_pure ⟨rfl, I.turned (t' := s.toks) (fun b o hb q => he' b o hb q) f0 f1 f3 f4 f5⟩
  self := fun A i s Q E st h => let ⟨⟨_, he⟩, _⟩ := st; wpAny_pyIter_enum he h
def iEnumX (K : PySem.W.Frag) (ta : TA) : TI := fun σ H R => ta σ H fun vs H1 => ∃ a xs, vs = [.ref a] ∧ ((SqL K H1 a xs ∧ R (Ite K a) H1) ∨ (SqT K H1 a xs ∧ R (IteT K a) H1))
theorem pi_enumX {X : Cx} {e : Expr} {ta : TA} {p pos tpos : Pos} {elts : List Expr} {kk : Nat} (hg : Gl X "enumerate") (hm : X.mg "enumerate" = none) (ha : PA X [e] ta) (hs : starEach [e] X.env = [(false, eval e X.env)] := by rfl) :
    PI X (.Tuple elts kk tpos) (.Call (.Name "enumerate" p) [e] [] pos) (iEnumX X.K ta) := by
  refine ⟨fun pins s σ H R I h => ?_⟩
  refine Call_ (ld_blt I hg hm boot_enumerate (PyProof.Rows.callWith_type1 (thn (ha.run pos pins s σ H _ I h) fun us s1 ⟨vs, H1, I1, r1, q1⟩ => ?_) hs rfl))
  obtain ⟨a, xs, ex, hq⟩ := q1
  subst ex
  cases r1 with
  | cons r rr =>
    cases rr
    cases r
    rcases hq with ⟨hq, q⟩ | ⟨hq, q⟩
    · obtain ⟨its, rv, p', hz⟩ := I1.list hq
      refine call_enumerate_list p'.isList fun h' he hit hsz hk => wpAny_pyIter_enum he ?_
      have I2 : Inv X pins σ H1 { s1 with heap := h' } := I1.kept (t' := s1.toks) hk
      refine ⟨s1.heap.objs.size + 1, [s1.heap.objs.size + 1, s1.heap.objs.size], _, _, H1, rfl, I2, turn_enum a (s1.heap.objs.size + 1) s1.heap.objs.size, ⟨⟨.none, he⟩, hit, Nat.succ_ne_self _⟩, fun b hb => ?_, q⟩
      have e' : b = s1.heap.objs.size + 1 ∨ b = s1.heap.objs.size := by simpa using hb
      have hle : s1.heap.objs.size ≤ b := by
        rcases e' with z | z
        · rw [z]; exact Nat.le_add_right _ _
        · rw [z]; exact Nat.le_refl _
      exact I1.fpOk hle (I1.hok.fresh hle)
    · obtain ⟨its, rv, p', hz⟩ := I1.tuple hq
      have hal : a < s1.heap.objs.size := by obtain ⟨o, ho, _⟩ := p'; exact Heap.lt_size ho
      refine enum_begins1 (begins_tuple a its.toArray) p' fun h' he hit hsz hk => wpAny_pyIter_enum he ?_
      have I2 : Inv X pins σ H1 { s1 with heap := h' } := I1.kept (t' := s1.toks) hk
      refine ⟨s1.heap.objs.size + 1, [s1.heap.objs.size + 1, s1.heap.objs.size], _, _, H1, rfl, I2, turn_enumT a (s1.heap.objs.size + 1) s1.heap.objs.size, ⟨⟨.none, he⟩, ⟨_, hit, rfl, rfl⟩, Nat.succ_ne_self _, Nat.ne_of_lt hal, Nat.ne_of_lt (Nat.lt_succ_of_lt hal)⟩, fun b hb => ?_, q⟩
      have e' : b = s1.heap.objs.size + 1 ∨ b = s1.heap.objs.size := by simpa using hb
      have hle : s1.heap.objs.size ≤ b := by
        rcases e' with z | z
        · rw [z]; exact Nat.le_add_right _ _
        · rw [z]; exact Nat.le_refl _
      exact I1.fpOk hle (I1.hok.fresh hle)
end L2
namespace JD
open PySem PySem.Spec PyProof.Rows L2
section
variable {K : PySem.W.Frag} {Γ : List S}
def numd (ds : List D) : List D := (List.range ds.length).map fun (i : Nat) => .tup [.int (i : Int), (ds[i]?).getD .non]
theorem numd_get {ds : List D} {i : Nat} {d : D} (h : (numd ds)[i]? = some d) : ∃ e, ds[i]? = some e ∧ d = .tup [.int (i : Int), e] := by
  unfold numd at h
  rw [List.getElem?_map] at h
  by_cases hi : i < ds.length
  · rw [List.getElem?_range hi] at h
    refine ⟨ds[i], List.getElem?_eq_getElem hi, ?_⟩
    rw [← Option.some.inj h]
    show D.tup [.int (i : Int), (ds[i]?).getD .non] = _
    rw [List.getElem?_eq_getElem hi]
    rfl
  · rw [List.getElem?_eq_none (by simpa using hi)] at h
    cases h
theorem numd_len {ds : List D} : (numd ds).length = ds.length := by unfold numd; simp
theorem i_enumX {ta : TA} {x : D} {ds : List D} (h : Ea K ta Γ fun z => z = [x]) (hx : x.items = some ds) : Ei K (iEnumX K ta) Γ (numd ds) := fun hd fr B H σ R S0 k => h hd fr B H σ _ S0 fun B1 H1 vs zs g r p => by
  subst p
  cases r with
  | cons r1 t => cases t with
    | nil =>
      have key : ∀ (a : Addr) (xs : List V), RepL K B1 xs ds → ∀ (i : Nat) (d : D), (numd ds)[i]? = some d → ∃ x e, xs[i]? = some x ∧ Rep K B1 x e ∧ d = .tup [.int (i : Int), e] := fun a xs rl i d hd => by
        obtain ⟨e, he, rfl⟩ := numd_get hd
        obtain ⟨v, hv, rv⟩ := rl.get he
        exact ⟨v, e, hv, rv, rfl⟩
      have fin : ∀ {B2 H2 : Hp} {T : Addr} {x : V} {i : Nat} {e : D}, Same B1 B2 → Same B2 H2 → H2 T = none → Rep K B1 x e → ∃ B3, Go none B2 H2 B3 (upd H2 T (.tup [.int (i : Nat), x])) ∧ Rep K B3 (.ref T) (.tup [.int (i : Int), e]) := fun {B2 H2 T x i e} s1 s2 hT rx => by
        refine ⟨upd B2 T (.tup [.int (i : Nat), x]), (Go.refl s2 hd_none).alloc hT, ?_⟩
        have nB : B2 T = none := by
          cases q : B2 T with
          | none => rfl
          | some o => rw [s2 _ _ q] at hT; cases hT
        exact .tup (.inl (.inl upd_same)) (.cons (.int _) (.cons (rx.mono (s1.trans (same_upd nB))) .nil))
      cases x with
      | lst es =>
        cases Option.some.inj hx
        obtain ⟨a, xs, rfl, ha, rl⟩ := r1.ofLst
        refine ⟨a, xs, rfl, .inl ⟨.inl (.inl (g.sub _ _ ha)), k B1 H1 _ g fun B2 H2 s1 s2 => ?_⟩⟩
        have h2 : H2 a = some (.lst xs) := s2 _ _ (s1 _ _ ha)
        refine ⟨fun i d hd => ?_, ⟨xs, .inl (.inl h2), by rw [numd_len, rl.length]; exact Nat.le_refl _⟩⟩
        obtain ⟨x, e, hx', rx, rfl⟩ := key a xs rl i d hd
        refine ⟨⟨xs, x, .inl (.inl h2), hx'⟩, fun v H3 ⟨T, y, ev, hT, eH, hy⟩ => ?_⟩
        have := hy xs (.inl (.inl h2))
        rw [hx'] at this
        cases this
        subst ev eH
        exact fin s1 s2 hT rx
      | tup es =>
        cases Option.some.inj hx
        obtain ⟨a, xs, rfl, ha, rl⟩ := r1.ofTup
        refine ⟨a, xs, rfl, .inr ⟨Same.sqT g.sub ha, k B1 H1 _ g fun B2 H2 s1 s2 => ?_⟩⟩
        have h2 : SqT K H2 a xs := Same.sqT s2 (Same.sqT s1 ha)
        refine ⟨fun i d hd => ?_, ⟨xs, h2, by rw [numd_len, rl.length]; exact Nat.le_refl _⟩⟩
        obtain ⟨x, e, hx', rx, rfl⟩ := key a xs rl i d hd
        refine ⟨⟨xs, x, h2, hx'⟩, fun v H3 ⟨T, y, ev, hT, eH, hy⟩ => ?_⟩
        have := hy xs h2
        rw [hx'] at this
        cases this
        subst ev eH
        exact fin s1 s2 hT rx
      | _ => cases hx
end
end JD
set_option maxHeartbeats 4000000
namespace JD
open PySem PySem.Spec PyProof.Rows L2
open C8 (Cal Mak)
/-! ### lists of stretches -/
def mergeM : List SR → List SR → List SR
  | [], r => r
  | a :: l, [] => a :: l
  | a :: l, b :: r => if b.1 < a.1 then b :: mergeM (a :: l) r else a :: mergeM l (b :: r)
termination_by l r => l.length + r.length
theorem mergeM_nilR (l : List SR) : mergeM l [] = l := by cases l <;> simp [mergeM]
theorem mergeM_nilL (l : List SR) : mergeM [] l = l := by simp [mergeM]
theorem mergeM_len : ∀ (l r : List SR), (mergeM l r).length = l.length + r.length
  | [], r => by simp [mergeM]
  | a :: l, [] => by simp [mergeM]
  | a :: l, b :: r => by
    rw [mergeM]
    split
    · rw [List.length_cons, mergeM_len]; simp; omega
    · rw [List.length_cons, mergeM_len]; simp; omega
termination_by l r => l.length + r.length
theorem mergeM_mem : ∀ (l r : List SR) (x : SR), x ∈ mergeM l r → x ∈ l ∨ x ∈ r
  | [], r, x, h => by rw [mergeM] at h; exact .inr h
  | a :: l, [], x, h => by rw [mergeM] at h; exact .inl h
  | a :: l, b :: r, x, h => by
    rw [mergeM] at h
    split at h
    · rcases List.mem_cons.mp h with rfl | h
      · exact .inr (List.mem_cons_self ..)
      · rcases mergeM_mem _ _ x h with h | h
        · exact .inl h
        · exact .inr (List.mem_cons_of_mem _ h)
    · rcases List.mem_cons.mp h with rfl | h
      · exact .inl (List.mem_cons_self ..)
      · rcases mergeM_mem _ _ x h with h | h
        · exact .inl (List.mem_cons_of_mem _ h)
        · exact .inr h
termination_by l r => l.length + r.length
def coal (found : List SR) (x : SR) : List SR := match found.getLast? with
  | none => [x]
  | some t => if goesTo t.2 x.1 = true then found.dropLast ++ [(t.1, maxO t.2 x.2)] else found ++ [x]
def eitherM (one other : List SR) : List SR := (mergeM one other).foldl coal []
def bothRow (a : SR) (other : List SR) : List SR := other.filterMap fun b => if goesTo (minO a.2 b.2) (maxR a.1 b.1) = true then some (maxR a.1 b.1, minO a.2 b.2) else none
def bothM (one other : List SR) : List SR := one.flatMap fun a => bothRow a other
theorem SOk.coal {n : Nat} {found : List SR} {x : SR} (h : ∀ s ∈ found, SOk n s) (k : SOk n x) : ∀ s ∈ coal found x, SOk n s := by
  unfold JD.coal
  cases q : found.getLast? with
  | none =>
    intro s hs
    rcases List.mem_singleton.mp hs with rfl
    exact k
  | some t =>
    have ht : SOk n t := h t (List.mem_of_getLast? q)
    intro s hs
    dsimp only at hs
    split at hs
    · rcases List.mem_append.mp hs with hs | hs
      · exact h s (List.dropLast_subset _ hs)
      · rcases List.mem_singleton.mp hs with rfl
        refine ⟨ht.1, ht.2.1, fun hh e => ?_⟩
        obtain ⟨t1, t2⟩ := t
        obtain ⟨x1, x2⟩ := x
        cases t2 with
        | none => cases e
        | some a =>
          cases x2 with
          | none => cases e
          | some b =>
            have e' : (if b < a then a else b) = hh := Option.some.inj e
            obtain ⟨a1, a2, a3⟩ := ht.2.2 a rfl
            obtain ⟨b1, b2, b3⟩ := k.2.2 b rfl
            split at e'
            · subst e'; exact ⟨a1, a2, a3⟩
            · subst e'
              rename_i hab
              exact ⟨b1, Rat.le_trans a2 (Rat.not_lt.mp hab), b3⟩
    · rcases List.mem_append.mp hs with hs | hs
      · exact h s hs
      · rcases List.mem_singleton.mp hs with rfl
        exact k
theorem coal_len (found : List SR) (x : SR) : (coal found x).length ≤ found.length + 1 := by
  unfold coal
  cases q : found.getLast? with
  | none => simp
  | some t =>
    dsimp only
    split
    · rw [List.length_append, List.length_dropLast]
      simp
    · simp
theorem coals {n : Nat} (xs : List SR) : ∀ (found : List SR), (∀ s ∈ found, SOk n s) → (∀ s ∈ xs, SOk n s) → (∀ s ∈ xs.foldl coal found, SOk n s) ∧ (xs.foldl coal found).length ≤ found.length + xs.length := by
  induction xs with
  | nil => intro f h _; exact ⟨h, Nat.le_refl _⟩
  | cons x xs ih =>
    intro f h k
    obtain ⟨a, b⟩ := ih (coal f x) (SOk.coal h (k x (List.mem_cons_self ..))) fun s hs => k s (List.mem_cons_of_mem _ hs)
    refine ⟨a, Nat.le_trans b ?_⟩
    have := coal_len f x
    simp only [List.length_cons]
    omega
theorem maxR_sr {n : Nat} {a b : Rat} (ha : Sr n a) (hb : Sr n b) : Sr n (maxR a b) := by unfold maxR; split <;> assumption
theorem le_maxR {a b : Rat} : a ≤ maxR a b ∧ b ≤ maxR a b := by
  unfold maxR
  split
  · rename_i h
    exact ⟨Rat.le_of_lt h, Rat.le_refl⟩
  · rename_i h
    exact ⟨Rat.le_refl, Rat.not_lt.mp h⟩
theorem minO_or (a b : Option Rat) : minO a b = a ∨ minO a b = b := by
  cases a with
  | none => exact .inr rfl
  | some a => cases b with
    | none => exact .inl rfl
    | some b =>
      show some (if a < b then a else b) = some a ∨ some (if a < b then a else b) = some b
      by_cases h : a < b
      · rw [if_pos h]; exact .inl rfl
      · rw [if_neg h]; exact .inr rfl
theorem SOk.both {n : Nat} {a b : SR} (ha : SOk n a) (hb : SOk n b) (h : goesTo (minO a.2 b.2) (maxR a.1 b.1) = true) : SOk n (maxR a.1 b.1, minO a.2 b.2) := by
  refine ⟨maxR_sr ha.1 hb.1, Rat.le_trans ha.2.1 le_maxR.1, fun hh e => ?_⟩
  have e' : minO a.2 b.2 = some hh := e
  rw [e'] at h
  have h' : maxR a.1 b.1 ≤ hh := by
    unfold goesTo at h
    simp only [Bool.not_eq_true', decide_eq_false_iff_not] at h
    exact Rat.not_lt.mp h
  rcases minO_or a.2 b.2 with w | w
  · obtain ⟨x, _, z⟩ := ha.2.2 hh (w.symm.trans e')
    exact ⟨x, h', z⟩
  · obtain ⟨x, _, z⟩ := hb.2.2 hh (w.symm.trans e')
    exact ⟨x, h', z⟩
theorem SOk.bothRow {n : Nat} {a : SR} {l : List SR} (ha : SOk n a) (hl : ∀ s ∈ l, SOk n s) : ∀ s ∈ bothRow a l, SOk n s := by
  intro s hs
  obtain ⟨b, hb, e⟩ := List.mem_filterMap.mp hs
  split at e
  · rename_i h
    cases Option.some.inj e
    exact SOk.both ha (hl b hb) h
  · cases e
theorem SOk.bothM {n : Nat} {a l : List SR} (ha : ∀ s ∈ a, SOk n s) (hl : ∀ s ∈ l, SOk n s) : ∀ s ∈ bothM a l, SOk n s := by
  intro s hs
  obtain ⟨b, hb, e⟩ := List.mem_flatMap.mp hs
  exact SOk.bothRow (ha b hb) hl s e
theorem bothRow_len (a : SR) (l : List SR) : (bothRow a l).length ≤ l.length := List.length_filterMap_le _ _
theorem bothM_len (a l : List SR) : (bothM a l).length ≤ a.length * l.length := by
  unfold bothM
  induction a with
  | nil => simp
  | cons x a ih =>
    rw [List.flatMap_cons, List.length_append, List.length_cons, Nat.add_mul, Nat.one_mul]
    have := bothRow_len x l
    omega
section
variable {P : Program} {w : World} {K : PySem.W.Frag} {mg : Str → Option Value} {base : Heap}

theorem ev_end (T : Tx K mg) {Γ : List S} {te tf : TE} {s : SR} (h : Ev K te Γ (strD K s)) (k : Ev K tf Γ (strD K s)) : Ev K (tTup (tCons (tFld K te "low") (tCons (tFld K tf "high") tNil))) Γ (endD s) :=
  e_tup (ea_cons (e_low_ T h) (ea_cons (e_high_ T k) ea_nil)) (of_decide_eq_true rfl)
theorem e_cmp1 {Γ : List S} {ta tb : TE} {a b : Rat} {E : XK} (h1 : Ev K ta Γ (rat a)) (h2 : Ev K tb Γ (rat b)) (ha : Sr 3000 a) (hb : Sr 3000 b) : Et K (tTest (tOp (rNeD K) (tCall (spV K R_compare) [] E (tCons ta (tCons tb tNil))) (tC (.int 1)))) Γ fun x => x = !decide (b < a) :=
  t_test (t_ngt (e_compare h1 h2 ha hb) e_int)

theorem e_greatM {Γ : List S} {ta tb : TE} {a b : Rat} {E : XK} (h1 : Ev K ta Γ (rat a)) (h2 : Ev K tb Γ (rat b)) (ha : Sr 3000 a) (hb : Sr 3000 b) : Ev K (tCall (spV K R_greatest_of) [] E (tCons (tTup (tCons ta (tCons tb tNil))) tNil)) Γ (rat (maxR a b)) := e_great h1 h2 ha hb


abbrev N_merged_ends : List Str := ["one", "other", "left", "right", "ends", "row"]
theorem sc_merged_ends : FnScope N_merged_ends ["one", "other"] (defScope JA.s_merged_ends) := ⟨rfl, rfl, rfl, by decide +kernel, rfl, by decide +kernel, by decide +kernel⟩
def R_merged_ends (K : PySem.W.Frag) : List D → D → Prop := fun ds d => ∃ a b : List SR, ds = [.tup (a.map (strD K)), .tup (b.map (strD K))] ∧ a.length + b.length ≤ 5000 ∧ (∀ s ∈ a, SOk 3000 s) ∧ (∀ s ∈ b, SOk 3000 s) ∧ d = .lst ((mergeM a b).map endD)
theorem c_merged_ends (T : Tx K mg) : Cal P w K mg base 2 "merged_ends" (spV K (R_merged_ends K)) [] := by
  refine cal_V (T.glo 22) (T.says.1.def_ 22) sc_merged_ends (fun ds d h => ?_) (fun _ _ _ _ _ _ us hl => match us, hl with | [_, _], _ => rfl) fun cdv A outer s H E hRm ds d h => ?_
  · obtain ⟨a, b, rfl, _⟩ := h
    rfl
  · obtain ⟨a, b, rfl, hz, ha, hb, rfl⟩ := h
    refine ⟨_, (pss_cons (ps_setLc (i := 2) (own := [("row", 5)]) (g := gName 5) (by rfl) sc_merged_ends.nd rfl rfl (sw_true rfl rfl rfl (by decide +kernel)) (pi_tup (pv 0)) (blkOk_by (own := [("row", 5)]) (N := N_merged_ends) (sc := defScope JA.s_merged_ends) (by decide +kernel)) (fun _ _ _ _ _ => (pg_name (i := 5) sc_merged_ends.nd rfl (by first | exact Or.inl rfl | exact Or.inr rfl))) (fun _ _ _ _ _ => pts_nil) (fun _ _ _ _ _ => (pe_tup (pa_cons (pe_fldK (K := K) (by rfl) (pv 5) rfl) (pa_cons (pe_fldK (K := K) (by rfl) (pv 5) rfl) pa_nil)))))
    (pss_cons (ps_setLc (i := 3) (own := [("row", 5)]) (g := gName 5) (by rfl) sc_merged_ends.nd rfl rfl (sw_true rfl rfl rfl (by decide +kernel)) (pi_tup (pv 1)) (blkOk_by (own := [("row", 5)]) (N := N_merged_ends) (sc := defScope JA.s_merged_ends) (by decide +kernel)) (fun _ _ _ _ _ => (pg_name (i := 5) sc_merged_ends.nd rfl (by first | exact Or.inl rfl | exact Or.inr rfl))) (fun _ _ _ _ _ => pts_nil) (fun _ _ _ _ _ => (pe_tup (pa_cons (pe_fldK (K := K) (by rfl) (pv 5) rfl) (pa_cons (pe_fldK (K := K) (by rfl) (pv 5) rfl) pa_nil)))))
    (pss_cons (ps_set (i := 4) sc_merged_ends.nd rfl (by first | exact Or.inl rfl | exact Or.inr rfl) (pe_lst pa_nil))
    (pss_cons (ps_while PassesOwn.never (PW.pt (pw_or (pt_cmpR (op_neD hRm.units) (pv 2) (pe_lst pa_nil) (nomark _)) (pw_or1 (pt_cmpR (op_neD hRm.units) (pv 3) (pe_lst pa_nil) (nomark _))))) (pss_one (ps_if (PW.pt (pw_or (pt_cmpR (op_eqD hRm.units) (pv 3) (pe_lst pa_nil) (nomark _)) (pw_or1 (PW.pt (pw_and (pt_cmpR (op_neD hRm.units) (pv 2) (pe_lst pa_nil) (nomark _)) (pw_and1 (pt_cmpR (op_neD hRm.units) (C8.pe_c (c_compare T) hRm (by decide) (by rfl) (pa_cons (pe_ix ix_seq (pe_ix ix_seq (pv 2) pe_int (fun _ _ => rfl)) pe_int (fun _ _ => rfl)) (pa_cons (pe_ix ix_seq (pe_ix ix_seq (pv 3) pe_int (fun _ _ => rfl)) pe_int (fun _ _ => rfl)) pa_nil))) pe_int (nomark _)))))))) (pss_one (ps_expr (pe_bm PySem.F.plainAttrs_list PySem.F.slot_list_append PySem.F.type_list_append mt_append (pv 4) (pa_cons (pe_bm PySem.F.plainAttrs_list PySem.F.slot_list_pop PySem.F.type_list_pop mt_popAt (pv 2) (pa_cons pe_int pa_nil)) pa_nil)))) (pss_one (ps_expr (pe_bm PySem.F.plainAttrs_list PySem.F.slot_list_append PySem.F.type_list_append mt_append (pv 4) (pa_cons (pe_bm PySem.F.plainAttrs_list PySem.F.slot_list_pop PySem.F.type_list_pop mt_popAt (pv 3) (pa_cons pe_int pa_nil)) pa_nil)))))))
    (pss_one (ps_ret (pv 4))))))), ?_⟩
    refine s_seq (s_asgLV (l_map a (strD K) endD (i_tup (e_var rfl)) (by omega) fun x hx => ⟨_, g_name, ev_end T (e_var rfl) (e_var rfl)⟩) ?_)
    refine s_seq (s_asgLV (l_map b (strD K) endD (i_tup (e_var rfl)) (by omega) fun x hx => ⟨_, g_name, ev_end T (e_var rfl) (e_var rfl)⟩) ?_)
    refine s_seq (s_asgLV (l_lst ea_nil (of_decide_eq_true rfl)) ?_)
    refine s_mid (fun Γ => Γ = [.val (.tup (a.map (strD K))), .val (.tup (b.map (strD K))), .own (.lst []), .own (.lst []), .own (.lst ((mergeM a b).map endD)), .no]) ?_ fun Γ' hΓ => ?_
    · refine s_while (fun m Γ => ∃ l r e : List SR, m = l.length + r.length ∧ Γ = [.val (.tup (a.map (strD K))), .val (.tup (b.map (strD K))), .own (.lst (l.map endD)), .own (.lst (r.map endD)), .own (.lst (e.map endD)), .no] ∧ e ++ mergeM l r = mergeM a b ∧ (∀ s ∈ l, SOk 3000 s) ∧ (∀ s ∈ r, SOk 3000 s)) _ ⟨a, b, [], rfl, rfl, rfl, ha, hb⟩ fun m Γ1 iv => ?_
      obtain ⟨l, r, e, rfl, rfl, hm, hl, hr⟩ := iv
      have hlen : e.length + (l.length + r.length) = a.length + b.length := by
        have := congrArg List.length hm
        rw [List.length_append, mergeM_len, mergeM_len] at this
        exact this
      have hz' : (e.map endD).length < 100000 := by
        rw [List.length_map]
        omega
      refine ⟨_, t_or (t_neNil rfl (shp_ends l)) fun _ => t_neNil rfl (shp_ends r), fun _ => ?_, fun hb' => ?_⟩
      · cases r with
        | nil =>
          cases l with
          | nil => rename_i hb'; cases hb'
          | cons x l =>
            refine s_ifT (t_or (a := true) (b := true) (t_eqNil rfl (shp_ends [])) fun z => by cases z) (s_appPop rfl rfl (by decide) hz' ⟨l.length, _, by simp, Le.refl _, l, [], e ++ [x], rfl, by simp, ?_, fun s hs => hl s (List.mem_cons_of_mem _ hs), hr⟩)
            rw [← hm, mergeM_nilR, mergeM_nilR]
            simp
        | cons y r =>
          cases l with
          | nil =>
            refine s_ifF (t_or (a := false) (b := false) (t_eqNil rfl (shp_ends (y :: r))) fun _ => t_and (a := false) (b := false) (t_neNil rfl (shp_ends [])) fun z => by cases z) (s_appPop rfl rfl (by decide) hz' ⟨r.length, _, by simp, Le.refl _, [], r, e ++ [y], by simp, by simp, ?_, hl, fun s hs => hr s (List.mem_cons_of_mem _ hs)⟩)
            rw [← hm, mergeM_nilL, mergeM_nilL]
            simp
          | cons x l =>
            have hx := hl x (List.mem_cons_self ..)
            have hy := hr y (List.mem_cons_self ..)
            refine s_ifB (t_or (a := false) (t_eqNil rfl (shp_ends (y :: r))) fun _ => t_and (a := true) (t_neNil rfl (shp_ends (x :: l))) fun _ => e_cmp1 (e_op (e_ixO rfl e_int atI_0) e_int (ro_ix rfl)) (e_op (e_ixO rfl e_int atI_0) e_int (ro_ix rfl)) hx.1 hy.1) (fun c => s_appPop rfl rfl (by decide) hz' ⟨l.length + (y :: r).length, _, by simp, Le.refl _, l, y :: r, e ++ [x], rfl, by simp, ?_, fun s hs => hl s (List.mem_cons_of_mem _ hs), hr⟩) fun c => s_appPop rfl rfl (by decide) hz' ⟨(x :: l).length + r.length, _, by simp, Le.refl _, x :: l, r, e ++ [y], rfl, by simp, ?_, hl, fun s hs => hr s (List.mem_cons_of_mem _ hs)⟩
            · have c' : ¬ y.1 < x.1 := by simpa using c
              rw [← hm, mergeM, if_neg c']
              simp
            · have c' : y.1 < x.1 := by simpa using c
              rw [← hm]
              conv => rhs; rw [mergeM, if_pos c']
              simp
      · cases l with
        | cons x l => cases hb'
        | nil =>
          cases r with
          | cons y r => cases hb'
          | nil =>
            rw [mergeM_nilL, List.append_nil] at hm
            rw [hm]
            rfl
    · subst hΓ
      exact s_frz 4 rfl (s_retV (e_var rfl) rfl)
theorem e_merged {Γ : List S} {ta tb : TE} {a b : List SR} {E : XK} (h1 : Ev K ta Γ (.tup (a.map (strD K)))) (h2 : Ev K tb Γ (.tup (b.map (strD K)))) (hz : a.length + b.length ≤ 5000) (ha : ∀ s ∈ a, SOk 3000 s) (hb : ∀ s ∈ b, SOk 3000 s) : Ev K (tCall (spV K (R_merged_ends K)) [] E (tCons ta (tCons tb tNil))) Γ (.lst ((mergeM a b).map endD)) :=
  e_call (ea_cons h1 (ea_cons h2 ea_nil)) ⟨a, b, rfl, hz, ha, hb, rfl⟩

abbrev N_either_stretches : List Str := ["one", "other", "found", "low", "high"]
theorem sc_either_stretches : FnScope N_either_stretches ["one", "other"] (defScope JA.s_either_stretches) := ⟨rfl, rfl, rfl, by decide +kernel, rfl, by decide +kernel, by decide +kernel⟩
def R_either_stretches (K : PySem.W.Frag) : List D → D → Prop := fun ds d => ∃ a b : List SR, ds = [.tup (a.map (strD K)), .tup (b.map (strD K))] ∧ a.length + b.length ≤ 5000 ∧ (∀ s ∈ a, SOk 3000 s) ∧ (∀ s ∈ b, SOk 3000 s) ∧ d = .tup ((eitherM a b).map (strD K))
theorem c_either_stretches (T : Tx K mg) : Cal P w K mg base 5 "either_stretches" (spV K (R_either_stretches K)) [] := by
  refine cal_V (T.glo 23) (T.says.1.def_ 23) sc_either_stretches (fun ds d h => ?_) (fun _ _ _ _ _ _ us hl => match us, hl with | [_, _], _ => rfl) fun cdv A outer s H E hRm ds d h => ?_
  · obtain ⟨a, b, rfl, _⟩ := h
    rfl
  · obtain ⟨a, b, rfl, hz, ha, hb, rfl⟩ := h
    have hm : ∀ s ∈ mergeM a b, SOk 3000 s := fun s hs => (mergeM_mem a b s hs).elim (ha s) (hb s)
    have hzm : (mergeM a b).length ≤ 5000 := by rw [mergeM_len]; exact hz
    obtain ⟨hf, hfl⟩ := coals (mergeM a b) [] (fun s hs => by cases hs) hm
    refine ⟨_, (pss_cons (ps_set (i := 2) sc_either_stretches.nd rfl (by first | exact Or.inl rfl | exact Or.inr rfl) (pe_lst pa_nil))
    (pss_cons (ps_for PassesOwn.never rfl (pi_list (C8.pe_c (c_merged_ends T) hRm (by decide) (by rfl) (pa_cons (pv 0) (pa_cons (pv 1) pa_nil)))) (pg_tup rfl (pgs_cons (pg_name (i := 3) sc_either_stretches.nd rfl (by first | exact Or.inl rfl | exact Or.inr rfl)) (pgs_cons (pg_name (i := 4) sc_either_stretches.nd rfl (by first | exact Or.inl rfl | exact Or.inr rfl)) pgs_nil))) (pss_one (ps_if (PW.pt (pw_and (pt_cmpR (op_neD hRm.units) (pv 2) (pe_lst pa_nil) (nomark _)) (pw_and1 (pt_val (C8.pe_c (c_goes_to T) hRm (by decide) (by rfl) (pa_cons (pe_ix ix_seq (pe_ix ix_seq (pv 2) (pe_un un_neg pe_int) (fun _ _ => rfl)) pe_int (fun _ _ => rfl)) (pa_cons (pv 3) pa_nil))))))) (pss_one (ps_asg (pe_tup (pa_cons (pe_ix ix_seq (pe_ix ix_seq (pv 2) (pe_un un_neg pe_int) (fun _ _ => rfl)) pe_int (fun _ _ => rfl)) (pa_cons (C8.pe_c (c_greater_high T) hRm (by decide) (by rfl) (pa_cons (pe_ix ix_seq (pe_ix ix_seq (pv 2) (pe_un un_neg pe_int) (fun _ _ => rfl)) pe_int (fun _ _ => rfl)) (pa_cons (pv 4) pa_nil))) pa_nil))) (pg_sub (pv 2) (pe_un un_neg pe_int) set_list))) (pss_one (ps_expr (pe_bm PySem.F.plainAttrs_list PySem.F.slot_list_append PySem.F.type_list_append mt_append (pv 2) (pa_cons (pe_tup (pa_cons (pv 3) (pa_cons (pv 4) pa_nil))) pa_nil)))))))
    (pss_one (ps_ret (pe_callTy call_tupleX (by rfl) (T.free 104) (by decide +kernel) (pa_cons (pe_lc (own := [("low", 3), ("high", 4)]) (g := gTup K 2 (gCons (gName 3) (gCons (gName 4) gNil))) (by rfl) sc_either_stretches.nd (pi_list (pv 2)) (blkOk_by (own := [("low", 3), ("high", 4)]) (N := N_either_stretches) (sc := defScope JA.s_either_stretches) (by decide +kernel)) (fun _ _ _ _ _ => (pg_tup rfl (pgs_cons (pg_name (i := 3) sc_either_stretches.nd rfl (by first | exact Or.inl rfl | exact Or.inr rfl)) (pgs_cons (pg_name (i := 4) sc_either_stretches.nd rfl (by first | exact Or.inl rfl | exact Or.inr rfl)) pgs_nil)))) (fun _ _ _ _ _ => pts_nil) (fun _ _ _ _ _ => (C8.pe_mk (c_Stretch T) hRm (by decide) (by rfl) (pa_cons (pv 3) (pa_cons (pv 4) pa_nil))))) pa_nil)))))), ?_⟩
    refine s_seq (s_asgLV (l_lst ea_nil (of_decide_eq_true rfl)) ?_)
    refine s_mid (fun Γ => ∃ x y, Γ = [.val (.tup (a.map (strD K))), .val (.tup (b.map (strD K))), .own (.lst ((eitherM a b).map endD)), x, y]) ?_ fun Γ' hΓ => ?_
    · refine s_forL (vs := [3, 4]) (mergeM a b) endD (fun pre Γ => ∃ x y, Γ = [.val (.tup (a.map (strD K))), .val (.tup (b.map (strD K))), .own (.lst ((pre.foldl coal []).map endD)), x, y]) (i_list (e_merged (e_var rfl) (e_var rfl) hz ha hb)) ⟨.no, .no, rfl⟩ (fun pre x post Γ1 e iv => ⟨_, g_tup (gs_cons g_name (gs_cons g_name gs_nil)), ?_⟩) fun Γ1 iv => iv
      obtain ⟨u, v, rfl⟩ := iv
      have hx : SOk 3000 x := hm x (by rw [e]; simp)
      obtain ⟨hp, hpl⟩ := coals pre [] (fun s hs => by cases hs) (fun s hs => hm s (by rw [e]; simp [hs]))
      have hpl' : (pre.foldl coal []).length < 100000 := by
        have : pre.length ≤ (mergeM a b).length := by rw [e]; simp
        simp only [List.length_nil] at hpl
        omega
      simp only [List.foldl_append, List.foldl_cons, List.foldl_nil]
      generalize hF : pre.foldl coal [] = F at *
      rcases List.eq_nil_or_concat F with rfl | ⟨G, t, rfl⟩
      · exact s_ifF (t_and (a := false) (b := false) (t_neNil rfl (shp_ends [])) fun z => by cases z) (s_appV rfl (e_tup (ea_cons (e_var rfl) (ea_cons (e_var rfl) ea_nil)) (of_decide_eq_true rfl)) (of_decide_eq_true rfl) ⟨_, Le.refl _, _, _, rfl⟩)
      · rw [List.concat_eq_append] at *
        have ht : SOk 3000 t := hp t (by simp)
        have eG : (G ++ [t]).map endD = G.map endD ++ [endD t] := by simp
        have oo : OOk 3000 t.2 := fun h e => (ht.2.2 h e).1
        refine s_ifB (t_and (a := true) (t_imp (t_neNil rfl (shp_ends (G ++ [t]))) fun z ez => ez.trans (by simp)) fun _ => t_B (e_goes (hi := t.2) (lo := x.1) (e_op (e_ixO rfl (e_un e_int ru_neg) (by rw [eG]; exact atI_last)) e_int (ro_ix rfl)) (e_var rfl) oo hx.1)) (fun c => ?_) fun c => ?_
        · have c' : goesTo t.2 x.1 = true := by simpa using c
          have eC : coal (G ++ [t]) x = G ++ [(t.1, maxO t.2 x.2)] := by
            unfold coal
            simp [c']
          have eD : (G ++ [(t.1, maxO t.2 x.2)]).map endD = ((G ++ [t]).map endD).set G.length (endD (t.1, maxO t.2 x.2)) := by
            rw [eG, ← List.length_map (f := endD)]
            simp [List.set_append]
          rw [eC, eD]
          refine s_setL (m := G.length) rfl (e_tup (ea_cons (e_op (e_ixO rfl (e_un e_int ru_neg) (by rw [eG]; exact atI_last)) e_int (ro_ix rfl)) (ea_cons (e_greater (a := t.2) (b := x.2) (e_op (e_ixO rfl (e_un e_int ru_neg) (by rw [eG]; exact atI_last)) e_int (ro_ix rfl)) (e_var rfl) oo fun h e => (hx.2.2 h e).1) ea_nil)) (of_decide_eq_true rfl)) (e_un e_int ru_neg) ?_ ⟨_, Le.refl _, _, _, rfl⟩
          rw [List.length_map, List.length_append, List.length_singleton, ixN_neg (by omega) (by omega)]
          congr 1
          omega
        · have c' : goesTo t.2 x.1 = false := by simpa using c
          have : coal (G ++ [t]) x = (G ++ [t]) ++ [x] := by
            unfold coal
            simp [c']
          rw [this, List.map_append (l₂ := [x])]
          exact s_appV rfl (e_tup (ea_cons (e_var rfl) (ea_cons (e_var rfl) ea_nil)) (of_decide_eq_true rfl)) (by rw [List.length_map]; exact hpl') ⟨_, Le.refl _, _, _, rfl⟩
    · obtain ⟨u, v, rfl⟩ := hΓ
      refine s_frz 2 rfl (s_retV (e_cb (ea_cons (l_map (eitherM a b) endD (strD K) (i_list (e_var rfl)) ?_ fun x hx => ⟨_, g_tup (gs_cons g_name (gs_cons g_name gs_nil)), e_stretch (e_var rfl) (e_var rfl) (hf x hx)⟩).ev ea_nil) (rc_tuple rfl)) rfl)
      have : (eitherM a b).length ≤ 0 + (mergeM a b).length := hfl
      omega
theorem e_either {Γ : List S} {ta tb : TE} {a b : List SR} {E : XK} (h1 : Ev K ta Γ (.tup (a.map (strD K)))) (h2 : Ev K tb Γ (.tup (b.map (strD K)))) (hz : a.length + b.length ≤ 5000) (ha : ∀ s ∈ a, SOk 3000 s) (hb : ∀ s ∈ b, SOk 3000 s) : Ev K (tCall (spV K (R_either_stretches K)) [] E (tCons ta (tCons tb tNil))) Γ (.tup ((eitherM a b).map (strD K))) :=
  e_call (ea_cons h1 (ea_cons h2 ea_nil)) ⟨a, b, rfl, hz, ha, hb, rfl⟩


abbrev N_both_stretches : List Str := ["one", "other", "found", "row", "mate", "low", "high"]
theorem sc_both_stretches : FnScope N_both_stretches ["one", "other"] (defScope JA.s_both_stretches) := ⟨rfl, rfl, rfl, by decide +kernel, rfl, by decide +kernel, by decide +kernel⟩
def R_both_stretches (K : PySem.W.Frag) : List D → D → Prop := fun ds d => ∃ a b : List SR, ds = [.tup (a.map (strD K)), .tup (b.map (strD K))] ∧ a.length ≤ 200 ∧ b.length ≤ 200 ∧ (∀ s ∈ a, SOk 3000 s) ∧ (∀ s ∈ b, SOk 3000 s) ∧ d = .tup ((bothM a b).map (strD K))
theorem c_both_stretches (T : Tx K mg) : Cal P w K mg base 5 "both_stretches" (spV K (R_both_stretches K)) [] := by
  refine cal_V (T.glo 24) (T.says.1.def_ 24) sc_both_stretches (fun ds d h => ?_) (fun _ _ _ _ _ _ us hl => match us, hl with | [_, _], _ => rfl) fun cdv A outer s H E hRm ds d h => ?_
  · obtain ⟨a, b, rfl, _⟩ := h
    rfl
  · obtain ⟨a, b, rfl, za, zb, ha, hb, rfl⟩ := h
    refine ⟨_, (pss_cons (ps_set (i := 2) sc_both_stretches.nd rfl (by first | exact Or.inl rfl | exact Or.inr rfl) (pe_lst pa_nil))
    (pss_cons (ps_for PassesOwn.never rfl (pi_tup (pv 0)) (pg_name (i := 3) sc_both_stretches.nd rfl (by first | exact Or.inl rfl | exact Or.inr rfl)) (pss_one (ps_for PassesOwn.never rfl (pi_tup (pv 1)) (pg_name (i := 4) sc_both_stretches.nd rfl (by first | exact Or.inl rfl | exact Or.inr rfl)) (pss_cons (ps_set (i := 5) sc_both_stretches.nd rfl (by first | exact Or.inl rfl | exact Or.inr rfl) (C8.pe_c (c_greatest_of T) hRm (by decide) (by rfl) (pa_cons (pe_tup (pa_cons (pe_fld (pv 3) rfl) (pa_cons (pe_fld (pv 4) rfl) pa_nil))) pa_nil)))
    (pss_cons (ps_set (i := 6) sc_both_stretches.nd rfl (by first | exact Or.inl rfl | exact Or.inr rfl) (C8.pe_c (c_lesser_high T) hRm (by decide) (by rfl) (pa_cons (pe_fld (pv 3) rfl) (pa_cons (pe_fld (pv 4) rfl) pa_nil))))
    (pss_one (ps_if (pt_val (C8.pe_c (c_goes_to T) hRm (by decide) (by rfl) (pa_cons (pv 6) (pa_cons (pv 5) pa_nil)))) (pss_one (ps_expr (pe_bm PySem.F.plainAttrs_list PySem.F.slot_list_append PySem.F.type_list_append mt_append (pv 2) (pa_cons (C8.pe_mk (c_Stretch T) hRm (by decide) (by rfl) (pa_cons (pv 5) (pa_cons (pv 6) pa_nil))) pa_nil)))) pss_nil)))))))
    (pss_one (ps_ret (pe_callTy call_tupleX (by rfl) (T.free 104) (by decide +kernel) (pa_cons (pv 2) pa_nil)))))), ?_⟩
    refine s_seq (s_asgLV (l_lst ea_nil (of_decide_eq_true rfl)) ?_)
    refine s_mid (fun Γ => ∃ x y z u, Γ = [.val (.tup (a.map (strD K))), .val (.tup (b.map (strD K))), .own (.lst ((bothM a b).map (strD K))), x, y, z, u]) ?_ fun Γ' hΓ => ?_
    · refine s_forL (vs := [3]) a (strD K) (fun pre Γ => ∃ x y z u, Γ = [.val (.tup (a.map (strD K))), .val (.tup (b.map (strD K))), .own (.lst ((bothM pre b).map (strD K))), x, y, z, u]) (i_tup (e_var rfl)) ⟨.no, .no, .no, .no, rfl⟩ (fun pre x post Γ1 e iv => ⟨_, g_name, ?_⟩) fun Γ1 iv => iv
      obtain ⟨u1, u2, u3, u4, rfl⟩ := iv
      have hx := ha x (by rw [e]; simp)
      have lpre : (bothM pre b).length ≤ 200 * 200 := Nat.le_trans (bothM_len _ _) (Nat.mul_le_mul (by rw [e] at za; simp at za; omega) zb)
      refine s_forL (vs := [4]) b (strD K) (fun pre2 Γ => ∃ y z u, Γ = [.val (.tup (a.map (strD K))), .val (.tup (b.map (strD K))), .own (.lst ((bothM pre b ++ bothRow x pre2).map (strD K))), .val (strD K x), y, z, u]) (i_tup (e_var rfl)) ⟨u2, u3, u4, by simp [bothRow]⟩ (fun pre2 y post2 Γ1 e2 iv => ⟨_, g_name, ?_⟩) fun Γ1 iv => ?_
      · obtain ⟨u2, u3, u4, rfl⟩ := iv
        have hy := hb y (by rw [e2]; simp)
        have lrow : (bothRow x pre2).length ≤ 200 := Nat.le_trans (bothRow_len _ _) (by rw [e2] at zb; simp at zb; omega)
        refine s_seq (s_asgV (e_greatM (e_low_ T (e_var rfl)) (e_low_ T (e_var rfl)) hx.1 hy.1) ?_)
        refine s_seq (s_asgV (e_lesser (a := x.2) (b := y.2) (e_high_ T (e_var rfl)) (e_high_ T (e_var rfl)) (fun h e => (hx.2.2 h e).1) fun h e => (hy.2.2 h e).1) ?_)
        have hl : Sr 3000 (maxR x.1 y.1) := maxR_sr hx.1 hy.1
        have hh : OOk 3000 (minO x.2 y.2) := by
          rcases minO_or x.2 y.2 with w | w
          · rw [w]; exact fun h e => (hx.2.2 h e).1
          · rw [w]; exact fun h e => (hy.2.2 h e).1
        have eR : bothRow x (pre2 ++ [y]) = bothRow x pre2 ++ (if goesTo (minO x.2 y.2) (maxR x.1 y.1) = true then [(maxR x.1 y.1, minO x.2 y.2)] else []) := by
          unfold bothRow
          rw [List.filterMap_append]
          congr 1
          split <;> simp [*]
        refine s_ifB (t_B (e_goes (hi := minO x.2 y.2) (lo := maxR x.1 y.1) (e_var rfl) (e_var rfl) hh hl)) (fun c => ?_) fun c => ?_
        · rw [eR, if_pos c, ← List.append_assoc, List.map_append (l₂ := [_])]
          exact s_appV rfl (e_stretch (s := (maxR x.1 y.1, minO x.2 y.2)) (e_var rfl) (e_var rfl) (SOk.both hx hy c)) (by rw [List.length_map, List.length_append]; omega) ⟨_, Le.refl _, _, _, _, rfl⟩
        · rw [if_neg (by rw [c]; decide)] at eR
          rw [eR, List.append_nil]
          exact s_next ⟨_, Le.refl _, _, _, _, rfl⟩
      · obtain ⟨v2, v3, v4, rfl⟩ := iv
        have eB : bothM (pre ++ [x]) b = bothM pre b ++ bothRow x b := by
          unfold bothM
          rw [List.flatMap_append]
          simp
        rw [eB]
        exact ⟨_, Le.refl _, _, _, _, _, rfl⟩
    · obtain ⟨u1, u2, u3, u4, rfl⟩ := hΓ
      exact s_frz 2 rfl (s_retV (e_cb (ea_cons (e_var rfl) ea_nil) (rc_tuple rfl)) rfl)
theorem e_both {Γ : List S} {ta tb : TE} {a b : List SR} {E : XK} (h1 : Ev K ta Γ (.tup (a.map (strD K)))) (h2 : Ev K tb Γ (.tup (b.map (strD K)))) (za : a.length ≤ 200) (zb : b.length ≤ 200) (ha : ∀ s ∈ a, SOk 3000 s) (hb : ∀ s ∈ b, SOk 3000 s) : Ev K (tCall (spV K (R_both_stretches K)) [] E (tCons ta (tCons tb tNil))) Γ (.tup ((bothM a b).map (strD K))) :=
  e_call (ea_cons h1 (ea_cons h2 ea_nil)) ⟨a, b, rfl, za, zb, ha, hb, rfl⟩
end
end JD
set_option maxHeartbeats 4000000
namespace JD
open PySem PySem.Spec PyProof.Rows L2
open C8 (Cal Mak)
/-! ### patterns -/
def patL (ns : List Int) : Prop := 1 ≤ ns.length ∧ ns.length ≤ 50 ∧ ∀ n ∈ ns, n = 0 ∨ n = 1
theorem numd_ints (ns : List Int) : numd (ns.map D.int) = (List.range ns.length).map fun (i : Nat) => D.tup [.int (i : Int), .int (ns[i]?.getD 0)] := by
  unfold numd
  rw [List.length_map]
  refine List.map_congr_left fun i hi => ?_
  have hi' : i < ns.length := List.mem_range.mp hi
  rw [List.getElem?_map, List.getElem?_eq_getElem hi']
  rfl
theorem sum01 : ∀ {ns : List Int}, (∀ n ∈ ns, n = 0 ∨ n = 1) → 0 ≤ ns.sum ∧ ns.sum ≤ ns.length
  | [], _ => by simp
  | n :: r, h => by
    have := sum01 (ns := r) fun m hm => h m (List.mem_cons_of_mem _ hm)
    have := h n (List.mem_cons_self ..)
    rw [List.sum_cons, List.length_cons]
    omega
/-- the joints of a row from a place on -/
def jointsM : Int → Int → List Int → List (Int × Int)
  | _, _, [] => []
  | _, _, [_] => []
  | s, l, n :: m :: r => (s + 1 - n, l + n) :: jointsM (s + 1 - n) (l + n) (m :: r)
def pairD (p : Int × Int) : D := .tup [.int p.1, .int p.2]
def jst (p : Int × Int) (n : Int) : Int × Int := (p.1 + 1 - n, p.2 + n)
def jfold (a : List (Int × Int) × (Int × Int)) (n : Int) : List (Int × Int) × (Int × Int) := (a.1 ++ [jst a.2 n], jst a.2 n)
theorem jfold_joints : ∀ (ns : List Int) (acc : List (Int × Int)) (p : Int × Int), (ns.dropLast.foldl jfold (acc, p)).1 = acc ++ jointsM p.1 p.2 ns
  | [], acc, p => by simp [jointsM]
  | [n], acc, p => by simp [jointsM]
  | n :: m :: r, acc, p => by
    rw [List.dropLast_cons_of_ne_nil (by simp), List.foldl_cons, jfold, jfold_joints]
    simp [jointsM, jst]
theorem jointsM_len : ∀ (s l : Int) (ns : List Int), (jointsM s l ns).length = ns.length - 1
  | _, _, [] => rfl
  | _, _, [_] => rfl
  | s, l, n :: m :: r => by
    rw [jointsM, List.length_cons, jointsM_len]
    simp
section
variable {P : Program} {w : World} {K : PySem.W.Frag} {mg : Str → Option Value} {base : Heap}

theorem e_whole3 {Γ : List S} {te tl th : TE} {x : D} {l u : Int} {E : XK} (h : Ev K te Γ x) (hl : Ev K tl Γ (.int l)) (hu : Ev K th Γ (.int u)) (hx : x.tyV.isSome = true := by rfl) : Ev K (tCall (spV K R_is_whole) [] E (tCons te (tCons tl (tCons th tNil)))) Γ (.bl (wholeD x (.int l) (.int u))) :=
  e_call (ea_cons h (ea_cons hl (ea_cons hu ea_nil))) ⟨x, .int l, .int u, rfl, hx, rfl, rfl, rfl⟩


abbrev N_check_pattern : List Str := ["pattern", "at", "entry"]
theorem sc_check_pattern : FnScope N_check_pattern ["pattern"] (defScope JA.s_check_pattern) := ⟨rfl, rfl, rfl, by decide +kernel, rfl, by decide +kernel, by decide +kernel⟩
def R_check_pattern : List D → D → Prop := fun ds d => ∃ (x : D) (ns : List Int), ds = [x] ∧ x.items = some (ns.map D.int) ∧ patL ns ∧ d = row ns
theorem b_check_pattern (T : Tx K mg) {CX : CXT} (cdv : Value) (A : Around) (outer : List Env) (s : Shared) (H : Hp) (E : XK) (hRm : Room 3 (A.deeper (envOfC "check_pattern" (defScope JA.s_check_pattern) s.heap.objs.size (He.ga K "check_pattern") cdv))) (ds : List D) (d : D) (h : R_check_pattern ds d) :
    ∃ t, PSs (cxOf CX P w K mg base N_check_pattern "check_pattern" (defScope JA.s_check_pattern) (He.ga K "check_pattern") cdv A outer s H E).nox (defBody JA.s_check_pattern) t ∧ Es K t (ds.map S.val ++ List.replicate (N_check_pattern.length - 1) .no) ⟨fun _ => d = .non, fun z => z = d, fun _ => False, fun _ => False⟩ := by
  obtain ⟨x, ns, rfl, hx, ⟨h1, h2, h3⟩, rfl⟩ := h
  have hlen : x.len = some ns.length := by
    cases x with
    | lst es => cases Option.some.inj hx; simp [D.len]
    | tup es => cases Option.some.inj hx; simp [D.len]
    | _ => cases hx
  have hi : Rc K (rIsiX K) [x, .tup (["list", "tuple"].map D.ty)] fun u => u = .bl true := by
    cases x with
    | lst es => exact rc_isiT (t := "list") rfl (by rfl)
    | tup es => exact rc_isiT (t := "tuple") rfl (by rfl)
    | _ => cases hx
  refine ⟨_, (pss_cons (ps_if (PW.pt (pw_or (pt_not (pt_val (pe_callB call_isiX (by rfl) (T.free 94) (by decide +kernel) (pa_cons (pv 0) (pa_cons (pe_tup (pa_cons (pe_bltn (v := .ty "list") (by rfl) (T.free 96) (by decide +kernel) rfl) (pa_cons (pe_bltn (v := .ty "tuple") (by rfl) (T.free 104) (by decide +kernel) rfl) pa_nil))) pa_nil))))) (pw_or1 (pt_not (pt_chain op_le op_le pe_int (pe_callB call_lenX (by rfl) (T.free 95) (by decide +kernel) (pa_cons (pv 0) pa_nil)) (C8.pe_gc (v := .int 50) (by rfl) (T.int 105))))))) pss_never pss_nil)
    (pss_cons (ps_for PassesOwn.never rfl (pi_enumX (by rfl) (T.free 92) (pa_cons (pv 0) pa_nil)) (pg_tup rfl (pgs_cons (pg_name (i := 1) sc_check_pattern.nd rfl (by first | exact Or.inl rfl | exact Or.inr rfl)) (pgs_cons (pg_name (i := 2) sc_check_pattern.nd rfl (by first | exact Or.inl rfl | exact Or.inr rfl)) pgs_nil))) (pss_one (ps_if (pt_not (pt_val (C8.pe_c (c_is_whole_3 T) hRm (by decide) (by rfl) (pa_cons (pv 2) (pa_cons pe_int (pa_cons pe_int pa_nil)))))) pss_never pss_nil)))
    (pss_one (ps_ret (pe_callTy call_tupleX (by rfl) (T.free 104) (by decide +kernel) (pa_cons (pv 0) pa_nil)))))), ?_⟩
  refine s_seq (s_ifF (t_or (a := false) (b := false) (t_not (a := true) (t_B (e_cb (ea_cons (e_var rfl) (ea_cons (e_tup (ea_cons e_ty (ea_cons e_ty ea_nil)) (of_decide_eq_true rfl)) ea_nil)) hi))) fun _ => t_imp (t_not (t_test (e_chain e_int (e_cb (ea_cons (e_var rfl) ea_nil) (rc_len hlen)) ro_le (fun _ => e_int) (fun _ => ro_le)))) fun b e => ?_) (s_next ?_))
  · rw [e, decide_eq_true (by omega), decide_eq_true (by omega)]
    rfl
  refine s_mid (fun Γ => ∃ u v, Γ = [.val x, u, v]) ?_ fun Γ' hΓ => ?_
  · refine s_forL (vs := [1, 2]) (List.range ns.length) (fun (i : Nat) => D.tup [.int (i : Int), .int (ns[i]?.getD 0)]) (fun _ Γ => ∃ u v, Γ = [.val x, u, v]) (by rw [← numd_ints]; exact i_enumX (ea_cons (e_var rfl) ea_nil) hx) ⟨.no, .no, rfl⟩ (fun pre i post Γ1 e iv => ⟨_, g_tup (gs_cons g_name (gs_cons g_name gs_nil)), ?_⟩) fun Γ1 iv => iv
    obtain ⟨u, v, rfl⟩ := iv
    have hi : i < ns.length := List.mem_range.mp (by rw [e]; simp)
    have hm : ns[i]?.getD 0 ∈ ns := by rw [List.getElem?_eq_getElem hi]; exact List.getElem_mem hi
    refine s_ifF (t_imp (t_not (t_B (e_whole3 (e_var rfl) e_int e_int))) fun b e => ?_) (s_next ⟨_, Le.refl _, _, _, rfl⟩)
    rw [e, wholeD]
    rcases h3 _ hm with q | q <;> rw [q] <;> rfl
  · obtain ⟨u, v, rfl⟩ := hΓ
    exact s_retV (e_cb (ea_cons (e_var rfl) ea_nil) (rc_tuple hx)) rfl
theorem c_check_pattern (T : Tx K mg) : Cal P w K mg base 4 "check_pattern" (spV K R_check_pattern) [] := by
  refine cal_V (T.glo 11) (T.says.1.def_ 11) sc_check_pattern (fun ds d h => ?_) (fun _ _ _ _ _ _ us hl => match us, hl with | [_], _ => rfl) fun cdv A outer s H E hRm ds d h => ?_
  · obtain ⟨x, ns, rfl, _⟩ := h
    rfl
  · exact b_check_pattern T cdv A outer s H E hRm ds d h
theorem e_cpat {Γ : List S} {te : TE} {x : D} {ns : List Int} {E : XK} (h : Ev K te Γ x) (hx : x.items = some (ns.map D.int)) (hp : patL ns) : Ev K (tCall (spV K R_check_pattern) [] E (tCons te tNil)) Γ (row ns) := e_call (ea_cons h ea_nil) ⟨x, ns, rfl, hx, hp, rfl⟩
theorem cut_init (l : List α) (f : α → D) : cutD (l.map f) none (some (-1)) = l.dropLast.map f := by
  unfold cutD
  rw [List.map_dropLast, List.dropLast_eq_take]
  simp [HT.sIx]
  congr 1
  omega

abbrev N_pattern_counts : List Str := ["pattern", "row", "longs"]
theorem sc_pattern_counts : FnScope N_pattern_counts ["pattern"] (defScope JA.s_pattern_counts) := ⟨rfl, rfl, rfl, by decide +kernel, rfl, by decide +kernel, by decide +kernel⟩
def R_pattern_counts : List D → D → Prop := fun ds d => ∃ (x : D) (ns : List Int), ds = [x] ∧ x.items = some (ns.map D.int) ∧ patL ns ∧ d = pairD ((ns.length : Int) - ns.sum, ns.sum)
theorem c_pattern_counts (T : Tx K mg) : Cal P w K mg base 5 "pattern_counts" (spV K R_pattern_counts) [] := by
  refine cal_V (T.glo 12) (T.says.1.def_ 12) sc_pattern_counts (fun ds d h => ?_) (fun _ _ _ _ _ _ us hl => match us, hl with | [_], _ => rfl) fun cdv A outer s H E hRm ds d h => ?_
  · obtain ⟨x, ns, rfl, _⟩ := h
    rfl
  · obtain ⟨x, ns, rfl, hx, hp, rfl⟩ := h
    refine ⟨_, (pss_cons (ps_set (i := 1) sc_pattern_counts.nd rfl (by first | exact Or.inl rfl | exact Or.inr rfl) (C8.pe_c (c_check_pattern T) hRm (by decide) (by rfl) (pa_cons (pv 0) pa_nil)))
    (pss_cons (ps_set (i := 2) sc_pattern_counts.nd rfl (by first | exact Or.inl rfl | exact Or.inr rfl) (pe_callB (cr_sumX rfl) (by rfl) (T.free 103) (by decide +kernel) (pa_cons (pv 1) pa_nil)))
    (pss_one (ps_ret (pe_tup (pa_cons (pe_op op_sub (pe_callB call_lenX (by rfl) (T.free 95) (by decide +kernel) (pa_cons (pv 1) pa_nil)) (pv 2)) (pa_cons (pv 2) pa_nil))))))), ?_⟩
    refine s_seq (s_asgV (e_cpat (e_var rfl) hx hp) ?_)
    refine s_seq (s_asgV (e_cb (ea_cons (e_var rfl) ea_nil) (rc_sum (ns := ns) rfl)) ?_)
    exact s_retV (e_tup (ea_cons (e_op (e_cb (ea_cons (e_var rfl) ea_nil) (rc_len (n := ns.length) (by simp [row, D.len]))) (e_var rfl) ro_sub) (ea_cons (e_var rfl) ea_nil)) (of_decide_eq_true rfl)) rfl


abbrev N_pattern_joints : List Str := ["pattern", "row", "joints", "shorts", "longs", "entry"]
theorem sc_pattern_joints : FnScope N_pattern_joints ["pattern"] (defScope JA.s_pattern_joints) := ⟨rfl, rfl, rfl, by decide +kernel, rfl, by decide +kernel, by decide +kernel⟩
def R_pattern_joints : List D → D → Prop := fun ds d => ∃ (x : D) (ns : List Int), ds = [x] ∧ x.items = some (ns.map D.int) ∧ patL ns ∧ d = .tup ((jointsM 0 0 ns).map pairD)
theorem c_pattern_joints (T : Tx K mg) : Cal P w K mg base 5 "pattern_joints" (spV K R_pattern_joints) [] := by
  refine cal_V (T.glo 13) (T.says.1.def_ 13) sc_pattern_joints (fun ds d h => ?_) (fun _ _ _ _ _ _ us hl => match us, hl with | [_], _ => rfl) fun cdv A outer s H E hRm ds d h => ?_
  · obtain ⟨x, ns, rfl, _⟩ := h
    rfl
  · obtain ⟨x, ns, rfl, hx, hp, rfl⟩ := h
    refine ⟨_, (pss_cons (ps_set (i := 1) sc_pattern_joints.nd rfl (by first | exact Or.inl rfl | exact Or.inr rfl) (C8.pe_c (c_check_pattern T) hRm (by decide) (by rfl) (pa_cons (pv 0) pa_nil)))
    (pss_cons (ps_set (i := 2) sc_pattern_joints.nd rfl (by first | exact Or.inl rfl | exact Or.inr rfl) (pe_lst pa_nil))
    (pss_cons (ps_asg (pe_tup (pa_cons pe_int (pa_cons pe_int pa_nil))) (pg_tup rfl (pgs_cons (pg_name (i := 3) sc_pattern_joints.nd rfl (by first | exact Or.inl rfl | exact Or.inr rfl)) (pgs_cons (pg_name (i := 4) sc_pattern_joints.nd rfl (by first | exact Or.inl rfl | exact Or.inr rfl)) pgs_nil))))
    (pss_cons (ps_for PassesOwn.never rfl (pi_tup (pe_slice sl_X (pv 1) po_none (po_some (pe_un un_neg pe_int)))) (pg_name (i := 5) sc_pattern_joints.nd rfl (by first | exact Or.inl rfl | exact Or.inr rfl)) (pss_cons (ps_par (i := 3) (j := 4) (by rfl) sc_pattern_joints.nd rfl rfl (by decide) rfl rfl (pa_cons (pe_op op_sub (pe_op op_addX (pv 3) pe_int) (pv 5)) (pa_cons (pe_op op_addX (pv 4) (pv 5)) pa_nil)) (by rfl))
    (pss_one (ps_expr (pe_bm PySem.F.plainAttrs_list PySem.F.slot_list_append PySem.F.type_list_append mt_append (pv 2) (pa_cons (pe_tup (pa_cons (pv 3) (pa_cons (pv 4) pa_nil))) pa_nil))))))
    (pss_one (ps_ret (pe_callTy call_tupleX (by rfl) (T.free 104) (by decide +kernel) (pa_cons (pv 2) pa_nil)))))))), ?_⟩
    refine s_seq (s_asgV (e_cpat (e_var rfl) hx hp) ?_)
    refine s_seq (s_asgLV (l_lst ea_nil (of_decide_eq_true rfl)) ?_)
    refine s_seq (s_asgG (e_tup (ea_cons e_int (ea_cons e_int ea_nil)) (of_decide_eq_true rfl)) (g_tup (vs := [3, 4]) (gs_cons g_name (gs_cons g_name gs_nil))) ?_)
    refine s_mid (fun Γ => ∃ u v t, Γ = [.val x, .val (row ns), .own (.lst ((jointsM 0 0 ns).map pairD)), u, v, t]) ?_ fun Γ' hΓ => ?_
    · refine s_forL (vs := [5]) ns.dropLast D.int (fun pre Γ => ∃ t, Γ = [.val x, .val (row ns), .own (.lst ((pre.foldl jfold ([], (0, 0))).1.map pairD)), .val (.int (pre.foldl jfold ([], (0, 0))).2.1), .val (.int (pre.foldl jfold ([], (0, 0))).2.2), t]) (i_tup (Ev.cast (e_sl (e_var rfl) o_none (o_some (e_un e_int ru_neg)) rs_tup) (congrArg D.tup (cut_init ns D.int)))) ⟨.no, rfl⟩ (fun pre n post Γ1 e iv => ⟨_, g_name, ?_⟩) fun Γ1 iv => ?_
      · obtain ⟨t, rfl⟩ := iv
        have hz : (pre.foldl jfold ([], (0, 0))).1.length ≤ pre.length := by
          have : ∀ (l : List Int) (a : List (Int × Int) × (Int × Int)), (l.foldl jfold a).1.length = a.1.length + l.length := by
            intro l
            induction l with
            | nil => intro a; rfl
            | cons n r ih => intro a; rw [List.foldl_cons, ih, jfold]; simp; omega
          rw [this]
          simp
        have hz2 : pre.length ≤ 50 := by
          have := congrArg List.length e
          simp at this
          have := hp.2.1
          omega
        rw [List.foldl_append, List.foldl_cons, List.foldl_nil]
        generalize pre.foldl jfold ([], (0, 0)) = A at *
        obtain ⟨acc, s, l⟩ := A
        refine s_seq (s_par (ea_cons (e_op (e_op (e_var rfl) e_int ro_add) (e_var rfl) ro_sub) (ea_cons (e_op (e_var rfl) (e_var rfl) ro_add) ea_nil)) ?_)
        rw [jfold, List.map_append]
        exact s_appV rfl (e_tup (ea_cons (e_var rfl) (ea_cons (e_var rfl) ea_nil)) (of_decide_eq_true rfl)) (by rw [List.length_map]; show acc.length < 100000; have hz' : acc.length ≤ pre.length := hz; omega) ⟨_, Le.refl _, _, rfl⟩
      · obtain ⟨t, rfl⟩ := iv
        rw [jfold_joints]
        exact ⟨_, _, _, rfl⟩
    · obtain ⟨u, v, t, rfl⟩ := hΓ
      exact s_frz 2 rfl (s_retV (e_cb (ea_cons (e_var rfl) ea_nil) (rc_tuple rfl)) rfl)
theorem e_joints {Γ : List S} {te : TE} {x : D} {ns : List Int} {E : XK} (h : Ev K te Γ x) (hx : x.items = some (ns.map D.int)) (hp : patL ns) : Ev K (tCall (spV K R_pattern_joints) [] E (tCons te tNil)) Γ (.tup ((jointsM 0 0 ns).map pairD)) := e_call (ea_cons h ea_nil) ⟨x, ns, rfl, hx, hp, rfl⟩

abbrev N_check_counts : List Str := ["a_count", "b_count"]
theorem sc_check_counts : FnScope N_check_counts ["a_count", "b_count"] (defScope JA.s_check_counts) := ⟨rfl, rfl, rfl, by decide +kernel, rfl, by decide +kernel, by decide +kernel⟩
def R_check_counts : List D → D → Prop := fun ds d => ∃ a b : Int, ds = [.int a, .int b] ∧ 0 ≤ a ∧ 0 ≤ b ∧ 1 ≤ a + b ∧ a + b ≤ 8 ∧ d = pairD (a, b)
theorem b_check_counts (T : Tx K mg) {CX : CXT} (cdv : Value) (A : Around) (outer : List Env) (s : Shared) (H : Hp) (E : XK) (hRm : Room 3 (A.deeper (envOfC "check_counts" (defScope JA.s_check_counts) s.heap.objs.size (He.ga K "check_counts") cdv))) (ds : List D) (d : D) (h : R_check_counts ds d) :
    ∃ t, PSs (cxOf CX P w K mg base N_check_counts "check_counts" (defScope JA.s_check_counts) (He.ga K "check_counts") cdv A outer s H E).nox (defBody JA.s_check_counts) t ∧ Es K t (ds.map S.val ++ List.replicate (N_check_counts.length - 2) .no) ⟨fun _ => d = .non, fun z => z = d, fun _ => False, fun _ => False⟩ := by
  obtain ⟨a, b, rfl, h1, h2, h3, h4, rfl⟩ := h
  refine ⟨_, (pss_cons (ps_if (pt_not (pt_val (C8.pe_c (c_is_whole_3 T) hRm (by decide) (by rfl) (pa_cons (pv 0) (pa_cons pe_int (pa_cons (C8.pe_gc (v := .int 8) (by rfl) (T.int 106)) pa_nil)))))) pss_never pss_nil)
    (pss_cons (ps_if (pt_not (pt_val (C8.pe_c (c_is_whole_3 T) hRm (by decide) (by rfl) (pa_cons (pv 1) (pa_cons pe_int (pa_cons (C8.pe_gc (v := .int 8) (by rfl) (T.int 106)) pa_nil)))))) pss_never pss_nil)
    (pss_cons (ps_if (pt_not (pt_chain op_le op_le pe_int (pe_op op_addX (pv 0) (pv 1)) (C8.pe_gc (v := .int 8) (by rfl) (T.int 106)))) pss_never pss_nil)
    (pss_one (ps_ret (pe_tup (pa_cons (pv 0) (pa_cons (pv 1) pa_nil)))))))), ?_⟩
  refine s_seq (s_ifF (t_imp (t_not (t_B (e_whole3 (e_var rfl) e_int e_int))) fun x e => ?_) (s_next ?_))
  · rw [e, wholeD, loB, hiB, decide_eq_true h1, decide_eq_true (by omega)]
    rfl
  refine s_seq (s_ifF (t_imp (t_not (t_B (e_whole3 (e_var rfl) e_int e_int))) fun x e => ?_) (s_next ?_))
  · rw [e, wholeD, loB, hiB, decide_eq_true h2, decide_eq_true (by omega)]
    rfl
  refine s_seq (s_ifF (t_imp (t_not (t_test (e_chain e_int (e_op (e_var rfl) (e_var rfl) ro_add) ro_le (fun _ => e_int) (fun _ => ro_le)))) fun x e => ?_) (s_next ?_))
  · rw [e, decide_eq_true (by omega), decide_eq_true (by omega)]
    rfl
  exact s_retV (e_tup (ea_cons (e_var rfl) (ea_cons (e_var rfl) ea_nil)) (of_decide_eq_true rfl)) rfl
theorem c_check_counts (T : Tx K mg) : Cal P w K mg base 4 "check_counts" (spV K R_check_counts) [] := by
  refine cal_V (T.glo 16) (T.says.1.def_ 16) sc_check_counts (fun ds d h => ?_) (fun _ _ _ _ _ _ us hl => match us, hl with | [_, _], _ => rfl) fun cdv A outer s H E hRm ds d h => ?_
  · obtain ⟨a, b, rfl, _⟩ := h
    rfl
  · exact b_check_counts T cdv A outer s H E hRm ds d h
theorem e_ccounts {Γ : List S} {ta tb : TE} {a b : Int} {E : XK} (h1 : Ev K ta Γ (.int a)) (h2 : Ev K tb Γ (.int b)) (ha : 0 ≤ a) (hb : 0 ≤ b) (h3 : 1 ≤ a + b) (h4 : a + b ≤ 8) : Ev K (tCall (spV K R_check_counts) [] E (tCons ta (tCons tb tNil))) Γ (pairD (a, b)) :=
  e_call (ea_cons h1 (ea_cons h2 ea_nil)) ⟨a, b, rfl, ha, hb, h3, h4, rfl⟩
end
end JD
set_option maxHeartbeats 4000000
namespace JD
open PySem PySem.Spec PyProof.Rows L2
open C8 (Cal Mak)
/-! ### apartness -/
abbrev IP : Type := Int × Int
def Pb (p : IP) : Prop := p.1.natAbs ≤ 100 ∧ p.2.natAbs ≤ 100
def keptM (p q : IP) (s : Rat) : List SR :=
  if p.2 - q.2 = 0 then (if p.1 - q.1 = 0 then [] else [(1, none)])
  else if 1 < Rat.divInt (-(p.1 - q.1)) (p.2 - q.2) - s / (((p.2 - q.2).natAbs : Int) : Rat) then
    [(1, some (Rat.divInt (-(p.1 - q.1)) (p.2 - q.2) - s / (((p.2 - q.2).natAbs : Int) : Rat))), (maxR (Rat.divInt (-(p.1 - q.1)) (p.2 - q.2) + s / (((p.2 - q.2).natAbs : Int) : Rat)) 1, none)]
  else [(maxR (Rat.divInt (-(p.1 - q.1)) (p.2 - q.2) + s / (((p.2 - q.2).natAbs : Int) : Rat)) 1, none)]
def pairs {α β : Type} (a : List α) (b : List β) : List (α × β) := a.flatMap fun x => b.map fun y => (x, y)
def apf (s : Rat) (k : List SR) (e : IP × IP) : List SR := bothM k (keptM e.1 e.2 s)
def apartM (js ks : List IP) (s : Rat) : List SR := (pairs js ks).foldl (apf s) [(1, none)]
def gapM (p q : IP) (r : Rat) : Int := (((p.1 - q.1) * r.den + (p.2 - q.2) * r.num).natAbs : Int)
def nst (r : Rat) (a : Option (Int × (IP × IP))) (e : IP × IP) : Option (Int × (IP × IP)) := match a with
  | none => some (gapM e.1 e.2 r, e)
  | some b => if gapM e.1 e.2 r < b.1 then some (gapM e.1 e.2 r, e) else some b
def nearM (js ks : List IP) (r : Rat) : Option (Int × (IP × IP)) := (pairs js ks).foldl (nst r) none
def shareM (js ks : List IP) (r : Rat) : Option Rat := (nearM js ks r).map fun a => Rat.divInt a.1 r.den
theorem pairs_len {α β : Type} (a : List α) (b : List β) : (pairs a b).length = a.length * b.length := by
  unfold pairs
  induction a with
  | nil => simp
  | cons x a ih => rw [List.flatMap_cons, List.length_append, ih, List.length_map, List.length_cons, Nat.add_mul, Nat.one_mul, Nat.add_comm]
theorem pairs_snoc {α β : Type} (a : List α) (x : α) (b : List β) : pairs (a ++ [x]) b = pairs a b ++ b.map fun y => (x, y) := by
  unfold pairs
  rw [List.flatMap_append]
  simp
theorem ofIntRat (i : Int) : rat (i : Rat) = .tup [.int i, .int 1] := rfl
theorem pb_diff {p q : IP} (hp : Pb p) (hq : Pb q) : (p.1 - q.1).natAbs ≤ 200 ∧ (p.2 - q.2).natAbs ≤ 200 := by
  obtain ⟨h1, h2⟩ := hp
  obtain ⟨h3, h4⟩ := hq
  omega
theorem kept_sz {p q : IP} {s : Rat} (hp : Pb p) (hq : Pb q) (hs : Sr 120 s) (h : p.2 - q.2 ≠ 0) : Sr 20 (Rat.divInt (-(p.1 - q.1)) (p.2 - q.2)) ∧ Sr 20 (((p.2 - q.2).natAbs : Int) : Rat) ∧ (((p.2 - q.2).natAbs : Int) : Rat) ≠ 0 ∧ Sr 240 (s / (((p.2 - q.2).natAbs : Int) : Rat)) := by
  obtain ⟨h1, h2⟩ := pb_diff hp hq
  have a : Sr 20 (((p.2 - q.2).natAbs : Int) : Rat) := ⟨Sz.lit (by show ((((p.2 - q.2).natAbs : Int) : Rat).num).natAbs < 1000000; rw [Rat.num_intCast]; omega) (by decide), Sz.lit (by show (((((p.2 - q.2).natAbs : Int) : Rat).den : Int)).natAbs < 1000000; rw [Rat.den_intCast]; decide) (by decide)⟩
  have b : (((p.2 - q.2).natAbs : Int) : Rat) ≠ 0 := by
    intro z
    have : ((p.2 - q.2).natAbs : Int) = 0 := Rat.intCast_inj.mp (by rw [z]; rfl)
    omega
  exact ⟨Sr.divInt (Sz.lit (by omega) (by decide)) (Sz.lit (by omega) (by decide)) h, a, b, Sr.div hs (a.mono (by decide)) b⟩
theorem keptM_ok {p q : IP} {s : Rat} (hp : Pb p) (hq : Pb q) (hs : Sr 120 s) : ∀ x ∈ keptM p q s, SOk 3000 x := by
  intro x hx
  unfold keptM at hx
  split at hx
  · split at hx
    · cases hx
    · rcases List.mem_singleton.mp hx with rfl
      exact ⟨sr_one, Rat.le_refl, fun _ e => by cases e⟩
  · rename_i hn
    obtain ⟨h1, _, _, h2⟩ := kept_sz hp hq hs hn
    have lo : Sr 3000 (Rat.divInt (-(p.1 - q.1)) (p.2 - q.2) - s / (((p.2 - q.2).natAbs : Int) : Rat)) := by
      rw [Rat.sub_eq_add_neg]
      exact (Sr.add (n := 240) (h1.mono (by decide)) h2.neg).mono (by decide)
    have hi : Sr 3000 (maxR (Rat.divInt (-(p.1 - q.1)) (p.2 - q.2) + s / (((p.2 - q.2).natAbs : Int) : Rat)) 1) := maxR_sr ((Sr.add (n := 240) (h1.mono (by decide)) h2).mono (by decide)) sr_one
    have ons : SOk 3000 (maxR (Rat.divInt (-(p.1 - q.1)) (p.2 - q.2) + s / (((p.2 - q.2).natAbs : Int) : Rat)) 1, none) := ⟨hi, le_maxR.2, fun _ e => by cases e⟩
    split at hx
    · rename_i h1
      rcases List.mem_cons.mp hx with rfl | hx
      · refine ⟨sr_one, Rat.le_refl, fun h e => ?_⟩
        cases Option.some.inj e
        exact ⟨lo, Rat.le_of_lt h1, fun z => by rw [z] at h1; exact Rat.lt_irrefl h1⟩
      · rcases List.mem_singleton.mp hx with rfl
        exact ons
    · rcases List.mem_singleton.mp hx with rfl
      exact ons
theorem keptM_len (p q : IP) (s : Rat) : (keptM p q s).length ≤ 2 := by
  unfold keptM
  split
  · split <;> simp
  · split <;> simp
theorem joints_pb : ∀ (ns : List Int) (s l : Int), (∀ n ∈ ns, n = 0 ∨ n = 1) → 0 ≤ s → 0 ≤ l → s + l + ns.length ≤ 100 → ∀ p ∈ jointsM s l ns, Pb p
  | [], _, _, _, _, _, _, p, h => by cases h
  | [n], _, _, _, _, _, _, p, h => by cases h
  | n :: m :: r, s, l, h01, h1, h2, h3, p, h => by
    have hn := h01 n (List.mem_cons_self ..)
    simp only [List.length_cons] at h3
    rw [jointsM] at h
    rcases List.mem_cons.mp h with rfl | h
    · exact ⟨by show (s + 1 - n).natAbs ≤ 100; omega, by show (l + n).natAbs ≤ 100; omega⟩
    · exact joints_pb (m :: r) (s + 1 - n) (l + n) (fun k hk => h01 k (List.mem_cons_of_mem _ hk)) (by omega) (by omega) (by simp only [List.length_cons]; omega) p h
theorem pat_pb {ns : List Int} (h : patL ns) : ∀ p ∈ jointsM 0 0 ns, Pb p := joints_pb ns 0 0 h.2.2 (by decide) (by decide) (by have := h.2.1; omega)
section
variable {P : Program} {w : World} {K : PySem.W.Frag} {mg : Str → Option Value} {base : Heap}

abbrev N_kept_stretches : List Str := ["joint", "other", "share", "shorts", "longs", "centre", "breadth", "low", "high", "onward"]
theorem sc_kept_stretches : FnScope N_kept_stretches ["joint", "other", "share"] (defScope JA.s_kept_stretches) := ⟨rfl, rfl, rfl, by decide +kernel, rfl, by decide +kernel, by decide +kernel⟩
def R_kept_stretches (K : PySem.W.Frag) : List D → D → Prop := fun ds d => ∃ (p q : IP) (s : Rat), ds = [pairD p, pairD q, rat s] ∧ Pb p ∧ Pb q ∧ Sr 120 s ∧ 0 < s ∧ s ≤ 1 ∧ d = .tup ((keptM p q s).map (strD K))
theorem c_kept_stretches (T : Tx K mg) : Cal P w K mg base 5 "kept_stretches" (spV K (R_kept_stretches K)) [] := by
  refine cal_V (T.glo 25) (T.says.1.def_ 25) sc_kept_stretches (fun ds d h => ?_) (fun _ _ _ _ _ _ us hl => match us, hl with | [_, _, _], _ => rfl) fun cdv A outer s H E hRm ds d h => ?_
  · obtain ⟨p, q, s, rfl, _⟩ := h
    rfl
  · obtain ⟨p, q, sh, rfl, hp, hq, hs, h0, h1, rfl⟩ := h
    have pp : ∀ (p : IP), (pairD p).at 0 = some (.int p.1) ∧ (pairD p).at 1 = some (.int p.2) := fun _ => ⟨rfl, rfl⟩
    refine ⟨_, (pss_cons (ps_expr (C8.pe_c (c_check_share T) hRm (by decide) (by rfl) (pa_cons (pv 2) pa_nil)))
    (pss_cons (ps_set (i := 3) sc_kept_stretches.nd rfl (by first | exact Or.inl rfl | exact Or.inr rfl) (pe_op op_sub (pe_ix ix_seq (pv 0) pe_int (fun _ _ => rfl)) (pe_ix ix_seq (pv 1) pe_int (fun _ _ => rfl))))
    (pss_cons (ps_set (i := 4) sc_kept_stretches.nd rfl (by first | exact Or.inl rfl | exact Or.inr rfl) (pe_op op_sub (pe_ix ix_seq (pv 0) pe_int (fun _ _ => rfl)) (pe_ix ix_seq (pv 1) pe_int (fun _ _ => rfl))))
    (pss_cons (ps_if (pt_cmpR (op_eqD hRm.units) (pv 4) pe_int (nomark _)) (pss_one (ps_ret (pe_ifExp (pt_cmpR (op_eqD hRm.units) (pv 3) pe_int (nomark _)) (pe_tup pa_nil) (pe_tup (pa_cons (C8.pe_mk (c_Stretch T) hRm (by decide) (by rfl) (pa_cons (C8.pe_gc (v := .ref (He.ga K "ONE")) (by rfl) ⟨_, T.glo 86, rfl⟩) (pa_cons pe_non pa_nil))) pa_nil))))) pss_nil)
    (pss_cons (ps_set (i := 5) sc_kept_stretches.nd rfl (by first | exact Or.inl rfl | exact Or.inr rfl) (C8.pe_c (c_make_ratio_2 T) hRm (by decide) (by rfl) (pa_cons (pe_un un_neg (pv 3)) (pa_cons (pv 4) pa_nil))))
    (pss_cons (ps_set (i := 6) sc_kept_stretches.nd rfl (by first | exact Or.inl rfl | exact Or.inr rfl) (C8.pe_c (c_over T) hRm (by decide) (by rfl) (pa_cons (pv 2) (pa_cons (pe_tup (pa_cons (pe_callB call_absX (by rfl) (T.free 88) (by decide +kernel) (pa_cons (pv 4) pa_nil)) (pa_cons pe_int pa_nil))) pa_nil))))
    (pss_cons (ps_par (i := 7) (j := 8) (by rfl) sc_kept_stretches.nd rfl rfl (by decide) rfl rfl (pa_cons (C8.pe_c (c_minus T) hRm (by decide) (by rfl) (pa_cons (pv 5) (pa_cons (pv 6) pa_nil))) (pa_cons (C8.pe_c (c_plus T) hRm (by decide) (by rfl) (pa_cons (pv 5) (pa_cons (pv 6) pa_nil))) pa_nil)) (by rfl))
    (pss_cons (ps_set (i := 9) sc_kept_stretches.nd rfl (by first | exact Or.inl rfl | exact Or.inr rfl) (C8.pe_mk (c_Stretch T) hRm (by decide) (by rfl) (pa_cons (C8.pe_c (c_greatest_of T) hRm (by decide) (by rfl) (pa_cons (pe_tup (pa_cons (pv 8) (pa_cons (C8.pe_gc (v := .ref (He.ga K "ONE")) (by rfl) ⟨_, T.glo 86, rfl⟩) pa_nil))) pa_nil)) (pa_cons pe_non pa_nil))))
    (pss_cons (ps_if (pt_cmpR (op_eqD hRm.units) (C8.pe_c (c_compare T) hRm (by decide) (by rfl) (pa_cons (pv 7) (pa_cons (C8.pe_gc (v := .ref (He.ga K "ONE")) (by rfl) ⟨_, T.glo 86, rfl⟩) pa_nil))) pe_int (nomark _)) (pss_one (ps_ret (pe_tup (pa_cons (C8.pe_mk (c_Stretch T) hRm (by decide) (by rfl) (pa_cons (C8.pe_gc (v := .ref (He.ga K "ONE")) (by rfl) ⟨_, T.glo 86, rfl⟩) (pa_cons (pv 7) pa_nil))) (pa_cons (pv 9) pa_nil))))) pss_nil)
    (pss_one (ps_ret (pe_tup (pa_cons (pv 9) pa_nil))))))))))))), ?_⟩
    refine s_seq (s_drop (e_cshare (e_var rfl) (hs.mono (by decide)) h0 h1) ?_)
    refine s_seq (s_asgV (e_op (e_op (e_var rfl) e_int (ro_ix (pp p).1)) (e_op (e_var rfl) e_int (ro_ix (pp q).1)) ro_sub) ?_)
    refine s_seq (s_asgV (e_op (e_op (e_var rfl) e_int (ro_ix (pp p).2)) (e_op (e_var rfl) e_int (ro_ix (pp q).2)) ro_sub) ?_)
    unfold keptM
    by_cases hl : p.2 - q.2 = 0
    · rw [if_pos hl]
      refine s_seq (s_ifT (t_imp (t_test (e_op (e_var rfl) e_int ro_eq)) fun x e => e.trans (decide_eq_true hl)) ?_)
      by_cases hz : p.1 - q.1 = 0
      · rw [if_pos hz]
        exact s_ret (e_if (t_imp (t_test (e_op (e_var rfl) e_int ro_eq)) fun x e => e.trans (decide_eq_true hz)) (fun _ => e_tup ea_nil (of_decide_eq_true rfl)) fun z => by cases z) fun d hd => hd
      · rw [if_neg hz]
        exact s_ret (e_if (t_imp (t_test (e_op (e_var rfl) e_int ro_eq)) fun x e => e.trans (decide_eq_false hz)) (fun z => by cases z) fun _ => e_tup (ea_cons (e_stretch (s := (1, none)) (e_one T) e_non ⟨sr_one, Rat.le_refl, fun _ e => by cases e⟩) ea_nil) (of_decide_eq_true rfl)) fun d hd => hd
    · obtain ⟨k1, k2, k3, k4⟩ := kept_sz hp hq hs hl
      have hlo : Sr 3000 (Rat.divInt (-(p.1 - q.1)) (p.2 - q.2) - sh / (((p.2 - q.2).natAbs : Int) : Rat)) := by
        rw [Rat.sub_eq_add_neg]
        exact (Sr.add (n := 240) (k1.mono (by decide)) k4.neg).mono (by decide)
      have hhi : Sr 3000 (Rat.divInt (-(p.1 - q.1)) (p.2 - q.2) + sh / (((p.2 - q.2).natAbs : Int) : Rat)) := (Sr.add (n := 240) (k1.mono (by decide)) k4).mono (by decide)
      rw [if_neg hl]
      refine s_seq (s_ifF (t_imp (t_test (e_op (e_var rfl) e_int ro_eq)) fun x e => e.trans (decide_eq_false hl)) (s_next ?_))
      refine s_seq (s_asgV (e_call (ea_cons (e_un (e_var rfl) ru_neg) (ea_cons (e_var rfl) ea_nil)) ⟨-(p.1 - q.1), p.2 - q.2, rfl, hl, Sz.lit (by have := (pb_diff hp hq).2; omega) (by decide), rfl⟩) ?_)
      refine s_seq (s_asgV (e_over (b := (((p.2 - q.2).natAbs : Int) : Rat)) (e_var rfl) (e_tup (ea_cons (e_cb (ea_cons (e_var rfl) ea_nil) rc_abs) (ea_cons e_int ea_nil)) (of_decide_eq_true rfl)) (hs.mono (by decide)) (k2.mono (by decide)) k3) ?_)
      refine s_seq (s_par (ea_cons (e_minus (e_var rfl) (e_var rfl) (k1.mono (by decide)) (k4.mono (by decide))) (ea_cons (e_plus (e_var rfl) (e_var rfl) (k1.mono (by decide)) (k4.mono (by decide))) ea_nil)) ?_)
      refine s_seq (s_asgV (e_stretch (s := (maxR (Rat.divInt (-(p.1 - q.1)) (p.2 - q.2) + sh / (((p.2 - q.2).natAbs : Int) : Rat)) 1, none)) (e_greatM (e_var rfl) (e_one T) hhi sr_one) e_non ⟨maxR_sr hhi sr_one, le_maxR.2, fun _ e => by cases e⟩) ?_)
      by_cases hc : 1 < Rat.divInt (-(p.1 - q.1)) (p.2 - q.2) - sh / (((p.2 - q.2).natAbs : Int) : Rat)
      · rw [if_pos hc]
        refine s_seq (s_ifT (t_imp (t_test (t_gt (e_compare (e_var rfl) (e_one T) hlo sr_one) e_int)) fun x e => e.trans (decide_eq_true hc)) ?_)
        exact s_retV (e_tup (ea_cons (e_stretch (s := (1, some _)) (e_one T) (e_var rfl) ⟨sr_one, Rat.le_refl, fun h e => by cases Option.some.inj e; exact ⟨hlo, Rat.le_of_lt hc, fun z => by rw [z] at hc; exact Rat.lt_irrefl hc⟩⟩) (ea_cons (e_var rfl) ea_nil)) (of_decide_eq_true rfl)) rfl
      · rw [if_neg hc]
        refine s_seq (s_ifF (t_imp (t_test (t_gt (e_compare (e_var rfl) (e_one T) hlo sr_one) e_int)) fun x e => e.trans (decide_eq_false hc)) (s_next ?_))
        exact s_retV (e_tup (ea_cons (e_var rfl) ea_nil) (of_decide_eq_true rfl)) rfl
theorem e_kept {Γ : List S} {ta tb tc : TE} {p q : IP} {s : Rat} {E : XK} (h1 : Ev K ta Γ (pairD p)) (h2 : Ev K tb Γ (pairD q)) (h3 : Ev K tc Γ (rat s)) (hp : Pb p) (hq : Pb q) (hs : Sr 120 s) (h0 : 0 < s) (hz : s ≤ 1) : Ev K (tCall (spV K (R_kept_stretches K)) [] E (tCons ta (tCons tb (tCons tc tNil)))) Γ (.tup ((keptM p q s).map (strD K))) :=
  e_call (ea_cons h1 (ea_cons h2 (ea_cons h3 ea_nil))) ⟨p, q, s, rfl, hp, hq, hs, h0, hz, rfl⟩
theorem apf_ok {s : Rat} (hs : Sr 120 s) : ∀ (l : List (IP × IP)) (k : List SR), (∀ e ∈ l, Pb e.1 ∧ Pb e.2) → (∀ x ∈ k, SOk 3000 x) → ∀ x ∈ l.foldl (apf s) k, SOk 3000 x
  | [], k, _, h => h
  | e :: l, k, he, h => by
    rw [List.foldl_cons]
    obtain ⟨a, b⟩ := he e (List.mem_cons_self ..)
    exact apf_ok hs l _ (fun e hm => he e (List.mem_cons_of_mem _ hm)) (SOk.bothM h (keptM_ok a b hs))
theorem mem_pairs {α β : Type} {a : List α} {b : List β} {e : α × β} : e ∈ pairs a b ↔ e.1 ∈ a ∧ e.2 ∈ b := by
  unfold pairs
  simp only [List.mem_flatMap, List.mem_map]
  constructor
  · rintro ⟨x, hx, y, hy, rfl⟩
    exact ⟨hx, hy⟩
  · rintro ⟨hx, hy⟩
    exact ⟨e.1, hx, e.2, hy, rfl⟩
theorem pairs_prefix {α β : Type} (pre : List α) (x : α) (post : List α) (pre2 post2 : List β) : pairs pre (pre2 ++ post2) ++ pre2.map (fun y => (x, y)) <+: pairs (pre ++ x :: post) (pre2 ++ post2) := by
  have e : pairs (pre ++ x :: post) (pre2 ++ post2) = (pairs pre (pre2 ++ post2) ++ pre2.map fun y => (x, y)) ++ ((post2.map fun y => (x, y)) ++ pairs post (pre2 ++ post2)) := by
    unfold pairs
    simp
  rw [e]
  exact List.prefix_append _ _

abbrev N_apart_stretches : List Str := ["one", "other", "share", "firsts", "seconds", "kept", "joint", "mate"]
theorem sc_apart_stretches : FnScope N_apart_stretches ["one", "other", "share"] (defScope JA.s_apart_stretches) := ⟨rfl, rfl, rfl, by decide +kernel, rfl, by decide +kernel, by decide +kernel⟩
def R_apart_stretches (K : PySem.W.Frag) : List D → D → Prop := fun ds d => ∃ (x y : D) (ns ms : List Int) (s : Rat), ds = [x, y, rat s] ∧ x.items = some (ns.map D.int) ∧ patL ns ∧ y.items = some (ms.map D.int) ∧ patL ms ∧ Sr 120 s ∧ 0 < s ∧ s ≤ 1 ∧
  (∀ l, l <+: pairs (jointsM 0 0 ns) (jointsM 0 0 ms) → (l.foldl (apf s) [(1, none)]).length ≤ 200) ∧ d = .tup ((apartM (jointsM 0 0 ns) (jointsM 0 0 ms) s).map (strD K))
theorem c_apart_stretches (T : Tx K mg) : Cal P w K mg base 6 "apart_stretches" (spV K (R_apart_stretches K)) [] := by
  refine cal_V (T.glo 26) (T.says.1.def_ 26) sc_apart_stretches (fun ds d h => ?_) (fun _ _ _ _ _ _ us hl => match us, hl with | [_, _, _], _ => rfl) fun cdv A outer s H E hRm ds d h => ?_
  · obtain ⟨x, y, ns, ms, s, rfl, _⟩ := h
    rfl
  · obtain ⟨x, y, ns, ms, sh, rfl, hx, hns, hy, hms, hs, h0, h1, hz, rfl⟩ := h
    refine ⟨_, (pss_cons (ps_set (i := 3) sc_apart_stretches.nd rfl (by first | exact Or.inl rfl | exact Or.inr rfl) (C8.pe_c (c_pattern_joints T) hRm (by decide) (by rfl) (pa_cons (pv 0) pa_nil)))
    (pss_cons (ps_set (i := 4) sc_apart_stretches.nd rfl (by first | exact Or.inl rfl | exact Or.inr rfl) (C8.pe_c (c_pattern_joints T) hRm (by decide) (by rfl) (pa_cons (pv 1) pa_nil)))
    (pss_cons (ps_expr (C8.pe_c (c_check_share T) hRm (by decide) (by rfl) (pa_cons (pv 2) pa_nil)))
    (pss_cons (ps_set (i := 5) sc_apart_stretches.nd rfl (by first | exact Or.inl rfl | exact Or.inr rfl) (pe_tup (pa_cons (C8.pe_mk (c_Stretch T) hRm (by decide) (by rfl) (pa_cons (C8.pe_gc (v := .ref (He.ga K "ONE")) (by rfl) ⟨_, T.glo 86, rfl⟩) (pa_cons pe_non pa_nil))) pa_nil)))
    (pss_cons (ps_for PassesOwn.never rfl (pi_tup (pv 3)) (pg_name (i := 6) sc_apart_stretches.nd rfl (by first | exact Or.inl rfl | exact Or.inr rfl)) (pss_one (ps_for PassesOwn.never rfl (pi_tup (pv 4)) (pg_name (i := 7) sc_apart_stretches.nd rfl (by first | exact Or.inl rfl | exact Or.inr rfl)) (pss_one (ps_if (pt_cmpR (op_gt) (pe_callB call_lenX (by rfl) (T.free 95) (by decide +kernel) (pa_cons (pv 5) pa_nil)) pe_int (nomark _)) (pss_one (ps_set (i := 5) sc_apart_stretches.nd rfl (by first | exact Or.inl rfl | exact Or.inr rfl) (C8.pe_c (c_both_stretches T) hRm (by decide) (by rfl) (pa_cons (pv 5) (pa_cons (C8.pe_c (c_kept_stretches T) hRm (by decide) (by rfl) (pa_cons (pv 6) (pa_cons (pv 7) (pa_cons (pv 2) pa_nil)))) pa_nil))))) pss_nil)))))
    (pss_one (ps_ret (pv 5)))))))), ?_⟩
    refine s_seq (s_asgV (e_joints (e_var rfl) hx hns) ?_)
    refine s_seq (s_asgV (e_joints (e_var rfl) hy hms) ?_)
    have hpj := pat_pb hns
    have hpk := pat_pb hms
    unfold apartM
    generalize jointsM 0 0 ns = js at *
    generalize jointsM 0 0 ms = ks at *
    have hpp : ∀ l, l <+: pairs js ks → ∀ e ∈ l, Pb e.1 ∧ Pb e.2 := fun l hl e he => by
      have := mem_pairs.mp (hl.subset he)
      exact ⟨hpj _ this.1, hpk _ this.2⟩
    have hok : ∀ l, l <+: pairs js ks → ∀ x ∈ l.foldl (apf sh) [(1, none)], SOk 3000 x := fun l hl => apf_ok hs l _ (hpp l hl) fun x hx => by
      rcases List.mem_singleton.mp hx with rfl
      exact ⟨sr_one, Rat.le_refl, fun _ e => by cases e⟩
    refine s_seq (s_drop (e_cshare (e_var rfl) (hs.mono (by decide)) h0 h1) ?_)
    refine s_seq (s_asgV (e_tup (ea_cons (e_stretch (s := (1, none)) (e_one T) e_non ⟨sr_one, Rat.le_refl, fun _ e => by cases e⟩) ea_nil) (of_decide_eq_true rfl)) ?_)
    refine s_mid (fun Γ => ∃ u v, Γ = [.val x, .val y, .val (rat sh), .val (.tup (js.map pairD)), .val (.tup (ks.map pairD)), .val (.tup (((pairs js ks).foldl (apf sh) [(1, none)]).map (strD K))), u, v]) ?_ fun Γ' hΓ => ?_
    · refine s_forL (vs := [6]) js pairD (fun pre Γ => ∃ u v, Γ = [.val x, .val y, .val (rat sh), .val (.tup (js.map pairD)), .val (.tup (ks.map pairD)), .val (.tup (((pairs pre ks).foldl (apf sh) [(1, none)]).map (strD K))), u, v]) (i_tup (e_var rfl)) ⟨.no, .no, rfl⟩ (fun pre p post Γ1 e iv => ⟨_, g_name, ?_⟩) fun Γ1 iv => iv
      obtain ⟨u, v, rfl⟩ := iv
      refine s_forL (vs := [7]) ks pairD (fun pre2 Γ => ∃ v, Γ = [.val x, .val y, .val (rat sh), .val (.tup (js.map pairD)), .val (.tup (ks.map pairD)), .val (.tup (((pairs pre ks ++ pre2.map fun q => (p, q)).foldl (apf sh) [(1, none)]).map (strD K))), .val (pairD p), v]) (i_tup (e_var rfl)) ⟨v, by rw [List.map_nil, List.append_nil]; rfl⟩ (fun pre2 q post2 Γ1 e2 iv => ⟨_, g_name, ?_⟩) fun Γ1 iv => ?_
      · obtain ⟨v, rfl⟩ := iv
        have hpre : pairs pre ks ++ pre2.map (fun q => (p, q)) <+: pairs js ks := by
          rw [e, e2]
          exact pairs_prefix pre p post pre2 (q :: post2)
        have hk := hok _ hpre
        have hl := hz _ hpre
        have hp : Pb p := hpj p (by rw [e]; simp)
        have hq : Pb q := hpk q (by rw [e2]; simp)
        rw [show (pairs pre ks ++ (pre2 ++ [q]).map fun q => (p, q)).foldl (apf sh) [(1, none)] = bothM ((pairs pre ks ++ pre2.map fun q => (p, q)).foldl (apf sh) [(1, none)]) (keptM p q sh) by rw [List.map_append, ← List.append_assoc, List.foldl_append]; rfl]
        generalize (pairs pre ks ++ pre2.map fun q => (p, q)).foldl (apf sh) [(1, none)] = kp at *
        refine s_ifB (t_test (e_op (e_cb (ea_cons (e_var rfl) ea_nil) (rc_len (n := kp.length) (by simp [D.len]))) e_int ro_gt)) (fun c => ?_) fun c => ?_
        · exact s_asgV (e_both (e_var rfl) (e_kept (e_var rfl) (e_var rfl) (e_var rfl) hp hq hs h0 h1) hl (Nat.le_trans (keptM_len _ _ _) (by decide)) hk (keptM_ok hp hq hs)) ⟨_, Le.refl _, _, rfl⟩
        · have c' : ¬ (0 : Int) < (kp.length : Int) := of_decide_eq_false c
          have : kp = [] := List.length_eq_zero_iff.mp (by omega)
          subst this
          exact s_next ⟨_, Le.refl _, _, rfl⟩
      · obtain ⟨v, rfl⟩ := iv
        rw [pairs_snoc]
        exact ⟨_, Le.refl _, _, _, rfl⟩
    · obtain ⟨u, v, rfl⟩ := hΓ
      exact s_retV (e_var rfl) rfl

abbrev N_gap_between : List Str := ["joint", "other", "ratio"]
theorem sc_gap_between : FnScope N_gap_between ["joint", "other", "ratio"] (defScope JA.s_gap_between) := ⟨rfl, rfl, rfl, by decide +kernel, rfl, by decide +kernel, by decide +kernel⟩
def R_gap_between : List D → D → Prop := fun ds d => ∃ (p q : IP) (r : Rat), ds = [pairD p, pairD q, rat r] ∧ Pb p ∧ Pb q ∧ Sr 3000 r ∧ d = .int (gapM p q r)
theorem c_gap_between (T : Tx K mg) : Cal P w K mg base 1 "gap_between" (spV K R_gap_between) [] := by
  refine cal_V (T.glo 27) (T.says.1.def_ 27) sc_gap_between (fun ds d h => ?_) (fun _ _ _ _ _ _ us hl => match us, hl with | [_, _, _], _ => rfl) fun cdv A outer s H E hRm ds d h => ?_
  · obtain ⟨p, q, s, rfl, _⟩ := h
    rfl
  · obtain ⟨p, q, r, rfl, hp, hq, hr, rfl⟩ := h
    have pp : ∀ (p : IP), (pairD p).at 0 = some (.int p.1) ∧ (pairD p).at 1 = some (.int p.2) := fun _ => ⟨rfl, rfl⟩
    obtain ⟨b1, b2⟩ := pb_diff hp hq
    refine ⟨_, (pss_one (ps_ret (pe_callB call_absX (by rfl) (T.free 88) (by decide +kernel) (pa_cons (pe_op op_addX (pe_op op_mulX (pe_op op_sub (pe_ix ix_seq (pv 0) pe_int (fun _ _ => rfl)) (pe_ix ix_seq (pv 1) pe_int (fun _ _ => rfl))) (pe_ix ix_seq (pv 2) pe_int (fun _ _ => rfl))) (pe_op op_mulX (pe_op op_sub (pe_ix ix_seq (pv 0) pe_int (fun _ _ => rfl)) (pe_ix ix_seq (pv 1) pe_int (fun _ _ => rfl))) (pe_ix ix_seq (pv 2) pe_int (fun _ _ => rfl)))) pa_nil)))), ?_⟩
    exact s_retV (e_cb (ea_cons (e_op (e_op (e_op (e_op (e_var rfl) e_int (ro_ix (pp p).1)) (e_op (e_var rfl) e_int (ro_ix (pp q).1)) ro_sub) (e_op (e_var rfl) e_int (ro_ix rfl)) (ro_mul (Sz.lit (by omega) (by decide)) (hr.2.mono (by decide)))) (e_op (e_op (e_op (e_var rfl) e_int (ro_ix (pp p).2)) (e_op (e_var rfl) e_int (ro_ix (pp q).2)) ro_sub) (e_op (e_var rfl) e_int (ro_ix rfl)) (ro_mul (Sz.lit (by omega) (by decide)) (hr.1.mono (by decide)))) ro_add) ea_nil) rc_abs) rfl
theorem e_gap {Γ : List S} {ta tb tc : TE} {p q : IP} {r : Rat} {E : XK} (h1 : Ev K ta Γ (pairD p)) (h2 : Ev K tb Γ (pairD q)) (h3 : Ev K tc Γ (rat r)) (hp : Pb p) (hq : Pb q) (hs : Sr 3000 r) : Ev K (tCall (spV K R_gap_between) [] E (tCons ta (tCons tb (tCons tc tNil)))) Γ (.int (gapM p q r)) :=
  e_call (ea_cons h1 (ea_cons h2 (ea_cons h3 ea_nil))) ⟨p, q, r, rfl, hp, hq, hs, rfl⟩
def nearD : Option (Int × (IP × IP)) → D
  | none => .non
  | some a => .tup [pairD a.2.1, pairD a.2.2]
def leastD : Option (Int × (IP × IP)) → D
  | none => .non
  | some a => .int a.1

abbrev N_nearest_joints : List Str := ["one", "other", "ratio", "nearest", "least", "seconds", "joint", "mate", "gap"]
theorem sc_nearest_joints : FnScope N_nearest_joints ["one", "other", "ratio"] (defScope JA.s_nearest_joints) := ⟨rfl, rfl, rfl, by decide +kernel, rfl, by decide +kernel, by decide +kernel⟩
def R_nearest_joints : List D → D → Prop := fun ds d => ∃ (x y : D) (ns ms : List Int) (r : Rat), ds = [x, y, rat r] ∧ x.items = some (ns.map D.int) ∧ patL ns ∧ y.items = some (ms.map D.int) ∧ patL ms ∧ Sr 3000 r ∧ d = nearD (nearM (jointsM 0 0 ns) (jointsM 0 0 ms) r)
theorem c_nearest_joints (T : Tx K mg) : Cal P w K mg base 6 "nearest_joints" (spV K R_nearest_joints) [] := by
  refine cal_V (T.glo 28) (T.says.1.def_ 28) sc_nearest_joints (fun ds d h => ?_) (fun _ _ _ _ _ _ us hl => match us, hl with | [_, _, _], _ => rfl) fun cdv A outer s H E hRm ds d h => ?_
  · obtain ⟨x, y, ns, ms, s, rfl, _⟩ := h
    rfl
  · obtain ⟨x, y, ns, ms, r, rfl, hx, hns, hy, hms, hr, rfl⟩ := h
    refine ⟨_, (pss_cons (ps_set (i := 3) sc_nearest_joints.nd rfl (by first | exact Or.inl rfl | exact Or.inr rfl) pe_non)
    (pss_cons (ps_set (i := 4) sc_nearest_joints.nd rfl (by first | exact Or.inl rfl | exact Or.inr rfl) pe_non)
    (pss_cons (ps_set (i := 5) sc_nearest_joints.nd rfl (by first | exact Or.inl rfl | exact Or.inr rfl) (C8.pe_c (c_pattern_joints T) hRm (by decide) (by rfl) (pa_cons (pv 1) pa_nil)))
    (pss_cons (ps_for PassesOwn.never rfl (pi_tup (C8.pe_c (c_pattern_joints T) hRm (by decide) (by rfl) (pa_cons (pv 0) pa_nil))) (pg_name (i := 6) sc_nearest_joints.nd rfl (by first | exact Or.inl rfl | exact Or.inr rfl)) (pss_one (ps_for PassesOwn.never rfl (pi_tup (pv 5)) (pg_name (i := 7) sc_nearest_joints.nd rfl (by first | exact Or.inl rfl | exact Or.inr rfl)) (pss_cons (ps_set (i := 8) sc_nearest_joints.nd rfl (by first | exact Or.inl rfl | exact Or.inr rfl) (C8.pe_c (c_gap_between T) hRm (by decide) (by rfl) (pa_cons (pv 6) (pa_cons (pv 7) (pa_cons (pv 2) pa_nil)))))
    (pss_one (ps_if (PW.pt (pw_or (pt_cmpR op_isNX (pv 4) pe_non (nomark _)) (pw_or1 (pt_cmpR (op_lt) (pv 8) (pv 4) (nomark _))))) (pss_cons (ps_set (i := 4) sc_nearest_joints.nd rfl (by first | exact Or.inl rfl | exact Or.inr rfl) (pv 8))
    (pss_one (ps_set (i := 3) sc_nearest_joints.nd rfl (by first | exact Or.inl rfl | exact Or.inr rfl) (pe_tup (pa_cons (pv 6) (pa_cons (pv 7) pa_nil)))))) pss_nil))))))
    (pss_one (ps_ret (pv 3))))))), ?_⟩
    refine s_seq (s_asgV e_non ?_)
    refine s_seq (s_asgV e_non ?_)
    refine s_seq (s_asgV (e_joints (e_var rfl) hy hms) ?_)
    have hpj := pat_pb hns
    have hpk := pat_pb hms
    have ej : Ev K _ [.val x, .val y, .val (rat r), .val .non, .val .non, .val (.tup ((jointsM 0 0 ms).map pairD)), .no, .no, .no] _ := e_joints (E := C8.E0) (e_var (i := 0) rfl) hx hns
    unfold nearM
    generalize jointsM 0 0 ns = js at *
    generalize jointsM 0 0 ms = ks at *
    refine s_mid (fun Γ => ∃ u v t, Γ = [.val x, .val y, .val (rat r), .val (nearD ((pairs js ks).foldl (nst r) none)), .val (leastD ((pairs js ks).foldl (nst r) none)), .val (.tup (ks.map pairD)), u, v, t]) ?_ fun Γ' hΓ => ?_
    · refine s_forL (vs := [6]) js pairD (fun pre Γ => ∃ u v t, Γ = [.val x, .val y, .val (rat r), .val (nearD ((pairs pre ks).foldl (nst r) none)), .val (leastD ((pairs pre ks).foldl (nst r) none)), .val (.tup (ks.map pairD)), u, v, t]) (i_tup ej) ⟨.no, .no, .no, rfl⟩ (fun pre p post Γ1 e iv => ⟨_, g_name, ?_⟩) fun Γ1 iv => iv
      obtain ⟨u, v, t, rfl⟩ := iv
      refine s_forL (vs := [7]) ks pairD (fun pre2 Γ => ∃ v t, Γ = [.val x, .val y, .val (rat r), .val (nearD ((pairs pre ks ++ pre2.map fun q => (p, q)).foldl (nst r) none)), .val (leastD ((pairs pre ks ++ pre2.map fun q => (p, q)).foldl (nst r) none)), .val (.tup (ks.map pairD)), .val (pairD p), v, t]) (i_tup (e_var rfl)) ⟨v, t, by rw [List.map_nil, List.append_nil]; rfl⟩ (fun pre2 q post2 Γ1 e2 iv => ⟨_, g_name, ?_⟩) fun Γ1 iv => ?_
      · obtain ⟨v, t, rfl⟩ := iv
        have hp : Pb p := hpj p (by rw [e]; simp)
        have hq : Pb q := hpk q (by rw [e2]; simp)
        rw [show (pairs pre ks ++ (pre2 ++ [q]).map fun q => (p, q)).foldl (nst r) none = nst r ((pairs pre ks ++ pre2.map fun q => (p, q)).foldl (nst r) none) (p, q) by rw [List.map_append, ← List.append_assoc, List.foldl_append]; rfl]
        generalize (pairs pre ks ++ pre2.map fun q => (p, q)).foldl (nst r) none = kp at *
        refine s_seq (s_asgV (e_gap (e_var rfl) (e_var rfl) (e_var rfl) hp hq hr) ?_)
        cases kp with
        | none =>
          refine s_ifT (t_or (a := true) (b := true) (t_test (e_op (x := .non) (e_var rfl) e_non ro_isN)) fun z => by cases z) ?_
          refine s_seq (s_asgV (e_var rfl) (s_asgV (e_tup (ea_cons (e_var rfl) (ea_cons (e_var rfl) ea_nil)) (of_decide_eq_true rfl)) ⟨_, Le.refl _, _, _, rfl⟩))
        | some b =>
          refine s_ifB (t_or (a := false) (t_test (e_op (x := .int b.1) (e_var rfl) e_non ro_isN)) fun z => t_test (e_op (e_var rfl) (y := .int b.1) (e_var rfl) ro_lt)) (fun c => ?_) fun c => ?_
          · have c' : gapM p q r < b.1 := by simpa using c
            have eN : nst r (some b) (p, q) = some (gapM p q r, (p, q)) := if_pos c'
            rw [eN]
            refine s_seq (s_asgV (e_var rfl) (s_asgV (e_tup (ea_cons (e_var rfl) (ea_cons (e_var rfl) ea_nil)) (of_decide_eq_true rfl)) ⟨_, Le.refl _, _, _, rfl⟩))
          · have c' : ¬ gapM p q r < b.1 := by simpa using c
            have eN : nst r (some b) (p, q) = some b := if_neg c'
            rw [eN]
            exact s_next ⟨_, Le.refl _, _, _, rfl⟩
      · obtain ⟨v, t, rfl⟩ := iv
        rw [pairs_snoc]
        exact ⟨_, Le.refl _, _, _, _, rfl⟩
    · obtain ⟨u, v, t, rfl⟩ := hΓ
      exact s_retV (e_var rfl) rfl
theorem nst_gap {r : Rat} : ∀ (l : List (IP × IP)) (a : Option (Int × (IP × IP))), (∀ b, a = some b → b.1 = gapM b.2.1 b.2.2 r) → ∀ b, l.foldl (nst r) a = some b → b.1 = gapM b.2.1 b.2.2 r ∧ (b.2 ∈ l ∨ a = some b)
  | [], a, h, b, e => ⟨h b e, .inr e⟩
  | x :: l, a, h, b, e => by
    rw [List.foldl_cons] at e
    have hx : ∀ b, nst r a x = some b → b = (gapM x.1 x.2 r, x) ∨ a = some b := fun b e => by
      cases a with
      | none => exact .inl (Option.some.inj e).symm
      | some c =>
        have e' : (if gapM x.1 x.2 r < c.1 then some (gapM x.1 x.2 r, x) else some c) = some b := e
        split at e'
        · exact .inl (Option.some.inj e').symm
        · exact .inr e'
    obtain ⟨k1, k2⟩ := nst_gap l (nst r a x) (fun b e => by
      rcases hx b e with rfl | h'
      · rfl
      · exact h b h') b e
    refine ⟨k1, ?_⟩
    rcases k2 with k2 | k2
    · exact .inl (List.mem_cons_of_mem _ k2)
    · rcases hx b k2 with rfl | h'
      · exact .inl (List.mem_cons_self ..)
      · exact .inr h'
theorem near_at {js ks : List IP} {r : Rat} {b : Int × (IP × IP)} (h : nearM js ks r = some b) : b.1 = gapM b.2.1 b.2.2 r ∧ b.2.1 ∈ js ∧ b.2.2 ∈ ks := by
  obtain ⟨h1, h2⟩ := nst_gap (pairs js ks) none (fun _ e => by cases e) b h
  rcases h2 with h2 | h2
  · exact ⟨h1, mem_pairs.mp h2⟩
  · cases h2

abbrev N_share_at : List Str := ["one", "other", "ratio", "nearest"]
theorem sc_share_at : FnScope N_share_at ["one", "other", "ratio"] (defScope JA.s_share_at) := ⟨rfl, rfl, rfl, by decide +kernel, rfl, by decide +kernel, by decide +kernel⟩
def R_share_at : List D → D → Prop := fun ds d => ∃ (x y : D) (ns ms : List Int) (r : Rat), ds = [x, y, rat r] ∧ x.items = some (ns.map D.int) ∧ patL ns ∧ y.items = some (ms.map D.int) ∧ patL ms ∧ Sr 3000 r ∧ 1 < r ∧ d = ratO (shareM (jointsM 0 0 ns) (jointsM 0 0 ms) r)
theorem c_share_at (T : Tx K mg) : Cal P w K mg base 7 "share_at" (spV K R_share_at) [] := by
  refine cal_V (T.glo 29) (T.says.1.def_ 29) sc_share_at (fun ds d h => ?_) (fun _ _ _ _ _ _ us hl => match us, hl with | [_, _, _], _ => rfl) fun cdv A outer s H E hRm ds d h => ?_
  · obtain ⟨x, y, ns, ms, s, rfl, _⟩ := h
    rfl
  · obtain ⟨x, y, ns, ms, r, rfl, hx, hns, hy, hms, hr, h1, rfl⟩ := h
    refine ⟨_, (pss_cons (ps_expr (C8.pe_c (c_pattern_joints T) hRm (by decide) (by rfl) (pa_cons (pv 0) pa_nil)))
    (pss_cons (ps_expr (C8.pe_c (c_pattern_joints T) hRm (by decide) (by rfl) (pa_cons (pv 1) pa_nil)))
    (pss_cons (ps_expr (C8.pe_c (c_check_brick_ratio T) hRm (by decide) (by rfl) (pa_cons (pv 2) pa_nil)))
    (pss_cons (ps_set (i := 3) sc_share_at.nd rfl (by first | exact Or.inl rfl | exact Or.inr rfl) (C8.pe_c (c_nearest_joints T) hRm (by decide) (by rfl) (pa_cons (pv 0) (pa_cons (pv 1) (pa_cons (pv 2) pa_nil)))))
    (pss_cons (ps_if (pt_cmpR op_isNX (pv 3) pe_non (nomark _)) (pss_one (ps_ret pe_non)) pss_nil)
    (pss_one (ps_ret (C8.pe_c (c_make_ratio_2 T) hRm (by decide) (by rfl) (pa_cons (C8.pe_c (c_gap_between T) hRm (by decide) (by rfl) (pa_cons (pe_ix ix_seq (pv 3) pe_int (fun _ _ => rfl)) (pa_cons (pe_ix ix_seq (pv 3) pe_int (fun _ _ => rfl)) (pa_cons (pv 2) pa_nil)))) (pa_cons (pe_ix ix_seq (pv 2) pe_int (fun _ _ => rfl)) pa_nil)))))))))), ?_⟩
    refine s_seq (s_drop (e_joints (e_var rfl) hx hns) ?_)
    refine s_seq (s_drop (e_joints (e_var rfl) hy hms) ?_)
    refine s_seq (s_drop (e_call (ea_cons (e_var rfl) ea_nil) ⟨r, rfl, hr, h1, rfl⟩) ?_)
    refine s_seq (s_asgV (e_call (ea_cons (e_var rfl) (ea_cons (e_var rfl) (ea_cons (e_var rfl) ea_nil))) ⟨x, y, ns, ms, r, rfl, hx, hns, hy, hms, hr, rfl⟩) ?_)
    unfold shareM
    cases q : nearM (jointsM 0 0 ns) (jointsM 0 0 ms) r with
    | none =>
      refine s_seq (s_ifT (t_test (e_op (x := .non) (e_var rfl) e_non ro_isN)) ?_)
      exact s_retV e_non rfl
    | some b =>
      obtain ⟨k1, k2, k3⟩ := near_at q
      refine s_seq (s_ifF (t_test (e_op (x := .tup [pairD b.2.1, pairD b.2.2]) (e_var rfl) e_non ro_isN)) (s_next ?_))
      refine s_retV (e_call (ea_cons (e_gap (p := b.2.1) (q := b.2.2) (e_op (x := .tup [pairD b.2.1, pairD b.2.2]) (e_var rfl) e_int (ro_ix rfl)) (e_op (x := .tup [pairD b.2.1, pairD b.2.2]) (e_var rfl) e_int (ro_ix rfl)) (e_var rfl) (pat_pb hns _ k2) (pat_pb hms _ k3) hr) (ea_cons (e_op (e_var rfl) e_int (ro_ix rfl)) ea_nil)) ⟨_, _, rfl, by have := den_pos r; omega, hr.2.mono (by decide), rfl⟩) ?_
      show rat _ = rat (Rat.divInt b.1 r.den)
      rw [k1]
end
end JD
set_option maxHeartbeats 4000000
namespace JD
open PySem PySem.Spec PyProof.Rows L2
open C8 (Cal Mak)
/-! ### rows -/
def isUp (r : List Int) (at' : Nat) : Bool := decide (r[at']?.getD 0 < r[at' + 1]?.getD 0)
def upLongs (r : List Int) (at' : Nat) : Int := (r.drop (at' + 1)).sum - 1
def upRow (r : List Int) (at' : Nat) : List Int := r.take at' ++ [1] ++ List.replicate ((r.length : Int) - at' - 1 - upLongs r at').toNat 0 ++ List.replicate (upLongs r at').toNat 1
def nextRow (r : List Int) : Option (List Int) := ((List.range (r.length - 1)).reverse.find? (isUp r)).map (upRow r)
def lstO : Option (List Int) → D
  | none => .non
  | some r => .lst (r.map D.int)
section
variable {K : PySem.W.Frag} {Γ : List S}
theorem i_rev {te : TE} {n : Nat} (hn : n ≤ 1000000) (h : Ev K te Γ (.int n)) : Ei K (iRevR (tRg1 te)) Γ ((List.range n).reverse.map fun (i : Nat) => D.int (i : Int)) := fun hd fr B H σ R S0 k =>
  h hd fr B H σ _ S0 fun B1 H1 v x g r p => ⟨(n : Int), (p ▸ r).ofInt, by decide, by decide, by omega, by omega, k B1 H1 _ g fun B2 H2 s1 s2 => by
    have en : ((n : Int) - 0).toNat = n := by omega
    rw [en]
    refine ⟨fun i d e => ?_, ?_⟩
    · rw [List.getElem?_map] at e
      cases q : (List.range n).reverse[i]? with
      | none => rw [q] at e; cases e
      | some m =>
        rw [q] at e
        have hi : i < n := by
          have := (List.getElem?_eq_some_iff.mp q).1
          simpa using this
        rw [List.getElem?_reverse (by simpa using hi)] at q
        have hm : m = n - 1 - i := by
          simp at q
          rw [List.getElem?_range (by omega)] at q
          exact (Option.some.inj q).symm
        refine ⟨hi, fun x H3 z => ?_⟩
        obtain ⟨rfl, rfl⟩ := z
        refine ⟨B2, Go.refl s2 hd_none, ?_⟩
        rw [← Option.some.inj e]
        have : (0 + (n : Int) - 1 + (i : Nat) * -1) = ((m : Nat) : Int) := by omega
        rw [this]
        exact .int _
    · show n ≤ _
      simp⟩
end
section
variable {P : Program} {w : World} {K : PySem.W.Frag} {mg : Str → Option Value} {base : Heap}

abbrev N_row_after : List Str := ["row", "at", "longs", "shorts"]
theorem sc_row_after : FnScope N_row_after ["row"] (defScope JA.s_row_after) := ⟨rfl, rfl, rfl, by decide +kernel, rfl, by decide +kernel, by decide +kernel⟩
def R_row_after : List D → D → Prop := fun ds d => ∃ r : List Int, ds = [.lst (r.map D.int)] ∧ r ≠ [] ∧ r.length ≤ 50 ∧ (∀ n ∈ r, n = 0 ∨ n = 1) ∧ d = lstO (nextRow r)
theorem c_row_after (T : Tx K mg) : Cal P w K mg base 1 "row_after" (spV K R_row_after) [] := by
  refine cal_V (T.glo 17) (T.says.1.def_ 17) sc_row_after (fun ds d h => ?_) (fun _ _ _ _ _ _ us hl => match us, hl with | [_], _ => rfl) fun cdv A outer s H E hRm ds d h => ?_
  · obtain ⟨r, rfl, _⟩ := h
    rfl
  · obtain ⟨r, rfl, hne, hl, h01, rfl⟩ := h
    refine ⟨_, (pss_cons (ps_for PassesOwn.never rfl (pi_revR (by rfl) (T.free 101) (prg_1 (by rfl) (T.free 100) (pe_op op_sub (pe_callB call_lenX (by rfl) (T.free 95) (by decide +kernel) (pa_cons (pv 0) pa_nil)) pe_int))) (pg_name (i := 1) sc_row_after.nd rfl (by first | exact Or.inl rfl | exact Or.inr rfl)) (pss_one (ps_if (pt_cmpR (op_lt) (pe_ix ix_seq (pv 0) (pv 1) (fun _ _ => rfl)) (pe_ix ix_seq (pv 0) (pe_op op_addX (pv 1) pe_int) (fun _ _ => rfl)) (nomark _)) (pss_cons (ps_set (i := 2) sc_row_after.nd rfl (by first | exact Or.inl rfl | exact Or.inr rfl) (pe_op op_sub (pe_callB (cr_sumX rfl) (by rfl) (T.free 103) (by decide +kernel) (pa_cons (pe_slice sl_X (pv 0) (po_some (pe_op op_addX (pv 1) pe_int)) po_none) pa_nil)) pe_int))
    (pss_cons (ps_set (i := 3) sc_row_after.nd rfl (by first | exact Or.inl rfl | exact Or.inr rfl) (pe_op op_sub (pe_op op_sub (pe_op op_sub (pe_callB call_lenX (by rfl) (T.free 95) (by decide +kernel) (pa_cons (pv 0) pa_nil)) (pv 1)) pe_int) (pv 2)))
    (pss_one (ps_ret (pe_op op_addX (pe_op op_addX (pe_op op_addX (pe_slice sl_X (pv 0) po_none (po_some (pv 1))) (pe_lst (pa_cons pe_int pa_nil))) (pe_op op_mulX (pe_lst (pa_cons pe_int pa_nil)) (pv 3))) (pe_op op_mulX (pe_lst (pa_cons pe_int pa_nil)) (pv 2))))))) pss_nil)))
    (pss_one (ps_ret pe_non))), ?_⟩
    have hlr : Rc K (rLenX K) [D.lst (r.map D.int)] fun u => u = .int (r.length : Int) := rc_len (n := r.length) (by simp [D.len])
    have h0 : 1 ≤ r.length := by
      cases r with
      | nil => exact absurd rfl hne
      | cons => simp
    have hat : ∀ i : Nat, i < r.length → (D.lst (r.map D.int)).at (i : Int) = some (.int (r[i]?.getD 0)) := fun i hi => by
      show atI (r.map D.int) (i : Int) = _
      rw [atI_nat (by rw [List.length_map]; exact hi), List.getElem?_map, List.getElem?_eq_getElem hi]
      rfl
    refine s_mid (fun Γ => (∀ i ∈ List.range (r.length - 1), isUp r i = false) ∧ ∃ a b c, Γ = [.val (.lst (r.map D.int)), a, b, c]) ?_ fun Γ' hΓ => ?_
    · refine s_forL (vs := [1]) (List.range (r.length - 1)).reverse (fun (i : Nat) => D.int (i : Int)) (fun pre Γ => (∀ i ∈ pre, isUp r i = false) ∧ ∃ a b c, Γ = [.val (.lst (r.map D.int)), a, b, c]) (i_rev (by omega) ((e_op (e_cb (ea_cons (e_var rfl) ea_nil) hlr) e_int ro_sub).cast (by congr 1; omega))) ⟨by simp, .no, .no, .no, rfl⟩ (fun pre i post Γ1 e iv => ⟨_, g_name, ?_⟩) fun Γ1 iv => ?_
      · obtain ⟨hpre, a, b, c, rfl⟩ := iv
        have hi : i < r.length - 1 := by
          have : i ∈ (List.range (r.length - 1)).reverse := by rw [e]; simp
          simpa using this
        have hat1 : (D.lst (r.map D.int)).at ((i : Int) + 1) = some (.int (r[i + 1]?.getD 0)) := by
          have := hat (i + 1) (by omega)
          rw [← this]
          congr 1
        refine s_ifB (t_test (e_op (e_op (e_var rfl) (e_var rfl) (ro_ix (hat i (by omega)))) (e_op (e_var rfl) (e_op (e_var rfl) e_int ro_add) (ro_ix hat1)) ro_lt)) (fun c => ?_) fun c => s_next ⟨_, Le.refl _, ?_, _, _, _, rfl⟩
        · have hup : isUp r i = true := c
          have hs01 : ∀ n ∈ r.drop (i + 1), n = 0 ∨ n = 1 := fun n hn => h01 n (List.mem_of_mem_drop hn)
          have cutT : cutD (r.map D.int) none (some (i : Int)) = (r.take i).map D.int := by
            unfold cutD
            rw [HT.sIx_nat, HT.sIx_none, List.length_map, Nat.sub_zero, Nat.min_eq_left (show i ≤ r.length by omega), List.drop_zero, List.map_take]
          have cutR : cutD (r.map D.int) (some ((i : Int) + 1)) none = (r.drop (i + 1)).map D.int := by
            unfold cutD
            rw [show ((i : Int) + 1) = ((i + 1 : Nat) : Int) by omega, HT.sIx_nat, HT.sIx_none, List.length_map, Nat.min_eq_left (show i + 1 ≤ r.length by omega), List.map_drop]
            exact List.take_of_length_le (by rw [List.length_drop, List.length_map]; exact Nat.le_refl _)
          have b0 : (r.drop (i + 1)).length ≤ 50 := by rw [List.length_drop]; omega
          have bs := sum01 hs01
          refine s_seq (s_asgV (e_op (e_cb (ea_cons (e_sl (e_var rfl) (o_some (e_op (e_var rfl) e_int ro_add)) o_none rs_lst) ea_nil) (by rw [cutR]; exact rc_sum rfl)) e_int ro_sub) ?_)
          refine s_seq (s_asgV (e_op (e_op (e_op (e_cb (ea_cons (e_var rfl) ea_nil) hlr) (e_var rfl) ro_sub) e_int ro_sub) (e_var rfl) ro_sub) ?_)
          have eR : nextRow r = some (upRow r i) := by
            unfold nextRow
            have : (List.range (r.length - 1)).reverse.find? (isUp r) = some i := by
              rw [e, List.find?_append]
              have : pre.find? (isUp r) = none := List.find?_eq_none.mpr fun x hx => by rw [hpre x hx]; decide
              rw [this]
              simp [hup]
            rw [this]
            rfl
          rw [eR]
          have fl : ∀ (n : Nat) (d : D), (List.replicate n [d]).flatten = List.replicate n d := fun n d => by
            induction n with
            | zero => rfl
            | succ n ih => rw [List.replicate_succ, List.flatten_cons, ih]; rfl
          refine s_ret (Ev.cast (e_op (e_op (e_op (Ev.cast (e_sl (e_var rfl) o_none (o_some (e_var rfl)) rs_lst) (congrArg D.lst cutT)) (e_lst (ea_cons e_int ea_nil) (of_decide_eq_true rfl)) (ro_cat ?_)) (e_op (e_lst (ea_cons e_int ea_nil) (of_decide_eq_true rfl)) (e_var rfl) (ro_rep (of_decide_eq_true rfl) ?_)) (ro_cat ?_)) (e_op (e_lst (ea_cons e_int ea_nil) (of_decide_eq_true rfl)) (e_var rfl) (ro_rep (of_decide_eq_true rfl) ?_)) (ro_cat ?_)) ?_) fun d hd => hd
          · rw [List.length_map, List.length_take, List.length_singleton]
            omega
          · omega
          · rw [fl, List.length_append, List.length_map, List.length_take, List.length_singleton, List.length_replicate]
            omega
          · omega
          · rw [fl, fl, List.length_append, List.length_append, List.length_map, List.length_take, List.length_singleton, List.length_replicate, List.length_replicate]
            omega
          · rw [fl, fl]
            show D.lst _ = D.lst ((upRow r i).map D.int)
            unfold upRow upLongs
            simp only [List.map_append, List.map_replicate, List.map_cons, List.map_nil]
        · intro j hj
          rcases List.mem_append.mp hj with hj | hj
          · exact hpre j hj
          · rcases List.mem_singleton.mp hj with rfl
            exact c
      · obtain ⟨hall, a, b, c, rfl⟩ := iv
        exact ⟨fun i hi => hall i (List.mem_reverse.mpr hi), a, b, c, rfl⟩
    · obtain ⟨hall, a, b, c, rfl⟩ := hΓ
      have eR : nextRow r = none := by
        unfold nextRow
        rw [List.find?_eq_none.mpr fun x hx => by rw [hall x (List.mem_reverse.mp hx)]; decide]
        rfl
      rw [eR]
      exact s_retV e_non rfl
/-! ### patterns_of, a generator -/
def rowsFrom : Nat → List Int → List (List Int)
  | 0, _ => []
  | n + 1, r => r :: (match nextRow r with
    | none => []
    | some r' => rowsFrom n r')
def goodRows : Nat → List Int → Bool
  | 0, _ => false
  | n + 1, r => (decide (1 ≤ r.length) && decide (r.length ≤ 50) && r.all fun x => decide (x = 0) || decide (x = 1)) && (match nextRow r with
    | none => true
    | some r' => goodRows n r')
def rowsO (n : Nat) : Option (List Int) → List (List Int)
  | none => []
  | some r => rowsFrom n r
def goodO (n : Nat) : Option (List Int) → Bool
  | none => true
  | some r => goodRows n r
def startRow (a b : Int) : List Int := List.replicate a.toNat 0 ++ List.replicate b.toNat 1
def rowsM (a b : Int) : List (List Int) := rowsFrom 200 (startRow a b)
theorem rowsFrom_len : ∀ (n : Nat) (r : List Int), (rowsFrom n r).length ≤ n
  | 0, _ => Nat.le_refl _
  | n + 1, r => by
    rw [rowsFrom, List.length_cons]
    cases nextRow r with
    | none => simp
    | some r' => exact Nat.succ_le_succ (rowsFrom_len n r')
theorem good_at {n : Nat} {r : List Int} (h : goodRows n r = true) : ∃ m, n = m + 1 ∧ r ≠ [] ∧ r.length ≤ 50 ∧ (∀ x ∈ r, x = 0 ∨ x = 1) ∧ rowsFrom n r = r :: rowsO m (nextRow r) ∧ goodO m (nextRow r) = true := by
  cases n with
  | zero => cases h
  | succ m =>
    rw [goodRows] at h
    simp only [Bool.and_eq_true, decide_eq_true_eq, List.all_eq_true, Bool.or_eq_true] at h
    obtain ⟨⟨⟨h1, h2⟩, h3⟩, h4⟩ := h
    refine ⟨m, rfl, (fun z => by rw [z] at h1; cases h1), h2, h3, ?_, ?_⟩
    · rw [rowsFrom]
      cases nextRow r <;> rfl
    · cases q : nextRow r with
      | none => rfl
      | some r' => rw [q] at h4; exact h4
/-- the promise of a generator -/
def spG (K : PySem.W.Frag) (R : List D → List D → Prop) : SpG := fun vs H Q _ => ∃ B ds out, R ds out ∧ RepL K B vs ds ∧ Same B H ∧ ∀ B' H' ys, Go none B H B' H' → RepL K B' ys out → Q ys H'
theorem l_listG {R : List D → List D → Prop} {Γ : List S} {ta : TA} {ds out : List D} {E : XK} (h : Ea K ta Γ fun z => z = ds) (hR : R ds out) : EL K (tListG (tCallG (spG K R) [] E ta)) Γ fun z => z = out := fun hd fr B H σ Q S0 k =>
  h hd fr B H σ _ S0 fun B1 H1 vs zs g r p => by
    subst p
    refine ⟨B1, zs, out, hR, by rw [List.append_nil]; exact r, g.sub, fun B2 H2 ys g2 rr q hq => ?_⟩
    have gg := g.trans (g2.up g.hand)
    have nb : B2 q = none := by
      cases e : B2 q with
      | none => rfl
      | some u =>
        rw [gg.sub _ _ e] at hq
        cases hq
    exact k B2 _ q ys out (gg.fresh hq) (gg.live S0.hand S0.sub hq) nb upd_same rr rfl

abbrev N_patterns_of : List Str := ["a_count", "b_count", "shorts", "longs", "row"]
theorem sc_patterns_of : GScope N_patterns_of ["a_count", "b_count"] (defScope JA.s_patterns_of) := ⟨rfl, rfl, rfl, by decide +kernel, rfl, by decide +kernel, by decide +kernel⟩
def R_patterns_of : List D → List D → Prop := fun ds out => ∃ a b : Int, ds = [.int a, .int b] ∧ 0 ≤ a ∧ 0 ≤ b ∧ 1 ≤ a + b ∧ a + b ≤ 8 ∧ goodRows 200 (startRow a b) = true ∧ out = (rowsM a b).map row
structure GCal (P : Program) (w : World) (K : PySem.W.Frag) (mg : Str → Option Value) (base : Heap) (k : Nat) (x : Str) (sp : SpG) : Prop where
  ex : ∃ (f : Addr) (fd : FuncData) (ps : List Str), GFn P w K mg base k f fd ps sp ∧ mg x = some (.ref f) ∧ PySem.W.keepIn K (.ref f) = true ∧ Binds K fd ps []
theorem pe_lg {X : Cx} {k j : Nat} {x nm : Str} {sp : SpG} {e : Expr} {es : List Expr} {t : TA} {p pos p2 pos2 : Pos} (c : GCal X.prog X.w X.K X.mg X.base k x sp) (hr : Room j X.A) (hk : k + 3 ≤ j) (hg : Gl X x) (hgl : Gl X nm) (hmg : X.mg nm = none) (hv : bootBuiltins nm = some (.type "list")) (ha : PA X (e :: es) t)
    (hdb : (x == ("__debug__" : Str)) = false := by decide) (he : starEach (e :: es) X.env = (false, eval e X.env) :: starEach es X.env := by rfl) (hpl : (backTo pos (starEach es X.env)).any (·.1) = false := by rfl)
    (hnm : nm ≠ "__name__" := by decide) (hdb2 : (nm == ("__debug__" : Str)) = false := by decide)
    (he2 : starEach [.Call (.Name x p) (e :: es) [] pos] X.env = (false, eval (.Call (.Name x p) (e :: es) [] pos) X.env) :: starEach [] X.env := by rfl) :
    PE X (.Call (.Name nm p2) [.Call (.Name x p) (e :: es) [] pos] [] pos2) (tListG (tCallG sp [] C8.E0 t)) := by
  obtain ⟨f, fd, ps, F, hm, kp, b⟩ := c.ex
  exact pe_listG (pgen_call F (hr.mono (by omega)) hg hm kp b .nil ha hdb he hpl) (fun pins σ H s e s' I h => by obtain ⟨_, _, _, _, _, _, _, _, _, _, _, _, z⟩ := h; exact z.elim) (fun _ _ _ z => z.elim) (hr.mono hk) hgl hmg hv hnm hdb2 he2
theorem c_patterns_of (T : Tx K mg) : GCal P w K mg base 5 "patterns_of" (spG K R_patterns_of) := by
  obtain ⟨fd, F⟩ := T.says.1.def_ 18
  refine ⟨_, fd, ["a_count", "b_count"], ?_, T.glo 18, F.kp, F.bindsN fun _ _ _ _ _ _ us hl => match us, hl with | [_, _], _ => rfl⟩
  obtain ⟨oc, od, dV, kV, doc, pm, an, cdv, ct, osl, rfl, lk, hcd, _, _⟩ := F.ex
  refine gfn_of lk hcd sc_patterns_of (fun vs H Q E h => ?_) fun A outer s H vs Q E pn hRm h => ?_
  · obtain ⟨B, ds, out, ⟨a, b, rfl, _⟩, r, _⟩ := h
    rw [r.length]
    rfl
  · obtain ⟨B, ds, out, ⟨a, b, rfl, ha, hb, h1, h8, hgood, rfl⟩, r, ss, q⟩ := h
    refine ⟨_, gss_cons (gs_ps (ps_asg (C8.pe_c (c_check_counts T) hRm (by decide) (by rfl) (pa_cons (pv 0) (pa_cons (pv 1) pa_nil))) (pg_tup rfl (pgs_cons (pg_name (i := 2) sc_patterns_of.nd rfl (by first | exact Or.inl rfl | exact Or.inr rfl)) (pgs_cons (pg_name (i := 3) sc_patterns_of.nd rfl (by first | exact Or.inl rfl | exact Or.inr rfl)) pgs_nil))))) (gss_cons (gs_ps (ps_set (i := 4) sc_patterns_of.nd rfl (by first | exact Or.inl rfl | exact Or.inr rfl) (pe_op op_addX (pe_op op_mulX (pe_lst (pa_cons pe_int pa_nil)) (pv 2)) (pe_op op_mulX (pe_lst (pa_cons pe_int pa_nil)) (pv 3))))) (gss_cons (gs_while owns_gcx (pt_cmpR op_notNX (pv 4) pe_non (nomark _)) (gss_cons (gs_yield (pe_callTy call_tupleX (by rfl) (T.free 104) (by decide +kernel) (pa_cons (pv 4) pa_nil))) (gss_cons (gs_ps (ps_set (i := 4) sc_patterns_of.nd rfl (by first | exact Or.inl rfl | exact Or.inr rfl) (C8.pe_c (c_row_after T) hRm (by decide) (by rfl) (pa_cons (pv 4) pa_nil)))) gss_nil))) gss_nil)), ?_⟩
    have S0 := sx_start (hd := none) (ds := [.int a, .int b]) ss hd_none r 3
    have el : L2.start N_patterns_of vs = vs.map some ++ List.replicate 3 none := by
      unfold L2.start
      rw [r.length]
      rfl
    rw [el]
    have zz : goodO 200 (some (startRow a b)) = true := hgood
    have fin : ∀ {B' H' : Hp}, Gs none (fun a => H a = none) B H B' H' → Same B' H' → Go none B H B' H' := fun {B' H'} g s' => ⟨g.ext, s', fun a o t e n _ => g.keep a o t e n (fun z => by rw [z] at e; cases e) (fun _ z => by cases z), g.tups, hd_none⟩
    have fl : ∀ (n : Nat) (d : D), (List.replicate n [d]).flatten = List.replicate n d := fun n d => by
      induction n with
      | zero => rfl
      | succ n ih => rw [List.replicate_succ, List.flatten_cons, ih]; rfl
    -- shorts, longs = check_counts(..)
    refine (s_asgG (Ψ := ⟨fun Γ => Γ = [.val (.int a), .val (.int b), .val (.int a), .val (.int b), .no], fun _ => False, fun _ => False, fun _ => False⟩) (e_ccounts (e_var rfl) (e_var rfl) ha hb h1 h8) (g_tup (vs := [2, 3]) (gs_cons g_name (gs_cons g_name gs_nil))) rfl) none _ B H _ _ S0 (fun B1 H1 σ1 Γ1 g1 S1 e1 => ?_) (fun _ _ _ _ _ _ _ _ z => z.elim) (fun _ _ _ _ _ _ z => z.elim) (fun _ _ _ _ _ _ z => z.elim)
    subst e1
    refine (s_asgV (Ψ := ⟨fun Γ => Γ = [.val (.int a), .val (.int b), .val (.int a), .val (.int b), .val (lstO (some (startRow a b)))], fun _ => False, fun _ => False, fun _ => False⟩) (Ev.cast (e_op (e_op (e_lst (ea_cons e_int ea_nil) (of_decide_eq_true rfl)) (e_var rfl) (ro_rep (of_decide_eq_true rfl) (by omega))) (e_op (e_lst (ea_cons e_int ea_nil) (of_decide_eq_true rfl)) (e_var rfl) (ro_rep (of_decide_eq_true rfl) (by omega))) (ro_cat (by rw [fl, fl, List.length_replicate, List.length_replicate]; omega))) (e := lstO (some (startRow a b))) (by rw [fl, fl]; unfold lstO startRow; simp only [List.map_append, List.map_replicate])) rfl) none _ B1 H1 _ _ S1 (fun B2 H2 σ2 Γ2 g2 S2 e2 => ?_) (fun _ _ _ _ _ _ _ _ z => z.elim) (fun _ _ _ _ _ _ z => z.elim) (fun _ _ _ _ _ _ z => z.elim)
    subst e2
    refine ⟨fun m ys σ' H' => ∃ (B' : Hp) (cur : Option (List Int)) (done : List (List Int)), Gs none (fun a => H a = none) B H B' H' ∧ Sx K none (fun a => H a = none) B' H' σ' [.val (.int a), .val (.int b), .val (.int a), .val (.int b), .val (lstO cur)] ∧ RepL K B' ys (done.map row) ∧ done ++ rowsO m cur = rowsM a b ∧ goodO m cur = true,
      ⟨200, B2, some (startRow a b), [], g1.trans g2, S2, .nil, rfl, zz⟩, fun m ys σ' H' w => ?_⟩
    obtain ⟨B', cur, done, gg, SS, rr, hd', hg⟩ := w
    refine t_test (b := !(lstO cur).isNon) (e_op (e_var rfl) e_non ro_notN) none _ B' H' σ' _ SS fun B3 H3 bb g3 e3 => ?_
    have SS3 := SS.go g3
    have gg3 := gg.trans g3.gs
    subst e3
    cases cur with
    | none =>
      refine iteF ?_
      refine q B3 H3 ys (fin gg3 SS3.sub) ?_
      have : done = rowsM a b := by rw [← hd']; simp [rowsO]
      rw [← this]
      exact rr.mono g3.ext
    | some r =>
      refine iteT ?_
      obtain ⟨m', rfl, g1', g2', g3', g4', g5'⟩ := good_at hg
      refine ⟨fun ys' σ2 H2 => ∃ (B' : Hp) (cur : Option (List Int)) (done : List (List Int)), Gs none (fun a => H a = none) B H B' H2 ∧ Sx K none (fun a => H a = none) B' H2 σ2 [.val (.int a), .val (.int b), .val (.int a), .val (.int b), .val (lstO cur)] ∧ RepL K B' ys' (done.map row) ∧ done ++ rowsO m' cur = rowsM a b ∧ goodO m' cur = true, fun ys' σ2 H2 w => ⟨m', Nat.lt_succ_self _, w⟩, ?_⟩
      refine ⟨?_, ?_⟩
      · rw [rr.length, List.length_map]
        have h1 := congrArg List.length hd'
        rw [List.length_append] at h1
        have h2 : (rowsM a b).length ≤ 200 := rowsFrom_len _ _
        rw [sizeLine_eq]
        omega
      · refine e_cb (ea_cons (e_var (i := 4) rfl) ea_nil) (rc_tuple (ds := r.map D.int) rfl) none _ B3 H3 σ' _ SS3 fun B4 H4 v d g4 r4 e4 => ?_
        subst e4
        have SS4 := SS3.go g4
        refine (s_asgV (Ψ := ⟨fun Γ => Γ = [.val (.int a), .val (.int b), .val (.int a), .val (.int b), .val (lstO (nextRow r))], fun _ => False, fun _ => False, fun _ => False⟩) (e_call (ea_cons (e_var (i := 4) rfl) ea_nil) ⟨r, rfl, g1', g2', g3', rfl⟩) rfl) none _ B4 H4 _ _ SS4 (fun B5 H5 σ5 Γ5 g5 S5 e5 => ?_) (fun _ _ _ _ _ _ _ _ z => z.elim) (fun _ _ _ _ _ _ z => z.elim) (fun _ _ _ _ _ _ z => z.elim)
        subst e5
        refine ⟨B5, nextRow r, done ++ [r], (gg3.trans g4.gs).trans g5, S5, ?_, ?_, g5'⟩
        · rw [List.map_append]
          exact ((rr.mono ((g3.ext.trans g4.ext).trans g5.ext)).append (.one (r4.mono g5.ext)))
        · rw [← hd', List.append_assoc]
          show done ++ ([r] ++ rowsO m' (nextRow r)) = done ++ rowsFrom (m' + 1) r
          rw [g4']
          rfl
end
end JD
set_option maxHeartbeats 4000000
/-! one's own dicts -/
namespace JD
open PySem PySem.Spec PyProof.Rows L2
theorem u65 {A : Around} {k : Nat} (hr : Room k A) : A.units + 65 < cLine := by
  have := hr.un
  omega
def keyD : Key → D
  | .inl i => .int i
  | .inr x => .str x
theorem rep_key {K : PySem.W.Frag} {B : Hp} {v : V} {k : Key} (r : Rep K B v (keyD k)) : v = kV k := by
  cases k with
  | inl i => exact r.ofInt
  | inr x => exact r.ofStr
theorem key_rep {K : PySem.W.Frag} {B : Hp} (k : Key) : Rep K B (kV k) (keyD k) := by
  cases k with
  | inl i => exact .int _
  | inr x => exact .str _
theorem repL_keys {K : PySem.W.Frag} {B : Hp} : ∀ {vs : List V} {ks : List Key}, RepL K B vs (ks.map keyD) → vs = ks.map kV
  | _, [], .nil => rfl
  | _, k :: ks, .cons r t => by rw [rep_key r, repL_keys t]; rfl
theorem keys_rep {K : PySem.W.Frag} {B : Hp} : ∀ (ks : List Key), RepL K B (ks.map kV) (ks.map keyD)
  | [] => .nil
  | k :: ks => .cons (key_rep k) (keys_rep ks)
section
variable {κ : Type} [DecidableEq κ] {K : PySem.W.Frag} {B : Hp}
/-- a put, on data -/
def putD (kvs : List (κ × D)) (k : κ) (d : D) : List (κ × D) :=
  if (kvs.any fun kv => decide (kv.1 = k)) = true then kvs.map (fun kv => if kv.1 = k then (kv.1, d) else kv) else kvs ++ [(k, d)]
def valD (kvs : List (κ × D)) (k : κ) : Option D := (kvs.find? fun kv => decide (kv.1 = k)).map (·.2)
theorem repKV_any {xs : List (κ × V)} {ys : List (κ × D)} (r : RepKV K B xs ys) (k : κ) : (xs.any fun kv => decide (kv.1 = k)) = ys.any fun kv => decide (kv.1 = k) := by
  induction r with
  | nil => rfl
  | cons h t ih => rw [List.any_cons, List.any_cons, ih, h.1]
theorem repKV_len {xs : List (κ × V)} {ys : List (κ × D)} (r : RepKV K B xs ys) : xs.length = ys.length := Paired.length r
theorem repKV_put {xs : List (κ × V)} {ys : List (κ × D)} (r : RepKV K B xs ys) (k : κ) {v : V} {d : D} (rv : Rep K B v d) : RepKV K B (putK xs k v) (putD ys k d) := by
  unfold putK putD
  rw [repKV_any r k]
  by_cases c : (ys.any fun kv => decide (kv.1 = k)) = true
  · rw [if_pos c, if_pos c]
    clear c
    induction r with
    | nil => exact .nil
    | cons h t ih =>
      rw [List.map_cons, List.map_cons]
      refine .cons ?_ ih
      rename_i a b _ _
      by_cases e : b.1 = k
      · rw [if_pos e, if_pos (h.1.trans e)]
        exact ⟨h.1, rv⟩
      · rw [if_neg e, if_neg (fun z => e (h.1.symm.trans z))]
        exact h
  · rw [if_neg c, if_neg c]
    clear c
    induction r with
    | nil => exact .cons ⟨rfl, rv⟩ .nil
    | cons h t ih => exact .cons h ih
theorem repKV_val {xs : List (κ × V)} {ys : List (κ × D)} (r : RepKV K B xs ys) (k : κ) {d : D} (h : valD ys k = some d) : ∃ v, valV xs k = some v ∧ Rep K B v d := by
  induction r with
  | nil => cases h
  | cons hh t ih =>
    rename_i a b _ _
    unfold valD at h ih
    unfold valV at ih ⊢
    by_cases e : b.1 = k
    · rw [List.find?_cons_of_pos (by simpa using e)] at h
      rw [List.find?_cons_of_pos (by simpa using hh.1.trans e)]
      cases Option.some.inj h
      exact ⟨_, rfl, hh.2⟩
    · rw [List.find?_cons_of_neg (by simpa using e)] at h
      rw [List.find?_cons_of_neg (by simpa using fun z => e (hh.1.symm.trans z))]
      exact ih h
end
section
variable {K : PySem.W.Frag} {Γ Γ' : List S} {te ti tv : TE} {ta : TA} {d e : D} {Ψ : Post} {Φ : D → Prop}
theorem s_newD {i : Nat} {t : TE} {o : O} {u : HO} (ht : t = fun _ H Q => ∀ p, H p = none → Q (.ref p) (upd H p u)) (ho : ∀ B, ORep K B u o) (q : Ψ.nx (Γ.set i (.own o))) : Es K (tAsg t (gName i)) Γ Ψ := fun hd fr B H σ Dd S0 k1 k2 k3 k4 => by
  subst ht
  intro p hp
  have g := (Go.refl S0.sub S0.hand).fresh (o := u) hp
  have S1 := S0.go g
  have nb : B p = none := by
    cases q : B p with
    | none => rfl
    | some o => rw [S0.sub _ _ q] at hp; cases hp
  refine k1 B _ _ _ g.gs (S1.set_own i (S0.new p hp) nb upd_same (ho B) (fun h eh => ?_) (fun j o' ej e2 => ?_)) q
  · obtain ⟨_, _, _, _, p2, r2, t2, d2, _⟩ := S0.hand h eh
    exact (ne_of_none d2 hp).symm
  · obtain ⟨l, u, e1, _, _, hl, _⟩ := S0.slot j _ ej
    rw [e1] at e2
    have z := Option.some.inj (Option.some.inj e2)
    injection z with z
    rw [z, hp] at hl
    cases hl
theorem s_newT {i : Nat} (q : Ψ.nx (Γ.set i (.own (.dT [])))) : Es K (tAsg tDNewT (gName i)) Γ Ψ := s_newD (u := .dT []) (o := .dT []) rfl (fun _ => show RepKV K _ [] [] from .nil) q
theorem s_newK {i : Nat} (q : Ψ.nx (Γ.set i (.own (.dK [])))) : Es K (tAsg tDNewK (gName i)) Γ Ψ := s_newD (u := .dK []) (o := .dK []) rfl (fun _ => show RepKV K _ [] [] from .nil) q
/-- d[(x, ..)] = v -/
theorem s_putT {i : Nat} {kvs : List (List Key × D)} {ks : List Key} (ei : Γ[i]? = some (.own (.dT kvs))) (hv : Ev K tv Γ d) (ha : Ea K ta Γ fun z => z = ks.map keyD) (hl : ks.length ≤ 1000) (hz : kvs.length < 100000)
    (q : Ψ.nx (Γ.set i (.own (.dT (putD kvs ks d))))) : Es K (sDPut (tVar i) (tTup ta) tv) Γ Ψ := fun hd fr B H σ Dd S0 k1 k2 k3 k4 => by
  refine hv hd fr B H σ _ S0 fun B1 H1 v x g1 r1 p1 => ?_
  subst p1
  obtain ⟨l, u, e1, f, n, hl1, rr, kk⟩ := (S0.go g1).slot i _ ei
  refine ⟨.ref l, e1, ha hd fr B1 H1 σ _ (S0.go g1) fun B2 H2 vs zs g2 r2 p2 => ?_⟩
  subst p2
  have ev : vs = ks.map kV := repL_keys r2
  refine ⟨by rw [ev, List.length_map]; exact Nat.le_of_lt (small1000 hl), fun b hb => ?_⟩
  have g := (g1.trans g2).alloc (o := .tup vs) hb
  have S3 := S0.go g
  obtain ⟨l', u', e1', f', n', hl', rr', kk'⟩ := S3.slot i _ ei
  rw [e1] at e1'
  cases Option.some.inj (Option.some.inj e1')
  cases u' with
  | dT xs =>
    have rx : RepKV K (upd B2 b (.tup vs)) xs kvs := rr'
    have rv := (r1.mono g2.ext).mono (same_upd (by
      cases q : B2 b with
      | none => rfl
      | some o => rw [g2.sub _ _ q] at hb; cases hb) (o := .tup vs))
    obtain ⟨S4, g4⟩ := S3.upd_own (u' := .dT (putK xs ks v)) (o' := .dT (putD kvs ks _)) ei e1 (repKV_put rx ks rv)
    refine ⟨l, _, rfl, DPut.t (k := ks) hl' (by rw [upd_same, ev]) (by rw [repKV_len rx]; exact Nat.lt_of_lt_of_le hz (by rw [sizeLine_eq]; decide)), ?_⟩
    exact k1 _ _ σ _ (g.gs.trans g4) S4 q
  | _ => exact rr'.elim
/-- d[k] = v, k a number or a text -/
theorem s_putK {i : Nat} {kvs : List (Key × D)} {k : Key} (ei : Γ[i]? = some (.own (.dK kvs))) (hv : Ev K tv Γ d) (hk : Ev K ti Γ (keyD k)) (hz : kvs.length < 100000)
    (q : Ψ.nx (Γ.set i (.own (.dK (putD kvs k d))))) : Es K (sDPut (tVar i) ti tv) Γ Ψ := fun hd fr B H σ Dd S0 k1 k2 k3 k4 => by
  refine hv hd fr B H σ _ S0 fun B1 H1 v x g1 r1 p1 => ?_
  subst p1
  obtain ⟨l, u, e1, f, n, hl1, rr, kk⟩ := (S0.go g1).slot i _ ei
  refine ⟨.ref l, e1, hk hd fr B1 H1 σ _ (S0.go g1) fun B2 H2 y zs g2 r2 p2 => ?_⟩
  subst p2
  have ev : y = kV k := rep_key r2
  have g := g1.trans g2
  have S3 := S0.go g
  obtain ⟨l', u', e1', f', n', hl', rr', kk'⟩ := S3.slot i _ ei
  rw [e1] at e1'
  cases Option.some.inj (Option.some.inj e1')
  cases u' with
  | dK xs =>
    have rx : RepKV K B2 xs kvs := rr'
    obtain ⟨S4, g4⟩ := S3.upd_own (u' := .dK (putK xs k v)) (o' := .dK (putD kvs k _)) ei e1 (repKV_put rx k (r1.mono g2.ext))
    refine ⟨l, _, rfl, by rw [ev]; exact DPut.k hl' (by rw [repKV_len rx]; exact Nat.lt_of_lt_of_le hz (by rw [sizeLine_eq]; decide)), ?_⟩
    exact k1 _ _ σ _ (g.gs.trans g4) S4 q
  | _ => exact rr'.elim
/-- d[k] read -/
theorem e_getK {i : Nat} {kvs : List (Key × D)} {k : Key} (ei : Γ[i]? = some (.own (.dK kvs))) (hk : Ev K ti Γ (keyD k)) (h : valD kvs k = some d) : Ev K (tDGet (tVar i) ti) Γ d := fun hd fr B H σ Q S0 kk => by
  obtain ⟨l, u, e1, f, n, hl1, rr, k0⟩ := S0.slot i _ ei
  refine ⟨.ref l, e1, hk hd fr B H σ _ S0 fun B2 H2 y zs g2 r2 p2 => ?_⟩
  subst p2
  have ev : y = kV k := rep_key r2
  obtain ⟨l', u', e1', f', n', hl', rr', kk'⟩ := (S0.go g2).slot i _ ei
  rw [e1] at e1'
  cases Option.some.inj (Option.some.inj e1')
  cases u' with
  | dK xs =>
    have rx : RepKV K B2 xs kvs := rr'
    obtain ⟨v, hv, rv⟩ := repKV_val rx k h
    exact ⟨l, v, rfl, .inl ⟨xs, k, .inl hl', ev, hv.symm⟩, kk B2 H2 v d g2 rv rfl⟩
  | _ => exact rr'.elim
def rListDT : List V → Hp → VK → Prop := fun xs H Q => ∃ d kvs, xs = [V.ref d] ∧ Rd H d (.dT kvs) ∧ ∀ p bs, H p = none → IsKeys H kvs bs → Q (.ref p) (upd H p (.lst (bs.map V.ref)))
theorem call_listDT {X : Cx} (hc : X.calm = true) : CallR X (.type "list") rListDT := call_list_dT hc
def rListDK : List V → Hp → VK → Prop := fun xs H Q => ∃ (a : Addr) (kvs : List (Key × V)), xs = [.ref a] ∧ Rd H a (.dK kvs) ∧ ∀ p, H p = none → Q (.ref p) (upd H p (.lst (kvs.map fun kv => kV kv.1)))
theorem call_listDK {X : Cx} (hc : X.calm = true) : CallR X (.type "list") rListDK := call_listD hc
theorem e_imp' {te : TE} {Γ : List S} {ds es : List D} (h : EL K te Γ fun z => z = ds) (e : ds = es) : EL K te Γ fun z => z = es := e ▸ h
theorem isKeys_mem {H : Hp} {kvs : List (List Key × V)} {bs : List Addr} (h : IsKeys H kvs bs) : ∀ b ∈ bs, ∃ xs, H b = some (.tup xs) := by
  unfold IsKeys at h
  induction h with
  | nil => intro b hb; cases hb
  | cons a t ih =>
    intro b hb
    rcases List.mem_cons.mp hb with rfl | hb
    · exact ⟨_, a⟩
    · exact ih b hb
theorem l_listDT {i : Nat} {kvs : List (List Key × D)} (ei : Γ[i]? = some (.own (.dT kvs))) : EL K (tCB rListDT (tCons (tVar i) tNil)) Γ fun z => z = kvs.map fun kv => .tup (kv.1.map keyD) := fun hd fr B H σ Q S0 k => by
  obtain ⟨l, u, e1, f, n, hl, rr, kk⟩ := S0.slot i _ ei
  cases u with
  | dT xs =>
    have rx : RepKV K B xs kvs := rr
    refine ⟨.ref l, e1, l, xs, rfl, .inl hl, fun p bs hp hk => ?_⟩
    have hm := isKeys_mem hk
    have ss : Same B (fun a => if a ∈ bs then H a else B a) := fun b o e => by
      show (if b ∈ bs then H b else B b) = some o
      by_cases hb : b ∈ bs
      · rw [if_pos hb]; exact S0.sub _ _ e
      · rw [if_neg hb]; exact e
    have hnp : ∀ b, b ∈ bs → b ≠ p := fun b hb z => by
      obtain ⟨xs, e⟩ := hm b hb
      rw [z, hp] at e
      cases e
    have g0 : Go hd B H (fun a => if a ∈ bs then H a else B a) H := by
      refine ⟨ss, fun b o e => ?_, fun a o t e nB c => ⟨e, ?_⟩, fun _ _ e => e, fun h eh => ?_⟩
      · have e' : (if b ∈ bs then H b else B b) = some o := e
        by_cases hb : b ∈ bs
        · rw [if_pos hb] at e'; exact e'
        · rw [if_neg hb] at e'; exact S0.sub _ _ e'
      · show (if a ∈ bs then H a else B a) = none
        by_cases hb : a ∈ bs
        · obtain ⟨ys, e2⟩ := hm a hb
          rw [e] at e2
          cases Option.some.inj e2
          cases t
        · rw [if_neg hb]; exact nB
      · obtain ⟨a, b, c, c2, pos, rest, tot, d, e⟩ := S0.hand h eh
        refine ⟨?_, ss _ _ b, c, c2, pos, rest, tot, d, e⟩
        show (if h.l ∈ bs then H h.l else B h.l) = none
        by_cases hb : h.l ∈ bs
        · obtain ⟨ys, e2⟩ := hm _ hb
          rw [d] at e2
          cases e2
        · rw [if_neg hb]; exact a
    have rl : RepL K (fun a => if a ∈ bs then H a else B a) (bs.map V.ref) (kvs.map fun kv => .tup (kv.1.map keyD)) := by
      have key : ∀ (xs : List (List Key × V)) (kvs : List (List Key × D)) (cs : List Addr), RepKV K B xs kvs → IsKeys H xs cs → (∀ c ∈ cs, c ∈ bs) → RepL K (fun a => if a ∈ bs then H a else B a) (cs.map V.ref) (kvs.map fun kv => .tup (kv.1.map keyD)) := by
        intro xs kvs cs r1 r2 r3
        unfold IsKeys at r2
        induction r2 generalizing kvs with
        | nil => cases r1; exact .nil
        | cons a t ih =>
          cases r1 with
          | cons b s =>
            refine .cons (.tup (.inl (.inl ?_)) (keys_rep _)) (ih _ s fun c hc => r3 c (List.mem_cons_of_mem _ hc))
            show (if _ ∈ bs then H _ else B _) = _
            rw [if_pos (r3 _ (List.mem_cons_self ..)), a, b.1]
      exact key xs kvs bs rx hk fun c hc => hc
    have nb : (if p ∈ bs then H p else B p) = none := by
      by_cases hb : p ∈ bs
      · rw [if_pos hb]; exact hp
      · rw [if_neg hb]
        cases q : B p with
        | none => rfl
        | some o => rw [S0.sub _ _ q] at hp; cases hp
    exact k _ _ p _ _ (g0.fresh hp) hp nb upd_same rl rfl
  | _ => exact rr.elim
theorem l_listDK {i : Nat} {kvs : List (Key × D)} (ei : Γ[i]? = some (.own (.dK kvs))) : EL K (tCB rListDK (tCons (tVar i) tNil)) Γ fun z => z = kvs.map fun kv => keyD kv.1 := fun hd fr B H σ Q S0 k => by
  obtain ⟨l, u, e1, f, n, hl, rr, kk⟩ := S0.slot i _ ei
  cases u with
  | dK xs =>
    have rx : RepKV K B xs kvs := rr
    refine ⟨.ref l, e1, l, xs, rfl, .inl hl, fun p hp => ?_⟩
    have nb : B p = none := by
      cases q : B p with
      | none => rfl
      | some o => rw [S0.sub _ _ q] at hp; cases hp
    have rl : RepL K B (xs.map fun kv => kV kv.1) (kvs.map fun kv => keyD kv.1) := by
      clear ei rr hl k
      induction rx with
      | nil => exact .nil
      | cons a t ih =>
        refine .cons ?_ ih
        show Rep K B (kV _) (keyD _)
        rw [a.1]
        exact key_rep _
    exact k _ _ p _ _ ((Go.refl S0.sub S0.hand).fresh hp) hp nb upd_same rl rfl
  | _ => exact rr.elim
end
end JD
set_option maxHeartbeats 4000000
namespace JD
open PySem PySem.Spec PyProof.Rows L2
open C8 (Cal Mak)
/-! ### couples -/
def addD (l : List IP) (p : IP) : List IP := if decide (p ∈ l) = true then l else l ++ [p]
def dif (e : IP × IP) : IP := (e.1.1 - e.2.1, e.1.2 - e.2.2)
def dfs (l : List IP) (e : IP × IP) : List IP := addD l (dif e)
def diffs (js ks : List IP) : List IP := (pairs js ks).foldl dfs []
abbrev Coup : Type := List Int × List Int × List IP
def rdiffs (x y : List Int) : List IP := diffs (jointsM 0 0 x) (jointsM 0 0 y)
def coupOf (e : List Int × List Int) : Option Coup :=
  if (decide (e.1.headD 0 < e.2.headD 0) && !decide (e.1.getLastD 0 = e.2.getLastD 0)) = true then
    (if decide (((0, 0) : IP) ∈ rdiffs e.1 e.2) = true then none else some (e.1, e.2, rdiffs e.1 e.2)) else none
def couplesM (rs : List (List Int)) : List Coup := (pairs rs rs).filterMap coupOf
def couplesAll (a b : Int) : List Coup := match rowsM a b with
  | [r] => [(r, r, rdiffs r r)]
  | rs => couplesM rs
def coupD (c : Coup) : D := .tup [row c.1, row c.2.1, .lst (c.2.2.map pairD)]
def Pd (p : IP) : Prop := p.1.natAbs ≤ 200 ∧ p.2.natAbs ≤ 200
def lineRow (r : Rat) (p : IP) : List Int := [((p.1 * r.den + p.2 * r.num).natAbs : Int), p.1, p.2]
def nearL (ds : List IP) (r : Rat) : List Int := match ds with
  | [] => []
  | p :: q => minR (lineRow r p) (q.map (lineRow r))
def lineSt (r : Rat) (b : List Int) (c : Coup) : List Int := if b < nearL c.2.2 r then nearL c.2.2 r else b
def lineBest (cs : List Coup) (r : Rat) : List Int := cs.foldl (lineSt r) [-1, 0, 0]
def lineOf (b : List Int) (r : Rat) : IP :=
  if b[1]?.getD 0 * r.den + b[2]?.getD 0 * r.num < 0 then (-(b[1]?.getD 0), -(b[2]?.getD 0)) else (b[1]?.getD 0, b[2]?.getD 0)
def lineAt (cs : List Coup) (r : Rat) : IP := lineOf (lineBest cs r) r
/-! its dict -/
def kk (p : IP) : List Key := [.inl p.1, .inl p.2]
theorem kk_inj {p q : IP} : kk p = kk q ↔ p = q := by
  constructor
  · intro h
    obtain ⟨p1, p2⟩ := p
    obtain ⟨q1, q2⟩ := q
    unfold kk at h
    injection h with h1 h2
    injection h2 with h2 h3
    injection h1 with h1
    injection h2 with h2
    exact Prod.ext h1 h2
  · rintro rfl; rfl
theorem put_add (l : List IP) (p : IP) : putD (l.map fun q => (kk q, D.bl true)) (kk p) (.bl true) = (addD l p).map fun q => (kk q, D.bl true) := by
  unfold putD addD
  have h : ((l.map fun q => (kk q, D.bl true)).any fun kv => decide (kv.1 = kk p)) = decide (p ∈ l) := by
    rw [List.any_map]
    rw [Bool.eq_iff_iff, List.any_eq_true]
    constructor
    · rintro ⟨q, hq, e⟩
      have : q = p := kk_inj.mp (of_decide_eq_true e)
      exact decide_eq_true (this ▸ hq)
    · intro e
      exact ⟨p, of_decide_eq_true e, decide_eq_true rfl⟩
  rw [h]
  by_cases c : decide (p ∈ l) = true
  · rw [if_pos c, if_pos c, List.map_map]
    refine List.map_congr_left fun q hq => ?_
    show (if kk q = kk p then (kk q, D.bl true) else (kk q, D.bl true)) = _
    split <;> rfl
  · rw [if_neg c, if_neg c, List.map_append]
    rfl
theorem addD_len (l : List IP) (p : IP) : (addD l p).length ≤ l.length + 1 := by
  unfold addD
  split
  · omega
  · simp
theorem dfs_len : ∀ (es : List (IP × IP)) (l : List IP), (es.foldl dfs l).length ≤ l.length + es.length
  | [], l => Nat.le_refl _
  | e :: es, l => by
    rw [List.foldl_cons]
    have h1 := dfs_len es (dfs l e)
    have h2 := addD_len l (dif e)
    unfold dfs at h1 ⊢
    simp only [List.length_cons]
    omega
theorem dfs_mem : ∀ (es : List (IP × IP)) (l : List IP) (p : IP), p ∈ es.foldl dfs l ↔ p ∈ l ∨ ∃ e ∈ es, dif e = p
  | [], l, p => by simp
  | e :: es, l, p => by
    rw [List.foldl_cons, dfs_mem es]
    have : p ∈ dfs l e ↔ p ∈ l ∨ dif e = p := by
      unfold dfs addD
      by_cases c : dif e ∈ l
      · rw [if_pos (decide_eq_true c)]
        constructor
        · exact .inl
        · rintro (h | rfl)
          · exact h
          · exact c
      · rw [if_neg (by simpa using c)]
        simp [eq_comm]
    rw [this]
    simp [or_assoc]
theorem diffs_mem {js ks : List IP} {p : IP} : p ∈ diffs js ks ↔ ∃ x ∈ js, ∃ y ∈ ks, (x.1 - y.1, x.2 - y.2) = p := by
  unfold diffs
  rw [dfs_mem]
  constructor
  · rintro (h | ⟨e, he, rfl⟩)
    · cases h
    · obtain ⟨h1, h2⟩ := mem_pairs.mp he
      exact ⟨e.1, h1, e.2, h2, rfl⟩
  · rintro ⟨x, hx, y, hy, rfl⟩
    exact .inr ⟨(x, y), mem_pairs.mpr ⟨hx, hy⟩, rfl⟩
theorem diffs_pd {js ks : List IP} (h1 : ∀ p ∈ js, Pb p) (h2 : ∀ p ∈ ks, Pb p) : ∀ p ∈ diffs js ks, Pd p := fun p hp => by
  obtain ⟨x, hx, y, hy, rfl⟩ := diffs_mem.mp hp
  exact pb_diff (h1 x hx) (h2 y hy)
theorem rdiffs_ok {x y : List Int} (hx : patL x) (hy : patL y) : (∀ p ∈ rdiffs x y, Pd p) ∧ (rdiffs x y).length ≤ 2500 := by
  refine ⟨diffs_pd (pat_pb hx) (pat_pb hy), ?_⟩
  unfold rdiffs diffs
  refine Nat.le_trans (dfs_len _ _) ?_
  rw [pairs_len, jointsM_len, jointsM_len, List.length_nil, Nat.zero_add]
  have h1 := hx.2.1
  have h2 := hy.2.1
  exact Nat.le_trans (Nat.mul_le_mul (show x.length - 1 ≤ 50 by omega) (show y.length - 1 ≤ 50 by omega)) (by decide)
theorem good_mem : ∀ (n : Nat) (r : List Int), goodRows n r = true → ∀ x ∈ rowsFrom n r, patL x
  | 0, _, h, _, _ => by cases h
  | n + 1, r, h, x, hx => by
    obtain ⟨m, hm, h1, h2, h3, h4, h5⟩ := good_at h
    cases hm
    rw [h4] at hx
    rcases List.mem_cons.mp hx with rfl | hx
    · refine ⟨?_, h2, h3⟩
      cases x with
      | nil => exact absurd rfl h1
      | cons => simp
    · cases q : nextRow r with
      | none => rw [q] at hx; cases hx
      | some r' =>
        rw [q] at hx h5
        exact good_mem n r' h5 x hx
theorem lineRow_len (r : Rat) (p : IP) : (lineRow r p).length = 3 := rfl
theorem nearL_mem {ds : List IP} {r : Rat} (h : ds ≠ []) : ∃ p ∈ ds, nearL ds r = lineRow r p := by
  cases ds with
  | nil => exact absurd rfl h
  | cons p q =>
    have := minR_mem (lineRow r p) (q.map (lineRow r))
    rcases List.mem_cons.mp this with e | e
    · exact ⟨p, List.mem_cons_self .., e⟩
    · obtain ⟨x, hx, e⟩ := List.mem_map.mp e
      exact ⟨x, List.mem_cons_of_mem _ hx, e.symm⟩
def coupOk (c : Coup) : Prop := c.2.2 ≠ [] ∧ c.2.2.length ≤ 3000 ∧ ∀ p ∈ c.2.2, Pd p
def lineInv (b : List Int) : Prop := ∃ g s l : Int, b = [g, s, l] ∧ s.natAbs ≤ 200 ∧ l.natAbs ≤ 200
theorem lineSt_inv {r : Rat} {b : List Int} {c : Coup} (hb : lineInv b) (hc : coupOk c) : lineInv (lineSt r b c) := by
  unfold lineSt
  split
  · obtain ⟨p, hp, e⟩ := nearL_mem (r := r) hc.1
    rw [e]
    exact ⟨_, p.1, p.2, rfl, hc.2.2 p hp⟩
  · exact hb
theorem lineBest_inv {r : Rat} : ∀ (cs : List Coup) (b : List Int), lineInv b → (∀ c ∈ cs, coupOk c) → lineInv (cs.foldl (lineSt r) b)
  | [], b, hb, _ => hb
  | c :: cs, b, hb, hc => lineBest_inv cs _ (lineSt_inv hb (hc c (List.mem_cons_self ..))) fun d hd => hc d (List.mem_cons_of_mem _ hd)
section
variable {P : Program} {w : World} {K : PySem.W.Frag} {mg : Str → Option Value} {base : Heap}


abbrev N_differences_of : List Str := ["one", "other", "found", "seconds", "joint", "mate"]
theorem sc_differences_of : FnScope N_differences_of ["one", "other"] (defScope JA.s_differences_of) := ⟨rfl, rfl, rfl, by decide +kernel, rfl, by decide +kernel, by decide +kernel⟩
def R_differences_of : List D → D → Prop := fun ds d => ∃ (x y : D) (ns ms : List Int), ds = [x, y] ∧ x.items = some (ns.map D.int) ∧ patL ns ∧ y.items = some (ms.map D.int) ∧ patL ms ∧ d = .lst ((rdiffs ns ms).map pairD)
theorem c_differences_of (T : Tx K mg) : Cal P w K mg base 6 "differences_of" (spV K R_differences_of) [] := by
  refine cal_V (T.glo 30) (T.says.1.def_ 30) sc_differences_of (fun ds d h => ?_) (fun _ _ _ _ _ _ us hl => match us, hl with | [_, _], _ => rfl) fun cdv A outer s H E hRm ds d h => ?_
  · obtain ⟨x, y, ns, ms, rfl, _⟩ := h
    rfl
  · obtain ⟨x, y, ns, ms, rfl, hx, hns, hy, hms, rfl⟩ := h
    have pp : ∀ (p : IP), (pairD p).at 0 = some (.int p.1) ∧ (pairD p).at 1 = some (.int p.2) := fun _ => ⟨rfl, rfl⟩
    have kd : ∀ (l : List IP), (l.map fun q => (kk q, D.bl true)).map (fun kv => D.tup (kv.1.map keyD)) = l.map pairD := fun l => by rw [List.map_map]; rfl
    refine ⟨_, (pss_cons (ps_set (i := 2) sc_differences_of.nd rfl (by first | exact Or.inl rfl | exact Or.inr rfl) pe_dnewT)
    (pss_cons (ps_set (i := 3) sc_differences_of.nd rfl (by first | exact Or.inl rfl | exact Or.inr rfl) (C8.pe_c (c_pattern_joints T) hRm (by decide) (by rfl) (pa_cons (pv 1) pa_nil)))
    (pss_cons (ps_for PassesOwn.never rfl (pi_tup (C8.pe_c (c_pattern_joints T) hRm (by decide) (by rfl) (pa_cons (pv 0) pa_nil))) (pg_name (i := 4) sc_differences_of.nd rfl (by first | exact Or.inl rfl | exact Or.inr rfl)) (pss_one (ps_for PassesOwn.never rfl (pi_tup (pv 3)) (pg_name (i := 5) sc_differences_of.nd rfl (by first | exact Or.inl rfl | exact Or.inr rfl)) (pss_one (ps_dput (hu_of hRm) (pv 2) (pe_tup (pa_cons (pe_op op_sub (pe_ix ix_seq (pv 4) pe_int (fun _ _ => rfl)) (pe_ix ix_seq (pv 5) pe_int (fun _ _ => rfl))) (pa_cons (pe_op op_sub (pe_ix ix_seq (pv 4) pe_int (fun _ _ => rfl)) (pe_ix ix_seq (pv 5) pe_int (fun _ _ => rfl))) pa_nil))) pe_bl rfl)))))
    (pss_one (ps_ret (pe_callTy (call_listDT rfl) (by rfl) (T.free 96) (by decide +kernel) (pa_cons (pv 2) pa_nil))))))), ?_⟩
    refine s_seq (s_newT ?_)
    refine s_seq (s_asgV (e_joints (e_var rfl) hy hms) ?_)
    have hlen : (jointsM 0 0 ns).length ≤ 50 ∧ (jointsM 0 0 ms).length ≤ 50 := by
      rw [jointsM_len, jointsM_len]
      have h1 := hns.2.1
      have h2 := hms.2.1
      omega
    have ej : Ev K _ [.val x, .val y, .own (.dT []), .val (.tup ((jointsM 0 0 ms).map pairD)), .no, .no] _ := e_joints (E := C8.E0) (e_var (i := 0) rfl) hx hns
    unfold rdiffs diffs
    generalize jointsM 0 0 ns = js at *
    generalize jointsM 0 0 ms = ks at *
    refine s_mid (fun Γ => ∃ u v, Γ = [.val x, .val y, .own (.dT (((pairs js ks).foldl dfs []).map fun q => (kk q, D.bl true))), .val (.tup (ks.map pairD)), u, v]) ?_ fun Γ' hΓ => ?_
    · refine s_forL (vs := [4]) js pairD (fun pre Γ => ∃ u v, Γ = [.val x, .val y, .own (.dT (((pairs pre ks).foldl dfs []).map fun q => (kk q, D.bl true))), .val (.tup (ks.map pairD)), u, v]) (i_tup ej) ⟨.no, .no, rfl⟩ (fun pre p post Γ1 e iv => ⟨_, g_name, ?_⟩) fun Γ1 iv => iv
      obtain ⟨u, v, rfl⟩ := iv
      refine s_forL (vs := [5]) ks pairD (fun pre2 Γ => ∃ v, Γ = [.val x, .val y, .own (.dT (((pairs pre ks ++ pre2.map fun q => (p, q)).foldl dfs []).map fun q => (kk q, D.bl true))), .val (.tup (ks.map pairD)), .val (pairD p), v]) (i_tup (e_var rfl)) ⟨v, by rw [List.map_nil, List.append_nil]; rfl⟩ (fun pre2 q post2 Γ1 e2 iv => ⟨_, g_name, ?_⟩) fun Γ1 iv => ?_
      · obtain ⟨v, rfl⟩ := iv
        rw [show (pairs pre ks ++ (pre2 ++ [q]).map fun q => (p, q)).foldl dfs [] = addD ((pairs pre ks ++ pre2.map fun q => (p, q)).foldl dfs []) (dif (p, q)) by rw [List.map_append, ← List.append_assoc, List.foldl_append]; rfl, ← put_add]
        refine s_putT (ks := kk (dif (p, q))) rfl e_bl (ea_cons (e_op (e_op (e_var rfl) e_int (ro_ix (pp p).1)) (e_op (e_var rfl) e_int (ro_ix (pp q).1)) ro_sub) (ea_cons (e_op (e_op (e_var rfl) e_int (ro_ix (pp p).2)) (e_op (e_var rfl) e_int (ro_ix (pp q).2)) ro_sub) ea_nil)) (of_decide_eq_true rfl) ?_ ⟨_, Le.refl _, _, rfl⟩
        rw [List.length_map]
        have h1 := dfs_len (pairs pre ks ++ pre2.map fun q => (p, q)) []
        rw [List.length_append, pairs_len, List.length_map, List.length_nil] at h1
        have h2 : pre.length * ks.length ≤ 50 * 50 := Nat.mul_le_mul (by have := hlen.1; rw [e, List.length_append] at this; omega) hlen.2
        have h3 : pre2.length ≤ 50 := by have := hlen.2; rw [e2, List.length_append] at this; omega
        omega
      · obtain ⟨v, rfl⟩ := iv
        rw [pairs_snoc]
        exact ⟨_, Le.refl _, _, _, rfl⟩
    · obtain ⟨u, v, rfl⟩ := hΓ
      refine s_ret (EL.ev (e_imp' (l_listDT rfl) (kd _))) fun d hd => hd
theorem e_diffs {Γ : List S} {ta tb : TE} {x y : D} {ns ms : List Int} {E : XK} (h1 : Ev K ta Γ x) (h2 : Ev K tb Γ y) (hx : x.items = some (ns.map D.int)) (hn : patL ns) (hy : y.items = some (ms.map D.int)) (hm : patL ms) : Ev K (tCall (spV K R_differences_of) [] E (tCons ta (tCons tb tNil))) Γ (.lst ((rdiffs ns ms).map pairD)) :=
  e_call (ea_cons h1 (ea_cons h2 ea_nil)) ⟨x, y, ns, ms, rfl, hx, hn, hy, hm, rfl⟩

abbrev N_nearest_line : List Str := ["differences", "ratio", "shorts", "longs"]
theorem sc_nearest_line : FnScope N_nearest_line ["differences", "ratio"] (defScope JA.s_nearest_line) := ⟨rfl, rfl, rfl, by decide +kernel, rfl, by decide +kernel, by decide +kernel⟩
def R_nearest_line : List D → D → Prop := fun ds d => ∃ (l : List IP) (r : Rat), ds = [.lst (l.map pairD), rat r] ∧ l ≠ [] ∧ l.length ≤ 3000 ∧ (∀ p ∈ l, Pd p) ∧ Sr 3000 r ∧ d = row (nearL l r)
theorem c_nearest_line (T : Tx K mg) : Cal P w K mg base 1 "nearest_line" (spV K R_nearest_line) [] := by
  refine cal_V (T.glo 32) (T.says.1.def_ 32) sc_nearest_line (fun ds d h => ?_) (fun _ _ _ _ _ _ us hl => match us, hl with | [_, _], _ => rfl) fun cdv A outer s H E hRm ds d h => ?_
  · obtain ⟨l, r, rfl, _⟩ := h
    rfl
  · obtain ⟨l, r, rfl, hne, hz, hpd, hr, rfl⟩ := h
    refine ⟨_, (pss_one (ps_ret (pe_callB (cr_minRows rfl hRm.units) (by rfl) (T.free 98) (by decide +kernel) (pa_cons (pe_lc (own := [("shorts", 2), ("longs", 3)]) (g := gTup K 2 (gCons (gName 2) (gCons (gName 3) gNil))) (by rfl) sc_nearest_line.nd (pi_list (pv 0)) (blkOk_by (own := [("shorts", 2), ("longs", 3)]) (N := N_nearest_line) (sc := defScope JA.s_nearest_line) (by decide +kernel)) (fun _ _ _ _ _ => (pg_tup rfl (pgs_cons (pg_name (i := 2) sc_nearest_line.nd rfl (by first | exact Or.inl rfl | exact Or.inr rfl)) (pgs_cons (pg_name (i := 3) sc_nearest_line.nd rfl (by first | exact Or.inl rfl | exact Or.inr rfl)) pgs_nil)))) (fun _ _ _ _ _ => pts_nil) (fun _ _ _ _ _ => (pe_tup (pa_cons (pe_callB call_absX (by rfl) (T.free 88) (by decide +kernel) (pa_cons (pe_op (op_addXK (K := K) (by rfl)) (pe_op op_mulX (pv 2) (pe_ix (ix_seqK (K := K) (by rfl)) (pv 1) pe_int (fun _ _ => rfl))) (pe_op op_mulX (pv 3) (pe_ix (ix_seqK (K := K) (by rfl)) (pv 1) pe_int (fun _ _ => rfl)))) pa_nil)) (pa_cons (pv 2) (pa_cons (pv 3) pa_nil)))))) pa_nil)))), ?_⟩
    have hm : Rc K (rMinRows K) [.lst (l.map fun p => row (lineRow r p))] fun u => u = row (nearL l r) := by
      cases l with
      | nil => exact absurd rfl hne
      | cons p q =>
        have := rc_minRows (K := K) (x := lineRow r p) (l := q.map (lineRow r)) (m := 3) fun ns hns => by
          rcases List.mem_cons.mp hns with rfl | hns
          · rfl
          · obtain ⟨x, _, rfl⟩ := List.mem_map.mp hns
            rfl
        rw [List.map_cons, List.map_map] at this
        exact this
    refine s_ret (e_cb (ea_cons (l_map l pairD (fun p => row (lineRow r p)) (i_list (e_var rfl)) (by omega) fun p hp => ⟨_, g_tup (gs_cons g_name (gs_cons g_name gs_nil)), ?_⟩).ev ea_nil) hm) fun d hd => hd
    have hp' := hpd p hp
    exact e_tup (ea_cons (e_cb (ea_cons (e_op (e_op (e_var rfl) (e_op (e_var rfl) e_int (ro_ix rfl)) (ro_mul (Sz.lit (by have := hp'.1; omega) (by decide)) (hr.2.mono (by decide)))) (e_op (e_var rfl) (e_op (e_var rfl) e_int (ro_ix rfl)) (ro_mul (Sz.lit (by have := hp'.2; omega) (by decide)) (hr.1.mono (by decide)))) ro_add) ea_nil) rc_abs) (ea_cons (e_var rfl) (ea_cons (e_var rfl) ea_nil))) (of_decide_eq_true rfl)

abbrev N_line_at : List Str := ["couples", "ratio", "best", "couple", "start", "rise"]
theorem sc_line_at : FnScope N_line_at ["couples", "ratio"] (defScope JA.s_line_at) := ⟨rfl, rfl, rfl, by decide +kernel, rfl, by decide +kernel, by decide +kernel⟩
def R_line_at : List D → D → Prop := fun ds d => ∃ (cs : List Coup) (r : Rat), ds = [.lst (cs.map coupD), rat r] ∧ (∀ c ∈ cs, coupOk c) ∧ Sr 3000 r ∧ d = pairD (lineAt cs r)
theorem c_line_at (T : Tx K mg) : Cal P w K mg base 2 "line_at" (spV K R_line_at) [] := by
  refine cal_V (T.glo 34) (T.says.1.def_ 34) sc_line_at (fun ds d h => ?_) (fun _ _ _ _ _ _ us hl => match us, hl with | [_, _], _ => rfl) fun cdv A outer s H E hRm ds d h => ?_
  · obtain ⟨l, r, rfl, _⟩ := h
    rfl
  · obtain ⟨cs, r, rfl, hok, hr, rfl⟩ := h
    refine ⟨_, (pss_cons (ps_set (i := 2) sc_line_at.nd rfl (by first | exact Or.inl rfl | exact Or.inr rfl) (pe_tup (pa_cons (pe_un un_neg pe_int) (pa_cons pe_int (pa_cons pe_int pa_nil)))))
    (pss_cons (ps_for PassesOwn.never rfl (pi_list (pv 0)) (pg_name (i := 3) sc_line_at.nd rfl (by first | exact Or.inl rfl | exact Or.inr rfl)) (pss_one (ps_set (i := 2) sc_line_at.nd rfl (by first | exact Or.inl rfl | exact Or.inr rfl) (pe_callB (cr_max2Rows rfl hRm.units) (by rfl) (T.free 97) (by decide +kernel) (pa_cons (pv 2) (pa_cons (C8.pe_c (c_nearest_line T) hRm (by decide) (by rfl) (pa_cons (pe_ix ix_seq (pv 3) pe_int (fun _ _ => rfl)) (pa_cons (pv 1) pa_nil))) pa_nil))))))
    (pss_cons (ps_par (i := 4) (j := 5) (by rfl) sc_line_at.nd rfl rfl (by decide) rfl rfl (pa_cons (pe_ix ix_seq (pv 2) pe_int (fun _ _ => rfl)) (pa_cons (pe_ix ix_seq (pv 2) pe_int (fun _ _ => rfl)) pa_nil)) (by rfl))
    (pss_cons (ps_if (pt_cmpR (op_lt) (pe_op op_addX (pe_op op_mulX (pv 4) (pe_ix ix_seq (pv 1) pe_int (fun _ _ => rfl))) (pe_op op_mulX (pv 5) (pe_ix ix_seq (pv 1) pe_int (fun _ _ => rfl)))) pe_int (nomark _)) (pss_one (ps_ret (pe_tup (pa_cons (pe_un un_neg (pv 4)) (pa_cons (pe_un un_neg (pv 5)) pa_nil))))) pss_nil)
    (pss_one (ps_ret (pe_tup (pa_cons (pv 4) (pa_cons (pv 5) pa_nil))))))))), ?_⟩
    have i0 : lineInv [-1, 0, 0] := ⟨-1, 0, 0, rfl, by decide, by decide⟩
    refine s_seq (s_asgV (d := row [-1, 0, 0]) (e_tup (ea_cons (e_un e_int ru_neg) (ea_cons e_int (ea_cons e_int ea_nil))) (of_decide_eq_true rfl)) ?_)
    refine s_mid (fun Γ => ∃ u v t, Γ = [.val (.lst (cs.map coupD)), .val (rat r), .val (row (lineBest cs r)), u, v, t]) ?_ fun Γ' hΓ => ?_
    · refine s_forL (vs := [3]) cs coupD (fun pre Γ => ∃ u v t, Γ = [.val (.lst (cs.map coupD)), .val (rat r), .val (row (pre.foldl (lineSt r) [-1, 0, 0])), u, v, t]) (i_list (e_var rfl)) ⟨.no, .no, .no, rfl⟩ (fun pre c post Γ1 e iv => ⟨_, g_name, ?_⟩) fun Γ1 iv => iv
      obtain ⟨u, v, t, rfl⟩ := iv
      have hc := hok c (by rw [e]; simp)
      obtain ⟨g, s1, l1, hb, _⟩ := lineBest_inv (r := r) pre [-1, 0, 0] i0 fun d hd => hok d (by rw [e]; simp [hd])
      obtain ⟨p, _, hn⟩ := nearL_mem (r := r) hc.1
      rw [List.foldl_append, List.foldl_cons, List.foldl_nil]
      refine s_asgV (e_cb (ea_cons (e_var rfl) (ea_cons (e_call (ea_cons (e_op (e_var rfl) e_int (ro_ix rfl)) (ea_cons (e_var rfl) ea_nil)) ⟨c.2.2, r, rfl, hc.1, hc.2.1, hc.2.2, hr, rfl⟩) ea_nil)) (rc_max2Rows (by rw [hb, hn]; rfl))) ⟨_, Le.refl _, _, _, _, rfl⟩
    · obtain ⟨u, v, t, rfl⟩ := hΓ
      obtain ⟨g, s1, l1, hb, h1, h2⟩ := lineBest_inv (r := r) cs [-1, 0, 0] i0 hok
      unfold lineAt
      rw [show lineBest cs r = [g, s1, l1] from hb]
      refine s_seq (s_par (ea_cons (e_op (e_var rfl) e_int (ro_ix rfl)) (ea_cons (e_op (e_var rfl) e_int (ro_ix rfl)) ea_nil)) ?_)
      refine s_seq (s_ifB (t_test (e_op (e_op (e_op (e_var rfl) (e_op (e_var rfl) e_int (ro_ix rfl)) (ro_mul (Sz.lit (by omega) (by decide)) (hr.2.mono (by decide)))) (e_op (e_var rfl) (e_op (e_var rfl) e_int (ro_ix rfl)) (ro_mul (Sz.lit (by omega) (by decide)) (hr.1.mono (by decide)))) ro_add) e_int ro_lt)) (fun h => ?_) (fun h => s_next ?_))
      · have h' : s1 * r.den + l1 * r.num < 0 := of_decide_eq_true h
        rw [show lineOf [g, s1, l1] r = (-s1, -l1) from if_pos h']
        exact s_retV (e_tup (ea_cons (e_un (e_var rfl) ru_neg) (ea_cons (e_un (e_var rfl) ru_neg) ea_nil)) (of_decide_eq_true rfl)) rfl
      · have h' : ¬ s1 * r.den + l1 * r.num < 0 := of_decide_eq_false h
        rw [show lineOf [g, s1, l1] r = (s1, l1) from if_neg h']
        exact s_retV (e_tup (ea_cons (e_var rfl) (ea_cons (e_var rfl) ea_nil)) (of_decide_eq_true rfl)) rfl
theorem e_lineAt {Γ : List S} {ta tb : TE} {cs : List Coup} {r : Rat} {E : XK} (h1 : Ev K ta Γ (.lst (cs.map coupD))) (h2 : Ev K tb Γ (rat r)) (hok : ∀ c ∈ cs, coupOk c) (hr : Sr 3000 r) : Ev K (tCall (spV K R_line_at) [] E (tCons ta (tCons tb tNil))) Γ (pairD (lineAt cs r)) :=
  e_call (ea_cons h1 (ea_cons h2 ea_nil)) ⟨cs, r, rfl, hok, hr, rfl⟩
end
end JD
set_option maxHeartbeats 4000000
namespace JD
open PySem PySem.Spec PyProof.Rows L2
open C8 (Cal Mak)
/-! ### the couples of counts -/
theorem eqv_pair (a b : IP) : PyData.eqv (pairD a).py (pairD b).py = decide (a = b) := by
  unfold pairD
  simp only [D.py, D.pyAll, PyData.eqv, PyData.eqvAll, Bool.and_true]
  obtain ⟨a1, a2⟩ := a
  obtain ⟨b1, b2⟩ := b
  by_cases h1 : a1 = b1
  · by_cases h2 : a2 = b2
    · subst h1 h2; simp
    · simp [h1, h2]
  · simp [h1]
theorem shp_pair (n : Nat) (p : IP) : D.shp (n + 1) (pairD p) = true := by
  unfold pairD
  simp [D.shp, D.shpAll]
theorem any_pair (l : List IP) (p : IP) : ((D.pyAll (l.map pairD)).any fun z => PyData.eqv z (pairD p).py) = decide (p ∈ l) := by
  induction l with
  | nil => simp [D.pyAll]
  | cons q l ih =>
    rw [List.map_cons, D.pyAll, List.any_cons, ih, eqv_pair]
    simp only [List.mem_cons, Bool.decide_or]
    congr 1
    exact decide_eq_decide.mpr eq_comm
theorem row_at0 {x : List Int} (h : 1 ≤ x.length) : (row x).at 0 = some (.int (x.headD 0)) := by
  cases x with
  | nil => cases h
  | cons a r =>
    show atI (D.int a :: r.map D.int) 0 = _
    rw [atI_0]
    rfl
theorem row_atL {x : List Int} (h : 1 ≤ x.length) : (row x).at (-1) = some (.int (x.getLastD 0)) := by
  rcases List.eq_nil_or_concat x with rfl | ⟨r, a, rfl⟩
  · cases h
  · rw [List.concat_eq_append]
    show atI ((r ++ [a]).map D.int) (-1) = _
    rw [List.map_append]
    rw [show [a].map D.int = [D.int a] from rfl, atI_last]
    simp
section
variable {P : Program} {w : World} {K : PySem.W.Frag} {mg : Str → Option Value} {base : Heap}

abbrev N_likely_couples : List Str := ["a_count", "b_count", "rows", "found", "one", "other", "differences"]
theorem sc_likely_couples : FnScope N_likely_couples ["a_count", "b_count"] (defScope JA.s_likely_couples) := ⟨rfl, rfl, rfl, by decide +kernel, rfl, by decide +kernel, by decide +kernel⟩
def R_likely_couples : List D → D → Prop := fun ds d => ∃ a b : Int, ds = [.int a, .int b] ∧ 0 ≤ a ∧ 0 ≤ b ∧ 1 ≤ a + b ∧ a + b ≤ 8 ∧ goodRows 200 (startRow a b) = true ∧ d = .lst ((couplesAll a b).map coupD)
theorem c_likely_couples (T : Tx K mg) : Cal P w K mg base 10 "likely_couples" (spV K R_likely_couples) [] := by
  refine cal_V (T.glo 31) (T.says.1.def_ 31) sc_likely_couples (fun ds d h => ?_) (fun _ _ _ _ _ _ us hl => match us, hl with | [_, _], _ => rfl) fun cdv A outer s H E hRm ds d h => ?_
  · obtain ⟨a, b, rfl, _⟩ := h
    rfl
  · obtain ⟨a, b, rfl, ha, hb, h1, h8, hg, rfl⟩ := h
    refine ⟨_, (pss_cons (ps_set (i := 2) sc_likely_couples.nd rfl (by first | exact Or.inl rfl | exact Or.inr rfl) (pe_lg (c_patterns_of T) hRm (by decide) (by rfl) (by rfl) (T.free 96) (by decide +kernel) (pa_cons (pv 0) (pa_cons (pv 1) pa_nil))))
    (pss_cons (ps_if (pt_cmpR (op_eqD hRm.units) (pe_callB call_lenX (by rfl) (T.free 95) (by decide +kernel) (pa_cons (pv 2) pa_nil)) pe_int (nomark _)) (pss_one (ps_ret (pe_lst (pa_cons (pe_tup (pa_cons (pe_ix ix_seq (pv 2) pe_int (fun _ _ => rfl)) (pa_cons (pe_ix ix_seq (pv 2) pe_int (fun _ _ => rfl)) (pa_cons (C8.pe_c (c_differences_of T) hRm (by decide) (by rfl) (pa_cons (pe_ix ix_seq (pv 2) pe_int (fun _ _ => rfl)) (pa_cons (pe_ix ix_seq (pv 2) pe_int (fun _ _ => rfl)) pa_nil))) pa_nil)))) pa_nil)))) pss_nil)
    (pss_cons (ps_set (i := 3) sc_likely_couples.nd rfl (by first | exact Or.inl rfl | exact Or.inr rfl) (pe_lst pa_nil))
    (pss_cons (ps_for PassesOwn.never rfl (pi_list (pv 2)) (pg_name (i := 4) sc_likely_couples.nd rfl (by first | exact Or.inl rfl | exact Or.inr rfl)) (pss_one (ps_for PassesOwn.never rfl (pi_list (pv 2)) (pg_name (i := 5) sc_likely_couples.nd rfl (by first | exact Or.inl rfl | exact Or.inr rfl)) (pss_one (ps_if (PW.pt (pw_and (pt_cmpR (op_lt) (pe_ix ix_seq (pv 4) pe_int (fun _ _ => rfl)) (pe_ix ix_seq (pv 5) pe_int (fun _ _ => rfl)) (nomark _)) (pw_and1 (pt_cmpR (op_neD hRm.units) (pe_ix ix_seq (pv 4) (pe_un un_neg pe_int) (fun _ _ => rfl)) (pe_ix ix_seq (pv 5) (pe_un un_neg pe_int) (fun _ _ => rfl)) (nomark _))))) (pss_cons (ps_set (i := 6) sc_likely_couples.nd rfl (by first | exact Or.inl rfl | exact Or.inr rfl) (C8.pe_c (c_differences_of T) hRm (by decide) (by rfl) (pa_cons (pv 4) (pa_cons (pv 5) pa_nil))))
    (pss_one (ps_if (pt_cmpR (op_notInD (u65 hRm)) (pe_tup (pa_cons pe_int (pa_cons pe_int pa_nil))) (pv 6) (by rfl)) (pss_one (ps_expr (pe_bm PySem.F.plainAttrs_list PySem.F.slot_list_append PySem.F.type_list_append mt_append (pv 3) (pa_cons (pe_tup (pa_cons (pv 4) (pa_cons (pv 5) (pa_cons (pv 6) pa_nil)))) pa_nil)))) pss_nil))) pss_nil)))))
    (pss_one (ps_ret (pv 3))))))), ?_⟩
    have hpat : ∀ r ∈ rowsM a b, patL r := good_mem 200 _ hg
    have hlen : (rowsM a b).length ≤ 200 := rowsFrom_len _ _
    refine s_seq (s_asgV (l_listG (ea_cons (e_var rfl) (ea_cons (e_var rfl) ea_nil)) ⟨a, b, rfl, ha, hb, h1, h8, hg, rfl⟩).ev ?_)
    have hlr : Rc K (rLenX K) [D.lst ((rowsM a b).map row)] fun u => u = .int ((rowsM a b).length : Int) := rc_len (by simp [D.len])
    by_cases hone : (rowsM a b).length = 1
    · obtain ⟨r, hr⟩ := List.length_eq_one_iff.mp hone
      have hp := hpat r (by rw [hr]; simp)
      refine s_seq (s_ifT (t_imp (t_test (e_op (e_cb (ea_cons (e_var rfl) ea_nil) hlr) e_int ro_eq)) fun x e => e.trans (decide_eq_true (by rw [hone]; rfl))) ?_)
      have h0 : (D.lst ((rowsM a b).map row)).at 0 = some (row r) := by
        rw [hr]
        exact atI_0
      have hi : (row r).items = some (r.map D.int) := rfl
      refine s_retV (e_lst (ea_cons (e_tup (ea_cons (e_op (e_var rfl) e_int (ro_ix h0)) (ea_cons (e_op (e_var rfl) e_int (ro_ix h0)) (ea_cons (e_diffs (e_op (e_var rfl) e_int (ro_ix h0)) (e_op (e_var rfl) e_int (ro_ix h0)) hi hp hi hp) ea_nil))) (of_decide_eq_true rfl)) ea_nil) (of_decide_eq_true rfl)) ?_
      unfold couplesAll
      rw [hr]
      rfl
    · refine s_seq (s_ifF (t_imp (t_test (e_op (e_cb (ea_cons (e_var rfl) ea_nil) hlr) e_int ro_eq)) fun x e => e.trans (decide_eq_false (by omega))) (s_next ?_))
      have eC : couplesAll a b = couplesM (rowsM a b) := by
        unfold couplesAll
        split
        · rename_i r hr
          rw [hr] at hone
          exact absurd rfl hone
        · rfl
      rw [eC]
      unfold couplesM
      generalize rowsM a b = rs at *
      refine s_seq (s_asgLV (l_lst ea_nil (of_decide_eq_true rfl)) ?_)
      refine s_mid (fun Γ => ∃ u v t, Γ = [.val (.int a), .val (.int b), .val (.lst (rs.map row)), .own (.lst (((pairs rs rs).filterMap coupOf).map coupD)), u, v, t]) ?_ fun Γ' hΓ => ?_
      · refine s_forL (vs := [4]) rs row (fun pre Γ => ∃ u v t, Γ = [.val (.int a), .val (.int b), .val (.lst (rs.map row)), .own (.lst (((pairs pre rs).filterMap coupOf).map coupD)), u, v, t]) (i_list (e_var rfl)) ⟨.no, .no, .no, rfl⟩ (fun pre x post Γ1 e iv => ⟨_, g_name, ?_⟩) fun Γ1 iv => iv
        obtain ⟨u, v, t, rfl⟩ := iv
        refine s_forL (vs := [5]) rs row (fun pre2 Γ => ∃ v t, Γ = [.val (.int a), .val (.int b), .val (.lst (rs.map row)), .own (.lst (((pairs pre rs ++ pre2.map fun y => (x, y)).filterMap coupOf).map coupD)), .val (row x), v, t]) (i_list (e_var rfl)) ⟨v, t, by rw [List.map_nil, List.append_nil]; rfl⟩ (fun pre2 y post2 Γ1 e2 iv => ⟨_, g_name, ?_⟩) fun Γ1 iv => ?_
        · obtain ⟨v, t, rfl⟩ := iv
          have hx := hpat x (by rw [e]; simp)
          have hy := hpat y (by rw [e2]; simp)
          have hxi : (row x).items = some (x.map D.int) := rfl
          have hyi : (row y).items = some (y.map D.int) := rfl
          have hz : (((pairs pre rs ++ pre2.map fun y => (x, y)).filterMap coupOf).map coupD).length < 100000 := by
            rw [List.length_map]
            refine Nat.lt_of_le_of_lt (List.length_filterMap_le _ _) ?_
            rw [List.length_append, pairs_len, List.length_map]
            have h2 : pre.length * rs.length ≤ 200 * 200 := Nat.mul_le_mul (by rw [e, List.length_append] at hlen; omega) hlen
            have h3 : pre2.length ≤ 200 := by rw [e2, List.length_append] at hlen; omega
            omega
          rw [show (pairs pre rs ++ (pre2 ++ [y]).map fun y => (x, y)).filterMap coupOf = ((pairs pre rs ++ pre2.map fun y => (x, y)).filterMap coupOf) ++ ([(x, y)].filterMap coupOf) by rw [List.map_append, ← List.append_assoc, List.filterMap_append]; rfl, List.map_append]
          refine s_ifB (t_and (t_test (e_op (e_op (e_var rfl) e_int (ro_ix (row_at0 hx.1))) (e_op (e_var rfl) e_int (ro_ix (row_at0 hy.1))) ro_lt)) fun _ => t_test (e_op (e_op (e_var rfl) (e_un e_int ru_neg) (ro_ix (row_atL hx.1))) (e_op (e_var rfl) (e_un e_int ru_neg) (ro_ix (row_atL hy.1))) ro_ne)) (fun c => ?_) fun c => ?_
          · refine s_seq (s_asgV (e_diffs (e_var rfl) (e_var rfl) hxi hx hyi hy) ?_)
            refine s_ifB (t_test (e_op (x := pairD (0, 0)) (e_tup (ea_cons e_int (ea_cons e_int ea_nil)) (of_decide_eq_true rfl)) (e_var rfl) (ro_notIn (shp_pair _ _) (shp_lst fun d hd => by obtain ⟨p, _, rfl⟩ := List.mem_map.mp hd; exact shp_pair _ _)))) (fun c2 => ?_) fun c2 => ?_
            · rw [any_pair] at c2
              have c2' : ¬ (decide (((0, 0) : IP) ∈ rdiffs x y) = true) := by simpa using c2
              have eO : [(x, y)].filterMap coupOf = [(x, y, rdiffs x y)] := by
                simp only [List.filterMap_cons, List.filterMap_nil]
                have : coupOf (x, y) = some (x, y, rdiffs x y) := by
                  unfold coupOf
                  rw [if_pos c, if_neg c2']
                rw [this]
              rw [eO]
              exact s_appV rfl (e_tup (ea_cons (e_var rfl) (ea_cons (e_var rfl) (ea_cons (e_var rfl) ea_nil))) (of_decide_eq_true rfl)) hz ⟨_, Le.refl _, _, _, rfl⟩
            · rw [any_pair] at c2
              have c2' : decide (((0, 0) : IP) ∈ rdiffs x y) = true := by simpa using c2
              have eO : [(x, y)].filterMap coupOf = [] := by
                simp only [List.filterMap_cons, List.filterMap_nil]
                have : coupOf (x, y) = none := by
                  unfold coupOf
                  rw [if_pos c, if_pos c2']
                rw [this]
              rw [eO, List.map_nil, List.append_nil]
              exact s_next ⟨_, Le.refl _, _, _, rfl⟩
          · have eO : [(x, y)].filterMap coupOf = [] := by
              simp only [List.filterMap_cons, List.filterMap_nil]
              have : coupOf (x, y) = none := by
                unfold coupOf
                rw [if_neg (by rw [c]; exact Bool.false_ne_true)]
              rw [this]
            rw [eO, List.map_nil, List.append_nil]
            exact s_next ⟨_, Le.refl _, _, _, rfl⟩
        · obtain ⟨v, t, rfl⟩ := iv
          rw [pairs_snoc]
          exact ⟨_, Le.refl _, _, _, _, rfl⟩
      · obtain ⟨u, v, t, rfl⟩ := hΓ
        exact s_frz 3 rfl (s_retV (e_var rfl) rfl)
end
end JD
set_option maxHeartbeats 4000000
namespace JD
open PySem PySem.Spec PyProof.Rows L2
/-- xs != [], whatever xs holds -/
def rNeN (K : PySem.W.Frag) : R2 := fun x y H Q => ∃ a b xs, x = .ref a ∧ y = .ref b ∧ SqL K H a xs ∧ SqL K H b [] ∧ Q (.bl (!xs.isEmpty)) H
theorem op_neN {X : Cx} (hu : X.A.units + 64 < cLine) : OpR X (compareOp .NotEq) (rNeN X.K) := by
  intro pins s σ H x y v u Q I rx ry h
  obtain ⟨a, b, xs, rfl, rfl, h1, h2, q⟩ := h
  obtain rfl : v = Value.ref a := rx
  obtain rfl : u = Value.ref b := ry
  obtain ⟨its, r1, p1, _⟩ := I.list h1
  obtain ⟨its2, r2, p2, _⟩ := I.list h2
  have e2 : its2 = [] := by
    have := Paired.length r2
    exact List.length_eq_zero_iff.mp this.symm
  subst e2
  have hl := Paired.length r1
  have hu' : X.A.units < cLine := by omega
  cases xs with
  | nil =>
    have : its = [] := List.length_eq_zero_iff.mp hl.symm
    subst this
    exact PySem.SeqAt.RcNeAt.lists (e := fun _ => true) p1.isList p2.isList rfl hu' (fun j h1 _ => by simp at h1) X.prog X.w _ _ ⟨.bl false, H, I, rfl, q⟩
  | cons z zs =>
    refine PySem.SeqAt.RcNeAt.lists_lengths p1.isList p2.isList ?_ hu' X.prog X.w _ _ ⟨.bl true, H, I, rfl, q⟩
    simp only [List.size_toArray, bne_iff_ne, ne_eq]
    rw [← hl]
    simp
section
variable {K : PySem.W.Frag} {Γ : List S}
theorem ro_neN {ds : List D} : Ro K (rNeN K) (.lst ds) (.lst []) fun u => u = .bl (!ds.isEmpty) := fun B H v w Q s r1 r2 k => by
  obtain ⟨a, xs, rfl, ha, ra⟩ := r1.ofLst
  obtain ⟨b, ys, rfl, hb, rb⟩ := r2.ofLst
  cases rb
  refine ⟨a, b, xs, rfl, rfl, .inl (.inl (s _ _ ha)), .inl (.inl (s _ _ hb)), ?_⟩
  have : xs.isEmpty = ds.isEmpty := by cases ra <;> rfl
  rw [this]
  exact k B H _ _ (Go.refl s hd_none) (.bl _) rfl
theorem t_neN {i : Nat} {ds : List D} (ei : Γ[i]? = some (.own (.lst ds))) : Et K (tTest (tOp (rNeN K) (tVar i) (tLst tNil))) Γ fun x => x = !ds.isEmpty := by
  have hl : i < Γ.length := (List.getElem?_eq_some_iff.mp ei).1
  exact t_peek ei (t_test (e_op (x := .lst ds) (y := .lst []) (e_var (by rw [List.getElem?_set_self hl])) (e_lst ea_nil (of_decide_eq_true rfl)) ro_neN))
end
/-! ### sorted -/
def insI (x : Int) : List Int → List Int
  | [] => [x]
  | y :: r => if x ≤ y then x :: y :: r else y :: insI x r
def isort : List Int → List Int
  | [] => []
  | x :: r => insI x (isort r)
theorem insI_perm (x : Int) : ∀ l, (insI x l).Perm (x :: l)
  | [] => .refl _
  | y :: r => by
    rw [insI]
    split
    · exact .refl _
    · exact ((insI_perm x r).cons y).trans (List.Perm.swap x y r)
theorem isort_perm : ∀ l, (isort l).Perm l
  | [] => .refl _
  | x :: r => by
    rw [isort]
    exact (insI_perm x _).trans ((isort_perm r).cons x)
theorem insI_sorted (x : Int) : ∀ l : List Int, l.Pairwise (· ≤ ·) → (insI x l).Pairwise (· ≤ ·)
  | [], _ => List.pairwise_singleton _ _
  | y :: r, h => by
    rw [insI]
    have h1 : ∀ z ∈ r, y ≤ z := fun z hz => List.rel_of_pairwise_cons h hz
    split
    · rename_i hx
      refine List.pairwise_cons.mpr ⟨fun z hz => ?_, h⟩
      rcases List.mem_cons.mp hz with rfl | hz
      · exact hx
      · exact Int.le_trans hx (h1 z hz)
    · rename_i hx
      refine List.pairwise_cons.mpr ⟨fun z hz => ?_, insI_sorted x r (List.Pairwise.of_cons h)⟩
      rcases List.mem_cons.mp ((insI_perm x r).mem_iff.mp hz) with rfl | hz
      · omega
      · exact h1 z hz
theorem isort_sorted : ∀ l : List Int, (isort l).Pairwise (· ≤ ·)
  | [] => List.Pairwise.nil
  | x :: r => insI_sorted x _ (isort_sorted r)
theorem sorted_unique : ∀ {a b : List Int}, a.Perm b → a.Pairwise (· ≤ ·) → b.Pairwise (· ≤ ·) → a = b
  | [], b, h, _, _ => (List.Perm.nil_eq h)
  | x :: a, [], h, _, _ => (List.Perm.eq_nil h)
  | x :: a, y :: b, h, ha, hb => by
    have e : x = y := by
      have h1 : x ∈ y :: b := h.mem_iff.mp (List.mem_cons_self ..)
      have h2 : y ∈ x :: a := h.mem_iff.mpr (List.mem_cons_self ..)
      rcases List.mem_cons.mp h1 with e | h1
      · exact e
      · rcases List.mem_cons.mp h2 with e | h2
        · exact e.symm
        · have q1 := List.rel_of_pairwise_cons ha h2
          have q2 := List.rel_of_pairwise_cons hb h1
          omega
    subst e
    rw [sorted_unique (List.Perm.cons_inv h) (List.Pairwise.of_cons ha) (List.Pairwise.of_cons hb)]
theorem sort_eq {a b : List Int} (h : a.Perm b) (s : a.Pairwise (· ≤ ·)) : a = isort b := sorted_unique (h.trans (isort_perm b).symm) s (isort_sorted b)
theorem rl_sortedE {K : PySem.W.Frag} {ns : List Int} : RcL K (rSortedI K) [.lst (ns.map D.int)] fun u => u = (isort ns).map D.int := fun B H vs Q s r k => rl_sorted B H vs Q s r fun B' H' p xs zs g n nb hp rr f => by
  obtain ⟨ns', h1, h2, h3⟩ := f
  exact k B' H' p xs zs g n nb hp rr (by rw [h3, sort_eq h1 h2])
/-! ### a dict of ratios by numbers -/
def putR (l : List (Int × Rat)) (k : Int) (r : Rat) : List (Int × Rat) :=
  if (l.any fun kv => decide (kv.1 = k)) = true then l.map (fun kv => if kv.1 = k then (kv.1, r) else kv) else l ++ [(k, r)]
def valR (l : List (Int × Rat)) (k : Int) : Option Rat := (l.find? fun kv => decide (kv.1 = k)).map (·.2)
def kvR (kv : Int × Rat) : Key × D := (.inl kv.1, .tup [.int kv.2.num, .int kv.2.den])
theorem putR_D (l : List (Int × Rat)) (k : Int) (r : Rat) : putD (l.map kvR) (.inl k) (.tup [.int r.num, .int r.den]) = (putR l k r).map kvR := by
  unfold putD putR
  have e : ((l.map kvR).any fun kv => decide (kv.1 = Sum.inl k)) = l.any fun kv => decide (kv.1 = k) := by
    rw [List.any_map]
    congr 1
    funext kv
    show decide ((Sum.inl kv.1 : Key) = Sum.inl k) = _
    exact decide_eq_decide.mpr ⟨fun h => Sum.inl.inj h, fun h => congrArg _ h⟩
  rw [e]
  split
  · rw [List.map_map, List.map_map]
    refine List.map_congr_left fun kv _ => ?_
    show (if (Sum.inl kv.1 : Key) = Sum.inl k then _ else _) = kvR (if kv.1 = k then _ else _)
    by_cases h : kv.1 = k
    · rw [if_pos h, if_pos (congrArg _ h)]
      rfl
    · rw [if_neg h, if_neg fun z => h (Sum.inl.inj z)]
  · rw [List.map_append]
    rfl
theorem valR_D (l : List (Int × Rat)) (k : Int) : valD (l.map kvR) (.inl k) = (valR l k).map fun r => .tup [.int r.num, .int r.den] := by
  unfold valD valR
  induction l with
  | nil => rfl
  | cons a l ih =>
    by_cases h : a.1 = k
    · rw [List.map_cons, List.find?_cons_of_pos (by simpa [kvR] using h), List.find?_cons_of_pos (by simpa using h)]
      rfl
    · rw [List.map_cons, List.find?_cons_of_neg (by simpa [kvR] using h), List.find?_cons_of_neg (by simpa using h)]
      exact ih
theorem valR_some {l : List (Int × Rat)} {k : Int} (h : k ∈ l.map (·.1)) : ∃ r, valR l k = some r ∧ ∃ kv ∈ l, kv.2 = r := by
  obtain ⟨kv, hkv, rfl⟩ := List.mem_map.mp h
  unfold valR
  cases q : l.find? fun x => decide (x.1 = kv.1) with
  | none => exact absurd (decide_eq_true rfl) (List.find?_eq_none.mp q kv hkv)
  | some x => exact ⟨x.2, rfl, x, List.mem_of_find?_eq_some q, rfl⟩
theorem putR_mem {l : List (Int × Rat)} {k : Int} {r : Rat} : ∀ kv ∈ putR l k r, kv ∈ l ∨ kv.2 = r := by
  intro kv hkv
  unfold putR at hkv
  split at hkv
  · obtain ⟨x, hx, rfl⟩ := List.mem_map.mp hkv
    split
    · exact .inr rfl
    · exact .inl hx
  · rcases List.mem_append.mp hkv with h | h
    · exact .inl h
    · rcases List.mem_singleton.mp h with rfl
      exact .inr rfl
theorem putR_len (l : List (Int × Rat)) (k : Int) (r : Rat) : (putR l k r).length ≤ l.length + 1 := by
  unfold putR
  split
  · rw [List.length_map]; omega
  · simp
/-- the values by ascending keys -/
def sortedR (l : List (Int × Rat)) : List Rat := (isort (l.map (·.1))).filterMap (valR l)
def rng (lo hi : Int) : List Int := (List.range (hi - lo).toNat).map fun (i : Nat) => lo + (i : Int)
theorem rng_D {lo hi : Int} : dints lo (hi - lo).toNat = (rng lo hi).map D.int := by
  unfold dints rng
  rw [List.map_map]
  rfl
theorem rng_mem {lo hi x : Int} (h : x ∈ rng lo hi) : lo ≤ x ∧ x < hi := by
  obtain ⟨i, hi, rfl⟩ := List.mem_map.mp h
  have := List.mem_range.mp hi
  omega
end JD
set_option maxHeartbeats 4000000
namespace JD
open PySem PySem.Spec PyProof.Rows L2
open C8 (Cal Mak)
/-! ### the profile -/
def entRow (acc : List (Int × Rat)) (a bot : Int) : List (Int × Rat) := (rng (bot + 1) (2 * a + 1)).foldl (fun acc top => putR acc (top * (720720 / bot)) (Rat.divInt top bot)) acc
def ents (a b : Int) : List (Int × Rat) := (rng 1 (2 * b + 1)).foldl (fun acc bot => entRow acc a bot) []
def bords (a b : Int) : List Rat := sortedR (ents a b)
structure Seg where
  low : Rat
  high : Option Rat
  start : Int
  rise : Int
def segF (p : Seg) : List (Str × D) := [(("low" : Str), rat p.low), (("high" : Str), ratO p.high), (("start" : Str), .int p.start), (("rise" : Str), .int p.rise)]
def segD (K : PySem.W.Frag) (p : Seg) : D := .ins (He.ga K "Segment") (segF p)
theorem entRow_ok {acc : List (Int × Rat)} {a bot : Int} (ha : a ≤ 8) (h0 : 1 ≤ bot) (hb : bot ≤ 16) (h : ∀ kv ∈ acc, Sr 20 kv.2) : (∀ kv ∈ entRow acc a bot, Sr 20 kv.2) ∧ (entRow acc a bot).length ≤ acc.length + 16 := by
  unfold entRow
  have key : ∀ (l : List Int) (acc : List (Int × Rat)), (∀ x ∈ l, 0 ≤ x ∧ x ≤ 16) → (∀ kv ∈ acc, Sr 20 kv.2) → (∀ kv ∈ l.foldl (fun acc top => putR acc (top * (720720 / bot)) (Rat.divInt top bot)) acc, Sr 20 kv.2) ∧ (l.foldl (fun acc top => putR acc (top * (720720 / bot)) (Rat.divInt top bot)) acc).length ≤ acc.length + l.length := by
    intro l
    induction l with
    | nil => intro acc _ h; exact ⟨h, by simp⟩
    | cons x l ih =>
      intro acc hx h
      have hx0 := hx x (List.mem_cons_self ..)
      obtain ⟨h1, h2⟩ := ih (putR acc (x * (720720 / bot)) (Rat.divInt x bot)) (fun y hy => hx y (List.mem_cons_of_mem _ hy)) fun kv hkv => by
        rcases putR_mem kv hkv with e | e
        · exact h kv e
        · rw [e]
          exact Sr.divInt (Sz.lit (by omega) (by decide)) (Sz.lit (by omega) (by decide)) (by omega)
      refine ⟨h1, Nat.le_trans h2 ?_⟩
      have := putR_len acc (x * (720720 / bot)) (Rat.divInt x bot)
      simp only [List.length_cons]
      omega
  obtain ⟨h1, h2⟩ := key (rng (bot + 1) (2 * a + 1)) acc (fun x hx => by have := rng_mem hx; omega) h
  refine ⟨h1, Nat.le_trans h2 ?_⟩
  unfold rng
  rw [List.length_map, List.length_range]
  omega
theorem ents_pre {a : Int} (ha : a ≤ 8) : ∀ (l : List Int) (acc : List (Int × Rat)), (∀ x ∈ l, 1 ≤ x ∧ x ≤ 16) → (∀ kv ∈ acc, Sr 20 kv.2) → (∀ kv ∈ l.foldl (fun acc bot => entRow acc a bot) acc, Sr 20 kv.2) ∧ (l.foldl (fun acc bot => entRow acc a bot) acc).length ≤ acc.length + 16 * l.length
  | [], acc, _, h => ⟨h, by simp⟩
  | x :: l, acc, hx, h => by
    have hx0 := hx x (List.mem_cons_self ..)
    obtain ⟨e1, e2⟩ := entRow_ok ha hx0.1 hx0.2 h
    obtain ⟨h1, h2⟩ := ents_pre ha l _ (fun y hy => hx y (List.mem_cons_of_mem _ hy)) e1
    refine ⟨h1, Nat.le_trans h2 ?_⟩
    simp only [List.length_cons]
    omega
theorem ents_ok {a b : Int} (ha : a ≤ 8) (hb : b ≤ 8) : (∀ kv ∈ ents a b, Sr 20 kv.2) ∧ (ents a b).length ≤ 256 := by
  obtain ⟨h1, h2⟩ := ents_pre ha (rng 1 (2 * b + 1)) [] (fun x hx => by have := rng_mem hx; omega) fun _ h => by cases h
  refine ⟨h1, Nat.le_trans h2 ?_⟩
  unfold rng
  rw [List.length_map, List.length_range, List.length_nil]
  omega
theorem bords_ok {a b : Int} (ha : a ≤ 8) (hb : b ≤ 8) : (∀ r ∈ bords a b, Sr 20 r) ∧ (bords a b).length ≤ 256 := by
  obtain ⟨h1, h2⟩ := ents_ok ha hb
  unfold bords sortedR
  constructor
  · intro r hr
    obtain ⟨k, hk, e⟩ := List.mem_filterMap.mp hr
    have hk' : k ∈ (ents a b).map (·.1) := (isort_perm _).mem_iff.mp hk
    obtain ⟨r', e', kv, hkv, hr'⟩ := valR_some hk'
    rw [e] at e'
    cases Option.some.inj e'
    rw [← hr']
    exact h1 kv hkv
  · refine Nat.le_trans (List.length_filterMap_le _ _) ?_
    rw [(isort_perm _).length_eq, List.length_map]
    exact h2
/-! pieces -/
def midOf (lh : Rat × Option Rat) : Rat := match lh.2 with
  | none => lh.1 + 1
  | some h => (lh.1 + h) * mkRat 1 2
def shareAdd (pieces : List Seg) (lh : Rat × Option Rat) (l : IP) : List Seg := match pieces.getLast? with
  | none => [⟨lh.1, lh.2, l.1, l.2⟩]
  | some p => if decide ((p.start, p.rise) = l) = true then pieces.dropLast ++ [⟨p.low, lh.2, l.1, l.2⟩] else pieces ++ [⟨lh.1, lh.2, l.1, l.2⟩]
def shareStep (cs : List Coup) (pieces : List Seg) (lh : Rat × Option Rat) : List Seg := shareAdd pieces lh (lineAt cs (midOf lh))
def lohiAt (lows : List Rat) (i : Nat) : Rat × Option Rat := (lows[i]?.getD 1, lows[i + 1]?)
def profileM (a b : Int) : List Seg := if a + b = 1 then [] else
  (List.range (1 :: bords a b).length).foldl (fun ps i => shareStep (couplesAll a b) ps (lohiAt (1 :: bords a b) i)) []
def finOk (a b : Int) : Bool := goodRows 200 (startRow a b) && (decide (a + b = 1) || (couplesAll a b).all fun c => !c.2.2.isEmpty)
theorem couplesAll_ok {a b : Int} (hg : goodRows 200 (startRow a b) = true) (hne : ∀ c ∈ couplesAll a b, c.2.2 ≠ []) : ∀ c ∈ couplesAll a b, coupOk c := by
  have hpat : ∀ r ∈ rowsM a b, patL r := good_mem 200 _ hg
  intro c hc
  have key : ∃ x ∈ rowsM a b, ∃ y ∈ rowsM a b, c.2.2 = rdiffs x y := by
    unfold couplesAll at hc
    split at hc
    · rename_i r hr
      rcases List.mem_singleton.mp hc with rfl
      exact ⟨r, by rw [hr]; simp, r, by rw [hr]; simp, rfl⟩
    · unfold couplesM at hc
      obtain ⟨e, he, h⟩ := List.mem_filterMap.mp hc
      obtain ⟨h1, h2⟩ := mem_pairs.mp he
      unfold coupOf at h
      split at h
      · split at h
        · cases h
        · cases Option.some.inj h
          exact ⟨_, h1, _, h2, rfl⟩
      · cases h
  obtain ⟨x, hx, y, hy, e⟩ := key
  obtain ⟨p1, p2⟩ := rdiffs_ok (hpat x hx) (hpat y hy)
  exact ⟨hne c hc, by rw [e]; exact Nat.le_trans p2 (by decide), by rw [e]; exact p1⟩
theorem shareAdd_len (ps : List Seg) (lh : Rat × Option Rat) (l : IP) : (shareAdd ps lh l).length ≤ ps.length + 1 := by
  unfold shareAdd
  split
  · simp
  · split
    · simp
    · simp
theorem half_rat : D.tup [.int 1, .int 2] = rat (mkRat 1 2) := by
  show D.tup [.int 1, .int 2] = D.tup [.int (mkRat 1 2).num, .int ((mkRat 1 2).den : Int)]
  have h : (mkRat 1 2).num = 1 ∧ (mkRat 1 2).den = 2 := by decide +kernel
  rw [h.1, h.2]
  rfl
section
variable {P : Program} {w : World} {K : PySem.W.Frag} {mg : Str → Option Value} {base : Heap}


abbrev N_profile_borders : List Str := ["a_count", "b_count", "borders", "bottom", "top", "key"]
theorem sc_profile_borders : FnScope N_profile_borders ["a_count", "b_count"] (defScope JA.s_profile_borders) := ⟨rfl, rfl, rfl, by decide +kernel, rfl, by decide +kernel, by decide +kernel⟩
def R_profile_borders : List D → D → Prop := fun ds d => ∃ a b : Int, ds = [.int a, .int b] ∧ 0 ≤ a ∧ 0 ≤ b ∧ a ≤ 8 ∧ b ≤ 8 ∧ d = .lst ((bords a b).map rat)
theorem c_profile_borders (T : Tx K mg) : Cal P w K mg base 3 "profile_borders" (spV K R_profile_borders) [] := by
  refine cal_V (T.glo 33) (T.says.1.def_ 33) sc_profile_borders (fun ds d h => ?_) (fun _ _ _ _ _ _ us hl => match us, hl with | [_, _], _ => rfl) fun cdv A outer s H E hRm ds d h => ?_
  · obtain ⟨a, b, rfl, _⟩ := h
    rfl
  · obtain ⟨a, b, rfl, ha, hb, ha8, hb8, rfl⟩ := h
    refine ⟨_, (pss_cons (ps_set (i := 2) sc_profile_borders.nd rfl (by first | exact Or.inl rfl | exact Or.inr rfl) pe_dnewK)
    (pss_cons (ps_for PassesOwn.never rfl (pi_range2 (by rfl) (T.free 100) (pa_cons pe_int (pa_cons (pe_op op_addX (pe_op op_mulX pe_int (pv 1)) pe_int) pa_nil))) (pg_name (i := 3) sc_profile_borders.nd rfl (by first | exact Or.inl rfl | exact Or.inr rfl)) (pss_one (ps_for PassesOwn.never rfl (pi_range2 (by rfl) (T.free 100) (pa_cons (pe_op op_addX (pv 3) pe_int) (pa_cons (pe_op op_addX (pe_op op_mulX pe_int (pv 0)) pe_int) pa_nil))) (pg_name (i := 4) sc_profile_borders.nd rfl (by first | exact Or.inl rfl | exact Or.inr rfl)) (pss_one (ps_dput (hu_of hRm) (pv 2) (pe_op op_mulX (pv 4) (pe_op op_fdivW (C8.pe_gc (v := .int 720720) (by rfl) (T.int 107)) (pv 3))) (C8.pe_c (c_make_ratio_2 T) hRm (by decide) (by rfl) (pa_cons (pv 4) (pa_cons (pv 3) pa_nil))) rfl)))))
    (pss_one (ps_ret (pe_lc (own := [("key", 5)]) (g := gName 5) (by rfl) sc_profile_borders.nd (pi_list (pe_callB cr_sortedI (by rfl) (T.free 102) (by decide +kernel) (pa_cons (pe_callTy (call_listDK rfl) (by rfl) (T.free 96) (by decide +kernel) (pa_cons (pv 2) pa_nil)) pa_nil))) (blkOk_by (own := [("key", 5)]) (N := N_profile_borders) (sc := defScope JA.s_profile_borders) (by decide +kernel)) (fun _ _ _ _ _ => (pg_name (i := 5) sc_profile_borders.nd rfl (by first | exact Or.inl rfl | exact Or.inr rfl))) (fun _ _ _ _ _ => pts_nil) (fun _ _ _ _ _ => (pe_dget (hu_of hRm) (pv 2) (pv 5) (fun _ _ => rfl)))))))), ?_⟩
    have e2 : ∀ {Γ : List S} {i : Nat} {x : Int}, Γ[i]? = some (.val (.int x)) → x.natAbs ≤ 1000 → Ev K (tOp (rAddX K) (tOp rMulX (tC (.int 2)) (tVar i)) (tC (.int 1))) Γ (.int (2 * x + 1)) := fun h hx => e_op (e_op e_int (e_var h) (ro_mul (Sz.lit (by decide) (by decide)) (Sz.lit (by omega) (by decide)))) e_int ro_add
    refine s_seq (s_newK ?_)
    refine s_mid (fun Γ => ∃ u v t, Γ = [.val (.int a), .val (.int b), .own (.dK ((ents a b).map kvR)), u, v, t]) ?_ fun Γ' hΓ => ?_
    · refine s_forL (vs := [3]) (rng 1 (2 * b + 1)) D.int (fun pre Γ => ∃ u v t, Γ = [.val (.int a), .val (.int b), .own (.dK ((pre.foldl (fun acc bot => entRow acc a bot) []).map kvR)), u, v, t]) (by rw [← rng_D]; exact i_rng2 (ea_cons e_int (ea_cons (e2 rfl (by omega)) ea_nil)) (by omega) (by omega)) ⟨.no, .no, .no, rfl⟩ (fun pre bot post Γ1 e iv => ⟨_, g_name, ?_⟩) fun Γ1 iv => iv
      obtain ⟨u, v, t, rfl⟩ := iv
      have hm := rng_mem (lo := 1) (hi := 2 * b + 1) (x := bot) (by rw [e]; simp)
      have hpre := ents_pre (a := a) ha8 pre [] (fun x hx => by have := rng_mem (lo := 1) (hi := 2 * b + 1) (x := x) (by rw [e]; simp [hx]); omega) (fun _ h => by cases h)
      have hpl : pre.length ≤ 16 := by
        have := congrArg List.length e
        unfold rng at this
        rw [List.length_map, List.length_range, List.length_append] at this
        omega
      rw [List.foldl_append, List.foldl_cons, List.foldl_nil]
      generalize pre.foldl (fun acc bot => entRow acc a bot) [] = acc at *
      unfold entRow
      refine s_forL (vs := [4]) (rng (bot + 1) (2 * a + 1)) D.int (fun pre2 Γ => ∃ v t, Γ = [.val (.int a), .val (.int b), .own (.dK ((pre2.foldl (fun acc top => putR acc (top * (720720 / bot)) (Rat.divInt top bot)) acc).map kvR)), .val (.int bot), v, t]) (by rw [← rng_D]; exact i_rng2 (ea_cons (e_op (e_var rfl) e_int ro_add) (ea_cons (e2 rfl (by omega)) ea_nil)) (by omega) (by omega)) ⟨_, _, rfl⟩ (fun pre2 top post2 Γ1 e2 iv => ⟨_, g_name, ?_⟩) fun Γ1 iv => ?_
      · obtain ⟨v, t, rfl⟩ := iv
        have hm2 := rng_mem (lo := bot + 1) (hi := 2 * a + 1) (x := top) (by rw [e2]; simp)
        rw [List.foldl_append, List.foldl_cons, List.foldl_nil, ← putR_D]
        have hq : (720720 / bot).natAbs ≤ 720720 := by
          have h1 : 0 ≤ 720720 / bot := Int.ediv_nonneg (by decide) (by omega)
          have h2 : 720720 / bot ≤ 720720 := Int.ediv_le_self _ (by decide)
          omega
        refine s_putK (k := .inl (top * (720720 / bot))) rfl (e_call (ea_cons (e_var rfl) (ea_cons (e_var rfl) ea_nil)) ⟨top, bot, rfl, by omega, Sz.lit (by omega) (by decide), rfl⟩) (e_op (e_var rfl) (e_op e_int (e_var rfl) (ro_div (by omega) (Sz.lit (by omega) (by decide)))) (ro_mul (Sz.lit (by omega) (by decide)) (Sz.lit (by omega) (by decide)))) ?_ ⟨_, Le.refl _, _, _, rfl⟩
        rw [List.length_map]
        have key : ∀ (l : List Int) (acc : List (Int × Rat)), (l.foldl (fun acc top => putR acc (top * (720720 / bot)) (Rat.divInt top bot)) acc).length ≤ acc.length + l.length := by
          intro l
          induction l with
          | nil => intro acc; simp
          | cons x l ih =>
            intro acc
            rw [List.foldl_cons]
            have h1 := ih (putR acc (x * (720720 / bot)) (Rat.divInt x bot))
            have h2 := putR_len acc (x * (720720 / bot)) (Rat.divInt x bot)
            simp only [List.length_cons]
            omega
        have h1 := key pre2 acc
        have h2 := hpre.2
        have h3 : pre2.length ≤ 16 := by
          have := congrArg List.length e2
          unfold rng at this
          rw [List.length_map, List.length_range, List.length_append] at this
          omega
        simp only [List.length_nil] at h2
        omega
      · obtain ⟨v, t, rfl⟩ := iv
        exact ⟨_, Le.refl _, _, _, _, rfl⟩
    · obtain ⟨u, v, t, rfl⟩ := hΓ
      obtain ⟨hk1, hk2⟩ := ents_ok ha8 hb8
      have ek : ((ents a b).map kvR).map (fun kv => keyD kv.1) = ((ents a b).map (·.1)).map D.int := by
        rw [List.map_map, List.map_map]
        rfl
      have hv : ∀ k ∈ isort ((ents a b).map (·.1)), ∃ r, valR (ents a b) k = some r := fun k hk => by
        obtain ⟨r, hr, _⟩ := valR_some ((isort_perm _).mem_iff.mp hk)
        exact ⟨r, hr⟩
      have eb : (bords a b).map rat = (isort ((ents a b).map (·.1))).map fun k => rat ((valR (ents a b) k).getD 0) := by
        unfold bords sortedR
        generalize isort ((ents a b).map (·.1)) = l at *
        induction l with
        | nil => rfl
        | cons k l ih =>
          obtain ⟨r, hr⟩ := hv k (List.mem_cons_self ..)
          rw [List.filterMap_cons, hr, List.map_cons, List.map_cons, ih fun k hk => hv k (List.mem_cons_of_mem _ hk), hr]
          rfl
      rw [eb]
      refine s_ret (EL.ev (l_map (isort ((ents a b).map (·.1))) D.int (fun k => rat ((valR (ents a b) k).getD 0)) (i_list (EL.ev (l_cb (ea_cons (e_imp' (l_listDK rfl) ek).ev ea_nil) rl_sortedE))) ?_ fun k hk => ⟨_, g_name, ?_⟩)) fun d hd => hd
      · rw [(isort_perm _).length_eq, List.length_map]
        omega
      · obtain ⟨r, hr⟩ := hv k hk
        rw [hr]
        exact e_getK (k := .inl k) rfl (e_var rfl) (by rw [valR_D, hr]; rfl)
end
end JD
set_option maxHeartbeats 4000000
namespace JD
open PySem PySem.Spec PyProof.Rows L2
open C8 (Cal Mak)
def pieceCut (lo : Rat) (hi : Option Rat) : List SR := match hi with
  | none => [(lo, none)]
  | some h => if h < lo ∨ h = 1 then [] else [(lo, some h)]
def pieceBd (p : Seg) (s : Rat) : Rat := (s - (p.start : Rat)) / (p.rise : Rat)
def pieceM (p : Seg) (s : Rat) : List SR :=
  if p.rise = 0 then (if 0 < (s - (p.start : Rat)).num then [] else [(p.low, p.high)])
  else if 0 < p.rise then pieceCut (maxR p.low (pieceBd p s)) p.high
  else pieceCut p.low (minO p.high (some (pieceBd p s)))
def profShare (ps : List Seg) (r : Rat) : Option Rat := ps.foldl (fun t p => if r < p.low then t else some ((p.start : Rat) + (p.rise : Rat) * r)) none
def coupleM (a b : Int) (s : Rat) : List SR := if a + b = 1 then [(1, none)] else (profileM a b).foldl (fun k p => eitherM k (pieceM p s)) []
def smallR (r : Rat) : Bool := decide (r.num.natAbs < 1000000) && decide (r.den < 1000000)
def pieceB (p : Seg) : Bool := decide (1 ≤ p.low) && smallR p.low && (match p.high with
  | none => true
  | some h => decide (p.low < h) && smallR h) && decide (p.start.natAbs ≤ 200) && decide (p.rise.natAbs ≤ 200)
structure PieceOk (p : Seg) : Prop where
  lo : Sr 20 p.low
  one : 1 ≤ p.low
  hi : ∀ h, p.high = some h → Sr 20 h ∧ p.low < h
  st : p.start.natAbs ≤ 200
  ri : p.rise.natAbs ≤ 200
theorem small_sr {r : Rat} (h : smallR r = true) : Sr 20 r := by
  unfold smallR at h
  simp only [Bool.and_eq_true, decide_eq_true_eq] at h
  exact ⟨Sz.lit h.1 (by decide), Sz.lit (by omega) (by decide)⟩
theorem pieceB_ok {p : Seg} (h : pieceB p = true) : PieceOk p := by
  unfold pieceB at h
  simp only [Bool.and_eq_true, decide_eq_true_eq] at h
  obtain ⟨⟨⟨⟨h1, h2⟩, h3⟩, h4⟩, h5⟩ := h
  refine ⟨small_sr h2, h1, fun x e => ?_, h4, h5⟩
  rw [e] at h3
  simp only [Bool.and_eq_true, decide_eq_true_eq] at h3
  exact ⟨small_sr h3.2, h3.1⟩
theorem int_sr {i : Int} (h : i.natAbs ≤ 1000) : Sr 20 (i : Rat) := ⟨Sz.lit (by rw [Rat.num_intCast]; omega) (by decide), Sz.lit (by rw [Rat.den_intCast]; decide) (by decide)⟩
theorem int_ne {i : Int} (h : i ≠ 0) : (i : Rat) ≠ 0 := fun z => h (Rat.intCast_inj.mp (by rw [z]; rfl))
theorem Sr.sub {n : Nat} {a b : Rat} (ha : Sr n a) (hb : Sr n b) : Sr (n + n + 1) (a - b) := by
  rw [Rat.sub_eq_add_neg]
  exact Sr.add ha hb.neg
theorem pieceCut_len (lo : Rat) (hi : Option Rat) : (pieceCut lo hi).length ≤ 1 := by
  cases hi with
  | none => exact Nat.le_refl _
  | some h =>
    unfold pieceCut
    dsimp only
    split <;> simp
theorem pieceCut_ok {lo : Rat} {hi : Option Rat} (h1 : Sr 3000 lo) (h2 : 1 ≤ lo) (h3 : ∀ h, hi = some h → Sr 3000 h) : ∀ x ∈ pieceCut lo hi, SOk 3000 x := by
  intro x hx
  cases hi with
  | none =>
    rcases List.mem_singleton.mp hx with rfl
    exact ⟨h1, h2, fun _ e => by cases e⟩
  | some h =>
    unfold pieceCut at hx
    dsimp only at hx
    split at hx
    · cases hx
    · rename_i hn
      rcases List.mem_singleton.mp hx with rfl
      refine ⟨h1, h2, fun h' e' => ?_⟩
      cases Option.some.inj e'
      exact ⟨h3 h rfl, Rat.not_lt.mp fun z => hn (.inl z), fun z => hn (.inr z)⟩
theorem pieceM_ok {p : Seg} {s : Rat} (hp : PieceOk p) (hs : Sr 120 s) : ∀ x ∈ pieceM p s, SOk 3000 x := by
  have h0 : SOk 3000 (p.low, p.high) := ⟨hp.lo.mono (by decide), hp.one, fun h e => ⟨(hp.hi h e).1.mono (by decide), Rat.le_of_lt (hp.hi h e).2, fun z => by
    have := (hp.hi h e).2
    rw [z] at this
    exact Rat.lt_irrefl (Std.lt_of_lt_of_le this hp.one)⟩⟩
  intro x hx
  unfold pieceM at hx
  by_cases hr : p.rise = 0
  · rw [if_pos hr] at hx
    split at hx
    · cases hx
    · rcases List.mem_singleton.mp hx with rfl
      exact h0
  · rw [if_neg hr] at hx
    have hb : Sr 3000 (pieceBd p s) := (Sr.div (n := 241) (Sr.sub (n := 120) hs ((int_sr (by have := hp.st; omega)).mono (by decide))) ((int_sr (by have := hp.ri; omega)).mono (by decide)) (int_ne hr)).mono (by decide)
    split at hx
    · exact pieceCut_ok (maxR_sr h0.1 hb) (Rat.le_trans hp.one le_maxR.1) (fun h e => (h0.2.2 h e).1) x hx
    · refine pieceCut_ok h0.1 hp.one (fun h e => ?_) x hx
      rcases minO_or p.high (some (pieceBd p s)) with w | w
      · exact (h0.2.2 h (w.symm.trans e)).1
      · rw [w] at e
        cases Option.some.inj e
        exact hb
theorem pieceM_len (p : Seg) (s : Rat) : (pieceM p s).length ≤ 1 := by
  unfold pieceM
  split
  · split <;> simp
  · split <;> exact pieceCut_len _ _
theorem either_ok {n : Nat} {a b : List SR} (ha : ∀ s ∈ a, SOk n s) (hb : ∀ s ∈ b, SOk n s) : (∀ s ∈ eitherM a b, SOk n s) ∧ (eitherM a b).length ≤ a.length + b.length := by
  obtain ⟨h1, h2⟩ := coals (n := n) (mergeM a b) [] (fun s hs => by cases hs) fun s hs => (mergeM_mem a b s hs).elim (ha s) (hb s)
  exact ⟨h1, by rw [mergeM_len, List.length_nil, Nat.zero_add] at h2; exact h2⟩
theorem couple_pre {s : Rat} (hs : Sr 120 s) : ∀ (l : List Seg) (k : List SR), (∀ p ∈ l, PieceOk p) → (∀ x ∈ k, SOk 3000 x) → (∀ x ∈ l.foldl (fun k p => eitherM k (pieceM p s)) k, SOk 3000 x) ∧ (l.foldl (fun k p => eitherM k (pieceM p s)) k).length ≤ k.length + l.length
  | [], k, _, h => ⟨h, by simp⟩
  | p :: l, k, hp, h => by
    obtain ⟨e1, e2⟩ := either_ok h (pieceM_ok (hp p (List.mem_cons_self ..)) hs)
    obtain ⟨h1, h2⟩ := couple_pre hs l _ (fun q hq => hp q (List.mem_cons_of_mem _ hq)) e1
    refine ⟨h1, Nat.le_trans h2 ?_⟩
    have := pieceM_len p s
    simp only [List.length_cons]
    omega
def profOk (a b : Int) : Bool := finOk a b && (profileM a b).all pieceB && decide ((profileM a b).length ≤ 300)
section
variable {P : Program} {w : World} {K : PySem.W.Frag} {mg : Str → Option Value} {base : Heap}

abbrev N_Segment_init : List Str := ["self", "low", "high", "start", "rise"]
theorem sc_Segment_init : FnScope N_Segment_init ["self", "low", "high", "start", "rise"] (defScope JA.s_Segment_init) := ⟨rfl, rfl, rfl, by decide +kernel, rfl, by decide +kernel, by decide +kernel⟩
def R_Segment : List D → List (Str × D) → Prop := fun ds gs => ∃ p : Seg, ds = [rat p.low, ratO p.high, .int p.start, .int p.rise] ∧ gs = segF p
theorem f_Segment (T : Tx K mg) {CX : CXT} {dv : List V} {f : Addr} {fd : FuncData} (F : FunD K "__init__" "Segment.__init__" (defArgs JA.s_Segment_init) (defBody JA.s_Segment_init) (defScope JA.s_Segment_init) dv [] f fd) : FnOk P w K mg base CX 1 f fd ["self", "low", "high", "start", "rise"] (spI K (He.ga K "Segment") R_Segment) := by
  refine F.ok sc_Segment_init (fun vs H Q E h => ?_) fun cdv A outer s H vs Q E hRm h => ?_
  · obtain ⟨B, x, dx, ws, ds, gs, ⟨s, rfl, _⟩, rfl, r, _⟩ := h
    rw [List.length_cons, r.length]
    rfl
  · obtain ⟨B, x, dx, ws, ds, gs, ⟨p, rfl, rfl⟩, rfl, r, ss, nb, hx, q⟩ := h
    refine ⟨_, PSs.nox (pss_cons (ps_fld (pv 0) (pv 1) rfl)
    (pss_cons (ps_fld (pv 0) (pv 2) rfl)
    (pss_cons (ps_fld (pv 0) (pv 3) rfl)
    (pss_one (ps_fld (pv 0) (pv 4) rfl))))), ?_⟩
    cases r with
    | @cons v1 vs1 _ _ r1 t1 =>
    cases t1 with
    | @cons v2 vs2 _ _ r2 t2 =>
    cases t2 with
    | @cons v3 vs3 _ _ r3 t3 =>
    cases t3 with
    | @cons v4 vs4 _ _ r4 t4 =>
    cases t4
    refine ⟨v1, rfl, .ref x, rfl, x, _, dx, [], rfl, hx, T.cls 113, T.noat 116, by decide, ?_⟩
    refine ⟨v2, rfl, .ref x, rfl, x, _, dx, _, rfl, upd_same, T.cls 113, T.noat 117, by show 1 < 1000; decide, ?_⟩
    rw [upd_upd]
    refine ⟨v3, rfl, .ref x, rfl, x, _, dx, _, rfl, upd_same, T.cls 113, T.noat 118, by show 2 < 1000; decide, ?_⟩
    rw [upd_upd]
    refine ⟨v4, rfl, .ref x, rfl, x, _, dx, _, rfl, upd_same, T.cls 113, T.noat 119, by show 3 < 1000; decide, ?_⟩
    rw [upd_upd]
    refine q B _ _ (Same.refl B) (fun b o e => ?_) nb upd_same (.cons r1 (.cons r2 (.cons r3 (.cons r4 .nil)))) (fun a o t e n hne => ?_) fun a xs e => ?_
    · rw [upd_ne (ne_of_none e nb)]
      exact ss _ _ e
    · rw [upd_ne hne]
      exact ⟨e, n⟩
    · have hne : a ≠ x := by
        intro z
        rw [z, hx] at e
        cases e
      rw [upd_ne hne]
      exact e
theorem c_Segment (T : Tx K mg) : Mak P w K mg base 1 "Segment" (He.ga K "Segment") (spI K (He.ga K "Segment") R_Segment) [] := by
  obtain ⟨fd, F⟩ := T.says.1.def_ 84
  exact ⟨_, fd, _, [], He.mkr_ok (T.says.1.fact 114 (f := .mkr "Segment")), f_Segment T F, T.glo 81, F.bindsN fun _ _ _ _ _ _ us hl => match us, hl with | [_, _, _, _, _], _ => rfl, .nil⟩
theorem e_segment {Γ : List S} {ta tb tc td : TE} {lo : Rat} {hi : Option Rat} {s r : Int} {E : XK} (h1 : Ev K ta Γ (rat lo)) (h2 : Ev K tb Γ (ratO hi)) (h3 : Ev K tc Γ (.int s)) (h4 : Ev K td Γ (.int r)) : Ev K (tMake (He.ga K "Segment") (spI K (He.ga K "Segment") R_Segment) [] E (tCons ta (tCons tb (tCons tc (tCons td tNil))))) Γ (segD K ⟨lo, hi, s, r⟩) :=
  e_mk (ea_cons h1 (ea_cons h2 (ea_cons h3 (ea_cons h4 ea_nil)))) ⟨⟨lo, hi, s, r⟩, rfl, rfl⟩
theorem e_slow (T : Tx K mg) {Γ : List S} {te : TE} {p : Seg} (h : Ev K te Γ (segD K p)) : Ev K (tFld K te "low") Γ (rat p.low) := e_fld h (T.cls 113) (T.noat 116) rfl
theorem e_shigh (T : Tx K mg) {Γ : List S} {te : TE} {p : Seg} (h : Ev K te Γ (segD K p)) : Ev K (tFld K te "high") Γ (ratO p.high) := e_fld h (T.cls 113) (T.noat 117) rfl
theorem e_sstart (T : Tx K mg) {Γ : List S} {te : TE} {p : Seg} (h : Ev K te Γ (segD K p)) : Ev K (tFld K te "start") Γ (.int p.start) := e_fld h (T.cls 113) (T.noat 118) rfl
theorem e_srise (T : Tx K mg) {Γ : List S} {te : TE} {p : Seg} (h : Ev K te Γ (segD K p)) : Ev K (tFld K te "rise") Γ (.int p.rise) := e_fld h (T.cls 113) (T.noat 119) rfl


abbrev N_share_profile : List Str := ["a_count", "b_count", "couples", "lows", "pieces", "at", "low", "high", "middle", "start", "rise", "last"]
theorem sc_share_profile : FnScope N_share_profile ["a_count", "b_count"] (defScope JA.s_share_profile) := ⟨rfl, rfl, rfl, by decide +kernel, rfl, by decide +kernel, by decide +kernel⟩
def R_share_profile (K : PySem.W.Frag) : List D → D → Prop := fun ds d => ∃ a b : Int, ds = [.int a, .int b] ∧ 0 ≤ a ∧ 0 ≤ b ∧ 1 ≤ a + b ∧ a + b ≤ 8 ∧ finOk a b = true ∧ d = .tup ((profileM a b).map (segD K))
theorem c_share_profile (T : Tx K mg) : Cal P w K mg base 11 "share_profile" (spV K (R_share_profile K)) [] := by
  refine cal_V (T.glo 35) (T.says.1.def_ 35) sc_share_profile (fun ds d h => ?_) (fun _ _ _ _ _ _ us hl => match us, hl with | [_, _], _ => rfl) fun cdv A outer s H E hRm ds d h => ?_
  · obtain ⟨a, b, rfl, _⟩ := h
    rfl
  · obtain ⟨a, b, rfl, ha, hb, h1, h8, hf, rfl⟩ := h
    refine ⟨_, (pss_cons (ps_expr (C8.pe_c (c_check_counts T) hRm (by decide) (by rfl) (pa_cons (pv 0) (pa_cons (pv 1) pa_nil))))
    (pss_cons (ps_if (pt_cmpR (op_eqD hRm.units) (pe_op op_addX (pv 0) (pv 1)) pe_int (nomark _)) (pss_one (ps_ret (pe_tup pa_nil))) pss_nil)
    (pss_cons (ps_set (i := 2) sc_share_profile.nd rfl (by first | exact Or.inl rfl | exact Or.inr rfl) (C8.pe_c (c_likely_couples T) hRm (by decide) (by rfl) (pa_cons (pv 0) (pa_cons (pv 1) pa_nil))))
    (pss_cons (ps_set (i := 3) sc_share_profile.nd rfl (by first | exact Or.inl rfl | exact Or.inr rfl) (pe_op op_addX (pe_lst (pa_cons (C8.pe_gc (v := .ref (He.ga K "ONE")) (by rfl) ⟨_, T.glo 86, rfl⟩) pa_nil)) (C8.pe_c (c_profile_borders T) hRm (by decide) (by rfl) (pa_cons (pv 0) (pa_cons (pv 1) pa_nil)))))
    (pss_cons (ps_set (i := 4) sc_share_profile.nd rfl (by first | exact Or.inl rfl | exact Or.inr rfl) (pe_lst pa_nil))
    (pss_cons (ps_for PassesOwn.never rfl (pi_enumX (by rfl) (T.free 92) (pa_cons (pv 3) pa_nil)) (pg_tup rfl (pgs_cons (pg_name (i := 5) sc_share_profile.nd rfl (by first | exact Or.inl rfl | exact Or.inr rfl)) (pgs_cons (pg_name (i := 6) sc_share_profile.nd rfl (by first | exact Or.inl rfl | exact Or.inr rfl)) pgs_nil))) (pss_cons (ps_set (i := 7) sc_share_profile.nd rfl (by first | exact Or.inl rfl | exact Or.inr rfl) (pe_ifExp (pt_cmpR (op_lt) (pe_op op_addX (pv 5) pe_int) (pe_callB call_lenX (by rfl) (T.free 95) (by decide +kernel) (pa_cons (pv 3) pa_nil)) (nomark _)) (pe_ix ix_seq (pv 3) (pe_op op_addX (pv 5) pe_int) (fun _ _ => rfl)) pe_non))
    (pss_cons (ps_set (i := 8) sc_share_profile.nd rfl (by first | exact Or.inl rfl | exact Or.inr rfl) (pe_ifExp (pt_cmpR op_isNX (pv 7) pe_non (nomark _)) (C8.pe_c (c_plus T) hRm (by decide) (by rfl) (pa_cons (pv 6) (pa_cons (C8.pe_gc (v := .ref (He.ga K "ONE")) (by rfl) ⟨_, T.glo 86, rfl⟩) pa_nil))) (C8.pe_c (c_times T) hRm (by decide) (by rfl) (pa_cons (C8.pe_c (c_plus T) hRm (by decide) (by rfl) (pa_cons (pv 6) (pa_cons (pv 7) pa_nil))) (pa_cons (pe_tup (pa_cons pe_int (pa_cons pe_int pa_nil))) pa_nil)))))
    (pss_cons (ps_asg (C8.pe_c (c_line_at T) hRm (by decide) (by rfl) (pa_cons (pv 2) (pa_cons (pv 8) pa_nil))) (pg_tup rfl (pgs_cons (pg_name (i := 9) sc_share_profile.nd rfl (by first | exact Or.inl rfl | exact Or.inr rfl)) (pgs_cons (pg_name (i := 10) sc_share_profile.nd rfl (by first | exact Or.inl rfl | exact Or.inr rfl)) pgs_nil))))
    (pss_cons (ps_if (PW.pt (pw_and (pt_cmpR ((op_neN hRm.units)) (pv 4) (pe_lst pa_nil) (nomark _)) (pw_and1 (pt_cmpR (op_eqD hRm.units) (pe_tup (pa_cons (pe_fld (pe_ix ix_seq (pv 4) (pe_un un_neg pe_int) (fun _ _ => rfl)) rfl) (pa_cons (pe_fld (pe_ix ix_seq (pv 4) (pe_un un_neg pe_int) (fun _ _ => rfl)) rfl) pa_nil))) (pe_tup (pa_cons (pv 9) (pa_cons (pv 10) pa_nil))) (nomark _))))) (pss_cons (ps_set (i := 11) sc_share_profile.nd rfl (by first | exact Or.inl rfl | exact Or.inr rfl) (pe_bm0 PySem.F.plainAttrs_list PySem.F.slot_list_pop PySem.F.type_list_pop mt_pop (pv 4)))
    (pss_one (ps_set (i := 6) sc_share_profile.nd rfl (by first | exact Or.inl rfl | exact Or.inr rfl) (pe_fld (pv 11) rfl)))) pss_nil)
    (pss_one (ps_expr (pe_bm PySem.F.plainAttrs_list PySem.F.slot_list_append PySem.F.type_list_append mt_append (pv 4) (pa_cons (C8.pe_mk (c_Segment T) hRm (by decide) (by rfl) (pa_cons (pv 6) (pa_cons (pv 7) (pa_cons (pv 9) (pa_cons (pv 10) pa_nil))))) pa_nil)))))))))
    (pss_one (ps_ret (pe_callTy call_tupleX (by rfl) (T.free 104) (by decide +kernel) (pa_cons (pv 4) pa_nil)))))))))), ?_⟩
    refine s_seq (s_drop (e_ccounts (e_var rfl) (e_var rfl) ha hb h1 h8) ?_)
    unfold profileM
    by_cases hone : a + b = 1
    · rw [if_pos hone]
      refine s_seq (s_ifT (t_imp (t_test (e_op (e_op (e_var rfl) (e_var rfl) ro_add) e_int ro_eq)) fun x e => e.trans (decide_eq_true hone)) ?_)
      exact s_retV (e_tup ea_nil (of_decide_eq_true rfl)) rfl
    · rw [if_neg hone]
      unfold finOk at hf
      simp only [Bool.and_eq_true, Bool.or_eq_true, decide_eq_true_eq, List.all_eq_true, Bool.not_eq_true'] at hf
      obtain ⟨hg, hn⟩ := hf
      have hne : ∀ c ∈ couplesAll a b, c.2.2 ≠ [] := fun c hc z => by
        rcases hn with hn | hn
        · exact hone hn
        · have := hn c hc
          rw [z] at this
          cases this
      have hok := couplesAll_ok hg hne
      refine s_seq (s_ifF (t_imp (t_test (e_op (e_op (e_var rfl) (e_var rfl) ro_add) e_int ro_eq)) fun x e => e.trans (decide_eq_false hone)) (s_next ?_))
      refine s_seq (s_asgV (e_call (ea_cons (e_var rfl) (ea_cons (e_var rfl) ea_nil)) ⟨a, b, rfl, ha, hb, h1, h8, hg, rfl⟩) ?_)
      obtain ⟨hbs, hbl⟩ := bords_ok (a := a) (b := b) (by omega) (by omega)
      refine s_seq (s_asgV (d := .lst ((1 :: bords a b).map rat)) (e_op (e_lst (ea_cons (e_one T) ea_nil) (of_decide_eq_true rfl)) (e_call (ea_cons (e_var rfl) (ea_cons (e_var rfl) ea_nil)) ⟨a, b, rfl, ha, hb, by omega, by omega, rfl⟩) (ro_cat (by rw [List.length_map]; simp; omega))) ?_)
      have hls : ∀ r ∈ 1 :: bords a b, Sr 20 r := fun r hr => by
        rcases List.mem_cons.mp hr with rfl | hr
        · exact sr_one
        · exact hbs r hr
      have hll : (1 :: bords a b).length ≤ 257 := by rw [List.length_cons]; omega
      generalize (1 :: bords a b) = lows at *
      generalize couplesAll a b = cs at *
      refine s_seq (s_asgLV (l_lst ea_nil (of_decide_eq_true rfl)) ?_)
      have en : numd (lows.map rat) = (List.range lows.length).map fun (i : Nat) => D.tup [.int (i : Int), rat (lows[i]?.getD 1)] := by
        unfold numd
        rw [List.length_map]
        refine List.map_congr_left fun i hi => ?_
        have hi' : i < lows.length := List.mem_range.mp hi
        rw [List.getElem?_map, List.getElem?_eq_getElem hi']
        rfl
      have hlr : Rc K (rLenX K) [D.lst (lows.map rat)] fun u => u = .int (lows.length : Int) := rc_len (by simp [D.len])
      refine s_mid (fun Γ => ∃ x1 x2 x3 x4 x5 x6 x7, Γ = [.val (.int a), .val (.int b), .val (.lst (cs.map coupD)), .val (.lst (lows.map rat)), .own (.lst (((List.range lows.length).foldl (fun ps i => shareStep cs ps (lohiAt lows i)) []).map (segD K))), x1, x2, x3, x4, x5, x6, x7]) ?_ fun Γ' hΓ => ?_
      · refine s_forL (vs := [5, 6]) (List.range lows.length) (fun (i : Nat) => D.tup [.int (i : Int), rat (lows[i]?.getD 1)]) (fun pre Γ => ∃ x1 x2 x3 x4 x5 x6 x7, Γ = [.val (.int a), .val (.int b), .val (.lst (cs.map coupD)), .val (.lst (lows.map rat)), .own (.lst ((pre.foldl (fun ps i => shareStep cs ps (lohiAt lows i)) []).map (segD K))), x1, x2, x3, x4, x5, x6, x7]) (by rw [← en]; exact i_enumX (ea_cons (e_var rfl) ea_nil) rfl) ⟨.no, .no, .no, .no, .no, .no, .no, rfl⟩ (fun pre i post Γ1 e iv => ⟨_, g_tup (gs_cons g_name (gs_cons g_name gs_nil)), ?_⟩) fun Γ1 iv => iv
        obtain ⟨x1, x2, x3, x4, x5, x6, x7, rfl⟩ := iv
        have hi : i < lows.length := List.mem_range.mp (by rw [e]; simp)
        have hpl : (pre.foldl (fun ps i => shareStep cs ps (lohiAt lows i)) []).length ≤ pre.length := by
          have key : ∀ (l : List Nat) (ps : List Seg), (l.foldl (fun ps i => shareStep cs ps (lohiAt lows i)) ps).length ≤ ps.length + l.length := by
            intro l
            induction l with
            | nil => intro ps; simp
            | cons x l ih =>
              intro ps
              rw [List.foldl_cons]
              have h1 := ih (shareStep cs ps (lohiAt lows x))
              have h2 := shareAdd_len ps (lohiAt lows x) (lineAt cs (midOf (lohiAt lows x)))
              unfold shareStep at h1 ⊢
              simp only [List.length_cons]
              omega
          have := key pre []
          simpa using this
        have hpz : pre.length ≤ 300 := by
          have := congrArg List.length e
          rw [List.length_range, List.length_append] at this
          omega
        rw [List.foldl_append, List.foldl_cons, List.foldl_nil]
        generalize pre.foldl (fun ps i => shareStep cs ps (lohiAt lows i)) [] = ps at *
        have elo : lows[i]?.getD 1 = lows[i] := by rw [List.getElem?_eq_getElem hi]; rfl
        have slo : Sr 20 (lows[i]?.getD 1) := by rw [elo]; exact hls _ (List.getElem_mem hi)
        -- high
        refine s_seq (s_asgV (d := ratO lows[i + 1]?) (e_if (b := decide (i + 1 < lows.length)) (t_imp (t_test (e_op (e_op (e_var rfl) e_int ro_add) (e_cb (ea_cons (e_var rfl) ea_nil) hlr) ro_lt)) fun x ex => ex.trans (decide_eq_decide.mpr (by omega))) (fun hh => ?_) fun hh => ?_) ?_)
        · have hh' : i + 1 < lows.length := of_decide_eq_true hh
          have hn : lows[i + 1]? = some lows[i + 1] := List.getElem?_eq_getElem hh'
          rw [hn]
          refine e_op (e_var rfl) (e_op (e_var rfl) e_int ro_add) (ro_ix ?_)
          show atI (lows.map rat) _ = _
          rw [show ((i : Int) + 1) = ((i + 1 : Nat) : Int) by omega, atI_nat (by rw [List.length_map]; exact hh'), List.getElem?_map, List.getElem?_eq_getElem hh']
          rfl
        · have hh' : ¬ i + 1 < lows.length := of_decide_eq_false hh
          have hn : lows[i + 1]? = none := List.getElem?_eq_none (by omega)
          rw [hn]
          exact e_non
        unfold shareStep
        rw [show lohiAt lows i = (lows[i]?.getD 1, lows[i + 1]?) from rfl]
        have shi : ∀ h, lows[i + 1]? = some h → Sr 20 h := fun h eh => hls h (List.mem_of_getElem? eh)
        generalize lows[i]?.getD 1 = lo at *
        generalize lows[i + 1]? = hi' at *
        -- middle
        have smid : Sr 3000 (midOf (lo, hi')) := by
          cases hi' with
          | none => exact (Sr.add slo sr_one).mono (by decide)
          | some h => exact (Sr.mul (n := 41) (Sr.add slo (shi h rfl)) ⟨Sz.lit (by decide +kernel) (by decide), Sz.lit (by decide +kernel) (by decide)⟩).mono (by decide)
        refine s_seq (s_asgV (d := rat (midOf (lo, hi'))) ?_ ?_)
        · cases hi' with
          | none => exact e_if (b := true) (t_test (e_op (x := .non) (e_var rfl) e_non ro_isN)) (fun _ => e_plus (e_var rfl) (e_one T) (slo.mono (by decide)) sr_one) fun z => by cases z
          | some h =>
            refine e_if (b := false) (t_test (e_op (x := rat h) (e_var rfl) e_non ro_isN)) (fun z => by cases z) fun _ => e_times (b := mkRat 1 2) (e_plus (b := h) (e_var rfl) (e_var rfl) (slo.mono (by decide)) ((shi h rfl).mono (by decide))) ((e_tup (ea_cons e_int (ea_cons e_int ea_nil)) (of_decide_eq_true rfl)).cast half_rat) ((Sr.add slo (shi h rfl)).mono (by decide)) ⟨Sz.lit (by decide +kernel) (by decide), Sz.lit (by decide +kernel) (by decide)⟩
        generalize midOf (lo, hi') = mid at *
        refine s_seq (s_asgG (e_lineAt (e_var rfl) (e_var rfl) hok smid) (g_tup (vs := [9, 10]) (gs_cons g_name (gs_cons g_name gs_nil))) ?_)
        generalize lineAt cs mid = l at *
        obtain ⟨st, ri⟩ := l
        rcases List.eq_nil_or_concat ps with rfl | ⟨qs, p, rfl⟩
        · refine s_seq (s_ifF (t_and (a := false) (b := false) (t_imp (t_neN rfl) fun x ex => ex.trans rfl) fun z => by cases z) (s_next ?_))
          exact s_appV rfl (e_segment (e_var rfl) (e_var rfl) (e_var rfl) (e_var rfl)) (of_decide_eq_true rfl) ⟨_, Le.refl _, _, _, _, _, _, _, _, rfl⟩
        · rw [List.concat_eq_append] at *
          have eG : (qs ++ [p]).map (segD K) = qs.map (segD K) ++ [segD K p] := by simp
          have eA : shareAdd (qs ++ [p]) (lo, hi') (st, ri) = (if decide ((p.start, p.rise) = (st, ri)) = true then qs ++ [⟨p.low, hi', st, ri⟩] else (qs ++ [p]) ++ [⟨lo, hi', st, ri⟩]) := by
            unfold shareAdd
            simp
          rw [eA]
          have hq : qs.length ≤ 300 := by
            rw [List.length_append] at hpl
            omega
          refine s_mid (fun Γ => ∃ y, (decide ((p.start, p.rise) = (st, ri)) = true → Γ = [.val (.int a), .val (.int b), .val (.lst (cs.map coupD)), .val (.lst (lows.map rat)), .own (.lst (qs.map (segD K))), .val (.int i), .val (rat p.low), .val (ratO hi'), .val (rat mid), .val (.int st), .val (.int ri), y]) ∧ (decide ((p.start, p.rise) = (st, ri)) = false → Γ = [.val (.int a), .val (.int b), .val (.lst (cs.map coupD)), .val (.lst (lows.map rat)), .own (.lst ((qs ++ [p]).map (segD K))), .val (.int i), .val (rat lo), .val (ratO hi'), .val (rat mid), .val (.int st), .val (.int ri), y])) ?_ fun Γ' hΓ => ?_
          · refine s_ifB (t_and (a := true) (t_imp (t_neN rfl) fun x ex => ex.trans (by simp)) fun _ => t_imp (t_test (e_op (x := pairD (p.start, p.rise)) (y := pairD (st, ri)) (e_tup (ea_cons (e_sstart T (e_ixO rfl (e_un e_int ru_neg) (by rw [eG]; exact atI_last))) (ea_cons (e_srise T (e_ixO rfl (e_un e_int ru_neg) (by rw [eG]; exact atI_last))) ea_nil)) (of_decide_eq_true rfl)) (e_tup (ea_cons (e_var rfl) (ea_cons (e_var rfl) ea_nil)) (of_decide_eq_true rfl)) (ro_eqD (shp_pair _ _) (shp_pair _ _)))) fun x ex => ex.trans (eqv_pair _ _)) (fun c => ?_) fun c => ?_
            · have c' : decide ((p.start, p.rise) = (st, ri)) = true := by simpa using c
              rw [eG]
              refine s_seq (s_pop (j := 11) rfl (by decide) ?_)
              exact s_asgV (e_slow T (e_var rfl)) ⟨_, (fun _ => rfl), fun z => by rw [c'] at z; cases z⟩
            · have c' : decide ((p.start, p.rise) = (st, ri)) = false := by simpa using c
              exact s_next ⟨_, (fun z => by rw [c'] at z; cases z), fun _ => rfl⟩
          · obtain ⟨y, k1, k2⟩ := hΓ
            cases c : decide ((p.start, p.rise) = (st, ri)) with
            | true =>
              have := k1 c
              subst this
              rw [if_pos rfl, List.map_append (l₂ := [_])]
              exact s_appV rfl (e_segment (e_var rfl) (e_var rfl) (e_var rfl) (e_var rfl)) (by rw [List.length_map]; omega) ⟨_, Le.refl _, _, _, _, _, _, _, _, rfl⟩
            | false =>
              have := k2 c
              subst this
              rw [if_neg Bool.false_ne_true, List.map_append (l₁ := qs ++ [p])]
              exact s_appV rfl (e_segment (e_var rfl) (e_var rfl) (e_var rfl) (e_var rfl)) (by rw [List.length_map, List.length_append, List.length_singleton]; omega) ⟨_, Le.refl _, _, _, _, _, _, _, _, rfl⟩
      · obtain ⟨x1, x2, x3, x4, x5, x6, x7, rfl⟩ := hΓ
        exact s_frz 4 rfl (s_retV (e_cb (ea_cons (e_var rfl) ea_nil) (rc_tuple rfl)) rfl)


abbrev N_profile_share : List Str := ["profile", "ratio", "told", "piece"]
theorem sc_profile_share : FnScope N_profile_share ["profile", "ratio"] (defScope JA.s_profile_share) := ⟨rfl, rfl, rfl, by decide +kernel, rfl, by decide +kernel, by decide +kernel⟩
def R_profile_share (K : PySem.W.Frag) : List D → D → Prop := fun ds d => ∃ (ps : List Seg) (r : Rat), ds = [.tup (ps.map (segD K)), rat r] ∧ (∀ p ∈ ps, PieceOk p) ∧ Sr 1000 r ∧ d = ratO (profShare ps r)
theorem c_profile_share (T : Tx K mg) : Cal P w K mg base 3 "profile_share" (spV K (R_profile_share K)) [] := by
  refine cal_V (T.glo 36) (T.says.1.def_ 36) sc_profile_share (fun ds d h => ?_) (fun _ _ _ _ _ _ us hl => match us, hl with | [_, _], _ => rfl) fun cdv A outer s H E hRm ds d h => ?_
  · obtain ⟨a, b, rfl, _⟩ := h
    rfl
  · obtain ⟨ps, r, rfl, hp, hr, rfl⟩ := h
    refine ⟨_, (pss_cons (ps_set (i := 2) sc_profile_share.nd rfl (by first | exact Or.inl rfl | exact Or.inr rfl) pe_non)
    (pss_cons (ps_for PassesOwn.never rfl (pi_tup (pv 0)) (pg_name (i := 3) sc_profile_share.nd rfl (by first | exact Or.inl rfl | exact Or.inr rfl)) (pss_one (ps_if (pt_cmpR (op_neD hRm.units) (C8.pe_c (c_compare T) hRm (by decide) (by rfl) (pa_cons (pe_fld (pv 3) rfl) (pa_cons (pv 1) pa_nil))) pe_int (nomark _)) (pss_one (ps_set (i := 2) sc_profile_share.nd rfl (by first | exact Or.inl rfl | exact Or.inr rfl) (C8.pe_c (c_plus T) hRm (by decide) (by rfl) (pa_cons (pe_tup (pa_cons (pe_fld (pv 3) rfl) (pa_cons pe_int pa_nil))) (pa_cons (C8.pe_c (c_times T) hRm (by decide) (by rfl) (pa_cons (pe_tup (pa_cons (pe_fld (pv 3) rfl) (pa_cons pe_int pa_nil))) (pa_cons (pv 1) pa_nil))) pa_nil))))) pss_nil)))
    (pss_one (ps_ret (pv 2))))), ?_⟩
    refine s_seq (s_asgV e_non ?_)
    refine s_mid (fun Γ => ∃ u, Γ = [.val (.tup (ps.map (segD K))), .val (rat r), .val (ratO (profShare ps r)), u]) ?_ fun Γ' hΓ => ?_
    · refine s_forL (vs := [3]) ps (segD K) (fun pre Γ => ∃ u, Γ = [.val (.tup (ps.map (segD K))), .val (rat r), .val (ratO (profShare pre r)), u]) (i_tup (e_var rfl)) ⟨.no, rfl⟩ (fun pre p post Γ1 e iv => ⟨_, g_name, ?_⟩) fun Γ1 iv => iv
      obtain ⟨u, rfl⟩ := iv
      have hpo := hp p (by rw [e]; simp)
      unfold profShare
      rw [List.foldl_append, List.foldl_cons, List.foldl_nil]
      have h1 : Sr 1000 (p.rise : Rat) := (int_sr (by have := hpo.ri; omega)).mono (by decide)
      have h2 : Sr 2000 (p.start : Rat) := (int_sr (by have := hpo.st; omega)).mono (by decide)
      refine s_ifB (t_test (t_ngt (e_compare (e_slow T (e_var rfl)) (e_var rfl) (hpo.lo.mono (by decide)) (hr.mono (by decide))) e_int)) (fun c => ?_) fun c => ?_
      · have c' : ¬ r < p.low := by simpa using c
        rw [if_neg c']
        refine s_asgV (d := ratO (some ((p.start : Rat) + (p.rise : Rat) * r))) (e_plus (a := (p.start : Rat)) (e_tup (ea_cons (e_sstart T (e_var rfl)) (ea_cons e_int ea_nil)) (of_decide_eq_true rfl)) (e_times (a := (p.rise : Rat)) (e_tup (ea_cons (e_srise T (e_var rfl)) (ea_cons e_int ea_nil)) (of_decide_eq_true rfl)) (e_var rfl) (h1.mono (by decide)) (hr.mono (by decide))) (h2.mono (by decide)) ((Sr.mul h1 hr).mono (by decide))) ⟨_, Le.refl _, _, rfl⟩
      · have c' : r < p.low := by simpa using c
        rw [if_pos c']
        exact s_next ⟨_, Le.refl _, _, rfl⟩
    · obtain ⟨u, rfl⟩ := hΓ
      exact s_retV (e_var rfl) rfl

abbrev N_piece_stretches : List Str := ["piece", "share", "lack", "low", "high", "border"]
theorem sc_piece_stretches : FnScope N_piece_stretches ["piece", "share"] (defScope JA.s_piece_stretches) := ⟨rfl, rfl, rfl, by decide +kernel, rfl, by decide +kernel, by decide +kernel⟩
def R_piece_stretches (K : PySem.W.Frag) : List D → D → Prop := fun ds d => ∃ (p : Seg) (s : Rat), ds = [segD K p, rat s] ∧ PieceOk p ∧ Sr 120 s ∧ d = .tup ((pieceM p s).map (strD K))
theorem c_piece_stretches (T : Tx K mg) : Cal P w K mg base 5 "piece_stretches" (spV K (R_piece_stretches K)) [] := by
  refine cal_V (T.glo 37) (T.says.1.def_ 37) sc_piece_stretches (fun ds d h => ?_) (fun _ _ _ _ _ _ us hl => match us, hl with | [_, _], _ => rfl) fun cdv A outer s H E hRm ds d h => ?_
  · obtain ⟨a, b, rfl, _⟩ := h
    rfl
  · obtain ⟨p, sh, rfl, hp, hs, rfl⟩ := h
    have hok := pieceM_ok hp hs
    have hst : Sr 120 (p.start : Rat) := (int_sr (by have := hp.st; omega)).mono (by decide)
    have hri : Sr 241 (p.rise : Rat) := (int_sr (by have := hp.ri; omega)).mono (by decide)
    have hlack : Sr 241 (sh - (p.start : Rat)) := Sr.sub hs hst
    have hi0 : OOk 3000 p.high := fun h e => (hp.hi h e).1.mono (by decide)
    refine ⟨_, (pss_cons (ps_set (i := 2) sc_piece_stretches.nd rfl (by first | exact Or.inl rfl | exact Or.inr rfl) (C8.pe_c (c_minus T) hRm (by decide) (by rfl) (pa_cons (pv 1) (pa_cons (pe_tup (pa_cons (pe_fld (pv 0) rfl) (pa_cons pe_int pa_nil))) pa_nil))))
    (pss_cons (ps_par (i := 3) (j := 4) (by rfl) sc_piece_stretches.nd rfl rfl (by decide) rfl rfl (pa_cons (pe_fld (pv 0) rfl) (pa_cons (pe_fld (pv 0) rfl) pa_nil)) (by rfl))
    (pss_cons (ps_if (pt_cmpR (op_eqD hRm.units) (pe_fld (pv 0) rfl) pe_int (nomark _)) (pss_one (ps_ret (pe_ifExp (pt_cmpR (op_gt) (pe_ix ix_seq (pv 2) pe_int (fun _ _ => rfl)) pe_int (nomark _)) (pe_tup pa_nil) (pe_tup (pa_cons (C8.pe_mk (c_Stretch T) hRm (by decide) (by rfl) (pa_cons (pv 3) (pa_cons (pv 4) pa_nil))) pa_nil))))) pss_nil)
    (pss_cons (ps_set (i := 5) sc_piece_stretches.nd rfl (by first | exact Or.inl rfl | exact Or.inr rfl) (C8.pe_c (c_over T) hRm (by decide) (by rfl) (pa_cons (pv 2) (pa_cons (pe_tup (pa_cons (pe_fld (pv 0) rfl) (pa_cons pe_int pa_nil))) pa_nil))))
    (pss_cons (ps_if (pt_cmpR (op_gt) (pe_fld (pv 0) rfl) pe_int (nomark _)) (pss_one (ps_set (i := 3) sc_piece_stretches.nd rfl (by first | exact Or.inl rfl | exact Or.inr rfl) (C8.pe_c (c_greatest_of T) hRm (by decide) (by rfl) (pa_cons (pe_tup (pa_cons (pv 3) (pa_cons (pv 5) pa_nil))) pa_nil)))) (pss_one (ps_set (i := 4) sc_piece_stretches.nd rfl (by first | exact Or.inl rfl | exact Or.inr rfl) (C8.pe_c (c_lesser_high T) hRm (by decide) (by rfl) (pa_cons (pv 4) (pa_cons (pv 5) pa_nil))))))
    (pss_cons (ps_if (PW.pt (pw_and (pt_cmpR op_notNX (pv 4) pe_non (nomark _)) (pw_and1 (PW.pt (pw_or (pt_cmpR (op_eqD hRm.units) (C8.pe_c (c_compare T) hRm (by decide) (by rfl) (pa_cons (pv 4) (pa_cons (pv 3) pa_nil))) (pe_un un_neg pe_int) (nomark _)) (pw_or1 (pt_cmpR (op_eqD hRm.units) (pv 4) (C8.pe_gc (v := .ref (He.ga K "ONE")) (by rfl) ⟨_, T.glo 86, rfl⟩) (nomark _)))))))) (pss_one (ps_ret (pe_tup pa_nil))) pss_nil)
    (pss_one (ps_ret (pe_tup (pa_cons (C8.pe_mk (c_Stretch T) hRm (by decide) (by rfl) (pa_cons (pv 3) (pa_cons (pv 4) pa_nil))) pa_nil)))))))))), ?_⟩
    refine s_seq (s_asgV (e_minus (b := (p.start : Rat)) (e_var rfl) (e_tup (ea_cons (e_sstart T (e_var rfl)) (ea_cons e_int ea_nil)) (of_decide_eq_true rfl)) (hs.mono (by decide)) (hst.mono (by decide))) ?_)
    refine s_seq (s_par (ea_cons (e_slow T (e_var rfl)) (ea_cons (e_shigh T (e_var rfl)) ea_nil)) ?_)
    by_cases hr : p.rise = 0
    · refine s_seq (s_ifT (t_imp (t_test (e_op (e_srise T (e_var rfl)) e_int ro_eq)) fun x e => e.trans (decide_eq_true hr)) ?_)
      unfold pieceM at hok ⊢
      rw [if_pos hr] at hok ⊢
      refine s_ret (e_if (t_test (e_op (e_op (e_var rfl) e_int (ro_ix rfl)) e_int ro_gt)) (fun c => ?_) fun c => ?_) fun d hd => hd
      · rw [if_pos (of_decide_eq_true c)]
        exact e_tup ea_nil (of_decide_eq_true rfl)
      · rw [if_neg (of_decide_eq_false c)] at hok ⊢
        exact e_tup (ea_cons (e_stretch (s := (p.low, p.high)) (e_var rfl) (e_var rfl) (hok _ (List.mem_singleton.mpr rfl))) ea_nil) (of_decide_eq_true rfl)
    · refine s_seq (s_ifF (t_imp (t_test (e_op (e_srise T (e_var rfl)) e_int ro_eq)) fun x e => e.trans (decide_eq_false hr)) (s_next ?_))
      have hbd : Sr 3000 (pieceBd p sh) := (Sr.div hlack hri (int_ne hr)).mono (by decide)
      refine s_seq (s_asgV (d := rat (pieceBd p sh)) (e_over (b := (p.rise : Rat)) (e_var rfl) (e_tup (ea_cons (e_srise T (e_var rfl)) (ea_cons e_int ea_nil)) (of_decide_eq_true rfl)) (hlack.mono (by decide)) (hri.mono (by decide)) (int_ne hr)) ?_)
      refine s_mid (fun Γ => ∃ lo hi, Sr 3000 lo ∧ OOk 3000 hi ∧ pieceM p sh = pieceCut lo hi ∧ Γ = [.val (segD K p), .val (rat sh), .val (rat (sh - (p.start : Rat))), .val (rat lo), .val (ratO hi), .val (rat (pieceBd p sh))]) ?_ fun Γ' hΓ => ?_
      · unfold pieceM
        rw [if_neg hr]
        refine s_ifB (t_test (e_op (e_srise T (e_var rfl)) e_int ro_gt)) (fun c => ?_) fun c => ?_
        · rw [if_pos (of_decide_eq_true c)]
          exact s_asgV (e_greatM (e_var rfl) (e_var rfl) (hp.lo.mono (by decide)) hbd) ⟨_, _, maxR_sr (hp.lo.mono (by decide)) hbd, hi0, rfl, rfl⟩
        · rw [if_neg (of_decide_eq_false c)]
          have hbo : OOk 3000 (some (pieceBd p sh)) := fun h e => by cases Option.some.inj e; exact hbd
          refine s_asgV (e_lesser (b := some (pieceBd p sh)) (e_var rfl) (e_var rfl) hi0 hbo) ⟨_, _, hp.lo.mono (by decide), ?_, rfl, rfl⟩
          rcases minO_or p.high (some (pieceBd p sh)) with w | w
          · rw [w]; exact hi0
          · rw [w]; exact hbo
      · obtain ⟨lo, hi, hlo, hhi, eM, rfl⟩ := hΓ
        rw [eM] at hok ⊢
        clear eM
        cases hi with
        | none =>
          refine s_seq (s_ifF (t_and (a := false) (b := false) (t_test (e_op (x := .non) (e_var rfl) e_non ro_notN)) fun z => by cases z) (s_next ?_))
          exact s_retV (e_tup (ea_cons (e_stretch (s := (lo, none)) (e_var rfl) (e_var rfl) (hok _ (List.mem_singleton.mpr rfl))) ea_nil) (of_decide_eq_true rfl)) rfl
        | some h =>
          have hh := hhi h rfl
          refine s_seq (s_ifB (b := decide (h < lo ∨ h = 1)) (t_imp (t_and (a := true) (t_test (e_op (x := rat h) (e_var rfl) e_non ro_notN)) fun _ => t_or (t_test (t_lt (e_compare (a := h) (e_var rfl) (e_var rfl) hh hlo) e_m1)) fun _ => t_test (e_op (x := rat h) (e_var rfl) (e_one T) ro_eqR)) fun x e => e.trans (by simp)) (fun c => ?_) fun c => s_next ?_)
          · rw [show pieceCut lo (some h) = [] from if_pos (of_decide_eq_true c)]
            exact s_retV (e_tup ea_nil (of_decide_eq_true rfl)) rfl
          · rw [show pieceCut lo (some h) = [(lo, some h)] from if_neg (of_decide_eq_false c)] at hok ⊢
            exact s_retV (e_tup (ea_cons (e_stretch (s := (lo, some h)) (e_var rfl) (e_var rfl) (hok _ (List.mem_singleton.mpr rfl))) ea_nil) (of_decide_eq_true rfl)) rfl


abbrev N_couple_stretches : List Str := ["a_count", "b_count", "share", "kept", "piece"]
theorem sc_couple_stretches : FnScope N_couple_stretches ["a_count", "b_count", "share"] (defScope JA.s_couple_stretches) := ⟨rfl, rfl, rfl, by decide +kernel, rfl, by decide +kernel, by decide +kernel⟩
def R_couple_stretches (K : PySem.W.Frag) : List D → D → Prop := fun ds d => ∃ (a b : Int) (s : Rat), ds = [.int a, .int b, rat s] ∧ 0 ≤ a ∧ 0 ≤ b ∧ 1 ≤ a + b ∧ a + b ≤ 8 ∧ Sr 120 s ∧ 0 < s ∧ s ≤ 1 ∧ profOk a b = true ∧ d = .tup ((coupleM a b s).map (strD K))
theorem c_couple_stretches (T : Tx K mg) : Cal P w K mg base 12 "couple_stretches" (spV K (R_couple_stretches K)) [] := by
  refine cal_V (T.glo 38) (T.says.1.def_ 38) sc_couple_stretches (fun ds d h => ?_) (fun _ _ _ _ _ _ us hl => match us, hl with | [_, _, _], _ => rfl) fun cdv A outer s H E hRm ds d h => ?_
  · obtain ⟨a, b, s, rfl, _⟩ := h
    rfl
  · obtain ⟨a, b, sh, rfl, ha, hb, h1, h8, hs, h0, hs1, hpo, rfl⟩ := h
    unfold profOk at hpo
    simp only [Bool.and_eq_true, List.all_eq_true, decide_eq_true_eq] at hpo
    obtain ⟨⟨hf, hpp⟩, hpl⟩ := hpo
    have hok : ∀ p ∈ profileM a b, PieceOk p := fun p hp => pieceB_ok (hpp p hp)
    refine ⟨_, (pss_cons (ps_expr (C8.pe_c (c_check_counts T) hRm (by decide) (by rfl) (pa_cons (pv 0) (pa_cons (pv 1) pa_nil))))
    (pss_cons (ps_expr (C8.pe_c (c_check_share T) hRm (by decide) (by rfl) (pa_cons (pv 2) pa_nil)))
    (pss_cons (ps_if (pt_cmpR (op_eqD hRm.units) (pe_op op_addX (pv 0) (pv 1)) pe_int (nomark _)) (pss_one (ps_ret (pe_tup (pa_cons (C8.pe_mk (c_Stretch T) hRm (by decide) (by rfl) (pa_cons (C8.pe_gc (v := .ref (He.ga K "ONE")) (by rfl) ⟨_, T.glo 86, rfl⟩) (pa_cons pe_non pa_nil))) pa_nil)))) pss_nil)
    (pss_cons (ps_set (i := 3) sc_couple_stretches.nd rfl (by first | exact Or.inl rfl | exact Or.inr rfl) (pe_tup pa_nil))
    (pss_cons (ps_for PassesOwn.never rfl (pi_tup (C8.pe_c (c_share_profile T) hRm (by decide) (by rfl) (pa_cons (pv 0) (pa_cons (pv 1) pa_nil)))) (pg_name (i := 4) sc_couple_stretches.nd rfl (by first | exact Or.inl rfl | exact Or.inr rfl)) (pss_one (ps_set (i := 3) sc_couple_stretches.nd rfl (by first | exact Or.inl rfl | exact Or.inr rfl) (C8.pe_c (c_either_stretches T) hRm (by decide) (by rfl) (pa_cons (pv 3) (pa_cons (C8.pe_c (c_piece_stretches T) hRm (by decide) (by rfl) (pa_cons (pv 4) (pa_cons (pv 2) pa_nil))) pa_nil))))))
    (pss_one (ps_ret (pv 3)))))))), ?_⟩
    refine s_seq (s_drop (e_ccounts (e_var rfl) (e_var rfl) ha hb h1 h8) ?_)
    refine s_seq (s_drop (e_cshare (e_var rfl) (hs.mono (by decide)) h0 hs1) ?_)
    unfold coupleM
    by_cases hone : a + b = 1
    · rw [if_pos hone]
      refine s_seq (s_ifT (t_imp (t_test (e_op (e_op (e_var rfl) (e_var rfl) ro_add) e_int ro_eq)) fun x e => e.trans (decide_eq_true hone)) ?_)
      exact s_retV (e_tup (ea_cons (e_stretch (s := (1, none)) (e_one T) e_non ⟨sr_one, Rat.le_refl, fun _ e => by cases e⟩) ea_nil) (of_decide_eq_true rfl)) rfl
    · rw [if_neg hone]
      refine s_seq (s_ifF (t_imp (t_test (e_op (e_op (e_var rfl) (e_var rfl) ro_add) e_int ro_eq)) fun x e => e.trans (decide_eq_false hone)) (s_next ?_))
      refine s_seq (s_asgV (e_tup ea_nil (of_decide_eq_true rfl)) ?_)
      have ep : Ev K _ [.val (.int a), .val (.int b), .val (rat sh), .val (.tup []), .no] (.tup ((profileM a b).map (segD K))) := e_call (E := C8.E0) (R := R_share_profile K) (ea_cons (e_var (i := 0) rfl) (ea_cons (e_var (i := 1) rfl) ea_nil)) ⟨a, b, rfl, ha, hb, h1, h8, hf, rfl⟩
      generalize profileM a b = ps at *
      refine s_mid (fun Γ => ∃ u, Γ = [.val (.int a), .val (.int b), .val (rat sh), .val (.tup ((ps.foldl (fun k p => eitherM k (pieceM p sh)) []).map (strD K))), u]) ?_ fun Γ' hΓ => ?_
      · refine s_forL (vs := [4]) ps (segD K) (fun pre Γ => ∃ u, Γ = [.val (.int a), .val (.int b), .val (rat sh), .val (.tup ((pre.foldl (fun k p => eitherM k (pieceM p sh)) []).map (strD K))), u]) (i_tup ep) ⟨.no, rfl⟩ (fun pre p post Γ1 e iv => ⟨_, g_name, ?_⟩) fun Γ1 iv => iv
        obtain ⟨u, rfl⟩ := iv
        have hp := hok p (by rw [e]; simp)
        obtain ⟨k1, k2⟩ := couple_pre hs pre [] (fun q hq => hok q (by rw [e]; simp [hq])) fun _ h => by cases h
        have hl : pre.length ≤ 300 := by
          have := congrArg List.length e
          rw [List.length_append] at this
          omega
        have hm := pieceM_len p sh
        rw [List.foldl_append, List.foldl_cons, List.foldl_nil]
        generalize pre.foldl (fun k p => eitherM k (pieceM p sh)) [] = k at *
        refine s_asgV (e_either (e_var rfl) (e_call (ea_cons (e_var rfl) (ea_cons (e_var rfl) ea_nil)) ⟨p, sh, rfl, hp, hs, rfl⟩) ?_ k1 (pieceM_ok hp hs)) ⟨_, Le.refl _, _, rfl⟩
        simp only [List.length_nil] at k2
        omega
      · obtain ⟨u, rfl⟩ := hΓ
        exact s_retV (e_var rfl) rfl
end
end JD
set_option maxHeartbeats 4000000
namespace JD
open PySem PySem.Spec PyProof.Rows L2
open C8 (Cal Mak)
/-! ### exceptions -/
/-- what is known of an own exception class -/
structure ExcT (K : PySem.W.Frag) (C I : Addr) : Prop where
  oex : OexC K C
  xf : XfC K C
  ini : PySem.W.findIn K (.ref C) "__init__" = some (some (.ref I))
  tini : PySem.W.typeIn K (.ref I) = some (.type "function")
theorem excB_ok {K : PySem.W.Frag} {x : Str} (h : JA.excB K x = true) : ExcT K (He.ga K x) (He.ma K (He.ga K x) "__init__") := by
  unfold JA.excB at h
  simp only [Bool.and_eq_true] at h
  obtain ⟨h1, h2, h3, h4, h5, h6, h7, h8, h9, h10⟩ := h
  refine ⟨⟨?_, He.eqO_ok h5, of_decide_eq_true h3, of_decide_eq_true h4, h2⟩, ⟨He.eqO_ok h6, He.eqO_ok h7, of_decide_eq_true h3, h10⟩, He.eqO_ok h8, of_decide_eq_true h9⟩
  unfold JA.oexB at h1
  split at h1
  · rename_i dd cd sl hl
    split at h1
    · rename_i C' bm k0 k1 k2 k3 n k5 em es
      simp only [Bool.and_eq_true, beq_iff_eq, Bool.not_eq_true'] at h1
      obtain ⟨e1, e2, e3, e4, e5⟩ := h1
      refine ⟨cd.name, cd.qualname, cd.ns, cd.bases, bm, cd.slotNames, cd.subclasses, cd.abstract, cd.collection, dd, k0, k1, k2, k3, k5, ?_, e4⟩
      rw [hl]
      obtain ⟨c1, c2, c3, c4, c5, c6, c7, c8, c9, c10, c11⟩ := cd
      obtain ⟨sl⟩ := sl
      simp only at em es e3 e5 ⊢
      subst e1 e2 em es e3 e5
      rfl
    · cases h1
  · cases h1
theorem Tx.badP {K : PySem.W.Frag} {mg : Str → Option Value} (T : Tx K mg) : ExcT K (He.ga K "BadPattern") (He.ma K (He.ga K "BadPattern") "__init__") := by
  have h := T.says.2
  unfold JA.exB at h
  simp only [Bool.and_eq_true] at h
  exact excB_ok h.2.2.2.1
theorem Tx.badC {K : PySem.W.Frag} {mg : Str → Option Value} (T : Tx K mg) : ExcT K (He.ga K "BadCounts") (He.ma K (He.ga K "BadCounts") "__init__") := by
  have h := T.says.2
  unfold JA.exB at h
  simp only [Bool.and_eq_true] at h
  exact excB_ok h.2.2.2.2.1
/-- its __init__: one field -/
def spO (K : PySem.W.Frag) (C : Addr) (f : Str) : Sp := fun vs H Q _ => ∃ (a : Addr) (v : V), vs = [.ref a, v] ∧ H a = some (exo a C none) ∧ ∀ dx, H dx = none → dx ≠ a → Q .non (upd (upd H dx (exd dx [(f, v)])) a (exo a C (some dx)))
/-- within a def that may let an exception out: from a fixed start -/
def Ex (K : PySem.W.Frag) (hd : Option Hd) (fr : Addr → Prop) (B0 H0 : Hp) (ts : TS) (Γ : List S) (Ψ : Post) : Prop := ∀ (B H : Hp) (σ : L2.St) (Dd : Ends), Sx K hd fr B H σ Γ → Gs hd fr B0 H0 B H →
  (∀ B' H' σ' Γ', Gs hd fr B0 H0 B' H' → Same B B' → Sx K hd fr B' H' σ' Γ' → Ψ.nx Γ' → Dd.nx σ' H') →
  (∀ B' H' v d, Gs hd fr B0 H0 B' H' → Same B' H' → HdOk hd B' H' → Rep K B' v d → Ψ.rt d → Dd.rt v H') →
  (∀ B' H' σ' Γ', Gs hd fr B0 H0 B' H' → Same B B' → Sx K hd fr B' H' σ' Γ' → Ψ.bk Γ' → Dd.bk σ' H') →
  (∀ B' H' σ' Γ', Gs hd fr B0 H0 B' H' → Same B B' → Sx K hd fr B' H' σ' Γ' → Ψ.ct Γ' → Dd.ct σ' H') → ts Dd σ H
section
variable {K : PySem.W.Frag} {hd : Option Hd} {fr : Addr → Prop} {B0 H0 : Hp} {Γ Γ' : List S} {Ψ : Post} {ts tu : TS} {tc : TT} {te : TE} {d : D}
theorem x_of (h : Es K ts Γ Ψ) : Ex K hd fr B0 H0 ts Γ Ψ := fun B H σ Dd S0 g k1 k2 k3 k4 => h hd fr B H σ Dd S0
  (fun B' H' σ' Γ' g' => k1 B' H' σ' Γ' (g.trans g') g'.ext) (fun B' H' v d g' => k2 B' H' v d (g.trans g')) (fun B' H' σ' Γ' g' => k3 B' H' σ' Γ' (g.trans g') g'.ext) fun B' H' σ' Γ' g' => k4 B' H' σ' Γ' (g.trans g') g'.ext
theorem x_seq (h : Ex K hd fr B0 H0 ts Γ { Ψ with nx := fun Γ' => Ex K hd fr B0 H0 tu Γ' Ψ }) : Ex K hd fr B0 H0 (tSeq ts tu) Γ Ψ := fun B H σ Dd S0 g k1 k2 k3 k4 =>
  h B H σ { Dd with nx := tu Dd } S0 g (fun B' H' σ' Γ' g' s1 S1 q => q B' H' σ' Dd S1 g' (fun B2 H2 σ2 Γ2 g2 s2 => k1 B2 H2 σ2 Γ2 g2 (s1.trans s2)) k2 (fun B2 H2 σ2 Γ2 g2 s2 => k3 B2 H2 σ2 Γ2 g2 (s1.trans s2)) fun B2 H2 σ2 Γ2 g2 s2 => k4 B2 H2 σ2 Γ2 g2 (s1.trans s2)) k2 k3 k4
theorem x_if {Φ : Bool → Prop} (h : Et K tc Γ Φ) (h1 : Φ true → Ex K hd fr B0 H0 ts Γ Ψ) (h2 : Φ false → Ex K hd fr B0 H0 tu Γ Ψ) : Ex K hd fr B0 H0 (tIfS tc ts tu) Γ Ψ := fun B H σ Dd S0 g k1 k2 k3 k4 => h hd fr B H σ _ S0 fun B' H' b g' p => by
  cases b with
  | true => exact iteT (h1 p B' H' σ Dd (S0.go g') (g.trans g'.gs) (fun B2 H2 σ2 Γ2 g2 s2 => k1 B2 H2 σ2 Γ2 g2 (g'.ext.trans s2)) k2 (fun B2 H2 σ2 Γ2 g2 s2 => k3 B2 H2 σ2 Γ2 g2 (g'.ext.trans s2)) fun B2 H2 σ2 Γ2 g2 s2 => k4 B2 H2 σ2 Γ2 g2 (g'.ext.trans s2))
  | false => exact iteF (h2 p B' H' σ Dd (S0.go g') (g.trans g'.gs) (fun B2 H2 σ2 Γ2 g2 s2 => k1 B2 H2 σ2 Γ2 g2 (g'.ext.trans s2)) k2 (fun B2 H2 σ2 Γ2 g2 s2 => k3 B2 H2 σ2 Γ2 g2 (g'.ext.trans s2)) fun B2 H2 σ2 Γ2 g2 s2 => k4 B2 H2 σ2 Γ2 g2 (g'.ext.trans s2))
theorem x_for {wi : TI} {g : TG} {ds : List D} {vs : List Nat} (Inv : Nat → List S → Prop) (hi : Ei K wi Γ ds) (h0 : Inv 0 Γ)
    (hs : ∀ i d Γ1, ds[i]? = some d → Inv i Γ1 → ∃ Γ2, Eg K g d Γ1 Γ2 vs ∧ Ex K hd fr B0 H0 ts Γ2 ⟨fun Γ3 => ∃ Γ4, Le Γ4 Γ3 ∧ Inv (i + 1) Γ4, Ψ.rt, Ψ.nx, fun Γ3 => ∃ Γ4, Le Γ4 Γ3 ∧ Inv (i + 1) Γ4⟩)
    (hd' : ∀ Γ1, Inv ds.length Γ1 → Ψ.nx Γ1) : Ex K hd fr B0 H0 (tFor wi g ts) Γ Ψ := fun B H σ Dd S0 gg0 k1 k2 k3 k4 => hi hd fr B H σ _ S0 fun B1 H1 J g1 Y => by
  refine ⟨fun i m σ' H' => m = ds.length - i ∧ i ≤ ds.length ∧ ∃ B' Γ', Gs hd fr B0 H0 B' H' ∧ Same B1 B' ∧ Sx K hd fr B' H' σ' Γ' ∧ Inv i Γ', ⟨_, rfl, Nat.zero_le _, B1, Γ, gg0.trans g1.gs, Same.refl _, S0.go g1, h0⟩, ?_⟩
  rintro i m σ' H' ⟨rfl, hle, B', Γ', gg, s1, S1, iv⟩
  obtain ⟨ys, yd⟩ := Y B' H' s1 S1.sub
  by_cases hlt : i < ds.length
  · obtain ⟨go, yl⟩ := ys i _ (List.getElem?_eq_getElem hlt)
    refine .inr ⟨go, fun σ2 H2 => i < ds.length ∧ ∃ B2 Γ2, Gs hd fr B0 H0 B2 H2 ∧ Same B1 B2 ∧ Sx K hd fr B2 H2 σ2 Γ2 ∧ Inv (i + 1) Γ2, fun σ2 H2 q => ⟨_, by omega, rfl, hlt, q.2⟩, fun x H2 yx => ?_⟩
    obtain ⟨B3, g3, r3⟩ := yl x H2 yx
    have g3' := g3.up S1.hand
    obtain ⟨Γ2, hg, hb⟩ := hs i _ Γ' (List.getElem?_eq_getElem hlt) iv
    refine hg hd fr B3 H2 σ' x _ (S1.go g3') r3 fun σ2 S2 _ => ?_
    have g4 : Gs hd fr B0 H0 B3 H2 := gg.trans g3'.gs
    have s4 : Same B1 B3 := s1.trans g3.ext
    refine hb B3 H2 σ2 _ S2 g4 (fun B5 H5 σ5 Γ5 g5 s5 S5 q => ?_) k2 (fun B5 H5 σ5 Γ5 g5 s5 S5 q => k1 B5 H5 σ5 Γ5 g5 (g1.ext.trans (s4.trans s5)) S5 q) (fun B5 H5 σ5 Γ5 g5 s5 S5 q => ?_)
    · obtain ⟨Γ6, l6, q6⟩ := q
      exact ⟨hlt, B5, Γ6, g5, s4.trans s5, S5.le l6, q6⟩
    · obtain ⟨Γ6, l6, q6⟩ := q
      exact ⟨hlt, B5, Γ6, g5, s4.trans s5, S5.le l6, q6⟩
  · have e : i = ds.length := by omega
    subst e
    exact .inl ⟨yd, k1 B' H' σ' Γ' gg (g1.ext.trans s1) S1 (hd' Γ' iv)⟩
theorem gs_of {B1 H1 B' H' : Hp} (g0 : Gs hd fr B0 H0 B1 H1) (g : Go hd B1 H1 B' H') : Gs hd fr B0 H0 B' H' := g0.trans g.gs
theorem x_raise {C : Addr} {f : Str} {E : XK} (he : Ev K te Γ d) (hE : ∀ B' H' dx fs, Gs hd fr B0 H0 B' H' → Same B' H' → HdOk hd B' H' → H' dx = some (.xd fs) → RepF K B' fs [(f, d)] → E (.ref C) (some dx) H') :
    Ex K hd fr B0 H0 (fun _ σ H => tMkO C (spO K C f) [] (tCons te tNil) σ H fun cls d H' => E cls d H') Γ Ψ := fun B H σ Dd S0 g _ _ _ _ => he hd fr B H σ _ S0 fun B1 H1 v x g1 r1 p1 => by
  subst p1
  refine ⟨of_decide_eq_true rfl, fun a ha => ⟨a, v, rfl, upd_same, fun dx hdx hne => ⟨rfl, dx, [(f, v)], upd_same, by rw [upd_ne hne, upd_same], by rw [upd_ne hne] at hdx; exact hdx, ?_⟩⟩⟩
  have hdx' : H1 dx = none := by rw [upd_ne hne] at hdx; exact hdx
  have eH : upd (del (upd (upd (upd H1 a (exo a C none)) dx (exd dx [(f, v)])) a (exo a C (some dx))) a) dx (.xd [(f, v)]) = upd H1 dx (.xd [(f, v)]) := by
    funext b
    by_cases hb : b = dx
    · rw [hb, upd_same, upd_same]
    · rw [upd_ne hb, upd_ne hb]
      by_cases hba : b = a
      · rw [hba, del_same, ha]
      · rw [del_ne hba, upd_ne hba, upd_ne hb, upd_ne hba]
  rw [eH]
  have g2 := g1.fresh (o := .xd [(f, v)]) hdx'
  exact hE B1 _ dx _ (g.trans g2.gs) g2.sub g2.hand upd_same (.cons r1 .nil)
end
/-! promises of defs that may let an exception out -/
def spX (K : PySem.W.Frag) (C : Addr) (R : List D → D → Prop) (Rr : List D → List (Str × D) → Prop) : Sp := fun vs H Q E => ∃ B ds, RepL K B vs ds ∧ Same B H ∧
  ((∃ d, R ds d ∧ ∀ B' H' v, Go none B H B' H' → Rep K B' v d → Q v H') ∨ (∃ gs, Rr ds gs ∧ ∀ B' H' dx fs, Go none B H B' H' → H' dx = some (.xd fs) → RepF K B' fs gs → E (.ref C) (some dx) H'))
section
variable {P : Program} {w : World} {K : PySem.W.Frag} {mg : Str → Option Value} {base : Heap}
theorem fnok_X {x qual : Str} {st : Stmt} {dv : List V} {f : Addr} {fd : FuncData} {N ps : List Str} {k : Nat} {C : Addr} {R : List D → D → Prop} {Rr : List D → List (Str × D) → Prop} (F : FunD K x qual (defArgs st) (defBody st) (defScope st) dv [] f fd) (Sc : FnScope N ps (defScope st)) (len : ∀ ds d, R ds d → ds.length = ps.length) (lenr : ∀ ds d, Rr ds d → ds.length = ps.length)
    (hb : ∀ (cdv : Value) (A : Around) (outer : List Env) (s : Shared) (H : Hp) (E : XK), Room k (A.deeper (envOfC qual (defScope st) s.heap.objs.size f cdv)) → ∀ ds d, R ds d →
      ∃ t, PSs (cxOf (CX P w) P w K mg base N qual (defScope st) f cdv A outer s H E).nox (defBody st) t ∧ Es K t (ds.map S.val ++ List.replicate (N.length - ps.length) .no) ⟨fun _ => d = .non, fun z => z = d, fun _ => False, fun _ => False⟩)
    (hr : ∀ (cdv : Value) (A : Around) (outer : List Env) (s : Shared) (H : Hp) (E : XK), Room k (A.deeper (envOfC qual (defScope st) s.heap.objs.size f cdv)) → ∀ ds gs, Rr ds gs → ∀ B : Hp,
      (∀ B' H' dx fs, Gs none (fun a => H a = none) B H B' H' → Same B' H' → H' dx = some (.xd fs) → RepF K B' fs gs → E (.ref C) (some dx) H') →
      ∃ t, PSs (cxOf (CX P w) P w K mg base N qual (defScope st) f cdv A outer s H E) (defBody st) t ∧ Ex K none (fun a => H a = none) B H t (ds.map S.val ++ List.replicate (N.length - ps.length) .no) ⟨fun _ => False, fun _ => False, fun _ => False, fun _ => False⟩) :
    FnOk P w K mg base (CX P w) (k + 1) f fd ps (spX K C R Rr) := by
  refine F.ok Sc (fun vs H Q E h => ?_) fun cdv A outer s H vs Q E hrm h => ?_
  · obtain ⟨B, ds, r, _, ⟨d, hR, _⟩ | ⟨gs, hR, _⟩⟩ := h
    · rw [r.length]; exact len ds d hR
    · rw [r.length]; exact lenr ds gs hR
  · have fin : ∀ {B B' H' : Hp}, Gs none (fun a => H a = none) B H B' H' → Same B' H' → Go none B H B' H' := fun {B B' H'} g s' => ⟨g.ext, s', fun a o t e n _ => g.keep a o t e n (fun z => by rw [z] at e; cases e) (fun _ z => by cases z), g.tups, hd_none⟩
    obtain ⟨B, ds, r, ss, ⟨d, hR, q⟩ | ⟨gs, hR, q⟩⟩ := h
    · obtain ⟨t, ht, he⟩ := hb cdv A outer s H E hrm ds d hR
      refine ⟨t, ht.nox, ?_⟩
      have S0 := sx_start (hd := none) ss hd_none r (N.length - ps.length)
      have el : L2.start N vs = vs.map some ++ List.replicate (N.length - ps.length) none := by
        unfold L2.start
        rw [r.length, len ds d hR]
      rw [el]
      refine he none _ B H _ _ S0 (fun B' H' σ' Γ' g S1 e => ?_) (fun B' H' v d' g s' _ rv e => ?_) (fun _ _ _ _ _ _ z => z.elim) (fun _ _ _ _ _ _ z => z.elim)
      · have e' : d = .non := e
        subst e'
        exact q B' H' .non (fin g S1.sub) .non
      · have e' : d' = d := e
        subst e'
        exact q B' H' v (fin g s') rv
    · obtain ⟨t, ht, he⟩ := hr cdv A outer s H E hrm ds gs hR B fun B' H' dx fs g s' hx rf => q B' H' dx fs (fin g s') hx rf
      refine ⟨t, ht, ?_⟩
      have S0 := sx_start (hd := none) ss hd_none r (N.length - ps.length)
      have el : L2.start N vs = vs.map some ++ List.replicate (N.length - ps.length) none := by
        unfold L2.start
        rw [r.length, lenr ds gs hR]
      rw [el]
      exact he B H _ _ S0 .refl (fun _ _ _ _ _ _ _ z => z.elim) (fun _ _ _ _ _ _ _ _ z => z.elim) (fun _ _ _ _ _ _ _ z => z.elim) (fun _ _ _ _ _ _ _ z => z.elim)
/-- a def that may let an exception out, called by its name -/
structure XCal (P : Program) (w : World) (K : PySem.W.Frag) (mg : Str → Option Value) (base : Heap) (k : Nat) (x : Str) (sp : Sp) : Prop where
  ex : ∃ (f : Addr) (fd : FuncData) (ps : List Str), FnOk P w K mg base (CX P w) k f fd ps sp ∧ mg x = some (.ref f) ∧ PySem.W.keepIn K (.ref f) = true ∧ Binds K fd ps []
theorem pe_x {X : Cx} {k j : Nat} {x : Str} {sp : Sp} {p pos : Pos} {e : Expr} {es : List Expr} {t : TA} {E : XK} (c : XCal X.prog X.w X.K X.mg X.base k x sp) (hr : Room j X.A) (hk : k ≤ j) (hx : Passes (CX X.prog X.w) X E) (hg : Gl X x) (ha : PA X (e :: es) t)
    (hdb : (x == ("__debug__" : Str)) = false := by decide) (he : starEach (e :: es) X.env = (false, eval e X.env) :: starEach es X.env := by rfl) (hpl : (backTo pos (starEach es X.env)).any (·.1) = false := by rfl) :
    PE X (.Call (.Name x p) (e :: es) [] pos) (tCall sp [] E t) := by
  obtain ⟨f, fd, ps, F, hm, kp, b⟩ := c.ex
  exact pe_call F (hr.mono hk) hg hm kp b .nil hx ha hdb he hpl
end
end JD
set_option maxHeartbeats 4000000
namespace JD
open PySem PySem.Spec PyProof.Rows L2
open C8 (Cal Mak)
/-! ### the two exceptions -/

abbrev N_BadPattern_init : List Str := ["self", "index"]
theorem sc_BadPattern_init : FnScope N_BadPattern_init ["self", "index"] (defScope JA.s_BadPattern_init) := ⟨rfl, rfl, rfl, by decide +kernel, rfl, by decide +kernel, by decide +kernel⟩
abbrev N_BadCounts_init : List Str := ["self", "what"]
theorem sc_BadCounts_init : FnScope N_BadCounts_init ["self", "what"] (defScope JA.s_BadCounts_init) := ⟨rfl, rfl, rfl, by decide +kernel, rfl, by decide +kernel, by decide +kernel⟩
section
variable {P : Program} {w : World} {K : PySem.W.Frag} {mg : Str → Option Value} {base : Heap}
theorem f_BadPattern (T : Tx K mg) {CX : CXT} {dv : List V} {f : Addr} {fd : FuncData} (F : FunD K "__init__" "BadPattern.__init__" (defArgs JA.s_BadPattern_init) (defBody JA.s_BadPattern_init) (defScope JA.s_BadPattern_init) dv [] f fd) : FnOk P w K mg base CX 1 f fd ["self", "index"] (spO K (He.ga K "BadPattern") "index") := by
  refine F.ok sc_BadPattern_init (fun vs H Q E h => ?_) fun cdv A outer s H vs Q E hRm h => ?_
  · obtain ⟨a, v, rfl, _⟩ := h
    rfl
  · obtain ⟨a, v, rfl, ea, q⟩ := h
    exact ⟨_, PSs.nox (pss_one (ps_ost (pv 0) (pv 1))), v, rfl, .ref a, rfl, a, _, rfl, T.badP.oex, T.noat 121, .inl ⟨ea, fun dx n ne => q dx n ne⟩⟩
theorem f_BadCounts (T : Tx K mg) {CX : CXT} {dv : List V} {f : Addr} {fd : FuncData} (F : FunD K "__init__" "BadCounts.__init__" (defArgs JA.s_BadCounts_init) (defBody JA.s_BadCounts_init) (defScope JA.s_BadCounts_init) dv [] f fd) : FnOk P w K mg base CX 1 f fd ["self", "what"] (spO K (He.ga K "BadCounts") "what") := by
  refine F.ok sc_BadCounts_init (fun vs H Q E h => ?_) fun cdv A outer s H vs Q E hRm h => ?_
  · obtain ⟨a, v, rfl, _⟩ := h
    rfl
  · obtain ⟨a, v, rfl, ea, q⟩ := h
    exact ⟨_, PSs.nox (pss_one (ps_ost (pv 0) (pv 1))), v, rfl, .ref a, rfl, a, _, rfl, T.badC.oex, T.noat 124, .inl ⟨ea, fun dx n ne => q dx n ne⟩⟩
theorem pm_BadPattern {X : Cx} {j : Nat} {e : Expr} {te : TE} {p pos : Pos} (T : Tx X.K X.mg) (hr : Room j X.A) (hj : 2 ≤ j) (hg : Gl X "BadPattern") (ha : PA X [e] (tCons te tNil))
    (hs : starEach (e :: []) X.env = (false, eval e X.env) :: starEach [] X.env := by rfl) (hpl : (backTo pos (starEach [] X.env)).any (·.1) = false := by rfl) :
    PMk X (.Call (.Name "BadPattern" p) [e] [] pos) (tMkO (He.ga X.K "BadPattern") (spO X.K (He.ga X.K "BadPattern") "index") [] (tCons te tNil)) := by
  obtain ⟨fd, F⟩ := T.says.1.def_ 80
  exact pmk_oex (CX := CX0) T.badP.oex T.badP.ini T.badP.tini (f_BadPattern T F) (hr.mono hj) (F.bindsN fun _ _ _ _ _ _ us hl => match us, hl with | [_, _], _ => rfl) .nil C8.pass0 hg (T.glo 82) ha (by decide) hs hpl
theorem pm_BadCounts {X : Cx} {j : Nat} {e : Expr} {te : TE} {p pos : Pos} (T : Tx X.K X.mg) (hr : Room j X.A) (hj : 2 ≤ j) (hg : Gl X "BadCounts") (ha : PA X [e] (tCons te tNil))
    (hs : starEach (e :: []) X.env = (false, eval e X.env) :: starEach [] X.env := by rfl) (hpl : (backTo pos (starEach [] X.env)).any (·.1) = false := by rfl) :
    PMk X (.Call (.Name "BadCounts" p) [e] [] pos) (tMkO (He.ga X.K "BadCounts") (spO X.K (He.ga X.K "BadCounts") "what") [] (tCons te tNil)) := by
  obtain ⟨fd, F⟩ := T.says.1.def_ 81
  exact pmk_oex (CX := CX0) T.badC.oex T.badC.ini T.badC.tini (f_BadCounts T F) (hr.mono hj) (F.bindsN fun _ _ _ _ _ _ us hl => match us, hl with | [_, _], _ => rfl) .nil C8.pass0 hg (T.glo 83) ha (by decide) hs hpl
end
/-! ### a pattern or none -/
def okE (e : D) : Bool := wholeD e (.int 0) (.int 1)
def lenOk (x : D) : Bool := match x.items with
  | none => false
  | some es => decide (1 ≤ es.length ∧ es.length ≤ 50)
def patB (x : D) : Bool := lenOk x && ((x.items).getD []).all okE
def badAt (x : D) : Int := if lenOk x = true then ((((x.items).getD []).findIdx fun e => !okE e : Nat) : Int) else 0
def flatT (x : D) : Prop := x.tyV.isSome = true ∧ ∀ es, x.items = some es → ∀ e ∈ es, e.tyV.isSome = true
section
variable {P : Program} {w : World} {K : PySem.W.Frag} {mg : Str → Option Value} {base : Heap}
theorem rc_isiLT {x : D} (h : x.tyV.isSome = true) : Rc K (rIsiX K) [x, .tup (["list", "tuple"].map D.ty)] fun u => u = .bl x.items.isSome := by
  cases x with
  | lst es => exact rc_isiT (t := "list") rfl (by rfl)
  | tup es => exact rc_isiT (t := "tuple") rfl (by rfl)
  | non => exact rc_isiT (t := "NoneType") rfl (by rfl)
  | bl _ => exact rc_isiT (t := "bool") rfl (by rfl)
  | int _ => exact rc_isiT (t := "int") rfl (by rfl)
  | str _ => exact rc_isiT (t := "str") rfl (by rfl)
  | _ => cases h
theorem len_items {x : D} {es : List D} (h : x.items = some es) : x.len = some es.length := by
  cases x with
  | lst => cases Option.some.inj h; rfl
  | tup => cases Option.some.inj h; rfl
  | _ => cases h


def Rr_check_pattern : List D → List (Str × D) → Prop := fun ds gs => ∃ x : D, ds = [x] ∧ flatT x ∧ patB x = false ∧ gs = [(("index" : Str), .int (badAt x))]
theorem x_check_pattern (T : Tx K mg) : XCal P w K mg base 4 "check_pattern" (spX K (He.ga K "BadPattern") R_check_pattern Rr_check_pattern) := by
  obtain ⟨fd, F⟩ := T.says.1.def_ 11
  refine ⟨_, fd, ["pattern"], fnok_X F sc_check_pattern (fun ds d h => ?_) (fun ds d h => ?_) (fun cdv A outer s H E hRm ds d h => b_check_pattern T cdv A outer s H E hRm ds d h) fun cdv A outer s H E hRm ds gs h B hE => ?_, T.glo 11, F.kp, F.bindsN fun _ _ _ _ _ _ us hl => match us, hl with | [_], _ => rfl⟩
  · obtain ⟨x, ns, rfl, _⟩ := h
    rfl
  · obtain ⟨x, rfl, _⟩ := h
    rfl
  · obtain ⟨x, rfl, ⟨hx, hel⟩, hpat, rfl⟩ := h
    have tk : Takes (cxOf (CX P w) P w K mg base N_check_pattern "check_pattern" (defScope JA.s_check_pattern) (He.ga K "check_pattern") cdv A outer s H E) (fun cls d _ H => E cls d H) := takes_of rfl rfl rfl rfl
    refine ⟨_, (pss_cons (ps_if (PW.pt (pw_or (pt_not (pt_val (pe_callB call_isiX (by rfl) (T.free 94) (by decide +kernel) (pa_cons (pv 0) (pa_cons (pe_tup (pa_cons (pe_bltn (v := .ty "list") (by rfl) (T.free 96) (by decide +kernel) rfl) (pa_cons (pe_bltn (v := .ty "tuple") (by rfl) (T.free 104) (by decide +kernel) rfl) pa_nil))) pa_nil))))) (pw_or1 (pt_not (pt_chain op_le op_le pe_int (pe_callB call_lenX (by rfl) (T.free 95) (by decide +kernel) (pa_cons (pv 0) pa_nil)) (C8.pe_gc (v := .int 50) (by rfl) (T.int 105))))))) (pss_one (ps_raise rfl tk (pm_BadPattern T hRm (by decide) (by rfl) (pa_cons pe_int pa_nil)))) pss_nil)
    (pss_cons (ps_for (passes_of rfl) rfl (pi_enumX (by rfl) (T.free 92) (pa_cons (pv 0) pa_nil)) (pg_tup rfl (pgs_cons (pg_name (i := 1) sc_check_pattern.nd rfl (by first | exact Or.inl rfl | exact Or.inr rfl)) (pgs_cons (pg_name (i := 2) sc_check_pattern.nd rfl (by first | exact Or.inl rfl | exact Or.inr rfl)) pgs_nil))) (pss_one (ps_if (pt_not (pt_val (C8.pe_c (c_is_whole_3 T) hRm (by decide) (by rfl) (pa_cons (pv 2) (pa_cons pe_int (pa_cons pe_int pa_nil)))))) (pss_one (ps_raise rfl tk (pm_BadPattern T hRm (by decide) (by rfl) (pa_cons (pv 1) pa_nil)))) pss_nil)))
    (pss_one (ps_ret (pe_callTy call_tupleX (by rfl) (T.free 104) (by decide +kernel) (pa_cons (pv 0) pa_nil)))))), ?_⟩
    have e0 : Ev K (tCB (rIsiX K) (tCons (tVar 0) (tCons (tTup (tCons (tC (.ty "list")) (tCons (tC (.ty "tuple")) tNil))) tNil))) [.val x, .no, .no] (.bl x.items.isSome) := e_cb (ea_cons (e_var rfl) (ea_cons (e_tup (ea_cons e_ty (ea_cons e_ty ea_nil)) (of_decide_eq_true rfl)) ea_nil)) (rc_isiLT hx)
    refine x_seq (x_if (Φ := fun b => b = !lenOk x) ?_ (fun hb => ?_) fun hb => x_of (s_next ?_))
    · cases hi : x.items with
      | none =>
        rw [hi] at e0
        refine t_imp (t_or (a := true) (b := true) (t_not (a := false) (t_B e0)) fun z => by cases z) fun b e => e.trans ?_
        unfold lenOk
        rw [hi]
        rfl
      | some es =>
        rw [hi] at e0
        refine t_imp (t_or (a := false) (t_not (a := true) (t_B e0)) fun _ => t_not (t_test (e_chain e_int (e_cb (ea_cons (e_var rfl) ea_nil) (rc_len (len_items hi))) ro_le (fun _ => e_int) (fun _ => ro_le)))) fun b e => e.trans ?_
        unfold lenOk
        rw [hi]
        show (false || !(decide ((1 : Int) ≤ (es.length : Int)) && decide ((es.length : Int) ≤ 50))) = !decide (1 ≤ es.length ∧ es.length ≤ 50)
        rw [Bool.false_or, ← Bool.decide_and]
        congr 1
        exact decide_eq_decide.mpr (by omega)
    · have hl : lenOk x = false := by simpa using hb
      refine x_raise e_int fun B' H' dx fs g s' h' hxd rf => hE B' H' dx fs g s' hxd ?_
      unfold badAt
      rw [hl]
      exact rf
    · have hl : lenOk x = true := by simpa using hb
      unfold patB at hpat
      rw [hl, Bool.true_and] at hpat
      have hbad : badAt x = ((((x.items).getD []).findIdx fun e => !okE e : Nat) : Int) := if_pos hl
      rw [hbad] at hE
      cases hi : x.items with
      | none => unfold lenOk at hl; rw [hi] at hl; cases hl
      | some es =>
        rw [hi] at hpat hE
        have hpat' : es.all okE = false := hpat
        have hE' : ∀ B' H' dx fs, Gs none (fun a => H a = none) B H B' H' → Same B' H' → H' dx = some (.xd fs) → RepF K B' fs [(("index" : Str), .int ((es.findIdx fun e => !okE e : Nat) : Int))] → E (.ref (He.ga K "BadPattern")) (some dx) H' := hE
        refine x_seq (x_for (vs := [1, 2]) (fun i Γ => (∀ j, j < i → ∀ e, es[j]? = some e → okE e = true) ∧ ∃ u v, Γ = [.val x, u, v]) (i_enumX (ea_cons (e_var rfl) ea_nil) hi) ⟨fun j hj => absurd hj (Nat.not_lt_zero j), .no, .no, rfl⟩ (fun i d Γ1 hd iv => ?_) fun Γ1 iv => ?_)
        · obtain ⟨hall, u, v, rfl⟩ := iv
          obtain ⟨e, he, rfl⟩ := numd_get hd
          refine ⟨_, g_tup (gs_cons g_name (gs_cons g_name gs_nil)), ?_⟩
          refine x_if (t_not (t_B (e_whole3 (e_var rfl) e_int e_int (hel es hi e (List.mem_of_getElem? he))))) (fun hb => ?_) fun hb => x_of (s_next ⟨_, Le.refl _, ?_, _, _, rfl⟩)
          · have hbad : okE e = false := by unfold okE; simpa using hb
            refine x_raise (e_var (i := 1) rfl) fun B' H' dx fs g s' h' hxd rf => hE' B' H' dx fs g s' hxd ?_
            have hidx : (es.findIdx fun e => !okE e) = i := by
              have hlt := (List.getElem?_eq_some_iff.mp he).1
              rw [List.findIdx_eq hlt]
              refine ⟨?_, fun j hj => ?_⟩
              · rw [(List.getElem?_eq_some_iff.mp he).2, hbad]
                rfl
              · rw [hall j hj _ (List.getElem?_eq_getElem (Nat.lt_trans hj hlt))]
                rfl
            rw [hidx]
            exact rf
          · intro j hj e2 he2
            rcases Nat.lt_succ_iff_lt_or_eq.mp hj with hj | rfl
            · exact hall j hj e2 he2
            · rw [he] at he2
              cases Option.some.inj he2
              unfold okE
              simpa using hb
        · obtain ⟨hall, u, v, rfl⟩ := iv
          have : es.all okE = true := List.all_eq_true.mpr fun e he => by
            obtain ⟨j, hj, rfl⟩ := List.mem_iff_getElem.mp he
            exact hall j (by rw [numd_len]; exact hj) _ (List.getElem?_eq_getElem hj)
          rw [this] at hpat'
          cases hpat'
theorem takes_no {X : Cx} : Takes X (fun _ _ _ _ => False) := fun _ _ ⟨_, _, _, _, _, _, _, _, _, _, _, _, _, _, _, _, w⟩ => w.elim
theorem okE_int {e : D} (h : okE e = true) : e = .int 0 ∨ e = .int 1 := by
  unfold okE wholeD at h
  cases e with
  | int i =>
    simp only [loB, hiB, Bool.and_eq_true, decide_eq_true_eq] at h
    have : i = 0 ∨ i = 1 := by omega
    rcases this with rfl | rfl
    · exact .inl rfl
    · exact .inr rfl
  | _ => cases h
theorem okAll : ∀ {es : List D}, es.all okE = true → ∃ ns : List Int, es = ns.map D.int ∧ ∀ n ∈ ns, n = 0 ∨ n = 1
  | [], _ => ⟨[], rfl, fun _ h => by cases h⟩
  | e :: es, h => by
    rw [List.all_cons, Bool.and_eq_true] at h
    obtain ⟨ns, rfl, hn⟩ := okAll h.2
    rcases okE_int h.1 with rfl | rfl
    · exact ⟨0 :: ns, rfl, fun n hm => by rcases List.mem_cons.mp hm with rfl | hm; exact .inl rfl; exact hn n hm⟩
    · exact ⟨1 :: ns, rfl, fun n hm => by rcases List.mem_cons.mp hm with rfl | hm; exact .inr rfl; exact hn n hm⟩
theorem patB_ok {x : D} (h : patB x = true) : ∃ ns : List Int, x.items = some (ns.map D.int) ∧ patL ns := by
  unfold patB lenOk at h
  cases hi : x.items with
  | none => rw [hi] at h; cases h
  | some es =>
    rw [hi] at h
    simp only [Bool.and_eq_true, decide_eq_true_eq] at h
    obtain ⟨ns, rfl, hn⟩ := okAll h.2
    rw [List.length_map] at h
    exact ⟨ns, rfl, h.1.1, h.1.2, hn⟩
theorem patB_of {x : D} {ns : List Int} (hi : x.items = some (ns.map D.int)) (hp : patL ns) : patB x = true := by
  unfold patB lenOk
  rw [hi]
  simp only [Bool.and_eq_true, decide_eq_true_eq]
  refine ⟨by rw [List.length_map]; exact ⟨hp.1, hp.2.1⟩, ?_⟩
  show (ns.map D.int).all okE = true
  rw [List.all_map]
  exact List.all_eq_true.mpr fun n hn => by rcases hp.2.2 n hn with rfl | rfl <;> rfl
abbrev N_is_pattern : List Str := ["thing"]
theorem sc_is_pattern : FnScope N_is_pattern ["thing"] (defScope JA.s_is_pattern) := ⟨rfl, rfl, rfl, by decide +kernel, rfl, by decide +kernel, by decide +kernel⟩
def R_is_pattern : List D → D → Prop := fun ds d => ∃ x : D, ds = [x] ∧ flatT x ∧ d = .bl (patB x)
theorem c_is_pattern (T : Tx K mg) : Cal P w K mg base 5 "is_pattern" (spV K R_is_pattern) [] := by
  refine cal_V (T.glo 39) (T.says.1.def_ 39) sc_is_pattern (fun ds d h => ?_) (fun _ _ _ _ _ _ us hl => match us, hl with | [_], _ => rfl) fun cdv A outer s H E hRm ds d h => ?_
  · obtain ⟨x, rfl, _⟩ := h
    rfl
  · obtain ⟨x, rfl, hf, rfl⟩ := h
    refine ⟨_, pss_cons (ps_try_only rfl rfl ⟨by rfl, by decide, .inl (T.glo 82)⟩ takes_no (fun W pn xe tk po => pss_one (ps_expr (pe_x (E := fun cls d H => ∀ σ, W cls d σ H) (x_check_pattern T) hRm (by decide) (passes_call tk fun cls d σ H h => h σ) (by rfl) (pa_cons (pv 0) pa_nil)))) (fun a oe cls d pn hz hf => pss_one (ps_ret pe_bl))) (pss_one (ps_ret pe_bl)), ?_⟩
    intro hd fr B0 H0 σ Dd S0 k1 k2 k3 k4
    obtain ⟨v, e1, r1⟩ := S0.val (i := 0) rfl
    refine ⟨v, e1, B0, [x], .cons r1 .nil, S0.sub, ?_⟩
    cases hp : patB x with
    | true =>
      obtain ⟨ns, hi, hn⟩ := patB_ok hp
      rw [hp] at k2
      refine .inl ⟨_, ⟨x, ns, rfl, hi, hn, rfl⟩, fun B' H' u g r => ?_⟩
      have g' := g.up S0.hand
      exact k2 B' H' _ _ g'.gs g'.sub g'.hand (.bl true) rfl
    | false =>
      rw [hp] at k2
      refine .inr ⟨_, ⟨x, rfl, hf, hp, rfl⟩, fun B' H' dx fs g hx rf σ' => ⟨true, He.exm_ok (T.says.1.fact 122 (f := .exm "BadPattern" "BadPattern" true)), fun _ a na => ?_, fun z => by cases z⟩⟩
      have g' := g.up S0.hand
      exact k2 B' H' _ _ g'.gs g'.sub g'.hand (.bl false) rfl
theorem e_ispat {Γ : List S} {te : TE} {x : D} {E : XK} (h : Ev K te Γ x) (hf : flatT x) : Ev K (tCall (spV K R_is_pattern) [] E (tCons te tNil)) Γ (.bl (patB x)) := e_call (ea_cons h ea_nil) ⟨x, rfl, hf, rfl⟩
end
end JD
set_option maxHeartbeats 4000000
namespace L2
open PySem PySem.Spec PyProof.Rows
theorem tuple_mul0 (l : Addr) (items : Array Value) (n : Nat) (dd : Option Addr) (sl : Array (Option Value)) (u : Tok) (hi : items.isEmpty = false) :
    Meets (Builtin.«tuple.__mul__» ⟨[.ref l, .int 0 u], []⟩) (fun _ R s => s.heap.get? l = some { cls := .type "tuple", dict := dd, data := .seq items n, slots := sl } ∧
      R (.ok (.ret (Value.ref s.heap.objs.size))) { s with heap := s.heap.push { cls := Value.type "tuple", data := Data.seq #[] }, toks := s.toks }) :=
  .of_wp fun prog w A R s h => by
    obtain ⟨hp, g, d, tk, os⟩ := s
    obtain ⟨hl, h⟩ := h
    have f1 := AutoSeq1.idx_int
    wp_walk using wpAny_loadPart' hl
    repeat (first
      | (refine wpAny_ite_false (by rw [hi]; decide) ?_; wp_walk using wpAny_loadPart' hl)
      | (refine wpAny_ite_true (by first | decide | rw [hi]; decide) ?_; wp_walk using wpAny_loadPart' hl)
      | (refine wpAny_ite_false (by decide) ?_; wp_walk using wpAny_loadPart' hl))
    exact ⟨_, rfl, h⟩
theorem tuple_mul1 (l : Addr) (items : Array Value) (n : Nat) (dd : Option Addr) (sl : Array (Option Value)) (u : Tok) :
    Meets (Builtin.«tuple.__mul__» ⟨[.ref l, .int 1 u], []⟩) (fun _ R s => s.heap.get? l = some { cls := .type "tuple", dict := dd, data := .seq items n, slots := sl } ∧ R (.ok (.ret (.ref l))) s) :=
  .of_wp fun prog w A R s h => by
    obtain ⟨hp, g, d, tk, os⟩ := s
    obtain ⟨hl, h⟩ := h
    have f1 := AutoSeq1.idx_int
    wp_walk using wpAny_loadPart' hl
    repeat (first
      | (refine wpAny_ite_true (by first | decide | (rw [Bool.or_true]; rfl) | simp) ?_; wp_walk using wpAny_loadPart' hl)
      | (refine wpAny_ite_false (by decide) ?_; wp_walk using wpAny_loadPart' hl))
    exact ⟨_, rfl, h⟩
def rRepX (K : PySem.W.Frag) : R2 := fun x y H Q => ∃ l k xs, x = .ref l ∧ y = .int k ∧ SqT K H l xs ∧ xs ≠ [] ∧ xs.length ≤ 1000 ∧ ((k = 1 ∧ Q (.ref l) H) ∨ (k = 0 ∧ ∀ p, H p = none → Q (.ref p) (upd H p (.tup []))) ∨ (2 ≤ k ∧ k ≤ 1000 ∧ ∀ p, H p = none → Q (.ref p) (upd H p (.tup (List.replicate k.toNat xs).flatten))))
theorem op_repX {X : Cx} : OpR X (binaryOp .Mult) (rRepX X.K) := by
  intro pins s σ H x y v u Q I rx ry h
  obtain ⟨l, k, xs, rfl, rfl, hT, hne, hz, q⟩ := h
  rcases q with ⟨rfl, q⟩ | ⟨rfl, q⟩ | ⟨h1, h2, q⟩
  · cases rx
    obtain ⟨t, rfl⟩ := ry
    obtain ⟨its, r, ⟨⟨cls, dd, data, sl⟩, ho, hc, n, hd⟩, hs⟩ := I.tuple hT
    simp only at hc hd
    subst hc hd
    refine wpAny_binaryOp_repeat_ref (T := "tuple") (U := "int") (by decide) ⟨_, ho, rfl⟩ (fun s' => typeIs_int s' 1 t) noFill_tuple_mul F.fills_int_mul F.slot_int_rmul repeat_tuple F.slot_int_index.lookup
      (call_meets F.slot_int_rmul (typeIs_int s 1 t) F.entry_int_rmul (F.args_int_rmul_2 _ _) (int_rmul_tuple 1 t l its.toArray n dd sl)
        ⟨ho, rfl, ⟨_, ho, rfl⟩, call_meets F.slot_tuple_mul ⟨_, ho, rfl⟩ F.entry_tuple_mul (F.args_tuple_mul_2 _ _) (tuple_mul1 l its.toArray n dd sl t) ⟨ho, ?_⟩⟩)
    exact ⟨.ref l, H, I, rfl, q⟩
  · cases rx
    obtain ⟨t, rfl⟩ := ry
    obtain ⟨its, r, ⟨⟨cls, dd, data, sl⟩, ho, hc, n, hd⟩, hs⟩ := I.tuple hT
    simp only at hc hd
    subst hc hd
    have hle : its.length = xs.length := r.length.symm
    have hn : its ≠ [] := fun e => hne (by
      rw [e] at hle
      exact List.eq_nil_of_length_eq_zero hle.symm)
    have hi : its.toArray.isEmpty = false := by
      cases its with
      | nil => exact absurd rfl hn
      | cons a b => rfl
    refine wpAny_binaryOp_repeat_ref (T := "tuple") (U := "int") (by decide) ⟨_, ho, rfl⟩ (fun s' => typeIs_int s' 0 t) noFill_tuple_mul F.fills_int_mul F.slot_int_rmul repeat_tuple F.slot_int_index.lookup
      (call_meets F.slot_int_rmul (typeIs_int s 0 t) F.entry_int_rmul (F.args_int_rmul_2 _ _) (int_rmul_tuple 0 t l its.toArray n dd sl)
        ⟨ho, rfl, ⟨_, ho, rfl⟩, call_meets F.slot_tuple_mul ⟨_, ho, rfl⟩ F.entry_tuple_mul (F.args_tuple_mul_2 _ _) (tuple_mul0 l its.toArray n dd sl t hi) ⟨ho, ?_⟩⟩)
    refine ⟨.ref s.heap.objs.size, _, I.laid (t' := s.toks) (o := .tup []) (fun b ob q => Heap.get?_push_of_some _ q) (Nat.le_refl _) ?_, rfl, q _ (I.hok.fresh (Nat.le_refl _))⟩
    exact ⟨Nat.zero_le _, _, .nil, IsTup.new _ _⟩
  · exact op_repT pins s σ H _ _ v u Q I rx ry ⟨l, k, xs, rfl, rfl, hT, hne, h1, h2, hz, q⟩
end L2
namespace JD
open PySem PySem.Spec PyProof.Rows L2
section
variable {K : PySem.W.Frag} {Γ : List S}
theorem ro_repX {ds : List D} {j : Int} (hne : ds ≠ []) (h : ds.length ≤ 100) (h0 : 0 ≤ j) (hj : j ≤ 100) : Ro K (rRepX K) (.tup ds) (.int j) fun u => u = .tup (List.replicate j.toNat ds).flatten := fun B H v w Q s r1 r2 k => by
  obtain ⟨a, xs, rfl, ha, ra⟩ := r1.ofTup
  refine ⟨a, j, xs, rfl, r2.ofInt, Same.sqT s ha, fun z => ?_, by rw [ra.length]; omega, ?_⟩
  · rw [z] at ra
    cases ra
    exact hne rfl
  · by_cases h1 : j = 1
    · subst h1
      refine .inl ⟨rfl, k B H _ _ (Go.refl s hd_none) r1 ?_⟩
      show D.tup ds = D.tup (List.replicate 1 ds).flatten
      simp
    · by_cases h2 : j = 0
      · subst h2
        refine .inr (.inl ⟨rfl, fun p hp => ?_⟩)
        exact k _ _ _ _ ((Go.refl s hd_none).alloc hp) (.tup (.inl (.inl upd_same)) .nil) rfl
      · refine .inr (.inr ⟨by omega, by omega, fun p hp => ?_⟩)
        have g := (Go.refl (hd := none) s hd_none).alloc (o := .tup (List.replicate j.toNat xs).flatten) hp
        exact k _ _ _ _ g (.tup (.inl (.inl upd_same)) ((ra.flat _).mono g.ext)) rfl
/-- (.., *e, ..) -/
theorem ea_star {te : TE} {tr : TA} {x : D} {es ds : List D} (h : Ev K te Γ x) (hx : x.items = some es) (hr : Ea K tr Γ fun z => z = ds) : Ea K (StX.tStar K te tr) Γ fun z => z = es ++ ds := fun hd fr B H σ Q S0 k =>
  h hd fr B H σ _ S0 fun B1 H1 v x' g1 r1 p1 => by
    subst p1
    have key : ∃ a xs, v = .ref a ∧ (SqT K H1 a xs ∨ SqL K H1 a xs) ∧ RepL K B1 xs es := by
      cases x' with
      | lst =>
        cases Option.some.inj hx
        obtain ⟨a, xs, rfl, ha, rl⟩ := r1.ofLst
        exact ⟨a, xs, rfl, .inr (.inl (.inl (g1.sub _ _ ha))), rl⟩
      | tup =>
        cases Option.some.inj hx
        obtain ⟨a, xs, rfl, ha, rl⟩ := r1.ofTup
        exact ⟨a, xs, rfl, .inl (Same.sqT g1.sub ha), rl⟩
      | _ => cases hx
    obtain ⟨a, xs, rfl, hs, rl⟩ := key
    refine ⟨a, xs, rfl, hs, hr hd fr B1 H1 σ _ (S0.go g1) fun B2 H2 ys zs g2 r2 p2 => ?_⟩
    subst p2
    exact k B2 H2 _ _ (g1.trans g2) ((rl.mono g2.ext).append r2) rfl
/-- what is walked is a list or a tuple -/
def iOr (a b : TI) : TI := fun σ H R => a σ H R ∨ b σ H R
theorem pi_or {X : Cx} {tg it : Expr} {a b : TI} (h1 : PI X tg it a) (h2 : PI X tg it b) : PI X tg it (iOr a b) := ⟨fun pins s σ H R I h => h.elim (h1.run pins s σ H R I) (h2.run pins s σ H R I)⟩
theorem i_seq {te : TE} {x : D} {ds : List D} (h : Ev K te Γ x) (hx : x.items = some ds) : Ei K (iOr (iList K te) (iTup K te)) Γ ds := by
  cases x with
  | lst => cases Option.some.inj hx; exact fun hd fr B H σ R S0 k => .inl (i_list h hd fr B H σ R S0 k)
  | tup => cases Option.some.inj hx; exact fun hd fr B H σ R S0 k => .inr (i_tup h hd fr B H σ R S0 k)
  | _ => cases hx
end
end JD
set_option maxHeartbeats 4000000
namespace JD
open PySem PySem.Spec PyProof.Rows L2
open C8 (Cal Mak)
/-! ### the best couple -/
def pfault (x : D) : D := match x.items with
  | none => .str "many"
  | some es => if es.length = 2 then (if es.all patB = true then .non else .str "pattern") else .str "many"
def lastI (a b : Int) : Int := (a + b - 2) / b + 1
def lastD (a b : Int) : D := if a = 0 ∨ b = 0 then .non else .int (lastI a b)
def bestSt (M : Int) (s : List Int × Int) : List Int × Int := (s.1 ++ List.replicate (min (M - 1) s.2).toNat 0 ++ [1], s.2 - min (M - 1) s.2)
def bestFold (a b : Int) : List Int × Int := (List.range b.toNat).foldl (fun s _ => bestSt (lastI a b) s) ([0], a - 1)
def bestInner (a b : Int) : List Int := ((bestFold a b).1.drop 1).dropLast
def bestM (a b : Int) : List Int × List Int := if a = 0 ∨ b = 0 then (startRow a b, startRow a b) else (0 :: (bestInner a b ++ [1]), 1 :: (bestInner a b ++ [0]))
theorem at_items {x : D} {es : List D} {j : Nat} {d : D} (h : x.items = some es) (hj : es[j]? = some d) : x.at (j : Int) = some d := by
  have hlt := (List.getElem?_eq_some_iff.mp hj).1
  cases x with
  | lst => cases Option.some.inj h; exact (atI_nat hlt).trans hj
  | tup => cases Option.some.inj h; exact (atI_nat hlt).trans hj
  | _ => cases h
theorem cut_mid (l : List α) (f : α → D) (h : 1 ≤ l.length) : cutD (l.map f) (some 1) (some (-1)) = ((l.drop 1).dropLast).map f := by
  unfold cutD
  have h1 : HT.sIx l.length 0 (some 1) = 1 := by
    show (if (1 : Int) < 0 then ((1 : Int) + (l.length : Int)).toNat else min (1 : Int).toNat l.length) = 1
    rw [if_neg (by decide)]
    show min 1 l.length = 1
    omega
  have h2 : HT.sIx l.length l.length (some (-1)) = l.length - 1 := by
    show (if (-1 : Int) < 0 then ((-1 : Int) + (l.length : Int)).toNat else min (-1 : Int).toNat l.length) = _
    rw [if_pos (by decide)]
    omega
  rw [List.length_map, h1, h2, List.map_dropLast, List.dropLast_eq_take, List.map_drop]
  congr 1
  rw [List.length_drop, List.length_map]
def toI : D → Int
  | .int i => i
  | _ => 0
def rowI (x : D) : List Int := ((x.items).getD []).map toI
theorem rowI_of {x : D} {ns : List Int} (h : x.items = some (ns.map D.int)) : rowI x = ns := by
  unfold rowI
  rw [h]
  show ((ns.map D.int)).map toI = ns
  rw [List.map_map]
  exact (List.map_congr_left fun _ _ => rfl).trans (List.map_id ns)
def cntI (ns : List Int) : IP := ((ns.length : Int) - ns.sum, ns.sum)
def worseM (ns ms : List Int) (ps : List Seg) (r : Rat) : Bool := match shareM (jointsM 0 0 ns) (jointsM 0 0 ms) r with
  | none => false
  | some l => if l < 1 then (match profShare ps r with
    | none => false
    | some q => decide (l < q)) else false
def askedM (a b : Int) : List Rat := bords a b ++ [((2 * a + 2 : Int) : Rat)]
def askOk (a b : Int) : Bool := (askedM a b).all fun r => decide (1 < r) && (smallR r && (decide (a + b = 1) || (profShare (profileM a b) r).isSome))
def faultD (a b : Int) (x : D) : D := match x.items with
  | some [e1, e2] => if (patB e1 && patB e2) = true then (if (decide (cntI (rowI e1) = (a, b)) && decide (cntI (rowI e2) = (a, b))) = true then
      (if (askedM a b).any (worseM (rowI e1) (rowI e2) (profileM a b)) = true then .str "worse" else .non) else .str "counts") else .str "pattern"
  | _ => .str "many"
theorem profShare_sr {r : Rat} (hr : Sr 400 r) : ∀ (ps : List Seg) (t : Option Rat), (∀ p ∈ ps, PieceOk p) → OOk 3000 t → OOk 3000 (ps.foldl (fun t p => if r < p.low then t else some ((p.start : Rat) + (p.rise : Rat) * r)) t)
  | [], t, _, h => h
  | p :: ps, t, hp, h => by
    rw [List.foldl_cons]
    refine profShare_sr hr ps _ (fun q hq => hp q (List.mem_cons_of_mem _ hq)) ?_
    have hpo := hp p (List.mem_cons_self ..)
    split
    · exact h
    · intro x e
      cases Option.some.inj e
      exact (Sr.add (n := 800) ((int_sr (by have := hpo.st; omega)).mono (by decide)) (Sr.mul (n := 400) ((int_sr (by have := hpo.ri; omega)).mono (by decide)) hr)).mono (by decide)
theorem share_sr {js ks : List IP} {r : Rat} (hj : ∀ p ∈ js, Pb p) (hk : ∀ p ∈ ks, Pb p) (hr : Sr 400 r) : OOk 3000 (shareM js ks r) := by
  intro l e
  unfold shareM at e
  cases q : nearM js ks r with
  | none => rw [q] at e; cases e
  | some b =>
    rw [q] at e
    cases Option.some.inj e
    obtain ⟨h1, h2, h3⟩ := near_at q
    obtain ⟨b1, b2⟩ := pb_diff (hj _ h2) (hk _ h3)
    show Sr 3000 (Rat.divInt b.1 r.den)
    rw [h1]
    refine Sr.divInt ?_ (hr.2.mono (by decide)) (by have := den_pos r; omega)
    unfold gapM
    have s1 : Sz 420 ((b.2.1.1 - b.2.2.1) * r.den) := Sz.mul (a := 20) (Sz.lit (by omega) (by decide)) hr.2
    have s2 : Sz 420 ((b.2.1.2 - b.2.2.2) * r.num) := Sz.mul (a := 20) (Sz.lit (by omega) (by decide)) hr.1
    exact (Sz.add s1 s2).le (by rw [Int.natAbs_natCast]; exact Nat.le_refl _) |>.mono (by decide)
section
variable {P : Program} {w : World} {K : PySem.W.Frag} {mg : Str → Option Value} {base : Heap}


abbrev N_patterns_fault : List Str := ["couple", "entry"]
theorem sc_patterns_fault : FnScope N_patterns_fault ["couple"] (defScope JA.s_patterns_fault) := ⟨rfl, rfl, rfl, by decide +kernel, rfl, by decide +kernel, by decide +kernel⟩
def R_patterns_fault : List D → D → Prop := fun ds d => ∃ x : D, ds = [x] ∧ x.tyV.isSome = true ∧ (∀ es, x.items = some es → es.length = 2 → ∀ e ∈ es, flatT e) ∧ d = pfault x
theorem c_patterns_fault (T : Tx K mg) : Cal P w K mg base 6 "patterns_fault" (spV K R_patterns_fault) [] := by
  refine cal_V (T.glo 40) (T.says.1.def_ 40) sc_patterns_fault (fun ds d h => ?_) (fun _ _ _ _ _ _ us hl => match us, hl with | [_], _ => rfl) fun cdv A outer s H E hRm ds d h => ?_
  · obtain ⟨x, rfl, _⟩ := h
    rfl
  · obtain ⟨x, rfl, hx, hel, rfl⟩ := h
    have e0 : Ev K (tCB (rIsiX K) (tCons (tVar 0) (tCons (tTup (tCons (tC (.ty "list")) (tCons (tC (.ty "tuple")) tNil))) tNil))) [.val x, .no] (.bl x.items.isSome) := e_cb (ea_cons (e_var rfl) (ea_cons (e_tup (ea_cons e_ty (ea_cons e_ty ea_nil)) (of_decide_eq_true rfl)) ea_nil)) (rc_isiLT hx)
    refine ⟨_, (pss_cons (ps_if (PW.pt (pw_or (pt_not (pt_val (pe_callB call_isiX (by rfl) (T.free 94) (by decide +kernel) (pa_cons (pv 0) (pa_cons (pe_tup (pa_cons (pe_bltn (v := .ty "list") (by rfl) (T.free 96) (by decide +kernel) rfl) (pa_cons (pe_bltn (v := .ty "tuple") (by rfl) (T.free 104) (by decide +kernel) rfl) pa_nil))) pa_nil))))) (pw_or1 (pt_cmpR (op_neD hRm.units) (pe_callB call_lenX (by rfl) (T.free 95) (by decide +kernel) (pa_cons (pv 0) pa_nil)) pe_int (nomark _))))) (pss_one (ps_ret pe_str)) pss_nil)
    (pss_cons (ps_if (pt_not (pt_val (pe_callB (cr_all rfl) (by rfl) (T.free 89) (by decide +kernel) (pa_cons (pe_lc (own := [("entry", 1)]) (g := gName 1) (by rfl) sc_patterns_fault.nd (pi_or (pi_list (pv 0)) (pi_tup (pv 0))) (blkOk_by (own := [("entry", 1)]) (N := N_patterns_fault) (sc := defScope JA.s_patterns_fault) (by decide +kernel)) (fun _ _ _ _ _ => (pg_name (i := 1) sc_patterns_fault.nd rfl (by first | exact Or.inl rfl | exact Or.inr rfl))) (fun _ _ _ _ _ => pts_nil) (fun _ _ _ _ _ => (C8.pe_c (c_is_pattern T) hRm (by decide) (by rfl) (pa_cons (pv 1) pa_nil)))) pa_nil)))) (pss_one (ps_ret pe_str)) pss_nil)
    (pss_one (ps_ret pe_non)))), ?_⟩
    cases hi : x.items with
    | none =>
      rw [hi] at e0
      have eP : pfault x = .str "many" := by unfold pfault; rw [hi]
      refine s_seq (s_ifT (t_or (a := true) (b := true) (t_not (a := false) (t_B e0)) fun z => by cases z) ?_)
      exact s_retV e_str eP.symm
    | some es =>
      rw [hi] at e0
      have hl := len_items hi
      have eP : pfault x = if es.length = 2 then (if es.all patB = true then .non else .str "pattern") else .str "many" := by unfold pfault; rw [hi]
      by_cases h2 : es.length = 2
      · rw [if_pos h2] at eP
        refine s_seq (s_ifF (t_imp (t_or (a := false) (t_not (a := true) (t_B e0)) fun _ => t_test (e_op (e_cb (ea_cons (e_var rfl) ea_nil) (rc_len hl)) e_int ro_ne)) fun b e => e.trans (by rw [decide_eq_true (by omega)]; rfl)) (s_next ?_))
        have ea : Rc K (rAll K) [.lst ((es.map patB).map D.bl)] fun u => u = .bl ((es.map patB).all id) := rc_all
        rw [List.map_map] at ea
        have eq : (es.map patB).all id = es.all patB := by rw [List.all_map]; rfl
        rw [eq] at ea
        have lm := l_map (K := K) (Γ := [.val x, .no]) (vs := [1]) es id (fun e => .bl (patB e)) (i_seq (e_var (i := 0) rfl) (by rw [hi, List.map_id])) (by omega) fun e he => ⟨_, g_name (i := 1), e_ispat (E := C8.E0) (e_var (i := 1) rfl) (hel es hi h2 e he)⟩
        refine s_seq (s_ifB (t_not (t_B (e_cb (ea_cons lm.ev ea_nil) ea))) (fun c => ?_) fun c => s_next ?_)
        · have c' : es.all patB = false := by simpa using c
          rw [c', if_neg Bool.false_ne_true] at eP
          exact s_retV e_str eP.symm
        · have c' : es.all patB = true := by simpa using c
          rw [c', if_pos rfl] at eP
          exact s_retV e_non eP.symm
      · rw [if_neg h2] at eP
        refine s_seq (s_ifT (t_imp (t_or (a := false) (t_not (a := true) (t_B e0)) fun _ => t_test (e_op (e_cb (ea_cons (e_var rfl) ea_nil) (rc_len hl)) e_int ro_ne)) fun b e => e.trans (by rw [decide_eq_false (by omega)]; rfl)) ?_)
        exact s_retV e_str eP.symm
theorem e_pfault {Γ : List S} {te : TE} {x : D} {E : XK} (h : Ev K te Γ x) (hx : x.tyV.isSome = true) (hel : ∀ es, x.items = some es → es.length = 2 → ∀ e ∈ es, flatT e) : Ev K (tCall (spV K R_patterns_fault) [] E (tCons te tNil)) Γ (pfault x) := e_call (ea_cons h ea_nil) ⟨x, rfl, hx, hel, rfl⟩

abbrev N_last_whole : List Str := ["a_count", "b_count"]
theorem sc_last_whole : FnScope N_last_whole ["a_count", "b_count"] (defScope JA.s_last_whole) := ⟨rfl, rfl, rfl, by decide +kernel, rfl, by decide +kernel, by decide +kernel⟩
def R_last_whole : List D → D → Prop := fun ds d => ∃ a b : Int, ds = [.int a, .int b] ∧ 0 ≤ a ∧ 0 ≤ b ∧ 1 ≤ a + b ∧ a + b ≤ 8 ∧ d = lastD a b
theorem b_last_whole (T : Tx K mg) {CX : CXT} (cdv : Value) (A : Around) (outer : List Env) (s : Shared) (H : Hp) (E : XK) (hRm : Room 4 (A.deeper (envOfC "last_whole" (defScope JA.s_last_whole) s.heap.objs.size (He.ga K "last_whole") cdv))) (ds : List D) (d : D) (h : R_last_whole ds d) :
    ∃ t, PSs (cxOf CX P w K mg base N_last_whole "last_whole" (defScope JA.s_last_whole) (He.ga K "last_whole") cdv A outer s H E).nox (defBody JA.s_last_whole) t ∧ Es K t (ds.map S.val ++ List.replicate (N_last_whole.length - 2) .no) ⟨fun _ => d = .non, fun z => z = d, fun _ => False, fun _ => False⟩ := by
  obtain ⟨a, b, rfl, ha, hb, h1, h8, rfl⟩ := h
  refine ⟨_, (pss_cons (ps_expr (C8.pe_c (c_check_counts T) hRm (by decide) (by rfl) (pa_cons (pv 0) (pa_cons (pv 1) pa_nil))))
    (pss_cons (ps_if (PW.pt (pw_or (pt_cmpR (op_eqD hRm.units) (pv 0) pe_int (nomark _)) (pw_or1 (pt_cmpR (op_eqD hRm.units) (pv 1) pe_int (nomark _))))) (pss_one (ps_ret pe_non)) pss_nil)
    (pss_one (ps_ret (pe_op op_addX (pe_op op_fdivW (pe_op op_sub (pe_op op_addX (pv 0) (pv 1)) pe_int) (pv 1)) pe_int))))), ?_⟩
  refine s_seq (s_drop (e_ccounts (e_var rfl) (e_var rfl) ha hb h1 h8) ?_)
  unfold lastD
  by_cases hz : a = 0 ∨ b = 0
  · rw [if_pos hz]
    refine s_seq (s_ifT (t_imp (t_or (t_test (e_op (e_var rfl) e_int ro_eq)) fun _ => t_test (e_op (e_var rfl) e_int ro_eq)) fun x e => e.trans ?_) ?_)
    · rw [← Bool.decide_or]
      exact decide_eq_true hz
    · exact s_retV e_non rfl
  · rw [if_neg hz]
    refine s_seq (s_ifF (t_imp (t_or (t_test (e_op (e_var rfl) e_int ro_eq)) fun _ => t_test (e_op (e_var rfl) e_int ro_eq)) fun x e => e.trans ?_) (s_next ?_))
    · rw [← Bool.decide_or]
      exact decide_eq_false hz
    · exact s_retV (e_op (e_op (e_op (e_op (e_var rfl) (e_var rfl) ro_add) e_int ro_sub) (e_var rfl) (ro_div (by omega) (Sz.lit (by omega) (by decide)))) e_int ro_add) rfl
theorem c_last_whole (T : Tx K mg) : Cal P w K mg base 5 "last_whole" (spV K R_last_whole) [] := by
  refine cal_V (T.glo 41) (T.says.1.def_ 41) sc_last_whole (fun ds d h => ?_) (fun _ _ _ _ _ _ us hl => match us, hl with | [_, _], _ => rfl) fun cdv A outer s H E hRm ds d h => ?_
  · obtain ⟨a, b, rfl, _⟩ := h
    rfl
  · exact b_last_whole T cdv A outer s H E hRm ds d h
theorem e_lastw {Γ : List S} {ta tb : TE} {a b : Int} {E : XK} (h1 : Ev K ta Γ (.int a)) (h2 : Ev K tb Γ (.int b)) (ha : 0 ≤ a) (hb : 0 ≤ b) (h3 : 1 ≤ a + b) (h4 : a + b ≤ 8) : Ev K (tCall (spV K R_last_whole) [] E (tCons ta (tCons tb tNil))) Γ (lastD a b) :=
  e_call (ea_cons h1 (ea_cons h2 ea_nil)) ⟨a, b, rfl, ha, hb, h3, h4, rfl⟩
theorem best_pre {a b : Int} (M : Int) (hM : 1 ≤ M) : ∀ (l : List Nat) (s : List Int × Int), 0 ≤ s.2 → s.2 ≤ 7 → 1 ≤ s.1.length → 0 ≤ (l.foldl (fun s _ => bestSt M s) s).2 ∧ (l.foldl (fun s _ => bestSt M s) s).2 ≤ 7 ∧ 1 ≤ (l.foldl (fun s _ => bestSt M s) s).1.length ∧ (l.foldl (fun s _ => bestSt M s) s).1.length + (l.foldl (fun s _ => bestSt M s) s).2.toNat = s.1.length + s.2.toNat + l.length
  | [], s, h1, h2, h3 => ⟨h1, h2, h3, rfl⟩
  | x :: l, s, h1, h2, h3 => by
    rw [List.foldl_cons]
    have hm : 0 ≤ min (M - 1) s.2 ∧ min (M - 1) s.2 ≤ s.2 := by omega
    have e1 : (bestSt M s).2 = s.2 - min (M - 1) s.2 := rfl
    have e2 : (bestSt M s).1.length = s.1.length + (min (M - 1) s.2).toNat + 1 := by
      show (s.1 ++ List.replicate (min (M - 1) s.2).toNat 0 ++ [1]).length = _
      simp only [List.length_append, List.length_replicate, List.length_singleton]
    obtain ⟨k1, k2, k3, k4⟩ := best_pre (a := a) (b := b) M hM l (bestSt M s) (by omega) (by omega) (by omega)
    refine ⟨k1, k2, k3, ?_⟩
    rw [k4, e1, e2, List.length_cons]
    omega
theorem lastI_pos {a b : Int} (ha : 1 ≤ a) (hb : 1 ≤ b) : 1 ≤ lastI a b := by
  unfold lastI
  have : 0 ≤ (a + b - 2) / b := Int.ediv_nonneg (by omega) (by omega)
  omega

abbrev N_best_couple : List Str := ["a_count", "b_count", "most", "row", "left", "_", "many", "inner"]
theorem sc_best_couple : FnScope N_best_couple ["a_count", "b_count"] (defScope JA.s_best_couple) := ⟨rfl, rfl, rfl, by decide +kernel, rfl, by decide +kernel, by decide +kernel⟩
def R_best_couple : List D → D → Prop := fun ds d => ∃ a b : Int, ds = [.int a, .int b] ∧ 0 ≤ a ∧ 0 ≤ b ∧ 1 ≤ a + b ∧ a + b ≤ 8 ∧ d = .tup [row (bestM a b).1, row (bestM a b).2]
theorem b_best_couple (T : Tx K mg) {CX : CXT} (cdv : Value) (A : Around) (outer : List Env) (s : Shared) (H : Hp) (E : XK) (hRm : Room 5 (A.deeper (envOfC "best_couple" (defScope JA.s_best_couple) s.heap.objs.size (He.ga K "best_couple") cdv))) (ds : List D) (d : D) (h : R_best_couple ds d) :
    ∃ t, PSs (cxOf CX P w K mg base N_best_couple "best_couple" (defScope JA.s_best_couple) (He.ga K "best_couple") cdv A outer s H E).nox (defBody JA.s_best_couple) t ∧ Es K t (ds.map S.val ++ List.replicate (N_best_couple.length - 2) .no) ⟨fun _ => d = .non, fun z => z = d, fun _ => False, fun _ => False⟩ := by
  obtain ⟨a, b, rfl, ha, hb, h1, h8, rfl⟩ := h
  refine ⟨_, (pss_cons (ps_set (i := 2) sc_best_couple.nd rfl (by first | exact Or.inl rfl | exact Or.inr rfl) (C8.pe_c (c_last_whole T) hRm (by decide) (by rfl) (pa_cons (pv 0) (pa_cons (pv 1) pa_nil))))
    (pss_cons (ps_if (pt_cmpR op_isNX (pv 2) pe_non (nomark _)) (pss_cons (ps_set (i := 3) sc_best_couple.nd rfl (by first | exact Or.inl rfl | exact Or.inr rfl) (pe_op op_addX (pe_op op_repX (pe_tup (pa_cons pe_int pa_nil)) (pv 0)) (pe_op op_repX (pe_tup (pa_cons pe_int pa_nil)) (pv 1))))
    (pss_one (ps_ret (pe_tup (pa_cons (pv 3) (pa_cons (pv 3) pa_nil)))))) pss_nil)
    (pss_cons (ps_set (i := 3) sc_best_couple.nd rfl (by first | exact Or.inl rfl | exact Or.inr rfl) (pe_lst (pa_cons pe_int pa_nil)))
    (pss_cons (ps_set (i := 4) sc_best_couple.nd rfl (by first | exact Or.inl rfl | exact Or.inr rfl) (pe_op op_sub (pv 0) pe_int))
    (pss_cons (ps_for PassesOwn.never rfl (pi_range1 (by rfl) (T.free 100) (pa_cons (pv 1) pa_nil)) (pg_name (i := 5) sc_best_couple.nd rfl (by first | exact Or.inl rfl | exact Or.inr rfl)) (pss_cons (ps_set (i := 6) sc_best_couple.nd rfl (by first | exact Or.inl rfl | exact Or.inr rfl) (pe_callB (call_minX rfl) (by rfl) (T.free 98) (by decide +kernel) (pa_cons (pe_op op_sub (pv 2) pe_int) (pa_cons (pv 4) pa_nil))))
    (pss_cons (ps_set (i := 3) sc_best_couple.nd rfl (by first | exact Or.inl rfl | exact Or.inr rfl) (pe_op op_addX (pe_op op_addX (pv 3) (pe_op op_mulX (pe_lst (pa_cons pe_int pa_nil)) (pv 6))) (pe_lst (pa_cons pe_int pa_nil))))
    (pss_one (ps_set (i := 4) sc_best_couple.nd rfl (by first | exact Or.inl rfl | exact Or.inr rfl) (pe_op op_sub (pv 4) (pv 6)))))))
    (pss_cons (ps_set (i := 7) sc_best_couple.nd rfl (by first | exact Or.inl rfl | exact Or.inr rfl) (pe_slice sl_X (pv 3) (po_some pe_int) (po_some (pe_un un_neg pe_int))))
    (pss_one (ps_ret (pe_tup (pa_cons (pe_tup (pa_cons pe_int (StX.pa_star (pv 7) (pa_cons pe_int pa_nil)))) (pa_cons (pe_tup (pa_cons pe_int (StX.pa_star (pv 7) (pa_cons pe_int pa_nil)))) pa_nil))))))))))), ?_⟩
  refine s_seq (s_asgV (e_lastw (e_var rfl) (e_var rfl) ha hb h1 h8) ?_)
  have fl : ∀ (n : Nat) (d : D), (List.replicate n [d]).flatten = List.replicate n d := fun n d => by
    induction n with
    | zero => rfl
    | succ n ih => rw [List.replicate_succ, List.flatten_cons, ih]; rfl
  unfold bestM
  by_cases hz : a = 0 ∨ b = 0
  · rw [if_pos hz, show lastD a b = .non from if_pos hz]
    refine s_seq (s_ifT (t_test (e_op (x := .non) (e_var rfl) e_non ro_isN)) ?_)
    refine s_seq (s_asgV (d := row (startRow a b)) (Ev.cast (e_op (e_op (e_tup (ea_cons e_int ea_nil) (of_decide_eq_true rfl)) (e_var rfl) (ro_repX (by simp) (by decide) ha (by omega))) (e_op (e_tup (ea_cons e_int ea_nil) (of_decide_eq_true rfl)) (e_var rfl) (ro_repX (by simp) (by decide) hb (by omega))) (ro_catT ?_)) ?_) ?_)
    · rw [fl, fl, List.length_replicate, List.length_replicate]
      omega
    · rw [fl, fl]
      unfold row startRow
      simp only [List.map_append, List.map_replicate]
    · exact s_retV (e_tup (ea_cons (e_var rfl) (ea_cons (e_var rfl) ea_nil)) (of_decide_eq_true rfl)) rfl
  · rw [if_neg hz, show lastD a b = .int (lastI a b) from if_neg hz]
    have hM := lastI_pos (a := a) (b := b) (by omega) (by omega)
    refine s_seq (s_ifF (t_test (e_op (x := .int (lastI a b)) (e_var rfl) e_non ro_isN)) (s_next ?_))
    refine s_seq (s_asgV (d := .lst ([0].map D.int)) (e_lst (ea_cons e_int ea_nil) (of_decide_eq_true rfl)) ?_)
    refine s_seq (s_asgV (e_op (e_var rfl) e_int ro_sub) ?_)
    refine s_mid (fun Γ => ∃ x y z, Γ = [.val (.int a), .val (.int b), .val (.int (lastI a b)), .val (.lst ((bestFold a b).1.map D.int)), .val (.int (bestFold a b).2), x, y, z]) ?_ fun Γ' hΓ => ?_
    · refine s_forL (vs := [5]) (List.range b.toNat) (fun (i : Nat) => D.int (i : Int)) (fun pre Γ => ∃ x y z, Γ = [.val (.int a), .val (.int b), .val (.int (lastI a b)), .val (.lst ((pre.foldl (fun s _ => bestSt (lastI a b) s) ([0], a - 1)).1.map D.int)), .val (.int (pre.foldl (fun s _ => bestSt (lastI a b) s) ([0], a - 1)).2), x, y, z]) (by rw [← dints0]; exact i_rng1 (ea_cons (e_var rfl) ea_nil) (by omega)) ⟨.no, .no, .no, rfl⟩ (fun pre i post Γ1 e iv => ⟨_, g_name, ?_⟩) fun Γ1 iv => iv
      obtain ⟨x, y, z, rfl⟩ := iv
      obtain ⟨k1, k2, k3, k4⟩ := best_pre (a := a) (b := b) (lastI a b) hM pre ([0], a - 1) (by show (0 : Int) ≤ a - 1; omega) (by show a - 1 ≤ (7 : Int); omega) (Nat.le_refl 1)
      have hpl : pre.length ≤ 8 := by
        have := congrArg List.length e
        rw [List.length_range, List.length_append] at this
        omega
      rw [List.foldl_append, List.foldl_cons, List.foldl_nil]
      generalize pre.foldl (fun s _ => bestSt (lastI a b) s) ([0], a - 1) = st at *
      obtain ⟨r, left⟩ := st
      have k4' : r.length + left.toNat = 1 + (a - 1).toNat + pre.length := k4
      have k1' : 0 ≤ left := k1
      have k2' : left ≤ 7 := k2
      have hrl : r.length ≤ 20 := by omega
      have hrl2 : (r, left).fst.length ≤ 20 := hrl
      have hmn : (min (lastI a b - 1) left).toNat ≤ 7 := by omega
      clear k4 k4' k3 k2 k1
      refine s_seq (s_asgV (e_cb (ea_cons (e_op (e_var rfl) e_int ro_sub) (ea_cons (e_var rfl) ea_nil)) rc_min) ?_)
      refine s_seq (s_asgV (d := .lst ((r ++ List.replicate (min (lastI a b - 1) left).toNat 0 ++ [1]).map D.int)) (Ev.cast (e_op (e_op (e_var rfl) (e_op (e_lst (ea_cons e_int ea_nil) (of_decide_eq_true rfl)) (e_var rfl) (ro_rep (of_decide_eq_true rfl) (by omega))) (ro_cat ?_)) (e_lst (ea_cons e_int ea_nil) (of_decide_eq_true rfl)) (ro_cat ?_)) ?_) ?_)
      · rw [fl, List.length_map, List.length_replicate]
        omega
      · rw [fl, List.length_append, List.length_map, List.length_replicate, List.length_singleton]
        omega
      · rw [fl]
        simp only [List.map_append, List.map_replicate, List.map_cons, List.map_nil]
      · exact s_asgV (e_op (e_var rfl) (e_var rfl) ro_sub) ⟨_, Le.refl _, _, _, _, rfl⟩
    · obtain ⟨x, y, z, rfl⟩ := hΓ
      obtain ⟨k1, k2, k3, k4⟩ := best_pre (a := a) (b := b) (lastI a b) hM (List.range b.toNat) ([0], a - 1) (by show (0 : Int) ≤ a - 1; omega) (by show a - 1 ≤ (7 : Int); omega) (Nat.le_refl 1)
      have hl : (bestFold a b).1.length ≤ 100 := by
        have k4' : (bestFold a b).1.length + (bestFold a b).2.toNat = 1 + (a - 1).toNat + (List.range b.toNat).length := k4
        rw [List.length_range] at k4'
        omega
      have hl2 : (bestInner a b).length ≤ 100 := by
        unfold bestInner
        rw [List.length_dropLast, List.length_drop]
        omega
      refine s_seq (s_asgV (d := .lst ((bestInner a b).map D.int)) (Ev.cast (e_sl (e_var rfl) (o_some e_int) (o_some (e_un e_int ru_neg)) rs_lst) (congrArg D.lst (cut_mid (bestFold a b).1 D.int k3))) ?_)
      have st : ∀ (i j : Int) (Γ : List S), Γ[7]? = some (.val (.lst ((bestInner a b).map D.int))) → Ev K (tTup (tCons (tC (.int i)) (StX.tStar K (tVar 7) (tCons (tC (.int j)) tNil)))) Γ (row (i :: (bestInner a b ++ [j]))) := fun i j Γ h => (e_tup (ea_cons e_int (ea_star (e_var h) rfl (ea_cons e_int ea_nil))) (by simp only [List.length_cons, List.length_append, List.length_map, List.length_nil]; omega)).cast (by unfold row; rw [List.map_cons, List.map_append]; rfl)
      exact s_retV (e_tup (ea_cons (st 0 1 _ rfl) (ea_cons (st 1 0 _ rfl) ea_nil)) (of_decide_eq_true rfl)) rfl
theorem c_best_couple (T : Tx K mg) : Cal P w K mg base 6 "best_couple" (spV K R_best_couple) [] := by
  refine cal_V (T.glo 42) (T.says.1.def_ 42) sc_best_couple (fun ds d h => ?_) (fun _ _ _ _ _ _ us hl => match us, hl with | [_, _], _ => rfl) fun cdv A outer s H E hRm ds d h => ?_
  · obtain ⟨a, b, rfl, _⟩ := h
    rfl
  · exact b_best_couple T cdv A outer s H E hRm ds d h

abbrev N_is_worse : List Str := ["couple", "profile", "ratio", "least"]
theorem sc_is_worse : FnScope N_is_worse ["couple", "profile", "ratio"] (defScope JA.s_is_worse) := ⟨rfl, rfl, rfl, by decide +kernel, rfl, by decide +kernel, by decide +kernel⟩
def R_is_worse (K : PySem.W.Frag) : List D → D → Prop := fun ds d => ∃ (x e1 e2 : D) (ns ms : List Int) (ps : List Seg) (r : Rat), ds = [x, .tup (ps.map (segD K)), rat r] ∧ x.items = some [e1, e2] ∧ e1.items = some (ns.map D.int) ∧ patL ns ∧ e2.items = some (ms.map D.int) ∧ patL ms ∧
  (∀ p ∈ ps, PieceOk p) ∧ Sr 400 r ∧ 1 < r ∧ (shareM (jointsM 0 0 ns) (jointsM 0 0 ms) r = none ∨ (profShare ps r).isSome = true) ∧ d = .bl (worseM ns ms ps r)
theorem c_is_worse (T : Tx K mg) : Cal P w K mg base 8 "is_worse" (spV K (R_is_worse K)) [] := by
  refine cal_V (T.glo 43) (T.says.1.def_ 43) sc_is_worse (fun ds d h => ?_) (fun _ _ _ _ _ _ us hl => match us, hl with | [_, _, _], _ => rfl) fun cdv A outer s H E hRm ds d h => ?_
  · obtain ⟨x, e1, e2, ns, ms, ps, r, rfl, _⟩ := h
    rfl
  · obtain ⟨x, e1, e2, ns, ms, ps, r, rfl, hx, h1, hn, h2, hm, hp, hr, hr1, hs, rfl⟩ := h
    have a0 : x.at 0 = some e1 := at_items (j := 0) hx rfl
    have a1 : x.at 1 = some e2 := at_items (j := 1) hx rfl
    have ho := share_sr (pat_pb hn) (pat_pb hm) hr
    refine ⟨_, (pss_cons (ps_set (i := 3) sc_is_worse.nd rfl (by first | exact Or.inl rfl | exact Or.inr rfl) (C8.pe_c (c_share_at T) hRm (by decide) (by rfl) (pa_cons (pe_ix ix_seq (pv 0) pe_int (fun _ _ => rfl)) (pa_cons (pe_ix ix_seq (pv 0) pe_int (fun _ _ => rfl)) (pa_cons (pv 2) pa_nil)))))
    (pss_cons (ps_if (PW.pt (pw_or (pt_cmpR op_isNX (pv 3) pe_non (nomark _)) (pw_or1 (pt_cmpR (op_neD hRm.units) (C8.pe_c (c_compare T) hRm (by decide) (by rfl) (pa_cons (pv 3) (pa_cons (C8.pe_gc (v := .ref (He.ga K "ONE")) (by rfl) ⟨_, T.glo 86, rfl⟩) pa_nil))) (pe_un un_neg pe_int) (nomark _))))) (pss_one (ps_ret pe_bl)) pss_nil)
    (pss_one (ps_ret (pe_cmpR (op_eqD hRm.units) (C8.pe_c (c_compare T) hRm (by decide) (by rfl) (pa_cons (pv 3) (pa_cons (C8.pe_c (c_profile_share T) hRm (by decide) (by rfl) (pa_cons (pv 1) (pa_cons (pv 2) pa_nil))) pa_nil))) (pe_un un_neg pe_int) (nomark _)))))), ?_⟩
    refine s_seq (s_asgV (e_call (ea_cons (e_op (e_var rfl) e_int (ro_ix a0)) (ea_cons (e_op (e_var rfl) e_int (ro_ix a1)) (ea_cons (e_var rfl) ea_nil))) ⟨e1, e2, ns, ms, r, rfl, h1, hn, h2, hm, hr.mono (by decide), hr1, rfl⟩) ?_)
    unfold worseM
    generalize shareM (jointsM 0 0 ns) (jointsM 0 0 ms) r = sh at *
    cases sh with
    | none =>
      refine s_seq (s_ifT (t_or (a := true) (b := true) (t_test (e_op (x := .non) (e_var rfl) e_non ro_isN)) fun z => by cases z) ?_)
      exact s_retV e_bl rfl
    | some l =>
      have hl := ho l rfl
      by_cases hlt : l < 1
      · refine s_seq (s_ifF (t_imp (t_or (a := false) (t_test (e_op (x := rat l) (e_var rfl) e_non ro_isN)) fun _ => t_test (t_nlt (e_compare (a := l) (e_var rfl) (e_one T) hl sr_one) e_m1)) fun x e => e.trans (by rw [decide_eq_true hlt]; rfl)) (s_next ?_))
        have hsome : (profShare ps r).isSome = true := by
          rcases hs with hs | hs
          · cases hs
          · exact hs
        obtain ⟨q, hq⟩ := Option.isSome_iff_exists.mp hsome
        have hqs : Sr 3000 q := profShare_sr hr ps none hp (fun _ e => by cases e) q hq
        refine s_retV (d := .bl (decide (l < q))) (t_lt (e_compare (a := l) (b := q) (e_var rfl) ((e_call (ea_cons (e_var rfl) (ea_cons (e_var rfl) ea_nil)) ⟨ps, r, rfl, hp, hr.mono (by decide), rfl⟩).cast (by rw [hq]; rfl)) hl hqs) e_m1) ?_
        show D.bl _ = D.bl (if l < 1 then (match profShare ps r with
          | none => false
          | some q => decide (l < q)) else false)
        rw [if_pos hlt, hq]
      · refine s_seq (s_ifT (t_imp (t_or (a := false) (t_test (e_op (x := rat l) (e_var rfl) e_non ro_isN)) fun _ => t_test (t_nlt (e_compare (a := l) (e_var rfl) (e_one T) hl sr_one) e_m1)) fun x e => e.trans (by rw [decide_eq_false hlt]; rfl)) ?_)
        refine s_retV e_bl ?_
        show D.bl false = D.bl (if l < 1 then (match profShare ps r with
          | none => false
          | some q => decide (l < q)) else false)
        rw [if_neg hlt]
end
end JD
set_option maxHeartbeats 4000000
namespace JD
open PySem PySem.Spec PyProof.Rows L2
open C8 (Cal Mak)
section
variable {P : Program} {w : World} {K : PySem.W.Frag} {mg : Str → Option Value} {base : Heap}
def coupleT (x : D) : Prop := x.tyV.isSome = true ∧ ∀ es, x.items = some es → es.length = 2 → ∀ e ∈ es, flatT e
def R_best_fault : List D → D → Prop := fun ds d => ∃ (a b : Int) (x : D), ds = [.int a, .int b, x] ∧ 0 ≤ a ∧ 0 ≤ b ∧ 1 ≤ a + b ∧ a + b ≤ 8 ∧ profOk a b = true ∧ askOk a b = true ∧ coupleT x ∧ d = faultD a b x
theorem asked_len (a b : Int) (ha : a ≤ 8) (hb : b ≤ 8) : (askedM a b).length ≤ 257 := by
  unfold askedM
  rw [List.length_append]
  have := (bords_ok ha hb).2
  simp
  omega
theorem joints_one {ns : List Int} (h : ns.length = 1) : jointsM 0 0 ns = [] := by
  obtain ⟨x, rfl⟩ := List.length_eq_one_iff.mp h
  rfl
theorem shareM_nil {ks : List IP} {r : Rat} : shareM [] ks r = none := rfl

abbrev N_best_fault : List Str := ["a_count", "b_count", "couple", "fault", "profile", "asked", "entry", "ratio"]
theorem sc_best_fault : FnScope N_best_fault ["a_count", "b_count", "couple"] (defScope JA.s_best_fault) := ⟨rfl, rfl, rfl, by decide +kernel, rfl, by decide +kernel, by decide +kernel⟩
theorem b_best_fault (T : Tx K mg) {CX : CXT} (cdv : Value) (A : Around) (outer : List Env) (s : Shared) (H : Hp) (E : XK) (hRm : Room 11 (A.deeper (envOfC "best_fault" (defScope JA.s_best_fault) s.heap.objs.size (He.ga K "best_fault") cdv))) (ds : List D) (d : D) (h : R_best_fault ds d) :
    ∃ t, PSs (cxOf CX P w K mg base N_best_fault "best_fault" (defScope JA.s_best_fault) (He.ga K "best_fault") cdv A outer s H E).nox (defBody JA.s_best_fault) t ∧ Es K t (ds.map S.val ++ List.replicate (N_best_fault.length - 3) .no) ⟨fun _ => d = .non, fun z => z = d, fun _ => False, fun _ => False⟩ := by
  obtain ⟨a, b, x, rfl, ha, hb, h1, h8, hpo, hask, ⟨hx, hel⟩, rfl⟩ := h
  have hpo' := hpo
  unfold profOk at hpo'
  simp only [Bool.and_eq_true, List.all_eq_true, decide_eq_true_eq] at hpo'
  obtain ⟨⟨hf, hpp⟩, hpl⟩ := hpo'
  have hok : ∀ p ∈ profileM a b, PieceOk p := fun p hp => pieceB_ok (hpp p hp)
  refine ⟨_, (pss_cons (ps_expr (C8.pe_c (c_check_counts T) hRm (by decide) (by rfl) (pa_cons (pv 0) (pa_cons (pv 1) pa_nil))))
    (pss_cons (ps_set (i := 3) sc_best_fault.nd rfl (by first | exact Or.inl rfl | exact Or.inr rfl) (C8.pe_c (c_patterns_fault T) hRm (by decide) (by rfl) (pa_cons (pv 2) pa_nil)))
    (pss_cons (ps_if (pt_cmpR op_notNX (pv 3) pe_non (nomark _)) (pss_one (ps_ret (pv 3))) pss_nil)
    (pss_cons (ps_if (pt_not (pt_val (pe_callB (cr_all rfl) (by rfl) (T.free 89) (by decide +kernel) (pa_cons (pe_lc (own := [("entry", 6)]) (g := gName 6) (by rfl) sc_best_fault.nd (pi_or (pi_list (pv 2)) (pi_tup (pv 2))) (blkOk_by (own := [("entry", 6)]) (N := N_best_fault) (sc := defScope JA.s_best_fault) (by decide +kernel)) (fun _ _ _ _ _ => (pg_name (i := 6) sc_best_fault.nd rfl (by first | exact Or.inl rfl | exact Or.inr rfl))) (fun _ _ _ _ _ => pts_nil) (fun _ _ _ _ _ => (pe_cmpR (op_eqDK (K := K) (by rfl) hRm.units) (C8.pe_c (c_pattern_counts T) hRm (by decide) (by rfl) (pa_cons (pv 6) pa_nil)) (pe_tup (pa_cons (pv 0) (pa_cons (pv 1) pa_nil))) (nomark _)))) pa_nil)))) (pss_one (ps_ret pe_str)) pss_nil)
    (pss_cons (ps_set (i := 4) sc_best_fault.nd rfl (by first | exact Or.inl rfl | exact Or.inr rfl) (C8.pe_c (c_share_profile T) hRm (by decide) (by rfl) (pa_cons (pv 0) (pa_cons (pv 1) pa_nil))))
    (pss_cons (ps_set (i := 5) sc_best_fault.nd rfl (by first | exact Or.inl rfl | exact Or.inr rfl) (pe_op op_addX (C8.pe_c (c_profile_borders T) hRm (by decide) (by rfl) (pa_cons (pv 0) (pa_cons (pv 1) pa_nil))) (pe_lst (pa_cons (pe_tup (pa_cons (pe_op op_addX (pe_op op_mulX pe_int (pv 0)) pe_int) (pa_cons pe_int pa_nil))) pa_nil))))
    (pss_one (ps_ret (pe_ifExp (pt_val (pe_callB (cr_any rfl) (by rfl) (T.free 90) (by decide +kernel) (pa_cons (pe_lc (own := [("ratio", 7)]) (g := gName 7) (by rfl) sc_best_fault.nd (pi_list (pv 5)) (blkOk_by (own := [("ratio", 7)]) (N := N_best_fault) (sc := defScope JA.s_best_fault) (by decide +kernel)) (fun _ _ _ _ _ => (pg_name (i := 7) sc_best_fault.nd rfl (by first | exact Or.inl rfl | exact Or.inr rfl))) (fun _ _ _ _ _ => pts_nil) (fun _ _ _ _ _ => (C8.pe_c (c_is_worse T) hRm (by decide) (by rfl) (pa_cons (pv 2) (pa_cons (pv 4) (pa_cons (pv 7) pa_nil)))))) pa_nil))) pe_str pe_non))))))))), ?_⟩
  refine s_seq (s_drop (e_ccounts (e_var rfl) (e_var rfl) ha hb h1 h8) ?_)
  refine s_seq (s_asgV (e_pfault (e_var rfl) hx hel) ?_)
  cases hi : x.items with
  | none =>
    have eP : pfault x = .str "many" := by unfold pfault; rw [hi]
    have eF : faultD a b x = .str "many" := by unfold faultD; rw [hi]
    rw [eP, eF]
    refine s_seq (s_ifT (t_test (e_op (x := .str "many") (e_var rfl) e_non ro_notN)) ?_)
    exact s_retV (e_var rfl) rfl
  | some es =>
    have eP : pfault x = if es.length = 2 then (if es.all patB = true then .non else .str "pattern") else .str "many" := by unfold pfault; rw [hi]
    by_cases h2 : es.length = 2
    · obtain ⟨e1, e2, rfl⟩ : ∃ e1 e2, es = [e1, e2] := by
        match es, h2 with
        | [e1, e2], _ => exact ⟨e1, e2, rfl⟩
      rw [if_pos h2] at eP
      have eF : faultD a b x = if (patB e1 && patB e2) = true then (if (decide (cntI (rowI e1) = (a, b)) && decide (cntI (rowI e2) = (a, b))) = true then
          (if (askedM a b).any (worseM (rowI e1) (rowI e2) (profileM a b)) = true then .str "worse" else .non) else .str "counts") else .str "pattern" := by unfold faultD; rw [hi]
      have eAll : [e1, e2].all patB = (patB e1 && patB e2) := by simp
      rw [eAll] at eP
      cases hp : (patB e1 && patB e2) with
      | false =>
        rw [hp, if_neg Bool.false_ne_true] at eP eF
        rw [eP, eF]
        refine s_seq (s_ifT (t_test (e_op (x := .str "pattern") (e_var rfl) e_non ro_notN)) ?_)
        exact s_retV (e_var rfl) rfl
      | true =>
        rw [hp, if_pos rfl] at eP eF
        rw [eP, eF]
        rw [Bool.and_eq_true] at hp
        obtain ⟨ns, hn1, hn2⟩ := patB_ok hp.1
        obtain ⟨ms, hm1, hm2⟩ := patB_ok hp.2
        rw [rowI_of hn1, rowI_of hm1]
        refine s_seq (s_ifF (t_test (e_op (x := .non) (e_var rfl) e_non ro_notN)) (s_next ?_))
        -- the counts
        have cnt : ∀ e ∈ [e1, e2], ∃ ks : List Int, e.items = some (ks.map D.int) ∧ patL ks ∧ rowI e = ks := fun e he => by
          rcases List.mem_cons.mp he with rfl | he
          · exact ⟨ns, hn1, hn2, rowI_of hn1⟩
          · rcases List.mem_singleton.mp he with rfl
            exact ⟨ms, hm1, hm2, rowI_of hm1⟩
        have lm := fun (Γ : List S) (h0 : Γ[0]? = some (.val (.int a))) (h1 : Γ[1]? = some (.val (.int b))) (h2 : Γ[2]? = some (.val x)) (hlen : Γ.length = 8) => l_map (K := K) (Γ := Γ) (vs := [6]) [e1, e2] id (fun e => .bl (decide (cntI (rowI e) = (a, b)))) (i_seq (e_var (i := 2) h2) (by rw [hi, List.map_id])) (show 2 < 100000 by decide) fun e he => by
          obtain ⟨ks, k1, k2, k3⟩ := cnt e he
          have g6 : ((wipeG Γ [6]).set 6 (.val (id e)))[6]? = some (.val e) := by rw [List.getElem?_set_self (by show 6 < (Γ.set 6 .no).length; rw [List.length_set, hlen]; decide)]; rfl
          have g0 : ((wipeG Γ [6]).set 6 (.val (id e)))[0]? = some (.val (.int a)) := by rw [List.getElem?_set_ne (by decide)]; show (Γ.set 6 .no)[0]? = _; rw [List.getElem?_set_ne (by decide)]; exact h0
          have g1 : ((wipeG Γ [6]).set 6 (.val (id e)))[1]? = some (.val (.int b)) := by rw [List.getElem?_set_ne (by decide)]; show (Γ.set 6 .no)[1]? = _; rw [List.getElem?_set_ne (by decide)]; exact h1
          refine ⟨_, g_name (i := 6), Ev.cast (e_op (x := pairD (cntI ks)) (y := pairD (a, b)) (e_call (E := C8.E0) (R := R_pattern_counts) (ea_cons (e_var g6) ea_nil) ⟨e, ks, rfl, k1, k2, rfl⟩) (e_tup (ea_cons (e_var g0) (ea_cons (e_var g1) ea_nil)) (of_decide_eq_true rfl)) (ro_eqD (shp_pair _ _) (shp_pair _ _))) ?_⟩
          rw [eqv_pair, k3]
        have ea : Rc K (rAll K) [.lst (([e1, e2].map fun e => decide (cntI (rowI e) = (a, b))).map D.bl)] fun u => u = .bl (([e1, e2].map fun e => decide (cntI (rowI e) = (a, b))).all id) := rc_all
        rw [List.map_map] at ea
        have eAll2 : ([e1, e2].map fun e => decide (cntI (rowI e) = (a, b))).all id = (decide (cntI ns = (a, b)) && decide (cntI ms = (a, b))) := by
          rw [List.all_map, List.all_cons, List.all_cons, List.all_nil, Bool.and_true]
          show (decide (cntI (rowI e1) = (a, b)) && decide (cntI (rowI e2) = (a, b))) = _
          rw [rowI_of hn1, rowI_of hm1]
        rw [eAll2] at ea
        refine s_seq (s_ifB (t_not (t_B (e_cb (ea_cons (lm _ rfl rfl rfl rfl).ev ea_nil) ea))) (fun c => ?_) fun c => s_next ?_)
        · have c' : (decide (cntI ns = (a, b)) && decide (cntI ms = (a, b))) = false := by
            cases hcc : (decide (cntI ns = (a, b)) && decide (cntI ms = (a, b))) with
            | false => rfl
            | true => rw [hcc] at c; cases c
          rw [c', if_neg Bool.false_ne_true]
          exact s_retV e_str rfl
        · have c' : (decide (cntI ns = (a, b)) && decide (cntI ms = (a, b))) = true := by
            cases hcc : (decide (cntI ns = (a, b)) && decide (cntI ms = (a, b))) with
            | true => rfl
            | false => rw [hcc] at c; cases c
          rw [c', if_pos rfl]
          rw [Bool.and_eq_true, decide_eq_true_eq, decide_eq_true_eq] at c'
          refine s_seq (s_asgV (e_call (ea_cons (e_var rfl) (ea_cons (e_var rfl) ea_nil)) ⟨a, b, rfl, ha, hb, h1, h8, hf, rfl⟩) ?_)
          have hbl := (bords_ok (a := a) (b := b) (by omega) (by omega)).2
          refine s_seq (s_asgV (d := .lst ((askedM a b).map rat)) (Ev.cast (e_op (e_call (ea_cons (e_var rfl) (ea_cons (e_var rfl) ea_nil)) ⟨a, b, rfl, ha, hb, by omega, by omega, rfl⟩) (e_lst (ea_cons (e_tup (ea_cons (e_op (e_op e_int (e_var rfl) (ro_mul (Sz.lit (by decide) (by decide)) (Sz.lit (by omega) (by decide)))) e_int ro_add) (ea_cons e_int ea_nil)) (of_decide_eq_true rfl)) ea_nil) (of_decide_eq_true rfl)) (ro_cat (by rw [List.length_map]; simp; omega))) (by unfold askedM; rw [List.map_append]; rfl)) ?_)
          unfold askOk at hask
          have hal := asked_len a b (by omega) (by omega)
          have hcond : ∀ r ∈ askedM a b, Sr 400 r ∧ 1 < r ∧ (shareM (jointsM 0 0 ns) (jointsM 0 0 ms) r = none ∨ (profShare (profileM a b) r).isSome = true) := fun r hr => by
            have := List.all_eq_true.mp hask r hr
            simp only [Bool.and_eq_true, decide_eq_true_eq, Bool.or_eq_true] at this
            refine ⟨(small_sr this.2.1).mono (by decide), this.1, ?_⟩
            rcases this.2.2 with h | h
            · left
              have hl : ns.length = 1 := by
                have e1 : (ns.length : Int) - ns.sum = a := congrArg (·.1) c'.1
                have e2 : ns.sum = b := congrArg (·.2) c'.1
                omega
              rw [joints_one hl]
              rfl
            · exact .inr h
          generalize profileM a b = ps at *
          generalize askedM a b = as at *
          have ea2 : Rc K (rAny K) [.lst ((as.map fun r => worseM ns ms ps r).map D.bl)] fun u => u = .bl ((as.map fun r => worseM ns ms ps r).any id) := rc_any
          rw [List.map_map] at ea2
          have eAny : (as.map fun r => worseM ns ms ps r).any id = as.any (worseM ns ms ps) := by rw [List.any_map]; rfl
          rw [eAny] at ea2
          have lw := fun (Γ : List S) (h2 : Γ[2]? = some (.val x)) (h4 : Γ[4]? = some (.val (.tup (ps.map (segD K))))) (h5 : Γ[5]? = some (.val (.lst (as.map rat)))) (hlen : Γ.length = 8) => l_map (K := K) (Γ := Γ) (vs := [7]) as rat (fun r => .bl (worseM ns ms ps r)) (i_list (e_var (i := 5) h5)) (by omega) fun r hr => by
            obtain ⟨q1, q2, q3⟩ := hcond r hr
            have g7 : ((wipeG Γ [7]).set 7 (.val (rat r)))[7]? = some (.val (rat r)) := by rw [List.getElem?_set_self (by show 7 < (Γ.set 7 .no).length; rw [List.length_set, hlen]; decide)]
            have g2 : ((wipeG Γ [7]).set 7 (.val (rat r)))[2]? = some (.val x) := by rw [List.getElem?_set_ne (by decide)]; show (Γ.set 7 .no)[2]? = _; rw [List.getElem?_set_ne (by decide)]; exact h2
            have g4 : ((wipeG Γ [7]).set 7 (.val (rat r)))[4]? = some (.val (.tup (ps.map (segD K)))) := by rw [List.getElem?_set_ne (by decide)]; show (Γ.set 7 .no)[4]? = _; rw [List.getElem?_set_ne (by decide)]; exact h4
            exact ⟨_, g_name (i := 7), e_call (E := C8.E0) (R := R_is_worse K) (ea_cons (e_var g2) (ea_cons (e_var g4) (ea_cons (e_var g7) ea_nil))) ⟨x, e1, e2, ns, ms, ps, r, rfl, hi, hn1, hn2, hm1, hm2, hok, q1, q2, q3, rfl⟩⟩
          refine s_ret (e_if (t_B (e_cb (ea_cons (lw _ rfl rfl rfl rfl).ev ea_nil) ea2)) (fun c => ?_) fun c => ?_) fun d hd => hd
          · rw [if_pos c]
            exact e_str
          · rw [if_neg (by rw [c]; exact Bool.false_ne_true)]
            exact e_non
    · rw [if_neg h2] at eP
      have eF : faultD a b x = .str "many" := by
        unfold faultD
        rw [hi]
        match es, h2 with
        | [], _ => rfl
        | [_], _ => rfl
        | [_, _], h => exact absurd rfl h
        | _ :: _ :: _ :: _, _ => rfl
      rw [eP, eF]
      refine s_seq (s_ifT (t_test (e_op (x := .str "many") (e_var rfl) e_non ro_notN)) ?_)
      exact s_retV (e_var rfl) rfl
theorem c_best_fault (T : Tx K mg) : Cal P w K mg base 12 "best_fault" (spV K R_best_fault) [] := by
  refine cal_V (T.glo 44) (T.says.1.def_ 44) sc_best_fault (fun ds d h => ?_) (fun _ _ _ _ _ _ us hl => match us, hl with | [_, _, _], _ => rfl) fun cdv A outer s H E hRm ds d h => ?_
  · obtain ⟨a, b, x, rfl, _⟩ := h
    rfl
  · exact b_best_fault T cdv A outer s H E hRm ds d h
end
end JD
set_option maxHeartbeats 4000000
namespace JD
open PySem PySem.Spec PyProof.Rows L2
open C8 (Cal Mak)
/-! ### counts that are refused -/
def okC (d : D) : Bool := wholeD d (.int 0) (.int 8)
def badC (x y : D) : Option Str := if okC x = true then (if okC y = true then (if 1 ≤ toI x + toI y ∧ toI x + toI y ≤ 8 then none else some "many") else some "b") else some "a"
theorem okC_int {d : D} (h : okC d = true) : ∃ i, d = .int i ∧ 0 ≤ i ∧ i ≤ 8 := by
  unfold okC wholeD at h
  cases d with
  | int i =>
    simp only [loB, hiB, Bool.and_eq_true, decide_eq_true_eq] at h
    exact ⟨i, rfl, h.1, h.2⟩
  | _ => cases h
section
variable {K : PySem.W.Frag} {hd : Option Hd} {fr : Addr → Prop} {B0 H0 : Hp} {Γ : List S}
theorem xr_call {C : Addr} {R : List D → D → Prop} {Rr : List D → List (Str × D) → Prop} {ds : List D} {gs : List (Str × D)} {E : XK} {ta : TA} (ha : Ea K ta Γ fun z => z = ds) (hR : Rr ds gs)
    (hE : ∀ B' H' dx fs, Gs hd fr B0 H0 B' H' → Same B' H' → H' dx = some (.xd fs) → RepF K B' fs gs → E (.ref C) (some dx) H') {B H : Hp} {σ : L2.St} (S0 : Sx K hd fr B H σ Γ) (g : Gs hd fr B0 H0 B H) (Q : VK) : tCall (spX K C R Rr) [] E ta σ H Q :=
  ha hd fr B H σ _ S0 fun B1 H1 vs zs g1 r p => by
    subst p
    refine ⟨B1, zs, by rw [List.append_nil]; exact r, g1.sub, .inr ⟨gs, hR, fun B' H' dx fs g2 hx rf => hE B' H' dx fs ?_ g2.sub hx rf⟩⟩
    exact (g.trans g1.gs).trans (g2.up g1.hand).gs
end
section
variable {P : Program} {w : World} {K : PySem.W.Frag} {mg : Str → Option Value} {base : Heap}


def Rr_check_counts : List D → List (Str × D) → Prop := fun ds gs => ∃ x y : D, ∃ wd : Str, ds = [x, y] ∧ x.tyV.isSome = true ∧ y.tyV.isSome = true ∧ badC x y = some wd ∧ gs = [(("what" : Str), .str wd)]
theorem x_check_counts (T : Tx K mg) : XCal P w K mg base 4 "check_counts" (spX K (He.ga K "BadCounts") R_check_counts Rr_check_counts) := by
  obtain ⟨fd, F⟩ := T.says.1.def_ 16
  refine ⟨_, fd, ["a_count", "b_count"], fnok_X F sc_check_counts (fun ds d h => ?_) (fun ds d h => ?_) (fun cdv A outer s H E hRm ds d h => b_check_counts T cdv A outer s H E hRm ds d h) fun cdv A outer s H E hRm ds gs h B hE => ?_, T.glo 16, F.kp, F.bindsN fun _ _ _ _ _ _ us hl => match us, hl with | [_, _], _ => rfl⟩
  · obtain ⟨x, y, rfl, _⟩ := h
    rfl
  · obtain ⟨x, y, wd, rfl, _⟩ := h
    rfl
  · obtain ⟨x, y, wd, rfl, hx, hy, hbad, rfl⟩ := h
    have tk : Takes (cxOf (CX P w) P w K mg base N_check_counts "check_counts" (defScope JA.s_check_counts) (He.ga K "check_counts") cdv A outer s H E) (fun cls d _ H => E cls d H) := takes_of rfl rfl rfl rfl
    refine ⟨_, (pss_cons (ps_if (pt_not (pt_val (C8.pe_c (c_is_whole_3 T) hRm (by decide) (by rfl) (pa_cons (pv 0) (pa_cons pe_int (pa_cons (C8.pe_gc (v := .int 8) (by rfl) (T.int 106)) pa_nil)))))) (pss_one (ps_raise rfl tk (pm_BadCounts T hRm (by decide) (by rfl) (pa_cons pe_str pa_nil)))) pss_nil)
    (pss_cons (ps_if (pt_not (pt_val (C8.pe_c (c_is_whole_3 T) hRm (by decide) (by rfl) (pa_cons (pv 1) (pa_cons pe_int (pa_cons (C8.pe_gc (v := .int 8) (by rfl) (T.int 106)) pa_nil)))))) (pss_one (ps_raise rfl tk (pm_BadCounts T hRm (by decide) (by rfl) (pa_cons pe_str pa_nil)))) pss_nil)
    (pss_cons (ps_if (pt_not (pt_chain op_le op_le pe_int (pe_op op_addX (pv 0) (pv 1)) (C8.pe_gc (v := .int 8) (by rfl) (T.int 106)))) (pss_one (ps_raise rfl tk (pm_BadCounts T hRm (by decide) (by rfl) (pa_cons pe_str pa_nil)))) pss_nil)
    (pss_one (ps_ret (pe_tup (pa_cons (pv 0) (pa_cons (pv 1) pa_nil)))))))), ?_⟩
    unfold badC at hbad
    refine x_seq (x_if (t_not (t_B (e_whole3 (e_var rfl) e_int e_int hx))) (fun hb => ?_) fun hb => x_of (s_next ?_))
    · have h0 : okC x = false := by unfold okC; simpa using hb
      rw [h0, if_neg Bool.false_ne_true] at hbad
      cases Option.some.inj hbad
      exact x_raise e_str fun B' H' dx fs g s' h' hxd rf => hE B' H' dx fs g s' hxd rf
    have h0 : okC x = true := by unfold okC; simpa using hb
    rw [h0, if_pos rfl] at hbad
    refine x_seq (x_if (t_not (t_B (e_whole3 (e_var rfl) e_int e_int hy))) (fun hb => ?_) fun hb => x_of (s_next ?_))
    · have h1 : okC y = false := by unfold okC; simpa using hb
      rw [h1, if_neg Bool.false_ne_true] at hbad
      cases Option.some.inj hbad
      exact x_raise e_str fun B' H' dx fs g s' h' hxd rf => hE B' H' dx fs g s' hxd rf
    have h1 : okC y = true := by unfold okC; simpa using hb
    rw [h1, if_pos rfl] at hbad
    obtain ⟨i, rfl, _⟩ := okC_int h0
    obtain ⟨j, rfl, _⟩ := okC_int h1
    by_cases hc : 1 ≤ i + j ∧ i + j ≤ 8
    · have hbad' : (if 1 ≤ i + j ∧ i + j ≤ 8 then (none : Option Str) else some "many") = some wd := hbad
      rw [if_pos hc] at hbad'
      cases hbad'
    · have hbad' : (if 1 ≤ i + j ∧ i + j ≤ 8 then (none : Option Str) else some "many") = some wd := hbad
      rw [if_neg hc] at hbad'
      cases Option.some.inj hbad'
      refine x_seq (x_if (Φ := fun b => b = true) (t_imp (t_not (t_test (e_chain e_int (e_op (e_var rfl) (e_var rfl) ro_add) ro_le (fun _ => e_int) (fun _ => ro_le)))) fun b e => e.trans ?_) (fun _ => ?_) fun z => by cases z)
      · rw [← Bool.decide_and, decide_eq_false hc]
        rfl
      · exact x_raise e_str fun B' H' dx fs g s' h' hxd rf => hE B' H' dx fs g s' hxd rf


def Rr_last_whole : List D → List (Str × D) → Prop := fun ds gs => ∃ x y : D, ∃ wd : Str, ds = [x, y] ∧ x.tyV.isSome = true ∧ y.tyV.isSome = true ∧ badC x y = some wd ∧ gs = [(("what" : Str), .str wd)]
theorem x_last_whole (T : Tx K mg) : XCal P w K mg base 5 "last_whole" (spX K (He.ga K "BadCounts") R_last_whole Rr_last_whole) := by
  obtain ⟨fd, F⟩ := T.says.1.def_ 41
  refine ⟨_, fd, ["a_count", "b_count"], fnok_X F sc_last_whole (fun ds d h => ?_) (fun ds d h => ?_) (fun cdv A outer s H E hRm ds d h => b_last_whole T cdv A outer s H E hRm ds d h) fun cdv A outer s H E hRm ds gs h B hE => ?_, T.glo 41, F.kp, F.bindsN fun _ _ _ _ _ _ us hl => match us, hl with | [_, _], _ => rfl⟩
  · obtain ⟨a, b, rfl, _⟩ := h
    rfl
  · obtain ⟨x, y, wd, rfl, _⟩ := h
    rfl
  · obtain ⟨x, y, wd, rfl, hx, hy, hbad, rfl⟩ := h
    have tk : Takes (cxOf (CX P w) P w K mg base N_last_whole "last_whole" (defScope JA.s_last_whole) (He.ga K "last_whole") cdv A outer s H E) (fun cls d _ H => E cls d H) := takes_of rfl rfl rfl rfl
    refine ⟨_, (pss_cons (ps_expr (pe_x (x_check_counts T) hRm (by decide) (passes_call tk fun _ _ _ _ h => h) (by rfl) (pa_cons (pv 0) (pa_cons (pv 1) pa_nil))))
    (pss_cons (ps_if (PW.pt (pw_or (pt_cmpR (op_eqD hRm.units) (pv 0) pe_int (nomark _)) (pw_or1 (pt_cmpR (op_eqD hRm.units) (pv 1) pe_int (nomark _))))) (pss_one (ps_ret pe_non)) pss_nil)
    (pss_one (ps_ret (pe_op op_addX (pe_op op_fdivW (pe_op op_sub (pe_op op_addX (pv 0) (pv 1)) pe_int) (pv 1)) pe_int))))), ?_⟩
    exact fun B1 H1 σ Dd S0 g _ _ _ _ => xr_call (ea_cons (e_var rfl) (ea_cons (e_var rfl) ea_nil)) ⟨x, y, wd, rfl, hx, hy, hbad, rfl⟩ hE S0 g _


def Rr_best_couple : List D → List (Str × D) → Prop := fun ds gs => ∃ x y : D, ∃ wd : Str, ds = [x, y] ∧ x.tyV.isSome = true ∧ y.tyV.isSome = true ∧ badC x y = some wd ∧ gs = [(("what" : Str), .str wd)]
theorem x_best_couple (T : Tx K mg) : XCal P w K mg base 6 "best_couple" (spX K (He.ga K "BadCounts") R_best_couple Rr_best_couple) := by
  obtain ⟨fd, F⟩ := T.says.1.def_ 42
  refine ⟨_, fd, ["a_count", "b_count"], fnok_X F sc_best_couple (fun ds d h => ?_) (fun ds d h => ?_) (fun cdv A outer s H E hRm ds d h => b_best_couple T cdv A outer s H E hRm ds d h) fun cdv A outer s H E hRm ds gs h B hE => ?_, T.glo 42, F.kp, F.bindsN fun _ _ _ _ _ _ us hl => match us, hl with | [_, _], _ => rfl⟩
  · obtain ⟨a, b, rfl, _⟩ := h
    rfl
  · obtain ⟨x, y, wd, rfl, _⟩ := h
    rfl
  · obtain ⟨x, y, wd, rfl, hx, hy, hbad, rfl⟩ := h
    have tk : Takes (cxOf (CX P w) P w K mg base N_best_couple "best_couple" (defScope JA.s_best_couple) (He.ga K "best_couple") cdv A outer s H E) (fun cls d _ H => E cls d H) := takes_of rfl rfl rfl rfl
    refine ⟨_, (pss_cons (ps_set (i := 2) sc_best_couple.nd rfl (by first | exact Or.inl rfl | exact Or.inr rfl) (pe_x (x_last_whole T) hRm (by decide) (passes_call tk fun _ _ _ _ h => h) (by rfl) (pa_cons (pv 0) (pa_cons (pv 1) pa_nil))))
    (pss_cons (ps_if (pt_cmpR op_isNX (pv 2) pe_non (nomark _)) (pss_cons (ps_set (i := 3) sc_best_couple.nd rfl (by first | exact Or.inl rfl | exact Or.inr rfl) (pe_op op_addX (pe_op op_repX (pe_tup (pa_cons pe_int pa_nil)) (pv 0)) (pe_op op_repX (pe_tup (pa_cons pe_int pa_nil)) (pv 1))))
    (pss_one (ps_ret (pe_tup (pa_cons (pv 3) (pa_cons (pv 3) pa_nil)))))) pss_nil)
    (pss_cons (ps_set (i := 3) sc_best_couple.nd rfl (by first | exact Or.inl rfl | exact Or.inr rfl) (pe_lst (pa_cons pe_int pa_nil)))
    (pss_cons (ps_set (i := 4) sc_best_couple.nd rfl (by first | exact Or.inl rfl | exact Or.inr rfl) (pe_op op_sub (pv 0) pe_int))
    (pss_cons (ps_for (passes_of rfl) rfl (pi_range1 (by rfl) (T.free 100) (pa_cons (pv 1) pa_nil)) (pg_name (i := 5) sc_best_couple.nd rfl (by first | exact Or.inl rfl | exact Or.inr rfl)) (pss_cons (ps_set (i := 6) sc_best_couple.nd rfl (by first | exact Or.inl rfl | exact Or.inr rfl) (pe_callB (call_minX rfl) (by rfl) (T.free 98) (by decide +kernel) (pa_cons (pe_op op_sub (pv 2) pe_int) (pa_cons (pv 4) pa_nil))))
    (pss_cons (ps_set (i := 3) sc_best_couple.nd rfl (by first | exact Or.inl rfl | exact Or.inr rfl) (pe_op op_addX (pe_op op_addX (pv 3) (pe_op op_mulX (pe_lst (pa_cons pe_int pa_nil)) (pv 6))) (pe_lst (pa_cons pe_int pa_nil))))
    (pss_one (ps_set (i := 4) sc_best_couple.nd rfl (by first | exact Or.inl rfl | exact Or.inr rfl) (pe_op op_sub (pv 4) (pv 6)))))))
    (pss_cons (ps_set (i := 7) sc_best_couple.nd rfl (by first | exact Or.inl rfl | exact Or.inr rfl) (pe_slice sl_X (pv 3) (po_some pe_int) (po_some (pe_un un_neg pe_int))))
    (pss_one (ps_ret (pe_tup (pa_cons (pe_tup (pa_cons pe_int (StX.pa_star (pv 7) (pa_cons pe_int pa_nil)))) (pa_cons (pe_tup (pa_cons pe_int (StX.pa_star (pv 7) (pa_cons pe_int pa_nil)))) pa_nil))))))))))), ?_⟩
    exact fun B1 H1 σ Dd S0 g _ _ _ _ => xr_call (ea_cons (e_var rfl) (ea_cons (e_var rfl) ea_nil)) ⟨x, y, wd, rfl, hx, hy, hbad, rfl⟩ hE S0 g _


def Rr_best_fault : List D → List (Str × D) → Prop := fun ds gs => ∃ x y : D, ∃ wd : Str, ∃ z : D, ds = [x, y, z] ∧ x.tyV.isSome = true ∧ y.tyV.isSome = true ∧ badC x y = some wd ∧ gs = [(("what" : Str), .str wd)]
theorem x_best_fault (T : Tx K mg) : XCal P w K mg base 12 "best_fault" (spX K (He.ga K "BadCounts") R_best_fault Rr_best_fault) := by
  obtain ⟨fd, F⟩ := T.says.1.def_ 44
  refine ⟨_, fd, ["a_count", "b_count", "couple"], fnok_X F sc_best_fault (fun ds d h => ?_) (fun ds d h => ?_) (fun cdv A outer s H E hRm ds d h => b_best_fault T cdv A outer s H E hRm ds d h) fun cdv A outer s H E hRm ds gs h B hE => ?_, T.glo 44, F.kp, F.bindsN fun _ _ _ _ _ _ us hl => match us, hl with | [_, _, _], _ => rfl⟩
  · obtain ⟨a, b, x, rfl, _⟩ := h
    rfl
  · obtain ⟨x, y, wd, z, rfl, _⟩ := h
    rfl
  · obtain ⟨x, y, wd, z, rfl, hx, hy, hbad, rfl⟩ := h
    have tk : Takes (cxOf (CX P w) P w K mg base N_best_fault "best_fault" (defScope JA.s_best_fault) (He.ga K "best_fault") cdv A outer s H E) (fun cls d _ H => E cls d H) := takes_of rfl rfl rfl rfl
    refine ⟨_, (pss_cons (ps_expr (pe_x (x_check_counts T) hRm (by decide) (passes_call tk fun _ _ _ _ h => h) (by rfl) (pa_cons (pv 0) (pa_cons (pv 1) pa_nil))))
    (pss_cons (ps_set (i := 3) sc_best_fault.nd rfl (by first | exact Or.inl rfl | exact Or.inr rfl) (C8.pe_c (c_patterns_fault T) hRm (by decide) (by rfl) (pa_cons (pv 2) pa_nil)))
    (pss_cons (ps_if (pt_cmpR op_notNX (pv 3) pe_non (nomark _)) (pss_one (ps_ret (pv 3))) pss_nil)
    (pss_cons (ps_if (pt_not (pt_val (pe_callB (cr_all rfl) (by rfl) (T.free 89) (by decide +kernel) (pa_cons (pe_lc (own := [("entry", 6)]) (g := gName 6) (by rfl) sc_best_fault.nd (pi_or (pi_list (pv 2)) (pi_tup (pv 2))) (blkOk_by (own := [("entry", 6)]) (N := N_best_fault) (sc := defScope JA.s_best_fault) (by decide +kernel)) (fun _ _ _ _ _ => (pg_name (i := 6) sc_best_fault.nd rfl (by first | exact Or.inl rfl | exact Or.inr rfl))) (fun _ _ _ _ _ => pts_nil) (fun _ _ _ _ _ => (pe_cmpR (op_eqDK (K := K) (by rfl) hRm.units) (C8.pe_c (c_pattern_counts T) hRm (by decide) (by rfl) (pa_cons (pv 6) pa_nil)) (pe_tup (pa_cons (pv 0) (pa_cons (pv 1) pa_nil))) (nomark _)))) pa_nil)))) (pss_one (ps_ret pe_str)) pss_nil)
    (pss_cons (ps_set (i := 4) sc_best_fault.nd rfl (by first | exact Or.inl rfl | exact Or.inr rfl) (C8.pe_c (c_share_profile T) hRm (by decide) (by rfl) (pa_cons (pv 0) (pa_cons (pv 1) pa_nil))))
    (pss_cons (ps_set (i := 5) sc_best_fault.nd rfl (by first | exact Or.inl rfl | exact Or.inr rfl) (pe_op op_addX (C8.pe_c (c_profile_borders T) hRm (by decide) (by rfl) (pa_cons (pv 0) (pa_cons (pv 1) pa_nil))) (pe_lst (pa_cons (pe_tup (pa_cons (pe_op op_addX (pe_op op_mulX pe_int (pv 0)) pe_int) (pa_cons pe_int pa_nil))) pa_nil))))
    (pss_one (ps_ret (pe_ifExp (pt_val (pe_callB (cr_any rfl) (by rfl) (T.free 90) (by decide +kernel) (pa_cons (pe_lc (own := [("ratio", 7)]) (g := gName 7) (by rfl) sc_best_fault.nd (pi_list (pv 5)) (blkOk_by (own := [("ratio", 7)]) (N := N_best_fault) (sc := defScope JA.s_best_fault) (by decide +kernel)) (fun _ _ _ _ _ => (pg_name (i := 7) sc_best_fault.nd rfl (by first | exact Or.inl rfl | exact Or.inr rfl))) (fun _ _ _ _ _ => pts_nil) (fun _ _ _ _ _ => (C8.pe_c (c_is_worse T) hRm (by decide) (by rfl) (pa_cons (pv 2) (pa_cons (pv 4) (pa_cons (pv 7) pa_nil)))))) pa_nil))) pe_str pe_non))))))))), ?_⟩
    exact fun B1 H1 σ Dd S0 g _ _ _ _ => xr_call (ea_cons (e_var rfl) (ea_cons (e_var rfl) ea_nil)) ⟨x, y, wd, rfl, hx, hy, hbad, rfl⟩ hE S0 g _
end
end JD
set_option maxHeartbeats 4000000
namespace JD
open PySem PySem.Spec PyProof.Rows L2
open C8 (Cal Mak)
/-! ### the law: numbers -/
def mixI (n t : Int) : Int :=
  let o := (n * 48271 + t * 16807 + 11) % 2147483647
  let tw := (o * o + o / 127 * 40692 + t * 69621) % 2147483399
  (tw * tw / 1009 + o) % 2147483563 / 16
theorem mixI_nn (n t : Int) : 0 ≤ mixI n t := Int.ediv_nonneg (Int.emod_nonneg _ (by decide)) (by decide)
theorem e_intI {K : PySem.W.Frag} {Γ : List S} {te : TE} {i : Int} (h : Ev K te Γ (.int i)) : Ev K (tCB rIntX (tCons te tNil)) Γ (.int i) := e_cb (ea_cons h ea_nil) rc_int
theorem mod_sz {i : Int} {j : Int} (hj : 0 < j) (h : j < 2147483648) : Sz 31 (i % j) := by
  have h1 := Int.emod_nonneg i (show j ≠ 0 by omega)
  have h2 := Int.emod_lt_of_pos i hj
  unfold Sz
  have : (2 : Nat) ^ 31 = 2147483648 := by decide
  omega
theorem Sz.div {n : Nat} {i j : Int} (h : Sz n i) : Sz n (i / j) := by
  refine h.le ?_
  exact Int.natAbs_ediv_le_natAbs i j
section
variable {P : Program} {w : World} {K : PySem.W.Frag} {mg : Str → Option Value} {base : Heap}
abbrev N_law_mix : List Str := ["_law_number", "_law_turn", "_law_once", "_law_twice"]
theorem sc_law_mix : FnScope N_law_mix ["_law_number", "_law_turn"] (defScope JA.s_law_mix) := ⟨rfl, rfl, rfl, by decide +kernel, rfl, by decide +kernel, by decide +kernel⟩
def R_law_mix : List D → D → Prop := fun ds d => ∃ n t : Int, ds = [.int n, .int t] ∧ Sz 100 n ∧ Sz 100 t ∧ d = .int (mixI n t)
theorem c_law_mix (T : Tx K mg) : Cal P w K mg base 1 "_law_mix" (spV K R_law_mix) [] := by
  refine cal_V (T.glo 46) (T.says.1.def_ 46) sc_law_mix (fun ds d h => ?_) (fun _ _ _ _ _ _ us hl => match us, hl with | [_, _], _ => rfl) fun cdv A outer s H E hRm ds d h => ?_
  · obtain ⟨n, t, rfl, _⟩ := h
    rfl
  · obtain ⟨n, t, rfl, hn, ht, rfl⟩ := h
    refine ⟨_, (pss_cons (ps_set (i := 2) sc_law_mix.nd rfl (by first | exact Or.inl rfl | exact Or.inr rfl) (pe_op op_mod (pe_callTy call_intX (by rfl) (T.free 93) (by decide +kernel) (pa_cons (pe_op op_addX (pe_op op_addX (pe_op op_mulX (pv 0) pe_int) (pe_op op_mulX (pv 1) pe_int)) pe_int) pa_nil)) pe_int))
    (pss_cons (ps_set (i := 3) sc_law_mix.nd rfl (by first | exact Or.inl rfl | exact Or.inr rfl) (pe_op op_mod (pe_callTy call_intX (by rfl) (T.free 93) (by decide +kernel) (pa_cons (pe_op op_addX (pe_op op_addX (pe_op op_mulX (pv 2) (pv 2)) (pe_op op_mulX (pe_op op_fdivW (pv 2) pe_int) pe_int)) (pe_op op_mulX (pv 1) pe_int)) pa_nil)) pe_int))
    (pss_one (ps_ret (pe_op op_fdivW (pe_op op_mod (pe_callTy call_intX (by rfl) (T.free 93) (by decide +kernel) (pa_cons (pe_op op_addX (pe_op op_fdivW (pe_op op_mulX (pv 3) (pv 3)) pe_int) (pv 2)) pa_nil)) pe_int) pe_int))))), ?_⟩
    have l : ∀ {i : Int}, i.natAbs < 1000000 → Sz 400000 i := fun h => Sz.lit h (by decide)
    have so : Sz 31 ((n * 48271 + t * 16807 + 11) % 2147483647) := mod_sz (by decide) (by decide)
    have st : Sz 31 ((((n * 48271 + t * 16807 + 11) % 2147483647) * ((n * 48271 + t * 16807 + 11) % 2147483647) + ((n * 48271 + t * 16807 + 11) % 2147483647) / 127 * 40692 + t * 69621) % 2147483399) := mod_sz (by decide) (by decide)
    refine s_seq (s_asgV (e_op (e_intI (e_op (e_op (e_op (e_var rfl) e_int (ro_mul (hn.mono (by decide)) (l (by decide)))) (e_op (e_var rfl) e_int (ro_mul (ht.mono (by decide)) (l (by decide)))) ro_add) e_int ro_add)) e_int (ro_mod (by decide))) ?_)
    generalize eo : (n * 48271 + t * 16807 + 11) % 2147483647 = o at *
    refine s_seq (s_asgV (e_op (e_intI (e_op (e_op (e_op (e_var rfl) (e_var rfl) (ro_mul (so.mono (by decide)) (so.mono (by decide)))) (e_op (e_op (e_var rfl) e_int (ro_div (by decide) (Sz.lit (by decide) (by decide)))) e_int (ro_mul ((Sz.div so).mono (by decide)) (l (by decide)))) ro_add) (e_op (e_var rfl) e_int (ro_mul (ht.mono (by decide)) (l (by decide)))) ro_add)) e_int (ro_mod (by decide))) ?_)
    generalize et : (o * o + o / 127 * 40692 + t * 69621) % 2147483399 = tw at *
    refine s_retV (e_op (e_op (e_intI (e_op (e_op (e_op (e_var rfl) (e_var rfl) (ro_mul (st.mono (by decide)) (st.mono (by decide)))) e_int (ro_div (by decide) (Sz.lit (by decide) (by decide)))) (e_var rfl) ro_add)) e_int (ro_mod (by decide))) e_int (ro_div (by decide) (Sz.lit (by decide) (by decide)))) ?_
    show D.int _ = D.int (mixI n t)
    unfold mixI
    rw [eo]
    show _ = D.int (((o * o + o / 127 * 40692 + t * 69621) % 2147483399 * ((o * o + o / 127 * 40692 + t * 69621) % 2147483399) / 1009 + o) % 2147483563 / 16)
    rw [et]

abbrev N_law_is_whole : List Str := ["_law_thing"]
theorem sc_law_is_whole : FnScope N_law_is_whole ["_law_thing"] (defScope JA.s_law_is_whole) := ⟨rfl, rfl, rfl, by decide +kernel, rfl, by decide +kernel, by decide +kernel⟩
def R_law_is_whole : List D → D → Prop := fun ds d => ∃ x : D, ds = [x] ∧ x.tyV.isSome = true ∧ d = .bl (isW x)
theorem c_law_is_whole (T : Tx K mg) : Cal P w K mg base 1 "_law_is_whole" (spV K R_law_is_whole) [] := by
  refine cal_V (T.glo 53) (T.says.1.def_ 53) sc_law_is_whole (fun ds d h => ?_) (fun _ _ _ _ _ _ us hl => match us, hl with | [_], _ => rfl) fun cdv A outer s H E hRm ds d h => ?_
  · obtain ⟨x, rfl, _⟩ := h
    rfl
  · obtain ⟨x, rfl, hx, rfl⟩ := h
    refine ⟨_, (pss_one (ps_ret (pe_and (pe_callB call_isiX (by rfl) (T.free 94) (by decide +kernel) (pa_cons (pv 0) (pa_cons (pe_bltn (v := .ty "int") (by rfl) (T.free 93) (by decide +kernel) rfl) pa_nil))) (pe_one (pe_not (pe_callB call_isiX (by rfl) (T.free 94) (by decide +kernel) (pa_cons (pv 0) (pa_cons (pe_bltn (v := .ty "bool") (by rfl) (T.free 91) (by decide +kernel) rfl) pa_nil)))))))), ?_⟩
    have key : ∃ b1 b2, Rc K (rIsiX K) [x, .ty "int"] (fun u => u = .bl b1) ∧ Rc K (rIsiX K) [x, .ty "bool"] (fun u => u = .bl b2) ∧ isW x = (b1 && !b2) := by
      cases x with
      | non => exact ⟨false, false, rc_isi (t := "NoneType") rfl (by rfl), rc_isi (t := "NoneType") rfl (by rfl), rfl⟩
      | bl b => exact ⟨true, true, rc_isi (t := "bool") rfl (by rfl), rc_isi (t := "bool") rfl (by rfl), rfl⟩
      | int b => exact ⟨true, false, rc_isi (t := "int") rfl (by rfl), rc_isi (t := "int") rfl (by rfl), rfl⟩
      | str b => exact ⟨false, false, rc_isi (t := "str") rfl (by rfl), rc_isi (t := "str") rfl (by rfl), rfl⟩
      | tup b => exact ⟨false, false, rc_isi (t := "tuple") rfl (by rfl), rc_isi (t := "tuple") rfl (by rfl), rfl⟩
      | lst b => exact ⟨false, false, rc_isi (t := "list") rfl (by rfl), rc_isi (t := "list") rfl (by rfl), rfl⟩
      | _ => cases hx
    obtain ⟨b1, b2, k1, k2, e⟩ := key
    rw [e]
    exact s_retV (e_and (e_cb (ea_cons (e_var rfl) (ea_cons e_ty ea_nil)) k1) fun _ => e_not (e_cb (ea_cons (e_var rfl) (ea_cons e_ty ea_nil)) k2)) rfl
theorem e_lwhole {Γ : List S} {te : TE} {x : D} {E : XK} (h : Ev K te Γ x) (hx : x.tyV.isSome = true := by rfl) : Ev K (tCall (spV K R_law_is_whole) [] E (tCons te tNil)) Γ (.bl (isW x)) := e_call (ea_cons h ea_nil) ⟨x, rfl, hx, rfl⟩

abbrev N_law_cmp : List Str := ["_law_one", "_law_other", "_law_difference"]
theorem sc_law_cmp : FnScope N_law_cmp ["_law_one", "_law_other"] (defScope JA.s_law_cmp) := ⟨rfl, rfl, rfl, by decide +kernel, rfl, by decide +kernel, by decide +kernel⟩
def R_law_cmp : List D → D → Prop := fun ds d => ∃ a b : Rat, ds = [rat a, rat b] ∧ Sr 3000 a ∧ Sr 3000 b ∧ d = .int (cmpR a b)
theorem c_law_cmp (T : Tx K mg) : Cal P w K mg base 1 "_law_cmp" (spV K R_law_cmp) [] := by
  refine cal_V (T.glo 51) (T.says.1.def_ 51) sc_law_cmp (fun ds d h => ?_) (fun _ _ _ _ _ _ us hl => match us, hl with | [_, _], _ => rfl) fun cdv A outer s H E hRm ds d h => ?_
  · obtain ⟨a, b, rfl, _⟩ := h
    rfl
  · obtain ⟨a, b, rfl, ha, hb, rfl⟩ := h
    refine ⟨_, (pss_cons (ps_set (i := 2) sc_law_cmp.nd rfl (by first | exact Or.inl rfl | exact Or.inr rfl) (pe_op op_sub (pe_op op_mulX (pe_ix ix_seq (pv 0) pe_int (fun _ _ => rfl)) (pe_ix ix_seq (pv 1) pe_int (fun _ _ => rfl))) (pe_op op_mulX (pe_ix ix_seq (pv 1) pe_int (fun _ _ => rfl)) (pe_ix ix_seq (pv 0) pe_int (fun _ _ => rfl)))))
    (pss_one (ps_ret (pe_op op_sub (pe_callTy call_intX (by rfl) (T.free 93) (by decide +kernel) (pa_cons (pe_cmpR (op_gt) (pv 2) pe_int (nomark _)) pa_nil)) (pe_callTy call_intX (by rfl) (T.free 93) (by decide +kernel) (pa_cons (pe_cmpR (op_lt) (pv 2) pe_int (nomark _)) pa_nil)))))), ?_⟩
    refine s_seq (s_asgV (e_op (e_op (e_op (e_var rfl) e_int (ro_ix rfl)) (e_op (e_var rfl) e_int (ro_ix rfl)) (ro_mul (ha.1.mono (by decide)) (hb.2.mono (by decide)))) (e_op (e_op (e_var rfl) e_int (ro_ix rfl)) (e_op (e_var rfl) e_int (ro_ix rfl)) (ro_mul (hb.1.mono (by decide)) (ha.2.mono (by decide)))) ro_sub) ?_)
    refine s_retV (e_op (e_cb (ea_cons (e_op (e_var rfl) e_int ro_gt) ea_nil) rc_intB) (e_cb (ea_cons (e_op (e_var rfl) e_int ro_lt) ea_nil) rc_intB) ro_sub) ?_
    obtain ⟨h1, h2⟩ := cmpR_sign a b
    show D.int _ = D.int (cmpR a b)
    unfold cmpR
    congr 1
    by_cases e : a = b
    · have := h1.mpr e
      rw [if_pos e, this]
      rfl
    · rw [if_neg e]
      have n0 : a.num * b.den - b.num * a.den ≠ 0 := fun z => e (h1.mp z)
      by_cases l : b < a
      · have := h2.mpr l
        rw [if_pos l, decide_eq_true this, decide_eq_false (by omega)]
        rfl
      · have : ¬ 0 < a.num * b.den - b.num * a.den := fun z => l (h2.mp z)
        rw [if_neg l, decide_eq_false this, decide_eq_true (by omega)]
        rfl
theorem e_lcmp {Γ : List S} {ta tb : TE} {a b : Rat} {E : XK} (h1 : Ev K ta Γ (rat a)) (h2 : Ev K tb Γ (rat b)) (ha : Sr 3000 a) (hb : Sr 3000 b) : Ev K (tCall (spV K R_law_cmp) [] E (tCons ta (tCons tb tNil))) Γ (.int (cmpR a b)) :=
  e_call (ea_cons h1 (ea_cons h2 ea_nil)) ⟨a, b, rfl, ha, hb, rfl⟩

abbrev N_law_gcd : List Str := ["_law_one", "_law_other", "_law_turn", "_law_rest"]
theorem sc_law_gcd : FnScope N_law_gcd ["_law_one", "_law_other"] (defScope JA.s_law_gcd) := ⟨rfl, rfl, rfl, by decide +kernel, rfl, by decide +kernel, by decide +kernel⟩
def R_law_gcd : List D → D → Prop := fun ds d => ∃ a b : Int, ds = [.int a, .int b] ∧ Sz 8000 a ∧ Sz 8000 b ∧ d = .int ((Nat.gcd a.natAbs b.natAbs : Nat) : Int)
theorem c_law_gcd (T : Tx K mg) : Cal P w K mg base 1 "_law_gcd" (spV K R_law_gcd) [] := by
  refine cal_V (T.glo 49) (T.says.1.def_ 49) sc_law_gcd (fun ds d h => ?_) (fun _ _ _ _ _ _ us hl => match us, hl with | [_, _], _ => rfl) fun cdv A outer s H E hRm ds d h => ?_
  · obtain ⟨a, b, rfl, _⟩ := h
    rfl
  · obtain ⟨a, b, rfl, ha, hb, rfl⟩ := h
    refine ⟨_, (pss_cons (ps_set (i := 0) sc_law_gcd.nd rfl (by first | exact Or.inl rfl | exact Or.inr rfl) (pe_callB call_absX (by rfl) (T.free 88) (by decide +kernel) (pa_cons (pv 0) pa_nil)))
    (pss_cons (ps_set (i := 1) sc_law_gcd.nd rfl (by first | exact Or.inl rfl | exact Or.inr rfl) (pe_callB call_absX (by rfl) (T.free 88) (by decide +kernel) (pa_cons (pv 1) pa_nil)))
    (pss_cons (ps_for PassesOwn.never rfl (pi_range1 (by rfl) (T.free 100) (pa_cons pe_int pa_nil)) (pg_name (i := 2) sc_law_gcd.nd rfl (by first | exact Or.inl rfl | exact Or.inr rfl)) (pss_cons (ps_if (pt_cmpR (op_eqD hRm.units) (pv 1) pe_int (nomark _)) (pss_one ps_break) pss_nil)
    (pss_cons (ps_set (i := 3) sc_law_gcd.nd rfl (by first | exact Or.inl rfl | exact Or.inr rfl) (pe_op op_mod (pe_callTy call_intX (by rfl) (T.free 93) (by decide +kernel) (pa_cons (pv 0) pa_nil)) (pv 1)))
    (pss_cons (ps_set (i := 0) sc_law_gcd.nd rfl (by first | exact Or.inl rfl | exact Or.inr rfl) (pv 1))
    (pss_one (ps_set (i := 1) sc_law_gcd.nd rfl (by first | exact Or.inl rfl | exact Or.inr rfl) (pv 3)))))))
    (pss_one (ps_ret (pv 0)))))), ?_⟩
    refine s_seq (s_asgV (e_cb (ea_cons (e_var rfl) ea_nil) rc_abs) ?_)
    refine s_seq (s_asgV (e_cb (ea_cons (e_var rfl) ea_nil) rc_abs) ?_)
    generalize hA : a.natAbs = A at *
    generalize hB : b.natAbs = Bn at *
    have szA : A < 2 ^ 8000 := by rw [← hA]; exact ha
    have szB : Bn < 2 ^ 8000 := by rw [← hB]; exact hb
    refine s_mid (fun Γ => ∃ y u v, Γ = [.val (.int ((Nat.gcd A Bn : Nat) : Int)), y, u, v]) ?_ fun Γ' hΓ => ?_
    · refine s_for (vs := [2]) (fun i Γ => ∃ (x y : Nat) (u v : S), Γ = [.val (.int (x : Int)), .val (.int (y : Int)), u, v] ∧ Nat.gcd x y = Nat.gcd A Bn ∧ x < 2 ^ 8000 ∧ y < 2 ^ 8000 ∧ (i = 0 → x = A ∧ y = Bn) ∧ (1 ≤ i → y ≤ x ∧ x * y * 2 ^ (i - 1) ≤ A * Bn)) (i_rng1 (ea_cons e_int ea_nil) (by decide)) ⟨A, Bn, .no, .no, rfl, rfl, szA, szB, fun _ => ⟨rfl, rfl⟩, fun z => absurd z (by decide)⟩ (fun i d Γ1 hd iv => ⟨_, g_name, ?_⟩) fun Γ1 iv => ?_
      · obtain ⟨x, y, u, v, rfl, hg, hx, hy, hz, hm⟩ := iv
        by_cases h0 : y = 0
        · refine s_seq (s_ifT (t_imp (t_test (e_op (e_var rfl) e_int ro_eq)) fun b e => e.trans (decide_eq_true (by omega))) (s_brk ?_))
          subst h0
          rw [← hg, Nat.gcd_zero_right]
          exact ⟨_, _, _, rfl⟩
        · have hpos : 0 < y := Nat.pos_of_ne_zero h0
          refine s_seq (s_ifF (t_imp (t_test (e_op (e_var rfl) e_int ro_eq)) fun b e => e.trans (decide_eq_false (by omega))) (s_next ?_))
          refine s_seq (s_asgV (d := .int ((x % y : Nat) : Int)) (Ev.cast (e_op (e_intI (e_var rfl)) (e_var rfl) (ro_mod (by omega))) (by rw [Int.natCast_emod])) ?_)
          refine s_seq (s_asgV (e_var rfl) (s_asgV (e_var rfl) ⟨_, Le.refl _, y, x % y, _, _, rfl, ?_, hy, Nat.lt_trans (Nat.mod_lt _ hpos) hy, (fun z => absurd z (Nat.succ_ne_zero i)), fun _ => ⟨Nat.le_of_lt (Nat.mod_lt _ hpos), ?_⟩⟩))
          · rw [← hg, Nat.gcd_comm x y, Nat.gcd_rec y x, Nat.gcd_comm]
          · rw [Nat.add_sub_cancel]
            by_cases hi : 1 ≤ i
            · obtain ⟨hyx, hp⟩ := hm hi
              have h1 : x % y < y := Nat.mod_lt _ hpos
              have h2 : y + x % y ≤ x := by
                have := Nat.div_add_mod x y
                have hq : 1 ≤ x / y := Nat.div_pos hyx hpos
                have : y * 1 ≤ y * (x / y) := Nat.mul_le_mul_left y hq
                omega
              have h3 : 2 * (y * (x % y)) ≤ x * y := by
                have : y * (x % y + x % y) ≤ y * x := Nat.mul_le_mul_left y (by omega)
                rw [Nat.mul_comm x y]
                rw [Nat.mul_add] at this
                omega
              obtain ⟨j, rfl⟩ : ∃ j, i = j + 1 := ⟨i - 1, by omega⟩
              rw [Nat.add_sub_cancel] at hp
              rw [Nat.pow_succ]
              calc y * (x % y) * (2 ^ j * 2) = 2 * (y * (x % y)) * 2 ^ j := by rw [Nat.mul_comm (2 ^ j) 2, ← Nat.mul_assoc, Nat.mul_comm _ 2]
                _ ≤ x * y * 2 ^ j := Nat.mul_le_mul_right _ h3
                _ ≤ A * Bn := hp
            · have : i = 0 := by omega
              subst this
              obtain ⟨rfl, rfl⟩ := hz rfl
              rw [Nat.pow_zero, Nat.mul_one, Nat.mul_comm x y]
              exact Nat.mul_le_mul_left y (Nat.mod_le _ _)
      · obtain ⟨x, y, u, v, rfl, hg, hx, hy, hz, hm⟩ := iv
        have el : (dints 0 (20000 : Int).toNat).length = 20000 := ints_len
        obtain ⟨hyx, hp⟩ := hm (by rw [el]; decide)
        rw [el] at hp
        have hAB : A * Bn < 2 ^ 16000 := by
          have : A * Bn < 2 ^ 8000 * 2 ^ 8000 := by
            by_cases hb0 : Bn = 0
            · rw [hb0, Nat.mul_zero]; exact Nat.mul_pos (Nat.pow_pos (by decide)) (Nat.pow_pos (by decide))
            · exact Nat.mul_lt_mul'' szA szB
          rwa [← Nat.pow_add] at this
        have h0 : x * y = 0 := by
          refine Nat.eq_zero_of_not_pos fun hpos => ?_
          have h1 : 1 * 2 ^ 19999 ≤ x * y * 2 ^ (20000 - 1) := Nat.mul_le_mul_right _ hpos
          have h2 : 2 ^ 16000 ≤ 2 ^ 19999 := Nat.pow_le_pow_right (by decide) (by decide)
          omega
        have hy0 : y = 0 := by
          rcases Nat.mul_eq_zero.mp h0 with h | h
          · omega
          · exact h
        subst hy0
        rw [← hg, Nat.gcd_zero_right]
        exact ⟨_, _, _, rfl⟩
    · obtain ⟨y, u, v, rfl⟩ := hΓ
      exact s_retV (e_var rfl) rfl
theorem e_lgcd {Γ : List S} {ta tb : TE} {a b : Int} {E : XK} (h1 : Ev K ta Γ (.int a)) (h2 : Ev K tb Γ (.int b)) (ha : Sz 8000 a) (hb : Sz 8000 b) : Ev K (tCall (spV K R_law_gcd) [] E (tCons ta (tCons tb tNil))) Γ (.int ((Nat.gcd a.natAbs b.natAbs : Nat) : Int)) :=
  e_call (ea_cons h1 (ea_cons h2 ea_nil)) ⟨a, b, rfl, ha, hb, rfl⟩

abbrev N_law_ratio : List Str := ["_law_top", "_law_bottom", "_law_share_here"]
theorem sc_law_ratio : FnScope N_law_ratio ["_law_top", "_law_bottom"] (defScope JA.s_law_ratio) := ⟨rfl, rfl, rfl, by decide +kernel, rfl, by decide +kernel, by decide +kernel⟩
def R_law_ratio : List D → D → Prop := fun ds d => ∃ t b : Int, ds = [.int t, .int b] ∧ 0 < b ∧ Sz 8000 t ∧ Sz 8000 b ∧ d = rat (Rat.divInt t b)
theorem c_law_ratio (T : Tx K mg) : Cal P w K mg base 2 "_law_ratio" (spV K R_law_ratio) [] := by
  refine cal_V (T.glo 50) (T.says.1.def_ 50) sc_law_ratio (fun ds d h => ?_) (fun _ _ _ _ _ _ us hl => match us, hl with | [_, _], _ => rfl) fun cdv A outer s H E hRm ds d h => ?_
  · obtain ⟨a, b, rfl, _⟩ := h
    rfl
  · obtain ⟨t, b, rfl, hb, ht, hbs, rfl⟩ := h
    refine ⟨_, (pss_cons (ps_set (i := 2) sc_law_ratio.nd rfl (by first | exact Or.inl rfl | exact Or.inr rfl) (C8.pe_c (c_law_gcd T) hRm (by decide) (by rfl) (pa_cons (pv 0) (pa_cons (pv 1) pa_nil))))
    (pss_one (ps_ret (pe_tup (pa_cons (pe_op op_fdivW (pv 0) (pv 2)) (pa_cons (pe_op op_fdivW (pv 1) (pv 2)) pa_nil)))))), ?_⟩
    obtain ⟨e1, e2⟩ := divInt_eq t b hb
    have hg : 0 < ((Nat.gcd t.natAbs b.natAbs : Nat) : Int) := Int.natCast_pos.mpr (Nat.gcd_pos_of_pos_right _ (by omega))
    have hgs : Sz 8999 ((Nat.gcd t.natAbs b.natAbs : Nat) : Int) := (Sz.le hbs (by rw [Int.natAbs_natCast]; exact Nat.le_of_dvd (by omega) (Nat.gcd_dvd_right _ _))).mono (by decide)
    refine s_seq (s_asgV (e_lgcd (e_var rfl) (e_var rfl) ht hbs) ?_)
    refine s_retV (e_tup (ea_cons (e_op (e_var rfl) (e_var rfl) (ro_div hg hgs)) (ea_cons (e_op (e_var rfl) (e_var rfl) (ro_div hg hgs)) ea_nil)) (of_decide_eq_true rfl)) ?_
    show D.tup [.int _, .int _] = rat _
    rw [e1, e2]
theorem e_lratio {Γ : List S} {ta tb : TE} {t b : Int} {E : XK} (h1 : Ev K ta Γ (.int t)) (h2 : Ev K tb Γ (.int b)) (h0 : 0 < b) (ht : Sz 8000 t) (hb : Sz 8000 b) : Ev K (tCall (spV K R_law_ratio) [] E (tCons ta (tCons tb tNil))) Γ (rat (Rat.divInt t b)) :=
  e_call (ea_cons h1 (ea_cons h2 ea_nil)) ⟨t, b, rfl, h0, ht, hb, rfl⟩
def midR (a b : Rat) : Rat := Rat.divInt (a.num * b.den + b.num * a.den) (2 * a.den * b.den)
abbrev N_law_mid : List Str := ["_law_one", "_law_other"]
theorem sc_law_mid : FnScope N_law_mid ["_law_one", "_law_other"] (defScope JA.s_law_mid) := ⟨rfl, rfl, rfl, by decide +kernel, rfl, by decide +kernel, by decide +kernel⟩
def R_law_mid : List D → D → Prop := fun ds d => ∃ a b : Rat, ds = [rat a, rat b] ∧ Sr 1000 a ∧ Sr 1000 b ∧ d = rat (midR a b)
theorem c_law_mid (T : Tx K mg) : Cal P w K mg base 3 "_law_mid" (spV K R_law_mid) [] := by
  refine cal_V (T.glo 52) (T.says.1.def_ 52) sc_law_mid (fun ds d h => ?_) (fun _ _ _ _ _ _ us hl => match us, hl with | [_, _], _ => rfl) fun cdv A outer s H E hRm ds d h => ?_
  · obtain ⟨a, b, rfl, _⟩ := h
    rfl
  · obtain ⟨a, b, rfl, ha, hb, rfl⟩ := h
    refine ⟨_, (pss_one (ps_ret (C8.pe_c (c_law_ratio T) hRm (by decide) (by rfl) (pa_cons (pe_op op_addX (pe_op op_mulX (pe_ix ix_seq (pv 0) pe_int (fun _ _ => rfl)) (pe_ix ix_seq (pv 1) pe_int (fun _ _ => rfl))) (pe_op op_mulX (pe_ix ix_seq (pv 1) pe_int (fun _ _ => rfl)) (pe_ix ix_seq (pv 0) pe_int (fun _ _ => rfl)))) (pa_cons (pe_op op_mulX (pe_op op_mulX pe_int (pe_ix ix_seq (pv 0) pe_int (fun _ _ => rfl))) (pe_ix ix_seq (pv 1) pe_int (fun _ _ => rfl))) pa_nil))))), ?_⟩
    have s1 : Sz 2001 (a.num * b.den + b.num * a.den) := Sz.add (Sz.mul (a := 1000) ha.1 hb.2) (Sz.mul (a := 1000) hb.1 ha.2)
    have s2 : Sz 2020 (2 * a.den * b.den) := Sz.mul (a := 1020) (Sz.mul (a := 20) (Sz.lit (by decide) (by decide)) ha.2) hb.2
    have pos : (0 : Int) < 2 * a.den * b.den := Int.mul_pos (Int.mul_pos (by decide) (den_pos a)) (den_pos b)
    exact s_retV (e_lratio (e_op (e_op (e_op (e_var rfl) e_int (ro_ix rfl)) (e_op (e_var rfl) e_int (ro_ix rfl)) (ro_mul (ha.1.mono (by decide)) (hb.2.mono (by decide)))) (e_op (e_op (e_var rfl) e_int (ro_ix rfl)) (e_op (e_var rfl) e_int (ro_ix rfl)) (ro_mul (hb.1.mono (by decide)) (ha.2.mono (by decide)))) ro_add) (e_op (e_op e_int (e_op (e_var rfl) e_int (ro_ix rfl)) (ro_mul (Sz.lit (by decide) (by decide)) (ha.2.mono (by decide)))) (e_op (e_var rfl) e_int (ro_ix rfl)) (ro_mul ((Sz.mul (a := 20) (Sz.lit (by decide) (by decide)) ha.2).mono (by decide)) (hb.2.mono (by decide)))) pos (s1.mono (by decide)) (s2.mono (by decide))) rfl
abbrev N_law_is_ratio : List Str := ["_law_thing"]
theorem sc_law_is_ratio : FnScope N_law_is_ratio ["_law_thing"] (defScope JA.s_law_is_ratio) := ⟨rfl, rfl, rfl, by decide +kernel, rfl, by decide +kernel, by decide +kernel⟩
def R_law_is_ratio : List D → D → Prop := fun ds d => ∃ r : Rat, ds = [rat r] ∧ Sr 8000 r ∧ d = .bl true
theorem c_law_is_ratio (T : Tx K mg) : Cal P w K mg base 2 "_law_is_ratio" (spV K R_law_is_ratio) [] := by
  refine cal_V (T.glo 54) (T.says.1.def_ 54) sc_law_is_ratio (fun ds d h => ?_) (fun _ _ _ _ _ _ us hl => match us, hl with | [_], _ => rfl) fun cdv A outer s H E hRm ds d h => ?_
  · obtain ⟨r, rfl, _⟩ := h
    rfl
  · obtain ⟨r, rfl, hr, rfl⟩ := h
    refine ⟨_, (pss_cons (ps_if (PW.pt (pw_or (pt_not (pt_val (pe_callB call_isiX (by rfl) (T.free 94) (by decide +kernel) (pa_cons (pv 0) (pa_cons (pe_bltn (v := .ty "tuple") (by rfl) (T.free 104) (by decide +kernel) rfl) pa_nil))))) (pw_or1 (pt_cmpR (op_neD hRm.units) (pe_callB call_lenX (by rfl) (T.free 95) (by decide +kernel) (pa_cons (pv 0) pa_nil)) pe_int (nomark _))))) (pss_one (ps_ret pe_bl)) pss_nil)
    (pss_cons (ps_if (PW.pt (pw_or (pt_not (pt_val (C8.pe_c (c_law_is_whole T) hRm (by decide) (by rfl) (pa_cons (pe_ix ix_seq (pv 0) pe_int (fun _ _ => rfl)) pa_nil)))) (pw_or (pt_not (pt_val (C8.pe_c (c_law_is_whole T) hRm (by decide) (by rfl) (pa_cons (pe_ix ix_seq (pv 0) pe_int (fun _ _ => rfl)) pa_nil)))) (pw_or1 (pt_cmpR (op_lt) (pe_ix ix_seq (pv 0) pe_int (fun _ _ => rfl)) pe_int (nomark _)))))) (pss_one (ps_ret pe_bl)) pss_nil)
    (pss_one (ps_ret (pe_cmpR (op_eqD hRm.units) (C8.pe_c (c_law_gcd T) hRm (by decide) (by rfl) (pa_cons (pe_ix ix_seq (pv 0) pe_int (fun _ _ => rfl)) (pa_cons (pe_ix ix_seq (pv 0) pe_int (fun _ _ => rfl)) pa_nil))) pe_int (nomark _)))))), ?_⟩
    have hden := den_pos r
    refine s_seq (s_ifF (t_or (a := false) (b := false) (t_not (a := true) (t_B (e_cb (ea_cons (e_var rfl) (ea_cons e_ty ea_nil)) (rc_isi (t := "tuple") rfl (by rfl))))) fun _ => t_test (e_op (e_cb (ea_cons (e_var rfl) ea_nil) (rc_len (n := 2) rfl)) e_int ro_ne)) (s_next ?_))
    refine s_seq (s_ifF (t_or (a := false) (t_not (a := true) (t_B (e_lwhole (x := .int r.num) (e_op (e_var rfl) e_int (ro_ix rfl))))) fun _ => t_or (a := false) (b := false) (t_not (a := true) (t_B (e_lwhole (x := .int r.den) (e_op (e_var rfl) e_int (ro_ix rfl))))) fun _ => t_imp (t_test (e_op (e_op (e_var rfl) e_int (ro_ix rfl)) e_int ro_lt)) fun b e => e.trans (decide_eq_false (by omega))) (s_next ?_))
    refine s_retV (e_op (e_lgcd (e_op (e_var rfl) e_int (ro_ix rfl)) (e_op (e_var rfl) e_int (ro_ix rfl)) hr.1 hr.2) e_int ro_eq) ?_
    have : Nat.gcd r.num.natAbs (r.den : Int).natAbs = 1 := by rw [Int.natAbs_natCast]; exact r.reduced
    show D.bl _ = D.bl true
    rw [this]
    rfl
theorem e_lisr {Γ : List S} {te : TE} {r : Rat} {E : XK} (h : Ev K te Γ (rat r)) (hr : Sr 8000 r) : Ev K (tCall (spV K R_law_is_ratio) [] E (tCons te tNil)) Γ (.bl true) := e_call (ea_cons h ea_nil) ⟨r, rfl, hr, rfl⟩
end
end JD
set_option maxHeartbeats 4000000
namespace JD
open PySem PySem.Spec PyProof.Rows L2
open C8 (Cal Mak)
theorem iteT' {b : Bool} {A B : Prop} (h : b = true) (a : A) : if b = true then A else B := by rw [if_pos h]; exact a
theorem iteF' {b : Bool} {A B : Prop} (h : b = false) (a : B) : if b = true then A else B := by rw [if_neg (by rw [h]; decide)]; exact a
theorem two_parts {ts tu : TS} {D : Ends} {σ : L2.St} {H : Hp} (J : L2.St → Hp → Prop) (h2 : ∀ σ' H', J σ' H' → tu D σ' H') (h1 : (∀ σ' H', J σ' H' → tu D σ' H') → ts { D with nx := tu D } σ H) : tSeq ts tu D σ H := h1 h2
section
variable {P : Program} {w : World} {K : PySem.W.Frag} {mg : Str → Option Value} {base : Heap}
abbrev N_law_draw : List Str := ["_law_hand_here", "_law_many", "_law_cell", "_law_rest"]
theorem sc_law_draw : FnScope N_law_draw ["_law_hand_here", "_law_many"] (defScope JA.s_law_draw) := ⟨rfl, rfl, rfl, by decide +kernel, rfl, by decide +kernel, by decide +kernel⟩
def R_law_draw : List D → (D → Prop) → Prop := fun ds Φ => ∃ m : Int, ds = [.int m] ∧ 0 < m ∧ Sz 8999 m ∧ Φ = fun d => ∃ i : Int, d = .int i ∧ 0 ≤ i ∧ i < m
theorem c_law_draw (T : Tx K mg) : Cal P w K mg base 2 "_law_draw" (spH K R_law_draw) [] := by
  obtain ⟨fd, F⟩ := T.says.1.def_ 47
  refine ⟨_, fd, ["_law_hand_here", "_law_many"], [], F.ok sc_law_draw (fun vs H Q E h => ?_) (fun cdv A outer s H vs Q E hRm h => ?_), T.glo 47, F.kp, F.bindsN fun _ _ _ _ _ _ us hl => match us, hl with | [_, _], _ => rfl, .nil⟩
  · obtain ⟨h, B, ws, ds, Φ, ⟨m, rfl, _⟩, rfl, r, _⟩ := h
    rw [List.length_cons, r.length]
    rfl
  · obtain ⟨h, B, ws, ds, Φ, ⟨m, rfl, hm, hs, rfl⟩, rfl, r, ss, hh, q⟩ := h
    cases r with
    | cons r1 t1 =>
    cases t1
    have r1' := r1.ofInt
    subst r1'
    refine ⟨_, PSs.nox (pss_cons (ps_if (PW.pt (pw_and (pt_cmpR (op_eqD hRm.units) (pe_ix ix_seq (pv 0) pe_int (fun _ _ => rfl)) pe_int (nomark _)) (pw_and1 (pt_cmpR (op_lt) (pe_ix ix_seq (pv 0) pe_int (fun _ _ => rfl)) (pe_callB call_lenX (by rfl) (T.free 95) (by decide +kernel) (pa_cons (pe_ix ix_seq (pv 0) pe_int (fun _ _ => rfl)) pa_nil)) (nomark _))))) (pss_cons (ps_set (i := 2) sc_law_draw.nd rfl (by first | exact Or.inl rfl | exact Or.inr rfl) (pe_ix ix_seq (pe_ix ix_seq (pv 0) pe_int (fun _ _ => rfl)) (pe_ix ix_seq (pv 0) pe_int (fun _ _ => rfl)) (fun _ _ => rfl)))
    (pss_cons (ps_asg (pe_op op_addX (pe_ix ix_seq (pv 0) pe_int (fun _ _ => rfl)) pe_int) (pg_sub (pv 0) pe_int set_list))
    (pss_cons (ps_if (pt_cmpR (op_lt) (pv 2) (pe_op op_pow pe_int pe_int) (nomark _)) (pss_one (ps_ret (pe_op op_mod (pe_callTy call_intX (by rfl) (T.free 93) (by decide +kernel) (pa_cons (C8.pe_c (c_law_mix T) hRm (by decide) (by rfl) (pa_cons (pe_op op_mod (pe_callTy call_intX (by rfl) (T.free 93) (by decide +kernel) (pa_cons (pv 2) pa_nil)) pe_int) (pa_cons (pe_ix ix_seq (pv 0) pe_int (fun _ _ => rfl)) pa_nil))) pa_nil)) (pv 1)))) pss_nil)
    (pss_one (ps_asg (pv 2) (pg_sub (pv 0) pe_int set_list)))))) pss_nil)
    (pss_cons (ps_if (pt_cmpR (op_gt) (pe_ix ix_seq (pv 0) pe_int (fun _ _ => rfl)) pe_int (nomark _)) (pss_cons (ps_set (i := 3) sc_law_draw.nd rfl (by first | exact Or.inl rfl | exact Or.inr rfl) (pe_ix ix_seq (pv 0) pe_int (fun _ _ => rfl)))
    (pss_cons (ps_asg (pe_op op_fdivW (pe_callTy call_intX (by rfl) (T.free 93) (by decide +kernel) (pa_cons (pv 3) pa_nil)) (pv 1)) (pg_sub (pv 0) pe_int set_list))
    (pss_one (ps_ret (pe_op op_mod (pe_callTy call_intX (by rfl) (T.free 93) (by decide +kernel) (pa_cons (pv 3) pa_nil)) (pv 1)))))) pss_nil)
    (pss_cons (ps_asg (pe_op op_mod (pe_callTy call_intX (by rfl) (T.free 93) (by decide +kernel) (pa_cons (pe_op op_addX (pe_ix ix_seq (pv 0) pe_int (fun _ _ => rfl)) pe_int) pa_nil)) pe_int) (pg_sub (pv 0) pe_int set_list))
    (pss_one (ps_ret (pe_op op_mod (pe_callTy call_intX (by rfl) (T.free 93) (by decide +kernel) (pa_cons (C8.pe_c (c_law_mix T) hRm (by decide) (by rfl) (pa_cons (pe_ix ix_seq (pv 0) pe_int (fun _ _ => rfl)) (pa_cons (pe_ix ix_seq (pv 0) pe_int (fun _ _ => rfl)) pa_nil))) pa_nil)) (pv 1))))))), ?_⟩
    obtain ⟨hBl, hBc, hcell, hlen, pos, rest, tot, hH, ⟨hp0, hp63⟩, hr0, ht0⟩ := hh h rfl
    have hcl : h.c ≠ h.l := fun z => by rw [z, hBl] at hBc; cases hBc
    -- a hand changed
    have jset : ∀ {B' H' : Hp} {p r t p' r' t' : Int}, Go (some h) B H B' H' → H' h.l = some (.lst [.ref h.c, .int p, .int r, .int t]) → (0 ≤ p' ∧ p' ≤ 63) → 0 ≤ r' → 0 ≤ t' → Go (some h) B H B' (upd H' h.l (.lst [.ref h.c, .int p', .int r', .int t'])) := fun {B' H' p r t p' r' t'} g e k1 k2 k3 => by
      obtain ⟨b1, b2, b3, b4, _⟩ := g.hand h rfl
      refine ⟨g.ext, fun b o eb => ?_, fun a o tt ea n c => ?_, fun a xs ea => ?_, fun z ez => ?_⟩
      · rw [upd_ne (ne_of_none eb b1)]
        exact g.sub _ _ eb
      · obtain ⟨q1, q2⟩ := g.keep a o tt ea n c
        rw [upd_ne (c h rfl)]
        exact ⟨q1, q2⟩
      · have := g.tups a xs ea
        have hne : a ≠ h.l := fun z => by rw [z, e] at this; cases this
        rw [upd_ne hne]
        exact this
      · cases Option.some.inj ez
        exact ⟨b1, b2, b3, b4, p', r', t', upd_same, k1, k2, k3⟩
    have hread : ∀ {σ : L2.St} {H' : Hp} {p r t : Int} {j : Int} {v : V} {Q : VK}, σ[0]? = some (some (.ref h.l)) → H' h.l = some (.lst [.ref h.c, .int p, .int r, .int t]) → atI [V.ref h.c, .int p, .int r, .int t] j = some v → Q v H' → tOp (rIx K) (tVar 0) (tC (.int j)) σ H' Q := fun {σ H' p r t j v Q} h1 h2 h3 h4 => ⟨.ref h.l, h1, .inl ⟨h.l, _, j, v, rfl, rfl, .inl (.inl h2), h3, h4⟩⟩
    have hset : ∀ {σ : L2.St} {H' : Hp} {p r t : Int} {j : Int} {n : Nat} {v : V} {Q : L2.St → Hp → Prop}, σ[0]? = some (some (.ref h.l)) → H' h.l = some (.lst [.ref h.c, .int p, .int r, .int t]) → ixN 4 j = some n → Q σ (upd H' h.l (.lst ([V.ref h.c, .int p, .int r, .int t].set n v))) → gSub (tVar 0) (tC (.int j)) rSetL v σ H' Q := fun {σ H' p r t j n v Q} h1 h2 h3 h4 => ⟨.ref h.l, h1, h.l, _, j, n, rfl, rfl, h2, h3, h4⟩
    have kq : ∀ B2 H2 i, Go (some h) B H B2 H2 → 0 ≤ i → i < m → Q (.int i) H2 := fun B2 H2 i g h0 h1 => q B2 H2 (.int i) (.int i) g (.int i) ⟨i, rfl, h0, h1⟩
    have fmix : ∀ {σ : L2.St} {B' H' : Hp} {p r t : Int} {n u : Int} {ta : TA} {D : Ends} {E' : XK}, Go (some h) B H B' H' → σ[1]? = some (some (.int m)) → H' h.l = some (.lst [.ref h.c, .int p, .int r, .int t]) → Sz 100 n → Sz 100 u → (∀ Q, Q [.int n, .int u] H' → ta σ H' Q) →
        D.rt = Q → tRet (tOp (rI (fun _ j => 0 < j) fun i j => .int (i % j)) (tCB rIntX (tCons (tCall (spV K R_law_mix) [] E' ta) tNil)) (tVar 1)) D σ H' := fun {σ B' H' p r t n u ta D E'} g h1 h2 sn su hta k => by
      refine hta _ ⟨B', [.int n, .int u], .int (mixI n u), ⟨n, u, rfl, sn, su, rfl⟩, .cons (.int _) (.cons (.int _) .nil), g.sub, fun B2 H2 v g2 rv => ?_⟩
      have ev := rv.ofInt
      subst ev
      refine .inl ⟨mixI n u, rfl, .int m, h1, mixI n u, m, rfl, rfl, hm, ?_⟩
      show D.rt _ _
      rw [k]
      exact kq B2 H2 _ (g.trans (g2.up g.hand)) (Int.emod_nonneg _ (by omega)) (Int.emod_lt_of_pos _ hm)
    have g0 : Go (some h) B H B H := Go.refl ss hh
    have szp : ∀ {x : Int}, 0 ≤ x → x ≤ 1000 → Sz 100 x := fun a b => Sz.lit (by omega) (by decide)
    have szm : ∀ {x : Int}, Sz 100 (x % 2147483647) ∧ Sz 100 (x % 2147483629) := ⟨(mod_sz (by decide) (by decide)).mono (by decide), (mod_sz (by decide) (by decide)).mono (by decide)⟩
    refine two_parts (fun σ' H' => σ'[0]? = some (some (.ref h.l)) ∧ σ'[1]? = some (some (.int m)) ∧ σ'.length = 4 ∧ ∃ B' p r t, Go (some h) B H B' H' ∧ H' h.l = some (.lst [.ref h.c, .int p, .int r, .int t]) ∧ (0 ≤ p ∧ p ≤ 63) ∧ 0 ≤ r ∧ 0 ≤ t) (fun σ' H' jj => ?_) (fun key => ?_)
    · obtain ⟨k0, k1, kl, B', p, r, t, g, e, hp, hr, ht⟩ := jj
      refine two_parts (fun σ' H' => σ'[0]? = some (some (.ref h.l)) ∧ σ'[1]? = some (some (.int m)) ∧ σ'.length = 4 ∧ ∃ B' p r t, Go (some h) B H B' H' ∧ H' h.l = some (.lst [.ref h.c, .int p, .int r, .int t]) ∧ (0 ≤ p ∧ p ≤ 63) ∧ 0 ≤ r ∧ 0 ≤ t) (fun σ2 H2 jj => ?_) (fun key => ?_)
      · obtain ⟨k0, k1, kl, B', p, r, t, g, e, hp, hr, ht⟩ := jj
        -- hand[3] = int(hand[3] + 1) % M; return ..
        refine hread (j := 3) (v := .int t) k0 e rfl ?_
        refine .inl ⟨t, 1, rfl, rfl, .inl ⟨t + 1, rfl, t + 1, 2147483629, rfl, rfl, (show (0 : Int) < 2147483629 by decide), ?_⟩⟩
        have h3 : 0 ≤ (t + 1) % 2147483629 := Int.emod_nonneg _ (by decide)
        refine hset (n := 3) k0 e rfl ?_
        have g3 := jset g e hp hr h3
        refine fmix (D := { nx := fun _ H' => Q .non H', rt := Q }) (E' := C8.E0) (ta := tCons (tOp (rIx K) (tVar 0) (tC (.int 3))) (tCons (tOp (rIx K) (tVar 0) (tC (.int 1))) tNil)) (n := (t + 1) % 2147483629) (u := p) g3 k1 upd_same szm.2 (szp hp.1 (by omega)) (fun Q' q' => ?_) rfl
        exact hread (j := 3) (v := .int ((t + 1) % 2147483629)) k0 upd_same rfl (hread (j := 1) (v := .int p) k0 upd_same rfl q')
      · -- if hand[2] > 0
        refine hread (j := 2) (v := .int r) k0 e rfl ⟨r, 0, rfl, rfl, _, rfl, ?_⟩
        by_cases c : 0 < r
        · refine iteT' (decide_eq_true c) ?_
          refine hread (j := 2) (v := .int r) k0 e rfl ?_
          have q0 : (σ'.set 3 (some (V.int r)))[0]? = some (some (.ref h.l)) := by rw [List.getElem?_set_ne (by decide)]; exact k0
          have q1 : (σ'.set 3 (some (V.int r)))[1]? = some (some (.int m)) := by rw [List.getElem?_set_ne (by decide)]; exact k1
          have q3 : (σ'.set 3 (some (V.int r)))[3]? = some (some (.int r)) := by rw [List.getElem?_set_self (by omega)]
          have hd0 : 0 ≤ r / m := Int.ediv_nonneg hr (by omega)
          refine ⟨.int r, q3, .inl ⟨r, rfl, .int m, q1, r, m, rfl, rfl, wide_div hm hs (by decide) (by decide), ?_⟩⟩
          refine hset (n := 2) q0 e rfl ?_
          refine ⟨.int r, q3, .inl ⟨r, rfl, .int m, q1, r, m, rfl, rfl, hm, ?_⟩⟩
          exact kq _ _ _ (jset g e hp hd0 ht) (Int.emod_nonneg _ (by omega)) (Int.emod_lt_of_pos _ hm)
        · refine iteF' (decide_eq_false c) ?_
          exact key _ _ ⟨k0, k1, kl, B', p, r, t, g, e, hp, hr, ht⟩
    · -- if hand[2] == 0 and hand[1] < len(hand[0])
      have z0 : (L2.start N_law_draw [V.ref h.l, .int m])[0]? = some (some (.ref h.l)) := rfl
      have z1 : (L2.start N_law_draw [V.ref h.l, .int m])[1]? = some (some (.int m)) := rfl
      have jj0 : ∃ B' p r t, Go (some h) B H B' H ∧ H h.l = some (.lst [.ref h.c, .int p, .int r, .int t]) ∧ (0 ≤ p ∧ p ≤ 63) ∧ 0 ≤ r ∧ 0 ≤ t := ⟨B, pos, rest, tot, g0, hH, ⟨hp0, hp63⟩, hr0, ht0⟩
      have hc : SqL K H h.c (h.cells.map V.int) := .inl (.inl (ss _ _ hBc))
      have sh : ∀ x : Int, SeqAt.shaped (PyData.int x) = true := fun x => shp_shaped (n := 1) (d := .int x) (by simp [D.shp]) (by decide)
      refine hread (j := 2) (v := .int rest) z0 hH rfl ⟨.int rest, .int 0, .int _, .int _, sh _, sh _, _, rfl, ?_⟩
      cases c1 : PyData.eqv (.int rest) (.int 0) with
      | false => exact iteF' rfl (iteF' rfl (key _ _ ⟨z0, z1, rfl, jj0⟩))
      | true =>
        refine iteT' rfl ?_
        refine hread (j := 1) (v := .int pos) z0 hH rfl (hread (j := 0) (v := .ref h.c) z0 hH rfl ⟨h.c, _, rfl, .inl hc, pos, _, rfl, rfl, _, rfl, ?_⟩)
        by_cases c2 : pos < ((h.cells.map V.int).length : Int)
        · refine iteT' (decide_eq_true c2) ?_
          have hlt : pos.toNat < h.cells.length := by rw [List.length_map] at c2; omega
          have hat : atI (h.cells.map V.int) pos = some (.int h.cells[pos.toNat]) := by
            unfold atI
            rw [ixN_pos hp0 c2]
            show (h.cells.map V.int)[pos.toNat]? = _
            rw [List.getElem?_map, List.getElem?_eq_getElem hlt]
            rfl
          have hnn : 0 ≤ h.cells[pos.toNat] := hcell _ (List.getElem_mem hlt)
          generalize h.cells[pos.toNat] = cell at *
          -- cell = hand[0][hand[1]]
          refine hread (j := 0) (v := .ref h.c) z0 hH rfl (hread (j := 1) (v := .int pos) z0 hH rfl (.inl ⟨h.c, _, pos, .int cell, rfl, rfl, hc, hat, ?_⟩))
          -- hand[1] = hand[1] + 1
          refine hread (j := 1) (v := .int pos) z0 hH rfl ?_
          refine .inl ⟨pos, 1, rfl, rfl, ?_⟩
          refine hset (n := 1) z0 hH rfl ?_
          have hp1 : 0 ≤ pos + 1 ∧ pos + 1 ≤ 63 := by rw [List.length_map] at c2; omega
          have g1 := jset g0 hH hp1 hr0 ht0
          have y0 : ((L2.start N_law_draw [V.ref h.l, .int m]).set 2 (some (.int cell)))[0]? = some (some (.ref h.l)) := rfl
          have y1 : ((L2.start N_law_draw [V.ref h.l, .int m]).set 2 (some (.int cell)))[1]? = some (some (.int m)) := rfl
          have y2 : ((L2.start N_law_draw [V.ref h.l, .int m]).set 2 (some (.int cell)))[2]? = some (some (.int cell)) := rfl
          have e1 : (upd H h.l (.lst [.ref h.c, .int (pos + 1), .int rest, .int tot])) h.l = some (.lst [.ref h.c, .int (pos + 1), .int rest, .int tot]) := upd_same
          -- if cell < 10 ** 18
          refine ⟨.int cell, y2, 10, 18, rfl, rfl, ⟨by decide +kernel, by decide +kernel, by decide +kernel⟩, cell, _, rfl, rfl, _, rfl, ?_⟩
          by_cases c3 : cell < (10 : Int) ^ (18 : Int).toNat
          · refine iteT' (decide_eq_true c3) ?_
            refine fmix (D := { nx := fun _ H' => Q .non H', rt := Q }) (E' := C8.E0) (ta := tCons (tOp (rI (fun _ j => 0 < j) fun i j => .int (i % j)) (tCB rIntX (tCons (tVar 2) tNil)) (tC (.int 2147483647))) (tCons (tOp (rIx K) (tVar 0) (tC (.int 1))) tNil)) (n := cell % 2147483647) (u := pos + 1) g1 y1 e1 szm.1 (szp hp1.1 (by omega)) (fun Q' q' => ?_) rfl
            refine ⟨.int cell, y2, .inl ⟨cell, rfl, cell, 2147483647, rfl, rfl, (show (0 : Int) < 2147483647 by decide), ?_⟩⟩
            exact hread (j := 1) (v := .int (pos + 1)) y0 e1 rfl q'
          · refine iteF' (decide_eq_false c3) ?_
            -- hand[2] = cell
            refine ⟨.int cell, y2, hset (n := 2) y0 e1 rfl ?_⟩
            exact key _ _ ⟨y0, y1, rfl, B, pos + 1, cell, tot, jset g1 e1 hp1 hnn ht0, upd_same, hp1, hnn, ht0⟩
        · exact iteF' (decide_eq_false c2) (key _ _ ⟨z0, z1, rfl, jj0⟩)
theorem e_draw {Γ : List S} {te : TE} {i : Nat} {m : Int} {E : XK} (hi : Γ[i]? = some .hand) (h : Ev K te Γ (.int m)) (hm : 0 < m) (hs : Sz 8999 m) : Ee K (tCall (spH K R_law_draw) [] E (tCons (tVar i) (tCons te tNil))) Γ fun d => ∃ j : Int, d = .int j ∧ 0 ≤ j ∧ j < m :=
  e_callH hi (ea_cons h ea_nil) ⟨m, rfl, hm, hs, rfl⟩
abbrev N_law_pick : List Str := ["_law_hand_here", "_law_things"]
theorem sc_law_pick : FnScope N_law_pick ["_law_hand_here", "_law_things"] (defScope JA.s_law_pick) := ⟨rfl, rfl, rfl, by decide +kernel, rfl, by decide +kernel, by decide +kernel⟩
def R_law_pick : List D → (D → Prop) → Prop := fun ds Φ => ∃ (x : D) (es : List D), ds = [x] ∧ x.items = some es ∧ es ≠ [] ∧ es.length ≤ 100000 ∧ Φ = fun d => d ∈ es
theorem c_law_pick (T : Tx K mg) : Cal P w K mg base 3 "_law_pick" (spH K R_law_pick) [] := by
  refine cal_H (T.glo 48) (T.says.1.def_ 48) sc_law_pick (fun ds d h => ?_) (fun _ _ _ _ _ _ us hl => match us, hl with | [_, _], _ => rfl) fun cdv A outer s H E hRm ds Φ h => ?_
  · obtain ⟨x, es, rfl, _⟩ := h
    rfl
  · obtain ⟨x, es, rfl, hx, hne, hl, rfl⟩ := h
    refine ⟨_, (pss_one (ps_ret (pe_ix ix_seq (pv 1) (C8.pe_c (c_law_draw T) hRm (by decide) (by rfl) (pa_cons (pv 0) (pa_cons (pe_callB call_lenX (by rfl) (T.free 95) (by decide +kernel) (pa_cons (pv 1) pa_nil)) pa_nil))) (fun _ _ => rfl)))), ?_⟩
    have hpos : 0 < es.length := List.length_pos_iff.mpr hne
    refine s_ret (e_op2 (e_var (i := 1) rfl) (Φb := fun _ d => ∃ j : Int, d = .int j ∧ 0 ≤ j ∧ j < (es.length : Int)) (fun _ _ => e_draw rfl (e_cb (ea_cons (e_var rfl) ea_nil) (rc_len (len_items hx))) (by omega) (Sz.lit (by omega) (by decide))) (Φ := fun d => d ∈ es) fun a b ea eb => ?_) fun d hd => hd
    obtain ⟨j, rfl, h0, h1⟩ := eb
    subst ea
    have hlt : j.toNat < es.length := by omega
    have hat : a.at j = some es[j.toNat] := by
      have := at_items (j := j.toNat) hx (List.getElem?_eq_getElem hlt)
      rw [show ((j.toNat : Nat) : Int) = j by omega] at this
      exact this
    exact fun B H v w Q s r1 r2 k => ro_ix hat B H v w Q s r1 r2 fun B' H' u z g r e => k B' H' u z g r (by rw [e]; exact List.getElem_mem hlt)
theorem e_pick {Γ : List S} {te : TE} {i : Nat} {x : D} {es : List D} {E : XK} (hi : Γ[i]? = some .hand) (h : Ev K te Γ x) (hx : x.items = some es) (hne : es ≠ []) (hl : es.length ≤ 100000) : Ee K (tCall (spH K R_law_pick) [] E (tCons (tVar i) (tCons te tNil))) Γ fun d => d ∈ es :=
  e_callH hi (ea_cons h ea_nil) ⟨x, es, rfl, hx, hne, hl, rfl⟩
/-- 1 + a draw -/
theorem e_draw1 {Γ : List S} {te : TE} {i : Nat} {m : Int} {E : XK} (hi : Γ[i]? = some .hand) (h : Ev K te Γ (.int m)) (hm : 0 < m) (hs : Sz 8999 m) : Ee K (tOp (rAddX K) (tC (.int 1)) (tCall (spH K R_law_draw) [] E (tCons (tVar i) (tCons te tNil)))) Γ fun d => ∃ j : Int, d = .int j ∧ 1 ≤ j ∧ j ≤ m :=
  e_op2 (Φa := fun d => d = .int 1) (Φb := fun _ d => ∃ j : Int, d = .int j ∧ 0 ≤ j ∧ j < m) e_int (fun _ _ => e_draw hi h hm hs) fun a b ea eb => by
    obtain ⟨j, rfl, h0, h1⟩ := eb
    subst ea
    exact fun B H v w Q s r1 r2 k => ro_add B H v w Q s r1 r2 fun B' H' u z g r e => k B' H' u z g r ⟨1 + j, e, by omega, by omega⟩
def ShareP : D → Prop := fun d => ∃ r : Rat, d = rat r ∧ Sr 120 r ∧ 0 < r ∧ r ≤ 1
theorem share_ok {t b : Int} (h0 : 1 ≤ t) (h1 : t ≤ b) (hb : Sz 120 b) : Sr 120 (Rat.divInt t b) ∧ 0 < Rat.divInt t b ∧ Rat.divInt t b ≤ 1 := by
  obtain ⟨e1, e2⟩ := divInt_eq t b (by omega)
  have hg : 0 < ((Nat.gcd t.natAbs b.natAbs : Nat) : Int) := Int.natCast_pos.mpr (Nat.gcd_pos_of_pos_right _ (by omega))
  have hd : ((Nat.gcd t.natAbs b.natAbs : Nat) : Int) ∣ t := by
    rw [← Int.dvd_natAbs, Int.ofNat_dvd]
    exact Nat.gcd_dvd_left _ _
  refine ⟨Sr.divInt (hb.le (by omega)) hb (by omega), ?_, ?_⟩
  · rw [Rat.lt_iff]
    show 0 * ((Rat.divInt t b).den : Int) < (Rat.divInt t b).num * 1
    rw [Int.zero_mul, Int.mul_one, ← e1]
    exact Int.ediv_pos_of_pos_of_dvd (by omega) (by omega) hd
  · rw [Rat.le_iff]
    show (Rat.divInt t b).num * 1 ≤ 1 * ((Rat.divInt t b).den : Int)
    rw [Int.mul_one, Int.one_mul, ← e1, ← e2]
    exact Int.ediv_le_ediv hg h1
theorem e_lratioE {Γ : List S} {ta tb : TE} {b : Int} {E : XK} (h1 : Ee K ta Γ fun d => ∃ j : Int, d = .int j ∧ 1 ≤ j ∧ j ≤ b) (h2 : Ev K tb Γ (.int b)) (hb : Sz 120 b) : Ee K (tCall (spV K R_law_ratio) [] E (tCons ta (tCons tb tNil))) Γ ShareP :=
  e_callE (dds := []) (ea_cons2 (Φb := fun _ z => z = [.int b]) h1 fun _ _ => ea_cons h2 ea_nil) (fun _ => .nil) fun zs p => by
    obtain ⟨x, xs, rfl, ⟨j, rfl, j1, j2⟩, rfl⟩ := p
    obtain ⟨k1, k2, k3⟩ := share_ok j1 j2 hb
    refine ⟨rat (Rat.divInt j b), ?_, _, rfl, k1, k2, k3⟩
    rw [List.append_nil]
    exact ⟨j, b, rfl, by omega, (hb.le (by omega)).mono (by decide), hb.mono (by decide), rfl⟩
theorem cshare {t b : Int} {r : Rat} (h : r = Rat.divInt t b) (h0 : 1 ≤ t) (h1 : t ≤ b) (h2 : b ≤ 1000) : ShareP (rat r) := by
  obtain ⟨k1, k2, k3⟩ := share_ok h0 h1 (Sz.lit (by omega) (by decide))
  exact ⟨r, rfl, h ▸ k1, h ▸ k2, h ▸ k3⟩
abbrev N_law_share : List Str := ["_law_hand_here", "_law_manner", "_law_low"]
theorem sc_law_share : FnScope N_law_share ["_law_hand_here"] (defScope JA.s_law_share) := ⟨rfl, rfl, rfl, by decide +kernel, rfl, by decide +kernel, by decide +kernel⟩
def R_law_share : List D → (D → Prop) → Prop := fun ds Φ => ds = [] ∧ Φ = ShareP
theorem c_law_share (T : Tx K mg) : Cal P w K mg base 4 "_law_share" (spH K R_law_share) [] := by
  refine cal_H (T.glo 55) (T.says.1.def_ 55) sc_law_share (fun ds d h => ?_) (fun _ _ _ _ _ _ us hl => match us, hl with | [_], _ => rfl) fun cdv A outer s H E hRm ds Φ h => ?_
  · obtain ⟨rfl, _⟩ := h
    rfl
  · obtain ⟨rfl, rfl⟩ := h
    refine ⟨_, (pss_cons (ps_set (i := 1) sc_law_share.nd rfl (by first | exact Or.inl rfl | exact Or.inr rfl) (C8.pe_c (c_law_draw T) hRm (by decide) (by rfl) (pa_cons (pv 0) (pa_cons pe_int pa_nil))))
    (pss_cons (ps_if (pt_cmpR (op_eqD hRm.units) (pv 1) pe_int (nomark _)) (pss_cons (ps_set (i := 2) sc_law_share.nd rfl (by first | exact Or.inl rfl | exact Or.inr rfl) (pe_op op_addX pe_int (C8.pe_c (c_law_draw T) hRm (by decide) (by rfl) (pa_cons (pv 0) (pa_cons (pe_op op_pow pe_int pe_int) pa_nil)))))
    (pss_one (ps_ret (C8.pe_c (c_law_ratio T) hRm (by decide) (by rfl) (pa_cons (pe_op op_addX pe_int (C8.pe_c (c_law_draw T) hRm (by decide) (by rfl) (pa_cons (pv 0) (pa_cons (pv 2) pa_nil)))) (pa_cons (pv 2) pa_nil)))))) pss_nil)
    (pss_cons (ps_if (pt_cmpR (op_lt) (pv 1) pe_int (nomark _)) (pss_cons (ps_set (i := 2) sc_law_share.nd rfl (by first | exact Or.inl rfl | exact Or.inr rfl) (pe_op op_addX pe_int (C8.pe_c (c_law_draw T) hRm (by decide) (by rfl) (pa_cons (pv 0) (pa_cons pe_int pa_nil)))))
    (pss_one (ps_ret (C8.pe_c (c_law_ratio T) hRm (by decide) (by rfl) (pa_cons (pe_op op_addX pe_int (C8.pe_c (c_law_draw T) hRm (by decide) (by rfl) (pa_cons (pv 0) (pa_cons (pv 2) pa_nil)))) (pa_cons (pv 2) pa_nil)))))) pss_nil)
    (pss_one (ps_ret (C8.pe_c (c_law_pick T) hRm (by decide) (by rfl) (pa_cons (pv 0) (pa_cons (pe_lst (pa_cons (pe_tup (pa_cons pe_int (pa_cons pe_int pa_nil))) (pa_cons (pe_tup (pa_cons pe_int (pa_cons pe_int pa_nil))) (pa_cons (pe_tup (pa_cons pe_int (pa_cons pe_int pa_nil))) (pa_cons (pe_tup (pa_cons pe_int (pa_cons pe_int pa_nil))) (pa_cons (pe_tup (pa_cons pe_int (pa_cons pe_int pa_nil))) pa_nil)))))) pa_nil)))))))), ?_⟩
    have e30 : ∀ {Γ : List S}, Ev K (tOp (rI CPow fun i j => .int (i ^ j.toNat)) (tC (.int 10)) (tC (.int 30))) Γ (.int (10 ^ 30)) := e_op e_int e_int (ro_I ⟨by decide, by decide, by decide⟩ fun _ => .int _)
    refine s_seq (s_asg (e_draw rfl e_int (by decide) (Sz.lit (by decide) (by decide))) fun d hd => ?_)
    obtain ⟨j, rfl, h0, h1⟩ := hd
    refine s_seq (s_ifB (t_test (e_op (e_var rfl) e_int ro_eq)) (fun c => ?_) fun c => s_next ?_)
    · refine s_seq (s_asg (e_draw1 rfl e30 (by decide) (show (10 ^ 30 : Int).natAbs < 2 ^ 8999 from Nat.lt_of_lt_of_le (by decide : (10 ^ 30 : Int).natAbs < 2 ^ 100) (Nat.pow_le_pow_right (by decide) (by decide)))) fun d hd => ?_)
      obtain ⟨b, rfl, b0, b1⟩ := hd
      have hb : Sz 120 b := (Sz.le (a := 100) (j := 10 ^ 30) (by show (10 ^ 30 : Int).natAbs < 2 ^ 100; decide) (by omega)).mono (by decide)
      exact s_ret (e_lratioE (e_draw1 rfl (e_var rfl) (by omega) (hb.mono (by decide))) (e_var rfl) hb) fun d hd => hd
    refine s_seq (s_ifB (t_test (e_op (e_var rfl) e_int ro_lt)) (fun c => ?_) fun c => s_next ?_)
    · refine s_seq (s_asg (e_draw1 rfl e_int (by decide) (Sz.lit (by decide) (by decide))) fun d hd => ?_)
      obtain ⟨b, rfl, b0, b1⟩ := hd
      have hb : Sz 120 b := Sz.lit (by omega) (by decide)
      exact s_ret (e_lratioE (e_draw1 rfl (e_var rfl) (by omega) (hb.mono (by decide))) (e_var rfl) hb) fun d hd => hd
    have e2 : ∀ {Γ : List S} {t b : Int}, Ev K (tTup (tCons (tC (.int t)) (tCons (tC (.int b)) tNil))) Γ (.tup [.int t, .int b]) := e_tup (ea_cons e_int (ea_cons e_int ea_nil)) (of_decide_eq_true rfl)
    refine s_ret (e_imp (e_pick (es := [.tup [.int 1, .int 1], .tup [.int 1, .int 2], .tup [.int 1, .int 3], .tup [.int 2, .int 3], .tup [.int 1, .int 1]]) rfl (e_lst (ea_cons e2 (ea_cons e2 (ea_cons e2 (ea_cons e2 (ea_cons e2 ea_nil))))) (of_decide_eq_true rfl)) rfl (by simp) (by decide)) fun d hd => ?_) fun d hd => hd
    have r11 : ShareP (.tup [.int 1, .int 1]) := cshare (r := mkRat 1 1) (t := 1) (b := 1) rfl (by decide) (by decide) (by decide)
    have r12 : ShareP (.tup [.int 1, .int 2]) := half_rat ▸ cshare (r := mkRat 1 2) (t := 1) (b := 2) rfl (by decide) (by decide) (by decide)
    have e13 : D.tup [.int 1, .int 3] = rat (mkRat 1 3) := by
      show _ = D.tup [.int (mkRat 1 3).num, .int ((mkRat 1 3).den : Int)]
      have h : (mkRat 1 3).num = 1 ∧ (mkRat 1 3).den = 3 := by decide +kernel
      rw [h.1, h.2]
      rfl
    have e23 : D.tup [.int 2, .int 3] = rat (mkRat 2 3) := by
      show _ = D.tup [.int (mkRat 2 3).num, .int ((mkRat 2 3).den : Int)]
      have h : (mkRat 2 3).num = 2 ∧ (mkRat 2 3).den = 3 := by decide +kernel
      rw [h.1, h.2]
      rfl
    have r13 : ShareP (.tup [.int 1, .int 3]) := e13 ▸ cshare (r := mkRat 1 3) (t := 1) (b := 3) rfl (by decide) (by decide) (by decide)
    have r23 : ShareP (.tup [.int 2, .int 3]) := e23 ▸ cshare (r := mkRat 2 3) (t := 2) (b := 3) rfl (by decide) (by decide) (by decide)
    simp only [List.mem_cons, List.not_mem_nil, or_false] at hd
    rcases hd with rfl | rfl | rfl | rfl | rfl
    · exact r11
    · exact r12
    · exact r13
    · exact r23
    · exact r11
abbrev N_law_counts : List Str := ["_law_hand_here", "_law_most", "_law_total", "_law_shorts"]
theorem sc_law_counts : FnScope N_law_counts ["_law_hand_here", "_law_most"] (defScope JA.s_law_counts) := ⟨rfl, rfl, rfl, by decide +kernel, rfl, by decide +kernel, by decide +kernel⟩
def CountsP (m : Int) : D → Prop := fun d => ∃ a b : Int, d = pairD (a, b) ∧ 0 ≤ a ∧ 0 ≤ b ∧ 1 ≤ a + b ∧ a + b ≤ m
def R_law_counts : List D → (D → Prop) → Prop := fun ds Φ => ∃ m : Int, ds = [.int m] ∧ 1 ≤ m ∧ m ≤ 100 ∧ Φ = CountsP m
theorem c_law_counts (T : Tx K mg) : Cal P w K mg base 3 "_law_counts" (spH K R_law_counts) [] := by
  refine cal_H (T.glo 56) (T.says.1.def_ 56) sc_law_counts (fun ds d h => ?_) (fun _ _ _ _ _ _ us hl => match us, hl with | [_, _], _ => rfl) fun cdv A outer s H E hRm ds Φ h => ?_
  · obtain ⟨m, rfl, _⟩ := h
    rfl
  · obtain ⟨m, rfl, hm, hm2, rfl⟩ := h
    refine ⟨_, (pss_cons (ps_set (i := 2) sc_law_counts.nd rfl (by first | exact Or.inl rfl | exact Or.inr rfl) (pe_op op_addX pe_int (C8.pe_c (c_law_draw T) hRm (by decide) (by rfl) (pa_cons (pv 0) (pa_cons (pv 1) pa_nil)))))
    (pss_cons (ps_if (PW.pt (pw_and (pt_cmpR (op_gt) (pv 2) pe_int (nomark _)) (pw_and1 (pt_cmpR (op_gt) (C8.pe_c (c_law_draw T) hRm (by decide) (by rfl) (pa_cons (pv 0) (pa_cons pe_int pa_nil))) pe_int (nomark _))))) (pss_cons (ps_set (i := 3) sc_law_counts.nd rfl (by first | exact Or.inl rfl | exact Or.inr rfl) (pe_op op_addX pe_int (C8.pe_c (c_law_draw T) hRm (by decide) (by rfl) (pa_cons (pv 0) (pa_cons (pe_op op_sub (pv 2) pe_int) pa_nil)))))
    (pss_one (ps_ret (pe_tup (pa_cons (pv 3) (pa_cons (pe_op op_sub (pv 2) (pv 3)) pa_nil)))))) pss_nil)
    (pss_cons (ps_set (i := 3) sc_law_counts.nd rfl (by first | exact Or.inl rfl | exact Or.inr rfl) (C8.pe_c (c_law_draw T) hRm (by decide) (by rfl) (pa_cons (pv 0) (pa_cons (pe_op op_addX (pv 2) pe_int) pa_nil))))
    (pss_one (ps_ret (pe_tup (pa_cons (pv 3) (pa_cons (pe_op op_sub (pv 2) (pv 3)) pa_nil)))))))), ?_⟩
    have sz : ∀ {x : Int}, 0 ≤ x → x ≤ 200 → Sz 8999 x := fun a b => Sz.lit (by omega) (by decide)
    refine s_seq (s_asg (e_draw1 rfl (e_var rfl) (by omega) (sz (by omega) (by omega))) fun d hd => ?_)
    obtain ⟨t, rfl, t0, t1⟩ := hd
    refine s_seq (s_if (Φ := fun b => b = true → 1 < t) (t_and2 (Φ := fun b => b = decide (1 < t)) (t_test (e_op (e_var rfl) e_int ro_gt)) (fun hc => t_test2 (e_op2 (Φa := fun d => ∃ j : Int, d = .int j ∧ 0 ≤ j ∧ j < 6) (Φb := fun _ d => d = .int 0) (e_draw rfl e_int (by decide) (Sz.lit (by decide) (by decide))) (fun _ _ => e_int) fun x y ex ey => ?_)) fun hc h => by cases h) (fun hc => ?_) fun hc => s_next ?_)
    · obtain ⟨j, rfl, _⟩ := ex
      subst ey
      exact fun B H v w Q s r1 r2 k => ro_gt B H v w Q s r1 r2 fun B' H' u z g r e => k B' H' u z g r ⟨_, e, fun _ => of_decide_eq_true hc.symm⟩
    · have h1 : 1 < t := hc rfl
      refine s_seq (s_asg (e_draw1 rfl (e_op (e_var rfl) e_int ro_sub) (by omega) (sz (by omega) (by omega))) fun d hd => ?_)
      obtain ⟨a, rfl, a0, a1⟩ := hd
      exact s_ret (Φ := fun d => d = pairD (a, t - a)) (e_tup (ea_cons (e_var rfl) (ea_cons (e_op (e_var rfl) (e_var rfl) ro_sub) ea_nil)) (of_decide_eq_true rfl)) fun d hd => ⟨a, t - a, hd, by omega, by omega, by omega, by omega⟩
    · refine s_seq (s_asg (e_draw rfl (e_op (e_var rfl) e_int ro_add) (by omega) (sz (by omega) (by omega))) fun d hd => ?_)
      obtain ⟨a, rfl, a0, a1⟩ := hd
      exact s_ret (Φ := fun d => d = pairD (a, t - a)) (e_tup (ea_cons (e_var rfl) (ea_cons (e_op (e_var rfl) (e_var rfl) ro_sub) ea_nil)) (of_decide_eq_true rfl)) fun d hd => ⟨a, t - a, hd, by omega, by omega, by omega, by omega⟩
end
end JD
set_option maxHeartbeats 4000000
namespace JD
open PySem PySem.Spec PyProof.Rows L2
open C8 (Cal Mak)
/-! ### the law: rows and steps -/
def lpGrow (a b : Int) (r : List Int) : List (List Int) := (if (r.length : Int) - r.sum < a then [r ++ [0]] else []) ++ (if r.sum < b then [r ++ [1]] else [])
def lpStep (a b : Int) (rs : List (List Int)) : List (List Int) := rs.flatMap (lpGrow a b)
def lpM (a b : Int) : List (List Int) := (List.range (a + b).toNat).foldl (fun rs _ => lpStep a b rs) [[]]
theorem lpGrow_ok {a b : Int} {r : List Int} {n : Nat} (h : r.length = n) (h01 : ∀ x ∈ r, x = 0 ∨ x = 1) : (lpGrow a b r).length ≤ 2 ∧ ∀ q ∈ lpGrow a b r, q.length = n + 1 ∧ ∀ x ∈ q, x = 0 ∨ x = 1 := by
  have k : ∀ (y : Int), y = 0 ∨ y = 1 → (r ++ [y]).length = n + 1 ∧ ∀ x ∈ r ++ [y], x = 0 ∨ x = 1 := fun y hy => ⟨by simp [h], fun x hx => by
    rcases List.mem_append.mp hx with hx | hx
    · exact h01 x hx
    · rcases List.mem_singleton.mp hx with rfl
      exact hy⟩
  unfold lpGrow
  constructor
  · rw [List.length_append]
    split <;> split <;> simp
  · intro q hq
    rcases List.mem_append.mp hq with hq | hq
    · split at hq
      · rcases List.mem_singleton.mp hq with rfl
        exact k 0 (.inl rfl)
      · cases hq
    · split at hq
      · rcases List.mem_singleton.mp hq with rfl
        exact k 1 (.inr rfl)
      · cases hq
theorem lpStep_ok {a b : Int} {n m : Nat} : ∀ {rs : List (List Int)}, rs.length ≤ m → (∀ r ∈ rs, r.length = n ∧ ∀ x ∈ r, x = 0 ∨ x = 1) → (lpStep a b rs).length ≤ 2 * m ∧ ∀ r ∈ lpStep a b rs, r.length = n + 1 ∧ ∀ x ∈ r, x = 0 ∨ x = 1 := by
  intro rs hl h
  constructor
  · have key : ∀ (rs : List (List Int)), (∀ r ∈ rs, r.length = n ∧ ∀ x ∈ r, x = 0 ∨ x = 1) → (rs.flatMap (lpGrow a b)).length ≤ 2 * rs.length := by
      intro rs
      induction rs with
      | nil => intro _; simp
      | cons r rs ih =>
        intro h
        rw [List.flatMap_cons, List.length_append, List.length_cons]
        have h1 := ih fun q hq => h q (List.mem_cons_of_mem _ hq)
        have h2 := (lpGrow_ok (a := a) (b := b) (h r (List.mem_cons_self ..)).1 (h r (List.mem_cons_self ..)).2).1
        omega
    have := key rs h
    unfold lpStep
    omega
  · intro q hq
    obtain ⟨r, hr, hq⟩ := List.mem_flatMap.mp hq
    exact (lpGrow_ok (h r hr).1 (h r hr).2).2 q hq
theorem lp_pre {a b : Int} : ∀ (l : List Nat) (n : Nat) (rs : List (List Int)), rs.length ≤ 2 ^ n → (∀ r ∈ rs, r.length = n ∧ ∀ x ∈ r, x = 0 ∨ x = 1) → (l.foldl (fun rs _ => lpStep a b rs) rs).length ≤ 2 ^ (n + l.length) ∧ ∀ r ∈ l.foldl (fun rs _ => lpStep a b rs) rs, r.length = n + l.length ∧ ∀ x ∈ r, x = 0 ∨ x = 1
  | [], n, rs, h1, h2 => ⟨h1, h2⟩
  | x :: l, n, rs, h1, h2 => by
    rw [List.foldl_cons]
    obtain ⟨k1, k2⟩ := lpStep_ok (a := a) (b := b) h1 h2
    obtain ⟨j1, j2⟩ := lp_pre l (n + 1) _ (by rw [Nat.pow_succ]; omega) k2
    rw [List.length_cons]
    rw [show n + (l.length + 1) = n + 1 + l.length by omega]
    exact ⟨j1, j2⟩
theorem lpM_ok {a b : Int} (ha : 0 ≤ a) (hb : 0 ≤ b) (h1 : 1 ≤ a + b) (h7 : a + b ≤ 8) : (lpM a b).length ≤ 256 ∧ ∀ r ∈ lpM a b, patL r ∧ r.length = (a + b).toNat := by
  obtain ⟨k1, k2⟩ := lp_pre (a := a) (b := b) (List.range (a + b).toNat) 0 [[]] (by decide) (fun r hr => by rcases List.mem_singleton.mp hr with rfl; exact ⟨rfl, fun x hx => by cases hx⟩)
  rw [List.length_range, Nat.zero_add] at k1
  constructor
  · exact Nat.le_trans k1 (Nat.le_trans (Nat.pow_le_pow_right (by decide) (show (a + b).toNat ≤ 8 by omega)) (by decide))
  · intro r hr
    obtain ⟨j1, j2⟩ := k2 r hr
    rw [List.length_range, Nat.zero_add] at j1
    exact ⟨⟨by omega, by omega, j2⟩, j1⟩
def normD (p : IP) : IP := if (decide (p.2 < 0) || (decide (p.2 = 0) && decide (p.1 < 0))) = true then (-p.1, -p.2) else p
def sts (l : List IP) (e : IP × IP) : List IP := addD l (normD (dif e))
def stepsM (js ks : List IP) : List IP := (pairs js ks).foldl sts []
def rsteps (x y : List Int) : List IP := stepsM (jointsM 0 0 x) (jointsM 0 0 y)
theorem sts_len : ∀ (es : List (IP × IP)) (l : List IP), (es.foldl sts l).length ≤ l.length + es.length
  | [], l => Nat.le_refl _
  | e :: es, l => by
    rw [List.foldl_cons]
    have h1 := sts_len es (sts l e)
    have h2 := addD_len l (normD (dif e))
    unfold sts at h1 ⊢
    simp only [List.length_cons]
    omega
section
variable {P : Program} {w : World} {K : PySem.W.Frag} {mg : Str → Option Value} {base : Heap}
abbrev N_law_patterns : List Str := ["_law_a_count", "_law_b_count", "_law_rows", "_law_place", "_law_grown", "_law_row"]
theorem sc_law_patterns : FnScope N_law_patterns ["_law_a_count", "_law_b_count"] (defScope JA.s_law_patterns) := ⟨rfl, rfl, rfl, by decide +kernel, rfl, by decide +kernel, by decide +kernel⟩
def R_law_patterns : List D → D → Prop := fun ds d => ∃ a b : Int, ds = [.int a, .int b] ∧ 0 ≤ a ∧ 0 ≤ b ∧ a + b ≤ 8 ∧ d = .lst ((lpM a b).map row)
theorem c_law_patterns (T : Tx K mg) : Cal P w K mg base 1 "_law_patterns" (spV K R_law_patterns) [] := by
  refine cal_V (T.glo 57) (T.says.1.def_ 57) sc_law_patterns (fun ds d h => ?_) (fun _ _ _ _ _ _ us hl => match us, hl with | [_, _], _ => rfl) fun cdv A outer s H E hRm ds d h => ?_
  · obtain ⟨a, b, rfl, _⟩ := h
    rfl
  · obtain ⟨a, b, rfl, ha, hb, h8, rfl⟩ := h
    refine ⟨_, (pss_cons (ps_set (i := 2) sc_law_patterns.nd rfl (by first | exact Or.inl rfl | exact Or.inr rfl) (pe_lst (pa_cons (pe_tup pa_nil) pa_nil)))
    (pss_cons (ps_for PassesOwn.never rfl (pi_range1 (by rfl) (T.free 100) (pa_cons (pe_op op_addX (pv 0) (pv 1)) pa_nil)) (pg_name (i := 3) sc_law_patterns.nd rfl (by first | exact Or.inl rfl | exact Or.inr rfl)) (pss_cons (ps_set (i := 4) sc_law_patterns.nd rfl (by first | exact Or.inl rfl | exact Or.inr rfl) (pe_lst pa_nil))
    (pss_cons (ps_for PassesOwn.never rfl (pi_list (pv 2)) (pg_name (i := 5) sc_law_patterns.nd rfl (by first | exact Or.inl rfl | exact Or.inr rfl)) (pss_cons (ps_if (pt_cmpR (op_lt) (pe_op op_sub (pe_callB call_lenX (by rfl) (T.free 95) (by decide +kernel) (pa_cons (pv 5) pa_nil)) (pe_callB (cr_sumX rfl) (by rfl) (T.free 103) (by decide +kernel) (pa_cons (pv 5) pa_nil))) (pv 0) (nomark _)) (pss_one (ps_expr (pe_bm PySem.F.plainAttrs_list PySem.F.slot_list_append PySem.F.type_list_append mt_append (pv 4) (pa_cons (pe_op op_addX (pv 5) (pe_tup (pa_cons pe_int pa_nil))) pa_nil)))) pss_nil)
    (pss_one (ps_if (pt_cmpR (op_lt) (pe_callB (cr_sumX rfl) (by rfl) (T.free 103) (by decide +kernel) (pa_cons (pv 5) pa_nil)) (pv 1) (nomark _)) (pss_one (ps_expr (pe_bm PySem.F.plainAttrs_list PySem.F.slot_list_append PySem.F.type_list_append mt_append (pv 4) (pa_cons (pe_op op_addX (pv 5) (pe_tup (pa_cons pe_int pa_nil))) pa_nil)))) pss_nil))))
    (pss_one (ps_set (i := 2) sc_law_patterns.nd rfl (by first | exact Or.inl rfl | exact Or.inr rfl) (pe_callTy call_listX (by rfl) (T.free 96) (by decide +kernel) (pa_cons (pv 4) pa_nil)))))))
    (pss_one (ps_ret (pv 2))))), ?_⟩
    refine s_seq (s_asgV (d := .lst ([[]].map row)) (e_lst (ea_cons (e_tup ea_nil (of_decide_eq_true rfl)) ea_nil) (of_decide_eq_true rfl)) ?_)
    refine s_mid (fun Γ => ∃ x y z, Γ = [.val (.int a), .val (.int b), .val (.lst ((lpM a b).map row)), x, y, z]) ?_ fun Γ' hΓ => ?_
    · refine s_forL (vs := [3]) (List.range (a + b).toNat) (fun (i : Nat) => D.int (i : Int)) (fun pre Γ => ∃ x y z, Γ = [.val (.int a), .val (.int b), .val (.lst ((pre.foldl (fun rs _ => lpStep a b rs) [[]]).map row)), x, y, z]) (by rw [← dints0]; exact i_rng1 (ea_cons (e_op (e_var rfl) (e_var rfl) ro_add) ea_nil) (by omega)) ⟨.no, .no, .no, rfl⟩ (fun pre i post Γ1 e iv => ⟨_, g_name, ?_⟩) fun Γ1 iv => iv
      obtain ⟨x, y, z, rfl⟩ := iv
      obtain ⟨k1, k2⟩ := lp_pre (a := a) (b := b) pre 0 [[]] (by decide) (fun r hr => by rcases List.mem_singleton.mp hr with rfl; exact ⟨rfl, fun x hx => by cases hx⟩)
      have hpl : pre.length ≤ 8 := by
        have := congrArg List.length e
        rw [List.length_range, List.length_append] at this
        omega
      rw [Nat.zero_add] at k1 k2
      have k1' : (pre.foldl (fun rs _ => lpStep a b rs) [[]]).length ≤ 256 := Nat.le_trans k1 (Nat.le_trans (Nat.pow_le_pow_right (by decide) hpl) (by decide))
      rw [List.foldl_append, List.foldl_cons, List.foldl_nil]
      generalize pre.foldl (fun rs _ => lpStep a b rs) [[]] = rs at *
      refine s_seq (s_asgLV (l_lst ea_nil (of_decide_eq_true rfl)) ?_)
      refine s_mid (fun Γ => ∃ z, Γ = [.val (.int a), .val (.int b), .val (.lst (rs.map row)), .val (.int (i : Int)), .own (.lst ((lpStep a b rs).map row)), z]) ?_ fun Γ' hΓ => ?_
      · refine s_forL (vs := [5]) rs row (fun pre2 Γ => ∃ z, Γ = [.val (.int a), .val (.int b), .val (.lst (rs.map row)), .val (.int (i : Int)), .own (.lst ((lpStep a b pre2).map row)), z]) (i_list (e_var rfl)) ⟨_, rfl⟩ (fun pre2 r post2 Γ1 e2 iv => ⟨_, g_name, ?_⟩) fun Γ1 iv => iv
        obtain ⟨z, rfl⟩ := iv
        have hr := k2 r (by rw [e2]; simp)
        have hpre2 : (lpStep a b pre2).length ≤ 2 * 256 := (lpStep_ok (n := pre.length) (m := 256) (by rw [e2, List.length_append] at k1'; omega) fun q hq => k2 q (by rw [e2]; simp [hq])).1
        have eS : lpStep a b (pre2 ++ [r]) = lpStep a b pre2 ++ lpGrow a b r := by unfold lpStep; rw [List.flatMap_append]; simp
        rw [eS]
        unfold lpGrow
        have el : ∀ {Γ : List S} {i : Nat}, Γ[i]? = some (.val (row r)) → Ev K (tCB (rLenX K) (tCons (tVar i) tNil)) Γ (.int (r.length : Int)) := fun h => e_cb (ea_cons (e_var h) ea_nil) (rc_len (by simp [row, D.len]))
        have es : ∀ {Γ : List S} {i : Nat}, Γ[i]? = some (.val (row r)) → Ev K (tCB (rSumX K) (tCons (tVar i) tNil)) Γ (.int r.sum) := fun h => e_cb (ea_cons (e_var h) ea_nil) (rc_sum (ns := r) rfl)
        have ec : ∀ {Γ : List S} {i : Nat} {y : Int}, Γ[i]? = some (.val (row r)) → Ev K (tOp (rAddX K) (tVar i) (tTup (tCons (tC (.int y)) tNil))) Γ (row (r ++ [y])) := fun h => (e_op (e_var h) (e_tup (ea_cons e_int ea_nil) (of_decide_eq_true rfl)) (ro_catT (by rw [List.length_map, hr.1]; simp; omega))).cast (by unfold row; rw [List.map_append]; rfl)
        refine s_mid (fun Γ => Γ = [.val (.int a), .val (.int b), .val (.lst (rs.map row)), .val (.int (i : Int)), .own (.lst ((lpStep a b pre2 ++ (if (r.length : Int) - r.sum < a then [r ++ [0]] else [])).map row)), .val (row r)]) ?_ fun Γ' hΓ => ?_
        · refine s_ifB (t_test (e_op (e_op (el rfl) (es rfl) ro_sub) (e_var rfl) ro_lt)) (fun c => ?_) fun c => ?_
          · rw [if_pos (of_decide_eq_true c), List.map_append]
            exact s_appV rfl (ec rfl) (by rw [List.length_map]; omega) rfl
          · rw [if_neg (of_decide_eq_false c), List.append_nil]
            exact s_next rfl
        · subst hΓ
          have hz2 : ((lpStep a b pre2 ++ (if (r.length : Int) - r.sum < a then [r ++ [0]] else [])).map row).length < 100000 := by
            rw [List.length_map, List.length_append]
            split <;> simp <;> omega
          refine s_ifB (t_test (e_op (es rfl) (e_var rfl) ro_lt)) (fun c => ?_) fun c => ?_
          · rw [if_pos (of_decide_eq_true c), ← List.append_assoc, List.map_append (l₂ := [r ++ [1]])]
            exact s_appV rfl (ec rfl) hz2 ⟨_, Le.refl _, _, rfl⟩
          · rw [if_neg (of_decide_eq_false c), List.append_nil]
            exact s_next ⟨_, Le.refl _, _, rfl⟩
      · obtain ⟨z, rfl⟩ := hΓ
        refine s_frz 4 rfl (s_asgV (l_cb (ea_cons (e_var rfl) ea_nil) (rl_list rfl)).ev ⟨_, Le.refl _, _, _, _, rfl⟩)
    · obtain ⟨x, y, z, rfl⟩ := hΓ
      exact s_retV (e_var rfl) rfl
theorem e_lpat {Γ : List S} {ta tb : TE} {a b : Int} {E : XK} (h1 : Ev K ta Γ (.int a)) (h2 : Ev K tb Γ (.int b)) (ha : 0 ≤ a) (hb : 0 ≤ b) (h8 : a + b ≤ 8) : Ev K (tCall (spV K R_law_patterns) [] E (tCons ta (tCons tb tNil))) Γ (.lst ((lpM a b).map row)) :=
  e_call (ea_cons h1 (ea_cons h2 ea_nil)) ⟨a, b, rfl, ha, hb, h8, rfl⟩
/-- x[:-1] of a row -/
theorem e_init {Γ : List S} {te : TE} {x : D} {ns : List Int} (h : Ev K te Γ x) (hx : x.items = some (ns.map D.int)) : ∃ y : D, y.items = some (ns.dropLast.map D.int) ∧ Ev K (tSl (rSlX K) te tNoPart (tPart (tUn (rU fun i => .int (-i)) (tC (.int 1))))) Γ y := by
  cases x with
  | lst es =>
    cases Option.some.inj hx
    exact ⟨.lst (ns.dropLast.map D.int), rfl, Ev.cast (e_sl h o_none (o_some (e_un e_int ru_neg)) rs_lst) (congrArg D.lst (cut_init ns D.int))⟩
  | tup es =>
    cases Option.some.inj hx
    exact ⟨.tup (ns.dropLast.map D.int), rfl, Ev.cast (e_sl h o_none (o_some (e_un e_int ru_neg)) rs_tup) (congrArg D.tup (cut_init ns D.int))⟩
  | _ => cases hx

abbrev N_law_joints : List Str := ["_law_row", "_law_found", "_law_shorts", "_law_longs", "_law_entry"]
theorem sc_law_joints : FnScope N_law_joints ["_law_row"] (defScope JA.s_law_joints) := ⟨rfl, rfl, rfl, by decide +kernel, rfl, by decide +kernel, by decide +kernel⟩
def R_law_joints : List D → D → Prop := fun ds d => ∃ (x : D) (ns : List Int), ds = [x] ∧ x.items = some (ns.map D.int) ∧ patL ns ∧ d = .lst ((jointsM 0 0 ns).map pairD)
theorem c_law_joints (T : Tx K mg) : Cal P w K mg base 1 "_law_joints" (spV K R_law_joints) [] := by
  refine cal_V (T.glo 58) (T.says.1.def_ 58) sc_law_joints (fun ds d h => ?_) (fun _ _ _ _ _ _ us hl => match us, hl with | [_], _ => rfl) fun cdv A outer s H E hRm ds d h => ?_
  · obtain ⟨x, ns, rfl, _⟩ := h
    rfl
  · obtain ⟨x, ns, rfl, hx, hp, rfl⟩ := h
    refine ⟨_, (pss_cons (ps_set (i := 1) sc_law_joints.nd rfl (by first | exact Or.inl rfl | exact Or.inr rfl) (pe_lst pa_nil))
    (pss_cons (ps_set (i := 2) sc_law_joints.nd rfl (by first | exact Or.inl rfl | exact Or.inr rfl) pe_int)
    (pss_cons (ps_set (i := 3) sc_law_joints.nd rfl (by first | exact Or.inl rfl | exact Or.inr rfl) pe_int)
    (pss_cons (ps_for PassesOwn.never rfl (pi_or (pi_list (pe_slice sl_X (pv 0) po_none (po_some (pe_un un_neg pe_int)))) (pi_tup (pe_slice sl_X (pv 0) po_none (po_some (pe_un un_neg pe_int))))) (pg_name (i := 4) sc_law_joints.nd rfl (by first | exact Or.inl rfl | exact Or.inr rfl)) (pss_cons (ps_set (i := 2) sc_law_joints.nd rfl (by first | exact Or.inl rfl | exact Or.inr rfl) (pe_op op_sub (pe_op op_addX (pv 2) pe_int) (pv 4)))
    (pss_cons (ps_set (i := 3) sc_law_joints.nd rfl (by first | exact Or.inl rfl | exact Or.inr rfl) (pe_op op_addX (pv 3) (pv 4)))
    (pss_one (ps_expr (pe_bm PySem.F.plainAttrs_list PySem.F.slot_list_append PySem.F.type_list_append mt_append (pv 1) (pa_cons (pe_tup (pa_cons (pv 2) (pa_cons (pv 3) pa_nil))) pa_nil)))))))
    (pss_one (ps_ret (pv 1))))))), ?_⟩
    refine s_seq (s_asgLV (l_lst ea_nil (of_decide_eq_true rfl)) ?_)
    refine s_seq (s_asgV e_int ?_)
    refine s_seq (s_asgV e_int ?_)
    obtain ⟨y, hy, ey⟩ := e_init (K := K) (Γ := [.val x, .own (.lst []), .val (.int 0), .val (.int 0), .no]) (e_var (i := 0) rfl) hx
    refine s_mid (fun Γ => ∃ u v t, Γ = [.val x, .own (.lst ((jointsM 0 0 ns).map pairD)), u, v, t]) ?_ fun Γ' hΓ => ?_
    · refine s_forL (vs := [4]) ns.dropLast D.int (fun pre Γ => ∃ t, Γ = [.val x, .own (.lst ((pre.foldl jfold ([], (0, 0))).1.map pairD)), .val (.int (pre.foldl jfold ([], (0, 0))).2.1), .val (.int (pre.foldl jfold ([], (0, 0))).2.2), t]) (i_seq ey hy) ⟨.no, rfl⟩ (fun pre n post Γ1 e iv => ⟨_, g_name, ?_⟩) fun Γ1 iv => ?_
      · obtain ⟨t, rfl⟩ := iv
        have hz : (pre.foldl jfold ([], (0, 0))).1.length ≤ pre.length := by
          have : ∀ (l : List Int) (a : List (Int × Int) × (Int × Int)), (l.foldl jfold a).1.length = a.1.length + l.length := by
            intro l
            induction l with
            | nil => intro a; rfl
            | cons n r ih => intro a; rw [List.foldl_cons, ih, jfold]; simp; omega
          rw [this]
          simp
        have hz2 : pre.length ≤ 50 := by
          have := congrArg List.length e
          simp at this
          have := hp.2.1
          omega
        rw [List.foldl_append, List.foldl_cons, List.foldl_nil]
        generalize pre.foldl jfold ([], (0, 0)) = A at *
        obtain ⟨acc, s, l⟩ := A
        refine s_seq (s_asgV (e_op (e_op (e_var rfl) e_int ro_add) (e_var rfl) ro_sub) ?_)
        refine s_seq (s_asgV (e_op (e_var rfl) (e_var rfl) ro_add) ?_)
        rw [jfold, List.map_append]
        exact s_appV rfl (e_tup (ea_cons (e_var rfl) (ea_cons (e_var rfl) ea_nil)) (of_decide_eq_true rfl)) (by rw [List.length_map]; show acc.length < 100000; have hz' : acc.length ≤ pre.length := hz; omega) ⟨_, Le.refl _, _, rfl⟩
      · obtain ⟨t, rfl⟩ := iv
        rw [jfold_joints]
        exact ⟨_, _, _, rfl⟩
    · obtain ⟨u, v, t, rfl⟩ := hΓ
      exact s_frz 1 rfl (s_retV (e_var rfl) rfl)
theorem e_ljoints {Γ : List S} {te : TE} {x : D} {ns : List Int} {E : XK} (h : Ev K te Γ x) (hx : x.items = some (ns.map D.int)) (hp : patL ns) : Ev K (tCall (spV K R_law_joints) [] E (tCons te tNil)) Γ (.lst ((jointsM 0 0 ns).map pairD)) := e_call (ea_cons h ea_nil) ⟨x, ns, rfl, hx, hp, rfl⟩


abbrev N_law_steps : List Str := ["_law_one", "_law_other", "_law_found", "_law_joint", "_law_mate", "_law_shorts", "_law_longs"]
theorem sc_law_steps : FnScope N_law_steps ["_law_one", "_law_other"] (defScope JA.s_law_steps) := ⟨rfl, rfl, rfl, by decide +kernel, rfl, by decide +kernel, by decide +kernel⟩
def R_law_steps : List D → D → Prop := fun ds d => ∃ (x y : D) (ns ms : List Int), ds = [x, y] ∧ x.items = some (ns.map D.int) ∧ patL ns ∧ y.items = some (ms.map D.int) ∧ patL ms ∧ d = .lst ((rsteps ns ms).map pairD)
theorem c_law_steps (T : Tx K mg) : Cal P w K mg base 2 "_law_steps" (spV K R_law_steps) [] := by
  refine cal_V (T.glo 59) (T.says.1.def_ 59) sc_law_steps (fun ds d h => ?_) (fun _ _ _ _ _ _ us hl => match us, hl with | [_, _], _ => rfl) fun cdv A outer s H E hRm ds d h => ?_
  · obtain ⟨x, y, ns, ms, rfl, _⟩ := h
    rfl
  · obtain ⟨x, y, ns, ms, rfl, hx, hns, hy, hms, rfl⟩ := h
    have pp : ∀ (p : IP), (pairD p).at 0 = some (.int p.1) ∧ (pairD p).at 1 = some (.int p.2) := fun _ => ⟨rfl, rfl⟩
    have kd : ∀ (l : List IP), (l.map fun q => (kk q, D.bl true)).map (fun kv => D.tup (kv.1.map keyD)) = l.map pairD := fun l => by rw [List.map_map]; rfl
    refine ⟨_, (pss_cons (ps_set (i := 2) sc_law_steps.nd rfl (by first | exact Or.inl rfl | exact Or.inr rfl) pe_dnewT)
    (pss_cons (ps_for PassesOwn.never rfl (pi_list (C8.pe_c (c_law_joints T) hRm (by decide) (by rfl) (pa_cons (pv 0) pa_nil))) (pg_name (i := 3) sc_law_steps.nd rfl (by first | exact Or.inl rfl | exact Or.inr rfl)) (pss_one (ps_for PassesOwn.never rfl (pi_list (C8.pe_c (c_law_joints T) hRm (by decide) (by rfl) (pa_cons (pv 1) pa_nil))) (pg_name (i := 4) sc_law_steps.nd rfl (by first | exact Or.inl rfl | exact Or.inr rfl)) (pss_cons (ps_set (i := 5) sc_law_steps.nd rfl (by first | exact Or.inl rfl | exact Or.inr rfl) (pe_op op_sub (pe_ix ix_seq (pv 3) pe_int (fun _ _ => rfl)) (pe_ix ix_seq (pv 4) pe_int (fun _ _ => rfl))))
    (pss_cons (ps_set (i := 6) sc_law_steps.nd rfl (by first | exact Or.inl rfl | exact Or.inr rfl) (pe_op op_sub (pe_ix ix_seq (pv 3) pe_int (fun _ _ => rfl)) (pe_ix ix_seq (pv 4) pe_int (fun _ _ => rfl))))
    (pss_cons (ps_if (PW.pt (pw_or (pt_cmpR (op_lt) (pv 6) pe_int (nomark _)) (pw_or1 (PW.pt (pw_and (pt_cmpR (op_eqD hRm.units) (pv 6) pe_int (nomark _)) (pw_and1 (pt_cmpR (op_lt) (pv 5) pe_int (nomark _)))))))) (pss_cons (ps_set (i := 5) sc_law_steps.nd rfl (by first | exact Or.inl rfl | exact Or.inr rfl) (pe_un un_neg (pv 5)))
    (pss_one (ps_set (i := 6) sc_law_steps.nd rfl (by first | exact Or.inl rfl | exact Or.inr rfl) (pe_un un_neg (pv 6))))) pss_nil)
    (pss_one (ps_dput (hu_of hRm) (pv 2) (pe_tup (pa_cons (pv 5) (pa_cons (pv 6) pa_nil))) pe_bl rfl))))))))
    (pss_one (ps_ret (pe_callTy (call_listDT rfl) (by rfl) (T.free 96) (by decide +kernel) (pa_cons (pv 2) pa_nil)))))), ?_⟩
    refine s_seq (s_newT ?_)
    have hlen : (jointsM 0 0 ns).length ≤ 50 ∧ (jointsM 0 0 ms).length ≤ 50 := by
      rw [jointsM_len, jointsM_len]
      have h1 := hns.2.1
      have h2 := hms.2.1
      omega
    have ej : Ev K _ [.val x, .val y, .own (.dT []), .no, .no, .no, .no] _ := e_ljoints (E := C8.E0) (e_var (i := 0) rfl) hx hns
    have ek := fun (Γ : List S) (h : Γ[1]? = some (.val y)) => e_ljoints (K := K) (Γ := Γ) (E := C8.E0) (e_var (i := 1) h) hy hms
    unfold rsteps stepsM
    generalize jointsM 0 0 ns = js at *
    generalize jointsM 0 0 ms = ks at *
    refine s_mid (fun Γ => ∃ u v s t, Γ = [.val x, .val y, .own (.dT (((pairs js ks).foldl sts []).map fun q => (kk q, D.bl true))), u, v, s, t]) ?_ fun Γ' hΓ => ?_
    · refine s_forL (vs := [3]) js pairD (fun pre Γ => ∃ u v s t, Γ = [.val x, .val y, .own (.dT (((pairs pre ks).foldl sts []).map fun q => (kk q, D.bl true))), u, v, s, t]) (i_list ej) ⟨.no, .no, .no, .no, rfl⟩ (fun pre p post Γ1 e iv => ⟨_, g_name, ?_⟩) fun Γ1 iv => iv
      obtain ⟨u, v, s, t, rfl⟩ := iv
      refine s_forL (vs := [4]) ks pairD (fun pre2 Γ => ∃ v s t, Γ = [.val x, .val y, .own (.dT (((pairs pre ks ++ pre2.map fun q => (p, q)).foldl sts []).map fun q => (kk q, D.bl true))), .val (pairD p), v, s, t]) (i_list (ek _ rfl)) ⟨v, s, t, by rw [List.map_nil, List.append_nil]; rfl⟩ (fun pre2 q post2 Γ1 e2 iv => ⟨_, g_name, ?_⟩) fun Γ1 iv => ?_
      · obtain ⟨v, s, t, rfl⟩ := iv
        rw [show (pairs pre ks ++ (pre2 ++ [q]).map fun q => (p, q)).foldl sts [] = addD ((pairs pre ks ++ pre2.map fun q => (p, q)).foldl sts []) (normD (dif (p, q))) by rw [List.map_append, ← List.append_assoc, List.foldl_append]; rfl, ← put_add]
        have hzz : (((pairs pre ks ++ pre2.map fun q => (p, q)).foldl sts []).map fun q => (kk q, D.bl true)).length < 100000 := by
          rw [List.length_map]
          have h1 := sts_len (pairs pre ks ++ pre2.map fun q => (p, q)) []
          rw [List.length_append, pairs_len, List.length_map, List.length_nil] at h1
          have h2 : pre.length * ks.length ≤ 50 * 50 := Nat.mul_le_mul (by have := hlen.1; rw [e, List.length_append] at this; omega) hlen.2
          have h3 : pre2.length ≤ 50 := by have := hlen.2; rw [e2, List.length_append] at this; omega
          omega
        generalize ((pairs pre ks ++ pre2.map fun q => (p, q)).foldl sts []) = acc at *
        refine s_seq (s_asgV (e_op (e_op (e_var rfl) e_int (ro_ix (pp p).1)) (e_op (e_var rfl) e_int (ro_ix (pp q).1)) ro_sub) ?_)
        refine s_seq (s_asgV (e_op (e_op (e_var rfl) e_int (ro_ix (pp p).2)) (e_op (e_var rfl) e_int (ro_ix (pp q).2)) ro_sub) ?_)
        refine s_mid (fun Γ => Γ = [.val x, .val y, .own (.dT (acc.map fun q => (kk q, D.bl true))), .val (pairD p), .val (pairD q), .val (.int (normD (dif (p, q))).1), .val (.int (normD (dif (p, q))).2)]) ?_ fun Γ' hΓ => ?_
        · have eN : normD (dif (p, q)) = if (decide (p.2 - q.2 < 0) || (decide (p.2 - q.2 = 0) && decide (p.1 - q.1 < 0))) = true then (-(p.1 - q.1), -(p.2 - q.2)) else (p.1 - q.1, p.2 - q.2) := rfl
          rw [eN]
          refine s_ifB (t_or (t_test (e_op (e_var rfl) e_int ro_lt)) fun _ => t_and (t_test (e_op (e_var rfl) e_int ro_eq)) fun _ => t_test (e_op (e_var rfl) e_int ro_lt)) (fun c => ?_) fun c => ?_
          · rw [if_pos c]
            exact s_seq (s_asgV (e_un (e_var rfl) ru_neg) (s_asgV (e_un (e_var rfl) ru_neg) rfl))
          · rw [if_neg (by rw [c]; exact Bool.false_ne_true)]
            exact s_next rfl
        · subst hΓ
          exact s_putT (ks := kk (normD (dif (p, q)))) rfl e_bl (ea_cons (e_var rfl) (ea_cons (e_var rfl) ea_nil)) (of_decide_eq_true rfl) hzz ⟨_, Le.refl _, _, _, _, rfl⟩
      · obtain ⟨v, s, t, rfl⟩ := iv
        rw [pairs_snoc]
        exact ⟨_, Le.refl _, _, _, _, _, rfl⟩
    · obtain ⟨u, v, s, t, rfl⟩ := hΓ
      refine s_ret (EL.ev (e_imp' (l_listDT rfl) (kd _))) fun d hd => hd
theorem e_lsteps {Γ : List S} {ta tb : TE} {x y : D} {ns ms : List Int} {E : XK} (h1 : Ev K ta Γ x) (h2 : Ev K tb Γ y) (hx : x.items = some (ns.map D.int)) (hn : patL ns) (hy : y.items = some (ms.map D.int)) (hm : patL ms) : Ev K (tCall (spV K R_law_steps) [] E (tCons ta (tCons tb tNil))) Γ (.lst ((rsteps ns ms).map pairD)) :=
  e_call (ea_cons h1 (ea_cons h2 ea_nil)) ⟨x, y, ns, ms, rfl, hx, hn, hy, hm, rfl⟩
end
end JD
set_option maxHeartbeats 4000000
namespace JD
open PySem PySem.Spec PyProof.Rows L2
open C8 (Cal Mak)
/-! ### the law: least, free couples -/
def minI (x : Int) (l : List Int) : Int := l.foldl min x
theorem minI_le (x : Int) : ∀ l : List Int, minI x l ≤ x ∧ ∀ y ∈ l, minI x l ≤ y
  | [] => ⟨Int.le_refl _, fun _ h => by cases h⟩
  | z :: l => by
    obtain ⟨h1, h2⟩ := minI_le (min x z) l
    have e : minI x (z :: l) = minI (min x z) l := rfl
    rw [e]
    refine ⟨by omega, fun y hy => ?_⟩
    rcases List.mem_cons.mp hy with rfl | hy
    · omega
    · exact h2 y hy
theorem minI_mem (x : Int) : ∀ l : List Int, minI x l ∈ x :: l
  | [] => List.mem_cons_self ..
  | z :: l => by
    have e : minI x (z :: l) = minI (min x z) l := rfl
    rw [e]
    rcases List.mem_cons.mp (minI_mem (min x z) l) with h | h
    · rw [h]
      rcases Int.le_total x z with hxz | hxz
      · rw [Int.min_eq_left hxz]; exact List.mem_cons_self ..
      · rw [Int.min_eq_right hxz]; exact List.mem_cons_of_mem _ (List.mem_cons_self ..)
    · exact List.mem_cons_of_mem _ (List.mem_cons_of_mem _ h)
def maxI (x : Int) (l : List Int) : Int := l.foldl max x
theorem maxI_le (x : Int) : ∀ l : List Int, x ≤ maxI x l ∧ ∀ y ∈ l, y ≤ maxI x l
  | [] => ⟨Int.le_refl _, fun _ h => by cases h⟩
  | z :: l => by
    obtain ⟨h1, h2⟩ := maxI_le (max x z) l
    have e : maxI x (z :: l) = maxI (max x z) l := rfl
    rw [e]
    refine ⟨by omega, fun y hy => ?_⟩
    rcases List.mem_cons.mp hy with rfl | hy
    · omega
    · exact h2 y hy
theorem maxI_mem (x : Int) : ∀ l : List Int, maxI x l ∈ x :: l
  | [] => List.mem_cons_self ..
  | z :: l => by
    have e : maxI x (z :: l) = maxI (max x z) l := rfl
    rw [e]
    rcases List.mem_cons.mp (maxI_mem (max x z) l) with h | h
    · rw [h]
      rcases Int.le_total x z with hxz | hxz
      · rw [Int.max_eq_right hxz]; exact List.mem_cons_of_mem _ (List.mem_cons_self ..)
      · rw [Int.max_eq_left hxz]; exact List.mem_cons_self ..
    · exact List.mem_cons_of_mem _ (List.mem_cons_of_mem _ h)
def gapR (r : Rat) (p : IP) : Int := ((p.1 * r.den + p.2 * r.num).natAbs : Int)
def leastM (l : List IP) (r : Rat) : Option Int := match l with
  | [] => none
  | p :: q => some (minI (gapR r p) (q.map (gapR r)))
def intO : Option Int → D
  | none => .non
  | some i => .int i
def lcoupD (c : Coup) : D := .lst [row c.1, row c.2.1, .lst (c.2.2.map pairD)]
def lcoupOf (e : List Int × List Int) : Option Coup :=
  if (decide (e.1.headD 0 = 0) && (decide (e.2.headD 0 = 1) && !decide (e.1.getLastD 0 = e.2.getLastD 0))) = true then
    (if decide (((0, 0) : IP) ∈ rsteps e.1 e.2) = true then none else some (e.1, e.2, rsteps e.1 e.2)) else none
def freeM (a b : Int) : List Coup := if a + b = 1 then [((lpM a b).headD [], (lpM a b).headD [], [])] else (pairs (lpM a b) (lpM a b)).filterMap lcoupOf
theorem normD_pd {p : IP} (h : Pd p) : Pd (normD p) := by
  unfold normD
  split
  · exact ⟨by show (-p.1).natAbs ≤ 200; rw [Int.natAbs_neg]; exact h.1, by show (-p.2).natAbs ≤ 200; rw [Int.natAbs_neg]; exact h.2⟩
  · exact h
theorem sts_mem : ∀ (es : List (IP × IP)) (l : List IP) (p : IP), p ∈ es.foldl sts l ↔ p ∈ l ∨ ∃ e ∈ es, normD (dif e) = p
  | [], l, p => by simp
  | e :: es, l, p => by
    rw [List.foldl_cons, sts_mem es]
    have : p ∈ sts l e ↔ p ∈ l ∨ normD (dif e) = p := by
      unfold sts addD
      by_cases c : normD (dif e) ∈ l
      · rw [if_pos (decide_eq_true c)]
        constructor
        · exact .inl
        · rintro (h | rfl)
          · exact h
          · exact c
      · rw [if_neg (by simpa using c)]
        simp [eq_comm]
    rw [this]
    simp [or_assoc]
theorem steps_mem {js ks : List IP} {p : IP} : p ∈ stepsM js ks ↔ ∃ x ∈ js, ∃ y ∈ ks, normD (x.1 - y.1, x.2 - y.2) = p := by
  unfold stepsM
  rw [sts_mem]
  constructor
  · rintro (h | ⟨e, he, rfl⟩)
    · cases h
    · obtain ⟨h1, h2⟩ := mem_pairs.mp he
      exact ⟨e.1, h1, e.2, h2, rfl⟩
  · rintro ⟨x, hx, y, hy, rfl⟩
    exact .inr ⟨(x, y), mem_pairs.mpr ⟨hx, hy⟩, rfl⟩
theorem rsteps_ok {x y : List Int} (hx : patL x) (hy : patL y) : (∀ p ∈ rsteps x y, Pd p) ∧ (rsteps x y).length ≤ 2500 := by
  constructor
  · intro p hp
    obtain ⟨a, ha, b, hb, rfl⟩ := steps_mem.mp hp
    exact normD_pd (pb_diff (pat_pb hx a ha) (pat_pb hy b hb))
  · unfold rsteps stepsM
    refine Nat.le_trans (sts_len _ _) ?_
    rw [pairs_len, jointsM_len, jointsM_len, List.length_nil, Nat.zero_add]
    have h1 := hx.2.1
    have h2 := hy.2.1
    exact Nat.le_trans (Nat.mul_le_mul (show x.length - 1 ≤ 50 by omega) (show y.length - 1 ≤ 50 by omega)) (by decide)
theorem shp_pairs (n : Nat) (l : List IP) : D.shp (n + 2) (.lst (l.map pairD)) = true := shp_lst fun d hd => by obtain ⟨p, _, rfl⟩ := List.mem_map.mp hd; exact shp_pair _ _
section
variable {P : Program} {w : World} {K : PySem.W.Frag} {mg : Str → Option Value} {base : Heap}

abbrev N_law_least : List Str := ["_law_steps_here", "_law_ratio_here", "_law_step"]
theorem sc_law_least : FnScope N_law_least ["_law_steps_here", "_law_ratio_here"] (defScope JA.s_law_least) := ⟨rfl, rfl, rfl, by decide +kernel, rfl, by decide +kernel, by decide +kernel⟩
def R_law_least : List D → D → Prop := fun ds d => ∃ (l : List IP) (r : Rat), ds = [.lst (l.map pairD), rat r] ∧ l.length ≤ 3000 ∧ (∀ p ∈ l, Pd p) ∧ Sr 3000 r ∧ d = intO (leastM l r)
theorem c_law_least (T : Tx K mg) : Cal P w K mg base 1 "_law_least" (spV K R_law_least) [] := by
  refine cal_V (T.glo 60) (T.says.1.def_ 60) sc_law_least (fun ds d h => ?_) (fun _ _ _ _ _ _ us hl => match us, hl with | [_, _], _ => rfl) fun cdv A outer s H E hRm ds d h => ?_
  · obtain ⟨l, r, rfl, _⟩ := h
    rfl
  · obtain ⟨l, r, rfl, hz, hpd, hr, rfl⟩ := h
    refine ⟨_, (pss_cons (ps_if (pt_cmpR (op_eqD hRm.units) (pv 0) (pe_lst pa_nil) (nomark _)) (pss_one (ps_ret pe_non)) pss_nil)
    (pss_one (ps_ret (pe_callB (cr_min rfl) (by rfl) (T.free 98) (by decide +kernel) (pa_cons (pe_lc (own := [("_law_step", 2)]) (g := gName 2) (by rfl) sc_law_least.nd (pi_list (pv 0)) (blkOk_by (own := [("_law_step", 2)]) (N := N_law_least) (sc := defScope JA.s_law_least) (by decide +kernel)) (fun _ _ _ _ _ => (pg_name (i := 2) sc_law_least.nd rfl (by first | exact Or.inl rfl | exact Or.inr rfl))) (fun _ _ _ _ _ => pts_nil) (fun _ _ _ _ _ => (pe_callB call_absX (by rfl) (T.free 88) (by decide +kernel) (pa_cons (pe_op (op_addXK (K := K) (by rfl)) (pe_op op_mulX (pe_ix (ix_seqK (K := K) (by rfl)) (pv 2) pe_int (fun _ _ => rfl)) (pe_ix (ix_seqK (K := K) (by rfl)) (pv 1) pe_int (fun _ _ => rfl))) (pe_op op_mulX (pe_ix (ix_seqK (K := K) (by rfl)) (pv 2) pe_int (fun _ _ => rfl)) (pe_ix (ix_seqK (K := K) (by rfl)) (pv 1) pe_int (fun _ _ => rfl)))) pa_nil)))) pa_nil))))), ?_⟩
    cases l with
    | nil =>
      refine s_seq (s_ifT (t_imp (t_test (e_op (x := .lst []) (y := .lst []) (e_var rfl) (e_lst ea_nil (of_decide_eq_true rfl)) (ro_eqD (by rw [D.shp]; rfl) (by rw [D.shp]; rfl)))) fun b e => e.trans (eqv_nil [])) ?_)
      exact s_retV e_non rfl
    | cons p q =>
      refine s_seq (s_ifF (t_imp (t_test (e_op (x := .lst ((p :: q).map pairD)) (y := .lst []) (e_var rfl) (e_lst ea_nil (of_decide_eq_true rfl)) (ro_eqD (shp_pairs 48 _) (by rw [D.shp]; rfl)))) fun b e => e.trans (eqv_nil _)) (s_next ?_))
      have hm : Rc K (rMin K) [.lst ((gapR r p :: q.map (gapR r)).map D.int)] fun u => u = .int (minI (gapR r p) (q.map (gapR r))) := rc_minL (minI_mem _ _) fun y hy => by
        rcases List.mem_cons.mp hy with rfl | hy
        · exact (minI_le _ _).1
        · exact (minI_le _ _).2 y hy
      rw [show (gapR r p :: q.map (gapR r)).map D.int = (p :: q).map fun x => D.int (gapR r x) by rw [List.map_cons, List.map_cons, List.map_map]; rfl] at hm
      refine s_ret (e_cb (ea_cons (l_map (p :: q) pairD (fun x => D.int (gapR r x)) (i_list (e_var rfl)) (by omega) fun x hx => ⟨_, g_name, ?_⟩).ev ea_nil) hm) fun d hd => hd
      have hx' := hpd x hx
      exact e_cb (ea_cons (e_op (e_op (e_op (e_var rfl) e_int (ro_ix rfl)) (e_op (e_var rfl) e_int (ro_ix rfl)) (ro_mul (Sz.lit (by have := hx'.1; omega) (by decide)) (hr.2.mono (by decide)))) (e_op (e_op (e_var rfl) e_int (ro_ix rfl)) (e_op (e_var rfl) e_int (ro_ix rfl)) (ro_mul (Sz.lit (by have := hx'.2; omega) (by decide)) (hr.1.mono (by decide)))) ro_add) ea_nil) rc_abs
theorem e_least {Γ : List S} {ta tb : TE} {l : List IP} {r : Rat} {E : XK} (h1 : Ev K ta Γ (.lst (l.map pairD))) (h2 : Ev K tb Γ (rat r)) (hz : l.length ≤ 3000) (hp : ∀ p ∈ l, Pd p) (hr : Sr 3000 r) : Ev K (tCall (spV K R_law_least) [] E (tCons ta (tCons tb tNil))) Γ (intO (leastM l r)) :=
  e_call (ea_cons h1 (ea_cons h2 ea_nil)) ⟨l, r, rfl, hz, hp, hr, rfl⟩
abbrev N_law_free : List Str := ["_law_a_count", "_law_b_count", "_law_rows", "_law_found", "_law_one", "_law_other", "_law_steps_here"]
theorem sc_law_free : FnScope N_law_free ["_law_a_count", "_law_b_count"] (defScope JA.s_law_free) := ⟨rfl, rfl, rfl, by decide +kernel, rfl, by decide +kernel, by decide +kernel⟩
def R_law_free : List D → D → Prop := fun ds d => ∃ a b : Int, ds = [.int a, .int b] ∧ 0 ≤ a ∧ 0 ≤ b ∧ 1 ≤ a + b ∧ a + b ≤ 8 ∧ lpM a b ≠ [] ∧ d = .lst ((freeM a b).map lcoupD)
theorem c_law_free (T : Tx K mg) : Cal P w K mg base 3 "_law_free" (spV K R_law_free) [] := by
  refine cal_V (T.glo 61) (T.says.1.def_ 61) sc_law_free (fun ds d h => ?_) (fun _ _ _ _ _ _ us hl => match us, hl with | [_, _], _ => rfl) fun cdv A outer s H E hRm ds d h => ?_
  · obtain ⟨a, b, rfl, _⟩ := h
    rfl
  · obtain ⟨a, b, rfl, ha, hb, h1, h8, hne, rfl⟩ := h
    refine ⟨_, (pss_cons (ps_set (i := 2) sc_law_free.nd rfl (by first | exact Or.inl rfl | exact Or.inr rfl) (C8.pe_c (c_law_patterns T) hRm (by decide) (by rfl) (pa_cons (pv 0) (pa_cons (pv 1) pa_nil))))
    (pss_cons (ps_if (pt_cmpR (op_eqD hRm.units) (pe_op op_addX (pv 0) (pv 1)) pe_int (nomark _)) (pss_one (ps_ret (pe_lst (pa_cons (pe_lst (pa_cons (pe_ix ix_seq (pv 2) pe_int (fun _ _ => rfl)) (pa_cons (pe_ix ix_seq (pv 2) pe_int (fun _ _ => rfl)) (pa_cons (pe_lst pa_nil) pa_nil)))) pa_nil)))) pss_nil)
    (pss_cons (ps_set (i := 3) sc_law_free.nd rfl (by first | exact Or.inl rfl | exact Or.inr rfl) (pe_lst pa_nil))
    (pss_cons (ps_for PassesOwn.never rfl (pi_list (pv 2)) (pg_name (i := 4) sc_law_free.nd rfl (by first | exact Or.inl rfl | exact Or.inr rfl)) (pss_one (ps_for PassesOwn.never rfl (pi_list (pv 2)) (pg_name (i := 5) sc_law_free.nd rfl (by first | exact Or.inl rfl | exact Or.inr rfl)) (pss_one (ps_if (PW.pt (pw_and (pt_cmpR (op_eqD hRm.units) (pe_ix ix_seq (pv 4) pe_int (fun _ _ => rfl)) pe_int (nomark _)) (pw_and (pt_cmpR (op_eqD hRm.units) (pe_ix ix_seq (pv 5) pe_int (fun _ _ => rfl)) pe_int (nomark _)) (pw_and1 (pt_cmpR (op_neD hRm.units) (pe_ix ix_seq (pv 4) (pe_un un_neg pe_int) (fun _ _ => rfl)) (pe_ix ix_seq (pv 5) (pe_un un_neg pe_int) (fun _ _ => rfl)) (nomark _)))))) (pss_cons (ps_set (i := 6) sc_law_free.nd rfl (by first | exact Or.inl rfl | exact Or.inr rfl) (C8.pe_c (c_law_steps T) hRm (by decide) (by rfl) (pa_cons (pv 4) (pa_cons (pv 5) pa_nil))))
    (pss_one (ps_if (pt_cmpR (op_notInD (u65 hRm)) (pe_tup (pa_cons pe_int (pa_cons pe_int pa_nil))) (pv 6) (by rfl)) (pss_one (ps_expr (pe_bm PySem.F.plainAttrs_list PySem.F.slot_list_append PySem.F.type_list_append mt_append (pv 3) (pa_cons (pe_lst (pa_cons (pv 4) (pa_cons (pv 5) (pa_cons (pv 6) pa_nil)))) pa_nil)))) pss_nil))) pss_nil)))))
    (pss_one (ps_ret (pv 3))))))), ?_⟩
    obtain ⟨hlen, hpat'⟩ := lpM_ok ha hb h1 h8
    have hpat : ∀ r ∈ lpM a b, patL r := fun r hr => (hpat' r hr).1
    refine s_seq (s_asgV (e_lpat (e_var rfl) (e_var rfl) ha hb h8) ?_)
    unfold freeM
    by_cases hone : a + b = 1
    · rw [if_pos hone]
      refine s_seq (s_ifT (t_imp (t_test (e_op (e_op (e_var rfl) (e_var rfl) ro_add) e_int ro_eq)) fun x e => e.trans (decide_eq_true hone)) ?_)
      have h0 : (D.lst ((lpM a b).map row)).at 0 = some (row ((lpM a b).headD [])) := by
        cases hq : lpM a b with
        | nil => exact absurd hq hne
        | cons r rs => exact atI_0
      exact s_retV (e_lst (ea_cons (e_lst (ea_cons (e_op (e_var rfl) e_int (ro_ix h0)) (ea_cons (e_op (e_var rfl) e_int (ro_ix h0)) (ea_cons (e_lst ea_nil (of_decide_eq_true rfl)) ea_nil))) (of_decide_eq_true rfl)) ea_nil) (of_decide_eq_true rfl)) rfl
    · rw [if_neg hone]
      refine s_seq (s_ifF (t_imp (t_test (e_op (e_op (e_var rfl) (e_var rfl) ro_add) e_int ro_eq)) fun x e => e.trans (decide_eq_false hone)) (s_next ?_))
      generalize lpM a b = rs at *
      refine s_seq (s_asgLV (l_lst ea_nil (of_decide_eq_true rfl)) ?_)
      refine s_mid (fun Γ => ∃ u v t, Γ = [.val (.int a), .val (.int b), .val (.lst (rs.map row)), .own (.lst (((pairs rs rs).filterMap lcoupOf).map lcoupD)), u, v, t]) ?_ fun Γ' hΓ => ?_
      · refine s_forL (vs := [4]) rs row (fun pre Γ => ∃ u v t, Γ = [.val (.int a), .val (.int b), .val (.lst (rs.map row)), .own (.lst (((pairs pre rs).filterMap lcoupOf).map lcoupD)), u, v, t]) (i_list (e_var rfl)) ⟨.no, .no, .no, rfl⟩ (fun pre x post Γ1 e iv => ⟨_, g_name, ?_⟩) fun Γ1 iv => iv
        obtain ⟨u, v, t, rfl⟩ := iv
        refine s_forL (vs := [5]) rs row (fun pre2 Γ => ∃ v t, Γ = [.val (.int a), .val (.int b), .val (.lst (rs.map row)), .own (.lst (((pairs pre rs ++ pre2.map fun y => (x, y)).filterMap lcoupOf).map lcoupD)), .val (row x), v, t]) (i_list (e_var rfl)) ⟨v, t, by rw [List.map_nil, List.append_nil]; rfl⟩ (fun pre2 y post2 Γ1 e2 iv => ⟨_, g_name, ?_⟩) fun Γ1 iv => ?_
        · obtain ⟨v, t, rfl⟩ := iv
          have hx := hpat x (by rw [e]; simp)
          have hy := hpat y (by rw [e2]; simp)
          have hxi : (row x).items = some (x.map D.int) := rfl
          have hyi : (row y).items = some (y.map D.int) := rfl
          have hz : (((pairs pre rs ++ pre2.map fun y => (x, y)).filterMap lcoupOf).map lcoupD).length < 100000 := by
            rw [List.length_map]
            refine Nat.lt_of_le_of_lt (List.length_filterMap_le _ _) ?_
            rw [List.length_append, pairs_len, List.length_map]
            have h2 : pre.length * rs.length ≤ 256 * 256 := Nat.mul_le_mul (by rw [e, List.length_append] at hlen; omega) hlen
            have h3 : pre2.length ≤ 256 := by rw [e2, List.length_append] at hlen; omega
            omega
          rw [show (pairs pre rs ++ (pre2 ++ [y]).map fun y => (x, y)).filterMap lcoupOf = ((pairs pre rs ++ pre2.map fun y => (x, y)).filterMap lcoupOf) ++ ([(x, y)].filterMap lcoupOf) by rw [List.map_append, ← List.append_assoc, List.filterMap_append]; rfl, List.map_append]
          refine s_ifB (t_and (t_test (e_op (e_op (e_var rfl) e_int (ro_ix (row_at0 hx.1))) e_int ro_eq)) fun _ => t_and (t_test (e_op (e_op (e_var rfl) e_int (ro_ix (row_at0 hy.1))) e_int ro_eq)) fun _ => t_test (e_op (e_op (e_var rfl) (e_un e_int ru_neg) (ro_ix (row_atL hx.1))) (e_op (e_var rfl) (e_un e_int ru_neg) (ro_ix (row_atL hy.1))) ro_ne)) (fun c => ?_) fun c => ?_
          · refine s_seq (s_asgV (e_lsteps (e_var rfl) (e_var rfl) hxi hx hyi hy) ?_)
            refine s_ifB (t_test (e_op (x := pairD (0, 0)) (e_tup (ea_cons e_int (ea_cons e_int ea_nil)) (of_decide_eq_true rfl)) (e_var rfl) (ro_notIn (shp_pair _ _) (shp_pairs 48 _)))) (fun c2 => ?_) fun c2 => ?_
            · rw [any_pair] at c2
              have c2' : ¬ (decide (((0, 0) : IP) ∈ rsteps x y) = true) := by simpa using c2
              have eO : [(x, y)].filterMap lcoupOf = [(x, y, rsteps x y)] := by
                simp only [List.filterMap_cons, List.filterMap_nil]
                have : lcoupOf (x, y) = some (x, y, rsteps x y) := by
                  unfold lcoupOf
                  rw [if_pos c, if_neg c2']
                rw [this]
              rw [eO]
              exact s_appV rfl (e_lst (ea_cons (e_var rfl) (ea_cons (e_var rfl) (ea_cons (e_var rfl) ea_nil))) (of_decide_eq_true rfl)) hz ⟨_, Le.refl _, _, _, rfl⟩
            · rw [any_pair] at c2
              have c2' : decide (((0, 0) : IP) ∈ rsteps x y) = true := by simpa using c2
              have eO : [(x, y)].filterMap lcoupOf = [] := by
                simp only [List.filterMap_cons, List.filterMap_nil]
                have : lcoupOf (x, y) = none := by
                  unfold lcoupOf
                  rw [if_pos c, if_pos c2']
                rw [this]
              rw [eO, List.map_nil, List.append_nil]
              exact s_next ⟨_, Le.refl _, _, _, rfl⟩
          · have eO : [(x, y)].filterMap lcoupOf = [] := by
              simp only [List.filterMap_cons, List.filterMap_nil]
              have : lcoupOf (x, y) = none := by
                unfold lcoupOf
                rw [if_neg (by rw [c]; exact Bool.false_ne_true)]
              rw [this]
            rw [eO, List.map_nil, List.append_nil]
            exact s_next ⟨_, Le.refl _, _, _, rfl⟩
        · obtain ⟨v, t, rfl⟩ := iv
          rw [pairs_snoc]
          exact ⟨_, Le.refl _, _, _, _, rfl⟩
      · obtain ⟨u, v, t, rfl⟩ := hΓ
        exact s_frz 3 rfl (s_retV (e_var rfl) rfl)
end
end JD
set_option maxHeartbeats 4000000
namespace JD
open PySem PySem.Spec PyProof.Rows L2
open C8 (Cal Mak)
/-! ### the law: the ratios -/
/-- a promise that gives a new tuple of numbers and texts -/
def spT (K : PySem.W.Frag) (R : List D → List Key → Prop) : Sp := fun vs H Q _ => ∃ B ds ks, R ds ks ∧ RepL K B vs ds ∧ Same B H ∧ ∀ B' H' b, Go none B H B' H' → B' b = some (.tup (ks.map kV)) → Q (.ref b) H'
section
variable {K : PySem.W.Frag} {Γ : List S} {tv : TE} {ta : TA} {d : D} {Ψ : Post}
/-- d[f(..)] = v, f giving a new tuple -/
theorem s_putC {i : Nat} {kvs : List (List Key × D)} {ks : List Key} {ds : List D} {R : List D → List Key → Prop} {E : XK} (ei : Γ[i]? = some (.own (.dT kvs))) (hv : Ev K tv Γ d) (ha : Ea K ta Γ fun z => z = ds) (hR : R ds ks) (hz : kvs.length < 100000)
    (q : Ψ.nx (Γ.set i (.own (.dT (putD kvs ks d))))) : Es K (sDPut (tVar i) (tCall (spT K R) [] E ta) tv) Γ Ψ := fun hd fr B H σ Dd S0 k1 k2 k3 k4 => by
  refine hv hd fr B H σ _ S0 fun B1 H1 v x g1 r1 p1 => ?_
  subst p1
  obtain ⟨l, u, e1, f, n, hl1, rr, kk⟩ := (S0.go g1).slot i _ ei
  refine ⟨.ref l, e1, ha hd fr B1 H1 σ _ (S0.go g1) fun B2 H2 vs zs g2 r2 p2 => ?_⟩
  subst p2
  refine ⟨B2, zs, ks, hR, by rw [List.append_nil]; exact r2, g2.sub, fun B3 H3 b g3 hb => ?_⟩
  have g := (g1.trans g2).trans (g3.up g2.hand)
  have S3 := S0.go g
  obtain ⟨l', u', e1', f', n', hl', rr', kk'⟩ := S3.slot i _ ei
  rw [e1] at e1'
  cases Option.some.inj (Option.some.inj e1')
  cases u' with
  | dT xs =>
    have rx : RepKV K B3 xs kvs := rr'
    have rv := (r1.mono g2.ext).mono g3.ext
    obtain ⟨S4, g4⟩ := S3.upd_own (u' := .dT (putK xs ks v)) (o' := .dT (putD kvs ks _)) ei e1 (repKV_put rx ks rv)
    refine ⟨l, _, rfl, DPut.t (k := ks) hl' (g3.sub _ _ hb) (by rw [repKV_len rx]; exact Nat.lt_of_lt_of_le hz (by rw [sizeLine_eq]; decide)), ?_⟩
    exact k1 _ _ σ _ (g.gs.trans g4) S4 q
  | _ => exact rr'.elim
end
def kr (r : Rat) : List Key := [.inl r.num, .inl r.den]
theorem kr_inj {p q : Rat} : kr p = kr q ↔ p = q := by
  constructor
  · intro h
    unfold kr at h
    injection h with h1 h2
    injection h2 with h2 h3
    injection h1 with h1
    injection h2 with h2
    exact Rat.ext h1 (Int.ofNat.inj h2)
  · rintro rfl; rfl
def addR (l : List Rat) (p : Rat) : List Rat := if decide (p ∈ l) = true then l else l ++ [p]
theorem put_addR (l : List Rat) (p : Rat) : putD (l.map fun q => (kr q, D.bl true)) (kr p) (.bl true) = (addR l p).map fun q => (kr q, D.bl true) := by
  unfold putD addR
  have h : ((l.map fun q => (kr q, D.bl true)).any fun kv => decide (kv.1 = kr p)) = decide (p ∈ l) := by
    rw [List.any_map]
    rw [Bool.eq_iff_iff, List.any_eq_true]
    constructor
    · rintro ⟨q, hq, e⟩
      have : q = p := kr_inj.mp (of_decide_eq_true e)
      exact decide_eq_true (this ▸ hq)
    · intro e
      exact ⟨p, of_decide_eq_true e, decide_eq_true rfl⟩
  rw [h]
  by_cases c : decide (p ∈ l) = true
  · rw [if_pos c, if_pos c, List.map_map]
    refine List.map_congr_left fun q hq => ?_
    show (if kr q = kr p then (kr q, D.bl true) else (kr q, D.bl true)) = _
    split <;> rfl
  · rw [if_neg c, if_neg c, List.map_append]
    rfl
theorem addR_len (l : List Rat) (p : Rat) : (addR l p).length ≤ l.length + 1 := by
  unfold addR
  split
  · omega
  · simp
def eqRow (acc : List Rat) (a low : Int) : List Rat := (rng (low + 1) (2 * a + 1)).foldl (fun acc top => addR acc (Rat.divInt top low)) acc
def eqFound (a b : Int) : List Rat := (rng 1 (2 * b + 1)).foldl (fun acc low => eqRow acc a low) []
def lcmF (l : List Rat) : Int := l.foldl (fun w r => w / ((Nat.gcd w.natAbs (r.den : Int).natAbs : Nat) : Int) * r.den) 1
def ascEnts (W : Int) (l : List Rat) : List (Int × Rat) := l.foldl (fun acc r => putR acc (r.num * (W / r.den)) r) []
def ascM (l : List Rat) : List Rat := sortedR (ascEnts (lcmF l) l)
def ascOk (l : List Rat) : Bool := (List.range (l.length + 1)).all fun n => decide (1 ≤ lcmF (l.take n)) && decide (lcmF (l.take n) < 1000000)
def equalAt (a b : Int) : List Rat := ascM (eqFound a b)
theorem asc_pre (W : Int) : ∀ (l : List Rat) (acc : List (Int × Rat)), (∀ kv ∈ acc, Sr 20 kv.2) → (∀ r ∈ l, Sr 20 r) → (∀ kv ∈ l.foldl (fun acc r => putR acc (r.num * (W / r.den)) r) acc, Sr 20 kv.2) ∧ (l.foldl (fun acc r => putR acc (r.num * (W / r.den)) r) acc).length ≤ acc.length + l.length
  | [], acc, h, _ => ⟨h, by simp⟩
  | r :: l, acc, h, hl => by
    rw [List.foldl_cons]
    obtain ⟨h1, h2⟩ := asc_pre W l (putR acc (r.num * (W / r.den)) r) (fun kv hkv => by
      rcases putR_mem kv hkv with e | e
      · exact h kv e
      · rw [e]; exact hl r (List.mem_cons_self ..)) fun q hq => hl q (List.mem_cons_of_mem _ hq)
    refine ⟨h1, Nat.le_trans h2 ?_⟩
    have := putR_len acc (r.num * (W / r.den)) r
    simp only [List.length_cons]
    omega
section
variable {P : Program} {w : World} {K : PySem.W.Frag} {mg : Str → Option Value} {base : Heap}

def RT_law_ratio : List D → List Key → Prop := fun ds ks => ∃ t b : Int, ds = [.int t, .int b] ∧ 0 < b ∧ Sz 8000 t ∧ Sz 8000 b ∧ ks = kr (Rat.divInt t b)
theorem cT_law_ratio (T : Tx K mg) : Cal P w K mg base 2 "_law_ratio" (spT K RT_law_ratio) [] := by
  obtain ⟨fd, F⟩ := T.says.1.def_ 50
  refine ⟨_, fd, ["_law_top", "_law_bottom"], [], F.ok sc_law_ratio (fun vs H Q E h => ?_) (fun cdv A outer s H vs Q E hRm h => ?_), T.glo 50, F.kp, F.bindsN fun _ _ _ _ _ _ us hl => match us, hl with | [_, _], _ => rfl, .nil⟩
  · obtain ⟨B, ds, ks, ⟨t, b, rfl, _⟩, r, _⟩ := h
    rw [r.length]
    rfl
  · obtain ⟨B, ds, ks, ⟨t, b, rfl, hb, ht, hbs, rfl⟩, r, ss, q⟩ := h
    refine ⟨_, PSs.nox (pss_cons (ps_set (i := 2) sc_law_ratio.nd rfl (by first | exact Or.inl rfl | exact Or.inr rfl) (C8.pe_c (c_law_gcd T) hRm (by decide) (by rfl) (pa_cons (pv 0) (pa_cons (pv 1) pa_nil))))
    (pss_one (ps_ret (pe_tup (pa_cons (pe_op op_fdivW (pv 0) (pv 2)) (pa_cons (pe_op op_fdivW (pv 1) (pv 2)) pa_nil)))))), ?_⟩
    obtain ⟨e1, e2⟩ := divInt_eq t b hb
    have hg : 0 < ((Nat.gcd t.natAbs b.natAbs : Nat) : Int) := Int.natCast_pos.mpr (Nat.gcd_pos_of_pos_right _ (by omega))
    have hgs : Sz 8999 ((Nat.gcd t.natAbs b.natAbs : Nat) : Int) := (Sz.le hbs (by rw [Int.natAbs_natCast]; exact Nat.le_of_dvd (by omega) (Nat.gcd_dvd_right _ _))).mono (by decide)
    have S0 := sx_start (hd := none) (ds := [.int t, .int b]) ss hd_none r 1
    have el : L2.start N_law_ratio vs = vs.map some ++ List.replicate 1 none := by
      unfold L2.start
      rw [r.length]
      rfl
    rw [el]
    refine es_use (M := fun Γ => Γ = [.val (.int t), .val (.int b), .val (.int ((Nat.gcd t.natAbs b.natAbs : Nat) : Int))]) (s_asgV (e_lgcd (e_var rfl) (e_var rfl) ht hbs) rfl) S0 fun B1 H1 σ1 Γ1 g1 S1 e => ?_
    subst e
    have fin : ∀ {B' H' : Hp}, Gs none (fun a => H a = none) B H B' H' → Same B' H' → Go none B H B' H' := fun {B' H'} g s' => ⟨g.ext, s', fun a o t e n _ => g.keep a o t e n (fun z => by rw [z] at e; cases e) (fun _ z => by cases z), g.tups, hd_none⟩
    unfold tRet tTup
    refine (ea_cons (e_op (e_var (i := 0) rfl) (e_var (i := 2) rfl) (ro_div hg hgs)) (ea_cons (e_op (e_var (i := 1) rfl) (e_var (i := 2) rfl) (ro_div hg hgs)) ea_nil)) none _ B1 H1 σ1 _ S1 fun B2 H2 vs2 zs g2 r2 p2 => ?_
    subst p2
    have ev : vs2 = (kr (Rat.divInt t b)).map kV := by
      have : vs2 = ([.inl (t / ((Nat.gcd t.natAbs b.natAbs : Nat) : Int)), .inl (b / ((Nat.gcd t.natAbs b.natAbs : Nat) : Int))] : List Key).map kV := repL_keys r2
      rw [e1, e2] at this
      exact this
    refine ⟨by rw [ev]; show 2 ≤ sizeLine; decide, fun p hp => ?_⟩
    have g3 := g2.alloc (o := .tup vs2) hp
    exact q _ _ p (fin (g1.trans g3.gs) g3.sub) (by rw [upd_same, ev])

abbrev N_law_ascending : List Str := ["_law_ratios", "_law_whole", "_law_ratio_here", "_law_keys", "_law_key"]
theorem sc_law_ascending : FnScope N_law_ascending ["_law_ratios"] (defScope JA.s_law_ascending) := ⟨rfl, rfl, rfl, by decide +kernel, rfl, by decide +kernel, by decide +kernel⟩
def R_law_ascending : List D → D → Prop := fun ds d => ∃ l : List Rat, ds = [.lst (l.map rat)] ∧ (∀ r ∈ l, Sr 20 r) ∧ l.length ≤ 1000 ∧ ascOk l = true ∧ d = .lst ((ascM l).map rat)
theorem c_law_ascending (T : Tx K mg) : Cal P w K mg base 2 "_law_ascending" (spV K R_law_ascending) [] := by
  refine cal_V (T.glo 62) (T.says.1.def_ 62) sc_law_ascending (fun ds d h => ?_) (fun _ _ _ _ _ _ us hl => match us, hl with | [_], _ => rfl) fun cdv A outer s H E hRm ds d h => ?_
  · obtain ⟨l, rfl, _⟩ := h
    rfl
  · obtain ⟨l, rfl, hl, hlen, hok, rfl⟩ := h
    have hW : ∀ pre : List Rat, pre <+: l → 1 ≤ lcmF pre ∧ lcmF pre < 1000000 := fun pre hp => by
      have := List.all_eq_true.mp hok pre.length (List.mem_range.mpr (by have := hp.length_le; omega))
      rw [← List.prefix_iff_eq_take.mp hp] at this
      simp only [Bool.and_eq_true, decide_eq_true_eq] at this
      exact this
    refine ⟨_, (pss_cons (ps_set (i := 1) sc_law_ascending.nd rfl (by first | exact Or.inl rfl | exact Or.inr rfl) pe_int)
    (pss_cons (ps_for PassesOwn.never rfl (pi_list (pv 0)) (pg_name (i := 2) sc_law_ascending.nd rfl (by first | exact Or.inl rfl | exact Or.inr rfl)) (pss_one (ps_set (i := 1) sc_law_ascending.nd rfl (by first | exact Or.inl rfl | exact Or.inr rfl) (pe_op op_mulX (pe_op op_fdivW (pv 1) (C8.pe_c (c_law_gcd T) hRm (by decide) (by rfl) (pa_cons (pv 1) (pa_cons (pe_ix ix_seq (pv 2) pe_int (fun _ _ => rfl)) pa_nil)))) (pe_ix ix_seq (pv 2) pe_int (fun _ _ => rfl))))))
    (pss_cons (ps_set (i := 3) sc_law_ascending.nd rfl (by first | exact Or.inl rfl | exact Or.inr rfl) pe_dnewK)
    (pss_cons (ps_for PassesOwn.never rfl (pi_list (pv 0)) (pg_name (i := 2) sc_law_ascending.nd rfl (by first | exact Or.inl rfl | exact Or.inr rfl)) (pss_one (ps_dput (hu_of hRm) (pv 3) (pe_op op_mulX (pe_ix ix_seq (pv 2) pe_int (fun _ _ => rfl)) (pe_op op_fdivW (pv 1) (pe_ix ix_seq (pv 2) pe_int (fun _ _ => rfl)))) (pv 2) rfl)))
    (pss_one (ps_ret (pe_lc (own := [("_law_key", 4)]) (g := gName 4) (by rfl) sc_law_ascending.nd (pi_list (pe_callB cr_sortedI (by rfl) (T.free 102) (by decide +kernel) (pa_cons (pe_callTy (call_listDK rfl) (by rfl) (T.free 96) (by decide +kernel) (pa_cons (pv 3) pa_nil)) pa_nil))) (blkOk_by (own := [("_law_key", 4)]) (N := N_law_ascending) (sc := defScope JA.s_law_ascending) (by decide +kernel)) (fun _ _ _ _ _ => (pg_name (i := 4) sc_law_ascending.nd rfl (by first | exact Or.inl rfl | exact Or.inr rfl))) (fun _ _ _ _ _ => pts_nil) (fun _ _ _ _ _ => (pe_dget (hu_of hRm) (pv 3) (pv 4) (fun _ _ => rfl)))))))))), ?_⟩
    refine s_seq (s_asgV e_int ?_)
    refine s_mid (fun Γ => ∃ u v t, Γ = [.val (.lst (l.map rat)), .val (.int (lcmF l)), u, v, t]) ?_ fun Γ' hΓ => ?_
    · refine s_forL (vs := [2]) l rat (fun pre Γ => ∃ u v t, Γ = [.val (.lst (l.map rat)), .val (.int (lcmF pre)), u, v, t]) (i_list (e_var rfl)) ⟨.no, .no, .no, rfl⟩ (fun pre r post Γ1 e iv => ⟨_, g_name, ?_⟩) fun Γ1 iv => iv
      obtain ⟨u, v, t, rfl⟩ := iv
      have hr := hl r (by rw [e]; simp)
      obtain ⟨w1, w2⟩ := hW pre (by rw [e]; exact List.prefix_append _ _)
      have eL : lcmF (pre ++ [r]) = lcmF pre / ((Nat.gcd (lcmF pre).natAbs (r.den : Int).natAbs : Nat) : Int) * r.den := by unfold lcmF; rw [List.foldl_append]; rfl
      rw [eL]
      generalize lcmF pre = W at *
      have sW : Sz 20 W := Sz.lit (by omega) (by decide)
      have hg : 0 < ((Nat.gcd W.natAbs (r.den : Int).natAbs : Nat) : Int) := Int.natCast_pos.mpr (Nat.gcd_pos_of_pos_left _ (by omega))
      have hgs : Sz 8999 ((Nat.gcd W.natAbs (r.den : Int).natAbs : Nat) : Int) := (Sz.le sW (by rw [Int.natAbs_natCast]; exact Nat.le_of_dvd (by omega) (Nat.gcd_dvd_left _ _))).mono (by decide)
      exact s_asgV (e_op (e_op (e_var rfl) (e_lgcd (e_var rfl) (e_op (e_var rfl) e_int (ro_ix rfl)) (sW.mono (by decide)) (hr.2.mono (by decide))) (ro_div hg hgs)) (e_op (e_var rfl) e_int (ro_ix rfl)) (ro_mul ((Sz.div sW).mono (by decide)) (hr.2.mono (by decide)))) ⟨_, Le.refl _, _, _, _, rfl⟩
    · obtain ⟨u, v, t, rfl⟩ := hΓ
      obtain ⟨w1, w2⟩ := hW l (List.prefix_refl l)
      unfold ascM
      generalize lcmF l = W at *
      have sW : Sz 20 W := Sz.lit (by omega) (by decide)
      refine s_seq (s_newK ?_)
      refine s_mid (fun Γ => ∃ u t, Γ = [.val (.lst (l.map rat)), .val (.int W), u, .own (.dK ((ascEnts W l).map kvR)), t]) ?_ fun Γ' hΓ => ?_
      · refine s_forL (vs := [2]) l rat (fun pre Γ => ∃ u t, Γ = [.val (.lst (l.map rat)), .val (.int W), u, .own (.dK ((pre.foldl (fun acc r => putR acc (r.num * (W / r.den)) r) []).map kvR)), t]) (i_list (e_var rfl)) ⟨_, _, rfl⟩ (fun pre r post Γ1 e iv => ⟨_, g_name, ?_⟩) fun Γ1 iv => iv
        obtain ⟨u, t, rfl⟩ := iv
        have hr := hl r (by rw [e]; simp)
        have hpre := (asc_pre W pre [] (fun _ h => by cases h) fun q hq => hl q (by rw [e]; simp [hq])).2
        rw [List.foldl_append, List.foldl_cons, List.foldl_nil, ← putR_D]
        have hdp := den_pos r
        refine s_putK (k := .inl (r.num * (W / r.den))) rfl (e_var rfl) (e_op (e_op (e_var rfl) e_int (ro_ix rfl)) (e_op (e_var rfl) (e_op (e_var rfl) e_int (ro_ix rfl)) (ro_div hdp (hr.2.mono (by decide)))) (ro_mul (hr.1.mono (by decide)) ((Sz.div sW).mono (by decide)))) ?_ ⟨_, Le.refl _, _, _, rfl⟩
        rw [List.length_map]
        have : pre.length ≤ 1000 := by rw [e, List.length_append] at hlen; omega
        simp only [List.length_nil] at hpre
        omega
      · obtain ⟨u, t, rfl⟩ := hΓ
        have hk2 := (asc_pre W l [] (fun _ h => by cases h) hl).2
        have hk2' : (ascEnts W l).length ≤ 1000 := by
          unfold ascEnts
          simp only [List.length_nil] at hk2
          omega
        generalize ascEnts W l = en at *
        have ek : (en.map kvR).map (fun kv => keyD kv.1) = (en.map (·.1)).map D.int := by
          rw [List.map_map, List.map_map]
          rfl
        have hv : ∀ k ∈ isort (en.map (·.1)), ∃ r, valR en k = some r := fun k hk => by
          obtain ⟨r, hr, _⟩ := valR_some ((isort_perm _).mem_iff.mp hk)
          exact ⟨r, hr⟩
        have eb : (sortedR en).map rat = (isort (en.map (·.1))).map fun k => rat ((valR en k).getD 0) := by
          unfold sortedR
          generalize isort (en.map (·.1)) = l at *
          clear ek
          induction l with
          | nil => rfl
          | cons k l ih =>
            obtain ⟨r, hr⟩ := hv k (List.mem_cons_self ..)
            have := ih (fun k hk => hv k (List.mem_cons_of_mem _ hk))
            rw [List.filterMap_cons, hr, List.map_cons, List.map_cons, this, hr]
            rfl
        rw [eb]
        refine s_ret (EL.ev (l_map (isort (en.map (·.1))) D.int (fun k => rat ((valR en k).getD 0)) (i_list (EL.ev (l_cb (ea_cons (e_imp' (l_listDK rfl) ek).ev ea_nil) rl_sortedE))) ?_ fun k hk => ⟨_, g_name, ?_⟩)) fun d hd => hd
        · rw [(isort_perm _).length_eq, List.length_map]
          omega
        · obtain ⟨r, hr⟩ := hv k hk
          rw [hr]
          exact e_getK (k := .inl k) rfl (e_var rfl) (by rw [valR_D, hr]; rfl)
theorem eqRow_ok {a low : Int} (ha : a ≤ 8) (h0 : 1 ≤ low) (hb : low ≤ 16) : ∀ (l : List Int) (acc : List Rat), (∀ x ∈ l, 0 ≤ x ∧ x ≤ 16) → (∀ r ∈ acc, Sr 20 r) → (∀ r ∈ l.foldl (fun acc top => addR acc (Rat.divInt top low)) acc, Sr 20 r) ∧ (l.foldl (fun acc top => addR acc (Rat.divInt top low)) acc).length ≤ acc.length + l.length
  | [], acc, _, h => ⟨h, by simp⟩
  | x :: l, acc, hx, h => by
    have hx0 := hx x (List.mem_cons_self ..)
    rw [List.foldl_cons]
    obtain ⟨h1, h2⟩ := eqRow_ok ha h0 hb l (addR acc (Rat.divInt x low)) (fun y hy => hx y (List.mem_cons_of_mem _ hy)) fun r hr => by
      unfold addR at hr
      split at hr
      · exact h r hr
      · rcases List.mem_append.mp hr with hr | hr
        · exact h r hr
        · rcases List.mem_singleton.mp hr with rfl
          exact Sr.divInt (Sz.lit (by omega) (by decide)) (Sz.lit (by omega) (by decide)) (by omega)
    refine ⟨h1, Nat.le_trans h2 ?_⟩
    have := addR_len acc (Rat.divInt x low)
    simp only [List.length_cons]
    omega
theorem rng_len {lo hi : Int} : (rng lo hi).length = (hi - lo).toNat := by unfold rng; rw [List.length_map, List.length_range]
theorem eqFound_pre {a : Int} (ha : a ≤ 8) : ∀ (l : List Int) (acc : List Rat), (∀ x ∈ l, 1 ≤ x ∧ x ≤ 16) → (∀ r ∈ acc, Sr 20 r) → (∀ r ∈ l.foldl (fun acc low => eqRow acc a low) acc, Sr 20 r) ∧ (l.foldl (fun acc low => eqRow acc a low) acc).length ≤ acc.length + 16 * l.length
  | [], acc, _, h => ⟨h, by simp⟩
  | x :: l, acc, hx, h => by
    have hx0 := hx x (List.mem_cons_self ..)
    obtain ⟨e1, e2⟩ := eqRow_ok (low := x) ha hx0.1 hx0.2 (rng (x + 1) (2 * a + 1)) acc (fun y hy => by have := rng_mem hy; omega) h
    obtain ⟨h1, h2⟩ := eqFound_pre ha l (eqRow acc a x) (fun y hy => hx y (List.mem_cons_of_mem _ hy)) e1
    refine ⟨h1, Nat.le_trans h2 ?_⟩
    rw [rng_len] at e2
    unfold eqRow
    simp only [List.length_cons]
    omega
theorem eqFound_ok {a b : Int} (ha : a ≤ 8) (hb : b ≤ 8) : (∀ r ∈ eqFound a b, Sr 20 r) ∧ (eqFound a b).length ≤ 256 := by
  obtain ⟨h1, h2⟩ := eqFound_pre ha (rng 1 (2 * b + 1)) [] (fun x hx => by have := rng_mem hx; omega) fun _ h => by cases h
  refine ⟨h1, Nat.le_trans h2 ?_⟩
  rw [rng_len, List.length_nil]
  omega
theorem ascM_ok {l : List Rat} (hl : ∀ r ∈ l, Sr 20 r) : (∀ r ∈ ascM l, Sr 20 r) ∧ (ascM l).length ≤ l.length := by
  obtain ⟨h1, h2⟩ := asc_pre (lcmF l) l [] (fun _ h => by cases h) hl
  unfold ascM sortedR ascEnts
  constructor
  · intro r hr
    obtain ⟨k, hk, e⟩ := List.mem_filterMap.mp hr
    obtain ⟨r', e', kv, hkv, hr'⟩ := valR_some ((isort_perm _).mem_iff.mp hk)
    rw [e] at e'
    cases Option.some.inj e'
    rw [← hr']
    exact h1 kv hkv
  · refine Nat.le_trans (List.length_filterMap_le _ _) ?_
    rw [(isort_perm _).length_eq, List.length_map]
    simpa using h2
theorem equalAt_ok {a b : Int} (ha : a ≤ 8) (hb : b ≤ 8) : (∀ r ∈ equalAt a b, Sr 20 r) ∧ (equalAt a b).length ≤ 256 := by
  obtain ⟨h1, h2⟩ := eqFound_ok ha hb
  obtain ⟨h3, h4⟩ := ascM_ok h1
  exact ⟨h3, Nat.le_trans h4 h2⟩

abbrev N_law_equal_at : List Str := ["_law_a_count", "_law_b_count", "_law_found", "_law_low", "_law_top"]
theorem sc_law_equal_at : FnScope N_law_equal_at ["_law_a_count", "_law_b_count"] (defScope JA.s_law_equal_at) := ⟨rfl, rfl, rfl, by decide +kernel, rfl, by decide +kernel, by decide +kernel⟩
def R_law_equal_at : List D → D → Prop := fun ds d => ∃ a b : Int, ds = [.int a, .int b] ∧ 0 ≤ a ∧ 0 ≤ b ∧ a ≤ 8 ∧ b ≤ 8 ∧ ascOk (eqFound a b) = true ∧ d = .lst ((equalAt a b).map rat)
theorem c_law_equal_at (T : Tx K mg) : Cal P w K mg base 3 "_law_equal_at" (spV K R_law_equal_at) [] := by
  refine cal_V (T.glo 66) (T.says.1.def_ 66) sc_law_equal_at (fun ds d h => ?_) (fun _ _ _ _ _ _ us hl => match us, hl with | [_, _], _ => rfl) fun cdv A outer s H E hRm ds d h => ?_
  · obtain ⟨a, b, rfl, _⟩ := h
    rfl
  · obtain ⟨a, b, rfl, ha, hb, ha8, hb8, hok, rfl⟩ := h
    refine ⟨_, (pss_cons (ps_set (i := 2) sc_law_equal_at.nd rfl (by first | exact Or.inl rfl | exact Or.inr rfl) pe_dnewT)
    (pss_cons (ps_for PassesOwn.never rfl (pi_range2 (by rfl) (T.free 100) (pa_cons pe_int (pa_cons (pe_op op_addX (pe_op op_mulX pe_int (pv 1)) pe_int) pa_nil))) (pg_name (i := 3) sc_law_equal_at.nd rfl (by first | exact Or.inl rfl | exact Or.inr rfl)) (pss_one (ps_for PassesOwn.never rfl (pi_range2 (by rfl) (T.free 100) (pa_cons (pe_op op_addX (pv 3) pe_int) (pa_cons (pe_op op_addX (pe_op op_mulX pe_int (pv 0)) pe_int) pa_nil))) (pg_name (i := 4) sc_law_equal_at.nd rfl (by first | exact Or.inl rfl | exact Or.inr rfl)) (pss_one (ps_dput (hu_of hRm) (pv 2) (C8.pe_c (cT_law_ratio T) hRm (by decide) (by rfl) (pa_cons (pv 4) (pa_cons (pv 3) pa_nil))) pe_bl rfl)))))
    (pss_one (ps_ret (C8.pe_c (c_law_ascending T) hRm (by decide) (by rfl) (pa_cons (pe_callTy (call_listDT rfl) (by rfl) (T.free 96) (by decide +kernel) (pa_cons (pv 2) pa_nil)) pa_nil)))))), ?_⟩
    have e2 : ∀ {Γ : List S} {i : Nat} {x : Int}, Γ[i]? = some (.val (.int x)) → x.natAbs ≤ 1000 → Ev K (tOp (rAddX K) (tOp rMulX (tC (.int 2)) (tVar i)) (tC (.int 1))) Γ (.int (2 * x + 1)) := fun h hx => e_op (e_op e_int (e_var h) (ro_mul (Sz.lit (by decide) (by decide)) (Sz.lit (by omega) (by decide)))) e_int ro_add
    have kd : ∀ (l : List Rat), (l.map fun q => (kr q, D.bl true)).map (fun kv => D.tup (kv.1.map keyD)) = l.map rat := fun l => by rw [List.map_map]; rfl
    obtain ⟨f1, f2⟩ := eqFound_ok ha8 hb8
    refine s_seq (s_newT ?_)
    refine s_mid (fun Γ => ∃ u v, Γ = [.val (.int a), .val (.int b), .own (.dT ((eqFound a b).map fun q => (kr q, D.bl true))), u, v]) ?_ fun Γ' hΓ => ?_
    · refine s_forL (vs := [3]) (rng 1 (2 * b + 1)) D.int (fun pre Γ => ∃ u v, Γ = [.val (.int a), .val (.int b), .own (.dT ((pre.foldl (fun acc low => eqRow acc a low) []).map fun q => (kr q, D.bl true))), u, v]) (by rw [← rng_D]; exact i_rng2 (ea_cons e_int (ea_cons (e2 rfl (by omega)) ea_nil)) (by omega) (by omega)) ⟨.no, .no, rfl⟩ (fun pre low post Γ1 e iv => ⟨_, g_name, ?_⟩) fun Γ1 iv => iv
      obtain ⟨u, v, rfl⟩ := iv
      have hm := rng_mem (lo := 1) (hi := 2 * b + 1) (x := low) (by rw [e]; simp)
      have hpre := eqFound_pre (a := a) ha8 pre [] (fun x hx => by have := rng_mem (lo := 1) (hi := 2 * b + 1) (x := x) (by rw [e]; simp [hx]); omega) (fun _ h => by cases h)
      have hpl : pre.length ≤ 16 := by
        have := congrArg List.length e
        rw [rng_len, List.length_append] at this
        omega
      rw [List.foldl_append, List.foldl_cons, List.foldl_nil]
      generalize pre.foldl (fun acc low => eqRow acc a low) [] = acc at *
      unfold eqRow
      refine s_forL (vs := [4]) (rng (low + 1) (2 * a + 1)) D.int (fun pre2 Γ => ∃ v, Γ = [.val (.int a), .val (.int b), .own (.dT ((pre2.foldl (fun acc top => addR acc (Rat.divInt top low)) acc).map fun q => (kr q, D.bl true))), .val (.int low), v]) (by rw [← rng_D]; exact i_rng2 (ea_cons (e_op (e_var rfl) e_int ro_add) (ea_cons (e2 rfl (by omega)) ea_nil)) (by omega) (by omega)) ⟨_, rfl⟩ (fun pre2 top post2 Γ1 e2 iv => ⟨_, g_name, ?_⟩) fun Γ1 iv => ?_
      · obtain ⟨v, rfl⟩ := iv
        have hm2 := rng_mem (lo := low + 1) (hi := 2 * a + 1) (x := top) (by rw [e2]; simp)
        have hp2 := (eqRow_ok (low := low) ha8 (by omega) (by omega) pre2 acc (fun x hx => by have := rng_mem (lo := low + 1) (hi := 2 * a + 1) (x := x) (by rw [e2]; simp [hx]); omega) hpre.1).2
        rw [List.foldl_append, List.foldl_cons, List.foldl_nil, ← put_addR]
        refine s_putC (ks := kr (Rat.divInt top low)) rfl e_bl (ea_cons (e_var rfl) (ea_cons (e_var rfl) ea_nil)) ⟨top, low, rfl, by omega, Sz.lit (by omega) (by decide), Sz.lit (by omega) (by decide), rfl⟩ ?_ ⟨_, Le.refl _, _, rfl⟩
        rw [List.length_map]
        have h2 := hpre.2
        have h3 : pre2.length ≤ 16 := by
          have := congrArg List.length e2
          rw [rng_len, List.length_append] at this
          omega
        simp only [List.length_nil] at h2
        omega
      · obtain ⟨v, rfl⟩ := iv
        exact ⟨_, Le.refl _, _, _, rfl⟩
    · obtain ⟨u, v, rfl⟩ := hΓ
      exact s_retV (e_call (ea_cons (e_imp' (l_listDT rfl) (kd _)).ev ea_nil) ⟨eqFound a b, rfl, f1, by omega, hok, rfl⟩) rfl
end
end JD
set_option maxHeartbeats 4000000
namespace JD
open PySem PySem.Spec PyProof.Rows L2
open C8 (Cal Mak)
/-! ### the law: points, the widest -/
theorem succ_red (r : Rat) : (r.num + r.den).natAbs.Coprime r.den := by
  have h : Int.gcd (r.num + r.den) r.den = Int.gcd r.num r.den := by simp
  have h2 : Int.gcd r.num r.den = 1 := r.reduced
  show Int.gcd (r.num + r.den) r.den = 1
  rw [h, h2]
def succR (r : Rat) : Rat := { num := r.num + r.den, den := r.den, den_nz := r.den_nz, reduced := succ_red r }
def pointsM : List Rat → Rat → List Rat
  | [], low => [succR low]
  | b :: bs, low => midR low b :: b :: pointsM bs b
def pstep (a : List Rat × Rat) (b : Rat) : List Rat × Rat := (a.1 ++ [midR a.2 b, b], b)
theorem pstep_points : ∀ (bs : List Rat) (acc : List Rat) (low : Rat), (bs.foldl pstep (acc, low)).1 ++ [succR (bs.foldl pstep (acc, low)).2] = acc ++ pointsM bs low
  | [], acc, low => rfl
  | b :: bs, acc, low => by
    rw [List.foldl_cons]
    rw [show pstep (acc, low) b = (acc ++ [midR low b, b], b) from rfl, pstep_points bs]
    simp [pointsM]
theorem pstep_len : ∀ (bs : List Rat) (a : List Rat × Rat), (bs.foldl pstep a).1.length = a.1.length + 2 * bs.length
  | [], a => rfl
  | b :: bs, a => by
    rw [List.foldl_cons, pstep_len bs]
    show (a.1 ++ [midR a.2 b, b]).length + _ = _
    simp only [List.length_append, List.length_cons, List.length_nil]
    omega
def widestM (fr : List Coup) (r : Rat) : Int := maxI 0 (fr.map fun c => (leastM c.2.2 r).getD 0)
def ownLast (fr : List Coup) (bs : List Rat) : Int := bs.foldl (fun l r => if (decide ((r.den : Int) = 1) && decide (widestM fr r = 0)) = true then max l r.num else l) 1
section
variable {P : Program} {w : World} {K : PySem.W.Frag} {mg : Str → Option Value} {base : Heap}
abbrev N_law_points : List Str := ["_law_borders", "_law_found", "_law_low", "_law_border"]
theorem sc_law_points : FnScope N_law_points ["_law_borders"] (defScope JA.s_law_points) := ⟨rfl, rfl, rfl, by decide +kernel, rfl, by decide +kernel, by decide +kernel⟩
def R_law_points : List D → D → Prop := fun ds d => ∃ l : List Rat, ds = [.lst (l.map rat)] ∧ (∀ r ∈ l, Sr 20 r) ∧ l.length ≤ 1000 ∧ d = .lst ((pointsM l 1).map rat)
theorem c_law_points (T : Tx K mg) : Cal P w K mg base 4 "_law_points" (spV K R_law_points) [] := by
  refine cal_V (T.glo 63) (T.says.1.def_ 63) sc_law_points (fun ds d h => ?_) (fun _ _ _ _ _ _ us hl => match us, hl with | [_], _ => rfl) fun cdv A outer s H E hRm ds d h => ?_
  · obtain ⟨l, rfl, _⟩ := h
    rfl
  · obtain ⟨l, rfl, hl, hz, rfl⟩ := h
    refine ⟨_, (pss_cons (ps_set (i := 1) sc_law_points.nd rfl (by first | exact Or.inl rfl | exact Or.inr rfl) (pe_lst pa_nil))
    (pss_cons (ps_set (i := 2) sc_law_points.nd rfl (by first | exact Or.inl rfl | exact Or.inr rfl) (pe_tup (pa_cons pe_int (pa_cons pe_int pa_nil))))
    (pss_cons (ps_for PassesOwn.never rfl (pi_list (pv 0)) (pg_name (i := 3) sc_law_points.nd rfl (by first | exact Or.inl rfl | exact Or.inr rfl)) (pss_cons (ps_expr (pe_bm PySem.F.plainAttrs_list PySem.F.slot_list_append PySem.F.type_list_append mt_append (pv 1) (pa_cons (C8.pe_c (c_law_mid T) hRm (by decide) (by rfl) (pa_cons (pv 2) (pa_cons (pv 3) pa_nil))) pa_nil)))
    (pss_cons (ps_expr (pe_bm PySem.F.plainAttrs_list PySem.F.slot_list_append PySem.F.type_list_append mt_append (pv 1) (pa_cons (pv 3) pa_nil)))
    (pss_one (ps_set (i := 2) sc_law_points.nd rfl (by first | exact Or.inl rfl | exact Or.inr rfl) (pv 3))))))
    (pss_cons (ps_expr (pe_bm PySem.F.plainAttrs_list PySem.F.slot_list_append PySem.F.type_list_append mt_append (pv 1) (pa_cons (pe_tup (pa_cons (pe_op op_addX (pe_ix ix_seq (pv 2) pe_int (fun _ _ => rfl)) (pe_ix ix_seq (pv 2) pe_int (fun _ _ => rfl))) (pa_cons (pe_ix ix_seq (pv 2) pe_int (fun _ _ => rfl)) pa_nil))) pa_nil)))
    (pss_one (ps_ret (pv 1))))))), ?_⟩
    refine s_seq (s_asgLV (l_lst ea_nil (of_decide_eq_true rfl)) ?_)
    refine s_seq (s_asgV (d := rat 1) (e_tup (ea_cons e_int (ea_cons e_int ea_nil)) (of_decide_eq_true rfl)) ?_)
    refine s_mid (fun Γ => ∃ t, Γ = [.val (.lst (l.map rat)), .own (.lst ((l.foldl pstep ([], 1)).1.map rat)), .val (rat (l.foldl pstep ([], 1)).2), t]) ?_ fun Γ' hΓ => ?_
    · refine s_forL (vs := [3]) l rat (fun pre Γ => ∃ t, Γ = [.val (.lst (l.map rat)), .own (.lst ((pre.foldl pstep ([], 1)).1.map rat)), .val (rat (pre.foldl pstep ([], 1)).2), t]) (i_list (e_var rfl)) ⟨.no, rfl⟩ (fun pre b post Γ1 e iv => ⟨_, g_name, ?_⟩) fun Γ1 iv => iv
      obtain ⟨t, rfl⟩ := iv
      have hb := hl b (by rw [e]; simp)
      have hlow : ∀ (pre : List Rat) (a : List Rat × Rat), Sr 20 a.2 → (∀ r ∈ pre, Sr 20 r) → Sr 20 (pre.foldl pstep a).2 := by
        intro pre
        induction pre with
        | nil => intro a h _; exact h
        | cons x r ih => intro a h hr; exact ih _ (hr x (List.mem_cons_self ..)) fun q hq => hr q (List.mem_cons_of_mem _ hq)
      have hlo := hlow pre ([], 1) sr_one fun r hr => hl r (by rw [e]; simp [hr])
      have hlen := pstep_len pre ([], 1)
      have hpz : pre.length ≤ 1000 := by rw [e, List.length_append] at hz; omega
      rw [List.foldl_append, List.foldl_cons, List.foldl_nil]
      generalize pre.foldl pstep ([], 1) = A at *
      obtain ⟨acc, low⟩ := A
      have hal : acc.length ≤ 2000 := by
        have h' : acc.length = 0 + 2 * pre.length := hlen
        omega
      refine s_seq (s_appV rfl (e_call (ea_cons (e_var rfl) (ea_cons (e_var rfl) ea_nil)) ⟨low, b, rfl, hlo.mono (by decide), hb.mono (by decide), rfl⟩) (by rw [List.length_map]; show acc.length < 100000; omega) ?_)
      refine s_seq (s_appV rfl (e_var rfl) (by rw [List.length_append, List.length_map]; show acc.length + 1 < 100000; omega) ?_)
      show Es K _ _ ⟨fun Γ3 => ∃ Γ4, Le Γ4 Γ3 ∧ ∃ t, Γ4 = [_, .own (.lst ((acc ++ [midR low b, b]).map rat)), .val (rat b), t], _, _, _⟩
      rw [show (acc ++ [midR low b, b]).map rat = acc.map rat ++ [rat (midR low b)] ++ [rat b] by simp]
      exact s_asgV (e_var rfl) ⟨_, Le.refl _, _, rfl⟩
    · obtain ⟨t, rfl⟩ := hΓ
      have hlen := pstep_len l ([], 1)
      have hp := pstep_points l [] 1
      rw [List.nil_append] at hp
      rw [← hp, List.map_append]
      generalize l.foldl pstep ([], 1) = A at *
      obtain ⟨acc, low⟩ := A
      have hal : acc.length ≤ 2000 := by
        have h' : acc.length = 0 + 2 * l.length := hlen
        omega
      refine s_seq (s_appV (d := rat (succR low)) rfl (e_tup (ea_cons (e_op (e_op (e_var rfl) e_int (ro_ix rfl)) (e_op (e_var rfl) e_int (ro_ix rfl)) ro_add) (ea_cons (e_op (e_var rfl) e_int (ro_ix rfl)) ea_nil)) (of_decide_eq_true rfl)) (by rw [List.length_map]; show acc.length < 100000; omega) ?_)
      exact s_frz 1 rfl (s_retV (e_var rfl) rfl)

abbrev N_law_widest : List Str := ["_law_free_here", "_law_ratio_here", "_law_couple"]
theorem sc_law_widest : FnScope N_law_widest ["_law_free_here", "_law_ratio_here"] (defScope JA.s_law_widest) := ⟨rfl, rfl, rfl, by decide +kernel, rfl, by decide +kernel, by decide +kernel⟩
def freeOk (fr : List Coup) : Prop := fr.length ≤ 70000 ∧ ∀ c ∈ fr, c.2.2 ≠ [] ∧ c.2.2.length ≤ 3000 ∧ ∀ p ∈ c.2.2, Pd p
def R_law_widest : List D → D → Prop := fun ds d => ∃ (fr : List Coup) (r : Rat), ds = [.lst (fr.map lcoupD), rat r] ∧ freeOk fr ∧ Sr 3000 r ∧ d = .int (widestM fr r)
theorem c_law_widest (T : Tx K mg) : Cal P w K mg base 2 "_law_widest" (spV K R_law_widest) [] := by
  refine cal_V (T.glo 67) (T.says.1.def_ 67) sc_law_widest (fun ds d h => ?_) (fun _ _ _ _ _ _ us hl => match us, hl with | [_, _], _ => rfl) fun cdv A outer s H E hRm ds d h => ?_
  · obtain ⟨l, r, rfl, _⟩ := h
    rfl
  · obtain ⟨fr, r, rfl, ⟨hz, hf⟩, hr, rfl⟩ := h
    refine ⟨_, (pss_one (ps_ret (pe_callB (cr_max rfl) (by rfl) (T.free 97) (by decide +kernel) (pa_cons (pe_op op_addX (pe_lst (pa_cons pe_int pa_nil)) (pe_lc (own := [("_law_couple", 2)]) (g := gName 2) (by rfl) sc_law_widest.nd (pi_list (pv 0)) (blkOk_by (own := [("_law_couple", 2)]) (N := N_law_widest) (sc := defScope JA.s_law_widest) (by decide +kernel)) (fun _ _ _ _ _ => (pg_name (i := 2) sc_law_widest.nd rfl (by first | exact Or.inl rfl | exact Or.inr rfl))) (fun _ _ _ _ _ => pts_nil) (fun _ _ _ _ _ => (C8.pe_c (c_law_least T) hRm (by decide) (by rfl) (pa_cons (pe_ix (ix_seqK (K := K) (by rfl)) (pv 2) pe_int (fun _ _ => rfl)) (pa_cons (pv 1) pa_nil)))))) pa_nil)))), ?_⟩
    have hm : Rc K (rMax K) [.lst ((0 :: fr.map fun c => (leastM c.2.2 r).getD 0).map D.int)] fun u => u = .int (widestM fr r) := rc_maxL (maxI_mem _ _) fun y hy => by
      rcases List.mem_cons.mp hy with rfl | hy
      · exact (maxI_le _ _).1
      · exact (maxI_le _ _).2 y hy
    rw [show (0 :: fr.map fun c => (leastM c.2.2 r).getD 0).map D.int = [D.int 0] ++ fr.map (fun c => D.int ((leastM c.2.2 r).getD 0)) by rw [List.map_cons, List.map_map]; rfl] at hm
    refine s_ret (e_cb (ea_cons (e_op (e_lst (ea_cons e_int ea_nil) (of_decide_eq_true rfl)) (l_map fr lcoupD (fun c => D.int ((leastM c.2.2 r).getD 0)) (i_list (e_var rfl)) (by omega) fun c hc => ⟨_, g_name, ?_⟩).ev (ro_cat (by rw [List.length_map]; simp; omega))) ea_nil) hm) fun d hd => hd
    obtain ⟨h1, h2, h3⟩ := hf c hc
    refine Ev.cast (e_least (l := c.2.2) (e_op (x := lcoupD c) (e_var rfl) e_int (ro_ix rfl)) (e_var rfl) h2 h3 hr) ?_
    cases hq : c.2.2 with
    | nil => exact absurd hq h1
    | cons p q => rfl
theorem e_widest {Γ : List S} {ta tb : TE} {fr : List Coup} {r : Rat} {E : XK} (h1 : Ev K ta Γ (.lst (fr.map lcoupD))) (h2 : Ev K tb Γ (rat r)) (hf : freeOk fr) (hr : Sr 3000 r) : Ev K (tCall (spV K R_law_widest) [] E (tCons ta (tCons tb tNil))) Γ (.int (widestM fr r)) :=
  e_call (ea_cons h1 (ea_cons h2 ea_nil)) ⟨fr, r, rfl, hf, hr, rfl⟩
abbrev N_law_own_last : List Str := ["_law_counts_here", "_law_free_here", "_law_borders", "_law_last", "_law_ratio_here"]
theorem sc_law_own_last : FnScope N_law_own_last ["_law_counts_here", "_law_free_here", "_law_borders"] (defScope JA.s_law_own_last) := ⟨rfl, rfl, rfl, by decide +kernel, rfl, by decide +kernel, by decide +kernel⟩
def R_law_own_last : List D → D → Prop := fun ds d => ∃ (x : D) (fr : List Coup) (bs : List Rat), ds = [x, .lst (fr.map lcoupD), .lst (bs.map rat)] ∧ freeOk fr ∧ (∀ r ∈ bs, Sr 20 r) ∧ d = .int (ownLast fr bs)
theorem c_law_own_last (T : Tx K mg) : Cal P w K mg base 3 "_law_own_last" (spV K R_law_own_last) [] := by
  refine cal_V (T.glo 71) (T.says.1.def_ 71) sc_law_own_last (fun ds d h => ?_) (fun _ _ _ _ _ _ us hl => match us, hl with | [_, _, _], _ => rfl) fun cdv A outer s H E hRm ds d h => ?_
  · obtain ⟨x, l, r, rfl, _⟩ := h
    rfl
  · obtain ⟨x, fr, bs, rfl, hf, hb, rfl⟩ := h
    refine ⟨_, (pss_cons (ps_set (i := 3) sc_law_own_last.nd rfl (by first | exact Or.inl rfl | exact Or.inr rfl) pe_int)
    (pss_cons (ps_for PassesOwn.never rfl (pi_list (pv 2)) (pg_name (i := 4) sc_law_own_last.nd rfl (by first | exact Or.inl rfl | exact Or.inr rfl)) (pss_one (ps_if (PW.pt (pw_and (pt_cmpR (op_eqD hRm.units) (pe_ix ix_seq (pv 4) pe_int (fun _ _ => rfl)) pe_int (nomark _)) (pw_and1 (pt_cmpR (op_eqD hRm.units) (C8.pe_c (c_law_widest T) hRm (by decide) (by rfl) (pa_cons (pv 1) (pa_cons (pv 4) pa_nil))) pe_int (nomark _))))) (pss_one (ps_set (i := 3) sc_law_own_last.nd rfl (by first | exact Or.inl rfl | exact Or.inr rfl) (pe_callB (call_max2X rfl) (by rfl) (T.free 97) (by decide +kernel) (pa_cons (pv 3) (pa_cons (pe_ix ix_seq (pv 4) pe_int (fun _ _ => rfl)) pa_nil))))) pss_nil)))
    (pss_one (ps_ret (pv 3))))), ?_⟩
    refine s_seq (s_asgV e_int ?_)
    refine s_mid (fun Γ => ∃ t, Γ = [.val x, .val (.lst (fr.map lcoupD)), .val (.lst (bs.map rat)), .val (.int (ownLast fr bs)), t]) ?_ fun Γ' hΓ => ?_
    · refine s_forL (vs := [4]) bs rat (fun pre Γ => ∃ t, Γ = [.val x, .val (.lst (fr.map lcoupD)), .val (.lst (bs.map rat)), .val (.int (ownLast fr pre)), t]) (i_list (e_var rfl)) ⟨.no, rfl⟩ (fun pre r post Γ1 e iv => ⟨_, g_name, ?_⟩) fun Γ1 iv => iv
      obtain ⟨t, rfl⟩ := iv
      have hr := hb r (by rw [e]; simp)
      unfold ownLast
      rw [List.foldl_append, List.foldl_cons, List.foldl_nil]
      refine s_ifB (t_and (t_test (e_op (e_op (e_var rfl) e_int (ro_ix rfl)) e_int ro_eq)) fun _ => t_test (e_op (e_widest (e_var rfl) (e_var rfl) hf (hr.mono (by decide))) e_int ro_eq)) (fun c => ?_) fun c => ?_
      · rw [if_pos c]
        exact s_asgV (e_cb (ea_cons (e_var rfl) (ea_cons (e_op (e_var rfl) e_int (ro_ix rfl)) ea_nil)) rc_max2) ⟨_, Le.refl _, _, rfl⟩
      · rw [if_neg (by rw [c]; exact Bool.false_ne_true)]
        exact s_next ⟨_, Le.refl _, _, rfl⟩
    · obtain ⟨t, rfl⟩ := hΓ
      exact s_retV (e_var rfl) rfl
end
end JD
set_option maxHeartbeats 4000000
namespace JD
open PySem PySem.Spec PyProof.Rows L2
open C8 (Cal Mak)
/-! ### the law: the words -/
theorem g_lst {K : PySem.W.Frag} {gs : TGs} {ds : List D} {Γ Γ' : List S} {n : Nat} {vs : List Nat} (h : Egs K gs ds Γ Γ' vs) (hn : ds.length = n := by rfl) : Eg K (gLst K n gs) (.lst ds) Γ Γ' vs := fun hd fr B H σ v Q S0 r k => by
  obtain ⟨a, xs, rfl, ha, rl⟩ := r.ofLst
  exact ⟨a, xs, rfl, .inl (.inl (S0.sub _ _ ha)), rl.length.trans hn, h hd fr B H σ xs Q S0 rl k⟩
/-- xs == [], whatever xs holds -/
def rEqN (K : PySem.W.Frag) : R2 := fun x y H Q => ∃ a b xs, x = .ref a ∧ y = .ref b ∧ SqL K H a xs ∧ SqL K H b [] ∧ Q (.bl xs.isEmpty) H
theorem op_eqN {X : Cx} (hu : X.A.units + 64 < cLine) : OpR X (compareOp .Eq) (rEqN X.K) := by
  intro pins s σ H x y v u Q I rx ry h
  obtain ⟨a, b, xs, rfl, rfl, h1, h2, q⟩ := h
  obtain rfl : v = Value.ref a := rx
  obtain rfl : u = Value.ref b := ry
  obtain ⟨its, r1, p1, _⟩ := I.list h1
  obtain ⟨its2, r2, p2, _⟩ := I.list h2
  have e2 : its2 = [] := by
    have := Paired.length r2
    exact List.length_eq_zero_iff.mp this.symm
  subst e2
  have hl := Paired.length r1
  have hu' : X.A.units < cLine := by omega
  cases xs with
  | nil =>
    have : its = [] := List.length_eq_zero_iff.mp hl.symm
    subst this
    exact PySem.SeqAt.RcAt.lists (e := fun _ => true) p1.isList p2.isList rfl hu' (fun j h1 _ => by simp at h1) X.prog X.w _ _ ⟨.bl true, H, I, rfl, q⟩
  | cons z zs =>
    refine PySem.SeqAt.RcAt.lists_lengths p1.isList p2.isList ?_ hu' X.prog X.w _ _ ⟨.bl false, H, I, rfl, q⟩
    simp only [List.size_toArray, bne_iff_ne, ne_eq]
    rw [← hl]
    simp
theorem ro_eqN {K : PySem.W.Frag} {ds : List D} : Ro K (rEqN K) (.lst ds) (.lst []) fun u => u = .bl ds.isEmpty := fun B H v w Q s r1 r2 k => by
  obtain ⟨a, xs, rfl, ha, ra⟩ := r1.ofLst
  obtain ⟨b, ys, rfl, hb, rb⟩ := r2.ofLst
  cases rb
  refine ⟨a, b, xs, rfl, rfl, .inl (.inl (s _ _ ha)), .inl (.inl (s _ _ hb)), ?_⟩
  have : xs.isEmpty = ds.isEmpty := by cases ra <;> rfl
  rw [this]
  exact k B H _ _ (Go.refl s hd_none) (.bl _) rfl
abbrev Pt : Type := Rat × Int
def ptD (p : Pt) : D := .lst [rat p.1, .int p.2]
def ptOk (steps : List IP) (p : Pt) : Bool := match leastM steps p.1 with
  | none => true
  | some l => !decide (min l (p.1.den : Int) < min p.2 (p.1.den : Int))
def isBest (steps : List IP) (pts : List Pt) : Bool := pts.all (ptOk steps)
def entOk (e : D) : Bool := isW e && (decide (0 ≤ toI e) && decide (toI e ≤ 1))
def rowB (x : D) : Bool := lenOk x && ((x.items).getD []).all entOk
theorem entOk_eq (e : D) : entOk e = okE e := by
  unfold entOk okE wholeD
  cases e <;> rfl
theorem rowB_eq (x : D) : rowB x = patB x := by
  unfold rowB patB
  rw [show entOk = okE from funext entOk_eq]
def wordD (a b : Int) (x : D) : D := match x.items with
  | some [e1, e2] => if (patB e1 && patB e2) = true then (if (decide (cntI (rowI e1) = (a, b)) && decide (cntI (rowI e2) = (a, b))) = true then .non else .str "counts") else .str "pattern"
  | _ => .str "many"
def lawWord (a b : Int) (pts : List Pt) (x : D) : D := match x.items with
  | some [e1, e2] => if (patB e1 && patB e2) = true then (if (decide (cntI (rowI e1) = (a, b)) && decide (cntI (rowI e2) = (a, b))) = true then
      (if isBest (rsteps (rowI e1) (rowI e2)) pts = true then .non else .str "worse") else .str "counts") else .str "pattern"
  | _ => .str "many"
section
variable {P : Program} {w : World} {K : PySem.W.Frag} {mg : Str → Option Value} {base : Heap}

abbrev N_law_is_best : List Str := ["_law_steps_here", "_law_points_here", "_law_ratio_here", "_law_widest_here", "_law_least_here"]
theorem sc_law_is_best : FnScope N_law_is_best ["_law_steps_here", "_law_points_here"] (defScope JA.s_law_is_best) := ⟨rfl, rfl, rfl, by decide +kernel, rfl, by decide +kernel, by decide +kernel⟩
def R_law_is_best : List D → D → Prop := fun ds d => ∃ (l : List IP) (pts : List Pt), ds = [.lst (l.map pairD), .lst (pts.map ptD)] ∧ l.length ≤ 3000 ∧ (∀ p ∈ l, Pd p) ∧ (∀ p ∈ pts, Sr 3000 p.1) ∧ d = .bl (isBest l pts)
theorem c_law_is_best (T : Tx K mg) : Cal P w K mg base 2 "_law_is_best" (spV K R_law_is_best) [] := by
  refine cal_V (T.glo 72) (T.says.1.def_ 72) sc_law_is_best (fun ds d h => ?_) (fun _ _ _ _ _ _ us hl => match us, hl with | [_, _], _ => rfl) fun cdv A outer s H E hRm ds d h => ?_
  · obtain ⟨x, l, rfl, _⟩ := h
    rfl
  · obtain ⟨l, pts, rfl, hz, hp, hpt, rfl⟩ := h
    refine ⟨_, (pss_cons (ps_for PassesOwn.never rfl (pi_list (pv 1)) (pg_lst rfl (pgs_cons (pg_name (i := 2) sc_law_is_best.nd rfl (by first | exact Or.inl rfl | exact Or.inr rfl)) (pgs_cons (pg_name (i := 3) sc_law_is_best.nd rfl (by first | exact Or.inl rfl | exact Or.inr rfl)) pgs_nil))) (pss_cons (ps_set (i := 4) sc_law_is_best.nd rfl (by first | exact Or.inl rfl | exact Or.inr rfl) (C8.pe_c (c_law_least T) hRm (by decide) (by rfl) (pa_cons (pv 0) (pa_cons (pv 2) pa_nil))))
    (pss_one (ps_if (PW.pt (pw_and (pt_cmpR op_notNX (pv 4) pe_non (nomark _)) (pw_and1 (pt_cmpR (op_lt) (pe_callB (call_minX rfl) (by rfl) (T.free 98) (by decide +kernel) (pa_cons (pv 4) (pa_cons (pe_ix ix_seq (pv 2) pe_int (fun _ _ => rfl)) pa_nil))) (pe_callB (call_minX rfl) (by rfl) (T.free 98) (by decide +kernel) (pa_cons (pv 3) (pa_cons (pe_ix ix_seq (pv 2) pe_int (fun _ _ => rfl)) pa_nil))) (nomark _))))) (pss_one (ps_ret pe_bl)) pss_nil))))
    (pss_one (ps_ret pe_bl))), ?_⟩
    refine s_mid (fun Γ => isBest l pts = true) ?_ fun Γ' hΓ => ?_
    · refine s_forL (vs := [2, 3]) pts ptD (fun pre Γ => isBest l pre = true ∧ ∃ x y z, Γ = [.val (.lst (l.map pairD)), .val (.lst (pts.map ptD)), x, y, z]) (i_list (e_var rfl)) ⟨rfl, .no, .no, .no, rfl⟩ (fun pre p post Γ1 e iv => ⟨_, g_lst (gs_cons g_name (gs_cons g_name gs_nil)), ?_⟩) fun Γ1 iv => iv.1
      obtain ⟨hb, x, y, z, rfl⟩ := iv
      have hr := hpt p (by rw [e]; simp)
      refine s_seq (s_asgV (e_least (e_var rfl) (e_var rfl) hz hp hr) ?_)
      have fail : ptOk l p = false → isBest l pts = false := fun h => by
        rw [e]
        unfold isBest
        rw [List.all_append, List.all_cons, h]
        simp
      have good : ptOk l p = true → isBest l (pre ++ [p]) = true := fun h => by
        unfold isBest at hb ⊢
        rw [List.all_append, hb, List.all_cons, h]
        rfl
      cases hq : leastM l p.1 with
      | none =>
        refine s_ifF (t_and (a := false) (b := false) (t_test (e_op (x := .non) (e_var rfl) e_non ro_notN)) fun z => by cases z) (s_next ⟨_, Le.refl _, good (by unfold ptOk; rw [hq]), _, _, _, rfl⟩)
      | some i =>
        refine s_ifB (t_and (a := true) (t_test (e_op (x := .int i) (e_var rfl) e_non ro_notN)) fun _ => t_test (e_op (e_cb (ea_cons (x := .int i) (e_var rfl) (ea_cons (e_op (e_var rfl) e_int (ro_ix rfl)) ea_nil)) rc_min) (e_cb (ea_cons (e_var rfl) (ea_cons (e_op (e_var rfl) e_int (ro_ix rfl)) ea_nil)) rc_min) ro_lt)) (fun c => ?_) fun c => ?_
        · have c' : decide (min i (p.1.den : Int) < min p.2 (p.1.den : Int)) = true := c
          have hf := fail (by unfold ptOk; rw [hq]; show (!decide (min i (p.1.den : Int) < min p.2 (p.1.den : Int))) = false; rw [c']; rfl)
          rw [hf]
          exact s_retV e_bl rfl
        · have c' : decide (min i (p.1.den : Int) < min p.2 (p.1.den : Int)) = false := c
          exact s_next ⟨_, Le.refl _, good (by unfold ptOk; rw [hq]; show (!decide (min i (p.1.den : Int) < min p.2 (p.1.den : Int))) = true; rw [c']; rfl), _, _, _, rfl⟩
    · rw [hΓ]
      exact s_retV e_bl rfl

abbrev N_law_is_row : List Str := ["_law_thing", "_law_entry"]
theorem sc_law_is_row : FnScope N_law_is_row ["_law_thing"] (defScope JA.s_law_is_row) := ⟨rfl, rfl, rfl, by decide +kernel, rfl, by decide +kernel, by decide +kernel⟩
def R_law_is_row : List D → D → Prop := fun ds d => ∃ x : D, ds = [x] ∧ flatT x ∧ d = .bl (patB x)
theorem filt_nil {es : List D} : (es.filter fun e => !okE e).isEmpty = es.all okE := by
  induction es with
  | nil => rfl
  | cons e es ih =>
    rw [List.filter_cons, List.all_cons]
    cases h : okE e with
    | true => simpa using ih
    | false => rfl
theorem c_law_is_row (T : Tx K mg) : Cal P w K mg base 2 "_law_is_row" (spV K R_law_is_row) [] := by
  refine cal_V (T.glo 68) (T.says.1.def_ 68) sc_law_is_row (fun ds d h => ?_) (fun _ _ _ _ _ _ us hl => match us, hl with | [_], _ => rfl) fun cdv A outer s H E hRm ds d h => ?_
  · obtain ⟨x, rfl, _⟩ := h
    rfl
  · obtain ⟨x, rfl, ⟨hx, hel⟩, rfl⟩ := h
    refine ⟨_, (pss_cons (ps_if (PW.pt (pw_or (pt_not (pt_val (pe_callB call_isiX (by rfl) (T.free 94) (by decide +kernel) (pa_cons (pv 0) (pa_cons (pe_tup (pa_cons (pe_bltn (v := .ty "list") (by rfl) (T.free 96) (by decide +kernel) rfl) (pa_cons (pe_bltn (v := .ty "tuple") (by rfl) (T.free 104) (by decide +kernel) rfl) pa_nil))) pa_nil))))) (pw_or1 (pt_not (pt_chain op_le op_le pe_int (pe_callB call_lenX (by rfl) (T.free 95) (by decide +kernel) (pa_cons (pv 0) pa_nil)) pe_int))))) (pss_one (ps_ret pe_bl)) pss_nil)
    (pss_one (ps_ret (pe_cmpR ((op_eqN hRm.units)) (pe_lc (own := [("_law_entry", 1)]) (g := gName 1) (by rfl) sc_law_is_row.nd (pi_or (pi_list (pv 0)) (pi_tup (pv 0))) (blkOk_by (own := [("_law_entry", 1)]) (N := N_law_is_row) (sc := defScope JA.s_law_is_row) (by decide +kernel)) (fun _ _ _ _ _ => (pg_name (i := 1) sc_law_is_row.nd rfl (by first | exact Or.inl rfl | exact Or.inr rfl))) (fun _ _ _ _ _ => pts_one (PW.pt (pw_or (pt_not (pt_val (C8.pe_c (c_law_is_whole T) hRm (by decide) (by rfl) (pa_cons (pv 1) pa_nil)))) (pw_or1 (pt_not (pt_chain op_le op_le pe_int (pv 1) pe_int)))))) (fun _ _ _ _ _ => (pv 1))) (pe_lst pa_nil) (nomark _))))), ?_⟩
    have e0 : Ev K (tCB (rIsiX K) (tCons (tVar 0) (tCons (tTup (tCons (tC (.ty "list")) (tCons (tC (.ty "tuple")) tNil))) tNil))) [.val x, .no] (.bl x.items.isSome) := e_cb (ea_cons (e_var rfl) (ea_cons (e_tup (ea_cons e_ty (ea_cons e_ty ea_nil)) (of_decide_eq_true rfl)) ea_nil)) (rc_isiLT hx)
    refine s_seq (s_if (Φ := fun b => b = !lenOk x) ?_ (fun hb => ?_) fun hb => s_next ?_)
    · cases hi : x.items with
      | none =>
        rw [hi] at e0
        refine t_imp (t_or (a := true) (b := true) (t_not (a := false) (t_B e0)) fun z => by cases z) fun b e => e.trans ?_
        unfold lenOk
        rw [hi]
        rfl
      | some es =>
        rw [hi] at e0
        refine t_imp (t_or (a := false) (t_not (a := true) (t_B e0)) fun _ => t_not (t_test (e_chain e_int (e_cb (ea_cons (e_var rfl) ea_nil) (rc_len (len_items hi))) ro_le (fun _ => e_int) (fun _ => ro_le)))) fun b e => e.trans ?_
        unfold lenOk
        rw [hi]
        show (false || !(decide ((1 : Int) ≤ (es.length : Int)) && decide ((es.length : Int) ≤ 50))) = !decide (1 ≤ es.length ∧ es.length ≤ 50)
        rw [Bool.false_or, ← Bool.decide_and]
        congr 1
        exact decide_eq_decide.mpr (by omega)
    · have hl : lenOk x = false := by simpa using hb
      have hp : patB x = false := by unfold patB; rw [hl]; rfl
      rw [hp]
      exact s_retV e_bl rfl
    · have hl : lenOk x = true := by simpa using hb
      cases hi : x.items with
      | none => unfold lenOk at hl; rw [hi] at hl; cases hl
      | some es =>
        have hlen : es.length ≤ 50 := by
          unfold lenOk at hl
          rw [hi] at hl
          exact (of_decide_eq_true hl).2
        have hp : patB x = es.all okE := by unfold patB; rw [hl, hi]; rfl
        rw [hp, ← filt_nil]
        refine s_ret (Ev.cast (e_op (l_flt es id id (fun e => !okE e) (i_seq (e_var rfl) (by rw [hi, List.map_id])) (by omega) fun e he => ⟨_, g_name, ?_, fun _ => e_var rfl⟩).ev (e_lst ea_nil (of_decide_eq_true rfl)) ro_eqN) (by rw [List.map_id])) fun d hd => hd
        have hte := hel es hi e he
        refine t_imp (t_or (a := !isW e) (b := !okE e) (t_not (t_B (e_lwhole (e_var rfl) hte))) fun hw => ?_) fun b eb => eb.trans ?_
        · have hw' : isW e = true := by simpa using hw
          cases e with
          | int i => exact t_imp (t_not (t_test (e_chain e_int (e_var rfl) ro_le (fun _ => e_int) (fun _ => ro_le)))) fun b eb => eb.trans rfl
          | _ => cases hw'
        · unfold okE wholeD
          cases e with
          | int i => rfl
          | _ => rfl
theorem e_isrow {Γ : List S} {te : TE} {x : D} {E : XK} (h : Ev K te Γ x) (hf : flatT x) : Ev K (tCall (spV K R_law_is_row) [] E (tCons te tNil)) Γ (.bl (patB x)) := e_call (ea_cons h ea_nil) ⟨x, rfl, hf, rfl⟩

abbrev N_law_couple_word : List Str := ["_law_counts_here", "_law_couple", "_law_row"]
theorem sc_law_couple_word : FnScope N_law_couple_word ["_law_counts_here", "_law_couple"] (defScope JA.s_law_couple_word) := ⟨rfl, rfl, rfl, by decide +kernel, rfl, by decide +kernel, by decide +kernel⟩
def R_law_couple_word : List D → D → Prop := fun ds d => ∃ (a b : Int) (x : D), ds = [pairD (a, b), x] ∧ coupleT x ∧ d = wordD a b x
theorem c_law_couple_word (T : Tx K mg) : Cal P w K mg base 3 "_law_couple_word" (spV K R_law_couple_word) [] := by
  refine cal_V (T.glo 69) (T.says.1.def_ 69) sc_law_couple_word (fun ds d h => ?_) (fun _ _ _ _ _ _ us hl => match us, hl with | [_, _], _ => rfl) fun cdv A outer s H E hRm ds d h => ?_
  · obtain ⟨a, b, x, rfl, _⟩ := h
    rfl
  · obtain ⟨a, b, x, rfl, ⟨hx, hel⟩, rfl⟩ := h
    have e0 : Ev K (tCB (rIsiX K) (tCons (tVar 1) (tCons (tTup (tCons (tC (.ty "list")) (tCons (tC (.ty "tuple")) tNil))) tNil))) [.val (pairD (a, b)), .val x, .no] (.bl x.items.isSome) := e_cb (ea_cons (e_var rfl) (ea_cons (e_tup (ea_cons e_ty (ea_cons e_ty ea_nil)) (of_decide_eq_true rfl)) ea_nil)) (rc_isiLT hx)
    refine ⟨_, (pss_cons (ps_if (PW.pt (pw_or (pt_not (pt_val (pe_callB call_isiX (by rfl) (T.free 94) (by decide +kernel) (pa_cons (pv 1) (pa_cons (pe_tup (pa_cons (pe_bltn (v := .ty "list") (by rfl) (T.free 96) (by decide +kernel) rfl) (pa_cons (pe_bltn (v := .ty "tuple") (by rfl) (T.free 104) (by decide +kernel) rfl) pa_nil))) pa_nil))))) (pw_or1 (pt_cmpR (op_neD hRm.units) (pe_callB call_lenX (by rfl) (T.free 95) (by decide +kernel) (pa_cons (pv 1) pa_nil)) pe_int (nomark _))))) (pss_one (ps_ret pe_str)) pss_nil)
    (pss_cons (ps_if (pt_cmpR ((op_neN hRm.units)) (pe_lc (own := [("_law_row", 2)]) (g := gName 2) (by rfl) sc_law_couple_word.nd (pi_or (pi_list (pv 1)) (pi_tup (pv 1))) (blkOk_by (own := [("_law_row", 2)]) (N := N_law_couple_word) (sc := defScope JA.s_law_couple_word) (by decide +kernel)) (fun _ _ _ _ _ => (pg_name (i := 2) sc_law_couple_word.nd rfl (by first | exact Or.inl rfl | exact Or.inr rfl))) (fun _ _ _ _ _ => pts_one (pt_not (pt_val (C8.pe_c (c_law_is_row T) hRm (by decide) (by rfl) (pa_cons (pv 2) pa_nil))))) (fun _ _ _ _ _ => (pv 2))) (pe_lst pa_nil) (nomark _)) (pss_one (ps_ret pe_str)) pss_nil)
    (pss_cons (ps_if (pt_cmpR ((op_neN hRm.units)) (pe_lc (own := [("_law_row", 2)]) (g := gName 2) (by rfl) sc_law_couple_word.nd (pi_or (pi_list (pv 1)) (pi_tup (pv 1))) (blkOk_by (own := [("_law_row", 2)]) (N := N_law_couple_word) (sc := defScope JA.s_law_couple_word) (by decide +kernel)) (fun _ _ _ _ _ => (pg_name (i := 2) sc_law_couple_word.nd rfl (by first | exact Or.inl rfl | exact Or.inr rfl))) (fun _ _ _ _ _ => pts_one (pt_cmpR (op_neDK (K := K) (by rfl) hRm.units) (pe_tup (pa_cons (pe_op op_sub (pe_callB (call_lenXK (K := K) (by rfl)) (by rfl) (T.free 95) (by decide +kernel) (pa_cons (pv 2) pa_nil)) (pe_callB (cr_sumXK (K := K) (by rfl) rfl) (by rfl) (T.free 103) (by decide +kernel) (pa_cons (pv 2) pa_nil))) (pa_cons (pe_callB (cr_sumXK (K := K) (by rfl) rfl) (by rfl) (T.free 103) (by decide +kernel) (pa_cons (pv 2) pa_nil)) pa_nil))) (pv 0) (nomark _))) (fun _ _ _ _ _ => (pv 2))) (pe_lst pa_nil) (nomark _)) (pss_one (ps_ret pe_str)) pss_nil)
    (pss_one (ps_ret pe_non))))), ?_⟩
    cases hi : x.items with
    | none =>
      rw [hi] at e0
      have eF : wordD a b x = .str "many" := by unfold wordD; rw [hi]
      rw [eF]
      refine s_seq (s_ifT (t_or (a := true) (b := true) (t_not (a := false) (t_B e0)) fun z => by cases z) ?_)
      exact s_retV e_str rfl
    | some es =>
      rw [hi] at e0
      have hl := len_items hi
      by_cases h2 : es.length = 2
      · obtain ⟨e1, e2, rfl⟩ : ∃ e1 e2, es = [e1, e2] := by
          match es, h2 with
          | [e1, e2], _ => exact ⟨e1, e2, rfl⟩
        have eF : wordD a b x = if (patB e1 && patB e2) = true then (if (decide (cntI (rowI e1) = (a, b)) && decide (cntI (rowI e2) = (a, b))) = true then .non else .str "counts") else .str "pattern" := by unfold wordD; rw [hi]
        rw [eF]
        refine s_seq (s_ifF (t_imp (t_or (a := false) (t_not (a := true) (t_B e0)) fun _ => t_test (e_op (e_cb (ea_cons (e_var rfl) ea_nil) (rc_len hl)) e_int ro_ne)) fun b e => e.trans (by rw [decide_eq_true (by omega)]; rfl)) (s_next ?_))
        have hfl : ∀ e ∈ [e1, e2], flatT e := hel _ hi h2
        refine s_seq (s_ifB (t_test (e_op (l_flt [e1, e2] id id (fun e => !patB e) (i_seq (e_var (i := 1) rfl) (by rw [hi, List.map_id])) (show 2 < 100000 by decide) fun e he => ⟨_, g_name, t_not (t_B (e_isrow (e_var rfl) (hfl e he))), fun _ => e_var rfl⟩).ev (e_lst ea_nil (of_decide_eq_true rfl)) ro_neN)) (fun c => ?_) fun c => s_next ?_)
        · have hp : (patB e1 && patB e2) = false := by
            cases h1 : patB e1 <;> cases h2' : patB e2 <;> first | rfl | (rw [List.map_id] at c; simp [List.filter_cons, h1, h2'] at c)
          rw [hp, if_neg Bool.false_ne_true]
          exact s_retV e_str rfl
        · have hp : (patB e1 && patB e2) = true := by
            cases h1 : patB e1 <;> cases h2' : patB e2 <;> first | rfl | (rw [List.map_id] at c; simp [List.filter_cons, h1, h2'] at c)
          rw [hp, if_pos rfl]
          rw [Bool.and_eq_true] at hp
          obtain ⟨ns, hn1, hn2⟩ := patB_ok hp.1
          obtain ⟨ms, hm1, hm2⟩ := patB_ok hp.2
          have cnt : ∀ e ∈ [e1, e2], ∃ ks : List Int, e.items = some (ks.map D.int) ∧ rowI e = ks := fun e he => by
            rcases List.mem_cons.mp he with rfl | he
            · exact ⟨ns, hn1, rowI_of hn1⟩
            · rcases List.mem_singleton.mp he with rfl
              exact ⟨ms, hm1, rowI_of hm1⟩
          refine s_seq (s_ifB (t_test (e_op (l_flt [e1, e2] id id (fun e => !decide (cntI (rowI e) = (a, b))) (i_seq (e_var (i := 1) rfl) (by rw [hi, List.map_id])) (show 2 < 100000 by decide) fun e he => ⟨_, g_name, ?_, fun _ => e_var rfl⟩).ev (e_lst ea_nil (of_decide_eq_true rfl)) ro_neN)) (fun c => ?_) fun c => s_next ?_)
          · obtain ⟨ks, k1, k2⟩ := cnt e he
            refine t_imp (t_test (e_op (x := pairD (cntI ks)) (y := pairD (a, b)) (e_tup (ea_cons (e_op (e_cb (ea_cons (e_var rfl) ea_nil) (rc_len ((len_items k1).trans (by rw [List.length_map])))) (e_cb (ea_cons (e_var rfl) ea_nil) (rc_sum k1)) ro_sub) (ea_cons (e_cb (ea_cons (e_var rfl) ea_nil) (rc_sum k1)) ea_nil)) (of_decide_eq_true rfl)) (e_var rfl) (ro_neD (shp_pair _ _) (shp_pair _ _)))) fun q eq => eq.trans ?_
            rw [eqv_pair, k2]
          · have hc : (decide (cntI (rowI e1) = (a, b)) && decide (cntI (rowI e2) = (a, b))) = false := by
              cases h1 : decide (cntI (rowI e1) = (a, b)) <;> cases h2' : decide (cntI (rowI e2) = (a, b)) <;> first | rfl | (rw [List.map_id, List.filter_cons, List.filter_cons, h1, h2'] at c; cases c)
            rw [hc, if_neg Bool.false_ne_true]
            exact s_retV e_str rfl
          · have hc : (decide (cntI (rowI e1) = (a, b)) && decide (cntI (rowI e2) = (a, b))) = true := by
              cases h1 : decide (cntI (rowI e1) = (a, b)) <;> cases h2' : decide (cntI (rowI e2) = (a, b)) <;> first | rfl | (rw [List.map_id, List.filter_cons, List.filter_cons, h1, h2'] at c; cases c)
            rw [hc, if_pos rfl]
            exact s_retV e_non rfl
      · have eF : wordD a b x = .str "many" := by
          unfold wordD
          rw [hi]
          match es, h2 with
          | [], _ => rfl
          | [_], _ => rfl
          | [_, _], h => exact absurd rfl h
          | _ :: _ :: _ :: _, _ => rfl
        rw [eF]
        refine s_seq (s_ifT (t_imp (t_or (a := false) (t_not (a := true) (t_B e0)) fun _ => t_test (e_op (e_cb (ea_cons (e_var rfl) ea_nil) (rc_len hl)) e_int ro_ne)) fun b e => e.trans (by rw [decide_eq_false (by omega)]; rfl)) ?_)
        exact s_retV e_str rfl
theorem e_cword {Γ : List S} {ta te : TE} {a b : Int} {x : D} {E : XK} (h1 : Ev K ta Γ (pairD (a, b))) (h : Ev K te Γ x) (hf : coupleT x) : Ev K (tCall (spV K R_law_couple_word) [] E (tCons ta (tCons te tNil))) Γ (wordD a b x) := e_call (ea_cons h1 (ea_cons h ea_nil)) ⟨a, b, x, rfl, hf, rfl⟩
abbrev N_law_word : List Str := ["_law_counts_here", "_law_points_here", "_law_couple", "_law_word_here"]
theorem sc_law_word : FnScope N_law_word ["_law_counts_here", "_law_points_here", "_law_couple"] (defScope JA.s_law_word) := ⟨rfl, rfl, rfl, by decide +kernel, rfl, by decide +kernel, by decide +kernel⟩
def R_law_word : List D → D → Prop := fun ds d => ∃ (a b : Int) (pts : List Pt) (x : D), ds = [pairD (a, b), .lst (pts.map ptD), x] ∧ coupleT x ∧ (∀ p ∈ pts, Sr 3000 p.1) ∧ d = lawWord a b pts x
theorem c_law_word (T : Tx K mg) : Cal P w K mg base 4 "_law_word" (spV K R_law_word) [] := by
  refine cal_V (T.glo 73) (T.says.1.def_ 73) sc_law_word (fun ds d h => ?_) (fun _ _ _ _ _ _ us hl => match us, hl with | [_, _, _], _ => rfl) fun cdv A outer s H E hRm ds d h => ?_
  · obtain ⟨a, b, pts, x, rfl, _⟩ := h
    rfl
  · obtain ⟨a, b, pts, x, rfl, hf, hpt, rfl⟩ := h
    refine ⟨_, (pss_cons (ps_set (i := 3) sc_law_word.nd rfl (by first | exact Or.inl rfl | exact Or.inr rfl) (C8.pe_c (c_law_couple_word T) hRm (by decide) (by rfl) (pa_cons (pv 0) (pa_cons (pv 2) pa_nil))))
    (pss_cons (ps_if (pt_cmpR op_notNX (pv 3) pe_non (nomark _)) (pss_one (ps_ret (pv 3))) pss_nil)
    (pss_one (ps_ret (pe_ifExp (pt_val (C8.pe_c (c_law_is_best T) hRm (by decide) (by rfl) (pa_cons (C8.pe_c (c_law_steps T) hRm (by decide) (by rfl) (pa_cons (pe_ix ix_seq (pv 2) pe_int (fun _ _ => rfl)) (pa_cons (pe_ix ix_seq (pv 2) pe_int (fun _ _ => rfl)) pa_nil))) (pa_cons (pv 1) pa_nil)))) pe_non pe_str))))), ?_⟩
    refine s_seq (s_asgV (e_cword (e_var rfl) (e_var rfl) hf) ?_)
    have key : (∃ s : Str, wordD a b x = .str s ∧ lawWord a b pts x = .str s) ∨ (wordD a b x = .non ∧ ∃ (e1 e2 : D) (ns ms : List Int), x.items = some [e1, e2] ∧ e1.items = some (ns.map D.int) ∧ patL ns ∧ e2.items = some (ms.map D.int) ∧ patL ms ∧ lawWord a b pts x = if isBest (rsteps ns ms) pts = true then .non else .str "worse") := by
      unfold wordD lawWord
      cases hi : x.items with
      | none => exact .inl ⟨_, rfl, rfl⟩
      | some es =>
        match es with
        | [] => exact .inl ⟨_, rfl, rfl⟩
        | [_] => exact .inl ⟨_, rfl, rfl⟩
        | _ :: _ :: _ :: _ => exact .inl ⟨_, rfl, rfl⟩
        | [e1, e2] =>
          cases hp : (patB e1 && patB e2) with
          | false => exact .inl ⟨"pattern", by simp only [hp]; rfl, by simp only [hp]; rfl⟩
          | true =>
            cases hc : (decide (cntI (rowI e1) = (a, b)) && decide (cntI (rowI e2) = (a, b))) with
            | false => exact .inl ⟨"counts", by simp only [hp, hc]; rfl, by simp only [hp, hc]; rfl⟩
            | true =>
              have hp' := hp
              rw [Bool.and_eq_true] at hp'
              obtain ⟨ns, hn1, hn2⟩ := patB_ok hp'.1
              obtain ⟨ms, hm1, hm2⟩ := patB_ok hp'.2
              refine .inr ⟨by simp only [hp, hc]; rfl, e1, e2, ns, ms, rfl, hn1, hn2, hm1, hm2, ?_⟩
              rw [← rowI_of hn1, ← rowI_of hm1]
              simp only [hp, hc]
              rfl
    rcases key with ⟨wd, k1, k2⟩ | ⟨k1, e1, e2, ns, ms, hi, hn1, hn2, hm1, hm2, k2⟩
    · rw [k1, k2]
      refine s_seq (s_ifT (t_test (e_op (x := .str wd) (e_var rfl) e_non ro_notN)) ?_)
      exact s_retV (e_var rfl) rfl
    · rw [k1, k2]
      refine s_seq (s_ifF (t_test (e_op (x := .non) (e_var rfl) e_non ro_notN)) (s_next ?_))
      have a0 : x.at 0 = some e1 := at_items (j := 0) hi rfl
      have a1 : x.at 1 = some e2 := at_items (j := 1) hi rfl
      obtain ⟨q1, q2⟩ := rsteps_ok hn2 hm2
      refine s_ret (e_if (t_B (e_call (ea_cons (e_lsteps (e_op (e_var rfl) e_int (ro_ix a0)) (e_op (e_var rfl) e_int (ro_ix a1)) hn1 hn2 hm1 hm2) (ea_cons (e_var rfl) ea_nil)) ⟨rsteps ns ms, pts, rfl, by omega, q1, hpt, rfl⟩)) (fun c => ?_) fun c => ?_) fun d hd => hd
      · rw [if_pos c]
        exact e_non
      · rw [if_neg (by rw [c]; exact Bool.false_ne_true)]
        exact e_str
end
end JD
set_option maxHeartbeats 4000000
namespace JD
open PySem PySem.Spec PyProof.Rows L2
open C8 (Cal Mak)
/-! ### the law: by wholes -/
theorem shR_red (k : Int) (s : Rat) : (k * s.den + s.num).natAbs.Coprime s.den := by
  have h : Int.gcd (k * s.den + s.num) s.den = Int.gcd s.num s.den := by simp
  have h2 : Int.gcd s.num s.den = 1 := s.reduced
  show Int.gcd (k * s.den + s.num) s.den = 1
  rw [h, h2]
theorem shL_red (k : Int) (s : Rat) : (k * s.den - s.num).natAbs.Coprime s.den := by
  have h : Int.gcd (k * s.den - s.num) s.den = Int.gcd s.num s.den := by
    have e : k * (s.den : Int) - s.num = k * (s.den : Int) + -s.num := rfl
    rw [e]
    simp
  have h2 : Int.gcd s.num s.den = 1 := s.reduced
  show Int.gcd (k * s.den - s.num) s.den = 1
  rw [h, h2]
/-- k + s, k - s -/
def shR (k : Int) (s : Rat) : Rat := { num := k * s.den + s.num, den := s.den, den_nz := s.den_nz, reduced := shR_red k s }
def shL (k : Int) (s : Rat) : Rat := { num := k * s.den - s.num, den := s.den, den_nz := s.den_nz, reduced := shL_red k s }
def bwStep (s : Rat) (a : List SR × Rat) (k : Int) : List SR × Rat := ((if shL k s < a.2 then a.1 else a.1 ++ [(a.2, some (shL k s))]), shR k s)
def byWholes (M : Int) (s : Rat) : List SR :=
  ((rng 2 (M + 1)).foldl (bwStep s) ([], shR 1 s)).1 ++ [(((rng 2 (M + 1)).foldl (bwStep s) ([], shR 1 s)).2, none)]
section
variable {P : Program} {w : World} {K : PySem.W.Frag} {mg : Str → Option Value} {base : Heap}
abbrev N_law_by_wholes : List Str := ["_law_last", "_law_share_here", "_law_found", "_law_low", "_law_whole", "_law_high"]
theorem sc_law_by_wholes : FnScope N_law_by_wholes ["_law_last", "_law_share_here"] (defScope JA.s_law_by_wholes) := ⟨rfl, rfl, rfl, by decide +kernel, rfl, by decide +kernel, by decide +kernel⟩
def R_law_by_wholes : List D → D → Prop := fun ds d => ∃ (M : Int) (s : Rat), ds = [.int M, rat s] ∧ 0 ≤ M ∧ M ≤ 100 ∧ Sr 120 s ∧ d = .lst ((byWholes M s).map endD)
theorem c_law_by_wholes (T : Tx K mg) : Cal P w K mg base 3 "_law_by_wholes" (spV K R_law_by_wholes) [] := by
  refine cal_V (T.glo 74) (T.says.1.def_ 74) sc_law_by_wholes (fun ds d h => ?_) (fun _ _ _ _ _ _ us hl => match us, hl with | [_, _], _ => rfl) fun cdv A outer s H E hRm ds d h => ?_
  · obtain ⟨M, s, rfl, _⟩ := h
    rfl
  · obtain ⟨M, sh, rfl, hM0, hM, hs, rfl⟩ := h
    refine ⟨_, (pss_cons (ps_set (i := 2) sc_law_by_wholes.nd rfl (by first | exact Or.inl rfl | exact Or.inr rfl) (pe_lst pa_nil))
    (pss_cons (ps_set (i := 3) sc_law_by_wholes.nd rfl (by first | exact Or.inl rfl | exact Or.inr rfl) (pe_tup (pa_cons (pe_op op_addX (pe_ix ix_seq (pv 1) pe_int (fun _ _ => rfl)) (pe_ix ix_seq (pv 1) pe_int (fun _ _ => rfl))) (pa_cons (pe_ix ix_seq (pv 1) pe_int (fun _ _ => rfl)) pa_nil))))
    (pss_cons (ps_for PassesOwn.never rfl (pi_range2 (by rfl) (T.free 100) (pa_cons pe_int (pa_cons (pe_op op_addX (pv 0) pe_int) pa_nil))) (pg_name (i := 4) sc_law_by_wholes.nd rfl (by first | exact Or.inl rfl | exact Or.inr rfl)) (pss_cons (ps_set (i := 5) sc_law_by_wholes.nd rfl (by first | exact Or.inl rfl | exact Or.inr rfl) (pe_tup (pa_cons (pe_op op_sub (pe_op op_mulX (pv 4) (pe_ix ix_seq (pv 1) pe_int (fun _ _ => rfl))) (pe_ix ix_seq (pv 1) pe_int (fun _ _ => rfl))) (pa_cons (pe_ix ix_seq (pv 1) pe_int (fun _ _ => rfl)) pa_nil))))
    (pss_cons (ps_if (pt_cmpR (op_le) (C8.pe_c (c_law_cmp T) hRm (by decide) (by rfl) (pa_cons (pv 3) (pa_cons (pv 5) pa_nil))) pe_int (nomark _)) (pss_one (ps_expr (pe_bm PySem.F.plainAttrs_list PySem.F.slot_list_append PySem.F.type_list_append mt_append (pv 2) (pa_cons (pe_tup (pa_cons (C8.pe_c (c_law_ratio T) hRm (by decide) (by rfl) (pa_cons (pe_ix ix_seq (pv 3) pe_int (fun _ _ => rfl)) (pa_cons (pe_ix ix_seq (pv 3) pe_int (fun _ _ => rfl)) pa_nil))) (pa_cons (C8.pe_c (c_law_ratio T) hRm (by decide) (by rfl) (pa_cons (pe_ix ix_seq (pv 5) pe_int (fun _ _ => rfl)) (pa_cons (pe_ix ix_seq (pv 5) pe_int (fun _ _ => rfl)) pa_nil))) pa_nil))) pa_nil)))) pss_nil)
    (pss_one (ps_set (i := 3) sc_law_by_wholes.nd rfl (by first | exact Or.inl rfl | exact Or.inr rfl) (pe_tup (pa_cons (pe_op op_addX (pe_op op_mulX (pv 4) (pe_ix ix_seq (pv 1) pe_int (fun _ _ => rfl))) (pe_ix ix_seq (pv 1) pe_int (fun _ _ => rfl))) (pa_cons (pe_ix ix_seq (pv 1) pe_int (fun _ _ => rfl)) pa_nil))))))))
    (pss_one (ps_ret (pe_op op_addX (pv 2) (pe_lst (pa_cons (pe_tup (pa_cons (C8.pe_c (c_law_ratio T) hRm (by decide) (by rfl) (pa_cons (pe_ix ix_seq (pv 3) pe_int (fun _ _ => rfl)) (pa_cons (pe_ix ix_seq (pv 3) pe_int (fun _ _ => rfl)) pa_nil))) (pa_cons pe_non pa_nil))) pa_nil)))))))), ?_⟩
    have szk : ∀ {k : Int}, 0 ≤ k → k ≤ 200 → Sz 20 k := fun a b => Sz.lit (by omega) (by decide)
    have srR : ∀ {k : Int}, 0 ≤ k → k ≤ 200 → Sr 141 (shR k sh) := fun a b => ⟨Sz.add (Sz.mul (szk a b) hs.2) (hs.1.mono (by decide)), hs.2.mono (by decide)⟩
    have srL : ∀ {k : Int}, 0 ≤ k → k ≤ 200 → Sr 141 (shL k sh) := fun a b => ⟨Sz.sub (Sz.mul (szk a b) hs.2) (hs.1.mono (by decide)), hs.2.mono (by decide)⟩
    have erat : ∀ {Γ : List S} {te tf : TE} {r : Rat} {E : XK}, Ev K te Γ (rat r) → Ev K tf Γ (rat r) → Sr 3000 r → Ev K (tCall (spV K R_law_ratio) [] E (tCons (tOp (rIx K) te (tC (.int 0))) (tCons (tOp (rIx K) tf (tC (.int 1))) tNil))) Γ (rat r) := fun {Γ te tf r E} h h' hr => (e_lratio (e_op h e_int (ro_ix rfl)) (e_op h' e_int (ro_ix rfl)) (den_pos r) (hr.1.mono (by decide)) (hr.2.mono (by decide))).cast (by rw [Rat.num_divInt_den])
    refine s_seq (s_asgLV (l_lst ea_nil (of_decide_eq_true rfl)) ?_)
    refine s_seq (s_asgV (d := rat (shR 1 sh)) (Ev.cast (e_tup (ea_cons (e_op (e_op (e_var rfl) e_int (ro_ix rfl)) (e_op (e_var rfl) e_int (ro_ix rfl)) ro_add) (ea_cons (e_op (e_var rfl) e_int (ro_ix rfl)) ea_nil)) (of_decide_eq_true rfl)) (by show D.tup [.int (sh.num + sh.den), .int sh.den] = D.tup [.int (1 * sh.den + sh.num), .int sh.den]; rw [Int.one_mul, Int.add_comm])) ?_)
    refine s_mid (fun Γ => ∃ u v, Γ = [.val (.int M), .val (rat sh), .own (.lst (((rng 2 (M + 1)).foldl (bwStep sh) ([], shR 1 sh)).1.map endD)), .val (rat ((rng 2 (M + 1)).foldl (bwStep sh) ([], shR 1 sh)).2), u, v] ∧ ((rng 2 (M + 1)).foldl (bwStep sh) ([], shR 1 sh)).1.length ≤ 200 ∧ Sr 141 ((rng 2 (M + 1)).foldl (bwStep sh) ([], shR 1 sh)).2) ?_ fun Γ' hΓ => ?_
    · refine s_forL (vs := [4]) (rng 2 (M + 1)) D.int (fun pre Γ => ∃ u v, Γ = [.val (.int M), .val (rat sh), .own (.lst ((pre.foldl (bwStep sh) ([], shR 1 sh)).1.map endD)), .val (rat (pre.foldl (bwStep sh) ([], shR 1 sh)).2), u, v] ∧ (pre.foldl (bwStep sh) ([], shR 1 sh)).1.length ≤ pre.length ∧ Sr 141 (pre.foldl (bwStep sh) ([], shR 1 sh)).2) (by rw [← rng_D]; exact i_rng2 (ea_cons e_int (ea_cons (e_op (e_var rfl) e_int ro_add) ea_nil)) (by decide) (by omega)) ⟨.no, .no, rfl, Nat.le_refl _, srR (by decide) (by decide)⟩ (fun pre k post Γ1 e iv => ⟨_, g_name, ?_⟩) fun Γ1 iv => ?_
      · obtain ⟨u, v, rfl, hl, hlo⟩ := iv
        have hk := rng_mem (lo := 2) (hi := M + 1) (x := k) (by rw [e]; simp)
        have hpl : pre.length ≤ 100 := by
          have := congrArg List.length e
          rw [rng_len, List.length_append] at this
          omega
        rw [List.foldl_append, List.foldl_cons, List.foldl_nil]
        generalize pre.foldl (bwStep sh) ([], shR 1 sh) = A at *
        obtain ⟨acc, low⟩ := A
        have hacc : acc.length ≤ pre.length := hl
        have hlow : Sr 141 low := hlo
        have emul : ∀ {Γ : List S}, Γ[4]? = some (.val (.int k)) → Γ[1]? = some (.val (rat sh)) → Ev K (tOp rMulX (tVar 4) (tOp (rIx K) (tVar 1) (tC (.int 1)))) Γ (.int (k * sh.den)) := fun h1 h2 => e_op (e_var h1) (e_op (e_var h2) e_int (ro_ix rfl)) (ro_mul ((szk (by omega) (by omega)).mono (by decide)) (hs.2.mono (by decide)))
        refine s_seq (s_asgV (d := rat (shL k sh)) (e_tup (ea_cons (e_op (emul rfl rfl) (e_op (e_var rfl) e_int (ro_ix rfl)) ro_sub) (ea_cons (e_op (e_var rfl) e_int (ro_ix rfl)) ea_nil)) (of_decide_eq_true rfl)) ?_)
        have hL := srL (k := k) (by omega) (by omega)
        refine s_mid (fun Γ => Γ = [.val (.int M), .val (rat sh), .own (.lst ((if shL k sh < low then acc else acc ++ [(low, some (shL k sh))]).map endD)), .val (rat low), .val (.int k), .val (rat (shL k sh))]) ?_ fun Γ' hΓ => ?_
        · refine s_ifB (b := !decide (shL k sh < low)) (t_imp (t_test (e_op (e_lcmp (e_var rfl) (e_var rfl) (hlow.mono (by decide)) (hL.mono (by decide))) e_int ro_le)) fun x ex => ex.trans ?_) (fun c => ?_) fun c => ?_
          · unfold cmpR
            by_cases h1 : low = shL k sh
            · rw [if_pos h1, h1, decide_eq_false Rat.lt_irrefl]; rfl
            · rw [if_neg h1]
              by_cases h2 : shL k sh < low
              · rw [if_pos h2, decide_eq_true h2]; rfl
              · rw [if_neg h2, decide_eq_false h2]; rfl
          · have c' : ¬ shL k sh < low := by simpa using c
            rw [if_neg c', List.map_append]
            exact s_appV rfl (e_tup (ea_cons (erat (e_var rfl) (e_var rfl) (hlow.mono (by decide))) (ea_cons (erat (e_var rfl) (e_var rfl) (hL.mono (by decide))) ea_nil)) (of_decide_eq_true rfl)) (by rw [List.length_map]; show acc.length < 100000; omega) rfl
          · have c' : shL k sh < low := by simpa using c
            rw [if_pos c']
            exact s_next rfl
        · subst hΓ
          refine s_asgV (d := rat (shR k sh)) (e_tup (ea_cons (e_op (emul rfl rfl) (e_op (e_var rfl) e_int (ro_ix rfl)) ro_add) (ea_cons (e_op (e_var rfl) e_int (ro_ix rfl)) ea_nil)) (of_decide_eq_true rfl)) ⟨_, Le.refl _, _, _, rfl, ?_, srR (by omega) (by omega)⟩
          show (if shL k sh < low then acc else acc ++ [(low, some (shL k sh))]).length ≤ (pre ++ [k]).length
          rw [List.length_append]
          split
          · omega
          · rw [List.length_append]
            simp only [List.length_singleton]
            omega
      · obtain ⟨u, v, rfl, hl, hlo⟩ := iv
        refine ⟨u, v, rfl, ?_, hlo⟩
        rw [rng_len] at hl
        omega
    · obtain ⟨u, v, rfl, hl, hlo⟩ := hΓ
      unfold byWholes
      generalize (rng 2 (M + 1)).foldl (bwStep sh) ([], shR 1 sh) = A at *
      obtain ⟨acc, low⟩ := A
      have hacc : acc.length ≤ 200 := hl
      rw [List.map_append]
      refine s_frz 2 rfl (s_retV (e_op (e_var rfl) (e_lst (ea_cons (e_tup (ea_cons (erat (r := low) (e_var rfl) (e_var rfl) (Sr.mono hlo (by decide))) (ea_cons e_non ea_nil)) (of_decide_eq_true rfl)) ea_nil) (of_decide_eq_true rfl)) (ro_cat (by rw [List.length_map]; show acc.length + 1 ≤ 100000; omega))) rfl)
end
end JD
set_option maxHeartbeats 4000000
namespace JD
open PySem PySem.Spec PyProof.Rows L2
open C8 (Cal Mak)
/-! ### the law: shuffled rows -/
section
variable {K : PySem.W.Frag} {Γ : List S} {ti : TE} {Ψ : Post}
theorem s_appPopE {i j : Nat} {ds es : List D} (ei : Γ[i]? = some (.own (.lst ds))) (ej : Γ[j]? = some (.own (.lst es))) (hij : i ≠ j) (hz : ds.length < 100000) (hi : Ee K ti Γ fun d => ∃ n : Int, d = .int n ∧ 0 ≤ n ∧ n < (es.length : Int)) (hez : es.length < 100000)
    (q : ∀ k e, es[k]? = some e → Ψ.nx ((Γ.set j (.own (.lst (es.eraseIdx k)))).set i (.own (.lst (ds ++ [e]))))) :
    Es K (tDrop (tBM K "list" rAppend (tVar i) (tCons (tBM K "list" rPopAt (tVar j) (tCons ti tNil)) tNil))) Γ Ψ := fun hd fr B H σ Dd S0 k1 k2 k3 k4 => by
  obtain ⟨l, u, e1, f, n, hl, rr, kk⟩ := S0.slot i _ ei
  obtain ⟨l2, u2, e2, f2, n2, hl2, rr2, kk2⟩ := S0.slot j _ ej
  cases u with
  | lst xs =>
    cases u2 with
    | lst ys =>
      refine ⟨.ref l, e1, .inl ⟨rfl, xs, .inl (.inl hl)⟩, .ref l2, e2, .inl ⟨rfl, ys, .inl (.inl hl2)⟩, hi hd fr B H σ _ S0 fun B1 H1 v d g r p => ?_⟩
      obtain ⟨m, rfl, m0, m1⟩ := p
      have ev := r.ofInt
      subst ev
      have S1 := S0.go g
      obtain ⟨h1, n1⟩ := g.keep l _ rfl hl n kk
      obtain ⟨h2, n3⟩ := g.keep l2 _ rfl hl2 n2 kk2
      have rl : RepL K B1 xs ds := RepL.mono g.ext rr
      have rl2 : RepL K B1 ys es := RepL.mono g.ext rr2
      have hlt : m.toNat < es.length := by omega
      obtain ⟨w, hw, rw'⟩ := rl2.get (List.getElem?_eq_getElem hlt)
      obtain ⟨S2, g2⟩ := S1.upd_own (u' := .lst (ys.eraseIdx m.toNat)) (o' := .lst (es.eraseIdx m.toNat)) ej e2 (RepL.eraseIdx _ rl2)
      have hne : l ≠ l2 := by
        intro z
        rw [z] at e1
        exact S0.dis i j l2 _ _ hij ei ej e1 e2
      have ei' : (Γ.set j (.own (.lst (es.eraseIdx m.toNat))))[i]? = some (.own (.lst ds)) := by
        rw [List.getElem?_set_ne (Ne.symm hij)]
        exact ei
      obtain ⟨S3, g3⟩ := S2.upd_own (u' := .lst (xs ++ [w])) (o' := .lst (ds ++ [es[m.toNat]])) ei' e1 (rl.append (.one rw'))
      refine ⟨l2, ys, m, m.toNat, w, rfl, rfl, h2, ?_, ?_, seqIx m0 (by rw [rl2.length]; exact m1) rfl, hw, ?_⟩
      · omega
      · omega
      refine ⟨l, xs, w, rfl, rfl, by show upd H1 l2 _ l = _; rw [upd_ne hne]; exact h1, by rw [rl.length]; exact Nat.lt_of_lt_of_le hz (by decide), ?_⟩
      exact k1 B1 _ σ _ ((g.gs.trans g2).trans g3) S3 (q m.toNat _ (List.getElem?_eq_getElem hlt))
    | _ => exact rr2.elim
  | _ => exact rr.elim
end
theorem erase_perm : ∀ {l : List Int} {k : Nat} {e : Int}, l[k]? = some e → (e :: l.eraseIdx k).Perm l
  | x :: l, 0, e, h => by cases Option.some.inj h; exact .refl _
  | x :: l, k + 1, e, h => by
    have h' : l[k]? = some e := by simpa using h
    exact (List.Perm.swap x e (l.eraseIdx k)).trans ((erase_perm h').cons x)
theorem map_erase (l : List Int) (k : Nat) : (l.map D.int).eraseIdx k = (l.eraseIdx k).map D.int := by
  induction l generalizing k with
  | nil => rfl
  | cons x l ih => cases k with
    | zero => rfl
    | succ k => rw [List.map_cons, List.eraseIdx_cons_succ, List.eraseIdx_cons_succ, List.map_cons, ih]
section
variable {P : Program} {w : World} {K : PySem.W.Frag} {mg : Str → Option Value} {base : Heap}
abbrev N_law_shuffled : List Str := ["_law_hand_here", "_law_row", "_law_rest", "_law_found", "_law_turn"]
theorem sc_law_shuffled : FnScope N_law_shuffled ["_law_hand_here", "_law_row"] (defScope JA.s_law_shuffled) := ⟨rfl, rfl, rfl, by decide +kernel, rfl, by decide +kernel, by decide +kernel⟩
def R_law_shuffled : List D → (D → Prop) → Prop := fun ds Φ => ∃ (x : D) (ns : List Int), ds = [x] ∧ x.items = some (ns.map D.int) ∧ ns.length ≤ 100 ∧ Φ = fun d => ∃ ms : List Int, d = row ms ∧ ms.Perm ns
theorem c_law_shuffled (T : Tx K mg) : Cal P w K mg base 3 "_law_shuffled" (spH K R_law_shuffled) [] := by
  refine cal_H (T.glo 65) (T.says.1.def_ 65) sc_law_shuffled (fun ds d h => ?_) (fun _ _ _ _ _ _ us hl => match us, hl with | [_, _], _ => rfl) fun cdv A outer s H E hRm ds Φ h => ?_
  · obtain ⟨x, ns, rfl, _⟩ := h
    rfl
  · obtain ⟨x, ns, rfl, hx, hl, rfl⟩ := h
    refine ⟨_, (pss_cons (ps_set (i := 2) sc_law_shuffled.nd rfl (by first | exact Or.inl rfl | exact Or.inr rfl) (pe_callTy call_listX (by rfl) (T.free 96) (by decide +kernel) (pa_cons (pv 1) pa_nil)))
    (pss_cons (ps_set (i := 3) sc_law_shuffled.nd rfl (by first | exact Or.inl rfl | exact Or.inr rfl) (pe_lst pa_nil))
    (pss_cons (ps_for PassesOwn.never rfl (pi_range1 (by rfl) (T.free 100) (pa_cons (pe_callB call_lenX (by rfl) (T.free 95) (by decide +kernel) (pa_cons (pv 1) pa_nil)) pa_nil)) (pg_name (i := 4) sc_law_shuffled.nd rfl (by first | exact Or.inl rfl | exact Or.inr rfl)) (pss_one (ps_expr (pe_bm PySem.F.plainAttrs_list PySem.F.slot_list_append PySem.F.type_list_append mt_append (pv 3) (pa_cons (pe_bm PySem.F.plainAttrs_list PySem.F.slot_list_pop PySem.F.type_list_pop mt_popAt (pv 2) (pa_cons (C8.pe_c (c_law_draw T) hRm (by decide) (by rfl) (pa_cons (pv 0) (pa_cons (pe_callB call_lenX (by rfl) (T.free 95) (by decide +kernel) (pa_cons (pv 2) pa_nil)) pa_nil))) pa_nil)) pa_nil)))))
    (pss_one (ps_ret (pe_callTy call_tupleX (by rfl) (T.free 104) (by decide +kernel) (pa_cons (pv 3) pa_nil))))))), ?_⟩
    refine s_seq (s_asgLV (l_cb (ea_cons (e_var rfl) ea_nil) (rl_list hx)) ?_)
    refine s_seq (s_asgLV (l_lst ea_nil (of_decide_eq_true rfl)) ?_)
    refine s_mid (fun Γ => ∃ (fs : List Int) (u v : S), fs.Perm ns ∧ Γ = [.hand, .val x, u, .own (.lst (fs.map D.int)), v]) ?_ fun Γ' hΓ => ?_
    · refine s_forL (vs := [4]) (List.range ns.length) (fun (i : Nat) => D.int (i : Int)) (fun pre Γ => ∃ (rs fs : List Int) (v : S), (fs ++ rs).Perm ns ∧ fs.length = pre.length ∧ Γ = [.hand, .val x, .own (.lst (rs.map D.int)), .own (.lst (fs.map D.int)), v]) (by rw [← dints0]; exact i_rng1 (ea_cons (e_cb (ea_cons (e_var rfl) ea_nil) (rc_len ((len_items hx).trans (by rw [List.length_map])))) ea_nil) (by omega)) ⟨ns, [], .no, .refl _, rfl, rfl⟩ (fun pre i post Γ1 e iv => ⟨_, g_name, ?_⟩) fun Γ1 iv => ?_
      · obtain ⟨rs, fs, v, hp, hlen, rfl⟩ := iv
        have hi : pre.length < ns.length := by
          have := congrArg List.length e
          rw [List.length_range, List.length_append, List.length_cons] at this
          omega
        have hrl : 0 < rs.length := by
          have := hp.length_eq
          rw [List.length_append] at this
          omega
        have hrl2 : rs.length ≤ 100 := by
          have := hp.length_eq
          rw [List.length_append] at this
          omega
        have el : Ev K (tCB (rLenX K) (tCons (tVar 2) tNil)) [.hand, .val x, .own (.lst (rs.map D.int)), .own (.lst (fs.map D.int)), .val (.int (i : Int))] (.int (rs.length : Int)) := e_peek (i := 2) (ds := rs.map D.int) rfl (e_cb (ea_cons (e_var (d := .lst (rs.map D.int)) rfl) ea_nil) (rc_len (show (D.lst (rs.map D.int)).len = some rs.length from congrArg some (List.length_map _)))) fun d hd => by rw [hd]; rfl
        refine s_appPopE (es := rs.map D.int) rfl rfl (by decide) (by rw [List.length_map]; omega) (e_imp (e_draw rfl el (by omega) (Sz.lit (by omega) (by decide))) fun d hd => by rw [List.length_map]; exact hd) (by rw [List.length_map]; omega) fun k e2 h2 => ?_
        rw [List.getElem?_map] at h2
        cases hq : rs[k]? with
        | none => rw [hq] at h2; cases h2
        | some y =>
          rw [hq] at h2
          cases Option.some.inj h2
          refine ⟨_, Le.refl _, rs.eraseIdx k, fs ++ [y], .val (.int (i : Int)), ?_, ?_, ?_⟩
          · rw [List.append_assoc]
            exact ((erase_perm hq).append_left fs).trans hp
          · rw [List.length_append, List.length_append, hlen]
            rfl
          · rw [map_erase, List.map_append]
            rfl
      · obtain ⟨rs, fs, v, hp, hlen, rfl⟩ := iv
        have : rs = [] := by
          have h1 := hp.length_eq
          rw [List.length_append, hlen, List.length_range] at h1
          exact List.length_eq_zero_iff.mp (by omega)
        subst this
        rw [List.append_nil] at hp
        exact ⟨fs, _, _, hp, rfl⟩
    · obtain ⟨fs, u, v, hp, rfl⟩ := hΓ
      exact s_frz 3 rfl (s_ret (Φ := fun d => d = row fs) (e_cb (ea_cons (e_var rfl) ea_nil) (rc_tuple rfl)) fun d hd => ⟨fs, hd, hp⟩)
end
end JD
set_option maxHeartbeats 4000000
namespace JD
open PySem PySem.Spec PyProof.Rows L2
open C8 (Cal Mak)
/-! ### the law: lists of stretches -/
def before (x y : SR) : Prop := ∃ h, x.2 = some h ∧ h < y.1
def Canon (l : List SR) : Prop := l.Pairwise before
def befD (K : PySem.W.Frag) : Option SR → D
  | none => .non
  | some s => strD K s
section
variable {P : Program} {w : World} {K : PySem.W.Frag} {mg : Str → Option Value} {base : Heap}
theorem e_lt0 {Γ : List S} {te : TE} {a b : Rat} (h : Ev K te Γ (.int (cmpR a b))) : Ev K (tOp (rI0 fun i j => .bl (decide (i < j))) te (tC (.int 0))) Γ (.bl (decide (a < b))) := (e_op h e_int ro_lt).cast (by
  congr 1
  unfold cmpR
  by_cases h1 : a = b
  · rw [if_pos h1, h1, decide_eq_false Rat.lt_irrefl]; rfl
  · rw [if_neg h1]
    by_cases h2 : b < a
    · rw [if_pos h2, decide_eq_false (fun h3 => Rat.not_lt.mpr (Rat.le_of_lt h2) h3)]; rfl
    · rw [if_neg h2, decide_eq_true (Rat.lt_of_le_of_ne (Rat.not_lt.mp h2) h1)]; rfl)
theorem e_ge0 {Γ : List S} {te : TE} {a b : Rat} (h : Ev K te Γ (.int (cmpR a b))) : Ev K (tOp (rI0 fun i j => .bl (decide (j ≤ i))) te (tC (.int 0))) Γ (.bl (!decide (a < b))) := (e_op h e_int ro_ge).cast (by
  congr 1
  unfold cmpR
  by_cases h1 : a = b
  · rw [if_pos h1, h1, decide_eq_false Rat.lt_irrefl]; rfl
  · rw [if_neg h1]
    by_cases h2 : b < a
    · rw [if_pos h2, decide_eq_false (fun h3 => Rat.not_lt.mpr (Rat.le_of_lt h2) h3)]; rfl
    · rw [if_neg h2, decide_eq_true (Rat.lt_of_le_of_ne (Rat.not_lt.mp h2) h1)]; rfl)

abbrev N_law_is_list : List Str := ["_law_told", "_law_before", "_law_row"]
theorem sc_law_is_list : FnScope N_law_is_list ["_law_told"] (defScope JA.s_law_is_list) := ⟨rfl, rfl, rfl, by decide +kernel, rfl, by decide +kernel, by decide +kernel⟩
def R_law_is_list (K : PySem.W.Frag) : List D → D → Prop := fun ds d => ∃ l : List SR, ds = [.tup (l.map (strD K))] ∧ (∀ s ∈ l, SOk 3000 s) ∧ Canon l ∧ d = .bl true
theorem c_law_is_list (T : Tx K mg) : Cal P w K mg base 3 "_law_is_list" (spV K (R_law_is_list K)) [] := by
  refine cal_V (T.glo 64) (T.says.1.def_ 64) sc_law_is_list (fun ds d h => ?_) (fun _ _ _ _ _ _ us hl => match us, hl with | [_], _ => rfl) fun cdv A outer s H E hRm ds d h => ?_
  · obtain ⟨l, rfl, _⟩ := h
    rfl
  · obtain ⟨l, rfl, hok, hc, rfl⟩ := h
    refine ⟨_, (pss_cons (ps_if (pt_not (pt_val (pe_callB call_isiX (by rfl) (T.free 94) (by decide +kernel) (pa_cons (pv 0) (pa_cons (pe_bltn (v := .ty "tuple") (by rfl) (T.free 104) (by decide +kernel) rfl) pa_nil))))) (pss_one (ps_ret pe_bl)) pss_nil)
    (pss_cons (ps_set (i := 1) sc_law_is_list.nd rfl (by first | exact Or.inl rfl | exact Or.inr rfl) pe_non)
    (pss_cons (ps_for PassesOwn.never rfl (pi_tup (pv 0)) (pg_name (i := 2) sc_law_is_list.nd rfl (by first | exact Or.inl rfl | exact Or.inr rfl)) (pss_cons (ps_if (PW.pt (pw_or (pt_not (pt_val (pe_callB call_isiX (by rfl) (T.free 94) (by decide +kernel) (pa_cons (pv 2) (pa_cons (C8.pe_gc (v := .ref (He.ga K "Stretch")) (by rfl) ⟨_, T.glo 80, rfl⟩) pa_nil))))) (pw_or (pt_not (pt_val (C8.pe_c (c_law_is_ratio T) hRm (by decide) (by rfl) (pa_cons (pe_fld (pv 2) rfl) pa_nil)))) (pw_or1 (pt_cmpR (op_lt) (C8.pe_c (c_law_cmp T) hRm (by decide) (by rfl) (pa_cons (pe_fld (pv 2) rfl) (pa_cons (pe_tup (pa_cons pe_int (pa_cons pe_int pa_nil))) pa_nil))) pe_int (nomark _)))))) (pss_one (ps_ret pe_bl)) pss_nil)
    (pss_cons (ps_if (pt_cmpR op_notNX (pe_fld (pv 2) rfl) pe_non (nomark _)) (pss_one (ps_if (PW.pt (pw_or (pt_not (pt_val (C8.pe_c (c_law_is_ratio T) hRm (by decide) (by rfl) (pa_cons (pe_fld (pv 2) rfl) pa_nil)))) (pw_or (pt_cmpR (op_lt) (C8.pe_c (c_law_cmp T) hRm (by decide) (by rfl) (pa_cons (pe_fld (pv 2) rfl) (pa_cons (pe_fld (pv 2) rfl) pa_nil))) pe_int (nomark _)) (pw_or1 (pt_cmpR (op_eqD hRm.units) (pe_fld (pv 2) rfl) (pe_tup (pa_cons pe_int (pa_cons pe_int pa_nil))) (nomark _)))))) (pss_one (ps_ret pe_bl)) pss_nil)) pss_nil)
    (pss_cons (ps_if (PW.pt (pw_and (pt_cmpR op_notNX (pv 1) pe_non (nomark _)) (pw_and1 (PW.pt (pw_or (pt_cmpR op_isNX (pe_fld (pv 1) rfl) pe_non (nomark _)) (pw_or1 (pt_cmpR (op_ge) (C8.pe_c (c_law_cmp T) hRm (by decide) (by rfl) (pa_cons (pe_fld (pv 1) rfl) (pa_cons (pe_fld (pv 2) rfl) pa_nil))) pe_int (nomark _)))))))) (pss_one (ps_ret pe_bl)) pss_nil)
    (pss_one (ps_set (i := 1) sc_law_is_list.nd rfl (by first | exact Or.inl rfl | exact Or.inr rfl) (pv 2)))))))
    (pss_one (ps_ret pe_bl))))), ?_⟩
    refine s_seq (s_ifF (t_not (a := true) (t_B (e_cb (ea_cons (e_var rfl) (ea_cons e_ty ea_nil)) (rc_isi (t := "tuple") rfl (by rfl))))) (s_next ?_))
    refine s_seq (s_asgV e_non ?_)
    refine s_mid (fun Γ => True) ?_ fun Γ' hΓ => s_retV e_bl rfl
    refine s_forL (vs := [2]) l (strD K) (fun pre Γ => ∃ u, Γ = [.val (.tup (l.map (strD K))), .val (befD K pre.getLast?), u]) (i_tup (e_var rfl)) ⟨.no, rfl⟩ (fun pre s post Γ1 e iv => ⟨_, g_name, ?_⟩) fun Γ1 iv => trivial
    obtain ⟨u, rfl⟩ := iv
    obtain ⟨s1, s2, s3⟩ := hok s (by rw [e]; simp)
    have eone : ∀ {Γ : List S}, Ev K (tTup (tCons (tC (.int 1)) (tCons (tC (.int 1)) tNil))) Γ (rat 1) := e_tup (ea_cons e_int (ea_cons e_int ea_nil)) (of_decide_eq_true rfl)
    refine s_seq (s_ifF (t_or (a := false) (b := false) (t_not (a := true) (t_B (e_cb (ea_cons (e_var rfl) (ea_cons e_opq ea_nil)) (rc_isiS T (T.cls 108))))) fun _ => t_or (a := false) (b := false) (t_not (a := true) (t_B (e_lisr (e_low_ T (s := s) (e_var rfl)) (s1.mono (by decide))))) fun _ => t_imp (t_test (e_lt0 (e_lcmp (e_low_ T (s := s) (e_var rfl)) eone s1 sr_one))) fun b eb => eb.trans (decide_eq_false (Rat.not_lt.mpr s2))) (s_next ?_))
    refine s_mid (fun Γ => Γ = [.val (.tup (l.map (strD K))), .val (befD K pre.getLast?), .val (strD K s)]) ?_ fun Γ' hΓ => ?_
    · obtain ⟨lo, hi⟩ := s
      cases hi with
      | none => exact s_ifF (t_test (e_op (x := .non) (e_high_ T (s := (lo, none)) (e_var rfl)) e_non ro_notN)) (s_next rfl)
      | some h =>
        obtain ⟨h1, h2, h3⟩ := s3 h rfl
        refine s_ifT (t_test (e_op (x := rat h) (e_high_ T (s := (lo, some h)) (e_var rfl)) e_non ro_notN)) (s_ifF (t_or (a := false) (b := false) (t_not (a := true) (t_B (e_lisr (r := h) (e_high_ T (s := (lo, some h)) (e_var rfl)) (h1.mono (by decide))))) fun _ => t_or (a := false) (b := false) (t_imp (t_test (e_lt0 (e_lcmp (a := h) (b := lo) (e_high_ T (s := (lo, some h)) (e_var rfl)) (e_low_ T (s := (lo, some h)) (e_var rfl)) h1 s1))) fun b eb => eb.trans (decide_eq_false (Rat.not_lt.mpr h2))) fun _ => t_imp (t_test (e_op (x := rat h) (e_high_ T (s := (lo, some h)) (e_var rfl)) eone ro_eqR)) fun b eb => eb.trans (decide_eq_false h3)) (s_next rfl))
    · subst hΓ
      rw [List.getLast?_append]
      rcases List.eq_nil_or_concat pre with rfl | ⟨qs, t, rfl⟩
      · refine s_seq (s_ifF (t_and (a := false) (b := false) (t_test (e_op (x := .non) (e_var rfl) e_non ro_notN)) fun z => by cases z) (s_next ?_))
        exact s_asgV (e_var rfl) ⟨_, Le.refl _, _, rfl⟩
      · rw [List.concat_eq_append] at *
        have ht : SOk 3000 t := hok t (by rw [e]; simp)
        have hb : before t s := by
          unfold Canon at hc
          rw [e, List.pairwise_append] at hc
          exact hc.2.2 t (by simp) s (by simp)
        obtain ⟨h, hh, hlt⟩ := hb
        obtain ⟨lo, hi⟩ := t
        cases hh
        have hs := (ht.2.2 h rfl).1
        have el : (qs ++ [(lo, some h)]).getLast? = some (lo, some h) := by simp
        rw [el]
        refine s_seq (s_ifF (t_and (a := true) (b := false) (t_test (e_op (x := strD K (lo, some h)) (e_var rfl) e_non ro_notN)) fun _ => t_or (a := false) (b := false) (t_test (e_op (x := rat h) (e_high_ T (s := (lo, some h)) (e_var rfl)) e_non ro_isN)) fun _ => t_imp (t_test (e_ge0 (e_lcmp (a := h) (b := s.1) (e_high_ T (s := (lo, some h)) (e_var rfl)) (e_low_ T (e_var rfl)) hs s1))) fun b eb => eb.trans (by rw [decide_eq_true hlt]; rfl)) (s_next ?_))
        exact s_asgV (e_var rfl) ⟨_, Le.refl _, _, rfl⟩
end
end JD
set_option maxHeartbeats 4000000
namespace JD
open PySem PySem.Spec PyProof.Rows L2
open C8 (Cal Mak)
/-! ### the law: the hand -/
section
variable {P : Program} {w : World} {K : PySem.W.Frag} {mg : Str → Option Value} {base : Heap}
/-- the script's numbers give a hand -/
theorem rc_lenS {ns : List Int} : Rc K (rLenX K) [.scr ns] fun u => u = .int (ns.length : Int) := fun B H vs Q s r k => by
  cases r with
  | cons r t =>
    cases t
    obtain ⟨a, rfl, ha⟩ := r.ofScr
    exact ⟨a, _, rfl, .inl (Same.sqL s ha), by rw [List.length_map]; exact k B H _ _ (Go.refl s hd_none) (.int _) rfl⟩
theorem i_scr {Γ : List S} {ns : List Int} {tl : TE} (h : Ev K tl Γ (.scr ns)) : Ei K (iList K tl) Γ (ns.map D.int) := fun hd fr B H σ R S0 k => h hd fr B H σ _ S0 fun B1 H1 v x g r p => by
  subst p
  obtain ⟨a, rfl, ha⟩ := r.ofScr
  refine ⟨a, rfl, ⟨_, Same.sqL g.sub ha⟩, k B1 H1 _ g fun B2 H2 s1 s2 => ?_⟩
  have h2 : SqL K H2 a (ns.map V.int) := Same.sqL s2 (Same.sqL s1 ha)
  refine ⟨fun i d e => ?_, ⟨_, h2, by rw [List.length_map, List.length_map]; exact Nat.le_refl _⟩⟩
  obtain ⟨v, hv, rv⟩ := (RepL.ints (K := K) (B := B2) ns).get e
  refine ⟨⟨_, v, h2, hv⟩, fun x H3 q => ?_⟩
  obtain ⟨rfl, q⟩ := q
  have e2 := q _ h2
  rw [hv] at e2
  cases Option.some.inj e2
  exact ⟨B2, Go.refl s2 hd_none, rv⟩
def spHand (K : PySem.W.Frag) : Sp := fun vs H Q _ => ∃ (B : Hp) (ns : List Int), RepL K B vs [.scr ns] ∧ Same B H ∧ ns.length ≤ 63 ∧
  ∀ B' H' (h : Hd), Go none B H B' H' → HdOk (some h) B' H' → H h.l = none → Q (.ref h.l) H'
abbrev N_law_hand : List Str := ["_law_script", "_law_total", "_law_cells", "_law_cell"]
theorem sc_law_hand : FnScope N_law_hand ["_law_script"] (defScope JA.s_law_hand) := ⟨rfl, rfl, rfl, by decide +kernel, rfl, by decide +kernel, by decide +kernel⟩
theorem c_law_hand (T : Tx K mg) : Cal P w K mg base 1 "_law_hand" (spHand K) [] := by
  obtain ⟨fd, F⟩ := T.says.1.def_ 45
  refine ⟨_, fd, ["_law_script"], [], F.ok sc_law_hand (fun vs H Q E h => ?_) (fun cdv A outer s H vs Q E hRm h => ?_), T.glo 45, F.kp, F.bindsN fun _ _ _ _ _ _ us hl => match us, hl with | [_], _ => rfl, .nil⟩
  · obtain ⟨B, ns, r, _⟩ := h
    rw [r.length]
    rfl
  · obtain ⟨B, ns, r, ss, hl, q⟩ := h
    refine ⟨_, PSs.nox (pss_cons (ps_set (i := 1) sc_law_hand.nd rfl (by first | exact Or.inl rfl | exact Or.inr rfl) (pe_op op_addX (pe_callB call_lenX (by rfl) (T.free 95) (by decide +kernel) (pa_cons (pv 0) pa_nil)) pe_int))
    (pss_cons (ps_set (i := 2) sc_law_hand.nd rfl (by first | exact Or.inl rfl | exact Or.inr rfl) (pe_lst pa_nil))
    (pss_cons (ps_for PassesOwn.never rfl (pi_list (pv 0)) (pg_name (i := 3) sc_law_hand.nd rfl (by first | exact Or.inl rfl | exact Or.inr rfl)) (pss_cons (ps_set (i := 1) sc_law_hand.nd rfl (by first | exact Or.inl rfl | exact Or.inr rfl) (pe_op op_mod (pe_callTy call_intX (by rfl) (T.free 93) (by decide +kernel) (pa_cons (pe_op op_addX (pe_op op_mulX (pv 1) pe_int) (pe_callTy call_intX (by rfl) (T.free 93) (by decide +kernel) (pa_cons (pv 3) pa_nil))) pa_nil)) pe_int))
    (pss_one (ps_expr (pe_bm PySem.F.plainAttrs_list PySem.F.slot_list_append PySem.F.type_list_append mt_append (pv 2) (pa_cons (pe_callB call_absX (by rfl) (T.free 88) (by decide +kernel) (pa_cons (pe_callTy call_intX (by rfl) (T.free 93) (by decide +kernel) (pa_cons (pv 3) pa_nil)) pa_nil)) pa_nil))))))
    (pss_one (ps_ret (pe_lst (pa_cons (pv 2) (pa_cons pe_int (pa_cons pe_int (pa_cons (pv 1) pa_nil)))))))))), ?_⟩
    have S0 := sx_start (hd := none) (ds := [.scr ns]) ss hd_none r 3
    have el : L2.start N_law_hand vs = vs.map some ++ List.replicate 3 none := by
      unfold L2.start
      rw [r.length]
      rfl
    rw [el]
    refine es_use (M := fun Γ => Γ = [.val (.scr ns), .val (.int ((ns.length : Int) + 31)), .no, .no]) (s_asgV (e_op (e_cb (ea_cons (e_var rfl) ea_nil) rc_lenS) e_int ro_add) rfl) S0 fun B1 H1 σ1 Γ1 g1 S1 e1 => ?_
    subst e1
    refine es_use (M := fun Γ => Γ = [.val (.scr ns), .val (.int ((ns.length : Int) + 31)), .own (.lst []), .no]) (s_asgLV (l_lst ea_nil (of_decide_eq_true rfl)) rfl) S1 fun B2 H2 σ2 Γ2 g2 S2 e2 => ?_
    subst e2
    refine es_use (M := fun Γ => ∃ (t : Int) (u : S), 0 ≤ t ∧ Γ = [.val (.scr ns), .val (.int t), .own (.lst ((ns.map fun x => ((x.natAbs : Nat) : Int)).map D.int)), u]) ?_ S2 fun B3 H3 σ3 Γ3 g3 S3 e3 => ?_
    · refine s_forL (vs := [3]) ns D.int (fun pre Γ => ∃ (t : Int) (u : S), 0 ≤ t ∧ t.natAbs < 2147483648 ∧ Γ = [.val (.scr ns), .val (.int t), .own (.lst ((pre.map fun x => ((x.natAbs : Nat) : Int)).map D.int)), u]) (i_scr (e_var rfl)) ⟨_, _, by omega, by omega, rfl⟩ (fun pre x post Γ1 e iv => ⟨_, g_name, ?_⟩) fun Γ1 iv => ?_
      · obtain ⟨t, u, h0, h1, rfl⟩ := iv
        have hpl : pre.length ≤ 63 := by rw [e, List.length_append] at hl; omega
        refine s_seq (s_asgV (e_op (e_intI (e_op (e_op (e_var rfl) e_int (ro_mul (Sz.mono (a := 40) (Nat.lt_trans h1 (by decide)) (by decide)) (Sz.lit (by decide) (by decide)))) (e_intI (e_var rfl)) ro_add)) e_int (ro_mod (by decide))) ?_)
        rw [List.map_append, List.map_append]
        have k1 := Int.emod_nonneg (t * 1013 + x) (show (2147483629 : Int) ≠ 0 by decide)
        have k2 := Int.emod_lt_of_pos (t * 1013 + x) (show (0 : Int) < 2147483629 by decide)
        exact s_appV rfl (e_cb (ea_cons (e_intI (e_var rfl)) ea_nil) rc_abs) (by rw [List.length_map, List.length_map]; omega) ⟨_, Le.refl _, _, _, k1, by omega, rfl⟩
      · obtain ⟨t, u, h0, h1, rfl⟩ := iv
        exact ⟨t, u, h0, rfl⟩
    · obtain ⟨t, u, h0, rfl⟩ := e3
      obtain ⟨B4, S4, g4, _⟩ := S3.freeze (i := 2) rfl
      have fin : ∀ {B' H' : Hp}, Gs none (fun a => H a = none) B H B' H' → Same B' H' → Go none B H B' H' := fun {B' H'} g s' => ⟨g.ext, s', fun a o t e n _ => g.keep a o t e n (fun z => by rw [z] at e; cases e) (fun _ z => by cases z), g.tups, hd_none⟩
      refine (l_lst (ea_cons (e_var (i := 2) rfl) (ea_cons e_int (ea_cons e_int (ea_cons (e_var (i := 1) rfl) ea_nil)))) (of_decide_eq_true rfl)) none _ B4 H3 σ3 Q S4 fun B5 H5 p xs ds g5 np nb hp rl ed => ?_
      subst ed
      cases rl with
      | cons a1 r1 => cases r1 with
        | cons a2 r2 => cases r2 with
          | cons a3 r3 => cases r3 with
            | cons a4 r4 =>
              cases r4
              have q2 := a2.ofInt
              have q3 := a3.ofInt
              have q4 := a4.ofInt
              subst q2 q3 q4
              obtain ⟨c, ys, rfl, hc, rc⟩ := a1.ofLst
              have ey := rc.ofInts
              subst ey
              have gg := ((g1.trans g2).trans g3).trans (g4.trans g5.gs)
              refine q B5 H5 ⟨p, c, ns.map fun x => ((x.natAbs : Nat) : Int)⟩ (fin gg g5.sub) (fun z ez => ?_) (S4.new p np)
              cases Option.some.inj ez
              refine ⟨nb, hc, fun z hz => ?_, by rw [List.length_map]; exact hl, 0, 0, t, hp, ⟨by decide, by decide⟩, by decide, h0⟩
              obtain ⟨x, _, rfl⟩ := List.mem_map.mp hz
              exact Int.natCast_nonneg _
end
end JD
set_option maxHeartbeats 4000000
namespace JD
open PySem PySem.Spec PyProof.Rows L2
open C8 (Cal Mak)
/-! ### the law: a couple that may be wrong -/
section
variable {K : PySem.W.Frag} {Γ : List S} {te ti : TE} {Ψ : Post} {Φ : D → Prop}
/-- xs[e] = v, both drawn -/
theorem s_setLE {i : Nat} {ds : List D} (ei : Γ[i]? = some (.own (.lst ds))) (h : Ee K te Γ Φ) (hj : Ee K ti Γ fun d => ∃ n : Int, d = .int n ∧ 0 ≤ n ∧ n < (ds.length : Int)) (q : ∀ d (m : Nat), Φ d → m < ds.length → Ψ.nx (Γ.set i (.own (.lst (ds.set m d))))) : Es K (tAsg te (gSub (tVar i) ti rSetL)) Γ Ψ := fun hd fr B H σ Dd S0 k1 k2 k3 k4 =>
  h hd fr B H σ _ S0 fun B1 H1 v d' g1 r1 p1 => by
    obtain ⟨l, u, e1, f, n, hl, rr, kk⟩ := (S0.go g1).slot i _ ei
    cases u with
    | lst xs =>
      have rl : RepL K B1 xs ds := rr
      refine ⟨.ref l, e1, hj hd fr B1 H1 σ _ (S0.go g1) fun B2 H2 w y g2 r2 p2 => ?_⟩
      obtain ⟨m, rfl, m0, m1⟩ := p2
      obtain ⟨h2, n2⟩ := g2.keep l _ rfl hl n kk
      refine ⟨l, xs, m, m.toNat, rfl, r2.ofInt, h2, by rw [rl.length]; exact ixN_pos m0 m1, ?_⟩
      obtain ⟨S2, g3⟩ := ((S0.go g1).go g2).upd_own (u' := .lst (xs.set m.toNat v)) (o' := .lst (ds.set m.toNat d')) ei e1 (RepL.set (r1.mono g2.ext) m.toNat (rl.mono g2.ext))
      exact k1 B2 _ σ _ ((g1.gs.trans g2.gs).trans g3) S2 (q d' m.toNat p1 (by omega))
    | _ => exact rr.elim
end
section
variable {K : PySem.W.Frag} {Γ : List S} {ta : TA} {Φ : List D → Prop}
theorem l_lstE (h : Ea K ta Γ Φ) (hl : ∀ ds, Φ ds → ds.length ≤ 1000) : EL K (tLst ta) Γ Φ := fun hd fr B H σ Q S0 k =>
  h hd fr B H σ _ S0 fun B1 H1 vs zs g r p => by
    refine ⟨by rw [r.length]; exact Nat.le_of_lt (small1000 (hl zs p)), fun q hq => ?_⟩
    have nb : B1 q = none := by
      cases e : B1 q with
      | none => rfl
      | some u =>
        rw [g.sub _ _ e] at hq
        cases hq
    exact k B1 _ q vs zs (g.fresh hq) (g.live S0.hand S0.sub hq) nb upd_same r p
theorem e_tupE (h : Ea K ta Γ Φ) (hl : ∀ ds, Φ ds → ds.length ≤ 1000) : Ee K (tTup ta) Γ fun z => ∃ ds, z = .tup ds ∧ Φ ds := fun hd fr B H σ Q S0 k =>
  h hd fr B H σ _ S0 fun B1 H1 vs zs g r p => by
    refine ⟨by rw [r.length]; exact Nat.le_of_lt (small1000 (hl zs p)), fun q hq => ?_⟩
    have g2 := g.alloc (o := .tup vs) hq
    exact k _ _ _ (.tup zs) g2 (.tup (.inl (.inl upd_same)) (r.mono (same_upd (by
      cases e : B1 q with
      | none => rfl
      | some u =>
        rw [g.sub _ _ e] at hq
        cases hq)))) ⟨zs, rfl, p⟩
end
theorem flat_row {x : D} {es : List D} (h : x = .lst es ∨ x = .tup es) (he : ∀ e ∈ es, e.tyV.isSome = true) : flatT x := by
  rcases h with rfl | rfl
  · exact ⟨rfl, fun fs hf => by cases Option.some.inj hf; exact he⟩
  · exact ⟨rfl, fun fs hf => by cases Option.some.inj hf; exact he⟩
theorem couple_of {x : D} {a b : D} (h : x = .lst [a, b] ∨ x = .tup [a, b]) (ha : flatT a) (hb : flatT b) : coupleT x := by
  rcases h with rfl | rfl
  · exact ⟨rfl, fun fs hf _ e he => by cases Option.some.inj hf; rcases List.mem_cons.mp he with rfl | he; exact ha; rcases List.mem_singleton.mp he with rfl; exact hb⟩
  · exact ⟨rfl, fun fs hf _ e he => by cases Option.some.inj hf; rcases List.mem_cons.mp he with rfl | he; exact ha; rcases List.mem_singleton.mp he with rfl; exact hb⟩
theorem flat_ints (ns : List Int) : ∀ e ∈ ns.map D.int, e.tyV.isSome = true := fun e he => by
  obtain ⟨i, _, rfl⟩ := List.mem_map.mp he
  rfl
section
variable {P : Program} {w : World} {K : PySem.W.Frag} {mg : Str → Option Value} {base : Heap}
abbrev N_law_spoilt_couple : List Str := ["_law_hand_here", "_law_couple", "_law_one", "_law_other", "_law_manner"]
theorem sc_law_spoilt_couple : FnScope N_law_spoilt_couple ["_law_hand_here", "_law_couple"] (defScope JA.s_law_spoilt_couple) := ⟨rfl, rfl, rfl, by decide +kernel, rfl, by decide +kernel, by decide +kernel⟩
def R_law_spoilt_couple : List D → (D → Prop) → Prop := fun ds Φ => ∃ (x e1 e2 : D) (ns ms : List Int), ds = [x] ∧ x.items = some [e1, e2] ∧ e1.items = some (ns.map D.int) ∧ e2.items = some (ms.map D.int) ∧ 1 ≤ ns.length ∧ ns.length ≤ 50 ∧ ms.length ≤ 50 ∧ Φ = coupleT
theorem c_law_spoilt_couple (T : Tx K mg) : Cal P w K mg base 4 "_law_spoilt_couple" (spH K R_law_spoilt_couple) [] := by
  refine cal_H (T.glo 70) (T.says.1.def_ 70) sc_law_spoilt_couple (fun ds d h => ?_) (fun _ _ _ _ _ _ us hl => match us, hl with | [_, _], _ => rfl) fun cdv A outer s H E hRm ds Φ h => ?_
  · obtain ⟨x, e1, e2, ns, ms, rfl, _⟩ := h
    rfl
  · obtain ⟨x, e1, e2, ns, ms, rfl, hx, h1, h2, hn1, hn2, hm, rfl⟩ := h
    refine ⟨_, (pss_cons (ps_set (i := 2) sc_law_spoilt_couple.nd rfl (by first | exact Or.inl rfl | exact Or.inr rfl) (pe_callTy call_listX (by rfl) (T.free 96) (by decide +kernel) (pa_cons (pe_ix ix_seq (pv 1) pe_int (fun _ _ => rfl)) pa_nil)))
    (pss_cons (ps_set (i := 3) sc_law_spoilt_couple.nd rfl (by first | exact Or.inl rfl | exact Or.inr rfl) (pe_callTy call_listX (by rfl) (T.free 96) (by decide +kernel) (pa_cons (pe_ix ix_seq (pv 1) pe_int (fun _ _ => rfl)) pa_nil)))
    (pss_cons (ps_set (i := 4) sc_law_spoilt_couple.nd rfl (by first | exact Or.inl rfl | exact Or.inr rfl) (C8.pe_c (c_law_draw T) hRm (by decide) (by rfl) (pa_cons (pv 0) (pa_cons pe_int pa_nil))))
    (pss_cons (ps_if (pt_cmpR (op_eqD hRm.units) (pv 4) pe_int (nomark _)) (pss_one (ps_ret (C8.pe_c (c_law_pick T) hRm (by decide) (by rfl) (pa_cons (pv 0) (pa_cons (pe_lst (pa_cons pe_non (pa_cons (pe_tup pa_nil) (pa_cons (pe_lst (pa_cons (pv 2) pa_nil)) (pa_cons (pe_tup (pa_cons (pv 2) (pa_cons (pv 3) (pa_cons (pv 2) pa_nil)))) (pa_cons pe_str pa_nil)))))) pa_nil))))) pss_nil)
    (pss_cons (ps_if (pt_cmpR (op_eqD hRm.units) (pv 4) pe_int (nomark _)) (pss_cons (ps_asg (C8.pe_c (c_law_pick T) hRm (by decide) (by rfl) (pa_cons (pv 0) (pa_cons (pe_lst (pa_cons pe_int (pa_cons pe_bl (pa_cons pe_non (pa_cons (pe_un un_neg pe_int) pa_nil))))) pa_nil))) (pg_sub (pv 2) (C8.pe_c (c_law_draw T) hRm (by decide) (by rfl) (pa_cons (pv 0) (pa_cons (pe_callB call_lenX (by rfl) (T.free 95) (by decide +kernel) (pa_cons (pv 2) pa_nil)) pa_nil))) set_list))
    (pss_one (ps_ret (pe_tup (pa_cons (pv 2) (pa_cons (pv 3) pa_nil)))))) pss_nil)
    (pss_cons (ps_if (pt_cmpR (op_eqD hRm.units) (pv 4) pe_int (nomark _)) (pss_one (ps_ret (pe_lst (pa_cons (pv 2) (pa_cons (pe_op op_addX (pv 3) (pe_lst (pa_cons (C8.pe_c (c_law_draw T) hRm (by decide) (by rfl) (pa_cons (pv 0) (pa_cons pe_int pa_nil))) pa_nil))) pa_nil))))) pss_nil)
    (pss_cons (ps_if (pt_cmpR (op_eqD hRm.units) (pv 4) pe_int (nomark _)) (pss_one (ps_ret (pe_tup (pa_cons (C8.pe_c (c_law_shuffled T) hRm (by decide) (by rfl) (pa_cons (pv 0) (pa_cons (pv 2) pa_nil))) (pa_cons (pv 3) pa_nil))))) pss_nil)
    (pss_cons (ps_if (pt_cmpR (op_eqD hRm.units) (pv 4) pe_int (nomark _)) (pss_one (ps_ret (pe_lst (pa_cons (pv 3) (pa_cons (C8.pe_c (c_law_shuffled T) hRm (by decide) (by rfl) (pa_cons (pv 0) (pa_cons (pv 2) pa_nil))) pa_nil))))) pss_nil)
    (pss_cons (ps_if (pt_cmpR (op_eqD hRm.units) (pv 4) pe_int (nomark _)) (pss_one (ps_ret (pe_tup (pa_cons (pv 2) (pa_cons (pe_lst pa_nil) pa_nil))))) pss_nil)
    (pss_one (ps_ret (pe_lst (pa_cons (pv 3) (pa_cons (pv 2) pa_nil)))))))))))))), ?_⟩
    have a0 : x.at 0 = some e1 := at_items (j := 0) hx rfl
    have a1 : x.at 1 = some e2 := at_items (j := 1) hx rfl
    refine s_seq (s_asgLV (l_cb (ea_cons (e_op (e_var (i := 1) rfl) e_int (ro_ix a0)) ea_nil) (rl_list h1)) ?_)
    refine s_seq (s_asgLV (l_cb (ea_cons (e_op (e_var (i := 1) rfl) e_int (ro_ix a1)) ea_nil) (rl_list h2)) ?_)
    refine s_seq (s_asg (e_draw rfl e_int (by decide) (Sz.lit (by decide) (by decide))) fun d hd => ?_)
    obtain ⟨j, rfl, j0, j1⟩ := hd
    have fl1 : ∀ l : List Int, flatT (.lst (l.map D.int)) := fun l => flat_row (.inl rfl) (flat_ints l)
    have lenOwn : ∀ {Γ : List S} {i : Nat} {l : List D}, Γ[i]? = some (.own (.lst l)) → Ev K (tCB (rLenX K) (tCons (tVar i) tNil)) Γ (.int (l.length : Int)) := fun {Γ i l} h => e_peek (i := i) (ds := l) h (e_cb (ea_cons (e_var (d := .lst l) (by rw [List.getElem?_set_self (List.getElem?_eq_some_iff.mp h).1])) ea_nil) (rc_len (show (D.lst l).len = some l.length from rfl))) fun d hd => by rw [hd]; rfl
    have out : ∀ (a b : List D) (t u : Bool) (Γ : List S), (∀ e ∈ a, e.tyV.isSome = true) → (∀ e ∈ b, e.tyV.isSome = true) → coupleT (.tup [.lst a, .lst b]) ∧ coupleT (.lst [.lst a, .lst b]) := fun a b _ _ _ ha hb => ⟨couple_of (.inr rfl) (flat_row (.inl rfl) ha) (flat_row (.inl rfl) hb), couple_of (.inl rfl) (flat_row (.inl rfl) ha) (flat_row (.inl rfl) hb)⟩
    have tst : ∀ {Γ : List S} {k : Int}, Γ[4]? = some (.val (.int j)) → Et K (tTest (tOp (rEqD K) (tVar 4) (tC (.int k)))) Γ fun b => b = decide (j = k) := fun h => t_test (e_op (e_var h) e_int ro_eq)
    have F1 := flat_ints ns
    have F2 := flat_ints ms
    refine s_seq (s_ifB (tst rfl) (fun c => ?_) fun c => s_next ?_)
    · refine s_frz 2 rfl (s_frz 3 rfl (s_ret (e_imp (e_pick (es := [.non, .tup [], .lst [.lst (ns.map D.int)], .tup [.lst (ns.map D.int), .lst (ms.map D.int), .lst (ns.map D.int)], .str "01"]) rfl (e_lst (ea_cons e_non (ea_cons (e_tup ea_nil (of_decide_eq_true rfl)) (ea_cons (e_lst (ea_cons (e_var rfl) ea_nil) (of_decide_eq_true rfl)) (ea_cons (e_tup (ea_cons (e_var rfl) (ea_cons (e_var rfl) (ea_cons (e_var rfl) ea_nil))) (of_decide_eq_true rfl)) (ea_cons e_str ea_nil))))) (of_decide_eq_true rfl)) rfl (by simp) (by simp)) fun d hd => ?_) fun d hd => hd))
      simp only [List.mem_cons, List.not_mem_nil, or_false] at hd
      rcases hd with rfl | rfl | rfl | rfl | rfl
      · exact ⟨rfl, fun es he => by cases he⟩
      · exact ⟨rfl, fun es he h => by cases Option.some.inj he; cases h⟩
      · exact ⟨rfl, fun es he h => by cases Option.some.inj he; cases h⟩
      · exact ⟨rfl, fun es he h => by cases Option.some.inj he; cases h⟩
      · exact ⟨rfl, fun es he => by cases he⟩
    refine s_seq (s_ifB (tst rfl) (fun c => ?_) fun c => s_next ?_)
    · refine s_seq (s_setLE (i := 2) rfl (e_pick (es := [.int 2, .bl true, .non, .int (-1)]) rfl (e_lst (ea_cons e_int (ea_cons e_bl (ea_cons e_non (ea_cons (e_un e_int ru_neg) ea_nil)))) (of_decide_eq_true rfl)) rfl (by simp) (by simp)) (e_draw rfl (lenOwn rfl) (by rw [List.length_map]; omega) (Sz.lit (by rw [List.length_map]; omega) (by decide))) fun d m hd hm => ?_)
      have hset : ∀ e ∈ (ns.map D.int).set m d, e.tyV.isSome = true := fun e he => by
        rcases List.mem_or_eq_of_mem_set he with he | rfl
        · exact F1 e he
        · simp only [List.mem_cons, List.not_mem_nil, or_false] at hd
          rcases hd with rfl | rfl | rfl | rfl <;> rfl
      exact s_frz 2 rfl (s_frz 3 rfl (s_retV (e_tup (ea_cons (e_var rfl) (ea_cons (e_var rfl) ea_nil)) (of_decide_eq_true rfl)) (out _ _ true true [] hset F2).1))
    refine s_seq (s_ifB (tst rfl) (fun c => ?_) fun c => s_next ?_)
    · refine s_frz 2 rfl (s_frz 3 rfl (s_ret (e_imp (l_lstE (ea_cons2 (Φa := fun d => d = .lst (ns.map D.int)) (Φb := fun _ zs => ∃ d, zs = [d] ∧ flatT d) (e_var rfl) fun _ _ => ?_) fun zs hzs => ?_).ee fun d hd => ?_) fun d hd => hd))
      · refine fun hd fr B H σ Q S0 k => ea_cons2 (Φa := flatT) (Φb := fun _ zs => zs = []) (e_op2 (Φa := fun d => d = .lst (ms.map D.int)) (Φb := fun _ d => ∃ i : Int, d = .lst [.int i]) (e_var rfl) (fun _ _ => e_imp (l_lstE (ea_cons2 (Φb := fun _ zs => zs = []) (e_draw rfl e_int (by decide) (Sz.lit (by decide) (by decide))) fun _ _ => ea_nil) (fun zs hz => by obtain ⟨x, xs, rfl, _, rfl⟩ := hz; exact of_decide_eq_true rfl)).ee fun d hd => by obtain ⟨zs, rfl, x, xs, rfl, ⟨i, rfl, _⟩, rfl⟩ := hd; exact ⟨i, rfl⟩) fun a b ea eb => ?_) (fun _ _ => ea_nil) hd fr B H σ Q S0 fun B' H' vs zs g r p => k B' H' vs zs g r (by obtain ⟨x, xs, rfl, hx, rfl⟩ := p; exact ⟨x, rfl, hx⟩)
        subst ea
        obtain ⟨i, rfl⟩ := eb
        have hfl : flatT (.lst (ms.map D.int ++ [.int i])) := by
          refine flat_row (.inl rfl) fun e he => ?_
          rcases List.mem_append.mp he with he | he
          · exact F2 e he
          · rcases List.mem_singleton.mp he with rfl
            rfl
        exact fun B H v w Q s r1 r2 k => ro_cat (by rw [List.length_map]; simp; omega) B H v w Q s r1 r2 fun B' H' u z g r e => k B' H' u z g r (by rw [e]; exact hfl)
      · obtain ⟨x, xs, rfl, _, y, rfl, _⟩ := hzs
        exact of_decide_eq_true rfl
      · obtain ⟨zs, rfl, x, xs, rfl, rfl, y, rfl, hy⟩ := hd
        exact couple_of (.inl rfl) (fl1 ns) hy
    have eshuf : ∀ {Γ : List S} {i j : Nat} {E : XK}, Γ[i]? = some .hand → Γ[j]? = some (.val (.lst (ns.map D.int))) → Ee K (tCall (spH K R_law_shuffled) [] E (tCons (tVar i) (tCons (tVar j) tNil))) Γ flatT := fun {Γ i j E} hi hj => e_imp (e_callH hi (ea_cons (e_var hj) ea_nil) ⟨.lst (ns.map D.int), ns, rfl, rfl, by omega, rfl⟩) fun d hd => by
      obtain ⟨q, rfl, _⟩ := hd
      exact flat_row (.inr rfl) (flat_ints q)
    refine s_seq (s_ifB (tst rfl) (fun c => ?_) fun c => s_next ?_)
    · refine s_frz 2 rfl (s_frz 3 rfl (s_ret (e_imp (e_tupE (ea_cons2 (Φb := fun _ zs => zs = [.lst (ms.map D.int)]) (eshuf rfl rfl) fun _ _ => ea_cons (e_var rfl) ea_nil) fun zs hzs => ?_) fun d hd => ?_) fun d hd => hd))
      · obtain ⟨x, xs, rfl, _, rfl⟩ := hzs
        exact of_decide_eq_true rfl
      · obtain ⟨zs, rfl, x, xs, rfl, hx, rfl⟩ := hd
        exact couple_of (.inr rfl) hx (fl1 ms)
    refine s_seq (s_ifB (tst rfl) (fun c => ?_) fun c => s_next ?_)
    · refine s_frz 2 rfl (s_frz 3 rfl (s_ret (e_imp (l_lstE (ea_cons2 (Φa := fun d => d = .lst (ms.map D.int)) (Φb := fun _ zs => ∃ y, zs = [y] ∧ flatT y) (e_var rfl) fun _ _ => fun hd fr B H σ Q S0 k => ea_cons2 (Φb := fun _ zs => zs = []) (eshuf rfl rfl) (fun _ _ => ea_nil) hd fr B H σ Q S0 fun B' H' vs zs g r p => k B' H' vs zs g r (by obtain ⟨x, xs, rfl, hx, rfl⟩ := p; exact ⟨x, rfl, hx⟩)) fun zs hzs => ?_).ee fun d hd => ?_) fun d hd => hd))
      · obtain ⟨x, xs, rfl, _, y, rfl, _⟩ := hzs
        exact of_decide_eq_true rfl
      · obtain ⟨zs, rfl, x, xs, rfl, rfl, y, rfl, hy⟩ := hd
        exact couple_of (.inl rfl) (fl1 ms) hy
    refine s_seq (s_ifB (tst rfl) (fun c => ?_) fun c => s_next ?_)
    · exact s_frz 2 rfl (s_frz 3 rfl (s_retV (e_tup (ea_cons (e_var rfl) (ea_cons (e_lst ea_nil (of_decide_eq_true rfl)) ea_nil)) (of_decide_eq_true rfl)) (out _ _ true true [] F1 (fun e he => by cases he)).1))
    · exact s_frz 2 rfl (s_frz 3 rfl (s_retV (e_lst (ea_cons (e_var rfl) (ea_cons (e_var rfl) ea_nil)) (of_decide_eq_true rfl)) (out _ _ true true [] F2 F1).2))
end
end JD
set_option maxHeartbeats 4000000
namespace GQ
open PySem PySem.SeqAt
open AutoSeq1 (wpAny_loadPart')
open MeetsSeq MeetsSeq2 MeetsSeq3 SeqRoads2
section
variable {prog : Program} {w : World} {A : Around} {R : Result → Shared → Prop}
theorem tuple_neG (l b : Addr) (items items2 : Array Value) (n n2 : Nat) (dd dd2 : Option Addr) (sl sl2 : Array (Option Value)) (hsz : items.size = items2.size) (I : Nat → Shared → Prop)
    (turn : ∀ i (h1 : i < items.size) (h2 : i < items2.size) s, I i s → wpAny (model prog w) A.in1 (eqBool items[i] items2[i]) (fun r s' => r = true ∧ I (i + 1) s') (fun e s' => R (.error e) s') s)
    (fin : ∀ s, I items.size s → R (.ok (.ret (.bool false))) s) {s : Shared} (hl1 : s.heap.get? l = some { cls := .type "tuple", dict := dd, data := .seq items n, slots := sl }) (hb1 : s.heap.get? b = some { cls := .type "tuple", dict := dd2, data := .seq items2 n2, slots := sl2 }) (h : I 0 s) :
    wpAny (model prog w) A.in1 (Builtin.«tuple.__ne__» ⟨[.ref l, .ref b], []⟩) (FinOf prog w A R) (fun e s' => R (.error e) s') s := by
  have f2 := AutoSeq1.sub_tuple_tuple
  have hZ : (items.toList.zip items2.toList).length = items.size := by simp [hsz]
  have h0 := h
  obtain ⟨hp, g, d, tk, os⟩ := s
  wp_walk using wpAny_loadPart' hl1, wpAny_loadPart' hb1, wpAny_forIn_list _ (fun rest b s' => b.1 = none ∧ ∃ i, rest = (items.toList.zip items2.toList).drop i ∧ i ≤ items.size ∧ I i s') _
  case turn =>
    rintro ⟨y, x⟩ rest b s' ⟨hb', i, hz, hi, hI⟩
    have hlt : i < (items.toList.zip items2.toList).length := by
      rcases Nat.lt_or_ge i (items.toList.zip items2.toList).length with h' | h'
      · exact h'
      · rw [List.drop_of_length_le h'] at hz; cases hz
    have h1 : i < items.size := hZ ▸ hlt
    have h2 : i < items2.size := hsz ▸ h1
    rw [List.drop_eq_getElem_cons hlt] at hz
    injection hz with hyx hrest
    have hy : y = items[i] := by have := congrArg Prod.fst hyx; simpa using this
    have hx : x = items2[i] := by have := congrArg Prod.snd hyx; simpa using this
    subst hy hx
    refine wpAny_bind (wpAny_mono (turn i h1 h2 s' hI) (fun r s2 q2 => ?_) fun _ _ x => x)
    obtain ⟨hr, q2⟩ := q2
    subst hr
    wp_walk
    exact ⟨rfl, i + 1, hrest, h1, q2⟩
  case fin =>
    rintro ⟨b1, b2⟩ s' ⟨hb', i, hz, hi, hI⟩
    simp only at hb'
    subst hb'
    have hge : items.size ≤ i := by
      rcases Nat.lt_or_ge i (items.toList.zip items2.toList).length with h' | h'
      · rw [List.drop_eq_getElem_cons h'] at hz; cases hz
      · exact hZ ▸ h'
    have hi' : i = items.size := by omega
    have hR : R (.ok (.ret (.bool false))) s' := fin s' (hi' ▸ hI)
    wp_walk
    simpa [Builtin.Tuple.tupleCompareSizes, hsz] using hR
  case h =>
    exact ⟨rfl, 0, rfl, Nat.zero_le _, h0⟩
end
section
variable {prog : Program} {w : World} {A : Around} {E : Value → Shared → Prop} {s : Shared}
theorem rc_tup_neG {l b : Addr} {items items2 : Array Value} {Q : Value → Shared → Prop} (hsz : items.size = items2.size) (hu : A.units < cLine) (I : Nat → Shared → Prop)
    (hl : s.heap.IsTuple l items) (hb : s.heap.IsTuple b items2)
    (turn : ∀ i (h1 : i < items.size) (h2 : i < items2.size) s, I i s → wpAny (model prog w) A.in1 (eqBool items[i] items2[i]) (fun r s' => r = true ∧ I (i + 1) s') E s)
    (fin : ∀ s, I items.size s → Q (.bool false) s) (h : I 0 s) : wpAny (model prog w) A (richCompare .NotEq (.ref l) (.ref b)) Q E s := by
  obtain ⟨⟨cls, dd, data, sl⟩, ho, hc, n, hd⟩ := id hl
  obtain ⟨⟨cls2, dd2, data2, sl2⟩, ho2, hc2, n2, hd2⟩ := id hb
  simp only at hc hd hc2 hd2
  subst hc hd hc2 hd2
  refine wpAny_richCompare_same_room (op := .NotEq) ⟨_, ho, rfl⟩ ⟨_, ho2, rfl⟩ F.slot_tuple_ne (call_here F.slot_tuple_ne ⟨_, ho, rfl⟩ F.entry_tuple_ne (F.args_tuple_ne_2 _ _) ?_) hu
  exact tuple_neG (R := wants (fun v s' => v ≠ .notImplemented ∧ Q v s') E) l b items items2 n n2 dd dd2 sl sl2 hsz I turn (fun s' q => ⟨(fun x => nomatch x), fin s' q⟩) ho ho2 h
end
end GQ
namespace L2
open PySem PySem.Spec PyProof.Rows
section
variable {X : Cx} {n : Nat} {D : Eqv}
def rNeG (K : PySem.W.Frag) (D : Eqv) : R2 := fun x y H Q => DTup K D x y H ∧ ∀ H', Ext H H' → Q (.bl false) H'
theorem op_neG (hD : Mon D) (h : EqG X n D) (hr : Room (n + 1) X.A) : OpR X (compareOp .NotEq) (rNeG X.K D) := by
  intro pins s σ H x y v u Q I rx ry hq
  obtain ⟨d, q⟩ := hq
  show wpAny (model X.prog X.w) X.A (richCompare .NotEq v u) (EP X pins σ Q) X.xe s
  obtain ⟨a, b, xs, ys, rfl, rfl, ha, hb, p⟩ := d
  cases rx
  cases ry
  obtain ⟨its, r, e, z⟩ := I.tuple ha
  obtain ⟨its2, r2, e2, z2⟩ := I.tuple hb
  have hsz : its.toArray.size = its2.toArray.size := by rw [List.size_toArray, List.size_toArray, ← r.length, ← r2.length]; exact p.1
  have sb : Sub X (n + 1) X.A := ⟨hr, rfl⟩
  refine GQ.rc_tup_neG hsz sb.room.units0 (fun _ s' => LoopI X pins σ H s') e e2 (fun i h1 h2 s' q => turnG hD h sb p r r2 i h1 h2 s' q) (fun s' l => ?_) ⟨H, I, Ext.rfl'⟩
  obtain ⟨H', I', e'⟩ := l
  exact ⟨.bl false, H', I', rfl, q H' e'⟩
end
end L2
namespace JD
open PySem PySem.Spec PyProof.Rows L2
open C8 (Cal Mak)
/-! two instances of one stretch -/
def EqS (K : PySem.W.Frag) (a b : Addr) (H : Hp) : Prop := ∃ (B : Hp) (s : SR), Same B H ∧ Rep K B (.ref a) (strD K s) ∧ Rep K B (.ref b) (strD K s)
theorem ext_of_go {B H B' H' : Hp} (ss : Same B H) (g : Go none B H B' H') : L2.Ext H H' := fun a o e => by
  cases q : B a with
  | some u =>
    have e1 := ss _ _ q
    rw [e] at e1
    cases Option.some.inj e1
    exact g.sub _ _ (g.ext _ _ q)
  | none =>
    cases t : HO.isT o with
    | false => exact (g.keep a o t e q fun _ z => by cases z).1
    | true =>
      cases o with
      | tup xs => exact g.tups a xs e
      | _ => cases t
theorem go_of_ext {B H H' : Hp} (ss : Same B H) (e : L2.Ext H H') : Go none B H B H' := ⟨Same.refl B, fun b o q => e _ _ (ss _ _ q), fun a o _ q n _ => ⟨e _ _ q, n⟩, fun a xs q => e _ _ q, hd_none⟩
section
variable {P : Program} {w : World} {K : PySem.W.Frag} {mg : Str → Option Value} {base : Heap}
abbrev N_Stretch_eq : List Str := ["self", "other"]
theorem sc_Stretch_eq : FnScope N_Stretch_eq ["self", "other"] (defScope JA.s_Stretch_eq) := ⟨rfl, rfl, rfl, by decide +kernel, rfl, by decide +kernel, by decide +kernel⟩
theorem f_Stretch_eq (T : Tx K mg) {CX : CXT} {dv : List V} {f : Addr} {fd : FuncData} (F : FunD K "__eq__" "Stretch.__eq__" (defArgs JA.s_Stretch_eq) (defBody JA.s_Stretch_eq) (defScope JA.s_Stretch_eq) dv [] f fd) : FnOk P w K mg base CX 1 f fd ["self", "other"] (spEq (EqS K)) := by
  refine F.ok sc_Stretch_eq (fun vs H Q E h => ?_) fun cdv A outer s H vs Q E hRm h => ?_
  · obtain ⟨a, b, rfl, _⟩ := h
    rfl
  · obtain ⟨a, b, rfl, ⟨B, s, ss, r1, r2⟩, q⟩ := h
    refine ⟨_, PSs.nox (pss_one (ps_ret (pe_and (pe_callB call_isiX (by rfl) (T.free 94) (by decide +kernel) (pa_cons (pv 1) (pa_cons (C8.pe_gc (v := .ref (He.ga K "Stretch")) (by rfl) ⟨_, T.glo 80, rfl⟩) pa_nil))) (pe_and (pe_cmpR (op_eqD hRm.units) (pe_fld (pv 0) rfl) (pe_fld (pv 1) rfl) (nomark _)) (pe_one (pe_cmpR (op_eqD hRm.units) (pe_fld (pv 0) rfl) (pe_fld (pv 1) rfl) (nomark _))))))), ?_⟩
    have S0 := sx_start (hd := none) (ds := [strD K s, strD K s]) ss hd_none (.cons r1 (.cons r2 .nil)) 0
    have el : L2.start N_Stretch_eq [V.ref a, V.ref b] = [V.ref a, V.ref b].map some ++ List.replicate 0 none := rfl
    rw [el]
    refine (e_and (a := true) (b := true) (e_cb (ea_cons (e_var (i := 1) rfl) (ea_cons e_opq ea_nil)) (rc_isiS T (T.cls 108))) fun _ => e_and (a := true) (b := true) ((e_op (e_low_ T (s := s) (e_var (i := 0) rfl)) (e_low_ T (s := s) (e_var (i := 1) rfl)) ro_eqR).cast (by rw [decide_eq_true rfl])) fun _ => (e_op (e_high_ T (s := s) (e_var (i := 0) rfl)) (e_high_ T (s := s) (e_var (i := 1) rfl)) ro_eqO).cast (by rw [decide_eq_true rfl])) none _ B H _ Q S0 fun B' H' v d g r e => ?_
    have ev : v = .bl true := by
      rw [e] at r
      exact r.ofBl
    subst ev
    exact q H' (ext_of_go ss g)
theorem mon_eqs {K : PySem.W.Frag} : ∀ a b H H', L2.Ext H H' → EqS K a b H → EqS K a b H' := fun a b H H' e h => by
  obtain ⟨B, s, ss, r1, r2⟩ := h
  exact ⟨B, s, fun x o q => e _ _ (ss _ _ q), r1, r2⟩
def rNeS (K : PySem.W.Frag) : R2 := rNeG K (DIns (He.ga K "Stretch") (EqS K))
theorem op_neS {X : Cx} {j : Nat} (T : Tx X.K X.mg) (hr : Room j X.A) (hj : 2 ≤ j) : OpR X (compareOp .NotEq) (rNeS X.K) := by
  obtain ⟨fd, F⟩ := T.says.1.def_ 83
  obtain ⟨m1, m2, m3⟩ := He.meth_ok (T.says.1.fact 120 (f := .meth "Stretch" "__eq__"))
  exact op_neG (n := 1) (mon_ins mon_eqs) (eqG_ins (E := fun _ _ _ => False) (CX := C8.CX0) (f_Stretch_eq T F) m1 m2 (F.bindsN fun _ _ _ _ _ _ us hl => match us, hl with | [_, _], _ => rfl) C8.pass0) (hr.mono hj)
theorem ro_neS {l : List SR} : Ro K (rNeS K) (.tup (l.map (strD K))) (.tup (l.map (strD K))) fun u => u = .bl false := fun B H v w Q s r1 r2 k => by
  obtain ⟨a, xs, rfl, ha, ra⟩ := r1.ofTup
  obtain ⟨b, ys, rfl, hb, rb⟩ := r2.ofTup
  refine ⟨⟨a, b, xs, ys, rfl, rfl, Same.sqT s ha, Same.sqT s hb, ra.length.trans rb.length.symm, fun i x y hx hy => ?_⟩, fun H' e => k B H' _ _ (go_of_ext s e) (.bl _) rfl⟩
  obtain ⟨d1, hd1, q1⟩ := ra.getV hx
  obtain ⟨d2, hd2, q2⟩ := rb.getV hy
  rw [hd1] at hd2
  cases Option.some.inj hd2
  rw [List.getElem?_map] at hd1
  cases hq : l[i]? with
  | none => rw [hq] at hd1; cases hd1
  | some z =>
    rw [hq] at hd1
    have hd1' : strD K z = d1 := Option.some.inj hd1
    subst hd1'
    obtain ⟨a1, dx, fs, rfl, h1, _⟩ := q1.ofIns
    obtain ⟨a2, dy, gs, rfl, h2, _⟩ := q2.ofIns
    exact ⟨a1, a2, dx, dy, fs, gs, rfl, rfl, s _ _ h1, s _ _ h2, B, z, s, q1, q2⟩
end
end JD
set_option maxHeartbeats 4000000
namespace JD
/-! ### lists of stretches as sets of ratios above 1 -/
def inX (x : SR) (r : Rat) : Prop := x.1 ≤ r ∧ ∀ h, x.2 = some h → r ≤ h
def inS (l : List SR) (r : Rat) : Prop := ∃ x ∈ l, inX x r
def WOk (x : SR) : Prop := 1 ≤ x.1 ∧ ∀ h, x.2 = some h → x.1 ≤ h ∧ h ≠ 1
theorem SOk.w {n : Nat} {x : SR} (h : SOk n x) : WOk x := ⟨h.2.1, fun z e => (h.2.2 z e).2⟩
theorem inS_nil {r : Rat} : ¬ inS [] r := fun ⟨_, h, _⟩ => by cases h
theorem inS_cons {x : SR} {l : List SR} {r : Rat} : inS (x :: l) r ↔ inX x r ∨ inS l r := by
  unfold inS
  simp
theorem inS_append {l m : List SR} {r : Rat} : inS (l ++ m) r ↔ inS l r ∨ inS m r := by
  unfold inS
  constructor
  · rintro ⟨x, hx, h⟩
    rcases List.mem_append.mp hx with hx | hx
    · exact .inl ⟨x, hx, h⟩
    · exact .inr ⟨x, hx, h⟩
  · rintro (⟨x, hx, h⟩ | ⟨x, hx, h⟩)
    · exact ⟨x, List.mem_append_left _ hx, h⟩
    · exact ⟨x, List.mem_append_right _ hx, h⟩
def ptS (x : SR) : Rat := match x.2 with
  | none => x.1 + 1
  | some h => h
theorem ptS_in {x : SR} (h : WOk x) : 1 < ptS x ∧ inX x (ptS x) := by
  obtain ⟨lo, hi⟩ := x
  obtain ⟨h1, h2⟩ := h
  cases hi with
  | none =>
    refine ⟨?_, ?_, fun h e => by cases e⟩
    · show 1 < lo + 1
      have h1' : 1 ≤ lo := h1
      grind
    · show lo ≤ lo + 1
      grind
  | some z =>
    obtain ⟨h3, h4⟩ := h2 z rfl
    have h1' : 1 ≤ lo := h1
    have h3' : lo ≤ z := h3
    refine ⟨?_, h3, fun h e => by cases e; exact Rat.le_refl⟩
    show 1 < z
    grind
theorem in_tail {x : SR} {l : List SR} (hc : Canon (x :: l)) {r : Rat} (h : inS l r) : ∃ hh, x.2 = some hh ∧ hh < r := by
  obtain ⟨y, hy, h1, _⟩ := h
  obtain ⟨hh, e, hl⟩ := List.rel_of_pairwise_cons hc hy
  exact ⟨hh, e, by grind⟩
theorem low_all {x : SR} {l : List SR} (hc : Canon (x :: l)) (hx : WOk x) {r : Rat} (h : inS (x :: l) r) : x.1 ≤ r := by
  rcases inS_cons.mp h with h | h
  · exact h.1
  · obtain ⟨hh, e, hl⟩ := in_tail hc h
    have := (hx.2 hh e).1
    grind
theorem low_le {x y : SR} {l m : List SR} (hx : WOk x) (hcy : Canon (y :: m)) (hy : WOk y) (h : ∀ r, 1 < r → inS (x :: l) r → inS (y :: m) r) : y.1 ≤ x.1 := by
  by_cases g' : y.1 ≤ x.1
  · exact g'
  exfalso
  have g : x.1 < y.1 := by grind
  obtain ⟨p1, p2, p3⟩ := ptS_in hx
  have hx1 := hx.1
  have key : ∀ r, 1 < r → r < y.1 → inX x r → False := fun r h1 h2 h3 => by
    have := low_all hcy hy (h r h1 (inS_cons.mpr (.inl h3)))
    grind
  by_cases c : ptS x < y.1
  · exact key _ p1 c ⟨p2, p3⟩
  · refine key ((x.1 + y.1) / 2) (by grind) (by grind) ⟨by grind, fun hh e => ?_⟩
    have := p3 hh e
    grind
theorem high_le {x y : SR} {l m : List SR} (hcx : Canon (x :: l)) (hwx : ∀ z ∈ x :: l, WOk z) (hy : WOk y) (e1 : y.1 = x.1) (h : ∀ r, 1 < r → inS (y :: m) r → inS (x :: l) r) {hh : Rat} (ex : x.2 = some hh) : ∃ k, y.2 = some k ∧ k ≤ hh := by
  have hx := hwx x (List.mem_cons_self ..)
  obtain ⟨x1, x2⟩ := hx.2 hh ex
  have x0 := hx.1
  have main : ∀ c : Rat, hh < c → (∀ k, y.2 = some k → c ≤ k) → False := fun c hc hk => by
    have key : ∀ r, hh < r → r ≤ c → inS l r := fun r h1 h2 => by
      have hin : inS (y :: m) r := inS_cons.mpr (.inl ⟨by grind, fun k ek => by have := hk k ek; grind⟩)
      rcases inS_cons.mp (h r (by grind) hin) with q | q
      · have := q.2 hh ex
        grind
      · exact q
    cases l with
    | nil => exact inS_nil (key c hc Rat.le_refl)
    | cons z l =>
      obtain ⟨q, eq, hq⟩ := List.rel_of_pairwise_cons hcx (List.mem_cons_self (a := z))
      rw [ex] at eq
      cases Option.some.inj eq
      have hcz : Canon (z :: l) := List.Pairwise.of_cons hcx
      have hwz := hwx z (List.mem_cons_of_mem _ (List.mem_cons_self ..))
      by_cases d : c < (hh + z.1) / 2
      · have := low_all hcz hwz (key c hc Rat.le_refl)
        grind
      · have := low_all hcz hwz (key ((hh + z.1) / 2) (by grind) (by grind))
        grind
  cases ey : y.2 with
  | none => exact (main (hh + 1) (by grind) (fun k ek => by rw [ey] at ek; cases ek)).elim
  | some k =>
    refine ⟨k, rfl, ?_⟩
    by_cases c : k ≤ hh
    · exact c
    · exact (main k (by grind) (fun k' ek => by rw [ey] at ek; cases ek; exact Rat.le_refl)).elim
/-- a list in order is told by its ratios above 1 -/
theorem canon_uniq : ∀ (l m : List SR), Canon l → Canon m → (∀ z ∈ l, WOk z) → (∀ z ∈ m, WOk z) → (∀ r, 1 < r → (inS l r ↔ inS m r)) → l = m
  | [], [], _, _, _, _, _ => rfl
  | [], y :: m, _, _, _, hm, h => by
    obtain ⟨p, q⟩ := ptS_in (hm y (List.mem_cons_self ..))
    exact (inS_nil ((h _ p).mpr (inS_cons.mpr (.inl q)))).elim
  | x :: l, [], _, _, hl, _, h => by
    obtain ⟨p, q⟩ := ptS_in (hl x (List.mem_cons_self ..))
    exact (inS_nil ((h _ p).mp (inS_cons.mpr (.inl q)))).elim
  | x :: l, y :: m, cl, cm, hl, hm, h => by
    have hx := hl x (List.mem_cons_self ..)
    have hy := hm y (List.mem_cons_self ..)
    have a1 := low_le hx cm hy fun r hr => (h r hr).mp
    have a2 := low_le hy cl hx fun r hr => (h r hr).mpr
    have e1 : x.1 = y.1 := Rat.le_antisymm a2 a1
    have e2 : x.2 = y.2 := by
      cases ex : x.2 with
      | none =>
        cases ey : y.2 with
        | none => rfl
        | some k =>
          obtain ⟨k', e, _⟩ := high_le cm hm hx e1 (fun r hr => (h r hr).mp) ey
          rw [ex] at e
          cases e
      | some hh =>
        obtain ⟨k, ey, l1⟩ := high_le cl hl hy e1.symm (fun r hr => (h r hr).mpr) ex
        obtain ⟨k', ex', l2⟩ := high_le cm hm hx e1 (fun r hr => (h r hr).mp) ey
        rw [ex] at ex'
        cases Option.some.inj ex'
        rw [ey, Rat.le_antisymm l1 l2]
    have exy : x = y := Prod.ext e1 e2
    subst exy
    congr 1
    refine canon_uniq l m (List.Pairwise.of_cons cl) (List.Pairwise.of_cons cm) (fun z hz => hl z (List.mem_cons_of_mem _ hz)) (fun z hz => hm z (List.mem_cons_of_mem _ hz)) fun r hr => ⟨fun q => ?_, fun q => ?_⟩
    · obtain ⟨hh, e, lt⟩ := in_tail cl q
      rcases inS_cons.mp ((h r hr).mp (inS_cons.mpr (.inr q))) with k | k
      · have := k.2 hh e
        grind
      · exact k
    · obtain ⟨hh, e, lt⟩ := in_tail cm q
      rcases inS_cons.mp ((h r hr).mpr (inS_cons.mpr (.inr q))) with k | k
      · have := k.2 hh e
        grind
      · exact k
/-! ### both -/
theorem maxR_le {a b r : Rat} : maxR a b ≤ r ↔ a ≤ r ∧ b ≤ r := by
  unfold maxR
  split <;> grind
theorem minO_ge {a b : Option Rat} {r : Rat} : (∀ h, minO a b = some h → r ≤ h) ↔ (∀ h, a = some h → r ≤ h) ∧ ∀ h, b = some h → r ≤ h := by
  cases a with
  | none => exact ⟨fun h => ⟨fun _ e => (by cases e), h⟩, fun h => h.2⟩
  | some a => cases b with
    | none => exact ⟨fun h => ⟨h, fun _ e => (by cases e)⟩, fun h => h.1⟩
    | some b =>
      constructor
      · intro h
        have := h _ rfl
        refine ⟨fun z e => ?_, fun z e => ?_⟩ <;> cases e <;> (split at this <;> grind)
      · rintro ⟨h1, h2⟩ z e
        have k1 := h1 a rfl
        have k2 := h2 b rfl
        have e' : (if a < b then a else b) = z := Option.some.inj e
        rw [← e']
        split <;> assumption
theorem inX_both {a b : SR} {r : Rat} : inX (maxR a.1 b.1, minO a.2 b.2) r ↔ inX a r ∧ inX b r := by
  show (maxR a.1 b.1 ≤ r ∧ ∀ h, minO a.2 b.2 = some h → r ≤ h) ↔ (a.1 ≤ r ∧ ∀ h, a.2 = some h → r ≤ h) ∧ (b.1 ≤ r ∧ ∀ h, b.2 = some h → r ≤ h)
  rw [maxR_le, minO_ge]
  constructor
  · rintro ⟨⟨h1, h2⟩, h3, h4⟩
    exact ⟨⟨h1, h3⟩, h2, h4⟩
  · rintro ⟨⟨h1, h3⟩, h2, h4⟩
    exact ⟨⟨h1, h2⟩, h3, h4⟩
theorem goes_of {a b : SR} {r : Rat} (h : inX (maxR a.1 b.1, minO a.2 b.2) r) : goesTo (minO a.2 b.2) (maxR a.1 b.1) = true := by
  obtain ⟨h1, h2⟩ := h
  unfold goesTo
  cases e : minO a.2 b.2 with
  | none => rfl
  | some z =>
    have k1 : maxR a.1 b.1 ≤ r := h1
    have k2 := h2 z e
    show (!decide (z < maxR a.1 b.1)) = true
    rw [decide_eq_false (by grind)]
    rfl
theorem inS_both {l k : List SR} {r : Rat} : inS (bothM l k) r ↔ inS l r ∧ inS k r := by
  unfold bothM bothRow inS
  constructor
  · rintro ⟨x, hx, h⟩
    obtain ⟨a, ha, hx⟩ := List.mem_flatMap.mp hx
    obtain ⟨b, hb, e⟩ := List.mem_filterMap.mp hx
    split at e
    · cases Option.some.inj e
      obtain ⟨p, q⟩ := inX_both.mp h
      exact ⟨⟨a, ha, p⟩, b, hb, q⟩
    · cases e
  · rintro ⟨⟨a, ha, p⟩, b, hb, q⟩
    have h := inX_both.mpr ⟨p, q⟩
    exact ⟨_, List.mem_flatMap.mpr ⟨a, ha, List.mem_filterMap.mpr ⟨b, hb, if_pos (goes_of h)⟩⟩, h⟩
theorem minO_some {a b : Option Rat} {z : Rat} (h : a = some z ∨ b = some z) : ∃ w, minO a b = some w ∧ w ≤ z := by
  cases a with
  | none => cases b with
    | none => rcases h with h | h <;> cases h
    | some b =>
      rcases h with h | h
      · cases h
      · cases h; exact ⟨_, rfl, Rat.le_refl⟩
  | some a => cases b with
    | none =>
      rcases h with h | h
      · cases h; exact ⟨_, rfl, Rat.le_refl⟩
      · cases h
    | some b =>
      refine ⟨_, rfl, ?_⟩
      rcases h with h | h <;> cases h <;> (split <;> grind)
theorem before_l {a a' b b' : SR} (h : before a a') : before (maxR a.1 b.1, minO a.2 b.2) (maxR a'.1 b'.1, minO a'.2 b'.2) := by
  obtain ⟨z, e, lt⟩ := h
  obtain ⟨w, e2, le⟩ := minO_some (b := b.2) (.inl e)
  refine ⟨w, e2, ?_⟩
  have := (le_maxR (a := a'.1) (b := b'.1)).1
  show w < maxR a'.1 b'.1
  grind
theorem before_r {a a' b b' : SR} (h : before b b') : before (maxR a.1 b.1, minO a.2 b.2) (maxR a'.1 b'.1, minO a'.2 b'.2) := by
  obtain ⟨z, e, lt⟩ := h
  obtain ⟨w, e2, le⟩ := minO_some (a := a.2) (.inr e)
  refine ⟨w, e2, ?_⟩
  have := (le_maxR (a := a'.1) (b := b'.1)).2
  show w < maxR a'.1 b'.1
  grind
theorem mem_row {a x : SR} {k : List SR} (h : x ∈ bothRow a k) : ∃ b ∈ k, x = (maxR a.1 b.1, minO a.2 b.2) ∧ goesTo (minO a.2 b.2) (maxR a.1 b.1) = true := by
  obtain ⟨b, hb, e⟩ := List.mem_filterMap.mp h
  split at e
  · rename_i g
    exact ⟨b, hb, (Option.some.inj e).symm, g⟩
  · cases e
theorem canon_row {a : SR} : ∀ {k : List SR}, Canon k → Canon (bothRow a k)
  | [], _ => List.Pairwise.nil
  | b :: k, h => by
    have ih := canon_row (a := a) (List.Pairwise.of_cons h)
    unfold bothRow at ih ⊢
    rw [List.filterMap_cons]
    split
    · exact ih
    · rename_i x e
      split at e
      · cases Option.some.inj e
        refine List.pairwise_cons.mpr ⟨fun y hy => ?_, ih⟩
        obtain ⟨b', hb', rfl, _⟩ := mem_row (a := a) (k := k) hy
        exact before_r (List.rel_of_pairwise_cons h hb')
      · cases e
theorem canon_both : ∀ {l k : List SR}, Canon l → Canon k → Canon (bothM l k)
  | [], _, _, _ => List.Pairwise.nil
  | a :: l, k, hl, hk => by
    have ih := canon_both (List.Pairwise.of_cons hl) hk
    show Canon (List.flatMap (fun a => bothRow a k) (a :: l))
    rw [List.flatMap_cons]
    refine List.pairwise_append.mpr ⟨canon_row hk, ih, fun x hx y hy => ?_⟩
    obtain ⟨b, hb, rfl, _⟩ := mem_row hx
    obtain ⟨a', ha', hy⟩ := List.mem_flatMap.mp hy
    obtain ⟨b', hb', rfl, _⟩ := mem_row hy
    exact before_l (List.rel_of_pairwise_cons hl ha')
/-! ### the distance of two joints kept -/
def lin (p : IP) (r : Rat) : Rat := (p.1 : Rat) + (p.2 : Rat) * r
def farS (p : IP) (s r : Rat) : Prop := s ≤ lin p r ∨ s ≤ -lin p r
theorem scale {y t u : Rat} (hy : 0 < y) : t ≤ u ↔ t * y ≤ u * y :=
  ⟨fun h => Rat.mul_le_mul_of_nonneg_right h (Rat.le_of_lt hy), fun h => Rat.le_of_mul_le_mul_right h hy⟩
/-- the ends of what two joints keep, scaled -/
theorem kept_ends {x y : Int} {s r : Rat} (hy : y ≠ 0) : (r ≤ Rat.divInt (-x) y - s / ((y.natAbs : Int) : Rat) ∨ Rat.divInt (-x) y + s / ((y.natAbs : Int) : Rat) ≤ r) ↔ farS (x, y) s r := by
  have hyR : (y : Rat) ≠ 0 := int_ne hy
  have hc : Rat.divInt (-x) y * (y : Rat) = -(x : Rat) := by
    rw [Rat.divInt_eq_div, Rat.div_mul_cancel hyR, Rat.intCast_neg]
  have hnz : ((y.natAbs : Int) : Rat) ≠ 0 := int_ne (by omega)
  have hb : s / ((y.natAbs : Int) : Rat) * ((y.natAbs : Int) : Rat) = s := Rat.div_mul_cancel hnz
  unfold farS lin
  generalize Rat.divInt (-x) y = c at *
  generalize hB : s / ((y.natAbs : Int) : Rat) = B at *
  show _ ↔ s ≤ (x : Rat) + (y : Rat) * r ∨ s ≤ -((x : Rat) + (y : Rat) * r)
  rcases Int.lt_or_gt_of_ne hy with h | h
  · have en : ((y.natAbs : Int) : Rat) = -(y : Rat) := by
      rw [show (y.natAbs : Int) = -y by omega, Rat.intCast_neg]
    rw [en] at hb
    have hp : 0 < -(y : Rat) := by
      rw [← Rat.intCast_neg]
      exact Rat.intCast_pos.mpr (by omega)
    rw [scale hp (t := r), scale hp (u := r)]
    constructor
    · rintro (q | q)
      · left; grind
      · right; grind
    · rintro (q | q)
      · left; grind
      · right; grind
  · have en : ((y.natAbs : Int) : Rat) = (y : Rat) := by
      rw [show (y.natAbs : Int) = y by omega]
    rw [en] at hb
    have hp : 0 < (y : Rat) := Rat.intCast_pos.mpr h
    rw [scale hp (t := r), scale hp (u := r)]
    constructor
    · rintro (q | q)
      · right; grind
      · left; grind
    · rintro (q | q)
      · right; grind
      · left; grind
theorem br_pos {y : Int} {s : Rat} (hy : y ≠ 0) (h0 : 0 < s) : 0 < s / ((y.natAbs : Int) : Rat) := by
  have hp : (0 : Rat) < ((y.natAbs : Int) : Rat) := Rat.intCast_pos.mpr (by omega)
  rw [Rat.lt_div_iff hp, Rat.zero_mul]
  exact h0
theorem far_flat {x : Int} {s r : Rat} (hx : x ≠ 0) (h1 : s ≤ 1) : farS (x, 0) s r := by
  unfold farS lin
  show s ≤ (x : Rat) + ((0 : Int) : Rat) * r ∨ s ≤ -((x : Rat) + ((0 : Int) : Rat) * r)
  rw [Rat.intCast_zero, Rat.zero_mul, Rat.add_zero]
  rcases Int.lt_or_gt_of_ne hx with h | h
  · right
    have : (1 : Rat) ≤ ((-x : Int) : Rat) := Rat.intCast_le_intCast.mpr (show (1 : Int) ≤ -x by omega)
    rw [Rat.intCast_neg] at this
    grind
  · left
    have : (1 : Rat) ≤ (x : Rat) := Rat.intCast_le_intCast.mpr (show (1 : Int) ≤ x by omega)
    grind
theorem far_zero {s r : Rat} (h0 : 0 < s) : ¬ farS (0, 0) s r := by
  unfold farS lin
  show ¬ (s ≤ ((0 : Int) : Rat) + ((0 : Int) : Rat) * r ∨ s ≤ -(((0 : Int) : Rat) + ((0 : Int) : Rat) * r))
  rw [Rat.intCast_zero, Rat.zero_mul, Rat.add_zero]
  grind
theorem inX_all {r : Rat} (hr : 1 < r) : inX (1, none) r := ⟨Rat.le_of_lt hr, fun _ e => by cases e⟩
theorem kept_in {p q : IP} {s r : Rat} (hr : 1 < r) (h0 : 0 < s) (h1 : s ≤ 1) : inS (keptM p q s) r ↔ farS (dif (p, q)) s r := by
  unfold keptM dif
  by_cases hy : p.2 - q.2 = 0
  · rw [if_pos hy]
    by_cases hx : p.1 - q.1 = 0
    · rw [if_pos hx]
      show inS [] r ↔ farS (p.1 - q.1, p.2 - q.2) s r
      rw [hx, hy]
      exact ⟨fun h => (inS_nil h).elim, fun h => (far_zero h0 h).elim⟩
    · rw [if_neg hx]
      show inS [(1, none)] r ↔ farS (p.1 - q.1, p.2 - q.2) s r
      rw [hy]
      exact ⟨fun _ => far_flat hx h1, fun _ => inS_cons.mpr (.inl (inX_all hr))⟩
  · rw [if_neg hy]
    show _ ↔ farS (p.1 - q.1, p.2 - q.2) s r
    rw [← kept_ends hy]
    have hbp := br_pos hy h0
    generalize p.2 - q.2 = y at *
    generalize p.1 - q.1 = x at *
    generalize Rat.divInt (-x) y = c at *
    generalize s / ((y.natAbs : Int) : Rat) = B at *
    have hi : ∀ {l : List SR}, inS ((maxR (c + B) 1, none) :: l) r ↔ c + B ≤ r ∨ inS l r := fun {l} => by
      rw [inS_cons]
      unfold inX
      rw [show (maxR (c + B) 1, (none : Option Rat)).1 = maxR (c + B) 1 from rfl, maxR_le]
      constructor
      · rintro (⟨⟨h, _⟩, _⟩ | h)
        · exact .inl h
        · exact .inr h
      · rintro (h | h)
        · exact .inl ⟨⟨h, Rat.le_of_lt hr⟩, fun _ e => by cases e⟩
        · exact .inr h
    split
    · rw [inS_cons, hi]
      constructor
      · rintro (h | h | h)
        · exact .inl (h.2 _ rfl)
        · exact .inr h
        · exact (inS_nil h).elim
      · rintro (h | h)
        · exact .inl ⟨Rat.le_of_lt hr, fun z e => by cases e; exact h⟩
        · exact .inr (.inl h)
    · rw [hi]
      constructor
      · rintro (h | h)
        · exact .inr h
        · exact (inS_nil h).elim
      · rintro (h | h)
        · exfalso
          grind
        · exact .inl h
theorem canon_one (x : SR) : Canon [x] := List.pairwise_singleton _ _
theorem canon_kept {p q : IP} {s : Rat} (h0 : 0 < s) : Canon (keptM p q s) := by
  unfold keptM
  split
  · split
    · exact List.Pairwise.nil
    · exact canon_one _
  · rename_i hy
    have hbp := br_pos hy h0
    split
    · refine List.pairwise_cons.mpr ⟨fun y hm => ?_, canon_one _⟩
      rcases List.mem_singleton.mp hm with rfl
      refine ⟨_, rfl, ?_⟩
      have := (le_maxR (a := Rat.divInt (-(p.1 - q.1)) (p.2 - q.2) + s / (((p.2 - q.2).natAbs : Int) : Rat)) (b := 1)).1
      show _ < maxR _ 1
      grind
    · exact canon_one _
/-! ### two patterns apart -/
theorem apart_fold {s : Rat} (h0 : 0 < s) (h1 : s ≤ 1) : ∀ (l : List (IP × IP)) (k : List SR), Canon k → Canon (l.foldl (apf s) k) ∧ ∀ r, 1 < r → (inS (l.foldl (apf s) k) r ↔ inS k r ∧ ∀ e ∈ l, farS (dif e) s r)
  | [], k, hk => ⟨hk, fun r _ => ⟨fun h => ⟨h, fun _ e => by cases e⟩, fun h => h.1⟩⟩
  | e :: l, k, hk => by
    obtain ⟨a, b⟩ := apart_fold h0 h1 l (apf s k e) (canon_both hk (canon_kept h0))
    refine ⟨a, fun r hr => ?_⟩
    rw [List.foldl_cons, b r hr]
    unfold apf
    rw [inS_both, kept_in hr h0 h1]
    constructor
    · rintro ⟨⟨p, q⟩, h⟩
      refine ⟨p, fun e' he' => ?_⟩
      rcases List.mem_cons.mp he' with rfl | he'
      · exact q
      · exact h e' he'
    · rintro ⟨p, h⟩
      exact ⟨⟨p, h e (List.mem_cons_self ..)⟩, fun e' he' => h e' (List.mem_cons_of_mem _ he')⟩
theorem apart_in {js ks : List IP} {s : Rat} (h0 : 0 < s) (h1 : s ≤ 1) : Canon (apartM js ks s) ∧ ∀ r, 1 < r → (inS (apartM js ks s) r ↔ ∀ e ∈ pairs js ks, farS (dif e) s r) := by
  obtain ⟨a, b⟩ := apart_fold h0 h1 (pairs js ks) [(1, none)] (canon_one _)
  refine ⟨a, fun r hr => (b r hr).trans ⟨fun h => h.2, fun h => ⟨inS_cons.mpr (.inl (inX_all hr)), h⟩⟩⟩
end JD
set_option maxHeartbeats 4000000
namespace JD
/-! ### either, one stretch behind the others -/
theorem merge_one : ∀ (l : List SR) (b : SR), (∀ a ∈ l, a.1 ≤ b.1) → mergeM l [b] = l ++ [b]
  | [], b, _ => by rw [mergeM_nilL]; rfl
  | a :: l, b, h => by
    have := h a (List.mem_cons_self ..)
    rw [mergeM, if_neg (by grind), merge_one l b fun x hx => h x (List.mem_cons_of_mem _ hx)]
    rfl
theorem coal_app {k : List SR} {x : SR} (h : ∀ t ∈ k, before t x) : coal k x = k ++ [x] := by
  unfold coal
  cases q : k.getLast? with
  | none =>
    rw [List.getLast?_eq_none_iff] at q
    rw [q]
    rfl
  | some t =>
    obtain ⟨z, e, lt⟩ := h t (List.mem_of_getLast? q)
    have g : goesTo t.2 x.1 = false := by
      unfold goesTo
      rw [e]
      show (!decide (z < x.1)) = false
      rw [decide_eq_true lt]
      rfl
    show (if goesTo t.2 x.1 = true then _ else _) = _
    rw [g, if_neg Bool.false_ne_true]
theorem coal_canon : ∀ (l acc : List SR), Canon (acc ++ l) → l.foldl coal acc = acc ++ l
  | [], acc, _ => by simp
  | x :: l, acc, h => by
    rw [List.foldl_cons, coal_app fun t ht => ?_]
    · rw [coal_canon l (acc ++ [x]) (by simpa using h)]
      simp
    · unfold Canon at h
      exact (List.pairwise_append.mp h).2.2 t ht x (List.mem_cons_self ..)
theorem either_nil {k : List SR} (h : Canon k) : eitherM k [] = k := by
  unfold eitherM
  rw [mergeM_nilR, coal_canon k [] (by simpa using h)]
  rfl
theorem either_one {k : List SR} {b : SR} (h : Canon k) (hb : ∀ a ∈ k, a.1 ≤ b.1) : eitherM k [b] = coal k b := by
  unfold eitherM
  rw [merge_one k b hb, List.foldl_append, coal_canon k [] (by simpa using h)]
  rfl
theorem inX_join {t b : SR} {r : Rat} (h1 : t.1 ≤ b.1) (g : goesTo t.2 b.1 = true) : inX (t.1, maxO t.2 b.2) r ↔ inX t r ∨ inX b r := by
  obtain ⟨t1, t2⟩ := t
  obtain ⟨b1, b2⟩ := b
  unfold inX
  have h1' : t1 ≤ b1 := h1
  show t1 ≤ r ∧ (∀ h, maxO t2 b2 = some h → r ≤ h) ↔ (t1 ≤ r ∧ ∀ h, t2 = some h → r ≤ h) ∨ (b1 ≤ r ∧ ∀ h, b2 = some h → r ≤ h)
  cases t2 with
  | none =>
    constructor
    · rintro ⟨p, _⟩
      exact .inl ⟨p, fun _ e => by cases e⟩
    · rintro (⟨p, _⟩ | ⟨p, _⟩)
      · exact ⟨p, fun _ e => by cases e⟩
      · exact ⟨by grind, fun _ e => by cases e⟩
  | some t2 =>
    have g' : ¬ t2 < b1 := by
      have g2 : (!decide (t2 < b1)) = true := g
      simpa using g2
    cases b2 with
    | none =>
      constructor
      · rintro ⟨p, _⟩
        by_cases c : r ≤ t2
        · exact .inl ⟨p, fun z e => by cases e; exact c⟩
        · exact .inr ⟨by grind, fun _ e => by cases e⟩
      · rintro (⟨p, _⟩ | ⟨p, _⟩)
        · exact ⟨p, fun _ e => by cases e⟩
        · exact ⟨by grind, fun _ e => by cases e⟩
    | some b2 =>
      constructor
      · rintro ⟨p, q⟩
        have q' : r ≤ if b2 < t2 then t2 else b2 := q _ rfl
        by_cases c : r ≤ t2
        · exact .inl ⟨p, fun z e => by cases e; exact c⟩
        · refine .inr ⟨by grind, fun z e => ?_⟩
          cases e
          split at q' <;> grind
      · rintro (⟨p, q⟩ | ⟨p, q⟩)
        · have q' := q _ rfl
          refine ⟨p, fun z e => ?_⟩
          have e' : (if b2 < t2 then t2 else b2) = z := Option.some.inj e
          rw [← e']
          split <;> grind
        · have q' := q _ rfl
          refine ⟨by grind, fun z e => ?_⟩
          have e' : (if b2 < t2 then t2 else b2) = z := Option.some.inj e
          rw [← e']
          split <;> grind
theorem coal_in {k : List SR} {b : SR} (hc : Canon k) (hb : ∀ a ∈ k, a.1 ≤ b.1) : Canon (coal k b) ∧ (∀ a ∈ coal k b, a.1 ≤ b.1) ∧ ∀ r, inS (coal k b) r ↔ inS k r ∨ inX b r := by
  rcases List.eq_nil_or_concat k with rfl | ⟨qs, t, rfl⟩
  · refine ⟨canon_one _, fun a ha => ?_, fun r => ?_⟩
    · rcases List.mem_singleton.mp ha with rfl
      exact Rat.le_refl
    · show inS [b] r ↔ _
      rw [inS_cons]
      exact ⟨fun h => h.symm, fun h => h.symm⟩
  · rw [List.concat_eq_append] at *
    have ht : t.1 ≤ b.1 := hb t (by simp)
    unfold Canon at hc
    obtain ⟨c1, _, c3⟩ := List.pairwise_append.mp hc
    have el : (qs ++ [t]).getLast? = some t := by simp
    by_cases g : goesTo t.2 b.1 = true
    · have ec : coal (qs ++ [t]) b = qs ++ [(t.1, maxO t.2 b.2)] := by
        unfold coal
        rw [el]
        show (if goesTo t.2 b.1 = true then _ else _) = _
        rw [if_pos g]
        simp
      rw [ec]
      refine ⟨List.pairwise_append.mpr ⟨c1, canon_one _, fun x hx y hy => ?_⟩, fun a ha => ?_, fun r => ?_⟩
      · rcases List.mem_singleton.mp hy with rfl
        exact c3 x hx t (by simp)
      · rcases List.mem_append.mp ha with ha | ha
        · exact hb a (by simp [ha])
        · rcases List.mem_singleton.mp ha with rfl
          exact ht
      · rw [inS_append, inS_append, inS_cons, inS_cons, inX_join ht g]
        have n : ¬ inS [] r := inS_nil
        constructor
        · rintro (h | (h | h) | h)
          · exact .inl (.inl h)
          · exact .inl (.inr (.inl h))
          · exact .inr h
          · exact (n h).elim
        · rintro ((h | h | h) | h)
          · exact .inl h
          · exact .inr (.inl (.inl h))
          · exact (n h).elim
          · exact .inr (.inl (.inr h))
    · have ec : coal (qs ++ [t]) b = qs ++ [t] ++ [b] := by
        unfold coal
        rw [el]
        show (if goesTo t.2 b.1 = true then _ else _) = _
        rw [if_neg g]
      have tb : before t b := by
        unfold goesTo at g
        cases e : t.2 with
        | none => rw [e] at g; exact absurd rfl g
        | some z =>
          rw [e] at g
          refine ⟨z, e, ?_⟩
          have g' : ¬ (!decide (z < b.1)) = true := g
          simpa using g'
      rw [ec]
      refine ⟨List.pairwise_append.mpr ⟨hc, canon_one _, fun x hx y hy => ?_⟩, fun a ha => ?_, fun r => ?_⟩
      · rcases List.mem_singleton.mp hy with rfl
        rcases List.mem_append.mp hx with hx | hx
        · obtain ⟨z, e, lt⟩ := c3 x hx t (by simp)
          exact ⟨z, e, by grind⟩
        · rcases List.mem_singleton.mp hx with rfl
          exact tb
      · rcases List.mem_append.mp ha with ha | ha
        · exact hb a ha
        · rcases List.mem_singleton.mp ha with rfl
          exact Rat.le_refl
      · rw [inS_append (l := qs ++ [t]), inS_cons (x := b)]
        have n : ¬ inS [] r := inS_nil
        constructor
        · rintro (h | h | h)
          · exact .inl h
          · exact .inr h
          · exact (n h).elim
        · rintro (h | h)
          · exact .inl h
          · exact .inr (.inl h)
/-! ### the pieces of the widest share -/
def inP (p : Seg) (r : Rat) : Prop := p.low ≤ r ∧ ∀ h, p.high = some h → r ≤ h
def valP (p : Seg) (r : Rat) : Rat := (p.start : Rat) + (p.rise : Rat) * r
theorem cut_in {lo : Rat} {hi : Option Rat} {r : Rat} (hr : 1 < r) : inS (pieceCut lo hi) r ↔ lo ≤ r ∧ ∀ h, hi = some h → r ≤ h := by
  unfold pieceCut
  cases hi with
  | none =>
    show inS [(lo, none)] r ↔ _
    rw [inS_cons]
    exact ⟨fun h => h.elim id fun h => (inS_nil h).elim, .inl⟩
  | some h =>
    show inS (if h < lo ∨ h = 1 then [] else [(lo, some h)]) r ↔ _
    split
    · rename_i c
      refine ⟨fun q => (inS_nil q).elim, fun q => ?_⟩
      have := q.2 h rfl
      have := q.1
      exfalso
      rcases c with c | c <;> grind
    · rw [inS_cons]
      exact ⟨fun h => h.elim id fun h => (inS_nil h).elim, .inl⟩
theorem cut_one {lo : Rat} {hi : Option Rat} : pieceCut lo hi = [] ∨ ∃ b, pieceCut lo hi = [b] ∧ b.1 = lo ∧ ∀ h, hi = some h → lo ≤ h := by
  unfold pieceCut
  cases hi with
  | none => exact .inr ⟨_, rfl, rfl, fun _ e => by cases e⟩
  | some h =>
    show (if h < lo ∨ h = 1 then [] else [(lo, some h)]) = [] ∨ ∃ b, (if h < lo ∨ h = 1 then [] else [(lo, some h)]) = [b] ∧ _
    split
    · exact .inl rfl
    · rename_i c
      exact .inr ⟨_, rfl, rfl, fun z e => by cases e; grind⟩
theorem piece_in {p : Seg} {s r : Rat} (hr : 1 < r) : inS (pieceM p s) r ↔ inP p r ∧ s ≤ valP p r := by
  unfold pieceM inP valP
  by_cases h0 : p.rise = 0
  · rw [if_pos h0, h0, Rat.intCast_zero, Rat.zero_mul, Rat.add_zero]
    have hn : (0 < (s - (p.start : Rat)).num) ↔ ¬ s ≤ (p.start : Rat) := by
      have h1 : (0 < (s - (p.start : Rat)).num) ↔ 0 < s - (p.start : Rat) := by
        rw [Rat.lt_iff]
        show _ ↔ 0 * ((s - (p.start : Rat)).den : Int) < (s - (p.start : Rat)).num * 1
        omega
      rw [h1]
      grind
    split
    · rename_i c
      exact ⟨fun q => (inS_nil q).elim, fun q => (hn.mp c q.2).elim⟩
    · rename_i c
      rw [inS_cons]
      have : s ≤ (p.start : Rat) := by
        by_cases d : s ≤ (p.start : Rat)
        · exact d
        · exact absurd (hn.mpr d) c
      exact ⟨fun h => h.elim (fun h => ⟨h, this⟩) fun h => (inS_nil h).elim, fun h => .inl h.1⟩
  · rw [if_neg h0]
    have hrR : (p.rise : Rat) ≠ 0 := int_ne h0
    have hb : pieceBd p s * (p.rise : Rat) = s - (p.start : Rat) := Rat.div_mul_cancel hrR
    generalize pieceBd p s = bd at *
    split
    · rename_i hp
      have hpR : 0 < (p.rise : Rat) := Rat.intCast_pos.mpr hp
      rw [cut_in hr, maxR_le, scale hpR (t := bd)]
      constructor
      · rintro ⟨⟨h1, h2⟩, h3⟩
        exact ⟨⟨h1, h3⟩, by grind⟩
      · rintro ⟨⟨h1, h3⟩, h2⟩
        exact ⟨⟨h1, by grind⟩, h3⟩
    · rename_i hp
      have hpR : 0 < -(p.rise : Rat) := by
        rw [← Rat.intCast_neg]
        exact Rat.intCast_pos.mpr (by omega)
      rw [cut_in hr, minO_ge]
      have hbd : (∀ h, (some bd : Option Rat) = some h → r ≤ h) ↔ r ≤ bd := ⟨fun h => h _ rfl, fun h z e => by cases e; exact h⟩
      rw [hbd, scale hpR (t := r)]
      constructor
      · rintro ⟨h1, h3, h2⟩
        exact ⟨⟨h1, h3⟩, by grind⟩
      · rintro ⟨⟨h1, h3⟩, h2⟩
        exact ⟨h1, h3, by grind⟩
theorem piece_one {p : Seg} {s : Rat} (hlh : ∀ h, p.high = some h → p.low ≤ h) : pieceM p s = [] ∨ ∃ b, pieceM p s = [b] ∧ p.low ≤ b.1 ∧ ∀ h, p.high = some h → b.1 ≤ h := by
  unfold pieceM
  split
  · split
    · exact .inl rfl
    · exact .inr ⟨_, rfl, Rat.le_refl, hlh⟩
  · split
    · rcases cut_one (lo := maxR p.low (pieceBd p s)) (hi := p.high) with h | ⟨b, h1, h2, h3⟩
      · exact .inl h
      · exact .inr ⟨b, h1, by rw [h2]; exact (le_maxR).1, fun h e => by rw [h2]; exact h3 h e⟩
    · rcases cut_one (lo := p.low) (hi := minO p.high (some (pieceBd p s))) with h | ⟨b, h1, h2, h3⟩
      · exact .inl h
      · exact .inr ⟨b, h1, by rw [h2]; exact Rat.le_refl, fun h e => by rw [h2]; exact hlh h e⟩
/-- the pieces stand one behind the other, from the ratio lo on -/
def chainOk : Rat → List Seg → Bool
  | _, [] => false
  | lo, [p] => decide (p.low = lo) && p.high.isNone
  | lo, p :: q :: r => decide (p.low = lo) && (match p.high with
    | none => false
    | some h => decide (lo < h) && chainOk h (q :: r))
theorem cover : ∀ (ps : List Seg) (lo : Rat), chainOk lo ps = true → ∀ r, lo ≤ r → ∃ p ∈ ps, inP p r
  | [], _, h, _, _ => by cases h
  | [p], lo, h, r, hr => by
    unfold chainOk at h
    simp only [Bool.and_eq_true, decide_eq_true_eq, Option.isNone_iff_eq_none] at h
    exact ⟨p, List.mem_cons_self .., by rw [h.1]; exact hr, fun z e => by rw [h.2] at e; cases e⟩
  | p :: q :: ps, lo, h, r, hr => by
    rw [chainOk] at h
    cases e : p.high with
    | none => rw [e] at h; simp at h
    | some z =>
      rw [e] at h
      simp only [Bool.and_eq_true, decide_eq_true_eq] at h
      obtain ⟨h1, h2, h3⟩ := h
      by_cases c : r ≤ z
      · exact ⟨p, List.mem_cons_self .., by rw [h1]; exact hr, fun z' e' => by rw [e] at e'; cases e'; exact c⟩
      · obtain ⟨p', m, i⟩ := cover (q :: ps) z h3 r (by grind)
        exact ⟨p', List.mem_cons_of_mem _ m, i⟩
theorem couple_fold {s : Rat} : ∀ (ps : List Seg) (lo : Rat) (k : List SR), chainOk lo ps = true → Canon k → (∀ a ∈ k, a.1 ≤ lo) →
    Canon (ps.foldl (fun k p => eitherM k (pieceM p s)) k) ∧ ∀ r, 1 < r → (inS (ps.foldl (fun k p => eitherM k (pieceM p s)) k) r ↔ inS k r ∨ ∃ p ∈ ps, inP p r ∧ s ≤ valP p r) := by
  have step : ∀ (p : Seg) (lo : Rat) (k : List SR), p.low = lo → (∀ h, p.high = some h → lo ≤ h) → Canon k → (∀ a ∈ k, a.1 ≤ lo) →
      Canon (eitherM k (pieceM p s)) ∧ (∀ h, p.high = some h → ∀ a ∈ eitherM k (pieceM p s), a.1 ≤ h) ∧ ∀ r, 1 < r → (inS (eitherM k (pieceM p s)) r ↔ inS k r ∨ (inP p r ∧ s ≤ valP p r)) := fun p lo k e hl hc hk => by
    subst e
    rcases piece_one (s := s) hl with h | ⟨b, h, h1, h2⟩
    · rw [h, either_nil hc]
      refine ⟨hc, fun z ez a ha => ?_, fun r hr => ?_⟩
      · have := hk a ha
        have := hl z ez
        grind
      · rw [← piece_in hr, h]
        exact ⟨.inl, fun q => q.elim id fun q => (inS_nil q).elim⟩
    · have hkb : ∀ a ∈ k, a.1 ≤ b.1 := fun a ha => by have := hk a ha; grind
      rw [h, either_one hc hkb]
      obtain ⟨c1, c2, c3⟩ := coal_in hc hkb
      refine ⟨c1, fun z ez a ha => ?_, fun r hr => ?_⟩
      · have := c2 a ha
        have := h2 z ez
        grind
      · rw [c3, ← piece_in hr, h, inS_cons]
        exact ⟨fun q => q.elim .inl fun q => .inr (.inl q), fun q => q.elim .inl fun q => q.elim .inr fun q => (inS_nil q).elim⟩
  intro ps
  induction ps with
  | nil => intro lo k h _ _; cases h
  | cons p ps ih =>
    intro lo k h hc hk
    cases ps with
    | nil =>
      unfold chainOk at h
      simp only [Bool.and_eq_true, decide_eq_true_eq, Option.isNone_iff_eq_none] at h
      obtain ⟨c1, _, c3⟩ := step p lo k h.1 (fun z e => by rw [h.2] at e; cases e) hc hk
      refine ⟨c1, fun r hr => ?_⟩
      show inS (eitherM k (pieceM p s)) r ↔ _
      rw [c3 r hr]
      constructor
      · rintro (q | q)
        · exact .inl q
        · exact .inr ⟨p, List.mem_cons_self .., q⟩
      · rintro (q | ⟨p', hp', q⟩)
        · exact .inl q
        · rcases List.mem_singleton.mp hp' with rfl
          exact .inr q
    | cons q ps =>
      rw [chainOk] at h
      cases e : p.high with
      | none => rw [e] at h; simp at h
      | some z =>
        rw [e] at h
        simp only [Bool.and_eq_true, decide_eq_true_eq] at h
        obtain ⟨h1, h2, h3⟩ := h
        obtain ⟨c1, c2, c3⟩ := step p lo k h1 (fun z' e' => by rw [e] at e'; cases e'; exact Rat.le_of_lt h2) hc hk
        obtain ⟨d1, d2⟩ := ih z (eitherM k (pieceM p s)) h3 c1 (c2 z e)
        rw [List.foldl_cons]
        refine ⟨d1, fun r hr => ?_⟩
        rw [d2 r hr, c3 r hr]
        constructor
        · rintro ((g | g) | ⟨p', hp', g⟩)
          · exact .inl g
          · exact .inr ⟨p, List.mem_cons_self .., g⟩
          · exact .inr ⟨p', List.mem_cons_of_mem _ hp', g⟩
        · rintro (g | ⟨p', hp', g⟩)
          · exact .inl (.inl g)
          · rcases List.mem_cons.mp hp' with rfl | hp'
            · exact .inl (.inr g)
            · exact .inr ⟨p', hp', g⟩
theorem couple_in {a b : Int} {s : Rat} (hn : a + b ≠ 1) (h : chainOk 1 (profileM a b) = true) : Canon (coupleM a b s) ∧ ∀ r, 1 < r → (inS (coupleM a b s) r ↔ ∃ p ∈ profileM a b, inP p r ∧ s ≤ valP p r) := by
  unfold coupleM
  rw [if_neg hn]
  obtain ⟨c1, c2⟩ := couple_fold (s := s) (profileM a b) 1 [] h List.Pairwise.nil (fun _ e => by cases e)
  exact ⟨c1, fun r hr => (c2 r hr).trans ⟨fun q => q.elim (fun q => (inS_nil q).elim) id, .inr⟩⟩
/-! ### by the whole numbers -/
def farW (M : Int) (s r : Rat) : Prop := ∀ k : Int, 1 ≤ k → k ≤ M → farS (-k, 1) s r
theorem far_whole {k : Int} {s r : Rat} : farS (-k, 1) s r ↔ s ≤ r - (k : Rat) ∨ s ≤ (k : Rat) - r := by
  unfold farS lin
  show s ≤ ((-k : Int) : Rat) + ((1 : Int) : Rat) * r ∨ s ≤ -(((-k : Int) : Rat) + ((1 : Int) : Rat) * r) ↔ _
  rw [Rat.intCast_neg, Rat.intCast_one, Rat.one_mul]
  constructor
  · rintro (h | h)
    · left; grind
    · right; grind
  · rintro (h | h)
    · left; grind
    · right; grind
theorem shR_eq (k : Int) (s : Rat) : shR k s = (k : Rat) + s := by
  rw [← rat_add, Rat.num_intCast, Rat.den_intCast, ← Rat.num_divInt_den (shR k s)]
  show Rat.divInt (k * s.den + s.num) s.den = _
  simp
theorem shL_eq (k : Int) (s : Rat) : shL k s = (k : Rat) - s := by
  rw [Rat.sub_eq_add_neg, ← rat_add, Rat.num_intCast, Rat.den_intCast, ← Rat.num_divInt_den (shL k s)]
  show Rat.divInt (k * s.den - s.num) s.den = _
  simp [Int.sub_eq_add_neg]
theorem rng_snoc (n : Nat) : rng 2 ((n : Int) + 1 + 2) = rng 2 ((n : Int) + 2) ++ [(n : Int) + 2] := by
  unfold rng
  rw [show ((n : Int) + 1 + 2 - 2).toNat = n + 1 by omega, show ((n : Int) + 2 - 2).toNat = n by omega, List.range_succ, List.map_append]
  simp
  omega
theorem wholes_pre {s : Rat} (h0 : 0 < s) (h1 : s ≤ 1) : ∀ n : Nat,
    ((rng 2 ((n : Int) + 2)).foldl (bwStep s) ([], shR 1 s)).2 = (((n : Int) + 1 : Int) : Rat) + s ∧ Canon ((rng 2 ((n : Int) + 2)).foldl (bwStep s) ([], shR 1 s)).1 ∧
    (∀ x ∈ ((rng 2 ((n : Int) + 2)).foldl (bwStep s) ([], shR 1 s)).1, WOk x ∧ ∃ h, x.2 = some h ∧ h ≤ (((n : Int) + 1 : Int) : Rat) - s) ∧
    ∀ r, 1 < r → (inS ((rng 2 ((n : Int) + 2)).foldl (bwStep s) ([], shR 1 s)).1 r ∨ (((n : Int) + 1 : Int) : Rat) + s ≤ r ↔ farW ((n : Int) + 1) s r)
  | 0 => by
    refine ⟨shR_eq 1 s, List.Pairwise.nil, fun _ e => (by cases e), fun r hr => ?_⟩
    show inS [] r ∨ (((0 : Int) + 1 : Int) : Rat) + s ≤ r ↔ _
    rw [show ((0 : Int) + 1 : Int) = 1 from rfl, Rat.intCast_one]
    constructor
    · rintro (h | h)
      · exact (inS_nil h).elim
      · intro k k1 k2
        have : k = 1 := by omega
        subst this
        rw [far_whole, Rat.intCast_one]
        left; grind
    · intro h
      have := h 1 (by omega) (by omega)
      rw [far_whole, Rat.intCast_one] at this
      right
      rcases this with q | q <;> grind
  | n + 1 => by
    obtain ⟨e, hc, hx, hr⟩ := wholes_pre h0 h1 n
    rw [show ((n + 1 : Nat) : Int) = (n : Int) + 1 from rfl, rng_snoc, List.foldl_append, List.foldl_cons, List.foldl_nil]
    generalize (rng 2 ((n : Int) + 2)).foldl (bwStep s) ([], shR 1 s) = A at *
    obtain ⟨acc, low⟩ := A
    have e' : low = (((n : Int) + 1 : Int) : Rat) + s := e
    subst e'
    have hc' : Canon acc := hc
    have ek : (((n : Int) + 1 + 1 : Int) : Rat) = (((n : Int) + 1 : Int) : Rat) + 1 := Rat.intCast_add _ 1
    have ek2 : (((n : Int) + 2 : Int) : Rat) = (((n : Int) + 1 : Int) : Rat) + 1 := by rw [show (n : Int) + 2 = (n : Int) + 1 + 1 by omega]; exact ek
    have hk1 : (1 : Rat) ≤ (((n : Int) + 1 : Int) : Rat) := Rat.intCast_le_intCast.mpr (show (1 : Int) ≤ (n : Int) + 1 by omega)
    have hfw : ∀ r, farW ((n : Int) + 1 + 1) s r ↔ farW ((n : Int) + 1) s r ∧ farS (-((n : Int) + 1 + 1), 1) s r := fun r => by
      constructor
      · intro h
        exact ⟨fun k k1 k2 => h k k1 (by omega), h _ (by omega) (by omega)⟩
      · rintro ⟨h, q⟩ k k1 k2
        by_cases c : k ≤ (n : Int) + 1
        · exact h k k1 c
        · have : k = (n : Int) + 1 + 1 := by omega
          subst this
          exact q
    unfold bwStep
    rw [shL_eq, shR_eq, ek2]
    show (((n : Int) + 1 : Int) : Rat) + 1 + s = (((n : Int) + 1 + 1 : Int) : Rat) + s ∧ Canon (if (((n : Int) + 1 : Int) : Rat) + 1 - s < (((n : Int) + 1 : Int) : Rat) + s then acc else acc ++ [((((n : Int) + 1 : Int) : Rat) + s, some ((((n : Int) + 1 : Int) : Rat) + 1 - s))]) ∧
      (∀ x ∈ (if (((n : Int) + 1 : Int) : Rat) + 1 - s < (((n : Int) + 1 : Int) : Rat) + s then acc else acc ++ [((((n : Int) + 1 : Int) : Rat) + s, some ((((n : Int) + 1 : Int) : Rat) + 1 - s))]), WOk x ∧ ∃ h, x.2 = some h ∧ h ≤ (((n : Int) + 1 + 1 : Int) : Rat) - s) ∧
      ∀ r, 1 < r → (inS (if (((n : Int) + 1 : Int) : Rat) + 1 - s < (((n : Int) + 1 : Int) : Rat) + s then acc else acc ++ [((((n : Int) + 1 : Int) : Rat) + s, some ((((n : Int) + 1 : Int) : Rat) + 1 - s))]) r ∨ (((n : Int) + 1 + 1 : Int) : Rat) + s ≤ r ↔ farW ((n : Int) + 1 + 1) s r)
    simp only [hfw, far_whole, ek]
    have hr' : ∀ r, 1 < r → (inS acc r ∨ (((n : Int) + 1 : Int) : Rat) + s ≤ r ↔ farW ((n : Int) + 1) s r) := hr
    have hx' : ∀ x ∈ acc, WOk x ∧ ∃ h, x.2 = some h ∧ h ≤ (((n : Int) + 1 : Int) : Rat) - s := hx
    clear hr hx hc e ek ek2 hfw
    generalize (((n : Int) + 1 : Int) : Rat) = k at *
    have up : ∀ r, inS acc r → r ≤ k - s := fun r ⟨x, hx, _, h⟩ => by
      obtain ⟨_, z, ez, hz⟩ := hx' x hx
      have := h z ez
      grind
    refine ⟨trivial, ?_, ?_, fun r hr => ?_⟩
    · split
      · exact hc'
      · refine List.pairwise_append.mpr ⟨hc', canon_one _, fun x hx y hy => ?_⟩
        rcases List.mem_singleton.mp hy with rfl
        obtain ⟨_, z, ez, hz⟩ := hx' x hx
        exact ⟨z, ez, by show z < k + s; grind⟩
    · intro x hx
      have base : ∀ x ∈ acc, WOk x ∧ ∃ h, x.2 = some h ∧ h ≤ k + 1 - s := fun x hx => by
        obtain ⟨w, z, ez, hz⟩ := hx' x hx
        exact ⟨w, z, ez, by grind⟩
      split at hx
      · exact base x hx
      · rename_i c
        rcases List.mem_append.mp hx with hx | hx
        · exact base x hx
        · rcases List.mem_singleton.mp hx with rfl
          refine ⟨⟨by show 1 ≤ k + s; grind, fun z ez => ?_⟩, _, rfl, Rat.le_refl⟩
          cases ez
          refine ⟨?_, ?_⟩
          · show k + s ≤ k + 1 - s
            grind
          · grind
    · rw [← hr' r hr]
      constructor
      · rintro (q | q)
        · split at q
          · exact ⟨.inl q, .inr (by have := up r q; grind)⟩
          · rcases inS_append.mp q with q | q
            · exact ⟨.inl q, .inr (by have := up r q; grind)⟩
            · rcases inS_cons.mp q with q | q
              · refine ⟨.inr q.1, .inr ?_⟩
                have := q.2 _ rfl
                grind
              · exact (inS_nil q).elim
        · exact ⟨.inr (by grind), .inl (by grind)⟩
      · rintro ⟨q | q, g⟩
        · left
          split
          · exact q
          · exact inS_append.mpr (.inl q)
        · rcases g with g | g
          · right; grind
          · left
            rw [if_neg (by grind)]
            refine inS_append.mpr (.inr (inS_cons.mpr (.inl ⟨q, fun z ez => ?_⟩)))
            cases ez
            grind
theorem wholes_in {M : Int} {s : Rat} (hM : 1 ≤ M) (h0 : 0 < s) (h1 : s ≤ 1) : Canon (byWholes M s) ∧ (∀ x ∈ byWholes M s, WOk x) ∧ ∀ r, 1 < r → (inS (byWholes M s) r ↔ farW M s r) := by
  obtain ⟨n, rfl⟩ : ∃ n : Nat, M = (n : Int) + 1 := ⟨(M - 1).toNat, by omega⟩
  obtain ⟨e, hc, hx, hr⟩ := wholes_pre h0 h1 n
  unfold byWholes
  rw [show (n : Int) + 1 + 1 = (n : Int) + 2 by omega]
  have hk1 : (1 : Rat) ≤ (((n : Int) + 1 : Int) : Rat) := Rat.intCast_le_intCast.mpr (show (1 : Int) ≤ (n : Int) + 1 by omega)
  generalize (rng 2 ((n : Int) + 2)).foldl (bwStep s) ([], shR 1 s) = A at *
  rw [e]
  generalize (((n : Int) + 1 : Int) : Rat) = k at *
  refine ⟨List.pairwise_append.mpr ⟨hc, canon_one _, fun x hx' y hy => ?_⟩, fun x hx' => ?_, fun r hr1 => ?_⟩
  · rcases List.mem_singleton.mp hy with rfl
    obtain ⟨_, z, ez, hz⟩ := hx x hx'
    exact ⟨z, ez, by show z < k + s; grind⟩
  · rcases List.mem_append.mp hx' with hx' | hx'
    · exact (hx x hx').1
    · rcases List.mem_singleton.mp hx' with rfl
      exact ⟨by show 1 ≤ k + s; grind, fun _ ez => by cases ez⟩
  · rw [inS_append, inS_cons, ← hr r hr1]
    constructor
    · rintro (q | q | q)
      · exact .inl q
      · exact .inr q.1
      · exact (inS_nil q).elim
    · rintro (q | q)
      · exact .inl q
      · exact .inr (.inl ⟨q, fun _ ez => by cases ez⟩)
end JD
set_option maxHeartbeats 4000000
namespace JD
/-! ### the couple told and the whole numbers -/
theorem far_neg {x y : Int} {s r : Rat} : farS (-x, -y) s r ↔ farS (x, y) s r := by
  unfold farS lin
  show s ≤ ((-x : Int) : Rat) + ((-y : Int) : Rat) * r ∨ s ≤ -(((-x : Int) : Rat) + ((-y : Int) : Rat) * r) ↔ s ≤ (x : Rat) + (y : Rat) * r ∨ s ≤ -((x : Rat) + (y : Rat) * r)
  rw [Rat.intCast_neg, Rat.intCast_neg]
  constructor
  · rintro (h | h)
    · right; grind
    · left; grind
  · rintro (h | h)
    · right; grind
    · left; grind
def wOk (M x y : Int) : Bool := decide (-x ≤ y) || (decide (x % y = 0) && decide (-x ≤ M * y))
def dOk (M : Int) (p : IP) : Bool := if p.2 = 0 then !decide (p.1 = 0) else if 0 < p.2 then wOk M p.1 p.2 else wOk M (-p.1) (-p.2)
theorem wOk_far {M x y : Int} (hM : 1 ≤ M) (hy : 0 < y) (h : wOk M x y = true) {s r : Rat} (h0 : 0 < s) (hr : 1 < r) (hf : farW M s r) : farS (x, y) s r := by
  have hY : (1 : Rat) ≤ (y : Rat) := Rat.intCast_le_intCast.mpr (show (1 : Int) ≤ y by omega)
  have w1 := hf 1 (by omega) hM
  rw [far_whole, Rat.intCast_one] at w1
  have w1' : s ≤ r - 1 := by rcases w1 with w | w <;> grind
  have first : -x ≤ y → farS (x, y) s r := fun hx => by
    have hx' : -(x : Rat) ≤ (y : Rat) := by
      rw [← Rat.intCast_neg]
      exact Rat.intCast_le_intCast.mpr hx
    have m := Rat.mul_le_mul_of_nonneg_right hY (show 0 ≤ r - 1 by grind)
    left
    show s ≤ (x : Rat) + (y : Rat) * r
    grind
  unfold wOk at h
  simp only [Bool.or_eq_true, Bool.and_eq_true, decide_eq_true_eq] at h
  rcases h with h | ⟨h2, h3⟩
  · exact first h
  · have ex : x = y * (x / y) := (Int.mul_ediv_cancel' (Int.dvd_of_emod_eq_zero h2)).symm
    generalize x / y = q at *
    by_cases c : -q ≤ 0
    · refine first ?_
      have : 0 ≤ y * q := Int.mul_nonneg (by omega) (by omega)
      omega
    · have cM : -q ≤ M := by
        have : y * (-q) ≤ y * M := by rw [Int.mul_neg, Int.mul_comm y M]; omega
        exact Int.le_of_mul_le_mul_left this hy
      have w := hf (-q) (by omega) cM
      rw [far_whole, Rat.intCast_neg] at w
      have exR : (x : Rat) = (y : Rat) * (q : Rat) := by rw [ex, Rat.intCast_mul]
      rcases w with w | w
      · have m := Rat.mul_le_mul_of_nonneg_right hY (show 0 ≤ r - -(q : Rat) by grind)
        left
        show s ≤ (x : Rat) + (y : Rat) * r
        grind
      · have m := Rat.mul_le_mul_of_nonneg_right hY (show 0 ≤ -(q : Rat) - r by grind)
        right
        show s ≤ -((x : Rat) + (y : Rat) * r)
        grind
theorem dOk_far {M : Int} {p : IP} (hM : 1 ≤ M) (h : dOk M p = true) {s r : Rat} (h0 : 0 < s) (h1 : s ≤ 1) (hr : 1 < r) (hf : farW M s r) : farS p s r := by
  obtain ⟨x, y⟩ := p
  unfold dOk at h
  dsimp only at h
  split at h
  · rename_i e
    subst e
    exact far_flat (by simpa using h) h1
  · split at h
    · rename_i c
      exact wOk_far hM c h h0 hr hf
    · rename_i e c
      exact far_neg.mp (wOk_far hM (by omega) h h0 hr hf)
theorem rng_mem' {lo hi x : Int} (h1 : lo ≤ x) (h2 : x < hi) : x ∈ rng lo hi := by
  unfold rng
  exact List.mem_map.mpr ⟨(x - lo).toNat, List.mem_range.mpr (by omega), by omega⟩
def wholeOk (M : Int) (js ks : List IP) : Bool := decide (1 ≤ M) && ((pairs js ks).all fun e => dOk M (dif e)) && (rng 1 (M + 1)).all fun k => (pairs js ks).any fun e => decide (dif e = (-k, 1)) || decide (dif e = (k, -1))
theorem apart_wholes {M : Int} {js ks : List IP} (h : wholeOk M js ks = true) {s : Rat} (h0 : 0 < s) (h1 : s ≤ 1) (hok : ∀ x ∈ apartM js ks s, WOk x) : apartM js ks s = byWholes M s := by
  unfold wholeOk at h
  simp only [Bool.and_eq_true, decide_eq_true_eq, List.all_eq_true, List.any_eq_true, Bool.or_eq_true] at h
  obtain ⟨⟨hM, hd⟩, hk⟩ := h
  obtain ⟨c1, c2⟩ := apart_in (js := js) (ks := ks) h0 h1
  obtain ⟨d1, d2, d3⟩ := wholes_in hM h0 h1
  refine canon_uniq _ _ c1 d1 hok d2 fun r hr => ?_
  rw [c2 r hr, d3 r hr]
  constructor
  · intro q k k1 k2
    obtain ⟨e, he, h⟩ := hk k (rng_mem' k1 (by omega))
    have := q e he
    rcases h with h | h
    · rw [h] at this
      exact this
    · rw [h] at this
      have h2 := far_neg.mpr this
      rw [Int.neg_neg] at h2
      exact h2
  · intro q e he
    exact dOk_far hM (hd e he) h0 h1 hr q
/-! ### the profile and the whole numbers -/
def geP (c0 c1 : Int) (p : Seg) : Bool := decide (0 ≤ (c0 : Rat) + (c1 : Rat) * p.low) && (match p.high with
  | none => decide (0 ≤ c1)
  | some h => decide (0 ≤ (c0 : Rat) + (c1 : Rat) * h))
theorem geP_ok {c0 c1 : Int} {p : Seg} (h : geP c0 c1 p = true) {r : Rat} (hr : inP p r) : 0 ≤ (c0 : Rat) + (c1 : Rat) * r := by
  unfold geP at h
  rw [Bool.and_eq_true, decide_eq_true_eq] at h
  obtain ⟨h1, h2⟩ := h
  obtain ⟨r1, r2⟩ := hr
  by_cases c : 0 ≤ c1
  · have m := Rat.mul_le_mul_of_nonneg_left r1 (Rat.intCast_nonneg.mpr c)
    grind
  · cases e : p.high with
    | none =>
      rw [e] at h2
      exact absurd (of_decide_eq_true h2) c
    | some z =>
      rw [e] at h2
      have h2' := of_decide_eq_true h2
      have m := Rat.mul_le_mul_of_nonneg_left (r2 z e) (show 0 ≤ ((-c1 : Int) : Rat) from Rat.intCast_nonneg.mpr (by omega))
      rw [Rat.intCast_neg] at m
      grind
def upOk (M : Int) (p : Seg) : Bool := (rng 1 (M + 1)).all fun k => geP (-k - p.start) (1 - p.rise) p || geP (k - p.start) (-1 - p.rise) p || geP (-k - 1) 1 p || geP (k - 1) (-1) p
def dnOk (M : Int) (p : Seg) : Bool := geP (p.start - 1) p.rise p || (rng 1 (M + 1)).any fun k => geP (p.start + k) (p.rise - 1) p && geP (p.start - k) (p.rise + 1) p
theorem up_far {M : Int} {p : Seg} (h : upOk M p = true) {s r : Rat} (h1 : s ≤ 1) (hr : inP p r) (hv : s ≤ valP p r) : farW M s r := by
  intro k k1 k2
  unfold upOk at h
  have hk := List.all_eq_true.mp h k (rng_mem' k1 (by omega))
  rw [far_whole]
  unfold valP at hv
  simp only [Bool.or_eq_true] at hk
  rcases hk with ((q | q) | q) | q <;> have g := geP_ok q hr <;> simp only [Rat.intCast_sub, Rat.intCast_neg, Rat.intCast_one] at g
  · left; grind
  · right; grind
  · left; grind
  · right; grind
theorem dn_far {M : Int} {p : Seg} (h : dnOk M p = true) {s r : Rat} (h1 : s ≤ 1) (hr : inP p r) (hf : farW M s r) : s ≤ valP p r := by
  unfold dnOk at h
  unfold valP
  simp only [Bool.or_eq_true, List.any_eq_true, Bool.and_eq_true] at h
  rcases h with q | ⟨k, hk, q1, q2⟩
  · have g := geP_ok q hr
    simp only [Rat.intCast_sub, Rat.intCast_one] at g
    grind
  · have g1 := geP_ok q1 hr
    have g2 := geP_ok q2 hr
    simp only [Rat.intCast_sub, Rat.intCast_add, Rat.intCast_one] at g1 g2
    obtain ⟨k1, k2⟩ := rng_mem hk
    have f := hf k k1 (by omega)
    rw [far_whole] at f
    rcases f with f | f <;> grind
def profW (a b M : Int) : Bool := decide (1 ≤ M) && chainOk 1 (profileM a b) && (profileM a b).all fun p => upOk M p && dnOk M p
theorem couple_wholes {a b M : Int} (hn : a + b ≠ 1) (h : profW a b M = true) {s : Rat} (h0 : 0 < s) (h1 : s ≤ 1) (hok : ∀ x ∈ coupleM a b s, WOk x) : coupleM a b s = byWholes M s := by
  unfold profW at h
  simp only [Bool.and_eq_true, decide_eq_true_eq, List.all_eq_true] at h
  obtain ⟨⟨hM, hc⟩, hp⟩ := h
  obtain ⟨c1, c2⟩ := couple_in (s := s) hn hc
  obtain ⟨d1, d2, d3⟩ := wholes_in hM h0 h1
  refine canon_uniq _ _ c1 d1 hok d2 fun r hr => ?_
  rw [c2 r hr, d3 r hr]
  constructor
  · rintro ⟨p, hm, hi, hv⟩
    exact up_far (hp p hm).1 h1 hi hv
  · intro q
    obtain ⟨p, hm, hi⟩ := cover _ _ hc r (Rat.le_of_lt hr)
    exact ⟨p, hm, hi, dn_far (hp p hm).2 h1 hi q⟩
/-- without short or long bricks, two bricks or more: nothing is kept -/
def zeroOk (a b : Int) (js ks : List IP) : Bool := chainOk 1 (profileM a b) && ((profileM a b).all fun p => decide (p.start = 0) && decide (p.rise = 0)) && (pairs js ks).any fun e => decide (dif e = (0, 0))
theorem couple_zero {a b : Int} {js ks : List IP} (hn : a + b ≠ 1) (h : zeroOk a b js ks = true) {s : Rat} (h0 : 0 < s) (h1 : s ≤ 1) (hok : ∀ x ∈ coupleM a b s, WOk x) (hok2 : ∀ x ∈ apartM js ks s, WOk x) : apartM js ks s = coupleM a b s := by
  unfold zeroOk at h
  simp only [Bool.and_eq_true, decide_eq_true_eq, List.all_eq_true, List.any_eq_true] at h
  obtain ⟨⟨hc, hp⟩, e, he, hz⟩ := h
  obtain ⟨c1, c2⟩ := couple_in (s := s) hn hc
  obtain ⟨d1, d2⟩ := apart_in (js := js) (ks := ks) h0 h1
  refine canon_uniq _ _ d1 c1 hok2 hok fun r hr => ?_
  rw [c2 r hr, d2 r hr]
  constructor
  · intro q
    have := q e he
    rw [hz] at this
    exact (far_zero h0 this).elim
  · rintro ⟨p, hm, _, hv⟩
    exfalso
    obtain ⟨z1, z2⟩ := hp p hm
    unfold valP at hv
    rw [z1, z2, Rat.intCast_zero, Rat.zero_mul, Rat.add_zero] at hv
    grind
/-! ### how long the lists are -/
theorem row_flat {a : SR} {k : List SR} (h : k.length ≤ 1) : (bothRow a k).length ≤ 1 := Nat.le_trans (bothRow_len a k) h
theorem both_two {lo hi : Rat} (hlh : lo < hi) : ∀ (l : List SR), Canon l → (bothM l [(1, some lo), (hi, none)]).length ≤ l.length + 1
  | [], _ => by simp [bothM]
  | a :: l, h => by
    have ih := both_two hlh l (List.Pairwise.of_cons h)
    have e : bothM (a :: l) [(1, some lo), (hi, none)] = bothRow a [(1, some lo), (hi, none)] ++ bothM l [(1, some lo), (hi, none)] := by
      unfold bothM
      rw [List.flatMap_cons]
    rw [e, List.length_append, List.length_cons]
    by_cases c : (bothRow a [(1, some lo), (hi, none)]).length ≤ 1
    · omega
    · have h2 : (bothRow a [(1, some lo), (hi, none)]).length ≤ 2 := bothRow_len a _
      -- then a goes to hi or beyond, and all later ones lie behind lo
      have g : goesTo (minO a.2 none) (maxR a.1 hi) = true := by
        cases g : goesTo (minO a.2 none) (maxR a.1 hi) with
        | true => rfl
        | false =>
          exfalso
          apply c
          unfold bothRow
          rw [List.filterMap_cons, List.filterMap_cons, List.filterMap_nil]
          simp only [g, Bool.false_eq_true, if_false]
          split <;> simp
      have far : ∀ b ∈ l, lo < b.1 := fun b hb => by
        obtain ⟨z, ez, lt⟩ := List.rel_of_pairwise_cons h hb
        rw [ez] at g
        have g' : (!decide (z < maxR a.1 hi)) = true := g
        have g2 : ¬ z < maxR a.1 hi := by simpa using g'
        have := (le_maxR (a := a.1) (b := hi)).2
        grind
      have rest : ∀ m : List SR, (∀ b ∈ m, lo < b.1) → (bothM m [(1, some lo), (hi, none)]).length ≤ m.length := by
        intro m
        induction m with
        | nil => intro _; simp [bothM]
        | cons b m ih2 =>
          intro hb
          have e : bothM (b :: m) [(1, some lo), (hi, none)] = bothRow b [(1, some lo), (hi, none)] ++ bothM m [(1, some lo), (hi, none)] := by
            unfold bothM
            rw [List.flatMap_cons]
          rw [e, List.length_append, List.length_cons]
          have := ih2 fun x hx => hb x (List.mem_cons_of_mem _ hx)
          have lb := hb b (List.mem_cons_self ..)
          have g0 : goesTo (minO b.2 (some lo)) (maxR b.1 1) = false := by
            obtain ⟨w, ew, lw⟩ := minO_some (a := b.2) (b := some lo) (.inr rfl)
            rw [ew]
            have := (le_maxR (a := b.1) (b := 1)).1
            show (!decide (w < maxR b.1 1)) = false
            rw [decide_eq_true (by grind)]
            rfl
          have : (bothRow b [(1, some lo), (hi, none)]).length ≤ 1 := by
            unfold bothRow
            rw [List.filterMap_cons, List.filterMap_cons, List.filterMap_nil]
            simp only [g0, Bool.false_eq_true, if_false]
            split <;> simp
          omega
      have := rest l far
      omega
theorem both_small {k : List SR} (hk : k.length ≤ 1) : ∀ (l : List SR), (bothM l k).length ≤ l.length
  | [] => by simp [bothM]
  | a :: l => by
    have e : bothM (a :: l) k = bothRow a k ++ bothM l k := by
      unfold bothM
      rw [List.flatMap_cons]
    have := both_small hk l
    have := row_flat (a := a) hk
    rw [e, List.length_append, List.length_cons]
    omega
theorem both_kept {l : List SR} {p q : IP} {s : Rat} (h0 : 0 < s) (h : Canon l) : (bothM l (keptM p q s)).length ≤ l.length + 1 := by
  unfold keptM
  split
  · split
    · exact Nat.le_trans (both_small (by simp) l) (Nat.le_succ _)
    · exact Nat.le_trans (both_small (by simp) l) (Nat.le_succ _)
  · rename_i hy
    have hbp := br_pos hy h0
    split
    · refine both_two ?_ l h
      have := (le_maxR (a := Rat.divInt (-(p.1 - q.1)) (p.2 - q.2) + s / (((p.2 - q.2).natAbs : Int) : Rat)) (b := 1)).1
      grind
    · exact Nat.le_trans (both_small (by simp) l) (Nat.le_succ _)
theorem apart_len {s : Rat} (h0 : 0 < s) (h1 : s ≤ 1) : ∀ (l : List (IP × IP)) (k : List SR), Canon k → (l.foldl (apf s) k).length ≤ k.length + l.length
  | [], k, _ => Nat.le_refl _
  | e :: l, k, hk => by
    rw [List.foldl_cons, List.length_cons]
    have h := apart_len h0 h1 l (apf s k e) (canon_both hk (canon_kept h0))
    have : (apf s k e).length ≤ k.length + 1 := both_kept h0 hk
    omega
end JD
set_option maxHeartbeats 4000000
namespace JD
/-! ### judging: a difference that is bad -/
def badL (pts : List Pt) (d : IP) : Bool := pts.any fun p => decide (gapR p.1 d < (p.1.den : Int)) && decide (gapR p.1 d < p.2)
def badR (ps : List Seg) (d : IP) (r : Rat) : Bool := match profShare ps r with
  | none => false
  | some q => decide (Rat.divInt (gapR r d) r.den < 1) && decide (Rat.divInt (gapR r d) r.den < q)
def badP (as : List Rat) (ps : List Seg) (d : IP) : Bool := as.any (badR ps d)
theorem gapR_neg {r : Rat} {x y : Int} : gapR r (-x, -y) = gapR r (x, y) := by
  unfold gapR
  show (((-x * r.den + -y * r.num).natAbs : Nat) : Int) = (((x * r.den + y * r.num).natAbs : Nat) : Int)
  rw [show -x * (r.den : Int) + -y * r.num = -(x * r.den + y * r.num) by rw [Int.neg_mul, Int.neg_mul]; omega, Int.natAbs_neg]
theorem gapR_norm {r : Rat} {p : IP} : gapR r (normD p) = gapR r p := by
  unfold normD
  split
  · exact gapR_neg
  · rfl
theorem badL_norm {pts : List Pt} {p : IP} : badL pts (normD p) = badL pts p := by
  unfold badL
  simp only [gapR_norm]
/-- the least of the gaps -/
theorem ptOk_iff {l : List IP} {p : Pt} : ptOk l p = true ↔ ∀ d ∈ l, (decide (gapR p.1 d < (p.1.den : Int)) && decide (gapR p.1 d < p.2)) = false := by
  unfold ptOk leastM
  cases l with
  | nil => exact ⟨fun _ d h => (by cases h), fun _ => rfl⟩
  | cons x q =>
    show (!decide (min (minI (gapR p.1 x) (q.map (gapR p.1))) (p.1.den : Int) < min p.2 (p.1.den : Int))) = true ↔ _
    obtain ⟨m1, m2⟩ := minI_le (gapR p.1 x) (q.map (gapR p.1))
    have m3 := minI_mem (gapR p.1 x) (q.map (gapR p.1))
    generalize minI (gapR p.1 x) (q.map (gapR p.1)) = m at *
    have low : ∀ d ∈ x :: q, m ≤ gapR p.1 d := fun d hd => by
      rcases List.mem_cons.mp hd with rfl | hd
      · exact m1
      · exact m2 _ (List.mem_map.mpr ⟨d, hd, rfl⟩)
    have att : ∃ d ∈ x :: q, gapR p.1 d = m := by
      rcases List.mem_cons.mp m3 with h | h
      · exact ⟨x, List.mem_cons_self .., h.symm⟩
      · obtain ⟨d, hd, e⟩ := List.mem_map.mp h
        exact ⟨d, List.mem_cons_of_mem _ hd, e⟩
    constructor
    · intro h d hd
      have h' : ¬ (min m (p.1.den : Int) < min p.2 (p.1.den : Int)) := by simpa using h
      have := low d hd
      rw [Bool.and_eq_false_iff, decide_eq_false_iff_not, decide_eq_false_iff_not]
      omega
    · intro h
      obtain ⟨d, hd, e⟩ := att
      have := h d hd
      rw [Bool.and_eq_false_iff, decide_eq_false_iff_not, decide_eq_false_iff_not, e] at this
      have h' : ¬ (min m (p.1.den : Int) < min p.2 (p.1.den : Int)) := by omega
      simpa using h'
theorem isBest_iff {l : List IP} {pts : List Pt} : isBest l pts = true ↔ ∀ d ∈ l, badL pts d = false := by
  unfold isBest badL
  rw [List.all_eq_true]
  constructor
  · intro h d hd
    rw [List.any_eq_false]
    intro p hp
    rw [ptOk_iff.mp (h p hp) d hd]
    exact Bool.false_ne_true
  · intro h p hp
    rw [ptOk_iff]
    intro d hd
    have := List.any_eq_false.mp (h d hd) p hp
    simpa using this
theorem stsM_mem : ∀ (es : List (IP × IP)) (l : List IP) (d : IP), d ∈ es.foldl sts l ↔ d ∈ l ∨ ∃ e ∈ es, d = normD (dif e)
  | [], l, d => by simp
  | e :: es, l, d => by
    rw [List.foldl_cons, stsM_mem es]
    have : d ∈ sts l e ↔ d ∈ l ∨ d = normD (dif e) := by
      unfold sts addD
      split
      · rename_i h
        have h' : normD (dif e) ∈ l := of_decide_eq_true h
        constructor
        · exact .inl
        · rintro (q | rfl)
          · exact q
          · exact h'
      · rw [List.mem_append, List.mem_singleton]
    rw [this]
    constructor
    · rintro ((h | h) | ⟨e', he', h⟩)
      · exact .inl h
      · exact .inr ⟨e, List.mem_cons_self .., h⟩
      · exact .inr ⟨e', List.mem_cons_of_mem _ he', h⟩
    · rintro (h | ⟨e', he', h⟩)
      · exact .inl (.inl h)
      · rcases List.mem_cons.mp he' with rfl | he'
        · exact .inl (.inr h)
        · exact .inr ⟨e', he', h⟩
theorem best_pairs {ns ms : List Int} {pts : List Pt} : isBest (rsteps ns ms) pts = true ↔ ∀ e ∈ pairs (jointsM 0 0 ns) (jointsM 0 0 ms), badL pts (dif e) = false := by
  rw [isBest_iff]
  unfold rsteps stepsM
  constructor
  · intro h e he
    rw [← badL_norm]
    exact h _ ((stsM_mem _ _ _).mpr (.inr ⟨e, he, rfl⟩))
  · intro h d hd
    rcases (stsM_mem _ _ _).mp hd with q | ⟨e, he, rfl⟩
    · cases q
    · rw [badL_norm]
      exact h e he
theorem gapM_dif {e : IP × IP} {r : Rat} : gapM e.1 e.2 r = gapR r (dif e) := rfl
theorem nst_min {r : Rat} : ∀ (l : List (IP × IP)) (a : Option (Int × (IP × IP))), match l.foldl (nst r) a with
    | none => l = [] ∧ a = none
    | some b => (∀ e ∈ l, b.1 ≤ gapM e.1 e.2 r) ∧ ∀ c, a = some c → b.1 ≤ c.1
  | [], a => by
    show match a with
    | none => _
    | some b => _
    cases a with
    | none => exact ⟨rfl, rfl⟩
    | some b => exact ⟨fun _ h => (by cases h), fun c e => by cases e; exact Int.le_refl _⟩
  | e :: l, a => by
    have ih := nst_min (r := r) l (nst r a e)
    rw [List.foldl_cons]
    cases q : l.foldl (nst r) (nst r a e) with
    | none =>
      rw [q] at ih
      obtain ⟨_, h⟩ := ih
      exfalso
      unfold nst at h
      cases a with
      | none => cases h
      | some b =>
        dsimp only at h
        split at h <;> cases h
    | some b =>
      rw [q] at ih
      obtain ⟨i1, i2⟩ := ih
      have key : b.1 ≤ gapM e.1 e.2 r ∧ ∀ c, a = some c → b.1 ≤ c.1 := by
        cases a with
        | none => exact ⟨i2 _ rfl, fun c h => by cases h⟩
        | some c =>
          by_cases h : gapM e.1 e.2 r < c.1
          · have := i2 (gapM e.1 e.2 r, e) (if_pos h)
            refine ⟨this, fun c' hc => ?_⟩
            cases hc
            have this' : b.1 ≤ gapM e.1 e.2 r := this
            omega
          · have := i2 c (if_neg h)
            refine ⟨by omega, fun c' hc => ?_⟩
            cases hc
            exact this
      refine ⟨fun e' he' => ?_, key.2⟩
      rcases List.mem_cons.mp he' with rfl | he'
      · exact key.1
      · exact i1 e' he'
theorem div_lt {m : Int} {r t : Rat} : Rat.divInt m r.den < t ↔ (m : Rat) < t * ((r.den : Int) : Rat) := by
  rw [Rat.divInt_eq_div, Rat.div_lt_iff]
  exact Rat.intCast_pos.mpr (den_pos r)
theorem div_mono {m n : Int} {r t : Rat} (h : m ≤ n) (k : Rat.divInt n r.den < t) : Rat.divInt m r.den < t := by
  rw [div_lt] at k ⊢
  have := Rat.intCast_le_intCast.mpr h
  grind
theorem worse_iff {ns ms : List Int} {ps : List Seg} {r : Rat} : worseM ns ms ps r = true ↔ ∃ e ∈ pairs (jointsM 0 0 ns) (jointsM 0 0 ms), badR ps (dif e) r = true := by
  unfold worseM shareM badR
  have hm := nst_min (r := r) (pairs (jointsM 0 0 ns) (jointsM 0 0 ms)) none
  have ha := fun b h => near_at (js := jointsM 0 0 ns) (ks := jointsM 0 0 ms) (r := r) (b := b) h
  unfold nearM at ha ⊢
  cases q : (pairs (jointsM 0 0 ns) (jointsM 0 0 ms)).foldl (nst r) none with
  | none =>
    rw [q] at hm
    rw [hm.1]
    constructor
    · intro h; cases h
    · rintro ⟨_, h, _⟩; cases h
  | some b =>
    rw [q] at hm
    obtain ⟨h1, _⟩ := hm
    obtain ⟨a1, a2, a3⟩ := ha b q
    show (if Rat.divInt b.1 r.den < 1 then (match profShare ps r with
      | none => false
      | some q => decide (Rat.divInt b.1 r.den < q)) else false) = true ↔ _
    cases hq : profShare ps r with
    | none =>
      constructor
      · intro h
        split at h <;> cases h
      · rintro ⟨_, _, h⟩; cases h
    | some t =>
      show (if Rat.divInt b.1 r.den < 1 then decide (Rat.divInt b.1 r.den < t) else false) = true ↔ ∃ e ∈ _, (decide (Rat.divInt (gapR r (dif e)) r.den < 1) && decide (Rat.divInt (gapR r (dif e)) r.den < t)) = true
      constructor
      · intro h
        split at h
        · rename_i c
          refine ⟨b.2, mem_pairs.mpr ⟨a2, a3⟩, ?_⟩
          rw [← gapM_dif, ← a1]
          simp only [Bool.and_eq_true]
          exact ⟨decide_eq_true c, h⟩
        · cases h
      · rintro ⟨e, he, h⟩
        simp only [Bool.and_eq_true, decide_eq_true_eq] at h
        have hl := h1 e he
        rw [gapM_dif] at hl
        rw [if_pos (div_mono hl h.1)]
        exact decide_eq_true (div_mono hl h.2)
theorem worse_pairs {ns ms : List Int} {as : List Rat} {ps : List Seg} : as.any (worseM ns ms ps) = true ↔ ∃ e ∈ pairs (jointsM 0 0 ns) (jointsM 0 0 ms), badP as ps (dif e) = true := by
  unfold badP
  rw [List.any_eq_true]
  constructor
  · rintro ⟨r, hr, h⟩
    obtain ⟨e, he, h⟩ := worse_iff.mp h
    exact ⟨e, he, List.any_eq_true.mpr ⟨r, hr, h⟩⟩
  · rintro ⟨e, he, h⟩
    obtain ⟨r, hr, h⟩ := List.any_eq_true.mp h
    exact ⟨r, hr, worse_iff.mpr ⟨e, he, h⟩⟩
/-- where the joints of a row lie -/
theorem joints_box : ∀ (ns : List Int) (s l : Int), (∀ n ∈ ns, n = 0 ∨ n = 1) → ∀ p ∈ jointsM s l ns, s ≤ p.1 ∧ p.1 ≤ s + ((ns.length : Int) - ns.sum) ∧ l ≤ p.2 ∧ p.2 ≤ l + ns.sum
  | [], _, _, _, p, h => by cases h
  | [n], _, _, _, p, h => by cases h
  | n :: m :: r, s, l, h01, p, h => by
    have hn := h01 n (List.mem_cons_self ..)
    have hs := sum01 (ns := m :: r) fun k hk => h01 k (List.mem_cons_of_mem _ hk)
    rw [jointsM] at h
    rw [List.sum_cons, List.length_cons]
    rcases List.mem_cons.mp h with rfl | h
    · show s ≤ s + 1 - n ∧ s + 1 - n ≤ _ ∧ l ≤ l + n ∧ l + n ≤ _
      omega
    · have := joints_box (m :: r) (s + 1 - n) (l + n) (fun k hk => h01 k (List.mem_cons_of_mem _ hk)) p h
      omega
def boxOk (a b : Int) (as : List Rat) (ps : List Seg) (pts : List Pt) : Bool := (rng (-a) (a + 1)).all fun x => (rng (-b) (b + 1)).all fun y => badP as ps (x, y) == badL pts (x, y)
theorem fault_eq {a b : Int} {pts : List Pt} (h : boxOk a b (askedM a b) (profileM a b) pts = true) (x : D) : faultD a b x = lawWord a b pts x := by
  unfold faultD lawWord
  cases hx : x.items with
  | none => rfl
  | some es =>
    match es with
    | [] => rfl
    | [_] => rfl
    | _ :: _ :: _ :: _ => rfl
    | [e1, e2] =>
      dsimp only
      cases hp : (patB e1 && patB e2) with
      | false => rfl
      | true =>
        rw [if_pos rfl, if_pos rfl]
        cases hc : (decide (cntI (rowI e1) = (a, b)) && decide (cntI (rowI e2) = (a, b))) with
        | false => rfl
        | true =>
          rw [if_pos rfl, if_pos rfl]
          rw [Bool.and_eq_true] at hp
          obtain ⟨ns, hn1, hn2⟩ := patB_ok hp.1
          obtain ⟨ms, hm1, hm2⟩ := patB_ok hp.2
          rw [rowI_of hn1, rowI_of hm1] at hc ⊢
          rw [Bool.and_eq_true, decide_eq_true_eq, decide_eq_true_eq] at hc
          have box : ∀ e ∈ pairs (jointsM 0 0 ns) (jointsM 0 0 ms), badP (askedM a b) (profileM a b) (dif e) = badL pts (dif e) := fun e he => by
            obtain ⟨q1, q2⟩ := mem_pairs.mp he
            have n1 : (ns.length : Int) - ns.sum = a := congrArg (·.1) hc.1
            have n2 : ns.sum = b := congrArg (·.2) hc.1
            have m1 : (ms.length : Int) - ms.sum = a := congrArg (·.1) hc.2
            have m2 : ms.sum = b := congrArg (·.2) hc.2
            have k1 := joints_box ns 0 0 hn2.2.2 _ q1
            have k2 := joints_box ms 0 0 hm2.2.2 _ q2
            unfold boxOk at h
            have t := List.all_eq_true.mp (List.all_eq_true.mp h (e.1.1 - e.2.1) (rng_mem' (by omega) (by omega))) (e.1.2 - e.2.2) (rng_mem' (by omega) (by omega))
            exact eq_of_beq t
          cases hb : isBest (rsteps ns ms) pts with
          | true =>
            rw [if_pos rfl, if_neg]
            intro hw
            obtain ⟨e, he, q⟩ := worse_pairs.mp hw
            rw [box e he, best_pairs.mp hb e he] at q
            cases q
          | false =>
            rw [if_neg Bool.false_ne_true, if_pos]
            refine worse_pairs.mpr ?_
            have : ¬ ∀ e ∈ pairs (jointsM 0 0 ns) (jointsM 0 0 ms), badL pts (dif e) = false := fun z => by
              rw [best_pairs.mpr z] at hb
              cases hb
            refine Classical.byContradiction fun hn => this fun e he => ?_
            cases hq : badL pts (dif e) with
            | false => rfl
            | true => exact absurd ⟨e, he, by rw [box e he, hq]⟩ hn
end JD
set_option maxHeartbeats 4000000
namespace JD
/-! ### what is looked at for each of the counts -/
abbrev bJ (a b : Int) : List IP := jointsM 0 0 (bestM a b).1
abbrev bK (a b : Int) : List IP := jointsM 0 0 (bestM a b).2
def patC (ns : List Int) : Bool := decide (1 ≤ ns.length) && decide (ns.length ≤ 50) && ns.all fun n => decide (n = 0) || decide (n = 1)
theorem patC_ok {ns : List Int} (h : patC ns = true) : patL ns := by
  unfold patC at h
  simp only [Bool.and_eq_true, decide_eq_true_eq, List.all_eq_true, Bool.or_eq_true] at h
  exact ⟨h.1.1, h.1.2, h.2⟩
def bestB (a b : Int) : Bool := patC (bestM a b).1 && patC (bestM a b).2 && decide (cntI (bestM a b).1 = (a, b)) && decide (cntI (bestM a b).2 = (a, b)) && goodRows 200 (startRow a b)
def wholeB (a b : Int) : Bool := decide (a = 0) || decide (b = 0) || (wholeOk (lastI a b) (bJ a b) (bK a b) && decide (lastI a b ≤ 100) && !decide ((lastI a b - 1) * b < a - 1) && !(decide (a - 1 ≤ (lastI a b - 2) * b) && decide (0 < a - 1)))
def upto (n : Nat) (f : Int → Int → Bool) : Bool := (List.range (n + 1)).all fun a => (List.range (n + 1)).all fun b => !(decide (1 ≤ a + b) && decide (a + b ≤ n)) || f (a : Int) (b : Int)
theorem upto_ok {n : Nat} {f : Int → Int → Bool} (h : upto n f = true) {a b : Int} (ha : 0 ≤ a) (hb : 0 ≤ b) (h1 : 1 ≤ a + b) (hn : a + b ≤ n) : f a b = true := by
  unfold upto at h
  have t := List.all_eq_true.mp (List.all_eq_true.mp h a.toNat (List.mem_range.mpr (by omega))) b.toNat (List.mem_range.mpr (by omega))
  rw [Bool.or_eq_true] at t
  rcases t with t | t
  · exfalso
    simp only [Bool.not_eq_true', Bool.and_eq_false_iff, decide_eq_false_iff_not] at t
    omega
  · rw [show ((a.toNat : Nat) : Int) = a by omega, show ((b.toNat : Nat) : Int) = b by omega] at t
    exact t
theorem best8 : upto 8 bestB = true := by decide +kernel
theorem whole8 : upto 8 wholeB = true := by decide +kernel
section
variable {a b : Int} (ha : 0 ≤ a) (hb : 0 ≤ b) (h1 : 1 ≤ a + b) (h8 : a + b ≤ 8)
include ha hb h1 h8
theorem best_ok : patL (bestM a b).1 ∧ patL (bestM a b).2 ∧ cntI (bestM a b).1 = (a, b) ∧ cntI (bestM a b).2 = (a, b) ∧ goodRows 200 (startRow a b) = true := by
  have t := upto_ok best8 ha hb h1 h8
  unfold bestB at t
  simp only [Bool.and_eq_true, decide_eq_true_eq] at t
  obtain ⟨⟨⟨⟨t1, t2⟩, t3⟩, t4⟩, t5⟩ := t
  exact ⟨patC_ok t1, patC_ok t2, t3, t4, t5⟩
theorem whole_ok (a0 : a ≠ 0) (b0 : b ≠ 0) : wholeOk (lastI a b) (bJ a b) (bK a b) = true ∧ lastI a b ≤ 100 ∧ ¬ ((lastI a b - 1) * b < a - 1) ∧ ¬ (a - 1 ≤ (lastI a b - 2) * b ∧ 0 < a - 1) := by
  have t := upto_ok whole8 ha hb h1 h8
  unfold wholeB at t
  simp only [Bool.and_eq_true, Bool.or_eq_true, decide_eq_true_eq, a0, b0, false_or, Bool.not_eq_true', Bool.and_eq_false_iff, decide_eq_false_iff_not] at t
  obtain ⟨⟨⟨t1, t2⟩, t3⟩, t4⟩ := t
  exact ⟨t1, t2, t3, fun z => t4.elim (fun q => q z.1) fun q => q z.2⟩
theorem best_len : (bJ a b).length ≤ 7 ∧ (bK a b).length ≤ 7 := by
  obtain ⟨_, _, c1, c2, _⟩ := best_ok ha hb h1 h8
  have n1 : ((bestM a b).1.length : Int) - (bestM a b).1.sum = a := congrArg (·.1) c1
  have n2 : (bestM a b).1.sum = b := congrArg (·.2) c1
  have m1 : ((bestM a b).2.length : Int) - (bestM a b).2.sum = a := congrArg (·.1) c2
  have m2 : (bestM a b).2.sum = b := congrArg (·.2) c2
  rw [jointsM_len, jointsM_len]
  omega
theorem best_prefix {s : Rat} (h0 : 0 < s) (hs : s ≤ 1) : ∀ l, l <+: pairs (bJ a b) (bK a b) → (l.foldl (apf s) [(1, none)]).length ≤ 200 := by
  intro l hl
  have k := apart_len h0 hs l [(1, none)] (canon_one _)
  have k2 := hl.length_le
  obtain ⟨l1, l2⟩ := best_len ha hb h1 h8
  rw [pairs_len] at k2
  have k3 : (bJ a b).length * (bK a b).length ≤ 7 * 7 := Nat.mul_le_mul l1 l2
  simp only [List.length_singleton] at k
  omega
theorem best_sok {s : Rat} (hs : Sr 120 s) : ∀ x ∈ apartM (bJ a b) (bK a b) s, SOk 3000 x := by
  obtain ⟨p1, p2, _⟩ := best_ok ha hb h1 h8
  refine apf_ok hs _ _ (fun e he => ?_) fun x hx => ?_
  · obtain ⟨q1, q2⟩ := mem_pairs.mp he
    exact ⟨pat_pb p1 _ q1, pat_pb p2 _ q2⟩
  · rcases List.mem_singleton.mp hx with rfl
    exact ⟨sr_one, Rat.le_refl, fun _ e => by cases e⟩
theorem best_apart (a0 : a ≠ 0) (b0 : b ≠ 0) {s : Rat} (hs : Sr 120 s) (h0 : 0 < s) (h1s : s ≤ 1) : apartM (bJ a b) (bK a b) s = byWholes (lastI a b) s :=
  apart_wholes (whole_ok ha hb h1 h8 a0 b0).1 h0 h1s fun x hx => (best_sok ha hb h1 h8 hs x hx).w
end
/-! up to seven bricks -/
def lawFree (a b : Int) : List Coup := if a + b = 1 then [] else freeM a b
def lawPts (a b : Int) : List Pt := (pointsM (equalAt a b) 1).map fun r => (r, widestM (lawFree a b) r)
def freeB (a b : Int) : Bool := decide (lpM a b ≠ []) && decide ((lawFree a b).length ≤ 70000) && (lawFree a b).all fun c => !c.2.2.isEmpty && decide (c.2.2.length ≤ 3000) && (c.2.2.all fun p => decide (p.1.natAbs ≤ 200) && decide (p.2.natAbs ≤ 200)) && patC c.1 && patC c.2.1
def ascB (a b : Int) : Bool := ascOk (eqFound a b)
def lastC (a b : Int) : Bool := decide (a = 0) || decide (b = 0) || decide (ownLast (lawFree a b) (equalAt a b) = lastI a b)
def boxB (a b : Int) : Bool := boxOk a b (askedM a b) (profileM a b) (lawPts a b)
def bestC (a b : Int) : Bool := (pairs (bJ a b) (bK a b)).all fun e => !badL (lawPts a b) (dif e)
def shapeB (a b : Int) : Bool := if a + b = 1 then true else (if a = 0 ∨ b = 0 then zeroOk a b (bJ a b) (bK a b) else profW a b (lastI a b))
end JD
set_option maxHeartbeats 4000000
namespace JD
open PySem PySem.Spec PyProof.Rows L2
open C8 (Cal Mak)
/-! ### the law: the lists told -/
theorem eqv_end (s : SR) : PyData.eqv (endD s).py (endD s).py = true := by
  unfold endD
  rw [D.py, D.pyAll, D.pyAll, D.pyAll, PyData.eqv, PyData.eqvAll, PyData.eqvAll, PyData.eqvAll, eqv_rat, eqv_ratO]
  simp
theorem eqvAll_ends : ∀ l : List SR, PyData.eqvAll (D.pyAll (l.map endD)) (D.pyAll (l.map endD)) = true
  | [] => by rw [List.map_nil, D.pyAll, PyData.eqvAll]
  | s :: l => by rw [List.map_cons, D.pyAll, PyData.eqvAll, eqv_end, eqvAll_ends l]; rfl
theorem eqv_refl_ends (l : List SR) : PyData.eqv (D.py (.lst (l.map endD))) (D.py (.lst (l.map endD))) = true := by
  rw [D.py, PyData.eqv]
  exact eqvAll_ends l
section
variable {P : Program} {w : World} {K : PySem.W.Frag} {mg : Str → Option Value} {base : Heap}
/-- what the list of a couple must be -/
structure ToldOk (a b : Int) (ns ms : List Int) (s : Rat) : Prop where
  pn : patL ns
  pm : patL ms
  pre : ∀ l, l <+: pairs (jointsM 0 0 ns) (jointsM 0 0 ms) → (l.foldl (apf s) [(1, none)]).length ≤ 200
  eq : apartM (jointsM 0 0 ns) (jointsM 0 0 ms) s = coupleM a b s
  canon : Canon (coupleM a b s)
  sok : ∀ x ∈ coupleM a b s, SOk 3000 x
  len : (coupleM a b s).length ≤ 1000
  whole : a ≠ 0 → b ≠ 0 → coupleM a b s = byWholes (lastI a b) s ∧ 0 ≤ lastI a b ∧ lastI a b ≤ 100

abbrev N_law_told_right : List Str := ["_law_counts_here", "_law_share_here", "_law_couple", "_law_told", "_law_due", "_law_row"]
theorem sc_law_told_right : FnScope N_law_told_right ["_law_counts_here", "_law_share_here", "_law_couple"] (defScope JA.s_law_told_right) := ⟨rfl, rfl, rfl, by decide +kernel, rfl, by decide +kernel, by decide +kernel⟩
def R_law_told_right : List D → D → Prop := fun ds d => ∃ (a b : Int) (s : Rat) (x e1 e2 : D) (ns ms : List Int), ds = [pairD (a, b), rat s, x] ∧ 0 ≤ a ∧ 0 ≤ b ∧ 1 ≤ a + b ∧ a + b ≤ 8 ∧ profOk a b = true ∧ Sr 120 s ∧ 0 < s ∧ s ≤ 1 ∧
  x.items = some [e1, e2] ∧ e1.items = some (ns.map D.int) ∧ e2.items = some (ms.map D.int) ∧ ToldOk a b ns ms s ∧ d = .bl true
theorem c_law_told_right (T : Tx K mg) : Cal P w K mg base 17 "_law_told_right" (spV K R_law_told_right) [] := by
  refine cal_V (T.glo 75) (T.says.1.def_ 75) sc_law_told_right (fun ds d h => ?_) (fun _ _ _ _ _ _ us hl => match us, hl with | [_, _, _], _ => rfl) fun cdv A outer s H E hRm ds d h => ?_
  · obtain ⟨a, b, s, x, e1, e2, ns, ms, rfl, _⟩ := h
    rfl
  · obtain ⟨a, b, s, x, e1, e2, ns, ms, rfl, ha, hb, h1, h8, hpo, hs, hs0, hs1, hx, hn, hm, ok, rfl⟩ := h
    have a0 : x.at 0 = some e1 := at_items (j := 0) hx rfl
    have a1 : x.at 1 = some e2 := at_items (j := 1) hx rfl
    refine ⟨_, (pss_cons (ps_set (i := 3) sc_law_told_right.nd rfl (by first | exact Or.inl rfl | exact Or.inr rfl) (C8.pe_c (c_couple_stretches T) hRm (by decide) (by rfl) (pa_cons (pe_ix ix_seq (pv 0) pe_int (fun _ _ => rfl)) (pa_cons (pe_ix ix_seq (pv 0) pe_int (fun _ _ => rfl)) (pa_cons (pv 1) pa_nil)))))
    (pss_cons (ps_if (PW.pt (pw_or (pt_not (pt_val (C8.pe_c (c_law_is_list T) hRm (by decide) (by rfl) (pa_cons (pv 3) pa_nil)))) (pw_or1 (pt_cmpR ((op_neS T hRm (by decide))) (C8.pe_c (c_apart_stretches T) hRm (by decide) (by rfl) (pa_cons (pe_ix ix_seq (pv 2) pe_int (fun _ _ => rfl)) (pa_cons (pe_ix ix_seq (pv 2) pe_int (fun _ _ => rfl)) (pa_cons (pv 1) pa_nil)))) (pv 3) (nomark _))))) (pss_one (ps_ret pe_bl)) pss_nil)
    (pss_cons (ps_if (PW.pt (pw_or (pt_cmpR (op_eqD hRm.units) (pe_ix ix_seq (pv 0) pe_int (fun _ _ => rfl)) pe_int (nomark _)) (pw_or1 (pt_cmpR (op_eqD hRm.units) (pe_ix ix_seq (pv 0) pe_int (fun _ _ => rfl)) pe_int (nomark _))))) (pss_one (ps_ret pe_bl)) pss_nil)
    (pss_cons (ps_set (i := 4) sc_law_told_right.nd rfl (by first | exact Or.inl rfl | exact Or.inr rfl) (C8.pe_c (c_law_by_wholes T) hRm (by decide) (by rfl) (pa_cons (C8.pe_c (c_last_whole T) hRm (by decide) (by rfl) (pa_cons (pe_ix ix_seq (pv 0) pe_int (fun _ _ => rfl)) (pa_cons (pe_ix ix_seq (pv 0) pe_int (fun _ _ => rfl)) pa_nil))) (pa_cons (pv 1) pa_nil))))
    (pss_one (ps_ret (pe_cmpR (op_eqD hRm.units) (pe_lc (own := [("_law_row", 5)]) (g := gName 5) (by rfl) sc_law_told_right.nd (pi_tup (pv 3)) (blkOk_by (own := [("_law_row", 5)]) (N := N_law_told_right) (sc := defScope JA.s_law_told_right) (by decide +kernel)) (fun _ _ _ _ _ => (pg_name (i := 5) sc_law_told_right.nd rfl (by first | exact Or.inl rfl | exact Or.inr rfl))) (fun _ _ _ _ _ => pts_nil) (fun _ _ _ _ _ => (pe_tup (pa_cons (pe_fldK (K := K) (by rfl) (pv 5) rfl) (pa_cons (pe_fldK (K := K) (by rfl) (pv 5) rfl) pa_nil))))) (pv 4) (nomark _)))))))), ?_⟩
    refine s_seq (s_asgV (e_call (ea_cons (e_op (e_var rfl) e_int (ro_ix rfl)) (ea_cons (e_op (e_var rfl) e_int (ro_ix rfl)) (ea_cons (e_var rfl) ea_nil))) ⟨a, b, s, rfl, ha, hb, h1, h8, hs, hs0, hs1, hpo, rfl⟩) ?_)
    refine s_seq (s_ifF (t_or (a := false) (b := false) (t_not (a := true) (t_B (e_call (ea_cons (e_var rfl) ea_nil) ⟨coupleM a b s, rfl, ok.sok, ok.canon, rfl⟩))) fun _ => t_test (e_op ((e_call (ea_cons (e_op (e_var rfl) e_int (ro_ix a0)) (ea_cons (e_op (e_var rfl) e_int (ro_ix a1)) (ea_cons (e_var rfl) ea_nil))) ⟨e1, e2, ns, ms, s, rfl, hn, ok.pn, hm, ok.pm, hs, hs0, hs1, ok.pre, rfl⟩).cast (by rw [ok.eq]; rfl)) (e_var rfl) ro_neS)) (s_next ?_))
    by_cases hz : a = 0 ∨ b = 0
    · refine s_seq (s_ifT (t_imp (t_or (t_test (e_op (e_op (e_var rfl) e_int (ro_ix rfl)) e_int ro_eq)) fun _ => t_test (e_op (e_op (e_var rfl) e_int (ro_ix rfl)) e_int ro_eq)) fun x e => e.trans ?_) ?_)
      · rw [← Bool.decide_or]
        exact decide_eq_true hz
      · exact s_retV e_bl rfl
    · refine s_seq (s_ifF (t_imp (t_or (t_test (e_op (e_op (e_var rfl) e_int (ro_ix rfl)) e_int ro_eq)) fun _ => t_test (e_op (e_op (e_var rfl) e_int (ro_ix rfl)) e_int ro_eq)) fun x e => e.trans ?_) (s_next ?_))
      · rw [← Bool.decide_or]
        exact decide_eq_false hz
      · obtain ⟨w1, w2, w3⟩ := ok.whole (fun z => hz (.inl z)) (fun z => hz (.inr z))
        have hl : lastD a b = .int (lastI a b) := if_neg hz
        refine s_seq (s_asgV (e_call (ea_cons ((e_lastw (e_op (e_var rfl) e_int (ro_ix rfl)) (e_op (e_var rfl) e_int (ro_ix rfl)) ha hb h1 h8).cast hl) (ea_cons (e_var rfl) ea_nil)) ⟨lastI a b, s, rfl, w2, w3, hs, rfl⟩) ?_)
        refine s_retV (Ev.cast (e_op (l_map (coupleM a b s) (strD K) endD (i_tup (e_var rfl)) (by have := ok.len; omega) fun r hr => ⟨_, g_name, ev_end T (e_var rfl) (e_var rfl)⟩).ev (e_var rfl) (ro_eqD (shp_ends _) (shp_ends _))) ?_) rfl
        rw [w1, eqv_refl_ends]
end
end JD
set_option maxHeartbeats 4000000
namespace JD
open PySem PySem.Spec PyProof.Rows L2
open C8 (Cal Mak)
/-! ### the law: eight bricks -/
theorem couple_row {ns ms : List Int} (hn : patL ns) (hm : patL ms) : coupleT (.tup [row ns, row ms]) := ⟨rfl, fun es h _ e he => by
  cases Option.some.inj h
  rcases List.mem_cons.mp he with rfl | he
  · exact flat_row (.inr rfl) (flat_ints ns)
  · rcases List.mem_singleton.mp he with rfl
    exact flat_row (.inr rfl) (flat_ints ms)⟩
theorem word_row {a b : Int} {ns ms : List Int} (hn : patL ns) (hm : patL ms) (c1 : cntI ns = (a, b)) (c2 : cntI ms = (a, b)) : wordD a b (.tup [row ns, row ms]) = .non := by
  have i1 : (row ns).items = some (ns.map D.int) := rfl
  have i2 : (row ms).items = some (ms.map D.int) := rfl
  show (if (patB (row ns) && patB (row ms)) = true then (if (decide (cntI (rowI (row ns)) = (a, b)) && decide (cntI (rowI (row ms)) = (a, b))) = true then D.non else .str "counts") else .str "pattern") = .non
  rw [patB_of i1 hn, patB_of i2 hm, rowI_of i1, rowI_of i2, c1, c2]
  simp
section
variable {P : Program} {w : World} {K : PySem.W.Frag} {mg : Str → Option Value} {base : Heap}

abbrev N_law_eight_right : List Str := ["_law_hand_here", "_law_shorts", "_law_longs", "_law_last", "_law_couple", "_law_share_here", "_law_told", "_law_row"]
theorem sc_law_eight_right : FnScope N_law_eight_right ["_law_hand_here"] (defScope JA.s_law_eight_right) := ⟨rfl, rfl, rfl, by decide +kernel, rfl, by decide +kernel, by decide +kernel⟩
def R_law_eight_right : List D → (D → Prop) → Prop := fun ds Φ => ds = [] ∧ Φ = fun d => d = .bl true
theorem c_law_eight_right (T : Tx K mg) : Cal P w K mg base 7 "_law_eight_right" (spH K R_law_eight_right) [] := by
  refine cal_H (T.glo 76) (T.says.1.def_ 76) sc_law_eight_right (fun ds d h => ?_) (fun _ _ _ _ _ _ us hl => match us, hl with | [_], _ => rfl) fun cdv A outer s H E hRm ds Φ h => ?_
  · obtain ⟨rfl, _⟩ := h
    rfl
  · obtain ⟨rfl, rfl⟩ := h
    refine ⟨_, (pss_cons (ps_set (i := 1) sc_law_eight_right.nd rfl (by first | exact Or.inl rfl | exact Or.inr rfl) (pe_op op_addX pe_int (C8.pe_c (c_law_draw T) hRm (by decide) (by rfl) (pa_cons (pv 0) (pa_cons pe_int pa_nil)))))
    (pss_cons (ps_set (i := 2) sc_law_eight_right.nd rfl (by first | exact Or.inl rfl | exact Or.inr rfl) (pe_op op_sub pe_int (pv 1)))
    (pss_cons (ps_set (i := 3) sc_law_eight_right.nd rfl (by first | exact Or.inl rfl | exact Or.inr rfl) (C8.pe_c (c_last_whole T) hRm (by decide) (by rfl) (pa_cons (pv 1) (pa_cons (pv 2) pa_nil))))
    (pss_cons (ps_if (PW.pt (pw_or (pt_not (pt_val (C8.pe_c (c_law_is_whole T) hRm (by decide) (by rfl) (pa_cons (pv 3) pa_nil)))) (pw_or (pt_cmpR (op_lt) (pe_op op_mulX (pe_op op_sub (pv 3) pe_int) (pv 2)) (pe_op op_sub (pv 1) pe_int) (nomark _)) (pw_or1 (pt_chain op_ge op_gt (pe_op op_mulX (pe_op op_sub (pv 3) pe_int) (pv 2)) (pe_op op_sub (pv 1) pe_int) pe_int))))) (pss_one (ps_ret pe_bl)) pss_nil)
    (pss_cons (ps_set (i := 4) sc_law_eight_right.nd rfl (by first | exact Or.inl rfl | exact Or.inr rfl) (C8.pe_c (c_best_couple T) hRm (by decide) (by rfl) (pa_cons (pv 1) (pa_cons (pv 2) pa_nil))))
    (pss_cons (ps_if (pt_cmpR op_notNX (C8.pe_c (c_law_couple_word T) hRm (by decide) (by rfl) (pa_cons (pe_tup (pa_cons (pv 1) (pa_cons (pv 2) pa_nil))) (pa_cons (pv 4) pa_nil))) pe_non (nomark _)) (pss_one (ps_ret pe_bl)) pss_nil)
    (pss_cons (ps_set (i := 5) sc_law_eight_right.nd rfl (by first | exact Or.inl rfl | exact Or.inr rfl) (C8.pe_c (c_law_share T) hRm (by decide) (by rfl) (pa_cons (pv 0) pa_nil)))
    (pss_cons (ps_set (i := 6) sc_law_eight_right.nd rfl (by first | exact Or.inl rfl | exact Or.inr rfl) (C8.pe_c (c_apart_stretches T) hRm (by decide) (by rfl) (pa_cons (pe_ix ix_seq (pv 4) pe_int (fun _ _ => rfl)) (pa_cons (pe_ix ix_seq (pv 4) pe_int (fun _ _ => rfl)) (pa_cons (pv 5) pa_nil)))))
    (pss_one (ps_ret (pe_cmpR (op_eqD hRm.units) (pe_lc (own := [("_law_row", 7)]) (g := gName 7) (by rfl) sc_law_eight_right.nd (pi_tup (pv 6)) (blkOk_by (own := [("_law_row", 7)]) (N := N_law_eight_right) (sc := defScope JA.s_law_eight_right) (by decide +kernel)) (fun _ _ _ _ _ => (pg_name (i := 7) sc_law_eight_right.nd rfl (by first | exact Or.inl rfl | exact Or.inr rfl))) (fun _ _ _ _ _ => pts_nil) (fun _ _ _ _ _ => (pe_tup (pa_cons (pe_fldK (K := K) (by rfl) (pv 7) rfl) (pa_cons (pe_fldK (K := K) (by rfl) (pv 7) rfl) pa_nil))))) (C8.pe_c (c_law_by_wholes T) hRm (by decide) (by rfl) (pa_cons (pv 3) (pa_cons (pv 5) pa_nil))) (nomark _)))))))))))), ?_⟩
    have szk : ∀ {k : Int}, -1000 ≤ k → k ≤ 1000 → Sz 20 k := fun a b => Sz.lit (by omega) (by decide)
    refine s_seq (s_asg (e_draw1 rfl e_int (by decide) (Sz.lit (by decide) (by decide))) fun d hd => ?_)
    obtain ⟨a, rfl, ha1, ha7⟩ := hd
    refine s_seq (s_asgV (e_op e_int (e_var rfl) ro_sub) ?_)
    generalize hb : 8 - a = b
    have hb1 : 1 ≤ b := by omega
    have h8 : a + b ≤ 8 := by omega
    obtain ⟨p1, p2, c1, c2, _⟩ := best_ok (a := a) (b := b) (by omega) (by omega) (by omega) h8
    obtain ⟨w1, w2, w3, w4⟩ := whole_ok (a := a) (b := b) (by omega) (by omega) (by omega) h8 (by omega) (by omega)
    have hlp := lastI_pos (a := a) (b := b) (by omega) (by omega)
    have hl : lastD a b = .int (lastI a b) := if_neg (by omega)
    refine s_seq (s_asgV ((e_lastw (e_var rfl) (e_var rfl) (by omega) (by omega) (by omega) h8).cast hl) ?_)
    refine s_seq (s_ifF (t_or (a := false) (b := false) (t_not (a := true) (t_B (e_lwhole (x := .int (lastI a b)) (e_var rfl) rfl))) fun _ => t_or (a := false) (b := false) (t_imp (t_test (e_op (e_op (e_op (e_var rfl) e_int ro_sub) (e_var rfl) (ro_mul ((szk (by omega) (by omega)).mono (by decide)) ((szk (by omega) (by omega)).mono (by decide)))) (e_op (e_var rfl) e_int ro_sub) ro_lt)) fun x e => e.trans (decide_eq_false w3)) fun _ => t_imp (t_test (e_chain (e_op (e_op (e_var rfl) e_int ro_sub) (e_var rfl) (ro_mul ((szk (by omega) (by omega)).mono (by decide)) ((szk (by omega) (by omega)).mono (by decide)))) (e_op (e_var rfl) e_int ro_sub) ro_ge (fun _ => e_int) (fun _ => ro_gt))) fun x e => e.trans ?_) (s_next ?_))
    · rw [← Bool.decide_and]
      exact decide_eq_false w4
    refine s_seq (s_asgV (e_call (ea_cons (e_var rfl) (ea_cons (e_var rfl) ea_nil)) ⟨a, b, rfl, by omega, by omega, by omega, h8, rfl⟩) ?_)
    refine s_seq (s_ifF (t_test (e_op (x := .non) ((e_cword (a := a) (b := b) (e_tup (ea_cons (e_var rfl) (ea_cons (e_var rfl) ea_nil)) (of_decide_eq_true rfl)) (e_var rfl) (couple_row p1 p2)).cast (word_row p1 p2 c1 c2)) e_non ro_notN)) (s_next ?_))
    refine s_seq (s_asg (e_callH rfl ea_nil ⟨rfl, rfl⟩) fun d hd => ?_)
    obtain ⟨s, rfl, hs, hs0, hs1⟩ := hd
    have a0 : (D.tup [row (bestM a b).1, row (bestM a b).2]).at 0 = some (row (bestM a b).1) := rfl
    have a1 : (D.tup [row (bestM a b).1, row (bestM a b).2]).at 1 = some (row (bestM a b).2) := rfl
    have eqa := best_apart (a := a) (b := b) (by omega) (by omega) (by omega) h8 (by omega) (by omega) hs hs0 hs1
    have sok := best_sok (a := a) (b := b) (by omega) (by omega) (by omega) h8 hs
    have pre := best_prefix (a := a) (b := b) (by omega) (by omega) (by omega) h8 hs0 hs1
    have hlen := pre _ (List.prefix_refl _)
    refine s_seq (s_asgV (e_call (ea_cons (e_op (e_var rfl) e_int (ro_ix a0)) (ea_cons (e_op (e_var rfl) e_int (ro_ix a1)) (ea_cons (e_var rfl) ea_nil))) ⟨_, _, (bestM a b).1, (bestM a b).2, s, rfl, rfl, p1, rfl, p2, hs, hs0, hs1, pre, rfl⟩) ?_)
    have hlen' : (apartM (bJ a b) (bK a b) s).length ≤ 200 := hlen
    refine s_retV (Ev.cast (e_op (l_map (apartM (bJ a b) (bK a b) s) (strD K) endD (i_tup (e_var rfl)) (by omega) fun r hr => ⟨_, g_name, ev_end T (e_var rfl) (e_var rfl)⟩).ev (e_call (ea_cons (e_var rfl) (ea_cons (e_var rfl) ea_nil)) ⟨lastI a b, s, rfl, by omega, w2, hs, rfl⟩) (ro_eqD (shp_ends _) (shp_ends _))) ?_) rfl
    rw [eqa, eqv_refl_ends]
end
end JD
set_option maxHeartbeats 4000000
namespace JD
open PySem PySem.Spec PyProof.Rows L2
open C8 (Cal Mak)
/-! ### the law: counts that are refused -/
theorem Takes.len {X : Cx} {W : WX} (t : Takes X W) : Takes X (fun c d σ H => σ.length = X.N.length → W c d σ H) := fun u s' ⟨a, B, sI, pins, σ, H, cls, d, e, I, nb, up, sky, na, os, ag, w⟩ =>
  t u s' ⟨a, B, sI, pins, σ, H, cls, d, e, I, nb, up, sky, na, os, ag, w I.len⟩
section
variable {K : PySem.W.Frag} {hd : Option Hd} {fr : Addr → Prop} {B0 H0 : Hp} {σ : L2.St} {Γ : List S}
theorem x_drop {n : Nat} {W : WX} {D : Ends} {C : Addr} {R : List JD.D → JD.D → Prop} {Rr : List JD.D → List (Str × JD.D) → Prop} {ta : TA} {ds : List JD.D} (S0 : Sx K hd fr B0 H0 σ Γ) (ha : Ea K ta Γ fun z => z = ds)
    (h : (∃ r, R ds r ∧ ∀ B' H', Go hd B0 H0 B' H' → D.nx σ H') ∨ (∃ gs, Rr ds gs ∧ ∀ B' H' dx fs, Go hd B0 H0 B' H' → H' dx = some (.xd fs) → RepF K B' fs gs → ∀ σ', σ'.length = n → W (.ref C) (some dx) σ' H')) :
    tDrop (tCall (spX K C R Rr) [] (fun cls d H => ∀ σ, σ.length = n → W cls d σ H) ta) D σ H0 :=
  ha hd fr B0 H0 σ _ S0 fun B1 H1 vs zs g1 r p => by
    subst p
    refine ⟨B1, _, by rw [List.append_nil]; exact r, g1.sub, ?_⟩
    rcases h with ⟨r, hr, k⟩ | ⟨gs, hg, k⟩
    · exact .inl ⟨r, hr, fun B' H' v g _ => k B' H' (g1.trans (g.up g1.hand))⟩
    · exact .inr ⟨gs, hg, fun B' H' dx fs g hx rf => k B' H' dx fs (g1.trans (g.up g1.hand)) hx rf⟩
end
section
variable {P : Program} {w : World} {K : PySem.W.Frag} {mg : Str → Option Value} {base : Heap}
abbrev N_law_door : List Str := ["_law_door_here", "_law_a_count", "_law_b_count", "_law_couple", "caught"]
theorem sc_law_door : FnScope N_law_door ["_law_door_here", "_law_a_count", "_law_b_count", "_law_couple"] (defScope JA.s_law_door) := ⟨rfl, rfl, rfl, by decide +kernel, rfl, by decide +kernel, by decide +kernel⟩
def R_law_door : List D → D → Prop := fun ds d => ∃ (k : Int) (xa xb x : D), ds = [.int k, xa, xb, x] ∧ (k = 0 ∨ k = 1 ∨ k = 2) ∧ xa.tyV.isSome = true ∧ xb.tyV.isSome = true ∧
  ((∃ a b : Int, xa = .int a ∧ xb = .int b ∧ 0 ≤ a ∧ 0 ≤ b ∧ 1 ≤ a + b ∧ a + b ≤ 8 ∧ profOk a b = true ∧ askOk a b = true ∧ coupleT x ∧ d = .non) ∨ ∃ wd, badC xa xb = some wd ∧ d = .str wd)
theorem c_law_door (T : Tx K mg) : Cal P w K mg base 13 "_law_door" (spV K R_law_door) [] := by
  refine cal_V (T.glo 77) (T.says.1.def_ 77) sc_law_door (fun ds d h => ?_) (fun _ _ _ _ _ _ us hl => match us, hl with | [_, _, _, _], _ => rfl) fun cdv A outer s H E hRm ds d h => ?_
  · obtain ⟨k, xa, xb, x, rfl, _⟩ := h
    rfl
  · obtain ⟨k, xa, xb, x, rfl, hk, ha, hb, hc⟩ := h
    refine ⟨_, pss_cons (ps_try_as (i := 4) (n := "caught") rfl rfl sc_law_door.nd rfl rfl ⟨by rfl, by decide, .inl (T.glo 83)⟩ takes_no
      (fun W pn xe tk po => pss_one (ps_if (pt_cmpR (op_eqDK (K := K) (by rfl) hRm.units) (pv 0) pe_int (nomark _)) (pss_one (ps_expr (pe_x (E := fun cls d H => ∀ σ, σ.length = 5 → W cls d σ H) (x_last_whole (K := K) T) hRm (by decide) (passes_call (Takes.len tk) fun cls d σ H h => h σ) (by rfl) (pa_cons (pv 1) (pa_cons (pv 2) pa_nil)))))
        (pss_one (ps_if (pt_cmpR (op_eqDK (K := K) (by rfl) hRm.units) (pv 0) pe_int (nomark _)) (pss_one (ps_expr (pe_x (E := fun cls d H => ∀ σ, σ.length = 5 → W cls d σ H) (x_best_couple (K := K) T) hRm (by decide) (passes_call (Takes.len tk) fun cls d σ H h => h σ) (by rfl) (pa_cons (pv 1) (pa_cons (pv 2) pa_nil)))))
          (pss_one (ps_expr (pe_x (E := fun cls d H => ∀ σ, σ.length = 5 → W cls d σ H) (x_best_fault (K := K) T) hRm (by decide) (passes_call (Takes.len tk) fun cls d σ H h => h σ) (by rfl) (pa_cons (pv 1) (pa_cons (pv 2) (pa_cons (pv 3) pa_nil))))))))))
      (fun a oe cls d pn hz hf => pss_one (ps_ret (pe_xf T.badC.xf (T.noat 124) hz hf (pv 4))))) (pss_one (ps_ret pe_non)), ?_⟩
    intro hd fr B0 H0 σ Dd S0 k1 k2 k3 k4
    -- the two ends
    have okE : d = .non → ∀ B' H', Go hd B0 H0 B' H' → Dd.rt .non H' := fun e B' H' g => k2 B' H' _ _ g.gs g.sub g.hand .non e.symm
    have bad : ∀ {wd : Str} {B' H' : Hp} {dx : Addr} {fs : List (Str × V)}, d = .str wd → Go hd B0 H0 B' H' → H' dx = some (.xd fs) → RepF K B' fs [(("what" : Str), D.str wd)] → ∃ v, fs.lookup ("what" : Str) = some v ∧ Dd.rt v H' := fun {wd B' H' dx fs} e g hx rf => by
      obtain ⟨v, hv, rv⟩ := rf.lookup (f := ("what" : Str)) (d := .str wd) rfl
      exact ⟨v, hv, k2 B' H' v _ g.gs g.sub g.hand rv e.symm⟩
    have exm : PySem.W.exmOne K (.ref (He.ga K "BadCounts")) (.ref (He.ga K "BadCounts")) = some true := He.exm_ok (T.says.1.fact 125 (f := .exm "BadCounts" "BadCounts" true))
    have fin : ∀ {R : List D → D → Prop} {Rr : List D → List (Str × D) → Prop} {ta : TA} {ds : List D} {B1 H1 : Hp}, Go hd B0 H0 B1 H1 → Ea K ta [.val (.int k), .val xa, .val xb, .val x, .no] (fun z => z = ds) →
        ((d = .non ∧ ∃ r, R ds r) ∨ ∃ wd, d = .str wd ∧ Rr ds [(("what" : Str), .str wd)]) →
        tDrop (tCall (spX K (He.ga K "BadCounts") R Rr) [] (fun cls d H => ∀ σ, σ.length = 5 → wAs K (.ref (He.ga K "BadCounts")) 4 (fun a cls d => tRet (tXf a cls d (He.ga K "BadCounts") "what" (tVar 4))) (fun _ _ _ _ => False) { Dd with nx := tRet (tC .non) Dd } cls d σ H) ta) { Dd with nx := tRet (tC .non) Dd } σ H1 := fun {R Rr ta ds B1 H1} g1 ha hcase => by
      refine x_drop (S0.go g1) ha ?_
      rcases hcase with ⟨e, r, hr⟩ | ⟨wd, e, hr⟩
      · exact .inl ⟨r, hr, fun B' H' g => okE e B' H' (g1.trans g)⟩
      · refine .inr ⟨_, hr, fun B' H' dx fs g hx rf σ' hl => ⟨true, exm, fun _ a na => ?_, fun z => by cases z⟩⟩
        obtain ⟨v, hv, kv⟩ := bad e (g1.trans g) hx rf
        exact ⟨.ref a, by rw [List.getElem?_set_self (by omega)], rfl, rfl, dx, fs, v, rfl, hx, hv, kv⟩
    have arg2 : Ea K (tCons (tVar 1) (tCons (tVar 2) tNil)) [.val (.int k), .val xa, .val xb, .val x, .no] (fun z => z = [xa, xb]) := ea_cons (e_var rfl) (ea_cons (e_var rfl) ea_nil)
    have arg3 : Ea K (tCons (tVar 1) (tCons (tVar 2) (tCons (tVar 3) tNil))) [.val (.int k), .val xa, .val xb, .val x, .no] (fun z => z = [xa, xb, x]) := ea_cons (e_var rfl) (ea_cons (e_var rfl) (ea_cons (e_var rfl) ea_nil))
    have test : ∀ {j : Int}, Et K (tTest (tOp (rEqD K) (tVar 0) (tC (.int j)))) [.val (.int k), .val xa, .val xb, .val x, .no] fun b => b = decide (k = j) := fun {j} => t_test (e_op (e_var rfl) e_int ro_eq)
    refine test hd fr B0 H0 σ _ S0 fun B1 H1 b g1 p => ?_
    subst p
    by_cases h0 : k = 0
    · refine iteT' (decide_eq_true h0) (fin g1 arg2 ?_)
      rcases hc with ⟨a, b, rfl, rfl, q1, q2, q3, q4, q5, q6, q7, e⟩ | ⟨wd, hbad, e⟩
      · exact .inl ⟨e, _, a, b, rfl, q1, q2, q3, q4, rfl⟩
      · exact .inr ⟨wd, e, xa, xb, wd, rfl, ha, hb, hbad, rfl⟩
    · refine iteF' (decide_eq_false h0) ?_
      refine test hd fr B1 H1 σ _ (S0.go g1) fun B2 H2 b g2 p => ?_
      subst p
      by_cases h1 : k = 1
      · refine iteT' (decide_eq_true h1) (fin (g1.trans g2) arg2 ?_)
        rcases hc with ⟨a, b, rfl, rfl, q1, q2, q3, q4, q5, q6, q7, e⟩ | ⟨wd, hbad, e⟩
        · exact .inl ⟨e, _, a, b, rfl, q1, q2, q3, q4, rfl⟩
        · exact .inr ⟨wd, e, xa, xb, wd, rfl, ha, hb, hbad, rfl⟩
      · refine iteF' (decide_eq_false h1) (fin (g1.trans g2) arg3 ?_)
        rcases hc with ⟨a, b, rfl, rfl, q1, q2, q3, q4, q5, q6, q7, e⟩ | ⟨wd, hbad, e⟩
        · exact .inl ⟨e, _, a, b, x, rfl, q1, q2, q3, q4, q5, q6, q7, rfl⟩
        · exact .inr ⟨wd, e, xa, xb, wd, x, rfl, ha, hb, hbad, rfl⟩
theorem e_door {Γ : List S} {tk ta tb tx : TE} {k : Int} {xa xb x d : D} {E : XK} (h0 : Ev K tk Γ (.int k)) (h1 : Ev K ta Γ xa) (h2 : Ev K tb Γ xb) (h3 : Ev K tx Γ x) (h : R_law_door [.int k, xa, xb, x] d) : Ev K (tCall (spV K R_law_door) [] E (tCons tk (tCons ta (tCons tb (tCons tx tNil))))) Γ d :=
  e_call (ea_cons h0 (ea_cons h1 (ea_cons h2 (ea_cons h3 ea_nil)))) h
end
end JD
set_option maxHeartbeats 4000000
namespace JD
open PySem PySem.Spec PyProof.Rows L2
open C8 (Cal Mak)
def BadP (d : D) : Prop := ∃ (x y : D) (wd : Str), d = .tup [x, y, .str wd] ∧ x.tyV.isSome = true ∧ y.tyV.isSome = true ∧ badC x y = some wd ∧ D.shp 50 (.str wd) = true
theorem eqv_str (x : Str) : PyData.eqv (D.py (.str x)) (D.py (.str x)) = true := by
  rw [D.py, PyData.eqv]
  simp
section
variable {P : Program} {w : World} {K : PySem.W.Frag} {mg : Str → Option Value} {base : Heap}
abbrev N_law_refused : List Str := ["_law_hand_here", "_law_counts_here", "_law_couple", "_law_pool", "_law_bad", "_law_door_here"]
theorem sc_law_refused : FnScope N_law_refused ["_law_hand_here", "_law_counts_here", "_law_couple"] (defScope JA.s_law_refused) := ⟨rfl, rfl, rfl, by decide +kernel, rfl, by decide +kernel, by decide +kernel⟩
def R_law_refused : List D → (D → Prop) → Prop := fun ds Φ => ∃ (a b : Int) (x : D), ds = [pairD (a, b), x] ∧ 0 ≤ a ∧ 0 ≤ b ∧ 1 ≤ a + b ∧ a + b ≤ 8 ∧ profOk a b = true ∧ askOk a b = true ∧ coupleT x ∧ Φ = fun d => d = .bl true
theorem c_law_refused (T : Tx K mg) : Cal P w K mg base 14 "_law_refused" (spH K R_law_refused) [] := by
  refine cal_H (T.glo 78) (T.says.1.def_ 78) sc_law_refused (fun ds d h => ?_) (fun _ _ _ _ _ _ us hl => match us, hl with | [_, _, _], _ => rfl) fun cdv A outer s H E hRm ds Φ h => ?_
  · obtain ⟨a, b, x, rfl, _⟩ := h
    rfl
  · obtain ⟨a, b, x, rfl, q1, q2, q3, q4, q5, q6, q7, rfl⟩ := h
    refine ⟨_, (pss_cons (ps_set (i := 3) sc_law_refused.nd rfl (by first | exact Or.inl rfl | exact Or.inr rfl) (pe_lst (pa_cons (pe_tup (pa_cons pe_int (pa_cons pe_int (pa_cons pe_str pa_nil)))) (pa_cons (pe_tup (pa_cons (pe_un un_neg pe_int) (pa_cons pe_int (pa_cons pe_str pa_nil)))) (pa_cons (pe_tup (pa_cons pe_bl (pa_cons pe_int (pa_cons pe_str pa_nil)))) (pa_cons (pe_tup (pa_cons pe_non (pa_cons pe_int (pa_cons pe_str pa_nil)))) (pa_cons (pe_tup (pa_cons pe_int (pa_cons pe_int (pa_cons pe_str pa_nil)))) (pa_cons (pe_tup (pa_cons pe_int (pa_cons pe_non (pa_cons pe_str pa_nil)))) (pa_cons (pe_tup (pa_cons pe_int (pa_cons pe_int (pa_cons pe_str pa_nil)))) (pa_cons (pe_tup (pa_cons pe_int (pa_cons pe_int (pa_cons pe_str pa_nil)))) pa_nil))))))))))
    (pss_cons (ps_set (i := 4) sc_law_refused.nd rfl (by first | exact Or.inl rfl | exact Or.inr rfl) (C8.pe_c (c_law_pick T) hRm (by decide) (by rfl) (pa_cons (pv 0) (pa_cons (pv 3) pa_nil))))
    (pss_cons (ps_for PassesOwn.never rfl (pi_range1 (by rfl) (T.free 100) (pa_cons pe_int pa_nil)) (pg_name (i := 5) sc_law_refused.nd rfl (by first | exact Or.inl rfl | exact Or.inr rfl)) (pss_cons (ps_if (pt_cmpR (op_neD hRm.units) (C8.pe_c (c_law_door T) hRm (by decide) (by rfl) (pa_cons (pv 5) (pa_cons (pe_ix ix_seq (pv 4) pe_int (fun _ _ => rfl)) (pa_cons (pe_ix ix_seq (pv 4) pe_int (fun _ _ => rfl)) (pa_cons (C8.pe_c (c_law_pick T) hRm (by decide) (by rfl) (pa_cons (pv 0) (pa_cons (pe_lst (pa_cons (pv 2) (pa_cons pe_non pa_nil))) pa_nil))) pa_nil))))) (pe_ix ix_seq (pv 4) pe_int (fun _ _ => rfl)) (nomark _)) (pss_one (ps_ret pe_bl)) pss_nil)
    (pss_one (ps_if (pt_cmpR op_notNX (C8.pe_c (c_law_door T) hRm (by decide) (by rfl) (pa_cons (pv 5) (pa_cons (pe_ix ix_seq (pv 1) pe_int (fun _ _ => rfl)) (pa_cons (pe_ix ix_seq (pv 1) pe_int (fun _ _ => rfl)) (pa_cons (pv 2) pa_nil))))) pe_non (nomark _)) (pss_one (ps_ret pe_bl)) pss_nil))))
    (pss_one (ps_ret pe_bl))))), ?_⟩
    have e3 : ∀ {Γ : List S} {ta tb tc : TE} {x y z : D}, Ev K ta Γ x → Ev K tb Γ y → Ev K tc Γ z → Ev K (tTup (tCons ta (tCons tb (tCons tc tNil)))) Γ (.tup [x, y, z]) := fun h1 h2 h3 => e_tup (ea_cons h1 (ea_cons h2 (ea_cons h3 ea_nil))) (of_decide_eq_true rfl)
    refine s_seq (s_asgV (e_lst (ea_cons (e3 e_int e_int e_str) (ea_cons (e3 (e_un e_int ru_neg) e_int e_str) (ea_cons (e3 e_bl e_int e_str) (ea_cons (e3 e_non e_int e_str) (ea_cons (e3 e_int e_int e_str) (ea_cons (e3 e_int e_non e_str) (ea_cons (e3 e_int e_int e_str) (ea_cons (e3 e_int e_int e_str) ea_nil)))))))) (of_decide_eq_true rfl)) ?_)
    refine s_seq (s_asg (e_imp (Φ' := BadP) (e_pick rfl (e_var rfl) rfl (by simp) (by simp)) fun d hd => ?_) fun d hd => ?_)
    · simp only [List.mem_cons, List.not_mem_nil, or_false] at hd
      rcases hd with rfl | rfl | rfl | rfl | rfl | rfl | rfl | rfl <;> exact ⟨_, _, _, rfl, rfl, rfl, rfl, by rw [D.shp]; decide +kernel⟩
    obtain ⟨xa, xb, wd, rfl, ta, tb, hbad, hshp⟩ := hd
    generalize hpool : D.lst _ = pool
    refine s_mid (fun Γ => True) ?_ fun Γ' hΓ => s_retV e_bl rfl
    refine s_forL (vs := [5]) (List.range 3) (fun (i : Nat) => D.int (i : Int)) (fun pre Γ => ∃ u, Γ = [.hand, .val (pairD (a, b)), .val x, .val pool, .val (.tup [xa, xb, .str wd]), u]) (by rw [← dints0]; exact i_rng1 (ea_cons e_int ea_nil) (by decide)) ⟨.no, rfl⟩ (fun pre i post Γ1 e iv => ⟨_, g_name, ?_⟩) fun Γ1 iv => trivial
    obtain ⟨u, rfl⟩ := iv
    have hi : (i : Int) = 0 ∨ (i : Int) = 1 ∨ (i : Int) = 2 := by
      have : i ∈ List.range 3 := by rw [e]; simp
      have := List.mem_range.mp this
      omega
    have epk : ∀ {Γ : List S} {E : XK}, Γ[0]? = some .hand → Γ[2]? = some (.val x) → Ee K (tCall (spH K R_law_pick) [] E (tCons (tVar 0) (tCons (tLst (tCons (tVar 2) (tCons (tC .non) tNil))) tNil))) Γ fun d => d ∈ [x, .non] := fun h0 h2 => e_pick h0 (e_lst (ea_cons (e_var h2) (ea_cons e_non ea_nil)) (of_decide_eq_true rfl)) rfl (by simp) (by simp)
    have ed1 : ∀ {Γ : List S} {E E' : XK}, Γ[0]? = some .hand → Γ[2]? = some (.val x) → Γ[4]? = some (.val (.tup [xa, xb, .str wd])) → Γ[5]? = some (.val (.int i)) →
        Ev K (tCall (spV K R_law_door) [] E (tCons (tVar 5) (tCons (tOp (rIx K) (tVar 4) (tC (.int 0))) (tCons (tOp (rIx K) (tVar 4) (tC (.int 1))) (tCons (tCall (spH K R_law_pick) [] E' (tCons (tVar 0) (tCons (tLst (tCons (tVar 2) (tCons (tC .non) tNil))) tNil))) tNil))))) Γ (.str wd) := fun h0 h2 h4 h5 =>
      e_callE (dds := []) (ea_cons2 (Φa := fun d => d = .int i) (Φb := fun _ zs => ∃ z, zs = [xa, xb, z]) (e_var h5) fun _ _ => fun hd fr B H σ Q S0 k => ea_cons2 (Φa := fun d => d = xa) (Φb := fun _ zs => ∃ z, zs = [xb, z]) (e_op (e_var h4) e_int (ro_ix rfl)) (fun _ _ => fun hd fr B H σ Q S0 k => ea_cons2 (Φa := fun d => d = xb) (Φb := fun _ zs => ∃ z, zs = [z]) (e_op (e_var h4) e_int (ro_ix rfl)) (fun _ _ => fun hd fr B H σ Q S0 k => ea_cons2 (Φb := fun _ zs => zs = []) (epk h0 h2) (fun _ _ => ea_nil) hd fr B H σ Q S0 fun B' H' vs zs g r p => k B' H' vs zs g r (by obtain ⟨y, ys, rfl, _, rfl⟩ := p; exact ⟨y, rfl⟩)) hd fr B H σ Q S0 fun B' H' vs zs g r p => k B' H' vs zs g r (by obtain ⟨y, ys, rfl, rfl, z, rfl⟩ := p; exact ⟨z, rfl⟩)) hd fr B H σ Q S0 fun B' H' vs zs g r p => k B' H' vs zs g r (by obtain ⟨y, ys, rfl, rfl, z, rfl⟩ := p; exact ⟨z, rfl⟩)) (fun _ => .nil) fun zs p => by
        obtain ⟨y, ys, rfl, rfl, z, rfl⟩ := p
        exact ⟨.str wd, ⟨i, xa, xb, z, rfl, hi, ta, tb, .inr ⟨wd, hbad, rfl⟩⟩, rfl⟩
    refine s_seq (s_ifF (t_imp (t_test (e_op (ed1 rfl rfl rfl rfl) (e_op (e_var rfl) e_int (ro_ix rfl)) (ro_neD (x := .str wd) (y := .str wd) hshp hshp))) fun b eb => eb.trans ?_) (s_next ?_))
    · rw [eqv_str]
      rfl
    refine s_ifF (t_test (e_op (x := .non) (e_door (e_var rfl) (e_op (e_var rfl) e_int (ro_ix rfl)) (e_op (e_var rfl) e_int (ro_ix rfl)) (e_var rfl) ⟨i, .int a, .int b, x, rfl, hi, rfl, rfl, .inl ⟨a, b, rfl, rfl, q1, q2, q3, q4, q5, q6, q7, rfl⟩⟩) e_non ro_notN)) (s_next ⟨_, Le.refl _, _, rfl⟩)
end
end JD
set_option maxHeartbeats 0
namespace JD
/-! ### the finite looks -/
def ptsB (a b : Int) : Bool := (equalAt a b).all smallR && (decide ((equalAt a b).length ≤ 1000) && (decide ((pointsM (equalAt a b) 1).length ≤ 90000) && (pointsM (equalAt a b) 1).all smallR))
def chk7 (a b : Int) : Bool := profOk a b && (askOk a b && (ascB a b && (ptsB a b && (freeB a b && (lastC a b && (boxB a b && (bestC a b && shapeB a b)))))))
theorem k_0_1 : chk7 0 1 = true := by decide +kernel
theorem k_1_0 : chk7 1 0 = true := by decide +kernel
theorem k_0_2 : chk7 0 2 = true := by decide +kernel
theorem k_1_1 : chk7 1 1 = true := by decide +kernel
theorem k_2_0 : chk7 2 0 = true := by decide +kernel
theorem k_0_3 : chk7 0 3 = true := by decide +kernel
theorem k_1_2 : chk7 1 2 = true := by decide +kernel
theorem k_2_1 : chk7 2 1 = true := by decide +kernel
theorem k_3_0 : chk7 3 0 = true := by decide +kernel
theorem k_0_4 : chk7 0 4 = true := by decide +kernel
theorem k_1_3 : chk7 1 3 = true := by decide +kernel
theorem k_2_2 : chk7 2 2 = true := by decide +kernel
theorem k_3_1 : chk7 3 1 = true := by decide +kernel
theorem k_4_0 : chk7 4 0 = true := by decide +kernel
theorem k_0_5 : chk7 0 5 = true := by decide +kernel
theorem k_1_4 : chk7 1 4 = true := by decide +kernel
theorem k_2_3 : chk7 2 3 = true := by decide +kernel
theorem k_3_2 : chk7 3 2 = true := by decide +kernel
theorem k_4_1 : chk7 4 1 = true := by decide +kernel
theorem k_5_0 : chk7 5 0 = true := by decide +kernel
theorem k_0_6 : chk7 0 6 = true := by decide +kernel
theorem k_1_5 : chk7 1 5 = true := by decide +kernel
theorem k_2_4 : chk7 2 4 = true := by decide +kernel
theorem k_3_3 : chk7 3 3 = true := by decide +kernel
theorem k_4_2 : chk7 4 2 = true := by decide +kernel
theorem k_5_1 : chk7 5 1 = true := by decide +kernel
theorem k_6_0 : chk7 6 0 = true := by decide +kernel
theorem k_0_7 : chk7 0 7 = true := by decide +kernel
theorem k_1_6 : chk7 1 6 = true := by decide +kernel
theorem k_2_5 : chk7 2 5 = true := by decide +kernel
theorem k_3_4 : chk7 3 4 = true := by decide +kernel
theorem k_4_3 : chk7 4 3 = true := by decide +kernel
theorem k_5_2 : chk7 5 2 = true := by decide +kernel
theorem k_6_1 : chk7 6 1 = true := by decide +kernel
theorem k_7_0 : chk7 7 0 = true := by decide +kernel
theorem chk_ok {a b : Int} (ha : 0 ≤ a) (hb : 0 ≤ b) (h1 : 1 ≤ a + b) (h7 : a + b ≤ 7) : chk7 a b = true := by
  have h : a = 0 ∨ a = 1 ∨ a = 2 ∨ a = 3 ∨ a = 4 ∨ a = 5 ∨ a = 6 ∨ a = 7 := by omega
  rcases h with rfl | rfl | rfl | rfl | rfl | rfl | rfl | rfl
  · have h : b = 1 ∨ b = 2 ∨ b = 3 ∨ b = 4 ∨ b = 5 ∨ b = 6 ∨ b = 7 := by omega
    rcases h with rfl | rfl | rfl | rfl | rfl | rfl | rfl
    · exact k_0_1
    · exact k_0_2
    · exact k_0_3
    · exact k_0_4
    · exact k_0_5
    · exact k_0_6
    · exact k_0_7
  · have h : b = 0 ∨ b = 1 ∨ b = 2 ∨ b = 3 ∨ b = 4 ∨ b = 5 ∨ b = 6 := by omega
    rcases h with rfl | rfl | rfl | rfl | rfl | rfl | rfl
    · exact k_1_0
    · exact k_1_1
    · exact k_1_2
    · exact k_1_3
    · exact k_1_4
    · exact k_1_5
    · exact k_1_6
  · have h : b = 0 ∨ b = 1 ∨ b = 2 ∨ b = 3 ∨ b = 4 ∨ b = 5 := by omega
    rcases h with rfl | rfl | rfl | rfl | rfl | rfl
    · exact k_2_0
    · exact k_2_1
    · exact k_2_2
    · exact k_2_3
    · exact k_2_4
    · exact k_2_5
  · have h : b = 0 ∨ b = 1 ∨ b = 2 ∨ b = 3 ∨ b = 4 := by omega
    rcases h with rfl | rfl | rfl | rfl | rfl
    · exact k_3_0
    · exact k_3_1
    · exact k_3_2
    · exact k_3_3
    · exact k_3_4
  · have h : b = 0 ∨ b = 1 ∨ b = 2 ∨ b = 3 := by omega
    rcases h with rfl | rfl | rfl | rfl
    · exact k_4_0
    · exact k_4_1
    · exact k_4_2
    · exact k_4_3
  · have h : b = 0 ∨ b = 1 ∨ b = 2 := by omega
    rcases h with rfl | rfl | rfl
    · exact k_5_0
    · exact k_5_1
    · exact k_5_2
  · have h : b = 0 ∨ b = 1 := by omega
    rcases h with rfl | rfl
    · exact k_6_0
    · exact k_6_1
  · have h : b = 0 := by omega
    subst h
    exact k_7_0
end JD
set_option maxHeartbeats 4000000
namespace JD
open PySem PySem.Spec PyProof.Rows L2
/-! ### up to seven bricks: all that the law asks -/
section
variable {a b : Int} (ha : 0 ≤ a) (hb : 0 ≤ b) (h1 : 1 ≤ a + b) (h7 : a + b ≤ 7)
include ha hb h1 h7
theorem chk_all : profOk a b = true ∧ askOk a b = true ∧ ascB a b = true ∧ ptsB a b = true ∧ freeB a b = true ∧ lastC a b = true ∧ boxB a b = true ∧ bestC a b = true ∧ shapeB a b = true := by
  have t := chk_ok ha hb h1 h7
  unfold chk7 at t
  simp only [Bool.and_eq_true] at t
  exact t
theorem free7 : lpM a b ≠ [] ∧ freeOk (lawFree a b) ∧ ∀ c ∈ lawFree a b, patL c.1 ∧ patL c.2.1 := by
  obtain ⟨_, _, _, _, t, _⟩ := chk_all ha hb h1 h7
  unfold freeB at t
  simp only [Bool.and_eq_true, decide_eq_true_eq, List.all_eq_true, Bool.not_eq_true'] at t
  obtain ⟨⟨t1, t2⟩, t3⟩ := t
  refine ⟨t1, ⟨t2, fun c hc => ?_⟩, fun c hc => ?_⟩
  · obtain ⟨⟨⟨⟨q1, q2⟩, q3⟩, q4⟩, q5⟩ := t3 c hc
    refine ⟨fun z => ?_, q2, fun p hp => q3 p hp⟩
    rw [z] at q1
    cases q1
  · obtain ⟨⟨⟨⟨q1, q2⟩, q3⟩, q4⟩, q5⟩ := t3 c hc
    exact ⟨patC_ok q4, patC_ok q5⟩
theorem pts7 : (∀ r ∈ equalAt a b, Sr 20 r) ∧ (equalAt a b).length ≤ 1000 ∧ (∀ r ∈ pointsM (equalAt a b) 1, Sr 20 r) ∧ (pointsM (equalAt a b) 1).length ≤ 90000 ∧ ∀ p ∈ lawPts a b, Sr 3000 p.1 := by
  obtain ⟨_, _, _, t, _⟩ := chk_all ha hb h1 h7
  unfold ptsB at t
  simp only [Bool.and_eq_true, decide_eq_true_eq, List.all_eq_true] at t
  obtain ⟨t1, t2, t4, t3⟩ := t
  refine ⟨fun r hr => small_sr (t1 r hr), t2, fun r hr => small_sr (t3 r hr), t4, fun p hp => ?_⟩
  unfold lawPts at hp
  obtain ⟨r, hr, rfl⟩ := List.mem_map.mp hp
  exact (small_sr (t3 r hr)).mono (by decide)
theorem last7 (a0 : a ≠ 0) (b0 : b ≠ 0) : ownLast (lawFree a b) (equalAt a b) = lastI a b := by
  obtain ⟨_, _, _, _, _, t, _⟩ := chk_all ha hb h1 h7
  unfold lastC at t
  simpa [a0, b0] using t
theorem fault7 (x : D) : faultD a b x = lawWord a b (lawPts a b) x := by
  obtain ⟨_, _, _, _, _, _, t, _⟩ := chk_all ha hb h1 h7
  exact fault_eq t x
theorem isbest7 : isBest (rsteps (bestM a b).1 (bestM a b).2) (lawPts a b) = true := by
  obtain ⟨_, _, _, _, _, _, _, t, _⟩ := chk_all ha hb h1 h7
  unfold bestC at t
  rw [best_pairs]
  intro e he
  have := List.all_eq_true.mp t e he
  simpa using this
/-- the couple told is never spoken against -/
theorem word7 {x e1 e2 : D} (hx : x.items = some [e1, e2]) (i1 : e1.items = some ((bestM a b).1.map D.int)) (i2 : e2.items = some ((bestM a b).2.map D.int)) : lawWord a b (lawPts a b) x = .non := by
  obtain ⟨p1, p2, c1, c2, _⟩ := best_ok ha hb h1 (by omega)
  unfold lawWord
  rw [hx]
  show (if (patB e1 && patB e2) = true then _ else _) = D.non
  rw [patB_of i1 p1, patB_of i2 p2, rowI_of i1, rowI_of i2, c1, c2, isbest7 ha hb h1 h7]
  simp
theorem prof7 : profOk a b = true ∧ askOk a b = true ∧ ascOk (eqFound a b) = true := by
  obtain ⟨t1, t2, t3, _⟩ := chk_all ha hb h1 h7
  exact ⟨t1, t2, t3⟩
theorem couple7 {s : Rat} (hs : Sr 120 s) : (∀ x ∈ coupleM a b s, SOk 3000 x) ∧ (coupleM a b s).length ≤ 1000 := by
  have t := (prof7 ha hb h1 h7).1
  unfold profOk at t
  simp only [Bool.and_eq_true, List.all_eq_true, decide_eq_true_eq] at t
  obtain ⟨⟨_, t2⟩, t3⟩ := t
  unfold coupleM
  split
  · refine ⟨fun x hx => ?_, by simp⟩
    rcases List.mem_singleton.mp hx with rfl
    exact ⟨sr_one, Rat.le_refl, fun _ e => by cases e⟩
  · obtain ⟨k1, k2⟩ := couple_pre hs (profileM a b) [] (fun p hp => pieceB_ok (t2 p hp)) (fun _ e => by cases e)
    refine ⟨k1, ?_⟩
    have k2' : ((profileM a b).foldl (fun k p => eitherM k (pieceM p s)) []).length ≤ 0 + (profileM a b).length := k2
    omega
theorem told7 {s : Rat} (hs : Sr 120 s) (h0 : 0 < s) (hs1 : s ≤ 1) : ToldOk a b (bestM a b).1 (bestM a b).2 s := by
  have h8 : a + b ≤ 8 := by omega
  obtain ⟨p1, p2, c1, c2, _⟩ := best_ok ha hb h1 h8
  obtain ⟨k1, k2⟩ := couple7 ha hb h1 h7 hs
  obtain ⟨_, _, _, _, _, _, _, _, t⟩ := chk_all ha hb h1 h7
  have sok := best_sok ha hb h1 h8 hs
  have key : apartM (bJ a b) (bK a b) s = coupleM a b s ∧ Canon (coupleM a b s) ∧ (a ≠ 0 → b ≠ 0 → coupleM a b s = byWholes (lastI a b) s) := by
    by_cases hn : a + b = 1
    · have ec : coupleM a b s = [(1, none)] := by unfold coupleM; rw [if_pos hn]
      have l1 : (bestM a b).1.length = 1 := by
        have n1 : ((bestM a b).1.length : Int) - (bestM a b).1.sum = a := congrArg (·.1) c1
        have n2 : (bestM a b).1.sum = b := congrArg (·.2) c1
        omega
      have ej : bJ a b = [] := joints_one l1
      refine ⟨?_, by rw [ec]; exact canon_one _, fun a0 b0 => by omega⟩
      rw [ec, ej]
      rfl
    · unfold shapeB at t
      rw [if_neg hn] at t
      by_cases hz : a = 0 ∨ b = 0
      · rw [if_pos hz] at t
        have tc : chainOk 1 (profileM a b) = true := by
          unfold zeroOk at t
          simp only [Bool.and_eq_true] at t
          exact t.1.1
        exact ⟨couple_zero hn t h0 hs1 (fun x hx => (k1 x hx).w) (fun x hx => (sok x hx).w), (couple_in hn tc).1, fun a0 b0 => (hz.elim a0 b0).elim⟩
      · rw [if_neg hz] at t
        have tc : chainOk 1 (profileM a b) = true := by
          unfold profW at t
          simp only [Bool.and_eq_true] at t
          exact t.1.2
        have ew := couple_wholes hn t h0 hs1 fun x hx => (k1 x hx).w
        exact ⟨(best_apart ha hb h1 h8 (fun z => hz (.inl z)) (fun z => hz (.inr z)) hs h0 hs1).trans ew.symm, (couple_in hn tc).1, fun _ _ => ew⟩
  refine ⟨p1, p2, best_prefix ha hb h1 h8 h0 hs1, key.1, key.2.1, k1, k2, fun a0 b0 => ⟨key.2.2 a0 b0, ?_, (whole_ok ha hb h1 h8 a0 b0).2.1⟩⟩
  have := lastI_pos (a := a) (b := b) (by omega) (by omega)
  omega
end
theorem word_kind (a b : Int) (pts : List Pt) (x : D) : lawWord a b pts x = .non ∨ lawWord a b pts x = .str "many" ∨ lawWord a b pts x = .str "pattern" ∨ lawWord a b pts x = .str "counts" ∨ lawWord a b pts x = .str "worse" := by
  unfold lawWord
  split
  · split
    · split
      · split
        · exact .inl rfl
        · exact .inr (.inr (.inr (.inr rfl)))
      · exact .inr (.inr (.inr (.inl rfl)))
    · exact .inr (.inr (.inl rfl))
  · exact .inr (.inl rfl)
theorem word_eq (a b : Int) (pts : List Pt) (x : D) : D.shp 50 (lawWord a b pts x) = true ∧ PyData.eqv (lawWord a b pts x).py (lawWord a b pts x).py = true := by
  rcases word_kind a b pts x with h | h | h | h | h <;> rw [h]
  · exact ⟨by simp [D.shp], by simp [D.py, PyData.eqv]⟩
  all_goals exact ⟨by rw [D.shp]; decide +kernel, eqv_str _⟩
end JD
set_option maxHeartbeats 4000000
namespace JD
open PySem PySem.Spec PyProof.Rows L2
open C8 (Cal Mak)
/-! ### the law -/
section
variable {K : PySem.W.Frag} {Γ : List S} {ta tb te : TE} {tc : TT} {ts : TA} {E : XK} {Φ Φ' : D → Prop}
theorem e_callHE2 {i : Nat} {R : List D → (D → Prop) → Prop} {Φa : List D → Prop} (ei : Γ[i]? = some .hand) (ha : Ea K ts Γ Φa) (h : ∀ ds, Φa ds → ∃ Φ, R ds Φ ∧ ∀ d, Φ d → Φ' d) : Ee K (tCall (spH K R) [] E (tCons (tVar i) ts)) Γ Φ' := fun hd fr B H σ Q S0 k => by
  obtain ⟨h0, eh, es⟩ := S0.slot i _ ei
  subst eh
  refine ⟨.ref h0.l, es, ha _ fr B H σ _ S0 fun B1 H1 vs ds g r p => ?_⟩
  obtain ⟨Φ, hR, hi⟩ := h ds p
  exact ⟨h0, B1, vs, ds, Φ, hR, by rw [List.append_nil], r, g.sub, g.hand, fun B2 H2 v d g2 r2 p2 => k B2 H2 v d (g.trans g2) r2 (hi d p2)⟩
theorem e_if2 {Ψ : Bool → Prop} (h : Et K tc Γ Ψ) (h1 : Ee K ta Γ Φ) (h2 : Ee K tb Γ Φ) : Ee K (tIf tc ta tb) Γ Φ := fun hd fr B H σ Q S0 k =>
  h hd fr B H σ _ S0 fun B1 H1 b g p => by
    cases b with
    | true => exact iteT (h1 hd fr B1 H1 σ Q (S0.go g) fun B2 H2 v d g2 r2 p2 => k B2 H2 v d (g.trans g2) r2 p2)
    | false => exact iteF (h2 hd fr B1 H1 σ Q (S0.go g) fun B2 H2 v d g2 r2 p2 => k B2 H2 v d (g.trans g2) r2 p2)
theorem es_all {hd : Option Hd} {fr : Addr → Prop} {B H : Hp} {σ : L2.St} {Dd : Ends} {ts : TS} {Ψ : D → Prop} (h : Es K ts Γ ⟨fun _ => False, Ψ, fun _ => False, fun _ => False⟩) (S0 : Sx K hd fr B H σ Γ)
    (k : ∀ B' H' v d, Gs hd fr B H B' H' → Same B' H' → Rep K B' v d → Ψ d → Dd.rt v H') : ts Dd σ H :=
  h hd fr B H σ Dd S0 (fun _ _ _ _ _ _ z => z.elim) (fun B' H' v d g s' _ rv e => k B' H' v d g s' rv e) (fun _ _ _ _ _ _ z => z.elim) (fun _ _ _ _ _ _ z => z.elim)
theorem t_hand {fr : Addr → Prop} {B H : Hp} {σ : L2.St} {Dd : Ends} {tu : TS} {i j : Nat} {ns : List Int} (S0 : Sx K none fr B H σ Γ) (ei : Γ[i]? = some (.val (.scr ns))) (hns : ns.length ≤ 63)
    (k : ∀ B2 H2 h, Go none B H B2 H2 → HdOk (some h) B2 H2 → tu Dd (σ.set j (some (.ref h.l))) H2) : tSeq (tAsg (tCall (spHand K) [] E (tCons (tVar i) tNil)) (gName j)) tu Dd σ H := by
  have h1 := ea_cons (K := K) (e_var ei) ea_nil none fr B H σ (fun vs H1 => spHand K (vs ++ []) H1 (fun v H2 => gName j v σ H2 fun σ' H' => tu Dd σ' H') E) S0 fun B1 H1 vs zs g1 r p => by
    subst p
    exact ⟨B1, ns, by rw [List.append_nil]; exact r, g1.sub, hns, fun B2 H2 h g2 hh hn => k B2 H2 h (g1.trans g2) hh⟩
  exact h1
/-- a draw == a number: some truth -/
theorem t_draw {i : Nat} {m k : Int} (hi : Γ[i]? = some .hand) (hm : 0 < m) (hs : Sz 8999 m) : Et K (tTest (tOp (rEqD K) (tCall (spH K R_law_draw) [] E (tCons (tVar i) (tCons (tC (.int m)) tNil))) (tC (.int k)))) Γ fun _ => True :=
  t_test2 (e_op2 (e_draw hi e_int hm hs) (fun _ _ => e_int) fun x y hx hy => by
    obtain ⟨j, rfl, _⟩ := hx
    subst hy
    exact fun B H v w Q s r1 r2 q => ro_eq B H v w Q s r1 r2 fun B' H' u z g r e => q B' H' u z g r ⟨_, e, trivial⟩)
theorem e_slE {r : V → Option Int → Option Int → Hp → VK → Prop} {tl th : TO} {lo hi : Option Int} (h : Ee K te Γ Φ) (h1 : Eo K tl Γ lo) (h2 : Eo K th Γ hi) (hr : ∀ x, Φ x → RoS K r x lo hi Φ') : Ee K (tSl r te tl th) Γ Φ' := fun hd fr B H σ Q S0 k =>
  h hd fr B H σ _ S0 fun B1 H1 v x' g1 r1 p1 => h1 hd fr B1 H1 σ _ (S0.go g1) fun B2 H2 g2 => h2 hd fr B2 H2 σ _ (S0.go (g1.trans g2)) fun B3 H3 g3 => by
    exact hr x' p1 B3 H3 v Q g3.sub (r1.mono (g2.ext.trans g3.ext)) fun B4 H4 u z g4 r4 p4 => k B4 H4 u z (((g1.trans g2).trans g3).trans (g4.up g3.hand)) r4 p4
end
section
variable {P : Program} {w : World} {K : PySem.W.Frag} {mg : Str → Option Value} {base : Heap}
def spLaw (K : PySem.W.Frag) : Sp := fun vs H Q _ => ∃ (a : Addr) (ns : List Int), vs = [.ref a] ∧ SqL K H a (ns.map V.int) ∧ ns.length ≤ 63 ∧ ∀ H', Q (.bl true) H'

abbrev N_law : List Str := ["_law_script", "_law_hand_here", "_law_counts_here", "_law_free_here", "_law_borders", "_law_points_here", "_law_last", "_law_couple", "_law_turn", "_law_wrong", "_law_ratio_here"]
theorem sc_law : FnScope N_law ["_law_script"] (defScope JA.s_law) := ⟨rfl, rfl, rfl, by decide +kernel, rfl, by decide +kernel, by decide +kernel⟩
/-- from the counts on -/
theorem f_law (T : Tx K mg) {CX : CXT} {dv : List V} {f : Addr} {fd : FuncData} (F : FunD K "law" "law" (defArgs JA.s_law) (defBody JA.s_law) (defScope JA.s_law) dv [] f fd) : FnOk P w K mg base CX 18 f fd ["_law_script"] (spLaw K) := by
  refine F.ok sc_law (fun vs H Q E h => ?_) fun cdv A outer s H vs Q E hRm h => ?_
  · obtain ⟨a, ns, rfl, _⟩ := h
    rfl
  · obtain ⟨a0, ns, rfl, hS, hns, q⟩ := h
    refine ⟨_, PSs.nox (pss_cons (ps_set (i := 1) sc_law.nd rfl (by first | exact Or.inl rfl | exact Or.inr rfl) (C8.pe_c (c_law_hand T) hRm (by decide) (by rfl) (pa_cons (pv 0) pa_nil)))
    (pss_cons (ps_set (i := 2) sc_law.nd rfl (by first | exact Or.inl rfl | exact Or.inr rfl) (C8.pe_c (c_law_counts T) hRm (by decide) (by rfl) (pa_cons (pv 1) (pa_cons (pe_ifExp (pt_cmpR (op_eqD hRm.units) (C8.pe_c (c_law_draw T) hRm (by decide) (by rfl) (pa_cons (pv 1) (pa_cons pe_int pa_nil))) pe_int (nomark _)) pe_int pe_int) pa_nil))))
    (pss_cons (ps_set (i := 3) sc_law.nd rfl (by first | exact Or.inl rfl | exact Or.inr rfl) (C8.pe_c (c_law_free T) hRm (by decide) (by rfl) (pa_cons (pe_ix ix_seq (pv 2) pe_int (fun _ _ => rfl)) (pa_cons (pe_ix ix_seq (pv 2) pe_int (fun _ _ => rfl)) pa_nil))))
    (pss_cons (ps_if (pt_cmpR (op_eqD hRm.units) (pe_callB (cr_sumX rfl) (by rfl) (T.free 103) (by decide +kernel) (pa_cons (pv 2) pa_nil)) pe_int (nomark _)) (pss_one (ps_set (i := 3) sc_law.nd rfl (by first | exact Or.inl rfl | exact Or.inr rfl) (pe_lst pa_nil))) pss_nil)
    (pss_cons (ps_set (i := 4) sc_law.nd rfl (by first | exact Or.inl rfl | exact Or.inr rfl) (C8.pe_c (c_law_equal_at T) hRm (by decide) (by rfl) (pa_cons (pe_ix ix_seq (pv 2) pe_int (fun _ _ => rfl)) (pa_cons (pe_ix ix_seq (pv 2) pe_int (fun _ _ => rfl)) pa_nil))))
    (pss_cons (ps_setLc (i := 5) (own := [("_law_ratio_here", 10)]) (g := gName 10) (by rfl) sc_law.nd rfl rfl (sw_true rfl rfl rfl (by decide +kernel)) (pi_list (C8.pe_c (c_law_points T) hRm (by decide) (by rfl) (pa_cons (pv 4) pa_nil))) (blkOk_by (own := [("_law_ratio_here", 10)]) (N := N_law) (sc := defScope JA.s_law) (by decide +kernel)) (fun _ _ _ _ _ => (pg_name (i := 10) sc_law.nd rfl (by first | exact Or.inl rfl | exact Or.inr rfl))) (fun _ _ _ _ _ => pts_nil) (fun _ _ _ _ _ => (pe_lst (pa_cons (pv 10) (pa_cons (C8.pe_c (c_law_widest T) hRm (by decide) (by rfl) (pa_cons (pv 3) (pa_cons (pv 10) pa_nil))) pa_nil)))))
    (pss_cons (ps_set (i := 6) sc_law.nd rfl (by first | exact Or.inl rfl | exact Or.inr rfl) (C8.pe_c (c_last_whole T) hRm (by decide) (by rfl) (pa_cons (pe_ix ix_seq (pv 2) pe_int (fun _ _ => rfl)) (pa_cons (pe_ix ix_seq (pv 2) pe_int (fun _ _ => rfl)) pa_nil))))
    (pss_cons (ps_if (PW.pt (pw_or (pt_cmpR (op_eqD hRm.units) (pe_ix ix_seq (pv 2) pe_int (fun _ _ => rfl)) pe_int (nomark _)) (pw_or1 (pt_cmpR (op_eqD hRm.units) (pe_ix ix_seq (pv 2) pe_int (fun _ _ => rfl)) pe_int (nomark _))))) (pss_one (ps_if (pt_cmpR op_notNX (pv 6) pe_non (nomark _)) (pss_one (ps_ret pe_bl)) pss_nil)) (pss_one (ps_if (PW.pt (pw_or (pt_not (pt_val (C8.pe_c (c_law_is_whole T) hRm (by decide) (by rfl) (pa_cons (pv 6) pa_nil)))) (pw_or1 (pt_cmpR (op_neD hRm.units) (pv 6) (C8.pe_c (c_law_own_last T) hRm (by decide) (by rfl) (pa_cons (pv 2) (pa_cons (pv 3) (pa_cons (pv 4) pa_nil)))) (nomark _))))) (pss_one (ps_ret pe_bl)) pss_nil)))
    (pss_cons (ps_set (i := 7) sc_law.nd rfl (by first | exact Or.inl rfl | exact Or.inr rfl) (C8.pe_c (c_best_couple T) hRm (by decide) (by rfl) (pa_cons (pe_ix ix_seq (pv 2) pe_int (fun _ _ => rfl)) (pa_cons (pe_ix ix_seq (pv 2) pe_int (fun _ _ => rfl)) pa_nil))))
    (pss_cons (ps_if (PW.pt (pw_or (pt_not (pt_val (pe_callB call_isiX (by rfl) (T.free 94) (by decide +kernel) (pa_cons (pv 7) (pa_cons (pe_bltn (v := .ty "tuple") (by rfl) (T.free 104) (by decide +kernel) rfl) pa_nil))))) (pw_or1 (pt_cmpR op_notNX (C8.pe_c (c_law_word T) hRm (by decide) (by rfl) (pa_cons (pv 2) (pa_cons (pv 5) (pa_cons (pv 7) pa_nil)))) pe_non (nomark _))))) (pss_one (ps_ret pe_bl)) pss_nil)
    (pss_cons (ps_if (PW.pt (pw_or (pt_not (pt_val (pe_callB call_isiX (by rfl) (T.free 94) (by decide +kernel) (pa_cons (pe_ix ix_seq (pv 7) pe_int (fun _ _ => rfl)) (pa_cons (pe_bltn (v := .ty "tuple") (by rfl) (T.free 104) (by decide +kernel) rfl) pa_nil))))) (pw_or1 (pt_not (pt_val (pe_callB call_isiX (by rfl) (T.free 94) (by decide +kernel) (pa_cons (pe_ix ix_seq (pv 7) pe_int (fun _ _ => rfl)) (pa_cons (pe_bltn (v := .ty "tuple") (by rfl) (T.free 104) (by decide +kernel) rfl) pa_nil)))))))) (pss_one (ps_ret pe_bl)) pss_nil)
    (pss_cons (ps_for PassesOwn.never rfl (pi_range1 (by rfl) (T.free 100) (pa_cons pe_int pa_nil)) (pg_name (i := 8) sc_law.nd rfl (by first | exact Or.inl rfl | exact Or.inr rfl)) (pss_cons (ps_if (pt_not (pt_val (C8.pe_c (c_law_told_right T) hRm (by decide) (by rfl) (pa_cons (pv 2) (pa_cons (C8.pe_c (c_law_share T) hRm (by decide) (by rfl) (pa_cons (pv 1) pa_nil)) (pa_cons (pv 7) pa_nil)))))) (pss_one (ps_ret pe_bl)) pss_nil)
    (pss_cons (ps_set (i := 9) sc_law.nd rfl (by first | exact Or.inl rfl | exact Or.inr rfl) (C8.pe_c (c_law_spoilt_couple T) hRm (by decide) (by rfl) (pa_cons (pv 1) (pa_cons (pv 7) pa_nil))))
    (pss_cons (ps_if (PW.pt (pw_and (pt_cmpR ((op_neN hRm.units)) (pv 3) (pe_lst pa_nil) (nomark _)) (pw_and1 (pt_cmpR (op_eqD hRm.units) (C8.pe_c (c_law_draw T) hRm (by decide) (by rfl) (pa_cons (pv 1) (pa_cons pe_int pa_nil))) pe_int (nomark _))))) (pss_one (ps_set (i := 9) sc_law.nd rfl (by first | exact Or.inl rfl | exact Or.inr rfl) (pe_slice sl_X (C8.pe_c (c_law_pick T) hRm (by decide) (by rfl) (pa_cons (pv 1) (pa_cons (pv 3) pa_nil))) po_none (po_some pe_int)))) pss_nil)
    (pss_one (ps_if (pt_cmpR (op_neD hRm.units) (C8.pe_c (c_best_fault T) hRm (by decide) (by rfl) (pa_cons (pe_ix ix_seq (pv 2) pe_int (fun _ _ => rfl)) (pa_cons (pe_ix ix_seq (pv 2) pe_int (fun _ _ => rfl)) (pa_cons (pv 9) pa_nil)))) (C8.pe_c (c_law_word T) hRm (by decide) (by rfl) (pa_cons (pv 2) (pa_cons (pv 5) (pa_cons (pv 9) pa_nil)))) (nomark _)) (pss_one (ps_ret pe_bl)) pss_nil))))))
    (pss_cons (ps_if (pt_cmpR op_notNX (C8.pe_c (c_best_fault T) hRm (by decide) (by rfl) (pa_cons (pe_ix ix_seq (pv 2) pe_int (fun _ _ => rfl)) (pa_cons (pe_ix ix_seq (pv 2) pe_int (fun _ _ => rfl)) (pa_cons (pe_lst (pa_cons (pe_callTy call_listX (by rfl) (T.free 96) (by decide +kernel) (pa_cons (pe_ix ix_seq (pv 7) pe_int (fun _ _ => rfl)) pa_nil)) (pa_cons (pe_ix ix_seq (pv 7) pe_int (fun _ _ => rfl)) pa_nil))) pa_nil)))) pe_non (nomark _)) (pss_one (ps_ret pe_bl)) pss_nil)
    (pss_one (ps_ret (pe_and (C8.pe_c (c_law_refused T) hRm (by decide) (by rfl) (pa_cons (pv 1) (pa_cons (pv 2) (pa_cons (pv 7) pa_nil)))) (pe_one (C8.pe_c (c_law_eight_right T) hRm (by decide) (by rfl) (pa_cons (pv 1) pa_nil))))))))))))))))))), ?_⟩
    have S0 := sx_start (K := K) (hd := none) (B := H) (H := H) (vs := [.ref a0]) (ds := [.scr ns]) (Same.refl H) hd_none (.cons (.scr hS) .nil) 10
    have el : L2.start N_law [.ref a0] = [V.ref a0].map some ++ List.replicate 10 none := rfl
    rw [el]
    -- the hand
    refine t_hand S0 rfl hns fun B2 H2 h g2 hh => ?_
    have S1 : Sx K (some h) (fun a => H a = none) B2 H2 (([V.ref a0].map some ++ List.replicate 10 none).set 1 (some (.ref h.l))) [.val (.scr ns), .hand, .no, .no, .no, .no, .no, .no, .no, .no, .no] := by
      refine ⟨g2.sub, hh, fun p hp => g2.live hd_none (Same.refl H) hp, rfl, fun i s' e => ?_, fun i j l o u hij e1 e2 e3 e4 => ?_⟩
      · match i with
        | 0 =>
          cases Option.some.inj e
          exact ⟨.ref a0, rfl, .scr (Same.sqL (g2.ext) hS)⟩
        | 1 =>
          cases Option.some.inj e
          exact ⟨h, rfl, rfl⟩
        | 2 | 3 | 4 | 5 | 6 | 7 | 8 | 9 | 10 =>
          cases Option.some.inj e
          trivial
        | _ + 11 => cases e
      · match i with
        | 0 | 1 | 2 | 3 | 4 | 5 | 6 | 7 | 8 | 9 | 10 => cases e1
        | _ + 11 => cases e1
    refine es_all (ts := tSeq _ _) (Ψ := fun z => z = .bl true) ?_ S1 fun B' H' v d _ _ rv e => ?_
    case refine_2 =>
      subst e
      rw [rv.ofBl]
      exact q H'
    -- the counts
    refine s_seq (s_asg (e_callHE2 (Φ' := CountsP 7) rfl (ea_cons2 (Φa := fun d => d = .int 7 ∨ d = .int 6) (Φb := fun _ z => z = []) (e_if2 (t_draw rfl (by decide) (Sz.lit (by decide) (by decide))) (e_imp e_int fun _ e => .inl e) (e_imp e_int fun _ e => .inr e)) fun _ _ => ea_nil) fun ds hds => ?_) fun d hd => ?_)
    · obtain ⟨x, xs, rfl, hx, rfl⟩ := hds
      rcases hx with rfl | rfl
      · exact ⟨_, ⟨7, rfl, by decide, by decide, rfl⟩, fun d hd => hd⟩
      · exact ⟨_, ⟨6, rfl, by decide, by decide, rfl⟩, fun d ⟨a, b, e, h1, h2, h3, h4⟩ => ⟨a, b, e, h1, h2, h3, by omega⟩⟩
    obtain ⟨a, b, rfl, ha, hb, h1, h7⟩ := hd
    have h8 : a + b ≤ 8 := by omega
    obtain ⟨pk, ak, sk⟩ := prof7 ha hb h1 h7
    obtain ⟨hne, hfo, _⟩ := free7 ha hb h1 h7
    obtain ⟨q1, q2, q3, q5, q4⟩ := pts7 ha hb h1 h7
    obtain ⟨p1, p2, c1, c2, _⟩ := best_ok ha hb h1 h8
    have word := fun {x e1 e2 : D} => word7 ha hb h1 h7 (x := x) (e1 := e1) (e2 := e2)
    have flt := fault7 ha hb h1 h7
    have told := fun {s : Rat} => told7 ha hb h1 h7 (s := s)
    have lst7 := last7 ha hb h1 h7
    -- all couples
    refine s_seq (s_asgV (e_call (ea_cons (e_op (e_var rfl) e_int (ro_ix rfl)) (ea_cons (e_op (e_var rfl) e_int (ro_ix rfl)) ea_nil)) ⟨a, b, rfl, ha, hb, h1, h8, hne, rfl⟩) ?_)
    refine s_mid (fun Γ => Γ = [.val (.scr ns), .hand, .val (pairD (a, b)), .val (.lst ((lawFree a b).map lcoupD)), .no, .no, .no, .no, .no, .no, .no]) ?_ fun Γ' hΓ => ?_
    · have es : ∀ {Γ : List S}, Γ[2]? = some (.val (pairD (a, b))) → Ev K (tCB (rSumX K) (tCons (tVar 2) tNil)) Γ (.int (a + b)) := fun hi => Ev.cast (e_cb (ea_cons (e_var hi) ea_nil) (rc_sum (ns := [a, b]) rfl)) (by simp)
      by_cases hn : a + b = 1
      · refine s_ifT (t_imp (t_test (e_op (es rfl) e_int ro_eq)) fun x e => e.trans (decide_eq_true hn)) (s_asgV (e_lst ea_nil (of_decide_eq_true rfl)) ?_)
        unfold lawFree
        rw [if_pos hn]
        rfl
      · refine s_ifF (t_imp (t_test (e_op (es rfl) e_int ro_eq)) fun x e => e.trans (decide_eq_false hn)) (s_next ?_)
        unfold lawFree
        rw [if_neg hn]
        rfl
    subst hΓ
    generalize hfr : lawFree a b = fr at *
    -- borders, points
    refine s_seq (s_asgV (e_call (ea_cons (e_op (e_var rfl) e_int (ro_ix rfl)) (ea_cons (e_op (e_var rfl) e_int (ro_ix rfl)) ea_nil)) ⟨a, b, rfl, ha, hb, by omega, by omega, sk, rfl⟩) ?_)
    refine s_seq (s_asgV (d := .lst ((lawPts a b).map ptD)) (Ev.cast (l_map (pointsM (equalAt a b) 1) rat (fun r => ptD (r, widestM fr r)) (i_list (e_call (ea_cons (e_var rfl) ea_nil) ⟨equalAt a b, rfl, q1, q2, rfl⟩)) (by omega) fun r hr => ⟨_, g_name, e_lst (ea_cons (e_var rfl) (ea_cons (e_widest (e_var rfl) (e_var rfl) hfo ((q3 r hr).mono (by decide))) ea_nil)) (of_decide_eq_true rfl)⟩).ev ?_) ?_)
    · unfold lawPts
      rw [List.map_map, hfr]
      rfl
    generalize lawPts a b = pts at *
    -- the last whole number
    refine s_seq (s_asgV (e_lastw (e_op (e_var rfl) e_int (ro_ix rfl)) (e_op (e_var rfl) e_int (ro_ix rfl)) ha hb h1 h8) ?_)
    refine s_mid (fun Γ => Γ = [.val (.scr ns), .hand, .val (pairD (a, b)), .val (.lst (fr.map lcoupD)), .val (.lst ((equalAt a b).map rat)), .val (.lst (pts.map ptD)), .val (lastD a b), .no, .no, .no, .no]) ?_ fun Γ' hΓ => ?_
    · have ez : ∀ {Γ : List S}, Γ[2]? = some (.val (pairD (a, b))) → Et K (tOr (tTest (tOp (rEqD K) (tOp (rIx K) (tVar 2) (tC (.int 0))) (tC (.int 0)))) (tTest (tOp (rEqD K) (tOp (rIx K) (tVar 2) (tC (.int 1))) (tC (.int 0))))) Γ fun x => x = decide (a = 0 ∨ b = 0) := fun hi => t_imp (t_or (t_test (e_op (e_op (e_var hi) e_int (ro_ix rfl)) e_int ro_eq)) fun _ => t_test (e_op (e_op (e_var hi) e_int (ro_ix rfl)) e_int ro_eq)) fun x e => e.trans (by rw [← Bool.decide_or])
      by_cases hz : a = 0 ∨ b = 0
      · have hl : lastD a b = .non := if_pos hz
        rw [hl]
        exact s_ifT (t_imp (ez rfl) fun x e => e.trans (decide_eq_true hz)) (s_ifF (t_test (e_op (x := .non) (e_var rfl) e_non ro_notN)) (s_next rfl))
      · have hl : lastD a b = .int (lastI a b) := if_neg hz
        rw [hl]
        refine s_ifF (t_imp (ez rfl) fun x e => e.trans (decide_eq_false hz)) (s_ifF (t_or (a := false) (b := false) (t_not (a := true) (t_B (e_lwhole (x := .int (lastI a b)) (e_var rfl) rfl))) fun _ => t_imp (t_test (e_op (x := .int (lastI a b)) (e_var rfl) (e_call (ea_cons (e_var rfl) (ea_cons (e_var rfl) (ea_cons (e_var rfl) ea_nil))) ⟨pairD (a, b), fr, equalAt a b, rfl, hfo, q1, rfl⟩) ro_ne)) fun x e => e.trans ?_) (s_next rfl))
        rw [lst7 (fun z => hz (.inl z)) (fun z => hz (.inr z))]
        simp
    subst hΓ
    -- the couple told
    have b0 : (D.tup [row (bestM a b).1, row (bestM a b).2]).at 0 = some (row (bestM a b).1) := rfl
    have b1 : (D.tup [row (bestM a b).1, row (bestM a b).2]).at 1 = some (row (bestM a b).2) := rfl
    have hlen1 : 1 ≤ (bestM a b).1.length ∧ (bestM a b).1.length ≤ 50 := ⟨p1.1, p1.2.1⟩
    have hlen2 : (bestM a b).2.length ≤ 50 := p2.2.1
    have hcT := couple_row p1 p2
    have hword := word (x := .tup [row (bestM a b).1, row (bestM a b).2]) rfl rfl rfl
    have hword2 := word (x := .lst [.lst ((bestM a b).1.map D.int), row (bestM a b).2]) rfl rfl rfl
    have hcT2 : coupleT (.lst [.lst ((bestM a b).1.map D.int), row (bestM a b).2]) := couple_of (.inl rfl) (flat_row (.inl rfl) (flat_ints _)) (flat_row (.inr rfl) (flat_ints _))
    have hcpl : ∃ cpl, cpl = D.tup [row (bestM a b).1, row (bestM a b).2] := ⟨_, rfl⟩
    refine s_seq (s_asgV (e_call (ea_cons (e_op (e_var rfl) e_int (ro_ix rfl)) (ea_cons (e_op (e_var rfl) e_int (ro_ix rfl)) ea_nil)) ⟨a, b, rfl, ha, hb, h1, h8, rfl⟩) ?_)
    have eTup : ∀ {Γ : List S} {te : TE} {ds : List D}, Ev K te Γ (.tup ds) → Et K (tNot (tB (tCB (rIsiX K) (tCons te (tCons (tC (.ty "tuple")) tNil))))) Γ fun x => x = false := fun h => t_not (a := true) (t_B (e_cb (ea_cons h (ea_cons e_ty ea_nil)) (rc_isi (t := "tuple") rfl (by rfl))))
    refine s_seq (s_ifF (t_or (a := false) (b := false) (eTup (e_var rfl)) fun _ => t_test (e_op (x := .non) ((e_call (ea_cons (e_var rfl) (ea_cons (e_var rfl) (ea_cons (e_var rfl) ea_nil))) ⟨a, b, pts, _, rfl, hcT, q4, rfl⟩).cast hword) e_non ro_notN)) (s_next ?_))
    refine s_seq (s_ifF (t_or (a := false) (b := false) (eTup (e_op (e_var rfl) e_int (ro_ix b0))) fun _ => eTup (e_op (e_var rfl) e_int (ro_ix b1))) (s_next ?_))
    -- two turns
    refine s_mid (fun Γ => ∃ u v x, Γ = [.val (.scr ns), .hand, .val (pairD (a, b)), .val (.lst (fr.map lcoupD)), .val (.lst ((equalAt a b).map rat)), .val (.lst (pts.map ptD)), .val (lastD a b), .val (.tup [row (bestM a b).1, row (bestM a b).2]), u, v, x]) ?_ fun Γ' hΓ => ?_
    · refine s_forL (vs := [8]) (List.range 2) (fun (i : Nat) => D.int (i : Int)) (fun pre Γ => ∃ u v x, Γ = [.val (.scr ns), .hand, .val (pairD (a, b)), .val (.lst (fr.map lcoupD)), .val (.lst ((equalAt a b).map rat)), .val (.lst (pts.map ptD)), .val (lastD a b), .val (.tup [row (bestM a b).1, row (bestM a b).2]), u, v, x]) (by rw [← dints0]; exact i_rng1 (ea_cons e_int ea_nil) (by decide)) ⟨.no, .no, .no, rfl⟩ (fun pre i post Γ1 e iv => ⟨_, g_name, ?_⟩) fun Γ1 iv => iv
      obtain ⟨u, v, x, rfl⟩ := iv
      refine s_seq (s_ifF (t_not (a := true) (t_B (e_callE (dds := []) (Φa := fun zs => ∃ s : Rat, zs = [pairD (a, b), rat s, .tup [row (bestM a b).1, row (bestM a b).2]] ∧ Sr 120 s ∧ 0 < s ∧ s ≤ 1) (fun hd fr B H σ Q S0 k => ea_cons2 (Φa := fun d => d = pairD (a, b)) (Φb := fun _ zs => ∃ s : Rat, zs = [rat s, .tup [row (bestM a b).1, row (bestM a b).2]] ∧ Sr 120 s ∧ 0 < s ∧ s ≤ 1) (e_var rfl) (fun _ _ => fun hd fr B H σ Q S0 k => ea_cons2 (Φa := ShareP) (Φb := fun _ zs => zs = [.tup [row (bestM a b).1, row (bestM a b).2]]) (e_callH rfl ea_nil ⟨rfl, rfl⟩) (fun _ _ => ea_cons (e_var rfl) ea_nil) hd fr B H σ Q S0 fun B' H' vs zs g r p => k B' H' vs zs g r (by obtain ⟨y, ys, rfl, ⟨s, rfl, s1, s2, s3⟩, rfl⟩ := p; exact ⟨s, rfl, s1, s2, s3⟩)) hd fr B H σ Q S0 fun B' H' vs zs g r p => k B' H' vs zs g r (by obtain ⟨y, ys, rfl, rfl, s, rfl, s1, s2, s3⟩ := p; exact ⟨s, rfl, s1, s2, s3⟩)) (fun _ => .nil) fun zs p => ?_))) (s_next ?_))
      · obtain ⟨s, rfl, s1, s2, s3⟩ := p
        exact ⟨.bl true, ⟨a, b, s, _, _, _, (bestM a b).1, (bestM a b).2, rfl, ha, hb, h1, h8, pk, s1, s2, s3, rfl, rfl, rfl, told s1 s2 s3, rfl⟩, rfl⟩
      refine s_seq (s_asg (e_callH rfl (ea_cons (e_var rfl) ea_nil) ⟨_, row (bestM a b).1, row (bestM a b).2, (bestM a b).1, (bestM a b).2, rfl, rfl, rfl, rfl, hlen1.1, hlen1.2, hlen2, rfl⟩) fun wr hwr => ?_)
      refine s_mid (fun Γ => ∃ wr u x, coupleT wr ∧ Γ = [.val (.scr ns), .hand, .val (pairD (a, b)), .val (.lst (fr.map lcoupD)), .val (.lst ((equalAt a b).map rat)), .val (.lst (pts.map ptD)), .val (lastD a b), .val (.tup [row (bestM a b).1, row (bestM a b).2]), u, .val wr, x]) ?_ fun Γ' hΓ => ?_
      · refine s_if (Φ := fun bb => bb = true → fr.map lcoupD ≠ []) (t_and2 (Φ := fun bb => bb = !(fr.map lcoupD).isEmpty) (t_test (e_op (e_var rfl) (e_lst ea_nil (of_decide_eq_true rfl)) ro_neN)) (fun e => t_imp (t_draw rfl (by decide) (Sz.lit (by decide) (by decide))) fun _ _ _ => ?_) fun _ z => by cases z) (fun hb' => ?_) fun _ => s_next ⟨wr, _, _, hwr, rfl⟩
        · intro z
          rw [z] at e
          cases e
        · refine s_asg (e_slE (Φ := fun d => d ∈ fr.map lcoupD) (Φ' := coupleT) (e_pick rfl (e_var rfl) rfl (hb' rfl) (by rw [List.length_map]; have := hfo.1; omega)) o_none (o_some e_int) fun y hy => ?_) fun d hd => ⟨d, _, _, hd, rfl⟩
          obtain ⟨c, hc, rfl⟩ := List.mem_map.mp hy
          exact fun B H v Q s r k => rs_lst (ds := [row c.1, row c.2.1, .lst (c.2.2.map pairD)]) (lo := none) (hi := some 2) B H v Q s r fun B' H' u z g rr e => k B' H' u z g rr (by rw [e]; exact couple_of (.inl rfl) (flat_row (.inr rfl) (flat_ints _)) (flat_row (.inr rfl) (flat_ints _)))
      obtain ⟨wr, u, x, hwr, rfl⟩ := hΓ
      obtain ⟨w1, w2⟩ := word_eq a b pts wr
      refine s_ifF (t_imp (t_test (e_op ((e_call (ea_cons (e_op (e_var rfl) e_int (ro_ix rfl)) (ea_cons (e_op (e_var rfl) e_int (ro_ix rfl)) (ea_cons (e_var rfl) ea_nil))) ⟨a, b, wr, rfl, ha, hb, h1, h8, pk, ak, hwr, rfl⟩).cast (flt wr)) (e_call (ea_cons (e_var rfl) (ea_cons (e_var rfl) (ea_cons (e_var rfl) ea_nil))) ⟨a, b, pts, wr, rfl, hwr, q4, rfl⟩) (ro_neD w1 w1))) fun bb eb => eb.trans ?_) (s_next ⟨_, Le.refl _, _, _, _, rfl⟩)
      rw [w2]
      rfl
    obtain ⟨u, v, x, rfl⟩ := hΓ
    -- the couple as a list
    refine s_seq (s_ifF (t_test (e_op (x := .non) ((e_call (ea_cons (e_op (e_var rfl) e_int (ro_ix rfl)) (ea_cons (e_op (e_var rfl) e_int (ro_ix rfl)) (ea_cons (e_lst (ea_cons (l_cb (ea_cons (e_op (e_var rfl) e_int (ro_ix b0)) ea_nil) (rl_list rfl)).ev (ea_cons (e_op (e_var rfl) e_int (ro_ix b1)) ea_nil)) (of_decide_eq_true rfl)) ea_nil))) ⟨a, b, _, rfl, ha, hb, h1, h8, pk, ak, hcT2, rfl⟩).cast ((flt _).trans hword2)) e_non ro_notN)) (s_next ?_))
    exact s_retV (e_and (a := true) (b := true) (e_callH rfl (ea_cons (e_var rfl) (ea_cons (e_var rfl) ea_nil)) ⟨a, b, _, rfl, ha, hb, h1, h8, pk, ak, hcT, rfl⟩) fun _ => e_callH rfl ea_nil ⟨rfl, rfl⟩) rfl
end
end JD
set_option maxHeartbeats 0
namespace JD
open PySem PySem.Spec PyProof.Rows L2

theorem facts {P : Program} {w : World} {K : PySem.W.Frag} {h : Heap} {mg : Str → Option Value} {f : Addr} (X : K.In h) (G : h.Ns mainGlobals mg) (hfa : mg ("law" : Str) = some (.ref f)) (c : JA.SaysM K) :
    ∃ fd : FuncData, (∀ (s : Shared) (v : Value), BindsTo s fd ⟨[v], []⟩ [("_law_script", v)]) ∧ ∀ base : Heap, K.In base → base.Ns mainGlobals mg → FnOk P w K mg base CX0 18 f fd ["_law_script"] (spLaw K) := by
  have T : Tx K mg := ⟨⟨h, X, G⟩, c⟩
  obtain ⟨fd, F⟩ := c.1.def_ 79 (d := JA.d79) rfl
  have e := hfa.symm.trans (T.glo 79 (x := "law"))
  cases e
  have b := FunD.bindsA (ps := ["_law_script"]) F fun _ _ _ _ _ _ us hl => match us, hl with | [_], _ => rfl
  exact ⟨fd, fun s v => b s [v] rfl, fun base _ _ => f_law T F⟩
end JD
open PySem PySem.W PySem.Calls PyProof.Rows
set_option maxRecDepth 100000 in
set_option maxHeartbeats 0 in
theorem PySem.Challenge.cw_jointsapart_k47_whole_one_couple_for_all_holds : PySem.Challenge.rw_jointsapart_k47_whole_one_couple_for_all.Holds := by
  w_on; o_law
  refine HandSHeadRun.head_imp (r := OpenLaw.row PySem.Challenge.rw_jointsapart_k47_whole_one_couple_for_all) (q := view (OpenLaw.row PySem.Challenge.rw_jointsapart_k47_whole_one_couple_for_all).prog [0, 104]) (H := JA.hk) (ob := JA.ob) (M := 60000) (loose := JA.names) (d := HandSHeadRun.topDef (OpenLaw.row PySem.Challenge.rw_jointsapart_k47_whole_one_couple_for_all).prog 104) (kwd := []) JA.ob_eq JA.run (by kernel_rfl) (by kernel_rfl) (by kernel_rfl) (by rfl) (by first | assumption | decide +kernel) (by decide +kernel) ⟨rfl, rfl, rfl, rfl, rfl, by decide +kernel⟩ ?hw ?hc
  case hw => w_witness2
  case hc =>
    refine L2.walk_ofE (l := PySem.Challenge.rw_jointsapart_k47_whole_one_couple_for_all) (n := 63) (k := 18) (x := "_law_script") (CX := L2.CX0) rfl (by decide) (by kernel_rfl) ⟨rfl, by decide, by decide⟩ ?F (fun _ _ _ _ z => z)
    intro w mg fa h Y G hmg0
    obtain ⟨K, KX, c⟩ := Y
    have hmg : mg ("law" : PySem.Str) = some (.ref fa) := by
      have e : (HandSHeadRun.topDef (OpenLaw.row PySem.Challenge.rw_jointsapart_k47_whole_one_couple_for_all).prog 104).name = ("law" : PySem.Str) := by kernel_rfl
      rw [← e]
      exact hmg0
    obtain ⟨fd, hb, hF⟩ := JD.facts (P := (PySem.Challenge.rw_jointsapart_k47_whole_one_couple_for_all).prog) (w := w) KX G hmg c
    exact ⟨K, fd, JD.spLaw K, KX, hb, fun H a ns hl _ hS => ⟨a, ns, rfl, hS, hl, fun _ => rfl⟩, hF⟩
