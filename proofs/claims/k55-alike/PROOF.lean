import PyProof.Rows.All
import Wide.All
import OpenK.AllK
import Wide.FinOn
import KE.KStateDown
import Lean
import HandS.ForMost
import HandS.Exc
import HandS.Defaults
import HandS.IsInst
import HandS.Head0
import HandS.Head1
import HandS.Head2
import HandS.HeadEnd
import HandS.HeadHook1
import HandS.HeadHook2
import HandS.HeadHook3
import HandS.Codes
import PySem.Challenge.RW_leansay_k55_whole_alike_by_laws
import HandS.Deep
import HandS.More
import HandS.NoneIn
import HandS.Wide
import HandS.Zip
set_option Elab.async false
set_option linter.all false
set_option maxRecDepth 100000
set_option maxHeartbeats 0
namespace K55
open PySem PySem.Spec PyProof.Rows L2
def top (i : Nat) : Stmt := PySem.Challenge.pw_leansay_k55_whole_alike_by_laws.main.body.getD i (.Pass ⟨0, 0, 0, 0⟩)
abbrev s_square : Stmt := top 7
abbrev s_told_by : Stmt := top 8
abbrev s_shared : Stmt := top 9
abbrev s_between : Stmt := top 10
abbrev s_cut : Stmt := top 11
abbrev s_Saying_inner : Stmt := inClass (top 13) 0
abbrev s_Saying_folds : Stmt := inClass (top 13) 2
abbrev s_Letter_init : Stmt := inClass (top 16) 0
abbrev s_Not_init : Stmt := inClass (top 17) 0
abbrev s_Not_inner : Stmt := inClass (top 17) 1
abbrev s_Fold_init : Stmt := inClass (top 18) 0
abbrev s_Fold_folds : Stmt := inClass (top 18) 2
abbrev s_is_place : Stmt := top 28
abbrev s_is_row : Stmt := top 29
abbrev s_rows_fault : Stmt := top 30
abbrev s_word_of : Stmt := top 31
abbrev s_place_of : Stmt := top 32
abbrev s_put_rows : Stmt := top 33
abbrev s_rows_of : Stmt := top 34
abbrev s_sum_of : Stmt := top 38
abbrev s_rest_of : Stmt := top 39
abbrev s_test_of : Stmt := top 40
abbrev s_lower_rule : Stmt := top 41
abbrev s_upper_rule : Stmt := top 42
abbrev s_fold_rule : Stmt := top 43
abbrev s_rules_on : Stmt := top 44
abbrev s_hulls_under : Stmt := top 48
abbrev s_hulls_of : Stmt := top 49
abbrev s_grown : Stmt := top 50
abbrev s_cutting_of_rows : Stmt := top 51
abbrev s_unlike_corner : Stmt := top 53
abbrev s_alike : Stmt := top 54
abbrev s_L_mixed : Stmt := top 56
abbrev s_L_next : Stmt := top 57
abbrev s_L_saying : Stmt := top 58
abbrev s_L_object : Stmt := top 59
abbrev s_L_folds : Stmt := top 60
abbrev s_L_fold : Stmt := top 61
abbrev s_L_worth : Stmt := top 62
abbrev s_L_whole : Stmt := top 63
abbrev s_L_rows_to : Stmt := top 64
abbrev s_L_tells : Stmt := top 65
abbrev s_L_lowest : Stmt := top 66
abbrev s_L_cut : Stmt := top 67
abbrev s_L_sum : Stmt := top 68
abbrev s_L_rule : Stmt := top 69
abbrev s_L_rules : Stmt := top 70
abbrev s_L_hulls : Stmt := top 71
abbrev s_L_is_point : Stmt := top 73
abbrev s_L_few : Stmt := top 74
abbrev s_L_twins : Stmt := top 75
abbrev s_L_same : Stmt := top 76
abbrev s_L_told : Stmt := top 77
abbrev s_law : Stmt := top 78
theorem sc_square : FnScope [] [] (defScope s_square) := ⟨rfl, rfl, rfl, by decide +kernel, rfl, by decide +kernel, by decide +kernel⟩
theorem sc_told_by : FnScope ["rule", "point", "a", "b", "c", "n", "x", "y"] ["rule", "point"] (defScope s_told_by) := ⟨rfl, rfl, rfl, by decide +kernel, rfl, by decide +kernel, by decide +kernel⟩
theorem sc_shared : FnScope ["one", "other", "rest"] ["one", "other"] (defScope s_shared) := ⟨rfl, rfl, rfl, by decide +kernel, rfl, by decide +kernel, by decide +kernel⟩
theorem sc_between : FnScope ["one", "other", "near", "far", "n", "x", "y", "k", "part"] ["one", "other", "near", "far"] (defScope s_between) := ⟨rfl, rfl, rfl, by decide +kernel, rfl, by decide +kernel, by decide +kernel⟩
theorem sc_cut : FnScope ["hull", "rule", "tells", "corner", "low", "high", "k", "after"] ["hull", "rule"] (defScope s_cut) := ⟨rfl, rfl, rfl, by decide +kernel, rfl, by decide +kernel, by decide +kernel⟩
theorem sc_Saying_inner : FnScope ["self"] ["self"] (defScope s_Saying_inner) := ⟨rfl, rfl, rfl, by decide +kernel, rfl, by decide +kernel, by decide +kernel⟩
theorem sc_Saying_folds : FnScope ["self", "part"] ["self"] (defScope s_Saying_folds) := ⟨rfl, rfl, rfl, by decide +kernel, rfl, by decide +kernel, by decide +kernel⟩
theorem sc_Letter_init : FnScope ["self", "name"] ["self", "name"] (defScope s_Letter_init) := ⟨rfl, rfl, rfl, by decide +kernel, rfl, by decide +kernel, by decide +kernel⟩
theorem sc_Not_init : FnScope ["self", "part"] ["self", "part"] (defScope s_Not_init) := ⟨rfl, rfl, rfl, by decide +kernel, rfl, by decide +kernel, by decide +kernel⟩
theorem sc_Not_inner : FnScope ["self"] ["self"] (defScope s_Not_inner) := ⟨rfl, rfl, rfl, by decide +kernel, rfl, by decide +kernel, by decide +kernel⟩
theorem sc_Fold_init : FnScope ["self", "one", "other"] ["self", "one", "other"] (defScope s_Fold_init) := ⟨rfl, rfl, rfl, by decide +kernel, rfl, by decide +kernel, by decide +kernel⟩
theorem sc_Fold_folds : FnScope ["self"] ["self"] (defScope s_Fold_folds) := ⟨rfl, rfl, rfl, by decide +kernel, rfl, by decide +kernel, by decide +kernel⟩
theorem sc_is_place : FnScope ["thing", "at"] ["thing", "at"] (defScope s_is_place) := ⟨rfl, rfl, rfl, by decide +kernel, rfl, by decide +kernel, by decide +kernel⟩
theorem sc_is_row : FnScope ["thing", "at", "size", "number"] ["thing", "at"] (defScope s_is_row) := ⟨rfl, rfl, rfl, by decide +kernel, rfl, by decide +kernel, by decide +kernel⟩
theorem sc_rows_fault : FnScope ["things", "at", "thing"] ["things"] (defScope s_rows_fault) := ⟨rfl, rfl, rfl, by decide +kernel, rfl, by decide +kernel, by decide +kernel⟩
theorem sc_word_of : FnScope ["fold"] ["fold"] (defScope s_word_of) := ⟨rfl, rfl, rfl, by decide +kernel, rfl, by decide +kernel, by decide +kernel⟩
theorem sc_place_of : FnScope ["row", "rows", "known"] ["row", "rows", "known"] (defScope s_place_of) := ⟨rfl, rfl, rfl, by decide +kernel, rfl, by decide +kernel, by decide +kernel⟩
theorem sc_put_rows : FnScope ["saying", "rows", "known", "row", "one"] ["saying", "rows", "known"] (defScope s_put_rows) := ⟨rfl, rfl, rfl, by decide +kernel, rfl, by decide +kernel, by decide +kernel⟩
theorem sc_rows_of : FnScope ["saying", "rows"] ["saying"] (defScope s_rows_of) := ⟨rfl, rfl, rfl, by decide +kernel, rfl, by decide +kernel, by decide +kernel⟩
theorem sc_sum_of : FnScope ["one", "other", "k"] ["one", "other"] (defScope s_sum_of) := ⟨rfl, rfl, rfl, by decide +kernel, rfl, by decide +kernel, by decide +kernel⟩
theorem sc_rest_of : FnScope ["one", "other", "k"] ["one", "other"] (defScope s_rest_of) := ⟨rfl, rfl, rfl, by decide +kernel, rfl, by decide +kernel, by decide +kernel⟩
theorem sc_test_of : FnScope ["word", "one", "other"] ["word", "one", "other"] (defScope s_test_of) := ⟨rfl, rfl, rfl, by decide +kernel, rfl, by decide +kernel, by decide +kernel⟩
theorem sc_lower_rule : FnScope ["word", "one", "other"] ["word", "one", "other"] (defScope s_lower_rule) := ⟨rfl, rfl, rfl, by decide +kernel, rfl, by decide +kernel, by decide +kernel⟩
theorem sc_upper_rule : FnScope ["word", "one", "other"] ["word", "one", "other"] (defScope s_upper_rule) := ⟨rfl, rfl, rfl, by decide +kernel, rfl, by decide +kernel, by decide +kernel⟩
theorem sc_fold_rule : FnScope ["word", "one", "other", "hull", "test", "tells", "corner"] ["word", "one", "other", "hull"] (defScope s_fold_rule) := ⟨rfl, rfl, rfl, by decide +kernel, rfl, by decide +kernel, by decide +kernel⟩
theorem sc_rules_on : FnScope ["rows", "hull", "fault", "rules", "k", "row", "rule", "test"] ["rows", "hull"] (defScope s_rules_on) := ⟨rfl, rfl, rfl, by decide +kernel, rfl, by decide +kernel, by decide +kernel⟩
theorem sc_hulls_under : FnScope ["tree", "hull", "low", "high"] ["tree", "hull"] (defScope s_hulls_under) := ⟨rfl, rfl, rfl, by decide +kernel, rfl, by decide +kernel, by decide +kernel⟩
theorem sc_hulls_of : FnScope ["tree"] ["tree"] (defScope s_hulls_of) := ⟨rfl, rfl, rfl, by decide +kernel, rfl, by decide +kernel, by decide +kernel⟩
theorem sc_grown : FnScope ["rows", "hull", "found", "low", "high"] ["rows", "hull"] (defScope s_grown) := ⟨rfl, rfl, rfl, by decide +kernel, rfl, by decide +kernel, by decide +kernel⟩
theorem sc_cutting_of_rows : FnScope ["rows"] ["rows"] (defScope s_cutting_of_rows) := ⟨rfl, rfl, rfl, by decide +kernel, rfl, by decide +kernel, by decide +kernel⟩
theorem sc_unlike_corner : FnScope ["one", "other", "tree", "hull", "rule", "second", "corner"] ["one", "other", "tree"] (defScope s_unlike_corner) := ⟨rfl, rfl, rfl, by decide +kernel, rfl, by decide +kernel, by decide +kernel⟩
theorem sc_alike : FnScope ["one", "other", "tree", "corner"] ["one", "other"] (defScope s_alike) := ⟨rfl, rfl, rfl, by decide +kernel, rfl, by decide +kernel, by decide +kernel⟩
theorem sc_L_mixed : FnScope ["_law_script", "_law_least", "_law_as_they_stand", "_law_made", "_law_k", "_law_cell"] ["_law_script", "_law_least"] (defScope s_L_mixed) := ⟨rfl, rfl, rfl, by decide +kernel, rfl, by decide +kernel, by decide +kernel⟩
theorem sc_L_next : FnScope ["_law_cells"] ["_law_cells"] (defScope s_L_next) := ⟨rfl, rfl, rfl, by decide +kernel, rfl, by decide +kernel, by decide +kernel⟩
theorem sc_L_saying : FnScope ["_law_cells", "_law_room", "_law_two", "_law_cell", "_law_turn", "_law_left", "_law_one", "_law_word"] ["_law_cells", "_law_room", "_law_two"] (defScope s_L_saying) := ⟨rfl, rfl, rfl, by decide +kernel, rfl, by decide +kernel, by decide +kernel⟩
theorem sc_L_object : FnScope ["_law_tree", "_law_one", "_law_other"] ["_law_tree"] (defScope s_L_object) := ⟨rfl, rfl, rfl, by decide +kernel, rfl, by decide +kernel, by decide +kernel⟩
theorem sc_L_folds : FnScope ["_law_tree", "_law_part"] ["_law_tree"] (defScope s_L_folds) := ⟨rfl, rfl, rfl, by decide +kernel, rfl, by decide +kernel, by decide +kernel⟩
theorem sc_L_fold : FnScope ["_law_word", "_law_n", "_law_one", "_law_other"] ["_law_word", "_law_n", "_law_one", "_law_other"] (defScope s_L_fold) := ⟨rfl, rfl, rfl, by decide +kernel, rfl, by decide +kernel, by decide +kernel⟩
theorem sc_L_worth : FnScope ["_law_tree", "_law_n", "_law_x", "_law_y"] ["_law_tree", "_law_n", "_law_x", "_law_y"] (defScope s_L_worth) := ⟨rfl, rfl, rfl, by decide +kernel, rfl, by decide +kernel, by decide +kernel⟩
theorem sc_L_whole : FnScope ["_law_found"] ["_law_found"] (defScope s_L_whole) := ⟨rfl, rfl, rfl, by decide +kernel, rfl, by decide +kernel, by decide +kernel⟩
theorem sc_L_rows_to : FnScope ["_law_tree", "_law_rows", "_law_places", "_law_part", "_law_row"] ["_law_tree", "_law_rows"] (defScope s_L_rows_to) := ⟨rfl, rfl, rfl, by decide +kernel, rfl, by decide +kernel, by decide +kernel⟩
theorem sc_L_tells : FnScope ["_law_rule_here", "_law_corner"] ["_law_rule_here", "_law_corner"] (defScope s_L_tells) := ⟨rfl, rfl, rfl, by decide +kernel, rfl, by decide +kernel, by decide +kernel⟩
theorem sc_L_lowest : FnScope ["_law_point", "_law_by", "_law_number"] ["_law_point"] (defScope s_L_lowest) := ⟨rfl, rfl, rfl, by decide +kernel, rfl, by decide +kernel, by decide +kernel⟩
theorem sc_L_cut : FnScope ["_law_hull", "_law_rule_here", "_law_some", "_law_corner", "_law_low", "_law_high", "_law_k", "_law_here", "_law_there", "_law_other", "_law_fresh", "_law_a", "_law_b"] ["_law_hull", "_law_rule_here"] (defScope s_L_cut) := ⟨rfl, rfl, rfl, by decide +kernel, rfl, by decide +kernel, by decide +kernel⟩
theorem sc_L_sum : FnScope ["_law_one", "_law_other", "_law_by", "_law_a", "_law_b"] ["_law_one", "_law_other", "_law_by"] (defScope s_L_sum) := ⟨rfl, rfl, rfl, by decide +kernel, rfl, by decide +kernel, by decide +kernel⟩
theorem sc_L_rule : FnScope ["_law_row", "_law_rules_here", "_law_hull", "_law_known", "_law_one", "_law_other", "_law_test", "_law_ways", "_law_some", "_law_corner"] ["_law_row", "_law_rules_here", "_law_hull"] (defScope s_L_rule) := ⟨rfl, rfl, rfl, by decide +kernel, rfl, by decide +kernel, by decide +kernel⟩
theorem sc_L_rules : FnScope ["_law_rows", "_law_hull", "_law_rules_here", "_law_row", "_law_rule_here", "_law_test"] ["_law_rows", "_law_hull"] (defScope s_L_rules) := ⟨rfl, rfl, rfl, by decide +kernel, rfl, by decide +kernel, by decide +kernel⟩
theorem sc_L_hulls : FnScope ["_law_tree", "_law_hull", "_law_number", "_law_both", "_law_low", "_law_high"] ["_law_tree", "_law_hull"] (defScope s_L_hulls) := ⟨rfl, rfl, rfl, by decide +kernel, rfl, by decide +kernel, by decide +kernel⟩
theorem sc_L_is_point : FnScope ["_law_found", "_law_number"] ["_law_found"] (defScope s_L_is_point) := ⟨rfl, rfl, rfl, by decide +kernel, rfl, by decide +kernel, by decide +kernel⟩
theorem sc_L_few : FnScope ["_law_cells", "_law_room", "_law_most", "_law_tree"] ["_law_cells", "_law_room", "_law_most"] (defScope s_L_few) := ⟨rfl, rfl, rfl, by decide +kernel, rfl, by decide +kernel, by decide +kernel⟩
theorem sc_L_twins : FnScope ["_law_cell", "_law_a", "_law_b", "_law_some"] ["_law_cell", "_law_a", "_law_b"] (defScope s_L_twins) := ⟨rfl, rfl, rfl, by decide +kernel, rfl, by decide +kernel, by decide +kernel⟩
theorem sc_L_same : FnScope ["_law_tree", "_law_one", "_law_other", "_law_both", "_law_first", "_law_second", "_law_hulls_here", "_law_hull", "_law_rules_here"] ["_law_tree", "_law_one", "_law_other"] (defScope s_L_same) := ⟨rfl, rfl, rfl, by decide +kernel, rfl, by decide +kernel, by decide +kernel⟩
theorem sc_L_told : FnScope ["_law_one", "_law_other", "_law_found", "_law_n", "_law_x", "_law_y"] ["_law_one", "_law_other"] (defScope s_L_told) := ⟨rfl, rfl, rfl, by decide +kernel, rfl, by decide +kernel, by decide +kernel⟩
theorem sc_law : FnScope ["_law_script", "_law_cells", "_law_cell", "_law_pair", "_law_turn", "_law_one", "_law_other"] ["_law_script"] (defScope s_law) := ⟨rfl, rfl, rfl, by decide +kernel, rfl, by decide +kernel, by decide +kernel⟩
def d_square : He.DefD := ⟨("square", none), "square", "square", defArgs s_square, defBody s_square, defScope s_square, [], []⟩
def d_told_by : He.DefD := ⟨("told_by", none), "told_by", "told_by", defArgs s_told_by, defBody s_told_by, defScope s_told_by, [], []⟩
def d_shared : He.DefD := ⟨("shared", none), "shared", "shared", defArgs s_shared, defBody s_shared, defScope s_shared, [], []⟩
def d_between : He.DefD := ⟨("between", none), "between", "between", defArgs s_between, defBody s_between, defScope s_between, [], []⟩
def d_cut : He.DefD := ⟨("cut", none), "cut", "cut", defArgs s_cut, defBody s_cut, defScope s_cut, [], []⟩
def d_Saying_inner : He.DefD := ⟨("Saying", some "inner"), "inner", "Saying.inner", defArgs s_Saying_inner, defBody s_Saying_inner, defScope s_Saying_inner, [], []⟩
def d_Saying_folds : He.DefD := ⟨("Saying", some "folds"), "folds", "Saying.folds", defArgs s_Saying_folds, defBody s_Saying_folds, defScope s_Saying_folds, [], []⟩
def d_Letter_init : He.DefD := ⟨("Letter", some "__init__"), "__init__", "Letter.__init__", defArgs s_Letter_init, defBody s_Letter_init, defScope s_Letter_init, [], []⟩
def d_Not_init : He.DefD := ⟨("Not", some "__init__"), "__init__", "Not.__init__", defArgs s_Not_init, defBody s_Not_init, defScope s_Not_init, [], []⟩
def d_Not_inner : He.DefD := ⟨("Not", some "inner"), "inner", "Not.inner", defArgs s_Not_inner, defBody s_Not_inner, defScope s_Not_inner, [], []⟩
def d_Fold_init : He.DefD := ⟨("Fold", some "__init__"), "__init__", "Fold.__init__", defArgs s_Fold_init, defBody s_Fold_init, defScope s_Fold_init, [], []⟩
def d_Fold_folds : He.DefD := ⟨("Fold", some "folds"), "folds", "Fold.folds", defArgs s_Fold_folds, defBody s_Fold_folds, defScope s_Fold_folds, [], []⟩
def d_is_place : He.DefD := ⟨("is_place", none), "is_place", "is_place", defArgs s_is_place, defBody s_is_place, defScope s_is_place, [], []⟩
def d_is_row : He.DefD := ⟨("is_row", none), "is_row", "is_row", defArgs s_is_row, defBody s_is_row, defScope s_is_row, [], []⟩
def d_rows_fault : He.DefD := ⟨("rows_fault", none), "rows_fault", "rows_fault", defArgs s_rows_fault, defBody s_rows_fault, defScope s_rows_fault, [], []⟩
def d_word_of : He.DefD := ⟨("word_of", none), "word_of", "word_of", defArgs s_word_of, defBody s_word_of, defScope s_word_of, [], []⟩
def d_place_of : He.DefD := ⟨("place_of", none), "place_of", "place_of", defArgs s_place_of, defBody s_place_of, defScope s_place_of, [], []⟩
def d_put_rows : He.DefD := ⟨("put_rows", none), "put_rows", "put_rows", defArgs s_put_rows, defBody s_put_rows, defScope s_put_rows, [], []⟩
def d_rows_of : He.DefD := ⟨("rows_of", none), "rows_of", "rows_of", defArgs s_rows_of, defBody s_rows_of, defScope s_rows_of, [], []⟩
def d_sum_of : He.DefD := ⟨("sum_of", none), "sum_of", "sum_of", defArgs s_sum_of, defBody s_sum_of, defScope s_sum_of, [], []⟩
def d_rest_of : He.DefD := ⟨("rest_of", none), "rest_of", "rest_of", defArgs s_rest_of, defBody s_rest_of, defScope s_rest_of, [], []⟩
def d_test_of : He.DefD := ⟨("test_of", none), "test_of", "test_of", defArgs s_test_of, defBody s_test_of, defScope s_test_of, [], []⟩
def d_lower_rule : He.DefD := ⟨("lower_rule", none), "lower_rule", "lower_rule", defArgs s_lower_rule, defBody s_lower_rule, defScope s_lower_rule, [], []⟩
def d_upper_rule : He.DefD := ⟨("upper_rule", none), "upper_rule", "upper_rule", defArgs s_upper_rule, defBody s_upper_rule, defScope s_upper_rule, [], []⟩
def d_fold_rule : He.DefD := ⟨("fold_rule", none), "fold_rule", "fold_rule", defArgs s_fold_rule, defBody s_fold_rule, defScope s_fold_rule, [], []⟩
def d_rules_on : He.DefD := ⟨("rules_on", none), "rules_on", "rules_on", defArgs s_rules_on, defBody s_rules_on, defScope s_rules_on, [], []⟩
def d_hulls_under : He.DefD := ⟨("hulls_under", none), "hulls_under", "hulls_under", defArgs s_hulls_under, defBody s_hulls_under, defScope s_hulls_under, [], []⟩
def d_hulls_of : He.DefD := ⟨("hulls_of", none), "hulls_of", "hulls_of", defArgs s_hulls_of, defBody s_hulls_of, defScope s_hulls_of, [], []⟩
def d_grown : He.DefD := ⟨("grown", none), "grown", "grown", defArgs s_grown, defBody s_grown, defScope s_grown, [], []⟩
def d_cutting_of_rows : He.DefD := ⟨("cutting_of_rows", none), "cutting_of_rows", "cutting_of_rows", defArgs s_cutting_of_rows, defBody s_cutting_of_rows, defScope s_cutting_of_rows, [], []⟩
def d_unlike_corner : He.DefD := ⟨("unlike_corner", none), "unlike_corner", "unlike_corner", defArgs s_unlike_corner, defBody s_unlike_corner, defScope s_unlike_corner, [], []⟩
def d_alike : He.DefD := ⟨("alike", none), "alike", "alike", defArgs s_alike, defBody s_alike, defScope s_alike, [], []⟩
def d_L_mixed : He.DefD := ⟨("_law_mixed", none), "_law_mixed", "_law_mixed", defArgs s_L_mixed, defBody s_L_mixed, defScope s_L_mixed, [], []⟩
def d_L_next : He.DefD := ⟨("_law_next", none), "_law_next", "_law_next", defArgs s_L_next, defBody s_L_next, defScope s_L_next, [], []⟩
def d_L_saying : He.DefD := ⟨("_law_saying", none), "_law_saying", "_law_saying", defArgs s_L_saying, defBody s_L_saying, defScope s_L_saying, [], []⟩
def d_L_object : He.DefD := ⟨("_law_object", none), "_law_object", "_law_object", defArgs s_L_object, defBody s_L_object, defScope s_L_object, [], []⟩
def d_L_folds : He.DefD := ⟨("_law_folds", none), "_law_folds", "_law_folds", defArgs s_L_folds, defBody s_L_folds, defScope s_L_folds, [], []⟩
def d_L_fold : He.DefD := ⟨("_law_fold", none), "_law_fold", "_law_fold", defArgs s_L_fold, defBody s_L_fold, defScope s_L_fold, [], []⟩
def d_L_worth : He.DefD := ⟨("_law_worth", none), "_law_worth", "_law_worth", defArgs s_L_worth, defBody s_L_worth, defScope s_L_worth, [], []⟩
def d_L_whole : He.DefD := ⟨("_law_whole", none), "_law_whole", "_law_whole", defArgs s_L_whole, defBody s_L_whole, defScope s_L_whole, [], []⟩
def d_L_rows_to : He.DefD := ⟨("_law_rows_to", none), "_law_rows_to", "_law_rows_to", defArgs s_L_rows_to, defBody s_L_rows_to, defScope s_L_rows_to, [], []⟩
def d_L_tells : He.DefD := ⟨("_law_tells", none), "_law_tells", "_law_tells", defArgs s_L_tells, defBody s_L_tells, defScope s_L_tells, [], []⟩
def d_L_lowest : He.DefD := ⟨("_law_lowest", none), "_law_lowest", "_law_lowest", defArgs s_L_lowest, defBody s_L_lowest, defScope s_L_lowest, [], []⟩
def d_L_cut : He.DefD := ⟨("_law_cut", none), "_law_cut", "_law_cut", defArgs s_L_cut, defBody s_L_cut, defScope s_L_cut, [], []⟩
def d_L_sum : He.DefD := ⟨("_law_sum", none), "_law_sum", "_law_sum", defArgs s_L_sum, defBody s_L_sum, defScope s_L_sum, [], []⟩
def d_L_rule : He.DefD := ⟨("_law_rule", none), "_law_rule", "_law_rule", defArgs s_L_rule, defBody s_L_rule, defScope s_L_rule, [], []⟩
def d_L_rules : He.DefD := ⟨("_law_rules", none), "_law_rules", "_law_rules", defArgs s_L_rules, defBody s_L_rules, defScope s_L_rules, [], []⟩
def d_L_hulls : He.DefD := ⟨("_law_hulls", none), "_law_hulls", "_law_hulls", defArgs s_L_hulls, defBody s_L_hulls, defScope s_L_hulls, [], []⟩
def d_L_is_point : He.DefD := ⟨("_law_is_point", none), "_law_is_point", "_law_is_point", defArgs s_L_is_point, defBody s_L_is_point, defScope s_L_is_point, [], []⟩
def d_L_few : He.DefD := ⟨("_law_few", none), "_law_few", "_law_few", defArgs s_L_few, defBody s_L_few, defScope s_L_few, [], []⟩
def d_L_twins : He.DefD := ⟨("_law_twins", none), "_law_twins", "_law_twins", defArgs s_L_twins, defBody s_L_twins, defScope s_L_twins, [], []⟩
def d_L_same : He.DefD := ⟨("_law_same", none), "_law_same", "_law_same", defArgs s_L_same, defBody s_L_same, defScope s_L_same, [], []⟩
def d_L_told : He.DefD := ⟨("_law_told", none), "_law_told", "_law_told", defArgs s_L_told, defBody s_L_told, defScope s_L_told, [], []⟩
def d_law : He.DefD := ⟨("law", none), "law", "law", defArgs s_law, defBody s_law, defScope s_law, [], []⟩
def fn : List He.DefD := [d_square, d_told_by, d_shared, d_between, d_cut, d_Saying_inner, d_Saying_folds, d_Letter_init, d_Not_init, d_Not_inner, d_Fold_init, d_Fold_folds, d_is_place, d_is_row, d_rows_fault, d_word_of, d_place_of, d_put_rows, d_rows_of, d_sum_of, d_rest_of, d_test_of, d_lower_rule, d_upper_rule, d_fold_rule, d_rules_on, d_hulls_under, d_hulls_of, d_grown, d_cutting_of_rows, d_unlike_corner, d_alike, d_L_mixed, d_L_next, d_L_saying, d_L_object, d_L_folds, d_L_fold, d_L_worth, d_L_whole, d_L_rows_to, d_L_tells, d_L_lowest, d_L_cut, d_L_sum, d_L_rule, d_L_rules, d_L_hulls, d_L_is_point, d_L_few, d_L_twins, d_L_same, d_L_told, d_law]
def fa0 : List He.Fa := [.glo "square", .glo "told_by", .glo "shared", .glo "between", .glo "cut", .glo "is_place", .glo "is_row", .glo "rows_fault", .glo "word_of", .glo "place_of", .glo "put_rows", .glo "rows_of", .glo "sum_of", .glo "rest_of", .glo "test_of", .glo "lower_rule", .glo "upper_rule", .glo "fold_rule", .glo "rules_on", .glo "hulls_under", .glo "hulls_of", .glo "grown", .glo "cutting_of_rows", .glo "unlike_corner", .glo "alike", .glo "_law_mixed", .glo "_law_next", .glo "_law_saying", .glo "_law_object", .glo "_law_folds"]
def fa1 : List He.Fa := [.glo "_law_fold", .glo "_law_worth", .glo "_law_whole", .glo "_law_rows_to", .glo "_law_tells", .glo "_law_lowest", .glo "_law_cut", .glo "_law_sum", .glo "_law_rule", .glo "_law_rules", .glo "_law_hulls", .glo "_law_is_point", .glo "_law_few", .glo "_law_twins", .glo "_law_same", .glo "_law_told", .glo "law", .glo "Never", .glo "Always", .glo "Letter", .glo "Not", .glo "More", .glo "Less", .glo "Greater", .glo "Lesser", .glo "Leads", .glo "ONE", .glo "LEAF", .glo "PLAIN_rows", .glo "FOLDS"]
def fa2 : List He.Fa := [.glo "PLAIN_rules", .free "abs", .free "all", .free "bool", .free "enumerate", .free "int", .free "isinstance", .free "len", .free "max", .free "min", .free "range", .free "str", .free "sum", .free "tuple", .free "zip", .int "MOST" 400, .int "MOST_FOLDS" 8, .cls "Never", .cls "Always", .cls "Letter", .cls "Not", .cls "More", .cls "Less", .cls "Greater", .cls "Lesser", .cls "Leads", .noat "Letter" "name", .noat "Not" "part", .noat "More" "one", .noat "More" "other"]
def fa3 : List He.Fa := [.noat "Less" "one", .noat "Less" "other", .noat "Greater" "one", .noat "Greater" "other", .noat "Lesser" "one", .noat "Lesser" "other", .noat "Leads" "one", .noat "Leads" "other", .meth "Never" "folds", .meth "Always" "folds", .meth "Letter" "folds", .meth "Not" "folds", .meth "More" "folds", .meth "Less" "folds", .meth "Greater" "folds", .meth "Lesser" "folds", .meth "Leads" "folds", .meth "Never" "inner", .meth "Always" "inner", .meth "Letter" "inner", .meth "Not" "inner", .mkr "Letter", .mkr "Not", .mkr "More", .mkr "Less", .mkr "Greater", .mkr "Lesser", .mkr "Leads", .keep "Never", .keep "Always"]
def fa4 : List He.Fa := [.keep "Letter", .keep "Not", .keep "More", .keep "Less", .keep "Greater", .keep "Lesser", .keep "Leads"]
def fa : List He.Fa := fa0 ++ fa1 ++ fa2 ++ fa3 ++ fa4
def loose0 : List PySem.Str := ["_wall", "SayError", "NoRows", "TooMany", "NoCut", "square", "told_by", "shared", "between", "cut", "Saying", "Never", "Always", "Letter", "Not", "Fold", "More", "Less", "Greater", "Lesser", "Leads", "MOST", "PLAIN_rows", "FOLDS", "is_place", "is_row", "rows_fault", "word_of", "place_of", "put_rows"]
def loose1 : List PySem.Str := ["rows_of", "ONE", "PLAIN_rules", "sum_of", "rest_of", "test_of", "lower_rule", "upper_rule", "fold_rule", "rules_on", "MOST_FOLDS", "LEAF", "hulls_under", "hulls_of", "grown", "cutting_of_rows", "unlike_corner", "alike", "_law_mixed", "_law_next", "_law_saying", "_law_object", "_law_folds", "_law_fold", "_law_worth", "_law_whole", "_law_rows_to", "_law_tells", "_law_lowest", "_law_cut"]
def loose2 : List PySem.Str := ["_law_sum", "_law_rule", "_law_rules", "_law_hulls", "_law_holds", "_law_is_point", "_law_few", "_law_twins", "_law_same", "_law_told"]
def loose : List PySem.Str := loose0 ++ loose1 ++ loose2
def lawTop : Nat := 78
/-! ### further facts of the top -/
def clsNames : List Str := ["Never", "Always", "Letter", "Not", "More", "Less", "Greater", "Lesser", "Leads"]
def foldNames : List Str := ["More", "Less", "Greater", "Lesser", "Leads"]
/-- the tuple of ints at a value -/
def intsAtB (K : PySem.W.Frag) (v : Option (Option Value)) (ns : List Int) : Bool := match v with
  | some (some (.ref t)) => (match K.lookup t with
    | some ⟨.type c, _, .seq its _, _⟩ => decide (c = "tuple") && (decide (its.size ≤ sizeLine) && He.relAll (ns.map V.int) its.toList)
    | _ => false)
  | _ => false
def isB (K : PySem.W.Frag) (x y : Str) : Bool := decide (PySem.W.kitOne K (.ref (He.ga K x)) (.ref (He.ga K y)) = some (decide (x = y)))
def exB (K : PySem.W.Frag) : Bool :=
  He.tupB K "ONE" [.int 0, .int 0, .int 1] && (He.tupB K "LEAF" [.str "leaf"] && (He.tupB K "PLAIN_rows" [.str "never", .str "always", .str "p", .str "q"] && (He.tupB K "FOLDS" [.str "more", .str "less", .str "greater", .str "lesser", .str "leads"] &&
  (intsAtB K (PySem.W.nsIn K (He.ga K "PLAIN_rules") "never") [0, 0, 0] && (intsAtB K (PySem.W.nsIn K (He.ga K "PLAIN_rules") "always") [0, 0, 1] && (intsAtB K (PySem.W.nsIn K (He.ga K "PLAIN_rules") "p") [1, 0, 0] && (intsAtB K (PySem.W.nsIn K (He.ga K "PLAIN_rules") "q") [0, 1, 0] &&
  (PySem.W.makesIn K (He.ga K "Never") && (PySem.W.makesIn K (He.ga K "Always") && (He.eqO (PySem.W.findIn K (.ref (He.ga K "Never")) "__init__") (some (some (.builtin "object.__init__"))) && (He.eqO (PySem.W.findIn K (.ref (He.ga K "Always")) "__init__") (some (some (.builtin "object.__init__"))) &&
  (clsNames.all (fun x => He.eqO (PySem.W.findIn K (.ref (He.ga K x)) "__class__") (some (some (.builtin "object.__class__"))) && decide (PySem.W.mroIn K (He.ga K x) (.type "object") = some true)) &&
  (He.eqO (PySem.W.specialIn K (.builtin "object.__class__") "__get__") (some (some (.builtin "getset_descriptor.__get__"))) && (decide (PySem.W.takesIn K (.builtin "object.__class__") = some true) &&
  (clsNames.all (fun x => isB K x "Never" && (isB K x "Always" && (isB K x "Letter" && isB K x "Not"))) && (foldNames.all (fun x => foldNames.all fun y => isB K x y) &&
  (foldNames.all (fun x => decide (He.ma K (He.ga K x) "__init__" = He.ma K (He.ga K "Fold") "__init__") && decide (He.ma K (He.ga K x) "folds" = He.ma K (He.ga K "Fold") "folds")) &&
  (["Never", "Always", "Letter", "Not"].all (fun x => decide (He.ma K (He.ga K x) "folds" = He.ma K (He.ga K "Saying") "folds")) &&
  ["Never", "Always", "Letter"].all (fun x => decide (He.ma K (He.ga K x) "inner" = He.ma K (He.ga K "Saying") "inner"))))))))))))))))))))
/-! ### the Hook: the facts, the defs, the written dict, exB -/
def tabs : List He.Tab := [(fun K => He.ga K "PLAIN_rules", ["never", "always", "p", "q"])]
abbrev AlM : Type := He.AlT × Bool
/-- the places looked at: what the names reach in two steps stands in front (looked up most), then all of the small heap; asD at depth 4 tells the same, but its eraseDups takes 2 GB and 25 s -/
def asM (g : Addr → Option Obj) : List Addr := He.asD g 2 ++ List.range 800
def obM (g : Addr → Option Obj) : AlM := (He.obsT fa fn tabs (He.frG g (asM g)), exB (He.frG g (asM g)))
def hkM : PySem.W.Hook where
  α := AlM
  obs := fun s => obM s.heap.get?
  val := fun w => (He.valT fn tabs w, true)
  says := fun w h => ∃ K : PySem.W.Frag, K.In h ∧ He.SaysT fa fn tabs w K ∧ exB K = true
  of := fun _ _ e => ⟨_, He.frG_in, congrArg (fun z : AlM => z.1) e, congrArg (fun z : AlM => z.2) e⟩
  keeps := fun _ _ _ ⟨K, hK, c⟩ k => ⟨K, PySem.W.Frag.In.keeps hK k, c⟩
abbrev RR : PySem.W.OpenRow := PySem.W.OpenLaw.row PySem.Challenge.rw_leansay_k55_whole_alike_by_laws
def obT (s : PySem.W.SharedT) : AlM := obM (HandSHeadRun.getT s)
theorem obT_eq (s : PySem.W.SharedT) : obT s = hkM.obs s.abs := by
  have e : HandSHeadRun.getT s = s.abs.heap.get? := funext (HandSHeadRun.getT_eq s)
  unfold obT
  rw [e]
  rfl
/-! ### the facts, by names -/
structure Txt (w : World) (K : PySem.W.Frag) (mg : Str → Option Value) : Prop where
  of : ∃ h : Heap, K.In h ∧ h.Ns mainGlobals mg
  says : He.SaysT fa fn tabs w K
  ex : exB K = true
section
variable {w : World} {K : PySem.W.Frag} {mg : Str → Option Value}
theorem Txt.fact (T : Txt w K mg) (i : Nat) {f : He.Fa} (h : fa[i]? = some f) : f.ok K = true := T.says.d.fact i h
theorem Txt.g_square (T : Txt w K mg) : mg "square" = some (.ref (He.ga K "square")) := T.of.elim fun _ h => He.glo_ok h.1 h.2 (T.fact 0 (f := .glo "square") rfl)
theorem Txt.g_told_by (T : Txt w K mg) : mg "told_by" = some (.ref (He.ga K "told_by")) := T.of.elim fun _ h => He.glo_ok h.1 h.2 (T.fact 1 (f := .glo "told_by") rfl)
theorem Txt.g_shared (T : Txt w K mg) : mg "shared" = some (.ref (He.ga K "shared")) := T.of.elim fun _ h => He.glo_ok h.1 h.2 (T.fact 2 (f := .glo "shared") rfl)
theorem Txt.g_between (T : Txt w K mg) : mg "between" = some (.ref (He.ga K "between")) := T.of.elim fun _ h => He.glo_ok h.1 h.2 (T.fact 3 (f := .glo "between") rfl)
theorem Txt.g_cut (T : Txt w K mg) : mg "cut" = some (.ref (He.ga K "cut")) := T.of.elim fun _ h => He.glo_ok h.1 h.2 (T.fact 4 (f := .glo "cut") rfl)
theorem Txt.g_is_place (T : Txt w K mg) : mg "is_place" = some (.ref (He.ga K "is_place")) := T.of.elim fun _ h => He.glo_ok h.1 h.2 (T.fact 5 (f := .glo "is_place") rfl)
theorem Txt.g_is_row (T : Txt w K mg) : mg "is_row" = some (.ref (He.ga K "is_row")) := T.of.elim fun _ h => He.glo_ok h.1 h.2 (T.fact 6 (f := .glo "is_row") rfl)
theorem Txt.g_rows_fault (T : Txt w K mg) : mg "rows_fault" = some (.ref (He.ga K "rows_fault")) := T.of.elim fun _ h => He.glo_ok h.1 h.2 (T.fact 7 (f := .glo "rows_fault") rfl)
theorem Txt.g_word_of (T : Txt w K mg) : mg "word_of" = some (.ref (He.ga K "word_of")) := T.of.elim fun _ h => He.glo_ok h.1 h.2 (T.fact 8 (f := .glo "word_of") rfl)
theorem Txt.g_place_of (T : Txt w K mg) : mg "place_of" = some (.ref (He.ga K "place_of")) := T.of.elim fun _ h => He.glo_ok h.1 h.2 (T.fact 9 (f := .glo "place_of") rfl)
theorem Txt.g_put_rows (T : Txt w K mg) : mg "put_rows" = some (.ref (He.ga K "put_rows")) := T.of.elim fun _ h => He.glo_ok h.1 h.2 (T.fact 10 (f := .glo "put_rows") rfl)
theorem Txt.g_rows_of (T : Txt w K mg) : mg "rows_of" = some (.ref (He.ga K "rows_of")) := T.of.elim fun _ h => He.glo_ok h.1 h.2 (T.fact 11 (f := .glo "rows_of") rfl)
theorem Txt.g_sum_of (T : Txt w K mg) : mg "sum_of" = some (.ref (He.ga K "sum_of")) := T.of.elim fun _ h => He.glo_ok h.1 h.2 (T.fact 12 (f := .glo "sum_of") rfl)
theorem Txt.g_rest_of (T : Txt w K mg) : mg "rest_of" = some (.ref (He.ga K "rest_of")) := T.of.elim fun _ h => He.glo_ok h.1 h.2 (T.fact 13 (f := .glo "rest_of") rfl)
theorem Txt.g_test_of (T : Txt w K mg) : mg "test_of" = some (.ref (He.ga K "test_of")) := T.of.elim fun _ h => He.glo_ok h.1 h.2 (T.fact 14 (f := .glo "test_of") rfl)
theorem Txt.g_lower_rule (T : Txt w K mg) : mg "lower_rule" = some (.ref (He.ga K "lower_rule")) := T.of.elim fun _ h => He.glo_ok h.1 h.2 (T.fact 15 (f := .glo "lower_rule") rfl)
theorem Txt.g_upper_rule (T : Txt w K mg) : mg "upper_rule" = some (.ref (He.ga K "upper_rule")) := T.of.elim fun _ h => He.glo_ok h.1 h.2 (T.fact 16 (f := .glo "upper_rule") rfl)
theorem Txt.g_fold_rule (T : Txt w K mg) : mg "fold_rule" = some (.ref (He.ga K "fold_rule")) := T.of.elim fun _ h => He.glo_ok h.1 h.2 (T.fact 17 (f := .glo "fold_rule") rfl)
theorem Txt.g_rules_on (T : Txt w K mg) : mg "rules_on" = some (.ref (He.ga K "rules_on")) := T.of.elim fun _ h => He.glo_ok h.1 h.2 (T.fact 18 (f := .glo "rules_on") rfl)
theorem Txt.g_hulls_under (T : Txt w K mg) : mg "hulls_under" = some (.ref (He.ga K "hulls_under")) := T.of.elim fun _ h => He.glo_ok h.1 h.2 (T.fact 19 (f := .glo "hulls_under") rfl)
theorem Txt.g_hulls_of (T : Txt w K mg) : mg "hulls_of" = some (.ref (He.ga K "hulls_of")) := T.of.elim fun _ h => He.glo_ok h.1 h.2 (T.fact 20 (f := .glo "hulls_of") rfl)
theorem Txt.g_grown (T : Txt w K mg) : mg "grown" = some (.ref (He.ga K "grown")) := T.of.elim fun _ h => He.glo_ok h.1 h.2 (T.fact 21 (f := .glo "grown") rfl)
theorem Txt.g_cutting_of_rows (T : Txt w K mg) : mg "cutting_of_rows" = some (.ref (He.ga K "cutting_of_rows")) := T.of.elim fun _ h => He.glo_ok h.1 h.2 (T.fact 22 (f := .glo "cutting_of_rows") rfl)
theorem Txt.g_unlike_corner (T : Txt w K mg) : mg "unlike_corner" = some (.ref (He.ga K "unlike_corner")) := T.of.elim fun _ h => He.glo_ok h.1 h.2 (T.fact 23 (f := .glo "unlike_corner") rfl)
theorem Txt.g_alike (T : Txt w K mg) : mg "alike" = some (.ref (He.ga K "alike")) := T.of.elim fun _ h => He.glo_ok h.1 h.2 (T.fact 24 (f := .glo "alike") rfl)
theorem Txt.g_L_mixed (T : Txt w K mg) : mg "_law_mixed" = some (.ref (He.ga K "_law_mixed")) := T.of.elim fun _ h => He.glo_ok h.1 h.2 (T.fact 25 (f := .glo "_law_mixed") rfl)
theorem Txt.g_L_next (T : Txt w K mg) : mg "_law_next" = some (.ref (He.ga K "_law_next")) := T.of.elim fun _ h => He.glo_ok h.1 h.2 (T.fact 26 (f := .glo "_law_next") rfl)
theorem Txt.g_L_saying (T : Txt w K mg) : mg "_law_saying" = some (.ref (He.ga K "_law_saying")) := T.of.elim fun _ h => He.glo_ok h.1 h.2 (T.fact 27 (f := .glo "_law_saying") rfl)
theorem Txt.g_L_object (T : Txt w K mg) : mg "_law_object" = some (.ref (He.ga K "_law_object")) := T.of.elim fun _ h => He.glo_ok h.1 h.2 (T.fact 28 (f := .glo "_law_object") rfl)
theorem Txt.g_L_folds (T : Txt w K mg) : mg "_law_folds" = some (.ref (He.ga K "_law_folds")) := T.of.elim fun _ h => He.glo_ok h.1 h.2 (T.fact 29 (f := .glo "_law_folds") rfl)
theorem Txt.g_L_fold (T : Txt w K mg) : mg "_law_fold" = some (.ref (He.ga K "_law_fold")) := T.of.elim fun _ h => He.glo_ok h.1 h.2 (T.fact 30 (f := .glo "_law_fold") rfl)
theorem Txt.g_L_worth (T : Txt w K mg) : mg "_law_worth" = some (.ref (He.ga K "_law_worth")) := T.of.elim fun _ h => He.glo_ok h.1 h.2 (T.fact 31 (f := .glo "_law_worth") rfl)
theorem Txt.g_L_whole (T : Txt w K mg) : mg "_law_whole" = some (.ref (He.ga K "_law_whole")) := T.of.elim fun _ h => He.glo_ok h.1 h.2 (T.fact 32 (f := .glo "_law_whole") rfl)
theorem Txt.g_L_rows_to (T : Txt w K mg) : mg "_law_rows_to" = some (.ref (He.ga K "_law_rows_to")) := T.of.elim fun _ h => He.glo_ok h.1 h.2 (T.fact 33 (f := .glo "_law_rows_to") rfl)
theorem Txt.g_L_tells (T : Txt w K mg) : mg "_law_tells" = some (.ref (He.ga K "_law_tells")) := T.of.elim fun _ h => He.glo_ok h.1 h.2 (T.fact 34 (f := .glo "_law_tells") rfl)
theorem Txt.g_L_lowest (T : Txt w K mg) : mg "_law_lowest" = some (.ref (He.ga K "_law_lowest")) := T.of.elim fun _ h => He.glo_ok h.1 h.2 (T.fact 35 (f := .glo "_law_lowest") rfl)
theorem Txt.g_L_cut (T : Txt w K mg) : mg "_law_cut" = some (.ref (He.ga K "_law_cut")) := T.of.elim fun _ h => He.glo_ok h.1 h.2 (T.fact 36 (f := .glo "_law_cut") rfl)
theorem Txt.g_L_sum (T : Txt w K mg) : mg "_law_sum" = some (.ref (He.ga K "_law_sum")) := T.of.elim fun _ h => He.glo_ok h.1 h.2 (T.fact 37 (f := .glo "_law_sum") rfl)
theorem Txt.g_L_rule (T : Txt w K mg) : mg "_law_rule" = some (.ref (He.ga K "_law_rule")) := T.of.elim fun _ h => He.glo_ok h.1 h.2 (T.fact 38 (f := .glo "_law_rule") rfl)
theorem Txt.g_L_rules (T : Txt w K mg) : mg "_law_rules" = some (.ref (He.ga K "_law_rules")) := T.of.elim fun _ h => He.glo_ok h.1 h.2 (T.fact 39 (f := .glo "_law_rules") rfl)
theorem Txt.g_L_hulls (T : Txt w K mg) : mg "_law_hulls" = some (.ref (He.ga K "_law_hulls")) := T.of.elim fun _ h => He.glo_ok h.1 h.2 (T.fact 40 (f := .glo "_law_hulls") rfl)
theorem Txt.g_L_is_point (T : Txt w K mg) : mg "_law_is_point" = some (.ref (He.ga K "_law_is_point")) := T.of.elim fun _ h => He.glo_ok h.1 h.2 (T.fact 41 (f := .glo "_law_is_point") rfl)
theorem Txt.g_L_few (T : Txt w K mg) : mg "_law_few" = some (.ref (He.ga K "_law_few")) := T.of.elim fun _ h => He.glo_ok h.1 h.2 (T.fact 42 (f := .glo "_law_few") rfl)
theorem Txt.g_L_twins (T : Txt w K mg) : mg "_law_twins" = some (.ref (He.ga K "_law_twins")) := T.of.elim fun _ h => He.glo_ok h.1 h.2 (T.fact 43 (f := .glo "_law_twins") rfl)
theorem Txt.g_L_same (T : Txt w K mg) : mg "_law_same" = some (.ref (He.ga K "_law_same")) := T.of.elim fun _ h => He.glo_ok h.1 h.2 (T.fact 44 (f := .glo "_law_same") rfl)
theorem Txt.g_L_told (T : Txt w K mg) : mg "_law_told" = some (.ref (He.ga K "_law_told")) := T.of.elim fun _ h => He.glo_ok h.1 h.2 (T.fact 45 (f := .glo "_law_told") rfl)
theorem Txt.g_law (T : Txt w K mg) : mg "law" = some (.ref (He.ga K "law")) := T.of.elim fun _ h => He.glo_ok h.1 h.2 (T.fact 46 (f := .glo "law") rfl)
theorem Txt.g_Never (T : Txt w K mg) : mg "Never" = some (.ref (He.ga K "Never")) := T.of.elim fun _ h => He.glo_ok h.1 h.2 (T.fact 47 (f := .glo "Never") rfl)
theorem Txt.g_Always (T : Txt w K mg) : mg "Always" = some (.ref (He.ga K "Always")) := T.of.elim fun _ h => He.glo_ok h.1 h.2 (T.fact 48 (f := .glo "Always") rfl)
theorem Txt.g_Letter (T : Txt w K mg) : mg "Letter" = some (.ref (He.ga K "Letter")) := T.of.elim fun _ h => He.glo_ok h.1 h.2 (T.fact 49 (f := .glo "Letter") rfl)
theorem Txt.g_Not (T : Txt w K mg) : mg "Not" = some (.ref (He.ga K "Not")) := T.of.elim fun _ h => He.glo_ok h.1 h.2 (T.fact 50 (f := .glo "Not") rfl)
theorem Txt.g_More (T : Txt w K mg) : mg "More" = some (.ref (He.ga K "More")) := T.of.elim fun _ h => He.glo_ok h.1 h.2 (T.fact 51 (f := .glo "More") rfl)
theorem Txt.g_Less (T : Txt w K mg) : mg "Less" = some (.ref (He.ga K "Less")) := T.of.elim fun _ h => He.glo_ok h.1 h.2 (T.fact 52 (f := .glo "Less") rfl)
theorem Txt.g_Greater (T : Txt w K mg) : mg "Greater" = some (.ref (He.ga K "Greater")) := T.of.elim fun _ h => He.glo_ok h.1 h.2 (T.fact 53 (f := .glo "Greater") rfl)
theorem Txt.g_Lesser (T : Txt w K mg) : mg "Lesser" = some (.ref (He.ga K "Lesser")) := T.of.elim fun _ h => He.glo_ok h.1 h.2 (T.fact 54 (f := .glo "Lesser") rfl)
theorem Txt.g_Leads (T : Txt w K mg) : mg "Leads" = some (.ref (He.ga K "Leads")) := T.of.elim fun _ h => He.glo_ok h.1 h.2 (T.fact 55 (f := .glo "Leads") rfl)
theorem Txt.g_ONE (T : Txt w K mg) : mg "ONE" = some (.ref (He.ga K "ONE")) := T.of.elim fun _ h => He.glo_ok h.1 h.2 (T.fact 56 (f := .glo "ONE") rfl)
theorem Txt.g_LEAF (T : Txt w K mg) : mg "LEAF" = some (.ref (He.ga K "LEAF")) := T.of.elim fun _ h => He.glo_ok h.1 h.2 (T.fact 57 (f := .glo "LEAF") rfl)
theorem Txt.g_PLAIN_rows (T : Txt w K mg) : mg "PLAIN_rows" = some (.ref (He.ga K "PLAIN_rows")) := T.of.elim fun _ h => He.glo_ok h.1 h.2 (T.fact 58 (f := .glo "PLAIN_rows") rfl)
theorem Txt.g_FOLDS (T : Txt w K mg) : mg "FOLDS" = some (.ref (He.ga K "FOLDS")) := T.of.elim fun _ h => He.glo_ok h.1 h.2 (T.fact 59 (f := .glo "FOLDS") rfl)
theorem Txt.g_PLAIN_rules (T : Txt w K mg) : mg "PLAIN_rules" = some (.ref (He.ga K "PLAIN_rules")) := T.of.elim fun _ h => He.glo_ok h.1 h.2 (T.fact 60 (f := .glo "PLAIN_rules") rfl)
theorem Txt.z_abs (T : Txt w K mg) : mg "abs" = none := T.of.elim fun _ h => He.free_ok h.1 h.2 (T.fact 61 (f := .free "abs") rfl)
theorem Txt.z_all (T : Txt w K mg) : mg "all" = none := T.of.elim fun _ h => He.free_ok h.1 h.2 (T.fact 62 (f := .free "all") rfl)
theorem Txt.z_bool (T : Txt w K mg) : mg "bool" = none := T.of.elim fun _ h => He.free_ok h.1 h.2 (T.fact 63 (f := .free "bool") rfl)
theorem Txt.z_enumerate (T : Txt w K mg) : mg "enumerate" = none := T.of.elim fun _ h => He.free_ok h.1 h.2 (T.fact 64 (f := .free "enumerate") rfl)
theorem Txt.z_int (T : Txt w K mg) : mg "int" = none := T.of.elim fun _ h => He.free_ok h.1 h.2 (T.fact 65 (f := .free "int") rfl)
theorem Txt.z_isinstance (T : Txt w K mg) : mg "isinstance" = none := T.of.elim fun _ h => He.free_ok h.1 h.2 (T.fact 66 (f := .free "isinstance") rfl)
theorem Txt.z_len (T : Txt w K mg) : mg "len" = none := T.of.elim fun _ h => He.free_ok h.1 h.2 (T.fact 67 (f := .free "len") rfl)
theorem Txt.z_max (T : Txt w K mg) : mg "max" = none := T.of.elim fun _ h => He.free_ok h.1 h.2 (T.fact 68 (f := .free "max") rfl)
theorem Txt.z_min (T : Txt w K mg) : mg "min" = none := T.of.elim fun _ h => He.free_ok h.1 h.2 (T.fact 69 (f := .free "min") rfl)
theorem Txt.z_range (T : Txt w K mg) : mg "range" = none := T.of.elim fun _ h => He.free_ok h.1 h.2 (T.fact 70 (f := .free "range") rfl)
theorem Txt.z_str (T : Txt w K mg) : mg "str" = none := T.of.elim fun _ h => He.free_ok h.1 h.2 (T.fact 71 (f := .free "str") rfl)
theorem Txt.z_sum (T : Txt w K mg) : mg "sum" = none := T.of.elim fun _ h => He.free_ok h.1 h.2 (T.fact 72 (f := .free "sum") rfl)
theorem Txt.z_tuple (T : Txt w K mg) : mg "tuple" = none := T.of.elim fun _ h => He.free_ok h.1 h.2 (T.fact 73 (f := .free "tuple") rfl)
theorem Txt.z_zip (T : Txt w K mg) : mg "zip" = none := T.of.elim fun _ h => He.free_ok h.1 h.2 (T.fact 74 (f := .free "zip") rfl)
theorem Txt.h_MOST (T : Txt w K mg) : ∃ t, mg "MOST" = some (.int 400 t) := T.of.elim fun _ h => He.int_ok h.1 h.2 (T.fact 75 (f := .int "MOST" 400) rfl)
theorem Txt.h_MOST_FOLDS (T : Txt w K mg) : ∃ t, mg "MOST_FOLDS" = some (.int 8 t) := T.of.elim fun _ h => He.int_ok h.1 h.2 (T.fact 76 (f := .int "MOST_FOLDS" 8) rfl)
theorem Txt.cl_Never (T : Txt w K mg) : Cls K (He.ga K "Never") := He.cls_ok (T.fact 77 (f := .cls "Never") rfl)
theorem Txt.cl_Always (T : Txt w K mg) : Cls K (He.ga K "Always") := He.cls_ok (T.fact 78 (f := .cls "Always") rfl)
theorem Txt.cl_Letter (T : Txt w K mg) : Cls K (He.ga K "Letter") := He.cls_ok (T.fact 79 (f := .cls "Letter") rfl)
theorem Txt.cl_Not (T : Txt w K mg) : Cls K (He.ga K "Not") := He.cls_ok (T.fact 80 (f := .cls "Not") rfl)
theorem Txt.cl_More (T : Txt w K mg) : Cls K (He.ga K "More") := He.cls_ok (T.fact 81 (f := .cls "More") rfl)
theorem Txt.cl_Less (T : Txt w K mg) : Cls K (He.ga K "Less") := He.cls_ok (T.fact 82 (f := .cls "Less") rfl)
theorem Txt.cl_Greater (T : Txt w K mg) : Cls K (He.ga K "Greater") := He.cls_ok (T.fact 83 (f := .cls "Greater") rfl)
theorem Txt.cl_Lesser (T : Txt w K mg) : Cls K (He.ga K "Lesser") := He.cls_ok (T.fact 84 (f := .cls "Lesser") rfl)
theorem Txt.cl_Leads (T : Txt w K mg) : Cls K (He.ga K "Leads") := He.cls_ok (T.fact 85 (f := .cls "Leads") rfl)
theorem Txt.na_Letter_name (T : Txt w K mg) : NoAttr K (He.ga K "Letter") "name" := He.noat_ok (T.fact 86 (f := .noat "Letter" "name") rfl)
theorem Txt.na_Not_part (T : Txt w K mg) : NoAttr K (He.ga K "Not") "part" := He.noat_ok (T.fact 87 (f := .noat "Not" "part") rfl)
theorem Txt.na_More_one (T : Txt w K mg) : NoAttr K (He.ga K "More") "one" := He.noat_ok (T.fact 88 (f := .noat "More" "one") rfl)
theorem Txt.na_More_other (T : Txt w K mg) : NoAttr K (He.ga K "More") "other" := He.noat_ok (T.fact 89 (f := .noat "More" "other") rfl)
theorem Txt.na_Less_one (T : Txt w K mg) : NoAttr K (He.ga K "Less") "one" := He.noat_ok (T.fact 90 (f := .noat "Less" "one") rfl)
theorem Txt.na_Less_other (T : Txt w K mg) : NoAttr K (He.ga K "Less") "other" := He.noat_ok (T.fact 91 (f := .noat "Less" "other") rfl)
theorem Txt.na_Greater_one (T : Txt w K mg) : NoAttr K (He.ga K "Greater") "one" := He.noat_ok (T.fact 92 (f := .noat "Greater" "one") rfl)
theorem Txt.na_Greater_other (T : Txt w K mg) : NoAttr K (He.ga K "Greater") "other" := He.noat_ok (T.fact 93 (f := .noat "Greater" "other") rfl)
theorem Txt.na_Lesser_one (T : Txt w K mg) : NoAttr K (He.ga K "Lesser") "one" := He.noat_ok (T.fact 94 (f := .noat "Lesser" "one") rfl)
theorem Txt.na_Lesser_other (T : Txt w K mg) : NoAttr K (He.ga K "Lesser") "other" := He.noat_ok (T.fact 95 (f := .noat "Lesser" "other") rfl)
theorem Txt.na_Leads_one (T : Txt w K mg) : NoAttr K (He.ga K "Leads") "one" := He.noat_ok (T.fact 96 (f := .noat "Leads" "one") rfl)
theorem Txt.na_Leads_other (T : Txt w K mg) : NoAttr K (He.ga K "Leads") "other" := He.noat_ok (T.fact 97 (f := .noat "Leads" "other") rfl)
theorem Txt.me_Never_folds (T : Txt w K mg) : Meth K (He.ga K "Never") "folds" (He.ma K (He.ga K "Never") "folds") := He.meth_ok (T.fact 98 (f := .meth "Never" "folds") rfl)
theorem Txt.me_Always_folds (T : Txt w K mg) : Meth K (He.ga K "Always") "folds" (He.ma K (He.ga K "Always") "folds") := He.meth_ok (T.fact 99 (f := .meth "Always" "folds") rfl)
theorem Txt.me_Letter_folds (T : Txt w K mg) : Meth K (He.ga K "Letter") "folds" (He.ma K (He.ga K "Letter") "folds") := He.meth_ok (T.fact 100 (f := .meth "Letter" "folds") rfl)
theorem Txt.me_Not_folds (T : Txt w K mg) : Meth K (He.ga K "Not") "folds" (He.ma K (He.ga K "Not") "folds") := He.meth_ok (T.fact 101 (f := .meth "Not" "folds") rfl)
theorem Txt.me_More_folds (T : Txt w K mg) : Meth K (He.ga K "More") "folds" (He.ma K (He.ga K "More") "folds") := He.meth_ok (T.fact 102 (f := .meth "More" "folds") rfl)
theorem Txt.me_Less_folds (T : Txt w K mg) : Meth K (He.ga K "Less") "folds" (He.ma K (He.ga K "Less") "folds") := He.meth_ok (T.fact 103 (f := .meth "Less" "folds") rfl)
theorem Txt.me_Greater_folds (T : Txt w K mg) : Meth K (He.ga K "Greater") "folds" (He.ma K (He.ga K "Greater") "folds") := He.meth_ok (T.fact 104 (f := .meth "Greater" "folds") rfl)
theorem Txt.me_Lesser_folds (T : Txt w K mg) : Meth K (He.ga K "Lesser") "folds" (He.ma K (He.ga K "Lesser") "folds") := He.meth_ok (T.fact 105 (f := .meth "Lesser" "folds") rfl)
theorem Txt.me_Leads_folds (T : Txt w K mg) : Meth K (He.ga K "Leads") "folds" (He.ma K (He.ga K "Leads") "folds") := He.meth_ok (T.fact 106 (f := .meth "Leads" "folds") rfl)
theorem Txt.me_Never_inner (T : Txt w K mg) : Meth K (He.ga K "Never") "inner" (He.ma K (He.ga K "Never") "inner") := He.meth_ok (T.fact 107 (f := .meth "Never" "inner") rfl)
theorem Txt.me_Always_inner (T : Txt w K mg) : Meth K (He.ga K "Always") "inner" (He.ma K (He.ga K "Always") "inner") := He.meth_ok (T.fact 108 (f := .meth "Always" "inner") rfl)
theorem Txt.me_Letter_inner (T : Txt w K mg) : Meth K (He.ga K "Letter") "inner" (He.ma K (He.ga K "Letter") "inner") := He.meth_ok (T.fact 109 (f := .meth "Letter" "inner") rfl)
theorem Txt.me_Not_inner (T : Txt w K mg) : Meth K (He.ga K "Not") "inner" (He.ma K (He.ga K "Not") "inner") := He.meth_ok (T.fact 110 (f := .meth "Not" "inner") rfl)
theorem Txt.mk_Letter (T : Txt w K mg) : Mk K (He.ga K "Letter") (He.ma K (He.ga K "Letter") "__init__") := He.mkr_ok (T.fact 111 (f := .mkr "Letter") rfl)
theorem Txt.mk_Not (T : Txt w K mg) : Mk K (He.ga K "Not") (He.ma K (He.ga K "Not") "__init__") := He.mkr_ok (T.fact 112 (f := .mkr "Not") rfl)
theorem Txt.mk_More (T : Txt w K mg) : Mk K (He.ga K "More") (He.ma K (He.ga K "More") "__init__") := He.mkr_ok (T.fact 113 (f := .mkr "More") rfl)
theorem Txt.mk_Less (T : Txt w K mg) : Mk K (He.ga K "Less") (He.ma K (He.ga K "Less") "__init__") := He.mkr_ok (T.fact 114 (f := .mkr "Less") rfl)
theorem Txt.mk_Greater (T : Txt w K mg) : Mk K (He.ga K "Greater") (He.ma K (He.ga K "Greater") "__init__") := He.mkr_ok (T.fact 115 (f := .mkr "Greater") rfl)
theorem Txt.mk_Lesser (T : Txt w K mg) : Mk K (He.ga K "Lesser") (He.ma K (He.ga K "Lesser") "__init__") := He.mkr_ok (T.fact 116 (f := .mkr "Lesser") rfl)
theorem Txt.mk_Leads (T : Txt w K mg) : Mk K (He.ga K "Leads") (He.ma K (He.ga K "Leads") "__init__") := He.mkr_ok (T.fact 117 (f := .mkr "Leads") rfl)
theorem Txt.ke_Never (T : Txt w K mg) : PySem.W.keepIn K (.ref (He.ga K "Never")) = true := He.keep_ok (T.fact 118 (f := .keep "Never") rfl)
theorem Txt.ke_Always (T : Txt w K mg) : PySem.W.keepIn K (.ref (He.ga K "Always")) = true := He.keep_ok (T.fact 119 (f := .keep "Always") rfl)
theorem Txt.ke_Letter (T : Txt w K mg) : PySem.W.keepIn K (.ref (He.ga K "Letter")) = true := He.keep_ok (T.fact 120 (f := .keep "Letter") rfl)
theorem Txt.ke_Not (T : Txt w K mg) : PySem.W.keepIn K (.ref (He.ga K "Not")) = true := He.keep_ok (T.fact 121 (f := .keep "Not") rfl)
theorem Txt.ke_More (T : Txt w K mg) : PySem.W.keepIn K (.ref (He.ga K "More")) = true := He.keep_ok (T.fact 122 (f := .keep "More") rfl)
theorem Txt.ke_Less (T : Txt w K mg) : PySem.W.keepIn K (.ref (He.ga K "Less")) = true := He.keep_ok (T.fact 123 (f := .keep "Less") rfl)
theorem Txt.ke_Greater (T : Txt w K mg) : PySem.W.keepIn K (.ref (He.ga K "Greater")) = true := He.keep_ok (T.fact 124 (f := .keep "Greater") rfl)
theorem Txt.ke_Lesser (T : Txt w K mg) : PySem.W.keepIn K (.ref (He.ga K "Lesser")) = true := He.keep_ok (T.fact 125 (f := .keep "Lesser") rfl)
theorem Txt.ke_Leads (T : Txt w K mg) : PySem.W.keepIn K (.ref (He.ga K "Leads")) = true := He.keep_ok (T.fact 126 (f := .keep "Leads") rfl)
theorem Txt.F_square (T : Txt w K mg) : ∃ fd, FunD K "square" "square" (defArgs s_square) (defBody s_square) (defScope s_square) [] [] (He.ga K "square") fd := T.says.d.def_ 0 (d := d_square) rfl
theorem Txt.F_told_by (T : Txt w K mg) : ∃ fd, FunD K "told_by" "told_by" (defArgs s_told_by) (defBody s_told_by) (defScope s_told_by) [] [] (He.ga K "told_by") fd := T.says.d.def_ 1 (d := d_told_by) rfl
theorem Txt.F_shared (T : Txt w K mg) : ∃ fd, FunD K "shared" "shared" (defArgs s_shared) (defBody s_shared) (defScope s_shared) [] [] (He.ga K "shared") fd := T.says.d.def_ 2 (d := d_shared) rfl
theorem Txt.F_between (T : Txt w K mg) : ∃ fd, FunD K "between" "between" (defArgs s_between) (defBody s_between) (defScope s_between) [] [] (He.ga K "between") fd := T.says.d.def_ 3 (d := d_between) rfl
theorem Txt.F_cut (T : Txt w K mg) : ∃ fd, FunD K "cut" "cut" (defArgs s_cut) (defBody s_cut) (defScope s_cut) [] [] (He.ga K "cut") fd := T.says.d.def_ 4 (d := d_cut) rfl
theorem Txt.F_Saying_inner (T : Txt w K mg) : ∃ fd, FunD K "inner" "Saying.inner" (defArgs s_Saying_inner) (defBody s_Saying_inner) (defScope s_Saying_inner) [] [] (He.ma K (He.ga K "Saying") "inner") fd := T.says.d.def_ 5 (d := d_Saying_inner) rfl
theorem Txt.F_Saying_folds (T : Txt w K mg) : ∃ fd, FunD K "folds" "Saying.folds" (defArgs s_Saying_folds) (defBody s_Saying_folds) (defScope s_Saying_folds) [] [] (He.ma K (He.ga K "Saying") "folds") fd := T.says.d.def_ 6 (d := d_Saying_folds) rfl
theorem Txt.F_Letter_init (T : Txt w K mg) : ∃ fd, FunD K "__init__" "Letter.__init__" (defArgs s_Letter_init) (defBody s_Letter_init) (defScope s_Letter_init) [] [] (He.ma K (He.ga K "Letter") "__init__") fd := T.says.d.def_ 7 (d := d_Letter_init) rfl
theorem Txt.F_Not_init (T : Txt w K mg) : ∃ fd, FunD K "__init__" "Not.__init__" (defArgs s_Not_init) (defBody s_Not_init) (defScope s_Not_init) [] [] (He.ma K (He.ga K "Not") "__init__") fd := T.says.d.def_ 8 (d := d_Not_init) rfl
theorem Txt.F_Not_inner (T : Txt w K mg) : ∃ fd, FunD K "inner" "Not.inner" (defArgs s_Not_inner) (defBody s_Not_inner) (defScope s_Not_inner) [] [] (He.ma K (He.ga K "Not") "inner") fd := T.says.d.def_ 9 (d := d_Not_inner) rfl
theorem Txt.F_Fold_init (T : Txt w K mg) : ∃ fd, FunD K "__init__" "Fold.__init__" (defArgs s_Fold_init) (defBody s_Fold_init) (defScope s_Fold_init) [] [] (He.ma K (He.ga K "Fold") "__init__") fd := T.says.d.def_ 10 (d := d_Fold_init) rfl
theorem Txt.F_Fold_folds (T : Txt w K mg) : ∃ fd, FunD K "folds" "Fold.folds" (defArgs s_Fold_folds) (defBody s_Fold_folds) (defScope s_Fold_folds) [] [] (He.ma K (He.ga K "Fold") "folds") fd := T.says.d.def_ 11 (d := d_Fold_folds) rfl
theorem Txt.F_is_place (T : Txt w K mg) : ∃ fd, FunD K "is_place" "is_place" (defArgs s_is_place) (defBody s_is_place) (defScope s_is_place) [] [] (He.ga K "is_place") fd := T.says.d.def_ 12 (d := d_is_place) rfl
theorem Txt.F_is_row (T : Txt w K mg) : ∃ fd, FunD K "is_row" "is_row" (defArgs s_is_row) (defBody s_is_row) (defScope s_is_row) [] [] (He.ga K "is_row") fd := T.says.d.def_ 13 (d := d_is_row) rfl
theorem Txt.F_rows_fault (T : Txt w K mg) : ∃ fd, FunD K "rows_fault" "rows_fault" (defArgs s_rows_fault) (defBody s_rows_fault) (defScope s_rows_fault) [] [] (He.ga K "rows_fault") fd := T.says.d.def_ 14 (d := d_rows_fault) rfl
theorem Txt.F_word_of (T : Txt w K mg) : ∃ fd, FunD K "word_of" "word_of" (defArgs s_word_of) (defBody s_word_of) (defScope s_word_of) [] [] (He.ga K "word_of") fd := T.says.d.def_ 15 (d := d_word_of) rfl
theorem Txt.F_place_of (T : Txt w K mg) : ∃ fd, FunD K "place_of" "place_of" (defArgs s_place_of) (defBody s_place_of) (defScope s_place_of) [] [] (He.ga K "place_of") fd := T.says.d.def_ 16 (d := d_place_of) rfl
theorem Txt.F_put_rows (T : Txt w K mg) : ∃ fd, FunD K "put_rows" "put_rows" (defArgs s_put_rows) (defBody s_put_rows) (defScope s_put_rows) [] [] (He.ga K "put_rows") fd := T.says.d.def_ 17 (d := d_put_rows) rfl
theorem Txt.F_rows_of (T : Txt w K mg) : ∃ fd, FunD K "rows_of" "rows_of" (defArgs s_rows_of) (defBody s_rows_of) (defScope s_rows_of) [] [] (He.ga K "rows_of") fd := T.says.d.def_ 18 (d := d_rows_of) rfl
theorem Txt.F_sum_of (T : Txt w K mg) : ∃ fd, FunD K "sum_of" "sum_of" (defArgs s_sum_of) (defBody s_sum_of) (defScope s_sum_of) [] [] (He.ga K "sum_of") fd := T.says.d.def_ 19 (d := d_sum_of) rfl
theorem Txt.F_rest_of (T : Txt w K mg) : ∃ fd, FunD K "rest_of" "rest_of" (defArgs s_rest_of) (defBody s_rest_of) (defScope s_rest_of) [] [] (He.ga K "rest_of") fd := T.says.d.def_ 20 (d := d_rest_of) rfl
theorem Txt.F_test_of (T : Txt w K mg) : ∃ fd, FunD K "test_of" "test_of" (defArgs s_test_of) (defBody s_test_of) (defScope s_test_of) [] [] (He.ga K "test_of") fd := T.says.d.def_ 21 (d := d_test_of) rfl
theorem Txt.F_lower_rule (T : Txt w K mg) : ∃ fd, FunD K "lower_rule" "lower_rule" (defArgs s_lower_rule) (defBody s_lower_rule) (defScope s_lower_rule) [] [] (He.ga K "lower_rule") fd := T.says.d.def_ 22 (d := d_lower_rule) rfl
theorem Txt.F_upper_rule (T : Txt w K mg) : ∃ fd, FunD K "upper_rule" "upper_rule" (defArgs s_upper_rule) (defBody s_upper_rule) (defScope s_upper_rule) [] [] (He.ga K "upper_rule") fd := T.says.d.def_ 23 (d := d_upper_rule) rfl
theorem Txt.F_fold_rule (T : Txt w K mg) : ∃ fd, FunD K "fold_rule" "fold_rule" (defArgs s_fold_rule) (defBody s_fold_rule) (defScope s_fold_rule) [] [] (He.ga K "fold_rule") fd := T.says.d.def_ 24 (d := d_fold_rule) rfl
theorem Txt.F_rules_on (T : Txt w K mg) : ∃ fd, FunD K "rules_on" "rules_on" (defArgs s_rules_on) (defBody s_rules_on) (defScope s_rules_on) [] [] (He.ga K "rules_on") fd := T.says.d.def_ 25 (d := d_rules_on) rfl
theorem Txt.F_hulls_under (T : Txt w K mg) : ∃ fd, FunD K "hulls_under" "hulls_under" (defArgs s_hulls_under) (defBody s_hulls_under) (defScope s_hulls_under) [] [] (He.ga K "hulls_under") fd := T.says.d.def_ 26 (d := d_hulls_under) rfl
theorem Txt.F_hulls_of (T : Txt w K mg) : ∃ fd, FunD K "hulls_of" "hulls_of" (defArgs s_hulls_of) (defBody s_hulls_of) (defScope s_hulls_of) [] [] (He.ga K "hulls_of") fd := T.says.d.def_ 27 (d := d_hulls_of) rfl
theorem Txt.F_grown (T : Txt w K mg) : ∃ fd, FunD K "grown" "grown" (defArgs s_grown) (defBody s_grown) (defScope s_grown) [] [] (He.ga K "grown") fd := T.says.d.def_ 28 (d := d_grown) rfl
theorem Txt.F_cutting_of_rows (T : Txt w K mg) : ∃ fd, FunD K "cutting_of_rows" "cutting_of_rows" (defArgs s_cutting_of_rows) (defBody s_cutting_of_rows) (defScope s_cutting_of_rows) [] [] (He.ga K "cutting_of_rows") fd := T.says.d.def_ 29 (d := d_cutting_of_rows) rfl
theorem Txt.F_unlike_corner (T : Txt w K mg) : ∃ fd, FunD K "unlike_corner" "unlike_corner" (defArgs s_unlike_corner) (defBody s_unlike_corner) (defScope s_unlike_corner) [] [] (He.ga K "unlike_corner") fd := T.says.d.def_ 30 (d := d_unlike_corner) rfl
theorem Txt.F_alike (T : Txt w K mg) : ∃ fd, FunD K "alike" "alike" (defArgs s_alike) (defBody s_alike) (defScope s_alike) [] [] (He.ga K "alike") fd := T.says.d.def_ 31 (d := d_alike) rfl
theorem Txt.F_L_mixed (T : Txt w K mg) : ∃ fd, FunD K "_law_mixed" "_law_mixed" (defArgs s_L_mixed) (defBody s_L_mixed) (defScope s_L_mixed) [] [] (He.ga K "_law_mixed") fd := T.says.d.def_ 32 (d := d_L_mixed) rfl
theorem Txt.F_L_next (T : Txt w K mg) : ∃ fd, FunD K "_law_next" "_law_next" (defArgs s_L_next) (defBody s_L_next) (defScope s_L_next) [] [] (He.ga K "_law_next") fd := T.says.d.def_ 33 (d := d_L_next) rfl
theorem Txt.F_L_saying (T : Txt w K mg) : ∃ fd, FunD K "_law_saying" "_law_saying" (defArgs s_L_saying) (defBody s_L_saying) (defScope s_L_saying) [] [] (He.ga K "_law_saying") fd := T.says.d.def_ 34 (d := d_L_saying) rfl
theorem Txt.F_L_object (T : Txt w K mg) : ∃ fd, FunD K "_law_object" "_law_object" (defArgs s_L_object) (defBody s_L_object) (defScope s_L_object) [] [] (He.ga K "_law_object") fd := T.says.d.def_ 35 (d := d_L_object) rfl
theorem Txt.F_L_folds (T : Txt w K mg) : ∃ fd, FunD K "_law_folds" "_law_folds" (defArgs s_L_folds) (defBody s_L_folds) (defScope s_L_folds) [] [] (He.ga K "_law_folds") fd := T.says.d.def_ 36 (d := d_L_folds) rfl
theorem Txt.F_L_fold (T : Txt w K mg) : ∃ fd, FunD K "_law_fold" "_law_fold" (defArgs s_L_fold) (defBody s_L_fold) (defScope s_L_fold) [] [] (He.ga K "_law_fold") fd := T.says.d.def_ 37 (d := d_L_fold) rfl
theorem Txt.F_L_worth (T : Txt w K mg) : ∃ fd, FunD K "_law_worth" "_law_worth" (defArgs s_L_worth) (defBody s_L_worth) (defScope s_L_worth) [] [] (He.ga K "_law_worth") fd := T.says.d.def_ 38 (d := d_L_worth) rfl
theorem Txt.F_L_whole (T : Txt w K mg) : ∃ fd, FunD K "_law_whole" "_law_whole" (defArgs s_L_whole) (defBody s_L_whole) (defScope s_L_whole) [] [] (He.ga K "_law_whole") fd := T.says.d.def_ 39 (d := d_L_whole) rfl
theorem Txt.F_L_rows_to (T : Txt w K mg) : ∃ fd, FunD K "_law_rows_to" "_law_rows_to" (defArgs s_L_rows_to) (defBody s_L_rows_to) (defScope s_L_rows_to) [] [] (He.ga K "_law_rows_to") fd := T.says.d.def_ 40 (d := d_L_rows_to) rfl
theorem Txt.F_L_tells (T : Txt w K mg) : ∃ fd, FunD K "_law_tells" "_law_tells" (defArgs s_L_tells) (defBody s_L_tells) (defScope s_L_tells) [] [] (He.ga K "_law_tells") fd := T.says.d.def_ 41 (d := d_L_tells) rfl
theorem Txt.F_L_lowest (T : Txt w K mg) : ∃ fd, FunD K "_law_lowest" "_law_lowest" (defArgs s_L_lowest) (defBody s_L_lowest) (defScope s_L_lowest) [] [] (He.ga K "_law_lowest") fd := T.says.d.def_ 42 (d := d_L_lowest) rfl
theorem Txt.F_L_cut (T : Txt w K mg) : ∃ fd, FunD K "_law_cut" "_law_cut" (defArgs s_L_cut) (defBody s_L_cut) (defScope s_L_cut) [] [] (He.ga K "_law_cut") fd := T.says.d.def_ 43 (d := d_L_cut) rfl
theorem Txt.F_L_sum (T : Txt w K mg) : ∃ fd, FunD K "_law_sum" "_law_sum" (defArgs s_L_sum) (defBody s_L_sum) (defScope s_L_sum) [] [] (He.ga K "_law_sum") fd := T.says.d.def_ 44 (d := d_L_sum) rfl
theorem Txt.F_L_rule (T : Txt w K mg) : ∃ fd, FunD K "_law_rule" "_law_rule" (defArgs s_L_rule) (defBody s_L_rule) (defScope s_L_rule) [] [] (He.ga K "_law_rule") fd := T.says.d.def_ 45 (d := d_L_rule) rfl
theorem Txt.F_L_rules (T : Txt w K mg) : ∃ fd, FunD K "_law_rules" "_law_rules" (defArgs s_L_rules) (defBody s_L_rules) (defScope s_L_rules) [] [] (He.ga K "_law_rules") fd := T.says.d.def_ 46 (d := d_L_rules) rfl
theorem Txt.F_L_hulls (T : Txt w K mg) : ∃ fd, FunD K "_law_hulls" "_law_hulls" (defArgs s_L_hulls) (defBody s_L_hulls) (defScope s_L_hulls) [] [] (He.ga K "_law_hulls") fd := T.says.d.def_ 47 (d := d_L_hulls) rfl
theorem Txt.F_L_is_point (T : Txt w K mg) : ∃ fd, FunD K "_law_is_point" "_law_is_point" (defArgs s_L_is_point) (defBody s_L_is_point) (defScope s_L_is_point) [] [] (He.ga K "_law_is_point") fd := T.says.d.def_ 48 (d := d_L_is_point) rfl
theorem Txt.F_L_few (T : Txt w K mg) : ∃ fd, FunD K "_law_few" "_law_few" (defArgs s_L_few) (defBody s_L_few) (defScope s_L_few) [] [] (He.ga K "_law_few") fd := T.says.d.def_ 49 (d := d_L_few) rfl
theorem Txt.F_L_twins (T : Txt w K mg) : ∃ fd, FunD K "_law_twins" "_law_twins" (defArgs s_L_twins) (defBody s_L_twins) (defScope s_L_twins) [] [] (He.ga K "_law_twins") fd := T.says.d.def_ 50 (d := d_L_twins) rfl
theorem Txt.F_L_same (T : Txt w K mg) : ∃ fd, FunD K "_law_same" "_law_same" (defArgs s_L_same) (defBody s_L_same) (defScope s_L_same) [] [] (He.ga K "_law_same") fd := T.says.d.def_ 51 (d := d_L_same) rfl
theorem Txt.F_L_told (T : Txt w K mg) : ∃ fd, FunD K "_law_told" "_law_told" (defArgs s_L_told) (defBody s_L_told) (defScope s_L_told) [] [] (He.ga K "_law_told") fd := T.says.d.def_ 52 (d := d_L_told) rfl
theorem Txt.F_law (T : Txt w K mg) : ∃ fd, FunD K "law" "law" (defArgs s_law) (defBody s_law) (defScope s_law) [] [] (He.ga K "law") fd := T.says.d.def_ 53 (d := d_law) rfl
theorem Txt.cal_square {P : Program} {base : Heap} {k : Nat} {sp : Sp} (T : Txt w K mg) (h : ∀ fd, FunD K "square" "square" (defArgs s_square) (defBody s_square) (defScope s_square) [] [] (He.ga K "square") fd → FnOk P w K mg base L2.CX0 k (He.ga K "square") fd [] sp) : C8.Cal P w K mg base k "square" sp [] := T.F_square.elim fun fd F => ⟨_, fd, [], [], h fd F, T.g_square, F.kp, F.bindsN fun _ _ _ _ _ _ us hl => match us, hl with | [], _ => rfl, .nil⟩
theorem Txt.cal_told_by {P : Program} {base : Heap} {k : Nat} {sp : Sp} (T : Txt w K mg) (h : ∀ fd, FunD K "told_by" "told_by" (defArgs s_told_by) (defBody s_told_by) (defScope s_told_by) [] [] (He.ga K "told_by") fd → FnOk P w K mg base L2.CX0 k (He.ga K "told_by") fd ["rule", "point"] sp) : C8.Cal P w K mg base k "told_by" sp [] := T.F_told_by.elim fun fd F => ⟨_, fd, ["rule", "point"], [], h fd F, T.g_told_by, F.kp, F.bindsN fun _ _ _ _ _ _ us hl => match us, hl with | [_, _], _ => rfl, .nil⟩
theorem Txt.cal_shared {P : Program} {base : Heap} {k : Nat} {sp : Sp} (T : Txt w K mg) (h : ∀ fd, FunD K "shared" "shared" (defArgs s_shared) (defBody s_shared) (defScope s_shared) [] [] (He.ga K "shared") fd → FnOk P w K mg base L2.CX0 k (He.ga K "shared") fd ["one", "other"] sp) : C8.Cal P w K mg base k "shared" sp [] := T.F_shared.elim fun fd F => ⟨_, fd, ["one", "other"], [], h fd F, T.g_shared, F.kp, F.bindsN fun _ _ _ _ _ _ us hl => match us, hl with | [_, _], _ => rfl, .nil⟩
theorem Txt.cal_between {P : Program} {base : Heap} {k : Nat} {sp : Sp} (T : Txt w K mg) (h : ∀ fd, FunD K "between" "between" (defArgs s_between) (defBody s_between) (defScope s_between) [] [] (He.ga K "between") fd → FnOk P w K mg base L2.CX0 k (He.ga K "between") fd ["one", "other", "near", "far"] sp) : C8.Cal P w K mg base k "between" sp [] := T.F_between.elim fun fd F => ⟨_, fd, ["one", "other", "near", "far"], [], h fd F, T.g_between, F.kp, F.bindsN fun _ _ _ _ _ _ us hl => match us, hl with | [_, _, _, _], _ => rfl, .nil⟩
theorem Txt.cal_cut {P : Program} {base : Heap} {k : Nat} {sp : Sp} (T : Txt w K mg) (h : ∀ fd, FunD K "cut" "cut" (defArgs s_cut) (defBody s_cut) (defScope s_cut) [] [] (He.ga K "cut") fd → FnOk P w K mg base L2.CX0 k (He.ga K "cut") fd ["hull", "rule"] sp) : C8.Cal P w K mg base k "cut" sp [] := T.F_cut.elim fun fd F => ⟨_, fd, ["hull", "rule"], [], h fd F, T.g_cut, F.kp, F.bindsN fun _ _ _ _ _ _ us hl => match us, hl with | [_, _], _ => rfl, .nil⟩
theorem Txt.cal_is_place {P : Program} {base : Heap} {k : Nat} {sp : Sp} (T : Txt w K mg) (h : ∀ fd, FunD K "is_place" "is_place" (defArgs s_is_place) (defBody s_is_place) (defScope s_is_place) [] [] (He.ga K "is_place") fd → FnOk P w K mg base L2.CX0 k (He.ga K "is_place") fd ["thing", "at"] sp) : C8.Cal P w K mg base k "is_place" sp [] := T.F_is_place.elim fun fd F => ⟨_, fd, ["thing", "at"], [], h fd F, T.g_is_place, F.kp, F.bindsN fun _ _ _ _ _ _ us hl => match us, hl with | [_, _], _ => rfl, .nil⟩
theorem Txt.cal_is_row {P : Program} {base : Heap} {k : Nat} {sp : Sp} (T : Txt w K mg) (h : ∀ fd, FunD K "is_row" "is_row" (defArgs s_is_row) (defBody s_is_row) (defScope s_is_row) [] [] (He.ga K "is_row") fd → FnOk P w K mg base L2.CX0 k (He.ga K "is_row") fd ["thing", "at"] sp) : C8.Cal P w K mg base k "is_row" sp [] := T.F_is_row.elim fun fd F => ⟨_, fd, ["thing", "at"], [], h fd F, T.g_is_row, F.kp, F.bindsN fun _ _ _ _ _ _ us hl => match us, hl with | [_, _], _ => rfl, .nil⟩
theorem Txt.cal_rows_fault {P : Program} {base : Heap} {k : Nat} {sp : Sp} (T : Txt w K mg) (h : ∀ fd, FunD K "rows_fault" "rows_fault" (defArgs s_rows_fault) (defBody s_rows_fault) (defScope s_rows_fault) [] [] (He.ga K "rows_fault") fd → FnOk P w K mg base L2.CX0 k (He.ga K "rows_fault") fd ["things"] sp) : C8.Cal P w K mg base k "rows_fault" sp [] := T.F_rows_fault.elim fun fd F => ⟨_, fd, ["things"], [], h fd F, T.g_rows_fault, F.kp, F.bindsN fun _ _ _ _ _ _ us hl => match us, hl with | [_], _ => rfl, .nil⟩
theorem Txt.cal_word_of {P : Program} {base : Heap} {k : Nat} {sp : Sp} (T : Txt w K mg) (h : ∀ fd, FunD K "word_of" "word_of" (defArgs s_word_of) (defBody s_word_of) (defScope s_word_of) [] [] (He.ga K "word_of") fd → FnOk P w K mg base L2.CX0 k (He.ga K "word_of") fd ["fold"] sp) : C8.Cal P w K mg base k "word_of" sp [] := T.F_word_of.elim fun fd F => ⟨_, fd, ["fold"], [], h fd F, T.g_word_of, F.kp, F.bindsN fun _ _ _ _ _ _ us hl => match us, hl with | [_], _ => rfl, .nil⟩
theorem Txt.cal_place_of {P : Program} {base : Heap} {k : Nat} {sp : Sp} (T : Txt w K mg) (h : ∀ fd, FunD K "place_of" "place_of" (defArgs s_place_of) (defBody s_place_of) (defScope s_place_of) [] [] (He.ga K "place_of") fd → FnOk P w K mg base L2.CX0 k (He.ga K "place_of") fd ["row", "rows", "known"] sp) : C8.Cal P w K mg base k "place_of" sp [] := T.F_place_of.elim fun fd F => ⟨_, fd, ["row", "rows", "known"], [], h fd F, T.g_place_of, F.kp, F.bindsN fun _ _ _ _ _ _ us hl => match us, hl with | [_, _, _], _ => rfl, .nil⟩
theorem Txt.cal_put_rows {P : Program} {base : Heap} {k : Nat} {sp : Sp} (T : Txt w K mg) (h : ∀ fd, FunD K "put_rows" "put_rows" (defArgs s_put_rows) (defBody s_put_rows) (defScope s_put_rows) [] [] (He.ga K "put_rows") fd → FnOk P w K mg base L2.CX0 k (He.ga K "put_rows") fd ["saying", "rows", "known"] sp) : C8.Cal P w K mg base k "put_rows" sp [] := T.F_put_rows.elim fun fd F => ⟨_, fd, ["saying", "rows", "known"], [], h fd F, T.g_put_rows, F.kp, F.bindsN fun _ _ _ _ _ _ us hl => match us, hl with | [_, _, _], _ => rfl, .nil⟩
theorem Txt.cal_rows_of {P : Program} {base : Heap} {k : Nat} {sp : Sp} (T : Txt w K mg) (h : ∀ fd, FunD K "rows_of" "rows_of" (defArgs s_rows_of) (defBody s_rows_of) (defScope s_rows_of) [] [] (He.ga K "rows_of") fd → FnOk P w K mg base L2.CX0 k (He.ga K "rows_of") fd ["saying"] sp) : C8.Cal P w K mg base k "rows_of" sp [] := T.F_rows_of.elim fun fd F => ⟨_, fd, ["saying"], [], h fd F, T.g_rows_of, F.kp, F.bindsN fun _ _ _ _ _ _ us hl => match us, hl with | [_], _ => rfl, .nil⟩
theorem Txt.cal_sum_of {P : Program} {base : Heap} {k : Nat} {sp : Sp} (T : Txt w K mg) (h : ∀ fd, FunD K "sum_of" "sum_of" (defArgs s_sum_of) (defBody s_sum_of) (defScope s_sum_of) [] [] (He.ga K "sum_of") fd → FnOk P w K mg base L2.CX0 k (He.ga K "sum_of") fd ["one", "other"] sp) : C8.Cal P w K mg base k "sum_of" sp [] := T.F_sum_of.elim fun fd F => ⟨_, fd, ["one", "other"], [], h fd F, T.g_sum_of, F.kp, F.bindsN fun _ _ _ _ _ _ us hl => match us, hl with | [_, _], _ => rfl, .nil⟩
theorem Txt.cal_rest_of {P : Program} {base : Heap} {k : Nat} {sp : Sp} (T : Txt w K mg) (h : ∀ fd, FunD K "rest_of" "rest_of" (defArgs s_rest_of) (defBody s_rest_of) (defScope s_rest_of) [] [] (He.ga K "rest_of") fd → FnOk P w K mg base L2.CX0 k (He.ga K "rest_of") fd ["one", "other"] sp) : C8.Cal P w K mg base k "rest_of" sp [] := T.F_rest_of.elim fun fd F => ⟨_, fd, ["one", "other"], [], h fd F, T.g_rest_of, F.kp, F.bindsN fun _ _ _ _ _ _ us hl => match us, hl with | [_, _], _ => rfl, .nil⟩
theorem Txt.cal_test_of {P : Program} {base : Heap} {k : Nat} {sp : Sp} (T : Txt w K mg) (h : ∀ fd, FunD K "test_of" "test_of" (defArgs s_test_of) (defBody s_test_of) (defScope s_test_of) [] [] (He.ga K "test_of") fd → FnOk P w K mg base L2.CX0 k (He.ga K "test_of") fd ["word", "one", "other"] sp) : C8.Cal P w K mg base k "test_of" sp [] := T.F_test_of.elim fun fd F => ⟨_, fd, ["word", "one", "other"], [], h fd F, T.g_test_of, F.kp, F.bindsN fun _ _ _ _ _ _ us hl => match us, hl with | [_, _, _], _ => rfl, .nil⟩
theorem Txt.cal_lower_rule {P : Program} {base : Heap} {k : Nat} {sp : Sp} (T : Txt w K mg) (h : ∀ fd, FunD K "lower_rule" "lower_rule" (defArgs s_lower_rule) (defBody s_lower_rule) (defScope s_lower_rule) [] [] (He.ga K "lower_rule") fd → FnOk P w K mg base L2.CX0 k (He.ga K "lower_rule") fd ["word", "one", "other"] sp) : C8.Cal P w K mg base k "lower_rule" sp [] := T.F_lower_rule.elim fun fd F => ⟨_, fd, ["word", "one", "other"], [], h fd F, T.g_lower_rule, F.kp, F.bindsN fun _ _ _ _ _ _ us hl => match us, hl with | [_, _, _], _ => rfl, .nil⟩
theorem Txt.cal_upper_rule {P : Program} {base : Heap} {k : Nat} {sp : Sp} (T : Txt w K mg) (h : ∀ fd, FunD K "upper_rule" "upper_rule" (defArgs s_upper_rule) (defBody s_upper_rule) (defScope s_upper_rule) [] [] (He.ga K "upper_rule") fd → FnOk P w K mg base L2.CX0 k (He.ga K "upper_rule") fd ["word", "one", "other"] sp) : C8.Cal P w K mg base k "upper_rule" sp [] := T.F_upper_rule.elim fun fd F => ⟨_, fd, ["word", "one", "other"], [], h fd F, T.g_upper_rule, F.kp, F.bindsN fun _ _ _ _ _ _ us hl => match us, hl with | [_, _, _], _ => rfl, .nil⟩
theorem Txt.cal_fold_rule {P : Program} {base : Heap} {k : Nat} {sp : Sp} (T : Txt w K mg) (h : ∀ fd, FunD K "fold_rule" "fold_rule" (defArgs s_fold_rule) (defBody s_fold_rule) (defScope s_fold_rule) [] [] (He.ga K "fold_rule") fd → FnOk P w K mg base L2.CX0 k (He.ga K "fold_rule") fd ["word", "one", "other", "hull"] sp) : C8.Cal P w K mg base k "fold_rule" sp [] := T.F_fold_rule.elim fun fd F => ⟨_, fd, ["word", "one", "other", "hull"], [], h fd F, T.g_fold_rule, F.kp, F.bindsN fun _ _ _ _ _ _ us hl => match us, hl with | [_, _, _, _], _ => rfl, .nil⟩
theorem Txt.cal_rules_on {P : Program} {base : Heap} {k : Nat} {sp : Sp} (T : Txt w K mg) (h : ∀ fd, FunD K "rules_on" "rules_on" (defArgs s_rules_on) (defBody s_rules_on) (defScope s_rules_on) [] [] (He.ga K "rules_on") fd → FnOk P w K mg base L2.CX0 k (He.ga K "rules_on") fd ["rows", "hull"] sp) : C8.Cal P w K mg base k "rules_on" sp [] := T.F_rules_on.elim fun fd F => ⟨_, fd, ["rows", "hull"], [], h fd F, T.g_rules_on, F.kp, F.bindsN fun _ _ _ _ _ _ us hl => match us, hl with | [_, _], _ => rfl, .nil⟩
theorem Txt.cal_hulls_under {P : Program} {base : Heap} {k : Nat} {sp : Sp} (T : Txt w K mg) (h : ∀ fd, FunD K "hulls_under" "hulls_under" (defArgs s_hulls_under) (defBody s_hulls_under) (defScope s_hulls_under) [] [] (He.ga K "hulls_under") fd → FnOk P w K mg base L2.CX0 k (He.ga K "hulls_under") fd ["tree", "hull"] sp) : C8.Cal P w K mg base k "hulls_under" sp [] := T.F_hulls_under.elim fun fd F => ⟨_, fd, ["tree", "hull"], [], h fd F, T.g_hulls_under, F.kp, F.bindsN fun _ _ _ _ _ _ us hl => match us, hl with | [_, _], _ => rfl, .nil⟩
theorem Txt.cal_hulls_of {P : Program} {base : Heap} {k : Nat} {sp : Sp} (T : Txt w K mg) (h : ∀ fd, FunD K "hulls_of" "hulls_of" (defArgs s_hulls_of) (defBody s_hulls_of) (defScope s_hulls_of) [] [] (He.ga K "hulls_of") fd → FnOk P w K mg base L2.CX0 k (He.ga K "hulls_of") fd ["tree"] sp) : C8.Cal P w K mg base k "hulls_of" sp [] := T.F_hulls_of.elim fun fd F => ⟨_, fd, ["tree"], [], h fd F, T.g_hulls_of, F.kp, F.bindsN fun _ _ _ _ _ _ us hl => match us, hl with | [_], _ => rfl, .nil⟩
theorem Txt.cal_grown {P : Program} {base : Heap} {k : Nat} {sp : Sp} (T : Txt w K mg) (h : ∀ fd, FunD K "grown" "grown" (defArgs s_grown) (defBody s_grown) (defScope s_grown) [] [] (He.ga K "grown") fd → FnOk P w K mg base L2.CX0 k (He.ga K "grown") fd ["rows", "hull"] sp) : C8.Cal P w K mg base k "grown" sp [] := T.F_grown.elim fun fd F => ⟨_, fd, ["rows", "hull"], [], h fd F, T.g_grown, F.kp, F.bindsN fun _ _ _ _ _ _ us hl => match us, hl with | [_, _], _ => rfl, .nil⟩
theorem Txt.cal_cutting_of_rows {P : Program} {base : Heap} {k : Nat} {sp : Sp} (T : Txt w K mg) (h : ∀ fd, FunD K "cutting_of_rows" "cutting_of_rows" (defArgs s_cutting_of_rows) (defBody s_cutting_of_rows) (defScope s_cutting_of_rows) [] [] (He.ga K "cutting_of_rows") fd → FnOk P w K mg base L2.CX0 k (He.ga K "cutting_of_rows") fd ["rows"] sp) : C8.Cal P w K mg base k "cutting_of_rows" sp [] := T.F_cutting_of_rows.elim fun fd F => ⟨_, fd, ["rows"], [], h fd F, T.g_cutting_of_rows, F.kp, F.bindsN fun _ _ _ _ _ _ us hl => match us, hl with | [_], _ => rfl, .nil⟩
theorem Txt.cal_unlike_corner {P : Program} {base : Heap} {k : Nat} {sp : Sp} (T : Txt w K mg) (h : ∀ fd, FunD K "unlike_corner" "unlike_corner" (defArgs s_unlike_corner) (defBody s_unlike_corner) (defScope s_unlike_corner) [] [] (He.ga K "unlike_corner") fd → FnOk P w K mg base L2.CX0 k (He.ga K "unlike_corner") fd ["one", "other", "tree"] sp) : C8.Cal P w K mg base k "unlike_corner" sp [] := T.F_unlike_corner.elim fun fd F => ⟨_, fd, ["one", "other", "tree"], [], h fd F, T.g_unlike_corner, F.kp, F.bindsN fun _ _ _ _ _ _ us hl => match us, hl with | [_, _, _], _ => rfl, .nil⟩
theorem Txt.cal_alike {P : Program} {base : Heap} {k : Nat} {sp : Sp} (T : Txt w K mg) (h : ∀ fd, FunD K "alike" "alike" (defArgs s_alike) (defBody s_alike) (defScope s_alike) [] [] (He.ga K "alike") fd → FnOk P w K mg base L2.CX0 k (He.ga K "alike") fd ["one", "other"] sp) : C8.Cal P w K mg base k "alike" sp [] := T.F_alike.elim fun fd F => ⟨_, fd, ["one", "other"], [], h fd F, T.g_alike, F.kp, F.bindsN fun _ _ _ _ _ _ us hl => match us, hl with | [_, _], _ => rfl, .nil⟩
theorem Txt.cal_L_mixed {P : Program} {base : Heap} {k : Nat} {sp : Sp} (T : Txt w K mg) (h : ∀ fd, FunD K "_law_mixed" "_law_mixed" (defArgs s_L_mixed) (defBody s_L_mixed) (defScope s_L_mixed) [] [] (He.ga K "_law_mixed") fd → FnOk P w K mg base L2.CX0 k (He.ga K "_law_mixed") fd ["_law_script", "_law_least"] sp) : C8.Cal P w K mg base k "_law_mixed" sp [] := T.F_L_mixed.elim fun fd F => ⟨_, fd, ["_law_script", "_law_least"], [], h fd F, T.g_L_mixed, F.kp, F.bindsN fun _ _ _ _ _ _ us hl => match us, hl with | [_, _], _ => rfl, .nil⟩
theorem Txt.cal_L_next {P : Program} {base : Heap} {k : Nat} {sp : Sp} (T : Txt w K mg) (h : ∀ fd, FunD K "_law_next" "_law_next" (defArgs s_L_next) (defBody s_L_next) (defScope s_L_next) [] [] (He.ga K "_law_next") fd → FnOk P w K mg base L2.CX0 k (He.ga K "_law_next") fd ["_law_cells"] sp) : C8.Cal P w K mg base k "_law_next" sp [] := T.F_L_next.elim fun fd F => ⟨_, fd, ["_law_cells"], [], h fd F, T.g_L_next, F.kp, F.bindsN fun _ _ _ _ _ _ us hl => match us, hl with | [_], _ => rfl, .nil⟩
theorem Txt.cal_L_saying {P : Program} {base : Heap} {k : Nat} {sp : Sp} (T : Txt w K mg) (h : ∀ fd, FunD K "_law_saying" "_law_saying" (defArgs s_L_saying) (defBody s_L_saying) (defScope s_L_saying) [] [] (He.ga K "_law_saying") fd → FnOk P w K mg base L2.CX0 k (He.ga K "_law_saying") fd ["_law_cells", "_law_room", "_law_two"] sp) : C8.Cal P w K mg base k "_law_saying" sp [] := T.F_L_saying.elim fun fd F => ⟨_, fd, ["_law_cells", "_law_room", "_law_two"], [], h fd F, T.g_L_saying, F.kp, F.bindsN fun _ _ _ _ _ _ us hl => match us, hl with | [_, _, _], _ => rfl, .nil⟩
theorem Txt.cal_L_object {P : Program} {base : Heap} {k : Nat} {sp : Sp} (T : Txt w K mg) (h : ∀ fd, FunD K "_law_object" "_law_object" (defArgs s_L_object) (defBody s_L_object) (defScope s_L_object) [] [] (He.ga K "_law_object") fd → FnOk P w K mg base L2.CX0 k (He.ga K "_law_object") fd ["_law_tree"] sp) : C8.Cal P w K mg base k "_law_object" sp [] := T.F_L_object.elim fun fd F => ⟨_, fd, ["_law_tree"], [], h fd F, T.g_L_object, F.kp, F.bindsN fun _ _ _ _ _ _ us hl => match us, hl with | [_], _ => rfl, .nil⟩
theorem Txt.cal_L_folds {P : Program} {base : Heap} {k : Nat} {sp : Sp} (T : Txt w K mg) (h : ∀ fd, FunD K "_law_folds" "_law_folds" (defArgs s_L_folds) (defBody s_L_folds) (defScope s_L_folds) [] [] (He.ga K "_law_folds") fd → FnOk P w K mg base L2.CX0 k (He.ga K "_law_folds") fd ["_law_tree"] sp) : C8.Cal P w K mg base k "_law_folds" sp [] := T.F_L_folds.elim fun fd F => ⟨_, fd, ["_law_tree"], [], h fd F, T.g_L_folds, F.kp, F.bindsN fun _ _ _ _ _ _ us hl => match us, hl with | [_], _ => rfl, .nil⟩
theorem Txt.cal_L_fold {P : Program} {base : Heap} {k : Nat} {sp : Sp} (T : Txt w K mg) (h : ∀ fd, FunD K "_law_fold" "_law_fold" (defArgs s_L_fold) (defBody s_L_fold) (defScope s_L_fold) [] [] (He.ga K "_law_fold") fd → FnOk P w K mg base L2.CX0 k (He.ga K "_law_fold") fd ["_law_word", "_law_n", "_law_one", "_law_other"] sp) : C8.Cal P w K mg base k "_law_fold" sp [] := T.F_L_fold.elim fun fd F => ⟨_, fd, ["_law_word", "_law_n", "_law_one", "_law_other"], [], h fd F, T.g_L_fold, F.kp, F.bindsN fun _ _ _ _ _ _ us hl => match us, hl with | [_, _, _, _], _ => rfl, .nil⟩
theorem Txt.cal_L_worth {P : Program} {base : Heap} {k : Nat} {sp : Sp} (T : Txt w K mg) (h : ∀ fd, FunD K "_law_worth" "_law_worth" (defArgs s_L_worth) (defBody s_L_worth) (defScope s_L_worth) [] [] (He.ga K "_law_worth") fd → FnOk P w K mg base L2.CX0 k (He.ga K "_law_worth") fd ["_law_tree", "_law_n", "_law_x", "_law_y"] sp) : C8.Cal P w K mg base k "_law_worth" sp [] := T.F_L_worth.elim fun fd F => ⟨_, fd, ["_law_tree", "_law_n", "_law_x", "_law_y"], [], h fd F, T.g_L_worth, F.kp, F.bindsN fun _ _ _ _ _ _ us hl => match us, hl with | [_, _, _, _], _ => rfl, .nil⟩
theorem Txt.cal_L_whole {P : Program} {base : Heap} {k : Nat} {sp : Sp} (T : Txt w K mg) (h : ∀ fd, FunD K "_law_whole" "_law_whole" (defArgs s_L_whole) (defBody s_L_whole) (defScope s_L_whole) [] [] (He.ga K "_law_whole") fd → FnOk P w K mg base L2.CX0 k (He.ga K "_law_whole") fd ["_law_found"] sp) : C8.Cal P w K mg base k "_law_whole" sp [] := T.F_L_whole.elim fun fd F => ⟨_, fd, ["_law_found"], [], h fd F, T.g_L_whole, F.kp, F.bindsN fun _ _ _ _ _ _ us hl => match us, hl with | [_], _ => rfl, .nil⟩
theorem Txt.cal_L_rows_to {P : Program} {base : Heap} {k : Nat} {sp : Sp} (T : Txt w K mg) (h : ∀ fd, FunD K "_law_rows_to" "_law_rows_to" (defArgs s_L_rows_to) (defBody s_L_rows_to) (defScope s_L_rows_to) [] [] (He.ga K "_law_rows_to") fd → FnOk P w K mg base L2.CX0 k (He.ga K "_law_rows_to") fd ["_law_tree", "_law_rows"] sp) : C8.Cal P w K mg base k "_law_rows_to" sp [] := T.F_L_rows_to.elim fun fd F => ⟨_, fd, ["_law_tree", "_law_rows"], [], h fd F, T.g_L_rows_to, F.kp, F.bindsN fun _ _ _ _ _ _ us hl => match us, hl with | [_, _], _ => rfl, .nil⟩
theorem Txt.cal_L_tells {P : Program} {base : Heap} {k : Nat} {sp : Sp} (T : Txt w K mg) (h : ∀ fd, FunD K "_law_tells" "_law_tells" (defArgs s_L_tells) (defBody s_L_tells) (defScope s_L_tells) [] [] (He.ga K "_law_tells") fd → FnOk P w K mg base L2.CX0 k (He.ga K "_law_tells") fd ["_law_rule_here", "_law_corner"] sp) : C8.Cal P w K mg base k "_law_tells" sp [] := T.F_L_tells.elim fun fd F => ⟨_, fd, ["_law_rule_here", "_law_corner"], [], h fd F, T.g_L_tells, F.kp, F.bindsN fun _ _ _ _ _ _ us hl => match us, hl with | [_, _], _ => rfl, .nil⟩
theorem Txt.cal_L_lowest {P : Program} {base : Heap} {k : Nat} {sp : Sp} (T : Txt w K mg) (h : ∀ fd, FunD K "_law_lowest" "_law_lowest" (defArgs s_L_lowest) (defBody s_L_lowest) (defScope s_L_lowest) [] [] (He.ga K "_law_lowest") fd → FnOk P w K mg base L2.CX0 k (He.ga K "_law_lowest") fd ["_law_point"] sp) : C8.Cal P w K mg base k "_law_lowest" sp [] := T.F_L_lowest.elim fun fd F => ⟨_, fd, ["_law_point"], [], h fd F, T.g_L_lowest, F.kp, F.bindsN fun _ _ _ _ _ _ us hl => match us, hl with | [_], _ => rfl, .nil⟩
theorem Txt.cal_L_cut {P : Program} {base : Heap} {k : Nat} {sp : Sp} (T : Txt w K mg) (h : ∀ fd, FunD K "_law_cut" "_law_cut" (defArgs s_L_cut) (defBody s_L_cut) (defScope s_L_cut) [] [] (He.ga K "_law_cut") fd → FnOk P w K mg base L2.CX0 k (He.ga K "_law_cut") fd ["_law_hull", "_law_rule_here"] sp) : C8.Cal P w K mg base k "_law_cut" sp [] := T.F_L_cut.elim fun fd F => ⟨_, fd, ["_law_hull", "_law_rule_here"], [], h fd F, T.g_L_cut, F.kp, F.bindsN fun _ _ _ _ _ _ us hl => match us, hl with | [_, _], _ => rfl, .nil⟩
theorem Txt.cal_L_sum {P : Program} {base : Heap} {k : Nat} {sp : Sp} (T : Txt w K mg) (h : ∀ fd, FunD K "_law_sum" "_law_sum" (defArgs s_L_sum) (defBody s_L_sum) (defScope s_L_sum) [] [] (He.ga K "_law_sum") fd → FnOk P w K mg base L2.CX0 k (He.ga K "_law_sum") fd ["_law_one", "_law_other", "_law_by"] sp) : C8.Cal P w K mg base k "_law_sum" sp [] := T.F_L_sum.elim fun fd F => ⟨_, fd, ["_law_one", "_law_other", "_law_by"], [], h fd F, T.g_L_sum, F.kp, F.bindsN fun _ _ _ _ _ _ us hl => match us, hl with | [_, _, _], _ => rfl, .nil⟩
theorem Txt.cal_L_rule {P : Program} {base : Heap} {k : Nat} {sp : Sp} (T : Txt w K mg) (h : ∀ fd, FunD K "_law_rule" "_law_rule" (defArgs s_L_rule) (defBody s_L_rule) (defScope s_L_rule) [] [] (He.ga K "_law_rule") fd → FnOk P w K mg base L2.CX0 k (He.ga K "_law_rule") fd ["_law_row", "_law_rules_here", "_law_hull"] sp) : C8.Cal P w K mg base k "_law_rule" sp [] := T.F_L_rule.elim fun fd F => ⟨_, fd, ["_law_row", "_law_rules_here", "_law_hull"], [], h fd F, T.g_L_rule, F.kp, F.bindsN fun _ _ _ _ _ _ us hl => match us, hl with | [_, _, _], _ => rfl, .nil⟩
theorem Txt.cal_L_rules {P : Program} {base : Heap} {k : Nat} {sp : Sp} (T : Txt w K mg) (h : ∀ fd, FunD K "_law_rules" "_law_rules" (defArgs s_L_rules) (defBody s_L_rules) (defScope s_L_rules) [] [] (He.ga K "_law_rules") fd → FnOk P w K mg base L2.CX0 k (He.ga K "_law_rules") fd ["_law_rows", "_law_hull"] sp) : C8.Cal P w K mg base k "_law_rules" sp [] := T.F_L_rules.elim fun fd F => ⟨_, fd, ["_law_rows", "_law_hull"], [], h fd F, T.g_L_rules, F.kp, F.bindsN fun _ _ _ _ _ _ us hl => match us, hl with | [_, _], _ => rfl, .nil⟩
theorem Txt.cal_L_hulls {P : Program} {base : Heap} {k : Nat} {sp : Sp} (T : Txt w K mg) (h : ∀ fd, FunD K "_law_hulls" "_law_hulls" (defArgs s_L_hulls) (defBody s_L_hulls) (defScope s_L_hulls) [] [] (He.ga K "_law_hulls") fd → FnOk P w K mg base L2.CX0 k (He.ga K "_law_hulls") fd ["_law_tree", "_law_hull"] sp) : C8.Cal P w K mg base k "_law_hulls" sp [] := T.F_L_hulls.elim fun fd F => ⟨_, fd, ["_law_tree", "_law_hull"], [], h fd F, T.g_L_hulls, F.kp, F.bindsN fun _ _ _ _ _ _ us hl => match us, hl with | [_, _], _ => rfl, .nil⟩
theorem Txt.cal_L_is_point {P : Program} {base : Heap} {k : Nat} {sp : Sp} (T : Txt w K mg) (h : ∀ fd, FunD K "_law_is_point" "_law_is_point" (defArgs s_L_is_point) (defBody s_L_is_point) (defScope s_L_is_point) [] [] (He.ga K "_law_is_point") fd → FnOk P w K mg base L2.CX0 k (He.ga K "_law_is_point") fd ["_law_found"] sp) : C8.Cal P w K mg base k "_law_is_point" sp [] := T.F_L_is_point.elim fun fd F => ⟨_, fd, ["_law_found"], [], h fd F, T.g_L_is_point, F.kp, F.bindsN fun _ _ _ _ _ _ us hl => match us, hl with | [_], _ => rfl, .nil⟩
theorem Txt.cal_L_few {P : Program} {base : Heap} {k : Nat} {sp : Sp} (T : Txt w K mg) (h : ∀ fd, FunD K "_law_few" "_law_few" (defArgs s_L_few) (defBody s_L_few) (defScope s_L_few) [] [] (He.ga K "_law_few") fd → FnOk P w K mg base L2.CX0 k (He.ga K "_law_few") fd ["_law_cells", "_law_room", "_law_most"] sp) : C8.Cal P w K mg base k "_law_few" sp [] := T.F_L_few.elim fun fd F => ⟨_, fd, ["_law_cells", "_law_room", "_law_most"], [], h fd F, T.g_L_few, F.kp, F.bindsN fun _ _ _ _ _ _ us hl => match us, hl with | [_, _, _], _ => rfl, .nil⟩
theorem Txt.cal_L_twins {P : Program} {base : Heap} {k : Nat} {sp : Sp} (T : Txt w K mg) (h : ∀ fd, FunD K "_law_twins" "_law_twins" (defArgs s_L_twins) (defBody s_L_twins) (defScope s_L_twins) [] [] (He.ga K "_law_twins") fd → FnOk P w K mg base L2.CX0 k (He.ga K "_law_twins") fd ["_law_cell", "_law_a", "_law_b"] sp) : C8.Cal P w K mg base k "_law_twins" sp [] := T.F_L_twins.elim fun fd F => ⟨_, fd, ["_law_cell", "_law_a", "_law_b"], [], h fd F, T.g_L_twins, F.kp, F.bindsN fun _ _ _ _ _ _ us hl => match us, hl with | [_, _, _], _ => rfl, .nil⟩
theorem Txt.cal_L_same {P : Program} {base : Heap} {k : Nat} {sp : Sp} (T : Txt w K mg) (h : ∀ fd, FunD K "_law_same" "_law_same" (defArgs s_L_same) (defBody s_L_same) (defScope s_L_same) [] [] (He.ga K "_law_same") fd → FnOk P w K mg base L2.CX0 k (He.ga K "_law_same") fd ["_law_tree", "_law_one", "_law_other"] sp) : C8.Cal P w K mg base k "_law_same" sp [] := T.F_L_same.elim fun fd F => ⟨_, fd, ["_law_tree", "_law_one", "_law_other"], [], h fd F, T.g_L_same, F.kp, F.bindsN fun _ _ _ _ _ _ us hl => match us, hl with | [_, _, _], _ => rfl, .nil⟩
theorem Txt.cal_L_told {P : Program} {base : Heap} {k : Nat} {sp : Sp} (T : Txt w K mg) (h : ∀ fd, FunD K "_law_told" "_law_told" (defArgs s_L_told) (defBody s_L_told) (defScope s_L_told) [] [] (He.ga K "_law_told") fd → FnOk P w K mg base L2.CX0 k (He.ga K "_law_told") fd ["_law_one", "_law_other"] sp) : C8.Cal P w K mg base k "_law_told" sp [] := T.F_L_told.elim fun fd F => ⟨_, fd, ["_law_one", "_law_other"], [], h fd F, T.g_L_told, F.kp, F.bindsN fun _ _ _ _ _ _ us hl => match us, hl with | [_, _], _ => rfl, .nil⟩
theorem Txt.cal_law {P : Program} {base : Heap} {k : Nat} {sp : Sp} (T : Txt w K mg) (h : ∀ fd, FunD K "law" "law" (defArgs s_law) (defBody s_law) (defScope s_law) [] [] (He.ga K "law") fd → FnOk P w K mg base L2.CX0 k (He.ga K "law") fd ["_law_script"] sp) : C8.Cal P w K mg base k "law" sp [] := T.F_law.elim fun fd F => ⟨_, fd, ["_law_script"], [], h fd F, T.g_law, F.kp, F.bindsN fun _ _ _ _ _ _ us hl => match us, hl with | [_], _ => rfl, .nil⟩
end
theorem b_len : bootBuiltins "len" = some (.builtin "len") := by decide +kernel
theorem b_min : bootBuiltins "min" = some (.builtin "min") := by decide +kernel
theorem b_max : bootBuiltins "max" = some (.builtin "max") := by decide +kernel
theorem b_abs : bootBuiltins "abs" = some (.builtin "abs") := by decide +kernel
theorem b_sum : bootBuiltins "sum" = some (.builtin "sum") := by decide +kernel
theorem b_all : bootBuiltins "all" = some (.builtin "all") := by decide +kernel
theorem b_isinstance : bootBuiltins "isinstance" = some (.builtin "isinstance") := by decide +kernel
theorem b_tuple : bootBuiltins "tuple" = some (.type "tuple") := by decide +kernel
theorem b_int : bootBuiltins "int" = some (.type "int") := by decide +kernel
theorem b_bool : bootBuiltins "bool" = some (.type "bool") := by decide +kernel
theorem b_str : bootBuiltins "str" = some (.type "str") := by decide +kernel
end K55

namespace K55
open PySem PySem.Spec PyProof.Rows L2
theorem run_f (w : World) : HandSHeadRun.RunEq RR (PySem.W.view RR.prog [lawTop]) hkM obT 8000 loose (w.withFollow "special-get-raises" false) := by
  intro os
  kernel_rfl
theorem run_t (w : World) : HandSHeadRun.RunEq RR (PySem.W.view RR.prog [lawTop]) hkM obT 8000 loose (w.withFollow "special-get-raises" true) := by
  intro os
  kernel_rfl
theorem run : ∀ w : World, HandSHeadRun.RunEq RR (PySem.W.view RR.prog [lawTop]) hkM obT 8000 loose w := PySem.W.byRow2 "special-get-raises" run_f run_t
end K55

/-! The plain law: sayings, rules, hulls, cuts. No program in sight. -/
namespace K55
/-! ### sayings -/
inductive Wd where
  | more | less | greater | lesser | leads
  deriving DecidableEq
inductive Tr where
  | never | always | p | q
  | neg (a : Tr)
  | fold (w : Wd) (a b : Tr)
  deriving DecidableEq
def Tr.size : Tr → Nat
  | .neg a => a.size + 1
  | .fold _ a b => a.size + b.size + 1
  | _ => 1
def Tr.folds : Tr → Nat
  | .neg a => a.folds
  | .fold _ a b => a.folds + b.folds + 1
  | _ => 0
theorem Tr.size_pos (t : Tr) : 0 < t.size := by cases t <;> simp [Tr.size]
/-- a fold's worth, out of n -/
def Wd.val (w : Wd) (n i j : Int) : Int := match w with
  | .more => min n (i + j)
  | .less => max 0 (i + j - n)
  | .greater => max i j
  | .lesser => min i j
  | .leads => min n (n - i + j)
def Tr.val (n x y : Int) : Tr → Int
  | .never => 0
  | .always => n
  | .p => x
  | .q => y
  | .neg a => n - a.val n x y
  | .fold w a b => w.val n (a.val n x y) (b.val n x y)
theorem Tr.val_range {n x y : Int} (hn : 0 ≤ n) (hx : 0 ≤ x ∧ x ≤ n) (hy : 0 ≤ y ∧ y ≤ n) : ∀ t : Tr, 0 ≤ t.val n x y ∧ t.val n x y ≤ n
  | .never => ⟨Int.le_refl 0, hn⟩
  | .always => ⟨hn, Int.le_refl n⟩
  | .p => hx
  | .q => hy
  | .neg a => by
    have h := Tr.val_range hn hx hy a
    simp only [Tr.val]
    omega
  | .fold w a b => by
    have h := Tr.val_range hn hx hy a
    have k := Tr.val_range hn hx hy b
    cases w <;> simp only [Tr.val, Wd.val] <;> omega
/-! ### triples of ints: rules (a, b, c) and corners (n, x, y) -/
structure T3 where
  a : Int
  b : Int
  c : Int
  deriving DecidableEq
def T3.add (r s : T3) : T3 := ⟨r.a + s.a, r.b + s.b, r.c + s.c⟩
def T3.sub (r s : T3) : T3 := ⟨r.a - s.a, r.b - s.b, r.c - s.c⟩
def T3.one : T3 := ⟨0, 0, 1⟩
def T3.nil : T3 := ⟨0, 0, 0⟩
/-- what a rule tells at a corner (n, x, y) -/
def T3.tell (r k : T3) : Int := r.a * k.b + r.b * k.c + r.c * k.a
def Wd.test (w : Wd) (r s : T3) : T3 := match w with
  | .more => (r.add s).sub .one
  | .less => (r.add s).sub .one
  | .leads => s.sub r
  | _ => r.sub s
def Wd.low (w : Wd) (r s : T3) : T3 := match w with
  | .more => r.add s
  | .less => .nil
  | .greater => s
  | .lesser => r
  | .leads => (T3.one.add s).sub r
def Wd.high (w : Wd) (r s : T3) : T3 := match w with
  | .less => (r.add s).sub .one
  | .greater => r
  | .lesser => s
  | _ => .one
/-- nowhere more, nowhere less than 0 in the corners -/
def LeAll (r : T3) (h : List T3) : Prop := ∀ k, k ∈ h → r.tell k ≤ 0
def GeAll (r : T3) (h : List T3) : Prop := ∀ k, k ∈ h → 0 ≤ r.tell k
instance (r : T3) (h : List T3) : Decidable (LeAll r h) := by unfold LeAll; infer_instance
instance (r : T3) (h : List T3) : Decidable (GeAll r h) := by unfold GeAll; infer_instance
def Wd.rule (w : Wd) (r s : T3) (h : List T3) : Option T3 :=
  if LeAll (w.test r s) h then some (w.low r s) else if GeAll (w.test r s) h then some (w.high r s) else none
def Tr.rule (h : List T3) : Tr → Option T3
  | .never => some .nil
  | .always => some .one
  | .p => some ⟨1, 0, 0⟩
  | .q => some ⟨0, 1, 0⟩
  | .neg a => (a.rule h).map fun r => T3.one.sub r
  | .fold w a b => match a.rule h, b.rule h with
    | some r, some s => w.rule r s h
    | _, _ => none
theorem tell_add (r s k : T3) : (r.add s).tell k = r.tell k + s.tell k := by
  simp only [T3.add, T3.tell, Int.add_mul]; omega
theorem tell_sub (r s k : T3) : (r.sub s).tell k = r.tell k - s.tell k := by
  simp only [T3.sub, T3.tell, Int.sub_mul]; omega
theorem tell_one (k : T3) : T3.one.tell k = k.a := by simp [T3.one, T3.tell]
theorem tell_nil (k : T3) : T3.nil.tell k = 0 := by simp [T3.nil, T3.tell]
/-- a rule tells the worth in the corners -/
theorem Tr.rule_val {h : List T3} : ∀ {t : Tr} {r : T3}, t.rule h = some r → ∀ k, k ∈ h → r.tell k = t.val k.a k.b k.c
  | .never, r, e, k, _ => by cases e; simp [tell_nil, Tr.val]
  | .always, r, e, k, _ => by cases e; simp [tell_one, Tr.val]
  | .p, r, e, k, _ => by cases e; simp [T3.tell, Tr.val]
  | .q, r, e, k, _ => by cases e; simp [T3.tell, Tr.val]
  | .neg a, r, e, k, hk => by
    simp only [Tr.rule, Option.map_eq_some_iff] at e
    obtain ⟨s, e1, rfl⟩ := e
    rw [tell_sub, tell_one, Tr.rule_val e1 k hk]
    rfl
  | .fold w a b, r, e, k, hk => by
    simp only [Tr.rule] at e
    cases ea : a.rule h with
    | none => rw [ea] at e; cases e
    | some ra =>
      cases eb : b.rule h with
      | none => rw [ea, eb] at e; cases e
      | some rb =>
        rw [ea, eb] at e
        have ha := Tr.rule_val ea k hk
        have hb := Tr.rule_val eb k hk
        simp only [Wd.rule] at e
        split at e
        · rename_i c
          have c1 := c k hk
          cases e
          cases w <;> simp only [Wd.test, Wd.low, tell_add, tell_sub, tell_one, tell_nil] at c1 ⊢ <;> simp only [Tr.val, Wd.val] <;> omega
        · split at e
          · rename_i c
            have c1 := c k hk
            cases e
            cases w <;> simp only [Wd.test, Wd.high, tell_add, tell_sub, tell_one, tell_nil] at c1 ⊢ <;> simp only [Tr.val, Wd.val] <;> omega
          · cases e
/-! ### rules have small numbers -/
def T3.In (r : T3) (n : Int) : Prop := (-n ≤ r.a ∧ r.a ≤ n) ∧ (-n ≤ r.b ∧ r.b ≤ n) ∧ -n ≤ r.c ∧ r.c ≤ n
theorem Wd.test_in {w : Wd} {r s : T3} {m n : Int} (hr : r.In m) (hs : s.In n) : (w.test r s).In (m + n + 1) := by
  obtain ⟨⟨_, _⟩, ⟨_, _⟩, _, _⟩ := hr
  obtain ⟨⟨_, _⟩, ⟨_, _⟩, _, _⟩ := hs
  cases w <;> simp only [T3.In, Wd.test, T3.add, T3.sub, T3.one] <;> omega
theorem Tr.rule_in {h : List T3} : ∀ {t : Tr} {r : T3}, t.rule h = some r → r.In t.size
  | .never, r, e => by cases e; simp [T3.In, T3.nil, Tr.size]
  | .always, r, e => by cases e; simp [T3.In, T3.one, Tr.size]
  | .p, r, e => by cases e; simp [T3.In, Tr.size]
  | .q, r, e => by cases e; simp [T3.In, Tr.size]
  | .neg a, r, e => by
    simp only [Tr.rule, Option.map_eq_some_iff] at e
    obtain ⟨s, e1, rfl⟩ := e
    obtain ⟨⟨_, _⟩, ⟨_, _⟩, _, _⟩ := Tr.rule_in e1
    simp only [T3.In, T3.sub, T3.one, Tr.size]
    omega
  | .fold w a b, r, e => by
    simp only [Tr.rule] at e
    cases ea : a.rule h with
    | none => rw [ea] at e; cases e
    | some ra =>
      cases eb : b.rule h with
      | none => rw [ea, eb] at e; cases e
      | some rb =>
        rw [ea, eb] at e
        obtain ⟨⟨_, _⟩, ⟨_, _⟩, _, _⟩ := Tr.rule_in ea
        obtain ⟨⟨_, _⟩, ⟨_, _⟩, _, _⟩ := Tr.rule_in eb
        simp only [Wd.rule] at e
        split at e
        · cases e
          cases w <;> simp only [T3.In, Wd.low, T3.add, T3.sub, T3.one, T3.nil, Tr.size] <;> omega
        · split at e
          · cases e
            cases w <;> simp only [T3.In, Wd.high, T3.add, T3.sub, T3.one, T3.nil, Tr.size] <;> omega
          · cases e
/-! ### determinants -/
def det (u v w : T3) : Int := u.a * (v.b * w.c - v.c * w.b) - u.b * (v.a * w.c - v.c * w.a) + u.c * (v.a * w.b - v.b * w.a)
theorem det_rot (u v w : T3) : det u v w = det v w u := by unfold det; grind
theorem det_tell_zero {s u v w : T3} (d : det u v w ≠ 0) (hu : s.tell u = 0) (hv : s.tell v = 0) (hw : s.tell w = 0) : s = T3.nil := by
  have e1 : s.a * det u v w = 0 := by unfold det; unfold T3.tell at hu hv hw; grind
  have e2 : s.b * det u v w = 0 := by unfold det; unfold T3.tell at hu hv hw; grind
  have e3 : s.c * det u v w = 0 := by unfold det; unfold T3.tell at hu hv hw; grind
  have f1 := (Int.mul_eq_zero.mp e1).resolve_right d
  have f2 := (Int.mul_eq_zero.mp e2).resolve_right d
  have f3 := (Int.mul_eq_zero.mp e3).resolve_right d
  cases s
  simp only [T3.nil, T3.mk.injEq]
  exact ⟨f1, f2, f3⟩
end K55

namespace K55
/-! ### the corner between two -/
def ab (n : Int) : Int := if n < 0 then -n else n
theorem ab_neg (n : Int) : ab (-n) = ab n := by unfold ab; split <;> split <;> omega
theorem ab_nonneg (n : Int) : 0 ≤ ab n := by unfold ab; split <;> omega
theorem ab_pos {n : Int} (h : n ≠ 0) : 0 < ab n := by unfold ab; split <;> omega
def comb (x : Int) (u : T3) (y : Int) (v : T3) : T3 := ⟨x * u.a + y * v.a, x * u.b + y * v.b, x * u.c + y * v.c⟩
def gcd3 (v : T3) : Int := (Int.gcd (Int.gcd v.a v.b) v.c : Nat)
def lowest (v : T3) : T3 := ⟨v.a / gcd3 v, v.b / gcd3 v, v.c / gcd3 v⟩
def mixed (u v : T3) (near far : Int) : T3 := comb (ab far) u (ab near) v
def mid (u v : T3) (near far : Int) : T3 := lowest (mixed u v near far)
def T3.mul (d : Int) (v : T3) : T3 := ⟨d * v.a, d * v.b, d * v.c⟩
theorem gcd3_pos {v : T3} (h : 0 < v.a) : 0 < gcd3 v := by
  unfold gcd3
  have h1 : 0 < Int.gcd v.a v.b := Int.gcd_pos_of_ne_zero_left _ (by omega)
  have h2 : 0 < Int.gcd (Int.gcd v.a v.b : Int) v.c := Int.gcd_pos_of_ne_zero_left _ (by omega)
  exact Int.natCast_pos.mpr h2
theorem lowest_mul {v : T3} : T3.mul (gcd3 v) (lowest v) = v := by
  have h1 : gcd3 v ∣ v.a := Int.dvd_trans (Int.gcd_dvd_left ..) (Int.gcd_dvd_left ..)
  have h2 : gcd3 v ∣ v.b := Int.dvd_trans (Int.gcd_dvd_left ..) (Int.gcd_dvd_right ..)
  have h3 : gcd3 v ∣ v.c := Int.gcd_dvd_right ..
  cases v
  simp only [T3.mul, lowest, T3.mk.injEq]
  exact ⟨Int.mul_ediv_cancel' h1, Int.mul_ediv_cancel' h2, Int.mul_ediv_cancel' h3⟩
theorem tell_mul (s : T3) (d : Int) (v : T3) : s.tell (T3.mul d v) = d * s.tell v := by unfold T3.tell T3.mul; grind
theorem tell_comb (s : T3) (x : Int) (u : T3) (y : Int) (v : T3) : s.tell (comb x u y v) = x * s.tell u + y * s.tell v := by unfold T3.tell comb; grind
theorem det_mul3 (d e f : Int) (u v w : T3) : det (T3.mul d u) (T3.mul e v) (T3.mul f w) = d * e * f * det u v w := by unfold det T3.mul; grind
theorem det_comb1 (x : Int) (u : T3) (y : Int) (u' v w : T3) : det (comb x u y u') v w = x * det u v w + y * det u' v w := by unfold det comb; grind
theorem det_comb2 (u : T3) (x : Int) (v : T3) (y : Int) (v' w : T3) : det u (comb x v y v') w = x * det u v w + y * det u v' w := by unfold det comb; grind
theorem det_comb3 (u v : T3) (x : Int) (w : T3) (y : Int) (w' : T3) : det u v (comb x w y w') = x * det u v w + y * det u v w' := by unfold det comb; grind
/-! ### hulls, going round -/
def T3.neg (r : T3) : T3 := ⟨-r.a, -r.b, -r.c⟩
theorem tell_neg (r k : T3) : r.neg.tell k = -r.tell k := by unfold T3.tell T3.neg; grind
def pt (h : List T3) (i : Nat) : T3 := h.getD (i % h.length) .nil
def tl (r : T3) (h : List T3) (i : Nat) : Int := r.tell (pt h i)
/-- the points that one meets going round: corners at even places, between them the crossings -/
def vec (r : T3) (h : List T3) (p : Nat) : T3 := if p % 2 = 0 then pt h (p / 2) else mid (pt h (p / 2)) (pt h (p / 2 + 1)) (tl r h (p / 2)) (tl r h (p / 2 + 1))
def crossB (r : T3) (h : List T3) (i : Nat) : Bool := decide (tl r h i * tl r h (i + 1) < 0)
def selL (r : T3) (h : List T3) (p : Nat) : Bool := if p % 2 = 0 then decide (tl r h (p / 2) ≤ 0) else crossB r h (p / 2)
def selH (r : T3) (h : List T3) (p : Nat) : Bool := if p % 2 = 0 then decide (0 ≤ tl r h (p / 2)) else crossB r h (p / 2)
def lowTo (r : T3) (h : List T3) (n : Nat) : List T3 := ((List.range (2 * n)).filter (selL r h)).map (vec r h)
def highTo (r : T3) (h : List T3) (n : Nat) : List T3 := ((List.range (2 * n)).filter (selH r h)).map (vec r h)
def lowH (r : T3) (h : List T3) : List T3 := lowTo r h h.length
def highH (r : T3) (h : List T3) : List T3 := highTo r h h.length
/-- one turn -/
theorem lowTo_succ (r : T3) (h : List T3) (n : Nat) : lowTo r h (n + 1) = lowTo r h n ++ (if tl r h n ≤ 0 then [pt h n] else []) ++ (if tl r h n * tl r h (n + 1) < 0 then [mid (pt h n) (pt h (n + 1)) (tl r h n) (tl r h (n + 1))] else []) := by
  unfold lowTo
  rw [show 2 * (n + 1) = 2 * n + 1 + 1 from rfl, List.range_succ, List.range_succ, List.filter_append, List.filter_append, List.map_append, List.map_append]
  have e1 : selL r h (2 * n) = decide (tl r h n ≤ 0) := by
    unfold selL
    rw [if_pos (by omega), show 2 * n / 2 = n by omega]
  have e2 : selL r h (2 * n + 1) = decide (tl r h n * tl r h (n + 1) < 0) := by
    unfold selL crossB
    rw [if_neg (by omega), show (2 * n + 1) / 2 = n by omega]
  have v1 : vec r h (2 * n) = pt h n := by
    unfold vec
    rw [if_pos (by omega), show 2 * n / 2 = n by omega]
  have v2 : vec r h (2 * n + 1) = mid (pt h n) (pt h (n + 1)) (tl r h n) (tl r h (n + 1)) := by
    unfold vec
    rw [if_neg (by omega), show (2 * n + 1) / 2 = n by omega]
  congr 1
  · congr 1
    rw [List.filter_cons, e1]
    by_cases c : tl r h n ≤ 0
    · rw [if_pos (decide_eq_true c), if_pos c, List.filter_nil, List.map_cons, v1, List.map_nil]
    · rw [if_neg (by rw [decide_eq_false c]; decide), if_neg c, List.filter_nil, List.map_nil]
  · rw [List.filter_cons, e2]
    by_cases c : tl r h n * tl r h (n + 1) < 0
    · rw [if_pos (decide_eq_true c), if_pos c, List.filter_nil, List.map_cons, v2, List.map_nil]
    · rw [if_neg (by rw [decide_eq_false c]; decide), if_neg c, List.filter_nil, List.map_nil]
theorem tl_neg (r : T3) (h : List T3) (i : Nat) : tl r.neg h i = -tl r h i := tell_neg _ _
theorem highTo_eq (r : T3) (h : List T3) (n : Nat) : highTo r h n = lowTo r.neg h n := by
  unfold highTo lowTo
  have e : selH r h = selL r.neg h := by
    funext p
    unfold selH selL crossB
    rw [tl_neg, tl_neg, Int.neg_mul_neg]
    split
    · exact decide_eq_decide.mpr (by omega)
    · rfl
  have v : vec r h = vec r.neg h := by
    funext p
    unfold vec mid mixed
    rw [tl_neg, tl_neg, ab_neg, ab_neg]
  rw [e, v]
theorem highTo_succ (r : T3) (h : List T3) (n : Nat) : highTo r h (n + 1) = highTo r h n ++ (if 0 ≤ tl r h n then [pt h n] else []) ++ (if tl r h n * tl r h (n + 1) < 0 then [mid (pt h n) (pt h (n + 1)) (tl r h n) (tl r h (n + 1))] else []) := by
  rw [highTo_eq, highTo_eq, lowTo_succ, tl_neg, tl_neg, Int.neg_mul_neg]
  unfold mid mixed
  rw [ab_neg, ab_neg]
  have e : (-tl r h n ≤ 0) = (0 ≤ tl r h n) := propext (by omega)
  simp only [e]
theorem highH_eq (r : T3) (h : List T3) : highH r h = lowH r.neg h := highTo_eq r h _
/-! ### corners stand in the list -/
theorem pt_lt {h : List T3} {i : Nat} (hi : i < h.length) : h[i]? = some (pt h i) := by
  unfold pt
  rw [Nat.mod_eq_of_lt hi, List.getElem?_eq_getElem hi, List.getD_eq_getElem?_getD, List.getElem?_eq_getElem hi]
  rfl
theorem pt_mem {h : List T3} (h0 : 0 < h.length) (i : Nat) : pt h i ∈ h := by
  have e : pt h i = pt h (i % h.length) := by
    unfold pt
    rw [Nat.mod_mod]
  rw [e]
  exact List.mem_of_getElem? (pt_lt (Nat.mod_lt _ h0))
theorem mem_pt {h : List T3} {k : T3} (hk : k ∈ h) : ∃ i, i < h.length ∧ pt h i = k := by
  obtain ⟨i, hi, e⟩ := List.mem_iff_getElem.mp hk
  have q := pt_lt hi
  rw [List.getElem?_eq_getElem hi, e] at q
  exact ⟨i, hi, (Option.some.inj q).symm⟩
theorem pt_wrap {h : List T3} (i : Nat) : pt h (h.length + i) = pt h i := by
  unfold pt
  rw [Nat.add_mod_left]
/-! ### convex: every three corners go against the clock -/
def Tri (h : List T3) : Prop := ∀ i j k, i < j → j < k → k < h.length → 0 < det (pt h i) (pt h j) (pt h k)
theorem det_same (u v : T3) : det u u v = 0 ∧ det u v v = 0 ∧ det u v u = 0 := by unfold det; refine ⟨?_, ?_, ?_⟩ <;> grind
theorem tri_nonneg {h : List T3} (T : Tri h) {i j k : Nat} (h1 : i ≤ j) (h2 : j ≤ k) (h3 : k ≤ h.length) : 0 ≤ det (pt h i) (pt h j) (pt h k) := by
  by_cases e1 : i = j
  · rw [e1, (det_same _ _).1]
    exact Int.le_refl 0
  by_cases e2 : j = k
  · rw [e2, (det_same _ _).2.1]
    exact Int.le_refl 0
  by_cases e3 : k < h.length
  · exact Int.le_of_lt (T i j k (by omega) (by omega) e3)
  · have e4 : k = h.length + 0 := by omega
    have e5 : pt h k = pt h 0 := by rw [e4, pt_wrap]
    rw [e5]
    by_cases e6 : i = 0
    · rw [e6, (det_same _ _).2.2]
      exact Int.le_refl 0
    · rw [det_rot, det_rot]
      exact Int.le_of_lt (T 0 i j (by omega) (by omega) (by omega))
theorem tri_pos {h : List T3} (T : Tri h) {i j k : Nat} (h1 : i < j) (h2 : j < k) (h3 : k ≤ h.length) (h4 : ¬ (i = 0 ∧ k = h.length)) : 0 < det (pt h i) (pt h j) (pt h k) := by
  by_cases e3 : k < h.length
  · exact T i j k h1 h2 e3
  · have e4 : k = h.length + 0 := by omega
    have e5 : pt h k = pt h 0 := by rw [e4, pt_wrap]
    rw [e5, det_rot, det_rot]
    exact T 0 i j (by omega) (by omega) (by omega)
/-- the weights of what is met -/
def wA (r : T3) (h : List T3) (p : Nat) : Int := if p % 2 = 0 then 1 else ab (tl r h (p / 2 + 1))
def wB (r : T3) (h : List T3) (p : Nat) : Int := if p % 2 = 0 then 0 else ab (tl r h (p / 2))
def wD (r : T3) (h : List T3) (p : Nat) : Int := if p % 2 = 0 then 1 else gcd3 (mixed (pt h (p / 2)) (pt h (p / 2 + 1)) (tl r h (p / 2)) (tl r h (p / 2 + 1)))
theorem vec_eq (r : T3) (h : List T3) (p : Nat) : T3.mul (wD r h p) (vec r h p) = comb (wA r h p) (pt h (p / 2)) (wB r h p) (pt h ((p + 1) / 2)) := by
  unfold wD vec wA wB
  by_cases c : p % 2 = 0
  · rw [if_pos c, if_pos c, if_pos c, if_pos c]
    simp [T3.mul, comb]
  · rw [if_neg c, if_neg c, if_neg c, if_neg c, show (p + 1) / 2 = p / 2 + 1 by omega]
    exact lowest_mul
/-- what a cut asks of the corners' first numbers -/
def Up (h : List T3) : Prop := ∀ k, k ∈ h → 0 < k.a
theorem cross_ne {r : T3} {h : List T3} {p : Nat} (hs : selL r h p = true) (hp : p % 2 = 1) : tl r h (p / 2) * tl r h (p / 2 + 1) < 0 := by
  unfold selL crossB at hs
  rw [if_neg (by omega)] at hs
  exact of_decide_eq_true hs
theorem ne_of_mul_neg {x y : Int} (h : x * y < 0) : x ≠ 0 ∧ y ≠ 0 := by
  refine ⟨fun e => ?_, fun e => ?_⟩
  · rw [e, Int.zero_mul] at h; omega
  · rw [e, Int.mul_zero] at h; omega
theorem wA_pos {r : T3} {h : List T3} {p : Nat} (hs : selL r h p = true) : 0 < wA r h p := by
  unfold wA
  by_cases c : p % 2 = 0
  · rw [if_pos c]; omega
  · rw [if_neg c]
    exact ab_pos (ne_of_mul_neg (cross_ne hs (by omega))).2
theorem wB_nonneg (r : T3) (h : List T3) (p : Nat) : 0 ≤ wB r h p := by
  unfold wB
  split
  · exact Int.le_refl 0
  · exact ab_nonneg _
theorem wB_pos {r : T3} {h : List T3} {p : Nat} (hs : selL r h p = true) (hp : p % 2 = 1) : 0 < wB r h p := by
  unfold wB
  rw [if_neg (by omega)]
  exact ab_pos (ne_of_mul_neg (cross_ne hs hp)).1
theorem wD_pos {r : T3} {h : List T3} {p : Nat} (h0 : 0 < h.length) (U : Up h) (hs : selL r h p = true) : 0 < wD r h p := by
  unfold wD
  by_cases c : p % 2 = 0
  · rw [if_pos c]; omega
  · rw [if_neg c]
    refine gcd3_pos ?_
    obtain ⟨n1, n2⟩ := ne_of_mul_neg (cross_ne hs (by omega))
    have a1 := Int.mul_pos (ab_pos n2) (U _ (pt_mem h0 (p / 2)))
    have a2 := Int.mul_pos (ab_pos n1) (U _ (pt_mem h0 (p / 2 + 1)))
    show 0 < ab (tl r h (p / 2 + 1)) * (pt h (p / 2)).a + ab (tl r h (p / 2)) * (pt h (p / 2 + 1)).a
    omega
theorem det_comb8 (x : Int) (u : T3) (y : Int) (u' : T3) (z : Int) (v : T3) (t : Int) (v' : T3) (e : Int) (w : T3) (f : Int) (w' : T3) : det (comb x u y u') (comb z v t v') (comb e w f w') =
    ((x * (z * (e * det u v w)) + x * (z * (f * det u v w'))) + (x * (t * (e * det u v' w)) + x * (t * (f * det u v' w')))) +
    ((y * (z * (e * det u' v w)) + y * (z * (f * det u' v w'))) + (y * (t * (e * det u' v' w)) + y * (t * (f * det u' v' w')))) := by
  rw [det_comb1, det_comb2, det_comb2, det_comb3, det_comb3, det_comb3, det_comb3]
  grind
/-- which corners to take -/
theorem pick8 {p q s m : Nat} (h3 : 3 ≤ m) (l1 : p < q) (l2 : q < s) (l3 : s < 2 * m) (n1 : ¬ (p % 2 = 0 ∧ q = p + 1 ∧ s = p + 2)) (n2 : ¬ (p = 0 ∧ q = 2 * m - 2 ∧ s = 2 * m - 1)) :
    (p / 2 < q / 2 ∧ q / 2 < s / 2) ∨ (s % 2 = 1 ∧ p / 2 < q / 2 ∧ q / 2 < (s + 1) / 2 ∧ ¬ (p / 2 = 0 ∧ (s + 1) / 2 = m)) ∨
    (q % 2 = 1 ∧ p / 2 < (q + 1) / 2 ∧ (q + 1) / 2 < s / 2) ∨ (q % 2 = 1 ∧ s % 2 = 1 ∧ p / 2 < (q + 1) / 2 ∧ (q + 1) / 2 < (s + 1) / 2 ∧ ¬ (p / 2 = 0 ∧ (s + 1) / 2 = m)) ∨
    (p % 2 = 1 ∧ (p + 1) / 2 < q / 2 ∧ q / 2 < s / 2) ∨ (p % 2 = 1 ∧ s % 2 = 1 ∧ (p + 1) / 2 < q / 2 ∧ q / 2 < (s + 1) / 2) ∨
    (p % 2 = 1 ∧ q % 2 = 1 ∧ (p + 1) / 2 < (q + 1) / 2 ∧ (q + 1) / 2 < s / 2) ∨ (p % 2 = 1 ∧ q % 2 = 1 ∧ s % 2 = 1 ∧ (p + 1) / 2 < (q + 1) / 2 ∧ (q + 1) / 2 < (s + 1) / 2) := by
  by_cases a1 : p / 2 < q / 2 ∧ q / 2 < s / 2
  · exact .inl a1
  by_cases a2 : q % 2 = 1 ∧ p / 2 < (q + 1) / 2 ∧ (q + 1) / 2 < s / 2
  · exact .inr (.inr (.inl a2))
  by_cases a3 : p % 2 = 1 ∧ s % 2 = 1 ∧ (p + 1) / 2 < q / 2 ∧ q / 2 < (s + 1) / 2
  · exact .inr (.inr (.inr (.inr (.inr (.inl a3)))))
  by_cases a4 : p % 2 = 1 ∧ q % 2 = 1 ∧ s % 2 = 1 ∧ (p + 1) / 2 < (q + 1) / 2 ∧ (q + 1) / 2 < (s + 1) / 2
  · exact .inr (.inr (.inr (.inr (.inr (.inr (.inr a4))))))
  by_cases a5 : q % 2 = 1 ∧ s % 2 = 1 ∧ p / 2 < (q + 1) / 2 ∧ (q + 1) / 2 < (s + 1) / 2
  · refine .inr (.inr (.inr (.inl ⟨a5.1, a5.2.1, a5.2.2.1, a5.2.2.2, ?_⟩)))
    omega
  refine .inr (.inl ?_)
  omega
theorem sum8 {a b c d e f g i : Int} (ha : 0 ≤ a) (hb : 0 ≤ b) (hc : 0 ≤ c) (hd : 0 ≤ d) (he : 0 ≤ e) (hf : 0 ≤ f) (hg : 0 ≤ g) (hi : 0 ≤ i)
    (k : 0 < a ∨ 0 < b ∨ 0 < c ∨ 0 < d ∨ 0 < e ∨ 0 < f ∨ 0 < g ∨ 0 < i) : 0 < ((a + b) + (c + d)) + ((e + f) + (g + i)) := by omega
/-- three points that are met in this order, unless a crossing between its two corners -/
theorem vec_det {r : T3} {h : List T3} (T : Tri h) (U : Up h) (h3 : 3 ≤ h.length) {p q s : Nat} (hp : selL r h p = true) (hq : selL r h q = true) (hs : selL r h s = true) (l1 : p < q) (l2 : q < s) (l3 : s < 2 * h.length)
    (n1 : ¬ (p % 2 = 0 ∧ q = p + 1 ∧ s = p + 2)) (n2 : ¬ (p = 0 ∧ q = 2 * h.length - 2 ∧ s = 2 * h.length - 1)) : 0 < det (vec r h p) (vec r h q) (vec r h s) := by
  have h0 : 0 < h.length := by omega
  have d1 := wD_pos h0 U hp
  have d2 := wD_pos h0 U hq
  have d3 := wD_pos h0 U hs
  have key : 0 < wD r h p * wD r h q * wD r h s * det (vec r h p) (vec r h q) (vec r h s) := by
    rw [← det_mul3, vec_eq, vec_eq, vec_eq]
    rw [det_comb8]
    have A1 := wA_pos hp
    have A2 := wA_pos hq
    have A3 := wA_pos hs
    have B1 := wB_nonneg r h p
    have B2 := wB_nonneg r h q
    have B3 := wB_nonneg r h s
    have nn : ∀ {x y z w : Int}, 0 ≤ x → 0 ≤ y → 0 ≤ z → 0 ≤ w → 0 ≤ x * (y * (z * w)) := fun a b c d => Int.mul_nonneg a (Int.mul_nonneg b (Int.mul_nonneg c d))
    have pp : ∀ {x y z w : Int}, 0 < x → 0 < y → 0 < z → 0 < w → 0 < x * (y * (z * w)) := fun a b c d => Int.mul_pos a (Int.mul_pos b (Int.mul_pos c d))
    have a1 := Int.le_of_lt A1
    have a2 := Int.le_of_lt A2
    have a3 := Int.le_of_lt A3
    have pick := pick8 h3 l1 l2 l3 n1 n2
    clear n1 n2
    refine sum8 (nn a1 a2 a3 (tri_nonneg T (by omega) (by omega) (by omega))) (nn a1 a2 B3 (tri_nonneg T (by omega) (by omega) (by omega)))
      (nn a1 B2 a3 (tri_nonneg T (by omega) (by omega) (by omega))) (nn a1 B2 B3 (tri_nonneg T (by omega) (by omega) (by omega)))
      (nn B1 a2 a3 (tri_nonneg T (by omega) (by omega) (by omega))) (nn B1 a2 B3 (tri_nonneg T (by omega) (by omega) (by omega)))
      (nn B1 B2 a3 (tri_nonneg T (by omega) (by omega) (by omega))) (nn B1 B2 B3 (tri_nonneg T (by omega) (by omega) (by omega))) ?_
    rcases pick with c | c | c | c | c | c | c | c
    · exact .inl (pp A1 A2 A3 (tri_pos T c.1 c.2 (by omega) (by omega)))
    · exact .inr (.inl (pp A1 A2 (wB_pos hs c.1) (tri_pos T c.2.1 c.2.2.1 (by omega) c.2.2.2)))
    · exact .inr (.inr (.inl (pp A1 (wB_pos hq c.1) A3 (tri_pos T c.2.1 c.2.2 (by omega) (by omega)))))
    · exact .inr (.inr (.inr (.inl (pp A1 (wB_pos hq c.1) (wB_pos hs c.2.1) (tri_pos T c.2.2.1 c.2.2.2.1 (by omega) c.2.2.2.2)))))
    · exact .inr (.inr (.inr (.inr (.inl (pp (wB_pos hp c.1) A2 A3 (tri_pos T c.2.1 c.2.2 (by omega) (by omega)))))))
    · exact .inr (.inr (.inr (.inr (.inr (.inl (pp (wB_pos hp c.1) A2 (wB_pos hs c.2.1) (tri_pos T c.2.2.1 c.2.2.2 (by omega) (by omega))))))))
    · exact .inr (.inr (.inr (.inr (.inr (.inr (.inl (pp (wB_pos hp c.1) (wB_pos hq c.2.1) A3 (tri_pos T c.2.2.1 c.2.2.2 (by omega) (by omega)))))))))
    · exact .inr (.inr (.inr (.inr (.inr (.inr (.inr (pp (wB_pos hp c.1) (wB_pos hq c.2.1) (wB_pos hs c.2.2.1) (tri_pos T c.2.2.2.1 c.2.2.2.2 (by omega) (by omega)))))))))
  have dd : 0 < wD r h p * wD r h q * wD r h s := Int.mul_pos (Int.mul_pos d1 d2) d3
  by_cases z : 0 < det (vec r h p) (vec r h q) (vec r h s)
  · exact z
  · have := Int.mul_nonneg (Int.le_of_lt dd) (show 0 ≤ -det (vec r h p) (vec r h q) (vec r h s) by omega)
    rw [Int.mul_neg] at this
    omega
end K55

namespace K55
/-! ### what is met, as an ordered list of places -/
def locs (r : T3) (h : List T3) : List Nat := (List.range (2 * h.length)).filter (selL r h)
theorem lowH_eq (r : T3) (h : List T3) : lowH r h = (locs r h).map (vec r h) := rfl
theorem locs_sel {r : T3} {h : List T3} {p : Nat} (hp : p ∈ locs r h) : p < 2 * h.length ∧ selL r h p = true := by
  obtain ⟨h1, h2⟩ := List.mem_filter.mp hp
  exact ⟨List.mem_range.mp h1, h2⟩
theorem locs_up (r : T3) (h : List T3) : (locs r h).Pairwise (· < ·) := List.Pairwise.filter _ List.pairwise_lt_range
theorem lowH_len (r : T3) (h : List T3) : (lowH r h).length = (locs r h).length := List.length_map _
theorem pt_low {r : T3} {h : List T3} {i : Nat} (hi : i < (locs r h).length) : pt (lowH r h) i = vec r h ((locs r h)[i]) := by
  have e := pt_lt (h := lowH r h) (i := i) (by rw [lowH_len]; exact hi)
  rw [lowH_eq, List.getElem?_map, List.getElem?_eq_getElem hi] at e
  exact (Option.some.inj e).symm
theorem sel_even {r : T3} {h : List T3} {p : Nat} (hs : selL r h p = true) (hp : p % 2 = 0) : tl r h (p / 2) ≤ 0 := by
  unfold selL at hs
  rw [if_pos hp] at hs
  exact of_decide_eq_true hs
theorem tl_wrap (r : T3) (h : List T3) (i : Nat) : tl r h (h.length + i) = tl r h i := by
  unfold tl
  rw [pt_wrap]
theorem low_tri {r : T3} {h : List T3} (T : Tri h) (U : Up h) (h3 : 3 ≤ h.length) : Tri (lowH r h) := by
  intro i j k hij hjk hk
  rw [lowH_len] at hk
  have hj : j < (locs r h).length := by omega
  have hi : i < (locs r h).length := by omega
  rw [pt_low hi, pt_low hj, pt_low hk]
  obtain ⟨b1, s1⟩ := locs_sel (List.getElem_mem hi)
  obtain ⟨b2, s2⟩ := locs_sel (List.getElem_mem hj)
  obtain ⟨b3, s3⟩ := locs_sel (List.getElem_mem hk)
  have o1 := List.pairwise_iff_getElem.mp (locs_up r h) i j hi hj hij
  have o2 := List.pairwise_iff_getElem.mp (locs_up r h) j k hj hk hjk
  refine vec_det T U h3 s1 s2 s3 o1 o2 b3 (fun ⟨n1, n2, n3⟩ => ?_) fun ⟨n1, n2, n3⟩ => ?_
  · have t1 := sel_even s1 n1
    have t2 := cross_ne s2 (by omega)
    have t3 := sel_even s3 (by omega)
    rw [show (locs r h)[j] / 2 = (locs r h)[i] / 2 by omega] at t2
    rw [show (locs r h)[k] / 2 = (locs r h)[i] / 2 + 1 by omega] at t3
    have := Int.mul_nonneg (show 0 ≤ -tl r h ((locs r h)[i] / 2) by omega) (show 0 ≤ -tl r h ((locs r h)[i] / 2 + 1) by omega)
    rw [Int.neg_mul_neg] at this
    omega
  · have t1 := sel_even s1 (by omega)
    have t2 := sel_even s2 (by omega)
    have t3 := cross_ne s3 (by omega)
    rw [show (locs r h)[i] / 2 = 0 by omega] at t1
    rw [show (locs r h)[k] / 2 = (locs r h)[j] / 2 by omega, show (locs r h)[j] / 2 + 1 = h.length + 0 by omega, tl_wrap] at t3
    have := Int.mul_nonneg (show 0 ≤ -tl r h ((locs r h)[j] / 2) by omega) (show 0 ≤ -tl r h 0 by omega)
    rw [Int.neg_mul_neg] at this
    omega
/-! ### three at least -/
theorem three {f : Nat → Bool} {n p q s : Nat} (l1 : p < q) (l2 : q < s) (l3 : s < n) (hp : f p = true) (hq : f q = true) (hs : f s = true) : 3 ≤ ((List.range n).filter f).length := by
  have stepT : ∀ m, f m = true → ((List.range (m + 1)).filter f).length = ((List.range m).filter f).length + 1 := fun m hm => by
    rw [List.range_succ, List.filter_append, List.length_append, List.filter_cons, if_pos hm]
    rfl
  have mono : ∀ d m, ((List.range m).filter f).length ≤ ((List.range (m + d)).filter f).length := fun d => by
    induction d with
    | zero => intro m; exact Nat.le_refl _
    | succ d ih =>
      intro m
      refine Nat.le_trans (ih m) ?_
      rw [← Nat.add_assoc, List.range_succ, List.filter_append, List.length_append]
      exact Nat.le_add_right _ _
  have a1 := stepT p hp
  have a2 := stepT q hq
  have a3 := stepT s hs
  have b1 := mono (q - (p + 1)) (p + 1)
  have b2 := mono (s - (q + 1)) (q + 1)
  have b3 := mono (n - (s + 1)) (s + 1)
  rw [show p + 1 + (q - (p + 1)) = q by omega] at b1
  rw [show q + 1 + (s - (q + 1)) = s by omega] at b2
  rw [show s + 1 + (n - (s + 1)) = n by omega] at b3
  omega
/-- a row of numbers that rises over 0 does so somewhere -/
theorem rises {f : Nat → Int} {i : Nat} : ∀ {j : Nat}, i < j → f i < 0 → 0 ≤ f j → ∃ t, i ≤ t ∧ t < j ∧ f t < 0 ∧ 0 ≤ f (t + 1)
  | 0, h, _, _ => absurd h (Nat.not_lt_zero _)
  | j + 1, h, h1, h2 => by
    by_cases e : i = j
    · exact ⟨i, Nat.le_refl _, h, h1, by rw [e]; exact h2⟩
    · by_cases c : 0 ≤ f j
      · obtain ⟨t, a, b, k⟩ := rises (j := j) (by omega) h1 c
        exact ⟨t, a, by omega, k⟩
      · exact ⟨j, by omega, Nat.lt_succ_self _, by omega, h2⟩
theorem sel_even_of {r : T3} {h : List T3} {t : Nat} (ht : tl r h t ≤ 0) : selL r h (2 * t) = true := by
  unfold selL
  rw [if_pos (by omega), show 2 * t / 2 = t by omega]
  exact decide_eq_true ht
theorem sel_odd_of {r : T3} {h : List T3} {t : Nat} (ht : tl r h t * tl r h (t + 1) < 0) : selL r h (2 * t + 1) = true := by
  unfold selL crossB
  rw [if_neg (by omega), show (2 * t + 1) / 2 = t by omega]
  exact decide_eq_true ht
/-- a change of sign is met -/
theorem met {r : T3} {h : List T3} {t : Nat} (ht : (tl r h t < 0 ∧ 0 ≤ tl r h (t + 1)) ∨ (0 < tl r h t ∧ tl r h (t + 1) ≤ 0)) :
    ∃ p, selL r h p = true ∧ ((p = 2 * t + 1 ∧ tl r h (t + 1) ≠ 0) ∨ (p = 2 * (t + 1) ∧ tl r h (t + 1) = 0)) := by
  by_cases z : tl r h (t + 1) = 0
  · exact ⟨_, sel_even_of (t := t + 1) (by omega), .inr ⟨rfl, z⟩⟩
  · refine ⟨_, sel_odd_of (t := t) ?_, .inl ⟨rfl, z⟩⟩
    rcases ht with ⟨a, b⟩ | ⟨a, b⟩
    · have := Int.mul_pos (show 0 < -tl r h t by omega) (show 0 < tl r h (t + 1) by omega)
      rw [Int.neg_mul] at this
      omega
    · have := Int.mul_pos (show 0 < tl r h t by omega) (show 0 < -tl r h (t + 1) by omega)
      rw [Int.mul_neg] at this
      omega
/-- .. between two corners ahead of which it lies -/
theorem met_in {r : T3} {h : List T3} {i j : Nat} (hij : i < j) (hs : (tl r h i < 0 ∧ 0 < tl r h j) ∨ (0 < tl r h i ∧ tl r h j < 0)) : ∃ p, selL r h p = true ∧ 2 * i < p ∧ p < 2 * j := by
  rcases hs with ⟨a, b⟩ | ⟨a, b⟩
  · obtain ⟨t, t1, t2, t3, t4⟩ := rises (f := tl r h) hij a (Int.le_of_lt b)
    obtain ⟨p, p1, p2⟩ := met (.inl ⟨t3, t4⟩)
    refine ⟨p, p1, by omega, ?_⟩
    rcases p2 with ⟨p2, z⟩ | ⟨p2, z⟩
    · omega
    · have : t + 1 ≠ j := fun e => by rw [e] at z; omega
      omega
  · obtain ⟨t, t1, t2, t3, t4⟩ := rises (f := fun i => -tl r h i) hij (show -tl r h i < 0 by omega) (show 0 ≤ -tl r h j by omega)
    have t3' : -tl r h t < 0 := t3
    have t4' : 0 ≤ -tl r h (t + 1) := t4
    obtain ⟨p, p1, p2⟩ := met (r := r) (h := h) (t := t) (.inr ⟨by omega, by omega⟩)
    refine ⟨p, p1, by omega, ?_⟩
    rcases p2 with ⟨p2, z⟩ | ⟨p2, z⟩
    · omega
    · have : t + 1 ≠ j := fun e => by rw [e] at z; omega
      omega
/-- the places beyond one round are those of the next -/
theorem sel_wrap (r : T3) (h : List T3) (p : Nat) : selL r h (2 * h.length + p) = selL r h p := by
  have e1 : (2 * h.length + p) % 2 = p % 2 := by omega
  have e2 : (2 * h.length + p) / 2 = h.length + p / 2 := by omega
  unfold selL crossB
  rw [e1, e2, tl_wrap, Nat.add_assoc, tl_wrap]
theorem low_three {r : T3} {h : List T3} {i j : Nat} (hi : i < h.length) (hj : j < h.length) (a : tl r h i < 0) (b : 0 < tl r h j) : 3 ≤ (lowH r h).length := by
  rw [lowH_len]
  have si : selL r h (2 * i) = true := sel_even_of (by omega)
  by_cases c : i < j
  · obtain ⟨p, p1, p2, p3⟩ := met_in c (.inl ⟨a, b⟩)
    obtain ⟨q, q1, q2, q3⟩ := met_in (r := r) (h := h) (i := j) (j := h.length + i) (by omega) (.inr ⟨b, by rw [tl_wrap]; exact a⟩)
    by_cases z : q < 2 * h.length
    · exact three (p := 2 * i) (q := p) (s := q) (by omega) (by omega) z si p1 q1
    · have q1' : selL r h (q - 2 * h.length) = true := by
        rw [← sel_wrap, show 2 * h.length + (q - 2 * h.length) = q by omega]
        exact q1
      exact three (p := q - 2 * h.length) (q := 2 * i) (s := p) (by omega) (by omega) (by omega) q1' si p1
  · have n : i ≠ j := fun e => by rw [e] at a; omega
    obtain ⟨p, p1, p2, p3⟩ := met_in (r := r) (h := h) (i := j) (j := i) (by omega) (.inr ⟨b, a⟩)
    obtain ⟨q, q1, q2, q3⟩ := met_in (r := r) (h := h) (i := i) (j := h.length + j) (by omega) (.inl ⟨a, by rw [tl_wrap]; exact b⟩)
    by_cases z : q < 2 * h.length
    · exact three (p := p) (q := 2 * i) (s := q) (by omega) (by omega) z p1 si q1
    · have q1' : selL r h (q - 2 * h.length) = true := by
        rw [← sel_wrap, show 2 * h.length + (q - 2 * h.length) = q by omega]
        exact q1
      exact three (p := q - 2 * h.length) (q := p) (s := 2 * i) (by omega) (by omega) (by omega) q1' p1 si
/-! ### what a hull's parts keep -/
theorem low_mem {r : T3} {h : List T3} {k : T3} (hk : k ∈ lowH r h) : ∃ p, p < 2 * h.length ∧ selL r h p = true ∧ vec r h p = k := by
  rw [lowH_eq] at hk
  obtain ⟨p, hp, e⟩ := List.mem_map.mp hk
  obtain ⟨a, b⟩ := locs_sel hp
  exact ⟨p, a, b, e⟩
/-- a corner of the low part is a positive part of two corners -/
theorem low_parts {r : T3} {h : List T3} (h0 : 0 < h.length) (U : Up h) {k : T3} (hk : k ∈ lowH r h) : k ∈ h ∨
    ∃ i d x y, 0 < d ∧ 0 < x ∧ 0 < y ∧ T3.mul d k = comb x (pt h i) y (pt h (i + 1)) ∧ x = ab (tl r h (i + 1)) ∧ y = ab (tl r h i) ∧ tl r h i * tl r h (i + 1) < 0 := by
  obtain ⟨p, _, hs, rfl⟩ := low_mem hk
  by_cases c : p % 2 = 0
  · refine .inl ?_
    unfold vec
    rw [if_pos c]
    exact pt_mem h0 _
  · have v := vec_eq r h p
    rw [show (p + 1) / 2 = p / 2 + 1 by omega] at v
    refine .inr ⟨p / 2, wD r h p, wA r h p, wB r h p, wD_pos h0 U hs, wA_pos hs, wB_pos hs (by omega), v, ?_, ?_, cross_ne hs (by omega)⟩
    · unfold wA
      rw [if_neg c]
    · unfold wB
      rw [if_neg c]
theorem ge_low {r s : T3} {h : List T3} (h0 : 0 < h.length) (U : Up h) (g : GeAll s h) : GeAll s (lowH r h) := fun k hk => by
  rcases low_parts h0 U hk with m | ⟨i, d, x, y, hd, hx, hy, e, _⟩
  · exact g k m
  · have e1 : d * s.tell k = x * s.tell (pt h i) + y * s.tell (pt h (i + 1)) := by rw [← tell_mul, e, tell_comb]
    have a1 := Int.mul_nonneg (Int.le_of_lt hx) (g _ (pt_mem h0 i))
    have a2 := Int.mul_nonneg (Int.le_of_lt hy) (g _ (pt_mem h0 (i + 1)))
    by_cases z : 0 ≤ s.tell k
    · exact z
    · have := Int.mul_pos hd (show 0 < -s.tell k by omega)
      rw [Int.mul_neg] at this
      omega
theorem le_neg {s : T3} {h : List T3} : LeAll s h ↔ GeAll s.neg h := by
  unfold LeAll GeAll
  constructor
  · intro a k hk
    rw [tell_neg]
    have := a k hk
    omega
  · intro a k hk
    have := a k hk
    rw [tell_neg] at this
    omega
theorem le_low {r s : T3} {h : List T3} (h0 : 0 < h.length) (U : Up h) (g : LeAll s h) : LeAll s (lowH r h) := le_neg.mpr (ge_low h0 U (le_neg.mp g))
/-- the rule is nowhere more than 0 in the low part -/
theorem low_le {r : T3} {h : List T3} (h0 : 0 < h.length) (U : Up h) : LeAll r (lowH r h) := fun k hk => by
  obtain ⟨p, _, hs, e⟩ := low_mem hk
  by_cases c : p % 2 = 0
  · have := sel_even hs c
    rw [← e]
    unfold vec
    rw [if_pos c]
    exact this
  · rcases low_parts h0 U hk with m | ⟨i, d, x, y, hd, hx, hy, e2, ex, ey, hn⟩
    · have v := vec_eq r h p
      have e1 : wD r h p * r.tell (vec r h p) = wA r h p * tl r h (p / 2) + wB r h p * tl r h ((p + 1) / 2) := by rw [← tell_mul, v, tell_comb]; rfl
      rw [show (p + 1) / 2 = p / 2 + 1 by omega] at e1
      have e3 : wA r h p * tl r h (p / 2) + wB r h p * tl r h (p / 2 + 1) = 0 := by
        unfold wA wB
        rw [if_neg c, if_neg c]
        exact zero_ab (cross_ne hs (by omega))
      rw [e3] at e1
      have := (Int.mul_eq_zero.mp e1).resolve_left (by have := wD_pos h0 U hs; omega)
      rw [← e, this]
      exact Int.le_refl 0
    · have e1 : d * r.tell k = x * tl r h i + y * tl r h (i + 1) := by rw [← tell_mul, e2, tell_comb]; rfl
      rw [ex, ey, zero_ab hn] at e1
      have := (Int.mul_eq_zero.mp e1).resolve_left (by omega)
      rw [this]
      exact Int.le_refl 0
where
  zero_ab {f g : Int} (h : f * g < 0) : ab g * f + ab f * g = 0 := by
    unfold ab
    by_cases a : f < 0
    · have b : ¬ g < 0 := fun z => by
        have := Int.mul_pos (show 0 < -f by omega) (show 0 < -g by omega)
        rw [Int.neg_mul_neg] at this
        omega
      rw [if_pos a, if_neg b, Int.neg_mul, Int.mul_comm g f]
      omega
    · by_cases b : g < 0
      · rw [if_neg a, if_pos b, Int.neg_mul, Int.mul_comm g f]
        omega
      · have := Int.mul_nonneg (show 0 ≤ f by omega) (show 0 ≤ g by omega)
        omega
/-! ### hulls in order: d cuts deep -/
structure HOk (d : Nat) (h : List T3) : Prop where
  len : 3 ≤ h.length
  most : h.length ≤ 4 * 2 ^ d
  tri : Tri h
  at_ : ∀ k, k ∈ h → 0 < k.a ∧ k.a < 2 ^ (9 * 2 ^ d - 8) ∧ (0 ≤ k.b ∧ k.b ≤ k.a) ∧ 0 ≤ k.c ∧ k.c ≤ k.a
theorem HOk.up {d : Nat} {h : List T3} (H : HOk d h) : Up h := fun k hk => (H.at_ k hk).1
theorem HOk.pos {d : Nat} {h : List T3} (H : HOk d h) : 0 < h.length := by have := H.len; omega
/-- a hull is not flat -/
theorem HOk.flat {d : Nat} {h : List T3} (H : HOk d h) {s : T3} (z : ∀ k, k ∈ h → s.tell k = 0) : s = .nil := by
  have := H.len
  have g := H.tri 0 1 2 (by omega) (by omega) (by omega)
  exact det_tell_zero (u := pt h 0) (v := pt h 1) (w := pt h 2) (by omega) (z _ (pt_mem H.pos 0)) (z _ (pt_mem H.pos 1)) (z _ (pt_mem H.pos 2))
def Cuts (r : T3) (h : List T3) : Prop := (∃ k, k ∈ h ∧ r.tell k < 0) ∧ ∃ k, k ∈ h ∧ 0 < r.tell k
theorem Cuts.neg {r : T3} {h : List T3} (c : Cuts r h) : Cuts r.neg h := by
  obtain ⟨⟨k, a, b⟩, m, e, f⟩ := c
  exact ⟨⟨m, e, by rw [tell_neg]; omega⟩, k, a, by rw [tell_neg]; omega⟩
theorem In.neg {r : T3} {n : Int} (h : r.In n) : r.neg.In n := by
  obtain ⟨⟨_, _⟩, ⟨_, _⟩, _, _⟩ := h
  simp only [T3.In, T3.neg]
  omega
theorem mul_bd {x n y m : Int} (h1 : -n ≤ x) (h2 : x ≤ n) (h3 : 0 ≤ y) (h4 : y ≤ m) (hn : 0 ≤ n) : -(n * m) ≤ x * y ∧ x * y ≤ n * m := by
  have a := Int.mul_nonneg (show 0 ≤ n - x by omega) h3
  have b := Int.mul_nonneg (show 0 ≤ n + x by omega) h3
  have c := Int.mul_nonneg hn (show 0 ≤ m - y by omega)
  rw [Int.sub_mul] at a
  rw [Int.add_mul] at b
  rw [Int.mul_sub] at c
  omega
/-- a rule of small numbers tells little -/
theorem tell_bd {r k : T3} {M : Int} (hr : r.In 32) (h1 : 0 < k.a) (h2 : k.a < M) (h3 : 0 ≤ k.b ∧ k.b ≤ k.a) (h4 : 0 ≤ k.c ∧ k.c ≤ k.a) : ab (r.tell k) < 128 * M := by
  obtain ⟨⟨a1, a2⟩, ⟨b1, b2⟩, c1, c2⟩ := hr
  have x := mul_bd a1 a2 h3.1 h3.2 (by omega)
  have y := mul_bd b1 b2 h4.1 h4.2 (by omega)
  have z := mul_bd c1 c2 (show 0 ≤ k.a by omega) (Int.le_refl k.a) (by omega)
  have t : r.tell k = r.a * k.b + r.b * k.c + r.c * k.a := rfl
  unfold ab
  split <;> omega
theorem pow_cut (d : Nat) : (128 * (2 ^ (9 * 2 ^ d - 8) : Int)) * 2 ^ (9 * 2 ^ d - 8) + (128 * (2 ^ (9 * 2 ^ d - 8) : Int)) * 2 ^ (9 * 2 ^ d - 8) = 2 ^ (9 * 2 ^ (d + 1) - 8) := by
  have p : 1 ≤ 2 ^ d := Nat.one_le_two_pow
  have e : 9 * 2 ^ (d + 1) - 8 = (9 * 2 ^ d - 8) + (9 * 2 ^ d - 8) + 8 := by
    rw [Nat.pow_succ]
    omega
  rw [e, Int.pow_add, Int.pow_add]
  generalize (2 ^ (9 * 2 ^ d - 8) : Int) = X
  have : (2 : Int) ^ 8 = 256 := by decide
  rw [this]
  grind
theorem low_ok {d : Nat} {r : T3} {h : List T3} (H : HOk d h) (hr : r.In 32) (c : Cuts r h) : HOk (d + 1) (lowH r h) := by
  obtain ⟨⟨k1, m1, e1⟩, k2, m2, e2⟩ := c
  obtain ⟨i, hi, f1⟩ := mem_pt m1
  obtain ⟨j, hj, f2⟩ := mem_pt m2
  refine ⟨low_three hi hj (by unfold tl; rw [f1]; exact e1) (by unfold tl; rw [f2]; exact e2), ?_, low_tri H.tri H.up H.len, fun k hk => ?_⟩
  · have l : (lowH r h).length ≤ 2 * h.length := by
      rw [lowH_len]
      unfold locs
      have := List.length_filter_le (selL r h) (List.range (2 * h.length))
      rw [List.length_range] at this
      exact this
    have := H.most
    rw [Nat.pow_succ]
    omega
  · have mono : (2 : Int) ^ (9 * 2 ^ d - 8) ≤ 2 ^ (9 * 2 ^ (d + 1) - 8) := by
      have q := pow_cut d
      have p : (0 : Int) < 2 ^ (9 * 2 ^ d - 8) := Int.pow_pos (by decide)
      have q2 := Int.mul_pos (show (0 : Int) < 128 by decide) p
      have q3 := Int.mul_nonneg (show (0 : Int) ≤ 128 * 2 ^ (9 * 2 ^ d - 8) - 1 by omega) (Int.le_of_lt p)
      rw [Int.sub_mul] at q3
      omega
    rcases low_parts H.pos H.up hk with m | ⟨i, dd, x, y, hd, hx, hy, e, ex, ey, _⟩
    · obtain ⟨a1, a2, a3⟩ := H.at_ k m
      exact ⟨a1, by omega, a3⟩
    · have q1 := H.at_ _ (pt_mem H.pos i)
      have q2 := H.at_ _ (pt_mem H.pos (i + 1))
      generalize eu : pt h i = u at *
      generalize ev : pt h (i + 1) = v at *
      have ea : dd * k.a = x * u.a + y * v.a := congrArg T3.a e
      have eb : dd * k.b = x * u.b + y * v.b := congrArg T3.b e
      have ec : dd * k.c = x * u.c + y * v.c := congrArg T3.c e
      have sg : ∀ {z : Int}, 0 < dd * z → 0 < z := fun {z} h => by
        by_cases c : 0 < z
        · exact c
        · have := Int.mul_nonneg (Int.le_of_lt hd) (show 0 ≤ -z by omega)
          rw [Int.mul_neg] at this
          omega
      have sn : ∀ {z : Int}, 0 ≤ dd * z → 0 ≤ z := fun {z} h => by
        by_cases c : 0 ≤ z
        · exact c
        · have := Int.mul_pos hd (show 0 < -z by omega)
          rw [Int.mul_neg] at this
          omega
      have xa := Int.mul_pos hx q1.1
      have ya := Int.mul_pos hy q2.1
      have ka : 0 < k.a := sg (by omega)
      refine ⟨ka, ?_, ⟨sn ?_, ?_⟩, sn ?_, ?_⟩
      · have bx : x < 128 * 2 ^ (9 * 2 ^ d - 8) := by
          rw [ex]
          show ab (r.tell (pt h (i + 1))) < _
          rw [ev]
          exact tell_bd hr q2.1 q2.2.1 q2.2.2.1 q2.2.2.2
        have by_ : y < 128 * 2 ^ (9 * 2 ^ d - 8) := by
          rw [ey]
          show ab (r.tell (pt h i)) < _
          rw [eu]
          exact tell_bd hr q1.1 q1.2.1 q1.2.2.1 q1.2.2.2
        have p := pow_cut d
        have u1 := q1.2.1
        have v1 := q2.2.1
        have u0 := q1.1
        have v0 := q2.1
        generalize (2 ^ (9 * 2 ^ d - 8) : Int) = X at *
        have m1 := Int.mul_lt_mul bx (Int.le_of_lt u1) u0 (by omega)
        have m2 := Int.mul_lt_mul by_ (Int.le_of_lt v1) v0 (by omega)
        have m3 := Int.mul_nonneg (show 0 ≤ dd - 1 by omega) (Int.le_of_lt ka)
        rw [Int.sub_mul] at m3
        omega
      · have := Int.mul_nonneg (Int.le_of_lt hx) q1.2.2.1.1
        have := Int.mul_nonneg (Int.le_of_lt hy) q2.2.2.1.1
        omega
      · have t : 0 ≤ k.a - k.b := sn (by
          have z1 := Int.mul_nonneg (Int.le_of_lt hx) (show 0 ≤ u.a - u.b by omega)
          have z2 := Int.mul_nonneg (Int.le_of_lt hy) (show 0 ≤ v.a - v.b by omega)
          rw [Int.mul_sub] at z1 z2 ⊢
          omega)
        omega
      · have := Int.mul_nonneg (Int.le_of_lt hx) q1.2.2.2.1
        have := Int.mul_nonneg (Int.le_of_lt hy) q2.2.2.2.1
        omega
      · have t : 0 ≤ k.a - k.c := sn (by
          have z1 := Int.mul_nonneg (Int.le_of_lt hx) (show 0 ≤ u.a - u.c by omega)
          have z2 := Int.mul_nonneg (Int.le_of_lt hy) (show 0 ≤ v.a - v.c by omega)
          rw [Int.mul_sub] at z1 z2 ⊢
          omega)
        omega
theorem high_ok {d : Nat} {r : T3} {h : List T3} (H : HOk d h) (hr : r.In 32) (c : Cuts r h) : HOk (d + 1) (highH r h) := by
  rw [highH_eq]
  exact low_ok H (In.neg hr) c.neg
theorem ge_high {r s : T3} {h : List T3} (h0 : 0 < h.length) (U : Up h) (g : GeAll s h) : GeAll s (highH r h) := by
  rw [highH_eq]
  exact ge_low h0 U g
theorem le_high {r s : T3} {h : List T3} (h0 : 0 < h.length) (U : Up h) (g : LeAll s h) : LeAll s (highH r h) := by
  rw [highH_eq]
  exact le_low h0 U g
theorem high_ge {r : T3} {h : List T3} (h0 : 0 < h.length) (U : Up h) : GeAll r (highH r h) := fun k hk => by
  rw [highH_eq] at hk
  have := low_le h0 U k hk
  rw [tell_neg] at this
  omega
/-- each corner stands in a part -/
theorem part_mem {r : T3} {h : List T3} {k : T3} (hk : k ∈ h) : k ∈ lowH r h ∨ k ∈ highH r h := by
  obtain ⟨i, hi, e⟩ := mem_pt hk
  have key : ∀ s : T3, tl s h i ≤ 0 → k ∈ lowH s h := fun s z => by
    rw [lowH_eq]
    refine List.mem_map.mpr ⟨2 * i, List.mem_filter.mpr ⟨List.mem_range.mpr (by omega), sel_even_of z⟩, ?_⟩
    unfold vec
    rw [if_pos (by omega), show 2 * i / 2 = i by omega]
    exact e
  by_cases c : tl r h i ≤ 0
  · exact .inl (key r c)
  · refine .inr ?_
    rw [highH_eq]
    exact key _ (by rw [tl_neg]; omega)
def square : List T3 := [⟨1, 0, 0⟩, ⟨1, 1, 0⟩, ⟨1, 1, 1⟩, ⟨1, 0, 1⟩]
theorem square_ok : HOk 0 square := by
  refine ⟨by decide, by decide, ?_, ?_⟩
  · intro i j k hij hjk hk
    have hk4 : k < 4 := hk
    match i, j, k with
    | 0, 1, 2 => decide
    | 0, 1, 3 => decide
    | 0, 2, 3 => decide
    | 1, 2, 3 => decide
    | 0, 0, _ => omega
    | 0, 1, 0 | 0, 1, 1 | 0, 2, 0 | 0, 2, 1 | 0, 2, 2 => omega
    | 0, j + 3, k => omega
    | 1, 0, _ | 1, 1, _ => omega
    | 1, 2, 0 | 1, 2, 1 | 1, 2, 2 => omega
    | 1, j + 3, k => omega
    | i + 2, j, k => omega
    | _, _, k + 4 => omega
  · intro k hk
    rcases List.mem_cons.mp hk with rfl | hk
    · decide
    rcases List.mem_cons.mp hk with rfl | hk
    · decide
    rcases List.mem_cons.mp hk with rfl | hk
    · decide
    rcases List.mem_cons.mp hk with rfl | hk
    · decide
    cases hk
end K55

namespace K55
open PySem PySem.Spec PyProof.Rows L2
def tEx {ι : Type} (t : ι → TE) : TE := fun σ H Q => ∃ i, t i σ H Q
section
variable {X : Cx}
/-! ### one of many readings -/
theorem PE_ex {e : Expr} {ι : Type} {t : ι → TE} (h : ∀ i, PE X e (t i)) : PE X e (tEx t) :=
  ⟨fun pins s σ H Q I q => q.elim fun i qi => (h i).run pins s σ H Q I qi⟩
theorem PE_or {e : Expr} {t u : TE} (h : PE X e t) (k : PE X e u) : PE X e (fun σ H Q => t σ H Q ∨ u σ H Q) :=
  ⟨fun pins s σ H Q I q => q.elim (h.run pins s σ H Q I) (k.run pins s σ H Q I)⟩
/-! ### C() of a class without an __init__ of its own -/
structure MkO (K : PySem.W.Frag) (C : Addr) : Prop where
  makes : PySem.W.makesIn K C = true
  init : PySem.W.findIn K (.ref C) "__init__" = some (some (.builtin "object.__init__"))
  top : PySem.W.mroIn K C (.type "object") = some true
  kp : PySem.W.keepIn K (.ref C) = true
def tMakeO (C : Addr) : TE := fun _ H Q => ∀ x dx, H x = none → H dx = none → dx ≠ x → Q (.ref x) (upd (upd H dx (.own x)) x (.ins C dx []))
theorem pe_makeO {C : Addr} {x : Str} {p pos : Pos} (M : MkO X.K C) (hg : Gl X x) (hm : X.mg x = some (.ref C)) (hdb : (x == ("__debug__" : Str)) = false := by decide) : PE X (.Call (.Name x p) [] [] pos) (tMakeO C) := by
  refine ⟨fun pins s σ H Q I h => ?_⟩
  refine wpAny_Call_Name_kw (ld_glob I hg hm ?_ hdb)
  refine PySem.W.callWith_K0 I.kIn M.kp ?_
  have I2 := Inv.made (C := C) I
  have hq := h (s.heap.objs.size + 1) s.heap.objs.size (I.hok.fresh (Nat.le_succ _)) (I.hok.fresh (Nat.le_refl _)) (Nat.ne_of_lt (Nat.lt_succ_self _))
  refine wpAny_call (make_map0 I.kIn M.makes M.init (fun self => PySem.W.Looks.of_pure (PySem.W.oi_bind self)) ?_)
  have e2 : ((s.heap.push PySem.W.emptyDict).push (PySem.W.instObj C s.heap.objs.size)).get? (s.heap.objs.size + 1) = some (PySem.W.instObj C s.heap.objs.size) := by
    have := Heap.get?_push_size (s.heap.push PySem.W.emptyDict) (o := PySem.W.instObj C s.heap.objs.size) rfl
    rwa [Heap.size_push] at this
  have t1 : PySem.W.Looks (model X.prog X.w) ((s.heap.push PySem.W.emptyDict).push (PySem.W.instObj C s.heap.objs.size)) (typeOf (.ref (s.heap.objs.size + 1))) (.ref C) := (PySem.W.Looks.ld e2).andThen .now
  have t2 : PySem.W.Looks (model X.prog X.w) ((s.heap.push PySem.W.emptyDict).push (PySem.W.instObj C s.heap.objs.size)) (isInstance (.ref (s.heap.objs.size + 1)) (.type "object")) true := t1.andThen (PySem.W.looks_mroIn I2.kIn M.top)
  refine codeAny_call_builtin PySem.W.oi_plain PySem.W.entry_oi (@PySem.W.check_slot (model X.prog X.w) _ _ _ "object.__init__" "object" "__init__" (.ref (s.heap.objs.size + 1)) [] [] _ PySem.W.oi_kind PySem.W.oi_split t2 (PySem.W.oi_args (.ref (s.heap.objs.size + 1))) ?_)
  rw [PySem.W.oi_run]
  refine wpAny_pure (And.intro rfl ?_)
  exact ⟨V.ref (s.heap.objs.size + 1), _, I2, rfl, hq⟩
/-! ### min, max of a tuple of ints -/
def rMinT (K : PySem.W.Frag) : List V → Hp → VK → Prop := fun vs H Q => ∃ (a : Addr) (ns : List Int), vs = [V.ref a] ∧ SqT K H a (ns.map V.int) ∧ 0 < ns.length ∧ ∀ m, m ∈ ns → (∀ y, y ∈ ns → m ≤ y) → Q (.int m) H
def rMaxT (K : PySem.W.Frag) : List V → Hp → VK → Prop := fun vs H Q => ∃ (a : Addr) (ns : List Int), vs = [V.ref a] ∧ SqT K H a (ns.map V.int) ∧ 0 < ns.length ∧ ∀ m, m ∈ ns → (∀ y, y ∈ ns → y ≤ m) → Q (.int m) H
theorem tup_two {s : Shared} {t : Addr} {its : Array Value} (ht : s.heap.IsTuple t its) : ∀ c ∈ [s.heap.objs.size, t], c < (s.heap.push { cls := .type "tuple_iterator", data := .fields #[.ref t, .int 0 0] }).objs.size := fun c hc => by
  rw [Heap.size_push]
  rcases List.mem_cons.mp hc with rfl | hc
  · exact Nat.lt_succ_self _
  · rcases List.mem_cons.mp hc with rfl | hc
    · obtain ⟨_, e, _⟩ := ht
      exact Nat.lt_succ_of_lt (Heap.lt_size e)
    · cases hc
theorem tup_old {s : Shared} {t : Addr} {h' : Heap} (hk : ∀ b o, b ∉ [s.heap.objs.size] → (s.heap.push { cls := .type "tuple_iterator", data := .fields #[.ref t, .int 0 0] }).get? b = some o → h'.get? b = some o) :
    ∀ b o, s.heap.get? b = some o → h'.get? b = some o := fun b o e => by
  refine hk b o (fun hm => ?_) (Heap.get?_push_of_some _ e)
  rcases List.mem_cons.mp hm with e1 | hm
  · exact absurd (e1 ▸ Heap.lt_size e) (Nat.lt_irrefl _)
  · cases hm
theorem tupIs {s : Shared} {t : Addr} {its : Array Value} (p : IsTup s.heap t its) : s.heap.IsTuple t its := by
  obtain ⟨o, e, c, n, d⟩ := p
  exact ⟨o, e, c, n, d⟩
theorem cr_minT (hc : X.calm = true) : CallR X (.builtin "min") (rMinT X.K) := by
  intro pins s σ H vs us Q I r h
  obtain ⟨a, ns, rfl, hs, hne, q⟩ := h
  obtain ⟨its, rv, hl, _⟩ := I.tuple hs
  rw [Vals.ref1 r]
  have ht := tupIs hl
  have hi := rv.ints
  obtain ⟨xs, e⟩ := hi.allInts.items
  have hn : numsOf (intItems xs).toList = ns := by rw [← e]; exact hi.numsOf
  rw [nums_intItems] at hn
  subst hn
  rw [e] at ht
  have hlt : a < s.heap.objs.size := by obtain ⟨_, e, _⟩ := ht; exact Heap.lt_size e
  refine call_min_walk (wpAny_pyIter_tuple ht ?_)
  refine ⟨_, _, _, _, _, _, _, rfl, Walks.tuple (A := X.A.in1) (I.ok.hd hc) _ a (Nat.ne_of_lt hlt) (intItems xs), ⟨⟨_, Heap.get?_push_size _ rfl, rfl, rfl⟩, ht.push _⟩, tup_two ht, by simpa [intItems] using hne, CmpOf.ints_lt (numAt xs) (fun _ _ => intItems_at), fun v h' tk hv hk => ?_⟩
  obtain ⟨t, rfl⟩ := intItems_at (by simpa [intItems] using hv)
  obtain ⟨h1, h2⟩ := argBest_lt (numAt xs) (xs.size - 1)
  have hsz : 0 < xs.size := by simpa using hne
  have h1' : argBest (fun i j => decide (numAt xs i < numAt xs j)) (xs.size - 1) ≤ xs.size - 1 := h1
  refine ⟨.int _, H, I.kept (t' := tk) (tup_old hk), ⟨_, rfl⟩, q _ ?_ fun y hy => ?_⟩
  · rw [numAt_eq]; exact PySem.getD_mem (by rw [List.length_map, Array.length_toList]; omega)
  · obtain ⟨j, hj, rfl⟩ := mem_getD hy
    rw [List.length_map, Array.length_toList] at hj
    rw [← numAt_eq]; exact h2 j (by omega)
theorem cr_maxT (hc : X.calm = true) : CallR X (.builtin "max") (rMaxT X.K) := by
  intro pins s σ H vs us Q I r h
  obtain ⟨a, ns, rfl, hs, hne, q⟩ := h
  obtain ⟨its, rv, hl, _⟩ := I.tuple hs
  rw [Vals.ref1 r]
  have ht := tupIs hl
  have hi := rv.ints
  obtain ⟨xs, e⟩ := hi.allInts.items
  have hn : numsOf (intItems xs).toList = ns := by rw [← e]; exact hi.numsOf
  rw [nums_intItems] at hn
  subst hn
  rw [e] at ht
  have hlt : a < s.heap.objs.size := by obtain ⟨_, e, _⟩ := ht; exact Heap.lt_size e
  refine call_max_walk (wpAny_pyIter_tuple ht ?_)
  refine ⟨_, _, _, _, _, _, _, rfl, Walks.tuple (A := X.A.in1) (I.ok.hd hc) _ a (Nat.ne_of_lt hlt) (intItems xs), ⟨⟨_, Heap.get?_push_size _ rfl, rfl, rfl⟩, ht.push _⟩, tup_two ht, by simpa [intItems] using hne, CmpOf.ints_gt (numAt xs) (fun _ _ => intItems_at), fun v h' tk hv hk => ?_⟩
  obtain ⟨t, rfl⟩ := intItems_at (by simpa [intItems] using hv)
  obtain ⟨h1, h2⟩ := argBest_gt (numAt xs) (xs.size - 1)
  have hsz : 0 < xs.size := by simpa using hne
  have h1' : argBest (fun i j => decide (numAt xs i > numAt xs j)) (xs.size - 1) ≤ xs.size - 1 := h1
  refine ⟨.int _, H, I.kept (t' := tk) (tup_old hk), ⟨_, rfl⟩, q _ ?_ fun y hy => ?_⟩
  · rw [numAt_eq]; exact PySem.getD_mem (by rw [List.length_map, Array.length_toList]; exact Nat.lt_of_le_of_lt h1 (by omega))
  · obtain ⟨j, hj, rfl⟩ := mem_getD hy
    rw [List.length_map, Array.length_toList] at hj
    rw [← numAt_eq]; exact h2 j (by omega)
end
/-- f() of a def without parameters -/
theorem pe_c0 {X : Cx} {k j : Nat} {x : Str} {sp : Sp} {dvs : List V} {p pos : Pos} (c : C8.Cal X.prog X.w X.K X.mg X.base k x sp dvs) (hr : Room j X.A) (hk : k ≤ j) (hg : Gl X x) (hdb : (x == ("__debug__" : Str)) = false := by decide) :
    PE X (.Call (.Name x p) [] [] pos) (tCall sp dvs L2.E0 tNil) := by
  obtain ⟨f, fd, ps, ds, F, hm, kp, b, d⟩ := c.ex
  exact pe_call0 F (hr.mono hk) hg hm kp b d L2.pass0 hdb
/-! ### a def that may be called -/
section
variable {P : Program} {w : World} {K : PySem.W.Frag} {mg : Str → Option Value} {base : Heap}
/-- by its body, over a def of the top -/
theorem fnD_ok {x qual : Str} {params : Arguments} {body : List Stmt} {scope : Scope} {f : Addr} {fd : FuncData} {N ps : List Str} {k : Nat} {sp : Sp} (F : FunD K x qual params body scope [] [] f fd) (S : FnScope N ps scope) (len : ∀ vs H Q E, sp vs H Q E → vs.length = ps.length)
    (hbody : ∀ (cdv : Value) (A : Around) (outer : List Env) (s : Shared) (H : Hp) (vs : List V) (Q : VK) (E : XK), Room k (A.deeper (envOfC qual scope s.heap.objs.size f cdv)) → sp vs H Q E →
      ∃ t, PSs (cxOf L2.CX0 P w K mg base N qual scope f cdv A outer s H E).nox body t ∧ t { nx := fun _ H' => Q .non H', rt := Q } (start N vs) H) : FnOk P w K mg base L2.CX0 (k + 1) f fd ps sp := by
  refine F.ok S len fun cdv A outer s H vs Q E hr h => ?_
  obtain ⟨t, h1, h2⟩ := hbody cdv A outer s H vs Q E hr h
  exact ⟨t, h1.nox, h2⟩
end
end K55

namespace K55
open PySem PySem.Spec PyProof.Rows L2
/-! ### data in the heap -/
section
variable {K : PySem.W.Frag} {H H' : Hp} {a : Addr} {xs : List V}
theorem sqt (e : Same H H') (h : SqT K H a xs) : SqT K H' a xs := by
  rcases h with (h | ⟨o, h⟩) | h
  · exact .inl (.inl (e _ _ h))
  · exact .inl (.inr ⟨o, e _ _ h⟩)
  · exact .inr h
theorem same_new {p : Addr} (h : H p = none) (o : HO) : Same H (upd H p o) := fun b u q => by
  rw [upd_ne (ne_of_none q h)]
  exact q
/-- a new object may change -/
theorem same_mut {p : Addr} {o : HO} (e : Same H H') (h : H p = none) : Same H (upd H' p o) := fun b u q => by
  rw [upd_ne (ne_of_none q h)]
  exact e b u q
end
theorem hu65 {k : Nat} {A : Around} (r : Room k A) : A.units + 65 < cLine := by have := r.un; omega
/-- a triple of ints stands there -/
def T3At (K : PySem.W.Frag) (H : Hp) (v : V) (r : T3) : Prop := ∃ a, v = .ref a ∧ SqT K H a [.int r.a, .int r.b, .int r.c]
theorem T3At.mono {K : PySem.W.Frag} {H H' : Hp} {v : V} {r : T3} (e : Same H H') (h : T3At K H v r) : T3At K H' v r := by
  obtain ⟨a, e1, h1⟩ := h
  exact ⟨a, e1, sqt e h1⟩
theorem T3At.new {K : PySem.W.Frag} {H : Hp} {p : Addr} (r : T3) : T3At K (upd H p (.tup [.int r.a, .int r.b, .int r.c])) (.ref p) r := ⟨p, rfl, SqT.of upd_same⟩
/-- a list of such -/
def HullAt (K : PySem.W.Frag) (H : Hp) (v : V) (h : List T3) : Prop := ∃ a cs, v = .ref a ∧ SqL K H a cs ∧ Paired (T3At K H) cs h
theorem Paired.map1 {α β : Type} {F G : α → β → Prop} {l : List α} {m : List β} (h : Paired F l m) (f : ∀ a b, F a b → G a b) : Paired G l m := by
  induction h with
  | nil => exact .nil
  | cons r _ ih => exact .cons (f _ _ r) ih
theorem HullAt.mono {K : PySem.W.Frag} {H H' : Hp} {v : V} {h : List T3} (e : Same H H') (x : HullAt K H v h) : HullAt K H' v h := by
  obtain ⟨a, cs, e1, h1, h2⟩ := x
  exact ⟨a, cs, e1, e.seq h1, Paired.map1 h2 fun _ _ => T3At.mono e⟩
theorem Paired.at2 {α β : Type} {F : α → β → Prop} {l : List α} {m : List β} (h : Paired F l m) : ∀ {i : Nat} {y : β}, m[i]? = some y → ∃ x, l[i]? = some x ∧ F x y := by
  induction h with
  | nil => intro i y e; simp at e
  | cons r _ ih =>
    intro i y e
    cases i with
    | zero =>
      simp at e
      subst e
      exact ⟨_, rfl, r⟩
    | succ i => exact ih (by simpa using e)
theorem Paired.at1 {α β : Type} {F : α → β → Prop} {l : List α} {m : List β} (h : Paired F l m) : ∀ {i : Nat} {x : α}, l[i]? = some x → ∃ y, m[i]? = some y ∧ F x y := by
  induction h with
  | nil => intro i y e; simp at e
  | cons r _ ih =>
    intro i y e
    cases i with
    | zero =>
      simp at e
      subst e
      exact ⟨_, rfl, r⟩
    | succ i => exact ih (by simpa using e)
theorem Paired.snoc {α β : Type} {F : α → β → Prop} {l : List α} {m : List β} {x : α} {y : β} (h : Paired F l m) (r : F x y) : Paired F (l ++ [x]) (m ++ [y]) := by
  induction h with
  | nil => exact .cons r .nil
  | cons q _ ih => exact .cons q ih
theorem gcd_step {x y : Int} (hx : 0 ≤ x) (hy : 0 < y) : Int.gcd y (x % y) = Int.gcd x y := by
  obtain ⟨a, rfl⟩ := Int.eq_ofNat_of_zero_le hx
  obtain ⟨b, rfl⟩ := Int.eq_ofNat_of_zero_le (Int.le_of_lt hy)
  show Nat.gcd _ _ = Nat.gcd _ _
  rw [show (((a : Int) % (b : Int)).natAbs) = a % b from by rw [← Int.natCast_emod]; rfl]
  show Nat.gcd b (a % b) = Nat.gcd a b
  rw [Nat.gcd_comm a b, Nat.gcd_rec b a, Nat.gcd_comm]
/-! ### comprehensions that make a known list -/
section
variable {K : PySem.W.Frag} {te : TE} {σ : L2.St} {H1 : Hp} {D : Addr} {Qd : Hp → Prop} {j : Nat}
theorem wipe1 (σ : L2.St) (j : Nat) (x : V) : wipe ((wipe σ [j]).set j (some x)) [j] = wipe σ [j] := by
  show (((σ.set j none).set j (some x)).set j none) = σ.set j none
  rw [List.set_set, List.set_set]
theorem take_snoc {α : Type} {ys : List α} {i : Nat} {y : α} (h : ys[i]? = some y) : ys.take (i + 1) = ys.take i ++ [y] := by
  rw [List.take_add_one, h]
  rfl
theorem lc_turn {ys : List V} {i : Nat} {y : V} {H' : Hp} {σ2 : L2.St} (hD : H1 D = none) (hy : ys[i]? = some y) (hz : ys.length ≤ 100000) (s : Same H1 H') (hd : H' D = some (.lst (ys.take i)))
    (he : ∀ Q : VK, (∀ H'', Same H' H'' → Q y H'') → te σ2 H' Q) :
    tYes σ2 H' fun b H3 => if b = true then te σ2 H3 fun z H4 => ∃ acc, H4 D = some (.lst acc) ∧ acc.length < sizeLine ∧ (Same H1 (upd H4 D (.lst (acc ++ [z]))) ∧ (upd H4 D (.lst (acc ++ [z]))) D = some (.lst (ys.take (i + 1)))) else (Same H1 H3 ∧ H3 D = some (.lst (ys.take (i + 1)))) := by
  show te σ2 H' fun z H4 => ∃ acc, H4 D = some (.lst acc) ∧ acc.length < sizeLine ∧ (Same H1 (upd H4 D (.lst (acc ++ [z]))) ∧ (upd H4 D (.lst (acc ++ [z]))) D = some (.lst (ys.take (i + 1))))
  refine he _ fun H'' s2 => ⟨_, s2 _ _ hd, ?_, same_mut (s.trans s2) hD, ?_⟩
  · rw [List.length_take]
    exact Nat.lt_of_le_of_lt (Nat.min_le_right _ _) (Nat.lt_of_le_of_lt hz (by decide))
  · rw [upd_same, take_snoc hy]
theorem lcR {n : Nat} (ys : List V) (hD : H1 D = none) (hl : ys.length = n) (hz : ys.length ≤ 100000)
    (he : ∀ (i : Nat) (y : V) (H' : Hp), ys[i]? = some y → Same H1 H' → ∀ Q : VK, (∀ H'', Same H' H'' → Q y H'') → te ((wipe σ [j]).set j (some (.int (i : Nat)))) H' Q) (hd : ∀ H', Same H1 H' → H' D = some (.lst ys) → Qd H') :
    ∃ W : Nat → Nat → Hp → Prop, (∃ m, W 0 m (upd H1 D (.lst []))) ∧ ∀ i m H, W i m H →
      ((Itr 0 n).stop i H ∧ Qd H) ∨ ((Itr 0 n).go i H ∧ ∃ Nx : Hp → Prop, (∀ H', Nx H' → ∃ m', m' < m ∧ W (i + 1) m' H') ∧ ∀ x H', (Itr 0 n).yld i H x H' → gName j x (wipe σ [j]) H' fun σ2 H2 => wipe σ2 [j] = wipe σ [j] ∧ tYes σ2 H2 fun b H3 =>
        if b = true then te σ2 H3 fun y H4 => ∃ acc, H4 D = some (.lst acc) ∧ acc.length < sizeLine ∧ Nx (upd H4 D (.lst (acc ++ [y]))) else Nx H3) := by
  refine lc_range (lo := 0) (n := n) (fun i H' => Same H1 H' ∧ H' D = some (.lst (ys.take i))) ⟨same_new hD _, by rw [upd_same]; rfl⟩ (fun i H' hi hp => ?_) (fun H' hp => hd H' hp.1 (by rw [hp.2, ← hl, List.take_length]))
  refine ⟨wipe1 _ _ _, ?_⟩
  rw [Int.zero_add]
  have hy : ys[i]? = some ys[i] := List.getElem?_eq_getElem (by omega)
  exact lc_turn hD hy hz hp.1 hp.2 (he i _ H' hy hp.1)
theorem lcL {a : Addr} {xs : List V} (ys : List V) (hD : H1 D = none) (hS : SqL K H1 a xs) (hl : ys.length = xs.length) (hz : ys.length ≤ 100000)
    (he : ∀ (i : Nat) (x y : V) (H' : Hp), xs[i]? = some x → ys[i]? = some y → Same H1 H' → ∀ Q : VK, (∀ H'', Same H' H'' → Q y H'') → te ((wipe σ [j]).set j (some x)) H' Q) (hd : ∀ H', Same H1 H' → H' D = some (.lst ys) → Qd H') :
    ∃ W : Nat → Nat → Hp → Prop, (∃ m, W 0 m (upd H1 D (.lst []))) ∧ ∀ i m H, W i m H →
      ((Itl K a).stop i H ∧ Qd H) ∨ ((Itl K a).go i H ∧ ∃ Nx : Hp → Prop, (∀ H', Nx H' → ∃ m', m' < m ∧ W (i + 1) m' H') ∧ ∀ x H', (Itl K a).yld i H x H' → gName j x (wipe σ [j]) H' fun σ2 H2 => wipe σ2 [j] = wipe σ [j] ∧ tYes σ2 H2 fun b H3 =>
        if b = true then te σ2 H3 fun y H4 => ∃ acc, H4 D = some (.lst acc) ∧ acc.length < sizeLine ∧ Nx (upd H4 D (.lst (acc ++ [y]))) else Nx H3) := by
  refine lc_list (K := K) (a := a) (xs := xs) (fun i H' => Same H1 H' ∧ H' D = some (.lst (ys.take i))) ⟨same_new hD _, by rw [upd_same]; rfl⟩ (fun i H' _ hp => hp.1.seq hS) (fun i x H' hx hp => ?_) (fun H' hp => hd H' hp.1 (by rw [hp.2, ← hl, List.take_length]))
  refine ⟨wipe1 _ _ _, ?_⟩
  have hi : i < ys.length := by rw [hl]; exact (List.getElem?_eq_some_iff.mp hx).1
  have hy : ys[i]? = some ys[i] := List.getElem?_eq_getElem hi
  exact lc_turn hD hy hz hp.1 hp.2 (he i x _ H' hx hy hp.1)
theorem lcT {a : Addr} {xs : List V} (ys : List V) (hD : H1 D = none) (hS : SqT K H1 a xs) (hl : ys.length = xs.length) (hz : ys.length ≤ 100000)
    (he : ∀ (i : Nat) (x y : V) (H' : Hp), xs[i]? = some x → ys[i]? = some y → Same H1 H' → ∀ Q : VK, (∀ H'', Same H' H'' → Q y H'') → te ((wipe σ [j]).set j (some x)) H' Q) (hd : ∀ H', Same H1 H' → H' D = some (.lst ys) → Qd H') :
    ∃ W : Nat → Nat → Hp → Prop, (∃ m, W 0 m (upd H1 D (.lst []))) ∧ ∀ i m H, W i m H →
      ((Itt K a).stop i H ∧ Qd H) ∨ ((Itt K a).go i H ∧ ∃ Nx : Hp → Prop, (∀ H', Nx H' → ∃ m', m' < m ∧ W (i + 1) m' H') ∧ ∀ x H', (Itt K a).yld i H x H' → gName j x (wipe σ [j]) H' fun σ2 H2 => wipe σ2 [j] = wipe σ [j] ∧ tYes σ2 H2 fun b H3 =>
        if b = true then te σ2 H3 fun y H4 => ∃ acc, H4 D = some (.lst acc) ∧ acc.length < sizeLine ∧ Nx (upd H4 D (.lst (acc ++ [y]))) else Nx H3) := by
  refine lc_tup (K := K) (a := a) (xs := xs) (fun i H' => Same H1 H' ∧ H' D = some (.lst (ys.take i))) ⟨same_new hD _, by rw [upd_same]; rfl⟩ (fun i H' _ hp => sqt hp.1 hS) (fun i x H' hx hp => ?_) (fun H' hp => hd H' hp.1 (by rw [hp.2, ← hl, List.take_length]))
  refine ⟨wipe1 _ _ _, ?_⟩
  have hi : i < ys.length := by rw [hl]; exact (List.getElem?_eq_some_iff.mp hx).1
  have hy : ys[i]? = some ys[i] := List.getElem?_eq_getElem hi
  exact lc_turn hD hy hz hp.1 hp.2 (he i x _ H' hx hy hp.1)
end
/-- tuples stand while a list changes -/
theorem sqt_upd {K : PySem.W.Frag} {H : Hp} {a L : Addr} {xs ys : List V} {o : HO} (h : SqT K H a xs) (hL : H L = some (.lst ys)) : SqT K (upd H L o) a xs := by
  rcases h with (h | ⟨ob, h⟩) | h
  · exact .inl (.inl (by rw [upd_ne (ne_of h hL (fun z => by cases z))]; exact h))
  · exact .inl (.inr ⟨ob, by rw [upd_ne (ne_of h hL (fun z => by cases z))]; exact h⟩)
  · exact .inr h
theorem T3At.upd {K : PySem.W.Frag} {H : Hp} {v : V} {r : T3} {L : Addr} {ys : List V} {o : HO} (h : T3At K H v r) (hL : H L = some (.lst ys)) : T3At K (L2.upd H L o) v r := by
  obtain ⟨a, e, h1⟩ := h
  exact ⟨a, e, sqt_upd h1 hL⟩
theorem pm {K : PySem.W.Frag} {H H' : Hp} {ls : List V} {l : List T3} (e : Same H H') (h : Paired (T3At K H) ls l) : Paired (T3At K H') ls l := Paired.map1 h fun _ _ => T3At.mono e
theorem pu {K : PySem.W.Frag} {H : Hp} {ls : List V} {l : List T3} {L : Addr} {ys : List V} {o : HO} (h : Paired (T3At K H) ls l) (hL : H L = some (.lst ys)) : Paired (T3At K (L2.upd H L o)) ls l := Paired.map1 h fun _ _ x => x.upd hL
theorem small_line {n : Nat} (h : n ≤ 100000) : n < sizeLine := Nat.lt_of_le_of_lt h (by decide)
/-- rules whose numbers are small -/
theorem small_mul {x n y : Int} (h1 : -n ≤ x) (h2 : x ≤ n) (hn : n ≤ 1000) : CMul x y := .inl ⟨by omega, by omega⟩
end K55

namespace K55
open PySem PySem.Spec PyProof.Rows L2
section
variable {P : Program} {w : World} {K : PySem.W.Frag} {mg : Str → Option Value} {base : Heap}
/-! ### told_by -/
def spTold (K : PySem.W.Frag) : Sp := fun vs H Q _ => ∃ x y r k, vs = [x, y] ∧ T3At K H x r ∧ T3At K H y k ∧ r.In 1000 ∧ Q (.int (r.tell k)) H
theorem c_told_by (T : Txt w K mg) : C8.Cal P w K mg base 1 "told_by" (spTold K) [] := T.cal_told_by fun fd F => by
  refine fnD_ok F sc_told_by (fun vs H Q E h => ?_) (fun cdv A outer s H vs Q E hr h => ?_)
  · obtain ⟨x, y, r, k, rfl, _⟩ := h
    rfl
  obtain ⟨x, y, r, k, rfl, ⟨a, rfl, h1⟩, ⟨b, rfl, h2⟩, ⟨⟨a1, a2⟩, ⟨b1, b2⟩, c1, c2⟩, q⟩ := h
  refine ⟨_, (pss_cons (ps_asg (pv 0) (pg_tup rfl (pgs_cons (pg_name (i := 2) sc_told_by.nd rfl (Or.inl rfl)) (pgs_cons (pg_name (i := 3) sc_told_by.nd rfl (Or.inl rfl)) (pgs_cons (pg_name (i := 4) sc_told_by.nd rfl (Or.inl rfl)) pgs_nil)))))
  (pss_cons (ps_asg (pv 1) (pg_tup rfl (pgs_cons (pg_name (i := 5) sc_told_by.nd rfl (Or.inl rfl)) (pgs_cons (pg_name (i := 6) sc_told_by.nd rfl (Or.inl rfl)) (pgs_cons (pg_name (i := 7) sc_told_by.nd rfl (Or.inl rfl)) pgs_nil)))))
  (pss_one (ps_ret (pe_op op_add (pe_op op_add (pe_op op_mul (pv 2) (pv 6)) (pe_op op_mul (pv 3) (pv 7))) (pe_op op_mul (pv 4) (pv 5))))))), ?_⟩
  refine ⟨_, rfl, a, _, rfl, h1, rfl, _, _, rfl, _, _, rfl, _, _, rfl, rfl, ?_⟩
  refine ⟨_, rfl, b, _, rfl, h2, rfl, _, _, rfl, _, _, rfl, _, _, rfl, rfl, ?_⟩
  refine ⟨_, rfl, _, rfl, _, _, rfl, rfl, small_mul a1 a2 (by decide), _, rfl, _, rfl, _, _, rfl, rfl, small_mul b1 b2 (by decide), _, _, rfl, rfl, _, rfl, _, rfl, _, _, rfl, rfl, small_mul c1 c2 (by decide), _, _, rfl, rfl, ?_⟩
  exact q
/-! ### shared -/
def spShared : Sp := fun vs H Q _ => ∃ a b : Int, vs = [.int a, .int b] ∧ 0 ≤ a ∧ 0 ≤ b ∧ Q (.int (Int.gcd a b : Nat)) H
theorem c_shared (T : Txt w K mg) : C8.Cal P w K mg base 1 "shared" spShared [] := T.cal_shared fun fd F => by
  refine fnD_ok F sc_shared (fun vs H Q E h => ?_) (fun cdv A outer s H vs Q E hr h => ?_)
  · obtain ⟨a, b, rfl, _⟩ := h
    rfl
  obtain ⟨a, b, rfl, ha, hb, q⟩ := h
  refine ⟨_, (pss_cons (ps_while PassesOwn.never (pt_cmpR op_gt (pv 1) pe_int (nomark _)) (pss_cons (ps_set (i := 2) sc_shared.nd rfl (Or.inl rfl) (pe_op op_mod (pv 0) (pv 1)))
  (pss_cons (ps_set (i := 0) sc_shared.nd rfl (Or.inl rfl) (pv 1))
  (pss_one (ps_set (i := 1) sc_shared.nd rfl (Or.inl rfl) (pv 2))))))
  (pss_one (ps_ret (pv 0)))), ?_⟩
  refine ⟨fun m σ H' => ∃ (x y : Int) (r : Option V), σ = [some (.int x), some (.int y), r] ∧ H = H' ∧ 0 ≤ x ∧ 0 ≤ y ∧ Int.gcd x y = Int.gcd a b ∧ m = y.toNat, ⟨_, a, b, none, rfl, rfl, ha, hb, rfl, rfl⟩, fun m σ H' hW => ?_⟩
  obtain ⟨x, y, r, rfl, rfl, hx, hy, hg, rfl⟩ := hW
  refine ⟨_, rfl, _, _, rfl, rfl, _, rfl, ite2 (fun c => ?_) fun c => ?_⟩
  · have hy0 : 0 < y := of_decide_eq_true c
    refine ⟨fun σ' H' => ∃ (x2 y2 : Int) (r2 : Option V), σ' = [some (.int x2), some (.int y2), r2] ∧ H = H' ∧ 0 ≤ x2 ∧ 0 ≤ y2 ∧ Int.gcd x2 y2 = Int.gcd a b ∧ y2.toNat < y.toNat, fun σ' H' h2 => ?_, ?_⟩
    · obtain ⟨x2, y2, r2, e, e2, h3, h4, h5, h6⟩ := h2
      exact ⟨_, h6, x2, y2, r2, e, e2, h3, h4, h5, rfl⟩
    · refine ⟨_, rfl, _, rfl, _, _, rfl, rfl, hy0, _, rfl, _, rfl, ?_⟩
      refine ⟨y, x % y, _, rfl, rfl, hy, Int.emod_nonneg _ (by omega), ?_, ?_⟩
      · rw [← hg, gcd_step hx hy0]
      · have := Int.emod_lt_of_pos x hy0
        have := Int.emod_nonneg x (show y ≠ 0 by omega)
        omega
  · have hy0 : ¬ 0 < y := of_decide_eq_false (Bool.eq_false_iff.mpr c)
    have e : y = 0 := by omega
    subst e
    refine ⟨_, rfl, ?_⟩
    have e2 : ((Int.gcd a b : Nat) : Int) = x := by
      rw [← hg, Int.gcd_zero_right]
      omega
    rw [e2] at q
    exact q
/-! ### between -/
/-- a corner with numbers that are not too great -/
structure Fit (u : T3) : Prop where
  pos : 0 < u.a
  lt : u.a < 2 ^ 3000
  b : 0 ≤ u.b ∧ u.b ≤ u.a
  c : 0 ≤ u.c ∧ u.c ≤ u.a
theorem nat_lt {x : Int} {n : Nat} (h0 : 0 ≤ x) (h : x < 2 ^ n) : x.natAbs < 2 ^ n := by
  have e : ((x.natAbs : Nat) : Int) = x := Int.natAbs_of_nonneg h0
  have h2 : ((x.natAbs : Nat) : Int) < ((2 ^ n : Nat) : Int) := by
    rw [e, Int.natCast_pow]
    exact h
  exact Int.ofNat_lt.mp h2
theorem wide_ab {x y : Int} (h : ab x < 2 ^ 3010) (h0 : 0 ≤ y) (hy : y < 2 ^ 3000) : CMulW (ab x) y :=
  wide_mul (nat_lt (ab_nonneg _) h) (nat_lt h0 hy) (by decide) (by decide) (by decide)
theorem mul_lt_pow {x y : Int} (h0 : 0 ≤ x) (h : x < 2 ^ 3010) (k0 : 0 ≤ y) (k : y < 2 ^ 3000) : x * y < 2 ^ 6010 := by
  have a := wide_lt (nat_lt h0 h) (nat_lt k0 k)
  have b : 0 ≤ x * y := Int.mul_nonneg h0 k0
  have e : (((x * y).natAbs : Nat) : Int) = x * y := Int.natAbs_of_nonneg b
  have c : (((x * y).natAbs : Nat) : Int) < ((2 ^ (3010 + 3000) : Nat) : Int) := Int.ofNat_lt.mpr a
  rw [e, Int.natCast_pow] at c
  exact c
theorem mixed_lt {u v : T3} {near far : Int} (hu : Fit u) (hv : Fit v) (hn : ab near < 2 ^ 3010) (hf : ab far < 2 ^ 3010) : (mixed u v near far).a < 2 ^ 6011 := by
  have x := mul_lt_pow (ab_nonneg far) hf (Int.le_of_lt hu.pos) hu.lt
  have y := mul_lt_pow (ab_nonneg near) hn (Int.le_of_lt hv.pos) hv.lt
  have e : (2 : Int) ^ 6011 = 2 ^ 6010 * 2 := Int.pow_succ _ _
  show ab far * u.a + ab near * v.a < _
  rw [e]
  omega
theorem mixed_pos {u v : T3} {near far : Int} (hu : Fit u) (hv : Fit v) (h : far ≠ 0) : 0 < (mixed u v near far).a := by
  have x := Int.mul_pos (ab_pos h) hu.pos
  have y := Int.mul_nonneg (ab_nonneg near) (Int.le_of_lt hv.pos)
  show 0 < ab far * u.a + ab near * v.a
  omega
theorem mixed_nn {u v : T3} {near far : Int} (hu : Fit u) (hv : Fit v) : 0 ≤ (mixed u v near far).a ∧ 0 ≤ (mixed u v near far).b ∧ 0 ≤ (mixed u v near far).c := by
  have x := ab_nonneg far
  have y := ab_nonneg near
  have a1 := Int.mul_nonneg x (Int.le_of_lt hu.pos)
  have a2 := Int.mul_nonneg y (Int.le_of_lt hv.pos)
  have b1 := Int.mul_nonneg x hu.b.1
  have b2 := Int.mul_nonneg y hv.b.1
  have c1 := Int.mul_nonneg x hu.c.1
  have c2 := Int.mul_nonneg y hv.c.1
  refine ⟨?_, ?_, ?_⟩
  · show 0 ≤ ab far * u.a + ab near * v.a
    omega
  · show 0 ≤ ab far * u.b + ab near * v.b
    omega
  · show 0 ≤ ab far * u.c + ab near * v.c
    omega
/-- the greatest shared number of a mixed corner: not nought, not too great -/
theorem gcd3_div {v : T3} {i : Int} (h : 0 < v.a) (hl : v.a < 2 ^ 6011) : CDivW i (gcd3 v) := by
  have p := gcd3_pos h
  have d : gcd3 v ∣ v.a := Int.dvd_trans (Int.gcd_dvd_left ..) (Int.gcd_dvd_left ..)
  have le : gcd3 v ≤ v.a := Int.le_of_dvd h d
  exact wide_div p (nat_lt (Int.le_of_lt p) (show gcd3 v < 2 ^ 6011 by omega)) (by decide) (by decide)
def spBetween (K : PySem.W.Frag) : Sp := fun vs H Q _ => ∃ x y u v near far, vs = [x, y, .int near, .int far] ∧ T3At K H x u ∧ T3At K H y v ∧ Fit u ∧ Fit v ∧ ab near < 2 ^ 3010 ∧ ab far < 2 ^ 3010 ∧ far ≠ 0 ∧
  ∀ z H', Same H H' → T3At K H' z (mid u v near far) → Q z H'
theorem c_between (T : Txt w K mg) : C8.Cal P w K mg base 2 "between" (spBetween K) [] := T.cal_between fun fd F => by
  have c_shared := c_shared (P := P) (base := base) T
  have z_range := T.z_range
  have z_abs := T.z_abs
  refine fnD_ok F sc_between (fun vs H Q E h => ?_) (fun cdv A outer s H vs Q E hr h => ?_)
  · obtain ⟨x, y, u, v, near, far, rfl, _⟩ := h
    rfl
  obtain ⟨x, y, u, v, near, far, rfl, ⟨a, rfl, h1⟩, ⟨b, rfl, h2⟩, hu, hv, hn, hf, hf0, q⟩ := h
  refine ⟨_, (pss_cons (ps_asg (pe_lc (own := [("k", 7)]) (g := gName 7) (tt := tYes) rfl sc_between.nd (pi_range1 (by rfl) z_range (pa_cons pe_int pa_nil)) (blkOk_by (own := [("k", 7)]) (N := ["one", "other", "near", "far", "n", "x", "y", "k", "part"]) (sc := defScope s_between) (by decide +kernel)) (fun _ _ _ _ _ => (pg_name (i := 7) sc_between.nd rfl (Or.inl rfl))) (fun _ _ _ _ _ => pts_nil) (fun _ _ _ _ _ => (pe_op op_add (pe_op op_mulW (pe_callB call_abs (by rfl) z_abs b_abs (pa_cons (pv 3) pa_nil)) (pe_ix (r := rIxT K) ix_tup (pv 0) (pv 7) (fun _ _ => rfl))) (pe_op op_mulW (pe_callB call_abs (by rfl) z_abs b_abs (pa_cons (pv 2) pa_nil)) (pe_ix (r := rIxT K) ix_tup (pv 1) (pv 7) (fun _ _ => rfl)))))) (pg_unl rfl (pgs_cons (pg_name (i := 4) sc_between.nd rfl (Or.inl rfl)) (pgs_cons (pg_name (i := 5) sc_between.nd rfl (Or.inl rfl)) (pgs_cons (pg_name (i := 6) sc_between.nd rfl (Or.inl rfl)) pgs_nil)))))
  (pss_cons (ps_set (i := 8) sc_between.nd rfl (Or.inl rfl) (C8.pe_c c_shared hr (by omega) (by rfl) (pa_cons (C8.pe_c c_shared hr (by omega) (by rfl) (pa_cons (pv 4) (pa_cons (pv 5) pa_nil))) (pa_cons (pv 6) pa_nil))))
  (pss_one (ps_ret (pe_tup (pa_cons (pe_op op_fdivW (pv 4) (pv 8)) (pa_cons (pe_op op_fdivW (pv 5) (pv 8)) (pa_cons (pe_op op_fdivW (pv 6) (pv 8)) pa_nil)))))))), ?_⟩
  have m0 := mixed_pos (near := near) hu hv hf0
  have ml := mixed_lt hu hv hn hf
  have mn := mixed_nn (near := near) (far := far) hu hv
  generalize em : mixed u v near far = m at *
  -- n, x, y = [.. for k in range(3)]
  refine ⟨3, rfl, by decide, by decide, fun D hD => lcR (n := 3) [.int m.a, .int m.b, .int m.c] hD rfl (show 3 ≤ 100000 by decide) (fun i y H' hy s Q' hq => ?_) fun H' s hd => ?_⟩
  · have k1 := sqt s h1
    have k2 := sqt s h2
    have row : ∀ (p1 p2 p : Int), atI [V.int u.a, .int u.b, .int u.c] (i : Nat) = some (.int p1) → atI [V.int v.a, .int v.b, .int v.c] (i : Nat) = some (.int p2) → 0 ≤ p1 → p1 < 2 ^ 3000 → 0 ≤ p2 → p2 < 2 ^ 3000 → y = .int (ab far * p1 + ab near * p2) →
        (tOp (rI0 fun i j => V.int (i + j)) (tOp (rI CMulW fun i j => V.int (i * j)) (tCB (fun xs H Q => ∃ i, xs = [V.int i] ∧ Q (.int (if i < 0 then -i else i)) H) (tCons (tVar 3) tNil)) (tOp (rIxT K) (tVar 0) (tVar 7))) (tOp (rI CMulW fun i j => V.int (i * j)) (tCB (fun xs H Q => ∃ i, xs = [V.int i] ∧ Q (.int (if i < 0 then -i else i)) H) (tCons (tVar 2) tNil)) (tOp (rIxT K) (tVar 1) (tVar 7))))
          ((wipe (start ["one", "other", "near", "far", "n", "x", "y", "k", "part"] [V.ref a, V.ref b, V.int near, V.int far]) [7]).set 7 (some (.int (i : Nat)))) H' Q' := fun p1 p2 p e1 e2 g1 g2 g3 g4 ey => by
      refine ⟨_, rfl, _, rfl, _, rfl, _, rfl, a, _, _, _, rfl, rfl, k1, e1, _, _, rfl, rfl, wide_ab hf g1 g2, _, rfl, _, rfl, _, rfl, _, rfl, b, _, _, _, rfl, rfl, k2, e2, _, _, rfl, rfl, wide_ab hn g3 g4, _, _, rfl, rfl, ?_⟩
      have := hq H' (Same.refl _)
      rw [ey] at this
      exact this
    match i, hy with
    | 0, hy => exact row u.a v.a 0 (at_of rfl rfl) (at_of rfl rfl) (Int.le_of_lt hu.pos) hu.lt (Int.le_of_lt hv.pos) hv.lt (by rw [← Option.some.inj hy, ← em]; rfl)
    | 1, hy => exact row u.b v.b 0 (at_of rfl rfl) (at_of rfl rfl) hu.b.1 (Int.lt_of_le_of_lt hu.b.2 hu.lt) hv.b.1 (Int.lt_of_le_of_lt hv.b.2 hv.lt) (by rw [← Option.some.inj hy, ← em]; rfl)
    | 2, hy => exact row u.c v.c 0 (at_of rfl rfl) (at_of rfl rfl) hu.c.1 (Int.lt_of_le_of_lt hu.c.2 hu.lt) hv.c.1 (Int.lt_of_le_of_lt hv.c.2 hv.lt) (by rw [← Option.some.inj hy, ← em]; rfl)
    | i + 3, hy => simp at hy
  · refine ⟨D, _, rfl, SqL.of hd, rfl, _, _, rfl, _, _, rfl, _, _, rfl, rfl, ?_⟩
    -- part
    refine ⟨_, rfl, _, rfl, m.a, m.b, rfl, mn.1, mn.2.1, _, rfl, _, m.c, rfl, Int.natCast_nonneg _, mn.2.2, ?_⟩
    -- the corner
    have g : ((Int.gcd (Int.gcd m.a m.b : Nat) m.c : Nat) : Int) = gcd3 m := rfl
    refine ⟨_, rfl, _, rfl, _, _, rfl, rfl, gcd3_div m0 ml, _, rfl, _, rfl, _, _, rfl, rfl, gcd3_div m0 ml, _, rfl, _, rfl, _, _, rfl, rfl, gcd3_div m0 ml, (by show 3 ≤ sizeLine; decide), fun p hp => ?_⟩
    refine q _ _ (s.trans (same_new hp _)) ?_
    unfold mid
    rw [em]
    exact ⟨p, rfl, SqT.of upd_same⟩
end
end K55

namespace K55
open PySem PySem.Spec PyProof.Rows L2
/-! ### corners of hulls that are at most seven cuts deep -/
theorem pow_le {d : Nat} (h : d ≤ 7) : 9 * 2 ^ d - 8 ≤ 1144 := by
  have : 2 ^ d ≤ 2 ^ 7 := Nat.pow_le_pow_right (by decide) h
  omega
theorem ipow_le {m n : Nat} (h : m ≤ n) : (2 : Int) ^ m ≤ 2 ^ n := by
  have a : (2 ^ m : Nat) ≤ 2 ^ n := Nat.pow_le_pow_right (by decide) h
  have b : ((2 ^ m : Nat) : Int) ≤ ((2 ^ n : Nat) : Int) := Int.ofNat_le.mpr a
  rw [Int.natCast_pow, Int.natCast_pow] at b
  exact b
theorem HOk.fit {d : Nat} {h : List T3} (O : HOk d h) (hd : d ≤ 7) {k : T3} (hk : k ∈ h) : Fit k := by
  obtain ⟨a, b, c, e⟩ := O.at_ k hk
  exact ⟨a, Int.lt_of_lt_of_le b (ipow_le (Nat.le_trans (pow_le hd) (by decide))), c, e⟩
theorem HOk.tl_lt {d : Nat} {h : List T3} (O : HOk d h) (hd : d ≤ 7) {r : T3} (hr : r.In 32) {k : T3} (hk : k ∈ h) : ab (r.tell k) < 2 ^ 3010 := by
  obtain ⟨a, b, c, e⟩ := O.at_ k hk
  have x := tell_bd hr a b c e
  have y : (2 : Int) ^ (9 * 2 ^ d - 8) ≤ 2 ^ 3000 := ipow_le (Nat.le_trans (pow_le hd) (by decide))
  have z : (2 : Int) ^ 3010 = 2 ^ 3000 * 2 ^ 10 := by rw [← Int.pow_add]
  have u : (2 : Int) ^ 10 = 1024 := by decide
  have p : (0 : Int) < 2 ^ 3000 := Int.pow_pos (by decide)
  rw [z, u]
  generalize (2 : Int) ^ 3000 = X at *
  generalize (2 : Int) ^ (9 * 2 ^ d - 8) = Y at *
  omega
theorem HOk.len_le {d : Nat} {h : List T3} (O : HOk d h) (hd : d ≤ 8) : h.length ≤ 1024 := by
  have a := O.most
  have b : 2 ^ d ≤ 2 ^ 8 := Nat.pow_le_pow_right (by decide) hd
  omega
theorem ab_if (i : Int) : (if i < 0 then -i else i) = ab i := rfl
/-- what the rule tells in the corners, as a list -/
def tells (r : T3) (h : List T3) : List Int := h.map fun k => r.tell k
theorem tells_at {r : T3} {h : List T3} {i : Nat} (hi : i < h.length) : ((tells r h).map V.int)[i]? = some (.int (tl r h i)) := by
  unfold tells tl
  rw [List.map_map, List.getElem?_map, pt_lt hi]
  rfl
theorem tells_len (r : T3) (h : List T3) : ((tells r h).map V.int).length = h.length := by
  unfold tells
  rw [List.length_map, List.length_map]
theorem tells_mem {r : T3} {h : List T3} {x : Int} : x ∈ tells r h ↔ ∃ k, k ∈ h ∧ r.tell k = x := by
  unfold tells
  rw [List.mem_map]
section
variable {P : Program} {w : World} {K : PySem.W.Frag} {mg : Str → Option Value} {base : Heap}
def CutOut (K : PySem.W.Frag) (H : Hp) (z : V) (l m : List T3) : Prop := ∃ p x y, z = .ref p ∧ SqT K H p [x, y] ∧ HullAt K H x l ∧ HullAt K H y m
def spCut (K : PySem.W.Frag) : Sp := fun vs H Q _ => ∃ x y h r d, vs = [x, y] ∧ HullAt K H x h ∧ T3At K H y r ∧ r.In 32 ∧ HOk d h ∧ d ≤ 7 ∧ Cuts r h ∧
  ∀ z H', Same H H' → CutOut K H' z (lowH r h) (highH r h) → Q z H'
theorem c_cut (T : Txt w K mg) : C8.Cal P w K mg base 3 "cut" (spCut K) [] := T.cal_cut fun fd F => by
  have c_told_by := c_told_by (P := P) (base := base) T
  have c_between := c_between (P := P) (base := base) T
  have z_range := T.z_range
  have z_len := T.z_len
  have z_min := T.z_min
  have z_max := T.z_max
  refine fnD_ok F sc_cut (fun vs H Q E h => ?_) (fun cdv A outer s H vs Q E hr h => ?_)
  · obtain ⟨x, y, h, r, d, rfl, _⟩ := h
    rfl
  obtain ⟨x, y, h, r, d, rfl, ⟨ha, cs, rfl, hS, hP⟩, hY, hr32, O, hd, hC, q⟩ := h
  have hr1000 : r.In 1000 := by
    obtain ⟨⟨_, _⟩, ⟨_, _⟩, _, _⟩ := hr32
    simp only [T3.In]
    omega
  have len0 := O.pos
  have lenM := O.len_le (show d ≤ 8 by omega)
  have hlen : cs.length = h.length := hP.length
  refine ⟨_, (pss_cons (ps_setLc (i := 2) (own := [("corner", 3)]) (g := gName 3) (tt := tYes) rfl sc_cut.nd rfl rfl (sw_true rfl rfl rfl (by decide +kernel)) (pi_list (pv 0)) (blkOk_by (own := [("corner", 3)]) (N := ["hull", "rule", "tells", "corner", "low", "high", "k", "after"]) (sc := defScope s_cut) (by decide +kernel)) (fun _ _ _ _ _ => (pg_name (i := 3) sc_cut.nd rfl (Or.inl rfl))) (fun _ _ _ _ _ => pts_nil) (fun _ _ _ _ _ => (C8.pe_c c_told_by hr (by omega) (by rfl) (pa_cons (pv 1) (pa_cons (pv 3) pa_nil)))))
  (pss_cons (ps_if (PW.pt (pw_or (pt_cmpR op_ge (pe_callB (cr_min rfl) (by rfl) z_min b_min (pa_cons (pv 2) pa_nil)) pe_int (nomark _)) (pw_or1 (pt_cmpR op_le (pe_callB (cr_max rfl) (by rfl) z_max b_max (pa_cons (pv 2) pa_nil)) pe_int (nomark _))))) (pss_one ps_never) pss_nil)
  (pss_cons (ps_set (i := 4) sc_cut.nd rfl (Or.inl rfl) (pe_lst pa_nil))
  (pss_cons (ps_set (i := 5) sc_cut.nd rfl (Or.inl rfl) (pe_lst pa_nil))
  (pss_cons (ps_for PassesOwn.never rfl (pi_range1 (by rfl) z_range (pa_cons (pe_callB call_len_seq (by rfl) z_len b_len (pa_cons (pv 0) pa_nil)) pa_nil)) (pg_name (i := 6) sc_cut.nd rfl (Or.inl rfl)) (pss_cons (ps_set (i := 7) sc_cut.nd rfl (Or.inl rfl) (pe_op op_mod (pe_op op_add (pv 6) pe_int) (pe_callB call_len_seq (by rfl) z_len b_len (pa_cons (pv 0) pa_nil))))
  (C8.pss_cut (ps_if (pt_cmpR op_le (pe_ix (r := rIxL K) ix_list (pv 2) (pv 6) (fun _ _ => rfl)) pe_int (nomark _)) (pss_one (ps_expr (pe_bm PySem.F.plainAttrs_list PySem.F.slot_list_append PySem.F.type_list_append mt_append (pv 4) (pa_cons (pe_ix (r := rIxL K) ix_list (pv 0) (pv 6) (fun _ _ => rfl)) pa_nil)))) pss_nil)
  (C8.pss_cut (ps_if (pt_cmpR op_ge (pe_ix (r := rIxL K) ix_list (pv 2) (pv 6) (fun _ _ => rfl)) pe_int (nomark _)) (pss_one (ps_expr (pe_bm PySem.F.plainAttrs_list PySem.F.slot_list_append PySem.F.type_list_append mt_append (pv 5) (pa_cons (pe_ix (r := rIxL K) ix_list (pv 0) (pv 6) (fun _ _ => rfl)) pa_nil)))) pss_nil)
  (pss_one (ps_if (pt_cmpR op_lt (pe_op op_mulW (pe_ix (r := rIxL K) ix_list (pv 2) (pv 6) (fun _ _ => rfl)) (pe_ix (r := rIxL K) ix_list (pv 2) (pv 7) (fun _ _ => rfl))) pe_int (nomark _)) (pss_cons (ps_set (i := 3) sc_cut.nd rfl (Or.inl rfl) (C8.pe_c c_between hr (by omega) (by rfl) (pa_cons (pe_ix (r := rIxL K) ix_list (pv 0) (pv 6) (fun _ _ => rfl)) (pa_cons (pe_ix (r := rIxL K) ix_list (pv 0) (pv 7) (fun _ _ => rfl)) (pa_cons (pe_ix (r := rIxL K) ix_list (pv 2) (pv 6) (fun _ _ => rfl)) (pa_cons (pe_ix (r := rIxL K) ix_list (pv 2) (pv 7) (fun _ _ => rfl)) pa_nil))))))
  (pss_cons (ps_expr (pe_bm PySem.F.plainAttrs_list PySem.F.slot_list_append PySem.F.type_list_append mt_append (pv 4) (pa_cons (pv 3) pa_nil)))
  (pss_one (ps_expr (pe_bm PySem.F.plainAttrs_list PySem.F.slot_list_append PySem.F.type_list_append mt_append (pv 5) (pa_cons (pv 3) pa_nil)))))) pss_nil))))))
  (pss_one (ps_ret (pe_tup (pa_cons (pv 4) (pa_cons (pv 5) pa_nil)))))))))), ?_⟩
  -- tells
  refine ⟨_, rfl, ha, rfl, ⟨_, hS⟩, fun D hD => lcL (K := K) (a := ha) (xs := cs) ((tells r h).map V.int) hD hS (by rw [tells_len, hlen]) (by rw [tells_len]; omega) (fun i x z H' hx hz s Q' hq => ?_) fun H1 s1 hT => ?_⟩
  · obtain ⟨k, hk, kx⟩ := Paired.at1 hP hx
    have hi : i < h.length := (List.getElem?_eq_some_iff.mp hk).1
    rw [tells_at hi] at hz
    rw [pt_lt hi] at hk
    cases hk
    refine ⟨_, rfl, _, rfl, y, x, r, pt h i, rfl, hY.mono s, kx.mono s, hr1000, ?_⟩
    have := hq H' (Same.refl _)
    rw [← Option.some.inj hz] at this
    exact this
  -- if min(tells) >= 0 or max(tells) <= 0
  have hTl : SqL K H1 D ((tells r h).map V.int) := SqL.of hT
  have tl0 : 0 < (tells r h).length := by
    have := tells_len r h
    rw [List.length_map] at this
    omega
  obtain ⟨⟨k1, hk1, n1⟩, k2, hk2, n2⟩ := hC
  refine ⟨_, rfl, D, _, rfl, hTl, tl0, fun m _ hm => ?_⟩
  refine ⟨_, _, rfl, rfl, _, rfl, ?_⟩
  have m0 : ¬ (0 : Int) ≤ m := by
    have := hm _ (tells_mem.mpr ⟨k1, hk1, rfl⟩)
    omega
  rw [decide_eq_false m0]
  refine iteF ⟨_, rfl, D, _, rfl, hTl, tl0, fun m _ hm => ?_⟩
  refine ⟨_, _, rfl, rfl, _, rfl, ?_⟩
  have m1 : ¬ m ≤ (0 : Int) := by
    have := hm _ (tells_mem.mpr ⟨k2, hk2, rfl⟩)
    omega
  rw [decide_eq_false m1]
  refine iteF ?_
  -- low = [], high = []
  refine ⟨Nat.zero_le _, fun L hL => ?_⟩
  refine ⟨Nat.zero_le _, fun G hG => ?_⟩
  have nLG : L ≠ G := ne_of_none upd_same hG
  have s2 : Same H1 (upd H1 L (.lst [])) := same_new hL _
  have s3 : Same H1 (upd (upd H1 L (.lst [])) G (.lst [])) := s2.trans (same_new hG _)
  have hL1 : H1 L = none := hL
  have hG1 : H1 G = none := s2.free hG
  -- for k in range(len(hull))
  refine ⟨_, rfl, ha, cs, rfl, .inl (s3.seq (s1.seq hS)), (cs.length : Nat), rfl, by omega, by omega, ?_⟩
  rw [Int.toNat_natCast]
  refine for_range (lo := 0) (n := cs.length) (fun i σ H' => ∃ v3 v6 v7 ls gs, σ = [some (.ref ha), some y, some (.ref D), v3, some (.ref L), some (.ref G), v6, v7] ∧ Same H1 H' ∧ H' L = some (.lst ls) ∧ H' G = some (.lst gs) ∧
      ls.length ≤ 2 * i ∧ gs.length ≤ 2 * i ∧ Paired (T3At K H') ls (lowTo r h i) ∧ Paired (T3At K H') gs (highTo r h i))
    ⟨none, none, none, [], [], rfl, s3, by rw [upd_ne nLG, upd_same], upd_same, Nat.le_refl _, Nat.le_refl _, .nil, .nil⟩ (fun i σ H' hi hp => ?_) (fun σ H' hp => ?_)
  · obtain ⟨v3, v6, v7, ls, gs, rfl, s4, eL, eG, l1, l2, p1, p2⟩ := hp
    have hi' : i < h.length := by omega
    rw [Int.zero_add]
    have hCs : ∀ {H' : Hp}, Same H1 H' → SqL K H' ha cs := fun s => s.seq (s1.seq hS)
    have hTs : ∀ {H' : Hp}, Same H1 H' → SqL K H' D ((tells r h).map V.int) := fun s => s.seq hTl
    obtain ⟨xk, ek, tk⟩ := Paired.at2 hP (pt_lt hi')
    have tk1 : T3At K H1 xk (pt h i) := tk.mono s1
    -- after
    have hmod : ((i : Int) + 1) % (cs.length : Nat) = (((i + 1) % h.length : Nat) : Int) := by
      rw [hlen]
      simp
    have ha' : (i + 1) % h.length < h.length := Nat.mod_lt _ len0
    obtain ⟨xa, ea, ta⟩ := Paired.at2 hP (pt_lt ha')
    have pta : pt h ((i + 1) % h.length) = pt h (i + 1) := by
      unfold pt
      rw [Nat.mod_mod]
    rw [pta] at ta
    have ta1 : T3At K H1 xa (pt h (i + 1)) := ta.mono s1
    have tla : ((tells r h).map V.int)[(i + 1) % h.length]? = some (.int (tl r h (i + 1))) := by
      rw [tells_at ha']
      unfold tl
      rw [pta]
    refine ⟨_, rfl, _, _, rfl, rfl, _, rfl, ha, cs, rfl, .inl (hCs s4), _, _, rfl, rfl, (show (0 : Int) < (cs.length : Nat) by omega), ?_⟩
    -- if tells[k] <= 0
    refine ⟨fun σ' H' => ∃ ls, σ' = [some (.ref ha), some y, some (.ref D), v3, some (.ref L), some (.ref G), some (.int i), some (.int ((((i : Nat) : Int) + 1) % ((cs.length : Nat) : Int)))] ∧ Same H1 H' ∧ H' L = some (.lst ls) ∧ H' G = some (.lst gs) ∧
        ls.length ≤ 2 * i + 1 ∧ Paired (T3At K H') ls (lowTo r h i ++ if tl r h i ≤ 0 then [pt h i] else []) ∧ Paired (T3At K H') gs (highTo r h i), ?_, ?_⟩
    · refine ⟨_, rfl, _, rfl, D, _, _, _, rfl, rfl, hTs s4, at_of rfl (tells_at hi'), _, _, rfl, rfl, _, rfl, ite2 (fun c => ?_) fun c => ?_⟩
      · have c' : tl r h i ≤ 0 := of_decide_eq_true c
        refine ⟨_, rfl, .inl ⟨rfl, _, SqL.of eL⟩, _, rfl, _, rfl, ha, cs, _, _, rfl, rfl, hCs s4, at_of rfl ek, L, _, _, rfl, rfl, eL, small_line (by omega), ?_⟩
        refine ⟨_, rfl, same_mut s4 hL1, upd_same, by rw [upd_ne nLG.symm]; exact eG, ?_, ?_, pu p2 eL⟩
        · rw [List.length_append]
          show ls.length + 1 ≤ _
          omega
        · rw [if_pos c']
          exact Paired.snoc (pu p1 eL) ((tk1.mono s4).upd eL)
      · have c' : ¬ tl r h i ≤ 0 := of_decide_eq_false (Bool.eq_false_iff.mpr c)
        refine ⟨ls, rfl, s4, eL, eG, by omega, ?_, p2⟩
        rw [if_neg c', List.append_nil]
        exact p1
    · rintro σ' H5 ⟨ls5, rfl, s5, eL5, eG5, l5, p15, p25⟩
      -- if tells[k] >= 0
      refine ⟨fun σ' H' => ∃ gs, σ' = [some (.ref ha), some y, some (.ref D), v3, some (.ref L), some (.ref G), some (.int i), some (.int ((((i : Nat) : Int) + 1) % ((cs.length : Nat) : Int)))] ∧ Same H1 H' ∧ H' L = some (.lst ls5) ∧ H' G = some (.lst gs) ∧
          gs.length ≤ 2 * i + 1 ∧ Paired (T3At K H') ls5 (lowTo r h i ++ if tl r h i ≤ 0 then [pt h i] else []) ∧ Paired (T3At K H') gs (highTo r h i ++ if 0 ≤ tl r h i then [pt h i] else []), ?_, ?_⟩
      · refine ⟨_, rfl, _, rfl, D, _, _, _, rfl, rfl, hTs s5, at_of rfl (tells_at hi'), _, _, rfl, rfl, _, rfl, ite2 (fun c => ?_) fun c => ?_⟩
        · have c' : 0 ≤ tl r h i := of_decide_eq_true c
          refine ⟨_, rfl, .inl ⟨rfl, _, SqL.of eG5⟩, _, rfl, _, rfl, ha, cs, _, _, rfl, rfl, hCs s5, at_of rfl ek, G, _, _, rfl, rfl, eG5, small_line (by omega), ?_⟩
          refine ⟨_, rfl, same_mut s5 hG1, by rw [upd_ne nLG]; exact eL5, upd_same, ?_, pu p15 eG5, ?_⟩
          · rw [List.length_append]
            show gs.length + 1 ≤ _
            omega
          · rw [if_pos c']
            exact Paired.snoc (pu p25 eG5) ((tk1.mono s5).upd eG5)
        · have c' : ¬ 0 ≤ tl r h i := of_decide_eq_false (Bool.eq_false_iff.mpr c)
          refine ⟨gs, rfl, s5, eL5, eG5, by omega, p15, ?_⟩
          rw [if_neg c', List.append_nil]
          exact p25
      · rintro σ' H6 ⟨gs6, rfl, s6, eL6, eG6, l6, p16, p26⟩
        -- if tells[k] * tells[after] < 0
        have f1 := O.tl_lt hd hr32 (pt_mem len0 i)
        have f2 := O.tl_lt hd hr32 (pt_mem len0 (i + 1))
        have wm : CMulW (tl r h i) (tl r h (i + 1)) := by
          have g : ∀ {x : Int}, ab x < 2 ^ 3010 → x.natAbs < 2 ^ 3010 := fun {x} hx => by
            have e : ab x = (x.natAbs : Nat) := by unfold ab; split <;> omega
            rw [e] at hx
            have := nat_lt (Int.natCast_nonneg _) hx
            simpa using this
          exact wide_mul (g f1) (g f2) (by decide) (by decide) (by decide)
        refine ⟨_, rfl, _, rfl, D, _, _, _, rfl, rfl, hTs s6, at_of rfl (tells_at hi'), _, rfl, _, rfl, D, _, _, _, rfl, rfl, hTs s6, at_of hmod tla, _, _, rfl, rfl, wm, _, _, rfl, rfl, _, rfl, ite2 (fun c => ?_) fun c => ?_⟩
        · have c' : tl r h i * tl r h (i + 1) < 0 := of_decide_eq_true c
          -- corner = between(..)
          refine ⟨_, rfl, _, rfl, ha, cs, _, _, rfl, rfl, hCs s6, at_of rfl ek, _, rfl, _, rfl, ha, cs, _, _, rfl, rfl, hCs s6, at_of hmod ea, _, rfl, _, rfl, D, _, _, _, rfl, rfl, hTs s6, at_of rfl (tells_at hi'), _, rfl, _, rfl, D, _, _, _, rfl, rfl, hTs s6, at_of hmod tla, ?_⟩
          refine ⟨xk, xa, pt h i, pt h (i + 1), _, _, rfl, tk1.mono s6, ta1.mono s6, O.fit hd (pt_mem len0 i), O.fit hd (pt_mem len0 (i + 1)), f1, f2, (ne_of_mul_neg c').2, fun z H7 s7 hz => ?_⟩
          have eL7 := s7 _ _ eL6
          have eG7 := s7 _ _ eG6
          refine ⟨_, rfl, .inl ⟨rfl, _, SqL.of eL7⟩, _, rfl, L, _, _, rfl, rfl, eL7, small_line (by omega), ?_⟩
          have eG8 : (upd H7 L (.lst (ls5 ++ [z]))) G = some (.lst gs6) := by
            rw [upd_ne nLG.symm]
            exact eG7
          refine ⟨_, rfl, .inl ⟨rfl, _, SqL.of eG8⟩, _, rfl, G, _, _, rfl, rfl, eG8, small_line (by omega), ?_⟩
          refine ⟨_, _, _, _, _, rfl, same_mut (same_mut (s6.trans s7) hL1) hG1, by rw [upd_ne nLG, upd_same], upd_same, ?_, ?_, ?_, ?_⟩
          · rw [List.length_append]
            show ls5.length + 1 ≤ _
            omega
          · rw [List.length_append]
            show gs6.length + 1 ≤ _
            omega
          · rw [lowTo_succ, if_pos c']
            exact pu (Paired.snoc (pu (pm s7 p16) eL7) (hz.upd eL7)) eG8
          · rw [highTo_succ, if_pos c']
            exact Paired.snoc (pu (pu (pm s7 p26) eL7) eG8) ((hz.upd eL7).upd eG8)
        · have c' : ¬ tl r h i * tl r h (i + 1) < 0 := of_decide_eq_false (Bool.eq_false_iff.mpr c)
          refine ⟨_, _, _, _, _, rfl, s6, eL6, eG6, by omega, by omega, ?_, ?_⟩
          · rw [lowTo_succ, if_neg c', List.append_nil]
            exact p16
          · rw [highTo_succ, if_neg c', List.append_nil]
            exact p26
  · obtain ⟨v3, v6, v7, ls, gs, rfl, s4, eL, eG, l1, l2, p1, p2⟩ := hp
    rw [hlen] at p1 p2
    refine ⟨_, rfl, _, rfl, (by show 2 ≤ sizeLine; decide), fun p hp => ?_⟩
    have s5 := same_new hp (.tup [.ref L, .ref G])
    exact q _ _ ((s1.trans s4).trans s5) ⟨p, _, _, rfl, SqT.of upd_same, ⟨L, ls, rfl, SqL.of (s5 _ _ eL), pm s5 p1⟩, G, gs, rfl, SqL.of (s5 _ _ eG), pm s5 p2⟩
end
end K55

namespace K55
open PySem PySem.Spec PyProof.Rows L2
/-! ### rows of shared parts -/
def Wd.str : Wd → Str
  | .more => "more" | .less => "less" | .greater => "greater" | .lesser => "lesser" | .leads => "leads"
theorem Wd.str_inj {v w : Wd} (h : v.str = w.str) : v = w := by
  revert h
  cases v <;> cases w <;> first | (intro _; rfl) | (intro h; exact absurd h (by decide +kernel))
instance lawKey : LawfulBEq Key where
  eq_of_beq {a b} h := by cases a <;> cases b <;> first | (exact congrArg _ (eq_of_beq h)) | cases h
  rfl {a} := by
    cases a with
    | inl i => exact (beq_self_eq_true i : (i == i) = true)
    | inr i => exact (beq_self_eq_true i : (i == i) = true)
abbrev Row := List Key
def Tr.enc (f : Tr → Nat) : Tr → Row
  | .never => [.inr "never"]
  | .always => [.inr "always"]
  | .p => [.inr "p"]
  | .q => [.inr "q"]
  | .neg a => [.inr "not", .inl (f a : Nat)]
  | .fold w a b => [.inr w.str, .inl (f a : Nat), .inl (f b : Nat)]
/-- a row is put behind the others where it doesn't stand there -/
def intern (ks : List Row) (k : Row) : List Row := if k ∈ ks then ks else ks ++ [k]
/-- the rows, as the program puts them, and the place -/
def encPut : Tr → List Row → List Row × Nat
  | .never, ks => (intern ks [.inr "never"], (intern ks [.inr "never"]).idxOf [.inr "never"])
  | .always, ks => (intern ks [.inr "always"], (intern ks [.inr "always"]).idxOf [.inr "always"])
  | .p, ks => (intern ks [.inr "p"], (intern ks [.inr "p"]).idxOf [.inr "p"])
  | .q, ks => (intern ks [.inr "q"], (intern ks [.inr "q"]).idxOf [.inr "q"])
  | .neg a, ks =>
    let r := encPut a ks
    let k : Row := [.inr "not", .inl (r.2 : Nat)]
    (intern r.1 k, (intern r.1 k).idxOf k)
  | .fold w a b, ks =>
    let r := encPut a ks
    let s := encPut b r.1
    let k : Row := [.inr w.str, .inl (r.2 : Nat), .inl (s.2 : Nat)]
    (intern s.1 k, (intern s.1 k).idxOf k)
/-! ### the sayings that the rows stand for -/
def ix (L : List Tr) (t : Tr) : Nat := L.idxOf t
def kids : Tr → List Tr
  | .neg a => [a]
  | .fold _ a b => [a, b]
  | _ => []
/-- each part stands behind those that it is made of, none twice -/
structure Cl (L : List Tr) : Prop where
  nd : L.Nodup
  kid : ∀ (i : Nat) (t c : Tr), L[i]? = some t → c ∈ kids t → c ∈ L ∧ ix L c < i
def rowsOf (L : List Tr) : List Row := L.map fun t => t.enc (ix L)
def addT (L : List Tr) (t : Tr) : List Tr := if t ∈ L then L else L ++ [t]
def putT : Tr → List Tr → List Tr
  | .neg a, L => addT (putT a L) (.neg a)
  | .fold w a b, L => addT (putT b (putT a L)) (.fold w a b)
  | t, L => addT L t
theorem enc_congr {f g : Tr → Nat} {t : Tr} (h : ∀ c, c ∈ kids t → f c = g c) : t.enc f = t.enc g := by
  cases t <;> first | rfl | skip
  · simp only [Tr.enc, h _ (List.mem_singleton.mpr rfl)]
  · simp only [Tr.enc, h _ (List.mem_cons_self ..), h _ (List.mem_cons_of_mem _ (List.mem_singleton.mpr rfl))]
theorem ix_app {L : List Tr} {c : Tr} (h : c ∈ L) (M : List Tr) : ix (L ++ M) c = ix L c := by
  unfold ix
  rw [List.idxOf_append, if_pos h]
theorem ix_inj {L : List Tr} {c d : Tr} (hc : c ∈ L) (hd : d ∈ L) (h : ix L c = ix L d) : c = d := by
  have a := List.getElem_idxOf (List.idxOf_lt_length_of_mem hc)
  have b := List.getElem_idxOf (List.idxOf_lt_length_of_mem hd)
  rw [← a, ← b]
  congr 1
/-- unlike sayings have unlike rows -/
theorem enc_inj {L : List Tr} {t u : Tr} (ht : ∀ c, c ∈ kids t → c ∈ L) (hu : ∀ c, c ∈ kids u → c ∈ L) (h : t.enc (ix L) = u.enc (ix L)) : t = u := by
  cases t <;> cases u <;> simp only [Tr.enc, List.cons.injEq, Sum.inr.injEq, Sum.inl.injEq, and_true] at h <;> first | rfl | (exfalso; revert h; decide +kernel) | (simp at h; done) | skip
  · rename_i a b
    have := ix_inj (ht a (List.mem_singleton.mpr rfl)) (hu b (List.mem_singleton.mpr rfl)) (Int.ofNat.inj h.2)
    rw [this]
  · rename_i v a b w c d
    have h1 := Wd.str_inj h.1
    have h2 := ix_inj (ht a (List.mem_cons_self ..)) (hu c (List.mem_cons_self ..)) (Int.ofNat.inj h.2.1)
    have h3 := ix_inj (ht b (List.mem_cons_of_mem _ (List.mem_singleton.mpr rfl))) (hu d (List.mem_cons_of_mem _ (List.mem_singleton.mpr rfl))) (Int.ofNat.inj h.2.2)
    rw [h1, h2, h3]
theorem rowsOf_app {L : List Tr} (C : Cl L) {t : Tr} (ht : ∀ c, c ∈ kids t → c ∈ L) : rowsOf (L ++ [t]) = rowsOf L ++ [t.enc (ix L)] := by
  unfold rowsOf
  rw [List.map_append, List.map_cons, List.map_nil]
  congr 1
  · refine List.map_congr_left fun u hu => enc_congr fun c hc => ?_
    obtain ⟨i, hi, e⟩ := List.mem_iff_getElem.mp hu
    exact ix_app (C.kid i u c (by rw [List.getElem?_eq_getElem hi, e]) hc).1 _
  · congr 1
    exact enc_congr fun c hc => ix_app (ht c hc) _
theorem Cl.snoc {L : List Tr} (C : Cl L) {t : Tr} (ht : ∀ c, c ∈ kids t → c ∈ L) (n : t ∉ L) : Cl (L ++ [t]) := by
  refine ⟨List.nodup_append.mpr ⟨C.nd, List.nodup_cons.mpr ⟨by simp, List.nodup_nil⟩, fun a ha b hb => ?_⟩, fun i u c hu hc => ?_⟩
  · rw [List.mem_singleton.mp hb]
    intro e
    exact n (e ▸ ha)
  · by_cases hi : i < L.length
    · rw [List.getElem?_append_left hi] at hu
      obtain ⟨a, b⟩ := C.kid i u c hu hc
      exact ⟨List.mem_append_left _ a, by rw [ix_app a]; exact b⟩
    · rw [List.getElem?_append_right (by omega)] at hu
      have e : u = t := by
        cases q : i - L.length with
        | zero => rw [q] at hu; exact (Option.some.inj hu).symm
        | succ m => rw [q] at hu; simp at hu
      subst e
      have a := ht c hc
      exact ⟨List.mem_append_left _ a, by rw [ix_app a]; exact Nat.lt_of_lt_of_le (List.idxOf_lt_length_of_mem a) (by omega)⟩
theorem mem_rows {L : List Tr} (C : Cl L) {t : Tr} (ht : ∀ c, c ∈ kids t → c ∈ L) : t.enc (ix L) ∈ rowsOf L ↔ t ∈ L := by
  unfold rowsOf
  constructor
  · intro h
    obtain ⟨u, hu, e⟩ := List.mem_map.mp h
    obtain ⟨i, hi, e2⟩ := List.mem_iff_getElem.mp hu
    have := enc_inj (fun c hc => (C.kid i u c (by rw [List.getElem?_eq_getElem hi, e2]) hc).1) ht e
    rw [← this]
    exact hu
  · intro h
    exact List.mem_map.mpr ⟨t, h, rfl⟩
theorem idx_map {α β : Type} [BEq α] [LawfulBEq α] [BEq β] [LawfulBEq β] {f : α → β} {t : α} : ∀ {L : List α}, (∀ u, u ∈ L → f u = f t → u = t) → (L.map f).idxOf (f t) = L.idxOf t
  | [], _ => rfl
  | a :: L, h => by
    rw [List.map_cons, List.idxOf_cons, List.idxOf_cons]
    by_cases e : a = t
    · subst e
      simp
    · have e2 : f a ≠ f t := fun q => e (h a (List.mem_cons_self ..) q)
      rw [show (f a == f t) = false from beq_eq_false_iff_ne.mpr e2, show (a == t) = false from beq_eq_false_iff_ne.mpr e]
      simp only [cond_false]
      rw [idx_map fun u hu => h u (List.mem_cons_of_mem _ hu)]
theorem idx_rows {L : List Tr} (C : Cl L) {t : Tr} (ht : t ∈ L) : (rowsOf L).idxOf (t.enc (ix L)) = ix L t := by
  obtain ⟨j, hj, ej⟩ := List.mem_iff_getElem.mp ht
  unfold rowsOf
  refine idx_map (f := fun u : Tr => u.enc (ix L)) fun u hu e => ?_
  obtain ⟨i, hi, e2⟩ := List.mem_iff_getElem.mp hu
  exact enc_inj (fun c hc => (C.kid i u c (by rw [List.getElem?_eq_getElem hi, e2]) hc).1) (fun c hc => (C.kid j t c (by rw [List.getElem?_eq_getElem hj, ej]) hc).1) e
/-- one part put -/
theorem add_ok {L : List Tr} (C : Cl L) {t : Tr} (ht : ∀ c, c ∈ kids t → c ∈ L) : Cl (addT L t) ∧ intern (rowsOf L) (t.enc (ix L)) = rowsOf (addT L t) ∧ (intern (rowsOf L) (t.enc (ix L))).idxOf (t.enc (ix L)) = ix (addT L t) t ∧ t ∈ addT L t ∧ ∃ M, addT L t = L ++ M := by
  by_cases h : t ∈ L
  · have e1 : addT L t = L := if_pos h
    have e2 : intern (rowsOf L) (t.enc (ix L)) = rowsOf L := if_pos ((mem_rows C ht).mpr h)
    rw [e1, e2]
    exact ⟨C, rfl, idx_rows C h, h, [], (List.append_nil L).symm⟩
  · have e1 : addT L t = L ++ [t] := if_neg h
    have e2 : intern (rowsOf L) (t.enc (ix L)) = rowsOf L ++ [t.enc (ix L)] := if_neg fun q => h ((mem_rows C ht).mp q)
    have C2 := C.snoc ht h
    have m : t ∈ L ++ [t] := List.mem_append_right _ (List.mem_singleton.mpr rfl)
    have e3 : t.enc (ix (L ++ [t])) = t.enc (ix L) := enc_congr fun c hc => ix_app (ht c hc) _
    rw [e1, e2, ← rowsOf_app C ht]
    refine ⟨C2, rfl, ?_, m, [t], rfl⟩
    rw [← e3]
    exact idx_rows C2 m
theorem put_ok : ∀ (t : Tr) {L : List Tr}, Cl L → Cl (putT t L) ∧ encPut t (rowsOf L) = (rowsOf (putT t L), ix (putT t L) t) ∧ t ∈ putT t L ∧ ∃ M, putT t L = L ++ M
  | .never, L, C => by
    obtain ⟨a, b, c, d, e⟩ := add_ok C (t := .never) (fun _ h => nomatch h)
    exact ⟨a, Prod.ext b c, d, e⟩
  | .always, L, C => by
    obtain ⟨a, b, c, d, e⟩ := add_ok C (t := .always) (fun _ h => nomatch h)
    exact ⟨a, Prod.ext b c, d, e⟩
  | .p, L, C => by
    obtain ⟨a, b, c, d, e⟩ := add_ok C (t := .p) (fun _ h => nomatch h)
    exact ⟨a, Prod.ext b c, d, e⟩
  | .q, L, C => by
    obtain ⟨a, b, c, d, e⟩ := add_ok C (t := .q) (fun _ h => nomatch h)
    exact ⟨a, Prod.ext b c, d, e⟩
  | .neg t, L, C => by
    obtain ⟨a, b, c, M, e⟩ := put_ok t C
    obtain ⟨a2, b2, c2, d2, M2, e2⟩ := add_ok a (t := .neg t) (fun u h => by rw [List.mem_singleton.mp h]; exact c)
    refine ⟨a2, ?_, d2, M ++ M2, ?_⟩
    · simp only [encPut, b]
      exact Prod.ext b2 c2
    · show addT (putT t L) (.neg t) = _
      rw [e2, e, List.append_assoc]
  | .fold w s t, L, C => by
    obtain ⟨a, b, c, M, e⟩ := put_ok s C
    obtain ⟨a1, b1, c1, M1, e1⟩ := put_ok t a
    have hs : s ∈ putT t (putT s L) := by rw [e1]; exact List.mem_append_left _ c
    obtain ⟨a2, b2, c2, d2, M2, e2⟩ := add_ok a1 (t := .fold w s t) (fun u h => by
      rcases List.mem_cons.mp h with rfl | h
      · exact hs
      · rw [List.mem_singleton.mp h]; exact c1)
    have i1 : ix (putT t (putT s L)) s = ix (putT s L) s := by rw [e1]; exact ix_app c _
    refine ⟨a2, ?_, d2, M ++ (M1 ++ M2), ?_⟩
    · simp only [encPut, b, b1]
      simp only [Tr.enc, i1] at b2 c2
      exact Prod.ext b2 c2
    · show addT (putT t (putT s L)) (.fold w s t) = _
      rw [e2, e1, e, List.append_assoc, List.append_assoc]
theorem cl_nil : Cl [] := ⟨List.nodup_nil, fun i t c h => by simp at h⟩
/-- how many folds are among the parts -/
def isFold : Tr → Bool
  | .fold .. => true
  | _ => false
def foldsIn (L : List Tr) : Nat := (L.filter isFold).length
theorem add_folds (L : List Tr) (t : Tr) : foldsIn (addT L t) ≤ foldsIn L + (if isFold t = true then 1 else 0) := by
  unfold addT
  split
  · exact Nat.le_add_right _ _
  · unfold foldsIn
    rw [List.filter_append, List.length_append, List.filter_cons]
    split <;> simp
theorem add_len (L : List Tr) (t : Tr) : (addT L t).length ≤ L.length + 1 := by
  unfold addT
  split <;> simp
theorem put_folds : ∀ (t : Tr) (L : List Tr), foldsIn (putT t L) ≤ foldsIn L + t.folds ∧ (putT t L).length ≤ L.length + t.size
  | .never, L => ⟨add_folds L .never, add_len L _⟩
  | .always, L => ⟨add_folds L .always, add_len L _⟩
  | .p, L => ⟨add_folds L .p, add_len L _⟩
  | .q, L => ⟨add_folds L .q, add_len L _⟩
  | .neg t, L => by
    have a := put_folds t L
    have b := add_folds (putT t L) (.neg t)
    have c := add_len (putT t L) (.neg t)
    have d : (if isFold (.neg t) = true then 1 else 0) = 0 := rfl
    rw [d] at b
    simp only [putT, Tr.folds, Tr.size]
    omega
  | .fold w s t, L => by
    have a := put_folds s L
    have a2 := put_folds t (putT s L)
    have b := add_folds (putT t (putT s L)) (.fold w s t)
    have c := add_len (putT t (putT s L)) (.fold w s t)
    have d : (if isFold (.fold w s t) = true then 1 else 0) = 1 := rfl
    rw [d] at b
    simp only [putT, Tr.folds, Tr.size]
    omega
/-- no part is greater than the whole -/
theorem put_sizes : ∀ (t : Tr) (L : List Tr) (u : Tr), u ∈ putT t L → u ∈ L ∨ u.size ≤ t.size
  | .never, L, u, h => add_mem h
  | .always, L, u, h => add_mem h
  | .p, L, u, h => add_mem h
  | .q, L, u, h => add_mem h
  | .neg t, L, u, h => by
    rcases add_mem (L := putT t L) h with h | h
    · rcases put_sizes t L u h with h | h
      · exact .inl h
      · exact .inr (by simp only [Tr.size]; omega)
    · exact .inr h
  | .fold w s t, L, u, h => by
    rcases add_mem (L := putT t (putT s L)) h with h | h
    · rcases put_sizes t _ u h with h | h
      · rcases put_sizes s _ u h with h | h
        · exact .inl h
        · exact .inr (by simp only [Tr.size]; omega)
      · exact .inr (by simp only [Tr.size]; omega)
    · exact .inr h
where
  add_mem {L : List Tr} {t u : Tr} (h : u ∈ addT L t) : u ∈ L ∨ u.size ≤ t.size := by
    unfold addT at h
    split at h
    · exact .inl h
    · rcases List.mem_append.mp h with h | h
      · exact .inl h
      · rw [List.mem_singleton.mp h]
        exact .inr (Nat.le_refl _)
end K55

namespace K55
open PySem PySem.Spec PyProof.Rows L2
/-! ### the classes of sayings -/
def Wd.cls : Wd → Str
  | .more => "More" | .less => "Less" | .greater => "Greater" | .lesser => "Lesser" | .leads => "Leads"
inductive Kd where
  | never | always | letter | neg
  | w (v : Wd)
  deriving DecidableEq
def Kd.cls : Kd → Str
  | .never => "Never" | .always => "Always" | .letter => "Letter" | .neg => "Not"
  | .w v => v.cls
def Tr.kd : Tr → Kd
  | .never => .never | .always => .always | .p => .letter | .q => .letter | .neg _ => .neg
  | .fold w _ _ => .w w
abbrev cA (K : PySem.W.Frag) (k : Kd) : Addr := He.ga K k.cls
/-- a saying's object -/
def SayAt (K : PySem.W.Frag) (H : Hp) : V → Tr → Prop
  | v, .never => ∃ a dx, v = .ref a ∧ H a = some (.ins (cA K .never) dx [])
  | v, .always => ∃ a dx, v = .ref a ∧ H a = some (.ins (cA K .always) dx [])
  | v, .p => ∃ a dx, v = .ref a ∧ H a = some (.ins (cA K .letter) dx [(("name" : Str), .str "p")])
  | v, .q => ∃ a dx, v = .ref a ∧ H a = some (.ins (cA K .letter) dx [(("name" : Str), .str "q")])
  | v, .neg t => ∃ a dx u, v = .ref a ∧ H a = some (.ins (cA K .neg) dx [(("part" : Str), u)]) ∧ SayAt K H u t
  | v, .fold w s t => ∃ a dx x y, v = .ref a ∧ H a = some (.ins (cA K (.w w)) dx [(("one" : Str), x), (("other" : Str), y)]) ∧ SayAt K H x s ∧ SayAt K H y t
theorem SayAt.mono {K : PySem.W.Frag} {H H' : Hp} (e : Same H H') : ∀ {t : Tr} {v : V}, SayAt K H v t → SayAt K H' v t
  | .never, _, ⟨a, dx, h1, h2⟩ => ⟨a, dx, h1, e _ _ h2⟩
  | .always, _, ⟨a, dx, h1, h2⟩ => ⟨a, dx, h1, e _ _ h2⟩
  | .p, _, ⟨a, dx, h1, h2⟩ => ⟨a, dx, h1, e _ _ h2⟩
  | .q, _, ⟨a, dx, h1, h2⟩ => ⟨a, dx, h1, e _ _ h2⟩
  | .neg _, _, ⟨a, dx, u, h1, h2, h3⟩ => ⟨a, dx, u, h1, e _ _ h2, SayAt.mono e h3⟩
  | .fold _ _ _, _, ⟨a, dx, x, y, h1, h2, h3, h4⟩ => ⟨a, dx, x, y, h1, e _ _ h2, SayAt.mono e h3, SayAt.mono e h4⟩
theorem lk2 {x y f : Str} {u v : V} (h1 : (f == x) = false) (h2 : (f == y) = false) : ([(x, u), (y, v)] : List (Str × V)).lookup f = none := by
  simp [List.lookup, h1, h2]
/-- its class; none of its fields is a method's name -/
theorem SayAt.ins {K : PySem.W.Frag} {H : Hp} {t : Tr} {v : V} (h : SayAt K H v t) : ∃ a dx fs, v = .ref a ∧ H a = some (.ins (cA K t.kd) dx fs) ∧ fs.lookup ("folds" : Str) = none ∧ fs.lookup ("inner" : Str) = none := by
  cases t with
  | never => obtain ⟨a, dx, h1, h2⟩ := h; exact ⟨a, dx, _, h1, h2, rfl, rfl⟩
  | always => obtain ⟨a, dx, h1, h2⟩ := h; exact ⟨a, dx, _, h1, h2, rfl, rfl⟩
  | p => obtain ⟨a, dx, h1, h2⟩ := h; exact ⟨a, dx, _, h1, h2, by decide +kernel, by decide +kernel⟩
  | q => obtain ⟨a, dx, h1, h2⟩ := h; exact ⟨a, dx, _, h1, h2, by decide +kernel, by decide +kernel⟩
  | neg t =>
    obtain ⟨a, dx, u, h1, h2, _⟩ := h
    exact ⟨a, dx, _, h1, h2, by simp [List.lookup, show (("folds" : Str) == "part") = false by decide +kernel], by simp [List.lookup, show (("inner" : Str) == "part") = false by decide +kernel]⟩
  | fold w s t =>
    obtain ⟨a, dx, x, y, h1, h2, _⟩ := h
    exact ⟨a, dx, _, h1, h2, lk2 (by decide +kernel) (by decide +kernel), lk2 (by decide +kernel) (by decide +kernel)⟩
section
variable {P : Program} {w : World} {K : PySem.W.Frag} {mg : Str → Option Value} {base : Heap}
/-! ### the facts of the classes -/
theorem Txt.clK (T : Txt w K mg) : ∀ k : Kd, Cls K (cA K k)
  | .never => T.cl_Never | .always => T.cl_Always | .letter => T.cl_Letter | .neg => T.cl_Not
  | .w .more => T.cl_More | .w .less => T.cl_Less | .w .greater => T.cl_Greater | .w .lesser => T.cl_Lesser | .w .leads => T.cl_Leads
theorem Txt.na_one (T : Txt w K mg) : ∀ v : Wd, NoAttr K (cA K (.w v)) "one"
  | .more => T.na_More_one | .less => T.na_Less_one | .greater => T.na_Greater_one | .lesser => T.na_Lesser_one | .leads => T.na_Leads_one
theorem Txt.na_other (T : Txt w K mg) : ∀ v : Wd, NoAttr K (cA K (.w v)) "other"
  | .more => T.na_More_other | .less => T.na_Less_other | .greater => T.na_Greater_other | .lesser => T.na_Lesser_other | .leads => T.na_Leads_other
theorem Txt.gK (T : Txt w K mg) : ∀ k : Kd, mg k.cls = some (.ref (cA K k))
  | .never => T.g_Never | .always => T.g_Always | .letter => T.g_Letter | .neg => T.g_Not
  | .w .more => T.g_More | .w .less => T.g_Less | .w .greater => T.g_Greater | .w .lesser => T.g_Lesser | .w .leads => T.g_Leads
theorem Txt.meF (T : Txt w K mg) : ∀ k : Kd, Meth K (cA K k) "folds" (He.ma K (cA K k) "folds")
  | .never => T.me_Never_folds | .always => T.me_Always_folds | .letter => T.me_Letter_folds | .neg => T.me_Not_folds
  | .w .more => T.me_More_folds | .w .less => T.me_Less_folds | .w .greater => T.me_Greater_folds | .w .lesser => T.me_Lesser_folds | .w .leads => T.me_Leads_folds
theorem Txt.mkW (T : Txt w K mg) : ∀ v : Wd, Mk K (cA K (.w v)) (He.ma K (cA K (.w v)) "__init__")
  | .more => T.mk_More | .less => T.mk_Less | .greater => T.mk_Greater | .lesser => T.mk_Lesser | .leads => T.mk_Leads
/-- the parts of exB -/
structure ExB (K : PySem.W.Frag) : Prop where
  one : He.tupB K "ONE" [.int 0, .int 0, .int 1] = true
  leaf : He.tupB K "LEAF" [.str "leaf"] = true
  plain : He.tupB K "PLAIN_rows" [.str "never", .str "always", .str "p", .str "q"] = true
  folds : He.tupB K "FOLDS" [.str "more", .str "less", .str "greater", .str "lesser", .str "leads"] = true
  r0 : intsAtB K (PySem.W.nsIn K (He.ga K "PLAIN_rules") "never") [0, 0, 0] = true
  r1 : intsAtB K (PySem.W.nsIn K (He.ga K "PLAIN_rules") "always") [0, 0, 1] = true
  r2 : intsAtB K (PySem.W.nsIn K (He.ga K "PLAIN_rules") "p") [1, 0, 0] = true
  r3 : intsAtB K (PySem.W.nsIn K (He.ga K "PLAIN_rules") "q") [0, 1, 0] = true
  mN : PySem.W.makesIn K (He.ga K "Never") = true
  mA : PySem.W.makesIn K (He.ga K "Always") = true
  iN : PySem.W.findIn K (.ref (He.ga K "Never")) "__init__" = some (some (.builtin "object.__init__"))
  iA : PySem.W.findIn K (.ref (He.ga K "Always")) "__init__" = some (some (.builtin "object.__init__"))
  c : ∀ x ∈ clsNames, PySem.W.findIn K (.ref (He.ga K x)) "__class__" = some (some (.builtin "object.__class__")) ∧ PySem.W.mroIn K (He.ga K x) (.type "object") = some true
  sg : PySem.W.specialIn K (.builtin "object.__class__") "__get__" = some (some (.builtin "getset_descriptor.__get__"))
  tk : PySem.W.takesIn K (.builtin "object.__class__") = some true
  is4 : ∀ x ∈ clsNames, ∀ y ∈ (["Never", "Always", "Letter", "Not"] : List Str), PySem.W.kitOne K (.ref (He.ga K x)) (.ref (He.ga K y)) = some (decide (x = y))
  is5 : ∀ x ∈ foldNames, ∀ y ∈ foldNames, PySem.W.kitOne K (.ref (He.ga K x)) (.ref (He.ga K y)) = some (decide (x = y))
  mf : ∀ x ∈ foldNames, He.ma K (He.ga K x) "__init__" = He.ma K (He.ga K "Fold") "__init__" ∧ He.ma K (He.ga K x) "folds" = He.ma K (He.ga K "Fold") "folds"
  ms : ∀ x ∈ (["Never", "Always", "Letter", "Not"] : List String), He.ma K (He.ga K x) "folds" = He.ma K (He.ga K "Saying") "folds"
  mi : ∀ x ∈ (["Never", "Always", "Letter"] : List String), He.ma K (He.ga K x) "inner" = He.ma K (He.ga K "Saying") "inner"
theorem Txt.exb (T : Txt w K mg) : ExB K := by
  have h := T.ex
  unfold exB at h
  simp only [Bool.and_eq_true, List.all_eq_true, decide_eq_true_eq, isB] at h
  obtain ⟨h1, h2, h3, h4, h5, h6, h7, h8, h9, h10, h11, h12, h13, h14, h15, h16, h17, h18, h19, h20⟩ := h
  refine ⟨h1, h2, h3, h4, h5, h6, h7, h8, h9, h10, He.eqO_ok h11, He.eqO_ok h12, fun x hx => ⟨He.eqO_ok (h13 x hx).1, (h13 x hx).2⟩, He.eqO_ok h14, h15, fun x hx y hy => ?_, fun x hx y hy => h17 x hx y hy, h18, h19, h20⟩
  obtain ⟨a, b, c, d⟩ := h16 x hx
  rcases List.mem_cons.mp hy with rfl | hy
  · exact a
  rcases List.mem_cons.mp hy with rfl | hy
  · exact b
  rcases List.mem_cons.mp hy with rfl | hy
  · exact c
  rcases List.mem_cons.mp hy with rfl | hy
  · exact d
  cases hy
theorem cls_mem : ∀ k : Kd, k.cls ∈ clsNames
  | .never => by decide +kernel
  | .always => by decide +kernel
  | .letter => by decide +kernel
  | .neg => by decide +kernel
  | .w v => by cases v <;> decide +kernel
theorem fold_mem (v : Wd) : v.cls ∈ foldNames := by cases v <;> decide +kernel
theorem Kd.cls_inj {a b : Kd} : (a.cls = b.cls) ↔ a = b := by
  constructor
  · intro h
    cases a <;> cases b <;> first | rfl | (exfalso; revert h; decide +kernel) | (rename_i x; cases x <;> (exfalso; revert h; decide +kernel)) | (rename_i x y; cases x <;> cases y <;> first | rfl | (exfalso; revert h; decide +kernel))
  · intro h
    rw [h]
/-- which classes are asked of which -/
def asks : Kd → Kd → Bool
  | _, .w _ => false
  | _, _ => true
theorem isT (T : Txt w K mg) {H : Hp} {a dx : Addr} {fs : List (Str × V)} {k : Kd} (e : H a = some (.ins (cA K k) dx fs)) : TyX K H (.ref a) (.ref (cA K k)) := by
  have X := T.exb
  obtain ⟨c1, c2⟩ := X.c _ (cls_mem k)
  exact .base (.ins e (T.clK k) c1 X.sg X.tk c2)
/-- isinstance of Never, Always, Letter, Not -/
theorem isK4 (T : Txt w K mg) {k : Kd} (j : Kd) (hj : asks k j = true := by rfl) : PySem.W.kitOne K (.ref (cA K k)) (.ref (cA K j)) = some (decide (k = j)) := by
  have m : j.cls ∈ (["Never", "Always", "Letter", "Not"] : List Str) := by
    cases j with
    | never => decide +kernel
    | always => decide +kernel
    | letter => decide +kernel
    | neg => decide +kernel
    | w v => cases hj
  rw [T.exb.is4 _ (cls_mem k) _ m]
  exact congrArg some (decide_eq_decide.mpr Kd.cls_inj)
theorem isK5 (T : Txt w K mg) {v : Wd} (u : Wd) : PySem.W.kitOne K (.ref (cA K (.w v))) (.ref (cA K (.w u))) = some (decide (v = u)) := by
  rw [show PySem.W.kitOne K (.ref (cA K (.w v))) (.ref (cA K (.w u))) = some (decide (v.cls = u.cls)) from T.exb.is5 _ (fold_mem v) _ (fold_mem u)]
  refine congrArg some (decide_eq_decide.mpr ?_)
  have := @Kd.cls_inj (.w v) (.w u)
  exact this.trans ⟨fun h => Kd.w.inj h, fun h => by rw [h]⟩
/-! ### the sayings made -/
def spLetter (K : PySem.W.Frag) : Sp := fun vs H Q _ => ∃ p dx s, vs = [.ref p, .str s] ∧ H p = some (.ins (cA K .letter) dx []) ∧ Q .non (upd H p (.ins (cA K .letter) dx [(("name" : Str), .str s)]))
def spNot (K : PySem.W.Frag) : Sp := fun vs H Q _ => ∃ p dx u, vs = [.ref p, u] ∧ H p = some (.ins (cA K .neg) dx []) ∧ Q .non (upd H p (.ins (cA K .neg) dx [(("part" : Str), u)]))
def spFoldI (K : PySem.W.Frag) (v : Wd) : Sp := fun vs H Q _ => ∃ p dx x y, vs = [.ref p, x, y] ∧ H p = some (.ins (cA K (.w v)) dx []) ∧ Q .non (upd H p (.ins (cA K (.w v)) dx [(("one" : Str), x), (("other" : Str), y)]))
theorem mak_Letter (T : Txt w K mg) : C8.Mak P w K mg base 1 "Letter" (cA K .letter) (spLetter K) [] := by
  obtain ⟨fd, F⟩ := T.F_Letter_init
  refine ⟨_, fd, ["self", "name"], [], T.mk_Letter, ?_, T.g_Letter, F.bindsN fun _ _ _ _ _ _ us hl => match us, hl with | [_, _], _ => rfl, .nil⟩
  refine fnD_ok F sc_Letter_init (fun vs H Q E h => ?_) (fun cdv A outer s H vs Q E hr h => ?_)
  · obtain ⟨p, dx, s, rfl, _⟩ := h
    rfl
  obtain ⟨p, dx, s, rfl, hp, q⟩ := h
  refine ⟨_, (pss_one (ps_fld (pv 0) (pv 1) rfl)), ?_⟩
  exact ⟨_, rfl, _, rfl, p, _, dx, _, rfl, hp, T.cl_Letter, T.na_Letter_name, (by show 0 < 1000; decide), q⟩
theorem mak_Not (T : Txt w K mg) : C8.Mak P w K mg base 1 "Not" (cA K .neg) (spNot K) [] := by
  obtain ⟨fd, F⟩ := T.F_Not_init
  refine ⟨_, fd, ["self", "part"], [], T.mk_Not, ?_, T.g_Not, F.bindsN fun _ _ _ _ _ _ us hl => match us, hl with | [_, _], _ => rfl, .nil⟩
  refine fnD_ok F sc_Not_init (fun vs H Q E h => ?_) (fun cdv A outer s H vs Q E hr h => ?_)
  · obtain ⟨p, dx, s, rfl, _⟩ := h
    rfl
  obtain ⟨p, dx, s, rfl, hp, q⟩ := h
  refine ⟨_, (pss_one (ps_fld (pv 0) (pv 1) rfl)), ?_⟩
  exact ⟨_, rfl, _, rfl, p, _, dx, _, rfl, hp, T.cl_Not, T.na_Not_part, (by show 0 < 1000; decide), q⟩
theorem put2 (x y : V) : putF "other" y (putF "one" x []) = [(("one" : Str), x), (("other" : Str), y)] := by
  show (if ("one" : Str) = "other" then [(("one" : Str), y)] else ("one", x) :: putF "other" y []) = [(("one" : Str), x), (("other" : Str), y)]
  rw [if_neg (by decide +kernel)]
  rfl
theorem mak_fold (T : Txt w K mg) (v : Wd) : C8.Mak P w K mg base 1 v.cls (cA K (.w v)) (spFoldI K v) [] := by
  obtain ⟨fd, F⟩ := T.F_Fold_init
  have M := T.mkW v
  rw [show He.ma K (cA K (.w v)) "__init__" = He.ma K (He.ga K "Fold") "__init__" from (T.exb.mf _ (fold_mem v)).1] at M
  refine ⟨_, fd, ["self", "one", "other"], [], M, ?_, T.gK (.w v), F.bindsN fun _ _ _ _ _ _ us hl => match us, hl with | [_, _, _], _ => rfl, .nil⟩
  refine fnD_ok F sc_Fold_init (fun vs H Q E h => ?_) (fun cdv A outer s H vs Q E hr h => ?_)
  · obtain ⟨p, dx, x, y, rfl, _⟩ := h
    rfl
  obtain ⟨p, dx, x, y, rfl, hp, q⟩ := h
  refine ⟨_, (pss_cons (ps_fld (pv 0) (pv 1) rfl)
  (pss_one (ps_fld (pv 0) (pv 2) rfl))), ?_⟩
  refine ⟨_, rfl, _, rfl, p, _, dx, _, rfl, hp, T.clK (.w v), T.na_one v, (by show 0 < 1000; decide), ?_⟩
  refine ⟨_, rfl, _, rfl, p, _, dx, _, rfl, upd_same, T.clK (.w v), T.na_other v, (by show 1 < 1000; decide), ?_⟩
  rw [upd_upd, put2]
  exact q
theorem mko_Never (T : Txt w K mg) : MkO K (cA K .never) := ⟨T.exb.mN, T.exb.iN, (T.exb.c _ (cls_mem .never)).2, T.ke_Never⟩
theorem mko_Always (T : Txt w K mg) : MkO K (cA K .always) := ⟨T.exb.mA, T.exb.iA, (T.exb.c _ (cls_mem .always)).2, T.ke_Always⟩
/-! ### inner, folds -/
inductive Kb where
  | never | always | letter | neg
def Kb.kd : Kb → Kd
  | .never => .never | .always => .always | .letter => .letter | .neg => .neg
/-- what a saying that is no fold is made of -/
def PartsAt (K : PySem.W.Frag) (H : Hp) (p : Addr) (t : Tr) : Prop := ∃ us, H p = some (.lst us) ∧ Paired (SayAt K H) us (kids t)
def spInner (K : PySem.W.Frag) (b : Kb) : Sp := fun vs H Q _ => ∃ v t, vs = [v] ∧ SayAt K H v t ∧ t.kd = b.kd ∧ ∀ p H', Same H H' → PartsAt K H' p t → Q (.ref p) H'
theorem met_inner (T : Txt w K mg) (b : Kb) : C8.Met P w K mg base 1 (cA K b.kd) "inner" (spInner K b) [] := by
  have plain : ∀ (b : Kb), b ≠ .neg → ∀ fd, FunD K "inner" "Saying.inner" (defArgs s_Saying_inner) (defBody s_Saying_inner) (defScope s_Saying_inner) [] [] (He.ma K (He.ga K "Saying") "inner") fd → FnOk P w K mg base L2.CX0 1 (He.ma K (He.ga K "Saying") "inner") fd ["self"] (spInner K b) := fun b hb fd F => by
    refine fnD_ok F sc_Saying_inner (fun vs H Q E h => ?_) (fun cdv A outer s H vs Q E hr h => ?_)
    · obtain ⟨v, t, rfl, _⟩ := h
      rfl
    obtain ⟨v, t, rfl, hv, hk, q⟩ := h
    refine ⟨_, (pss_one (ps_ret (pe_lst pa_nil))), ?_⟩
    refine ⟨Nat.zero_le _, fun p hp => q p _ (same_new hp _) ⟨[], upd_same, ?_⟩⟩
    have e : kids t = [] := by
      cases t <;> first | rfl | (cases b <;> first | (exact absurd rfl hb) | cases hk)
    rw [e]
    exact .nil
  have bd : ∀ {fd}, FunD K "inner" "Saying.inner" (defArgs s_Saying_inner) (defBody s_Saying_inner) (defScope s_Saying_inner) [] [] (He.ma K (He.ga K "Saying") "inner") fd → Binds K fd ["self"] [] := fun F => F.bindsN fun _ _ _ _ _ _ us hl => match us, hl with | [_], _ => rfl
  cases b with
  | never =>
    obtain ⟨fd, F⟩ := T.F_Saying_inner
    have M := T.me_Never_inner
    rw [T.exb.mi "Never" (by decide +kernel)] at M
    exact ⟨_, fd, ["self"], [], T.cl_Never, M, plain .never (fun h => by cases h) fd F, bd F, .nil⟩
  | always =>
    obtain ⟨fd, F⟩ := T.F_Saying_inner
    have M := T.me_Always_inner
    rw [T.exb.mi "Always" (by decide +kernel)] at M
    exact ⟨_, fd, ["self"], [], T.cl_Always, M, plain .always (fun h => by cases h) fd F, bd F, .nil⟩
  | letter =>
    obtain ⟨fd, F⟩ := T.F_Saying_inner
    have M := T.me_Letter_inner
    rw [T.exb.mi "Letter" (by decide +kernel)] at M
    exact ⟨_, fd, ["self"], [], T.cl_Letter, M, plain .letter (fun h => by cases h) fd F, bd F, .nil⟩
  | neg =>
    obtain ⟨fd, F⟩ := T.F_Not_inner
    refine ⟨_, fd, ["self"], [], T.cl_Not, T.me_Not_inner, ?_, F.bindsN fun _ _ _ _ _ _ us hl => match us, hl with | [_], _ => rfl, .nil⟩
    refine fnD_ok F sc_Not_inner (fun vs H Q E h => ?_) (fun cdv A outer s H vs Q E hr h => ?_)
    · obtain ⟨v, t, rfl, _⟩ := h
      rfl
    obtain ⟨v, t, rfl, hv, hk, q⟩ := h
    refine ⟨_, (pss_one (ps_ret (pe_lst (pa_cons (pe_fld (pv 0) rfl) pa_nil)))), ?_⟩
    obtain ⟨t', rfl⟩ : ∃ t', t = .neg t' := by cases t <;> first | exact ⟨_, rfl⟩ | cases hk
    obtain ⟨a, dx, u, rfl, h2, h3⟩ := hv
    refine ⟨_, rfl, a, _, dx, _, u, rfl, h2, T.cl_Not, T.na_Not_part, rfl, (by show 1 ≤ sizeLine; decide), fun p hp => ?_⟩
    exact q p _ (same_new hp _) ⟨[u], upd_same, .cons (h3.mono (same_new hp _)) .nil⟩
theorem kids_len (t : Tr) : (kids t).length ≤ 2 := by cases t <;> simp [kids]
def spFolds (K : PySem.W.Frag) (n : Nat) (k : Kd) : Sp := fun vs H Q _ => ∃ v t, vs = [v] ∧ SayAt K H v t ∧ t.kd = k ∧ t.size ≤ n ∧ ∀ H', Same H H' → Q (.int (t.folds : Nat)) H'
theorem fn_none {k : Nat} {f : Addr} {fd : FuncData} {ps : List Str} {sp : Sp} (no : ∀ vs H Q E, ¬ sp vs H Q E) : FnOk P w K mg base L2.CX0 k f fd ps sp :=
  ⟨fun vs H Q E h => absurd h (no vs H Q E), fun A outer s H args us vs Q E _ _ _ _ h => absurd h (no vs H Q E)⟩
theorem met_folds (T : Txt w K mg) : ∀ (n : Nat) (k : Kd), C8.Met P w K mg base (n + 1) (cA K k) "folds" (spFolds K n k) []
  | 0, k => by
    obtain ⟨fd, F⟩ := T.F_Saying_folds
    have no : ∀ vs H Q E, ¬ spFolds K 0 k vs H Q E := fun vs H Q E h => by
      obtain ⟨v, t, _, _, _, h, _⟩ := h
      have := t.size_pos
      omega
    exact ⟨_, fd, ["self"], [], T.clK k, T.meF k, fn_none no, F.bindsN fun _ _ _ _ _ _ us hl => match us, hl with | [_], _ => rfl, .nil⟩
  | n + 1, k => by
    have c_m_folds := met_folds T n
    have c_m_inner := met_inner (P := P) (base := base) T
    have z_sum := T.z_sum
    have plain : ∀ (kb : Kb) fd, FunD K "folds" "Saying.folds" (defArgs s_Saying_folds) (defBody s_Saying_folds) (defScope s_Saying_folds) [] [] (He.ma K (He.ga K "Saying") "folds") fd → FnOk P w K mg base L2.CX0 (n + 1 + 1) (He.ma K (He.ga K "Saying") "folds") fd ["self"] (spFolds K (n + 1) kb.kd) := fun kb fd F => by
      refine fnD_ok F sc_Saying_folds (fun vs H Q E h => ?_) (fun cdv A outer s H vs Q E hr h => ?_)
      · obtain ⟨v, t, rfl, _⟩ := h
        rfl
      obtain ⟨v, t, rfl, hv, hk, hs, q⟩ := h
      refine ⟨_, (pss_one (ps_ret (pe_callB (cr_sum rfl) (by rfl) z_sum b_sum (pa_cons (pe_lc (own := [("part", 1)]) (g := gName 1) (tt := tYes) rfl sc_Saying_folds.nd (pi_list (PE_ex fun kd => C8.pe_mt0 (c_m_inner kd) hr (by omega) (pv 0))) (blkOk_by (own := [("part", 1)]) (N := ["self", "part"]) (sc := defScope s_Saying_folds) (by decide +kernel)) (fun _ _ _ _ _ => (pg_name (i := 1) sc_Saying_folds.nd rfl (Or.inl rfl))) (fun _ _ _ _ _ => pts_nil) (fun _ _ _ _ _ => (PE_ex fun kd => C8.pe_mt0 (c_m_folds kd) hr (by omega) (pv 1)))) pa_nil)))), ?_⟩
      obtain ⟨a, dx, fs, rfl, hi, l1, l2⟩ := hv.ins
      rw [hk] at hi
      refine ⟨kb, _, rfl, a, dx, fs, rfl, hi, l2, _, t, rfl, hv, hk, fun p H1 s1 ⟨us, e1, e2⟩ => ⟨p, rfl, ⟨_, SqL.of e1⟩, fun D hD => ?_⟩⟩
      refine lcL (K := K) (a := p) (xs := us) ((kids t).map fun c => V.int (c.folds : Nat)) hD (SqL.of e1) (by rw [List.length_map, e2.length]) ?_ (fun i x z H' hx hz s2 Q' hq => ?_) fun H2 s2 hd => ?_
      · rw [List.length_map]
        exact Nat.le_trans (kids_len t) (by decide)
      · obtain ⟨c, hc, cx⟩ := Paired.at1 e2 hx
        rw [List.getElem?_map, hc] at hz
        obtain ⟨a2, dx2, fs2, rfl, hi2, l3, l4⟩ := cx.ins
        have mc : c ∈ kids t := List.mem_of_getElem? hc
        have sc : c.size ≤ n := by
          cases t with
          | neg t' => rw [List.mem_singleton.mp mc]; simp only [Tr.size] at hs; omega
          | fold w s t' => cases kb <;> cases hk
          | _ => cases mc
        refine ⟨c.kd, _, rfl, a2, dx2, fs2, rfl, s2 _ _ hi2, l3, _, c, rfl, cx.mono s2, rfl, sc, fun H3 s3 => ?_⟩
        have := hq H3 s3
        rw [← Option.some.inj hz] at this
        exact this
      · refine ⟨D, (kids t).map fun c => (c.folds : Int), rfl, SqL.of (by rw [hd, List.map_map]; rfl), ?_⟩
        have e : ((kids t).map fun c => (c.folds : Int)).sum = (t.folds : Nat) := by
          cases t with
          | neg t' => simp [kids, Tr.folds]
          | fold w s t' => cases kb <;> cases hk
          | _ => rfl
        rw [e]
        exact q H2 (s1.trans s2)
    have bd : ∀ {fd}, FunD K "folds" "Saying.folds" (defArgs s_Saying_folds) (defBody s_Saying_folds) (defScope s_Saying_folds) [] [] (He.ma K (He.ga K "Saying") "folds") fd → Binds K fd ["self"] [] := fun F => F.bindsN fun _ _ _ _ _ _ us hl => match us, hl with | [_], _ => rfl
    cases k with
    | never =>
      obtain ⟨fd, F⟩ := T.F_Saying_folds
      have M := T.me_Never_folds
      rw [T.exb.ms "Never" (by decide +kernel)] at M
      exact ⟨_, fd, ["self"], [], T.cl_Never, M, plain .never fd F, bd F, .nil⟩
    | always =>
      obtain ⟨fd, F⟩ := T.F_Saying_folds
      have M := T.me_Always_folds
      rw [T.exb.ms "Always" (by decide +kernel)] at M
      exact ⟨_, fd, ["self"], [], T.cl_Always, M, plain .always fd F, bd F, .nil⟩
    | letter =>
      obtain ⟨fd, F⟩ := T.F_Saying_folds
      have M := T.me_Letter_folds
      rw [T.exb.ms "Letter" (by decide +kernel)] at M
      exact ⟨_, fd, ["self"], [], T.cl_Letter, M, plain .letter fd F, bd F, .nil⟩
    | neg =>
      obtain ⟨fd, F⟩ := T.F_Saying_folds
      have M := T.me_Not_folds
      rw [T.exb.ms "Not" (by decide +kernel)] at M
      exact ⟨_, fd, ["self"], [], T.cl_Not, M, plain .neg fd F, bd F, .nil⟩
    | w v =>
      obtain ⟨fd, F⟩ := T.F_Fold_folds
      have M := T.meF (.w v)
      rw [show He.ma K (cA K (.w v)) "folds" = He.ma K (He.ga K "Fold") "folds" from (T.exb.mf _ (fold_mem v)).2] at M
      refine ⟨_, fd, ["self"], [], T.clK (.w v), M, ?_, F.bindsN fun _ _ _ _ _ _ us hl => match us, hl with | [_], _ => rfl, .nil⟩
      refine fnD_ok F sc_Fold_folds (fun vs H Q E h => ?_) (fun cdv A outer s H vs Q E hr h => ?_)
      · obtain ⟨v, t, rfl, _⟩ := h
        rfl
      obtain ⟨z, t, rfl, hv, hk, hs, q⟩ := h
      refine ⟨_, (pss_one (ps_ret (pe_op op_add (pe_op op_add pe_int (PE_ex fun kd => C8.pe_mt0 (c_m_folds kd) hr (by omega) (pe_fld (pv 0) rfl))) (PE_ex fun kd => C8.pe_mt0 (c_m_folds kd) hr (by omega) (pe_fld (pv 0) rfl))))), ?_⟩
      obtain ⟨x, y, rfl⟩ : ∃ x y, t = .fold v x y := by
        cases t <;> first | cases hk | skip
        exact ⟨_, _, rfl⟩
      obtain ⟨a, dx, ux, uy, rfl, hi, hx, hy⟩ := hv
      simp only [Tr.size] at hs
      obtain ⟨a2, dx2, fs2, rfl, hi2, l3, _⟩ := hx.ins
      obtain ⟨a3, dx3, fs3, rfl, hi3, l5, _⟩ := hy.ins
      refine ⟨x.kd, _, rfl, a, _, dx, _, _, rfl, hi, T.clK (.w v), T.na_one v, rfl, a2, dx2, fs2, rfl, hi2, l3, _, x, rfl, hx, rfl, by omega, fun H1 s1 => ?_⟩
      refine ⟨1, _, rfl, rfl, ?_⟩
      refine ⟨y.kd, _, rfl, a, _, dx, _, _, rfl, s1 _ _ hi, T.clK (.w v), T.na_other v, rfl, a3, dx3, fs3, rfl, s1 _ _ hi3, l5, _, y, rfl, hy.mono s1, rfl, by omega, fun H2 s2 => ?_⟩
      refine ⟨_, _, rfl, rfl, ?_⟩
      have e : (1 : Int) + (x.folds : Nat) + (y.folds : Nat) = ((x.folds + y.folds + 1 : Nat) : Int) := by omega
      have q2 := q H2 (s1.trans s2)
      show Q (V.int ((1 : Int) + (x.folds : Nat) + (y.folds : Nat))) H2
      rw [e]
      exact q2
end
end K55

namespace K55
open PySem PySem.Spec PyProof.Rows L2
/-! ### helpers -/
theorem cut1 (x : V) (xs : List V) : cutV (x :: xs) (some 1) none = xs := by
  unfold cutV
  rw [show HT.sIx (x :: xs).length 0 (some 1) = min 1 (x :: xs).length from HT.sIx_nat _ 0 1, HT.sIx_none]
  rw [show min 1 (x :: xs).length = 1 by rw [List.length_cons]; omega]
  show List.take ((x :: xs).length - 1) xs = xs
  rw [List.length_cons, Nat.add_sub_cancel]
  exact List.take_length
theorem cut1_part (x : V) (xs : List V) : ¬ (HT.sIx (x :: xs).length 0 (some 1) = 0 ∧ HT.sIx (x :: xs).length (x :: xs).length none = (x :: xs).length) := by
  rw [show HT.sIx (x :: xs).length 0 (some 1) = min 1 (x :: xs).length from HT.sIx_nat _ 0 1, List.length_cons]
  omega
/-- for i, x in enumerate(list) -/
theorem for_enum {K : PySem.W.Frag} {a : Addr} {xs : List V} {g : TG} {tb : TS} {D : Ends} {σ : L2.St} {H : Hp} (Pv : Nat → L2.St → Hp → Prop) (h0 : Pv 0 σ H) (hl : ∀ i σ H, i ≤ xs.length → Pv i σ H → SqL K H a xs)
    (hs : ∀ (i : Nat) (x : V) (T : Addr) σ H, xs[i]? = some x → Pv i σ H → H T = none → g (.ref T) σ (upd H T (.tup [.int (i : Nat), x])) fun σ2 H2 => tb { D with nx := Pv (i + 1), ct := Pv (i + 1), bk := D.nx } σ2 H2) (hd : ∀ σ H, Pv xs.length σ H → D.nx σ H) :
    ∃ W : Nat → Nat → L2.St → Hp → Prop, (∃ m, W 0 m σ H) ∧ ∀ i m σ H, W i m σ H →
      ((Ite K a).stop i H ∧ D.nx σ H) ∨ ((Ite K a).go i H ∧ ∃ N : L2.St → Hp → Prop, (∀ σ' H', N σ' H' → ∃ m', m' < m ∧ W (i + 1) m' σ' H') ∧ ∀ x H', (Ite K a).yld i H x H' → g x σ H' fun σ2 H2 => tb { D with nx := N, ct := N, bk := D.nx } σ2 H2) := by
  refine ⟨fun i m σ H => m = xs.length - i ∧ i ≤ xs.length ∧ Pv i σ H, ⟨xs.length, by simp, Nat.zero_le _, h0⟩, ?_⟩
  rintro i m σ H ⟨rfl, hi, p⟩
  have q := hl i σ H hi p
  by_cases hlt : i < xs.length
  · have ex : xs[i]? = some xs[i] := List.getElem?_eq_getElem hlt
    refine .inr ⟨⟨xs, xs[i], q, ex⟩, Pv (i + 1), fun σ' H' p' => ⟨xs.length - (i + 1), by omega, rfl, hlt, p'⟩, fun x H' y => ?_⟩
    obtain ⟨T, z, rfl, hT, rfl, hz⟩ := y
    have e := hz xs q
    exact hs i z T σ H e p hT
  · have e : i = xs.length := by omega
    subst e
    exact .inl ⟨⟨xs, q, Nat.le_refl _⟩, hd σ H p⟩
/-! ### rows in the heap -/
def RowAt (H : Hp) (v : V) (k : Row) : Prop := ∃ a, v = .ref a ∧ H a = some (.tup (k.map kV))
theorem RowAt.mono {H H' : Hp} {v : V} {k : Row} (e : Same H H') (h : RowAt H v k) : RowAt H' v k := by
  obtain ⟨a, e1, h1⟩ := h
  exact ⟨a, e1, e _ _ h1⟩
/-- instances and tuples are kept -/
structure Keep (H H' : Hp) : Prop where
  i : ∀ b C dx fs, H b = some (.ins C dx fs) → H' b = some (.ins C dx fs)
  t : ∀ b xs, H b = some (.tup xs) → H' b = some (.tup xs)
theorem Keep.refl (H : Hp) : Keep H H := ⟨fun _ _ _ _ h => h, fun _ _ h => h⟩
theorem Keep.trans {H H1 H2 : Hp} (a : Keep H H1) (b : Keep H1 H2) : Keep H H2 := ⟨fun c C dx fs h => b.i c C dx fs (a.i c C dx fs h), fun c xs h => b.t c xs (a.t c xs h)⟩
theorem Keep.of {H H' : Hp} (e : Same H H') : Keep H H' := ⟨fun b _ _ _ h => e b _ h, fun b _ h => e b _ h⟩
theorem Keep.lst {H : Hp} {L : Addr} {xs ys : List V} (h : H L = some (.lst xs)) : Keep H (upd H L (.lst ys)) :=
  ⟨fun b C dx fs e => by rw [upd_ne (ne_of e h (fun z => by cases z))]; exact e, fun b xs e => by rw [upd_ne (ne_of e h (fun z => by cases z))]; exact e⟩
theorem Keep.dT {H : Hp} {L : Addr} {xs ys : List (List Key × V)} (h : H L = some (.dT xs)) : Keep H (upd H L (.dT ys)) :=
  ⟨fun b C dx fs e => by rw [upd_ne (ne_of e h (fun z => by cases z))]; exact e, fun b xs e => by rw [upd_ne (ne_of e h (fun z => by cases z))]; exact e⟩
theorem RowAt.keep {H H' : Hp} {v : V} {k : Row} (e : Keep H H') (h : RowAt H v k) : RowAt H' v k := by
  obtain ⟨a, e1, h1⟩ := h
  exact ⟨a, e1, e.t _ _ h1⟩
theorem SayAt.keep {K : PySem.W.Frag} {H H' : Hp} (e : Keep H H') : ∀ {t : Tr} {v : V}, SayAt K H v t → SayAt K H' v t
  | .never, _, ⟨a, dx, h1, h2⟩ => ⟨a, dx, h1, e.i _ _ _ _ h2⟩
  | .always, _, ⟨a, dx, h1, h2⟩ => ⟨a, dx, h1, e.i _ _ _ _ h2⟩
  | .p, _, ⟨a, dx, h1, h2⟩ => ⟨a, dx, h1, e.i _ _ _ _ h2⟩
  | .q, _, ⟨a, dx, h1, h2⟩ => ⟨a, dx, h1, e.i _ _ _ _ h2⟩
  | .neg _, _, ⟨a, dx, u, h1, h2, h3⟩ => ⟨a, dx, u, h1, e.i _ _ _ _ h2, SayAt.keep e h3⟩
  | .fold _ _ _, _, ⟨a, dx, x, y, h1, h2, h3, h4⟩ => ⟨a, dx, x, y, h1, e.i _ _ _ _ h2, SayAt.keep e h3, SayAt.keep e h4⟩
/-- all but what stands at R and D -/
def Fr2 (R D : Addr) (H H' : Hp) : Prop := ∀ b o, H b = some o → b ≠ R → b ≠ D → H' b = some o
theorem Fr2.trans {R D : Addr} {H H1 H2 : Hp} (a : Fr2 R D H H1) (b : Fr2 R D H1 H2) : Fr2 R D H H2 := fun c o h n1 n2 => b c o (a c o h n1 n2) n1 n2
theorem Fr2.of {R D : Addr} {H H' : Hp} (e : Same H H') : Fr2 R D H H' := fun b o h _ _ => e b o h
/-- a row's form: a word, numbers of rows ahead -/
def plainW : List Str := ["never", "always", "p", "q"]
def foldW : List Str := ["more", "less", "greater", "lesser", "leads"]
theorem plain_fold : ∀ s, s ∈ plainW → ¬ s ∈ foldW := by decide +kernel
structure GoodRow (k : Row) (i : Nat) : Prop where
  ex : ∃ (s : Str) (ns : List Nat), k = .inr s :: ns.map (fun (n : Nat) => Sum.inl (n : Int)) ∧ (∀ n, n ∈ ns → n < i) ∧ ((s ∈ plainW ∧ ns.length = 0) ∨ (s = "not" ∧ ns.length = 1) ∨ (s ∈ foldW ∧ ns.length = 2))
theorem good_row {L : List Tr} (C : Cl L) {i : Nat} {t : Tr} (h : L[i]? = some t) : GoodRow (t.enc (ix L)) i := by
  have kid := C.kid i t
  cases t with
  | never => exact ⟨"never", [], rfl, (fun _ z => nomatch z), .inl ⟨by decide +kernel, rfl⟩⟩
  | always => exact ⟨"always", [], rfl, (fun _ z => nomatch z), .inl ⟨by decide +kernel, rfl⟩⟩
  | p => exact ⟨"p", [], rfl, (fun _ z => nomatch z), .inl ⟨by decide +kernel, rfl⟩⟩
  | q => exact ⟨"q", [], rfl, (fun _ z => nomatch z), .inl ⟨by decide +kernel, rfl⟩⟩
  | neg a => exact ⟨_, [ix L a], rfl, (fun n z => by rw [List.mem_singleton.mp z]; exact (kid a h (List.mem_singleton.mpr rfl)).2), .inr (.inl ⟨rfl, rfl⟩)⟩
  | fold w a b =>
    refine ⟨w.str, [ix L a, ix L b], rfl, (fun n z => ?_), .inr (.inr ⟨by cases w <;> decide +kernel, rfl⟩)⟩
    rcases List.mem_cons.mp z with rfl | z
    · exact (kid a h (List.mem_cons_self ..)).2
    · rw [List.mem_singleton.mp z]
      exact (kid b h (List.mem_cons_of_mem _ (List.mem_singleton.mpr rfl))).2
def strsV (l : List Str) : List V := l.map V.str
theorem inV_strs {s : Str} : ∀ l : List Str, inV (.str s) (strsV l) = decide (s ∈ l)
  | [] => by simp [strsV, inV]
  | x :: l => by
    have ih := inV_strs (s := s) l
    show (eqV (.str x) (.str s) || inV (.str s) (strsV l)) = _
    rw [ih]
    show ((x == s) || decide (s ∈ l)) = decide (s ∈ x :: l)
    by_cases e : x = s
    · subst e
      simp
    · rw [show (x == s) = false from beq_eq_false_iff_ne.mpr e, Bool.false_or]
      refine decide_eq_decide.mpr ?_
      rw [List.mem_cons]
      constructor
      · exact .inr
      · rintro (h | h)
        · exact absurd h.symm e
        · exact h
theorem flat_strs (l : List Str) : (strsV l).all flatV = true := by
  unfold strsV
  rw [List.all_map]
  exact List.all_eq_true.mpr fun _ _ => rfl
theorem sqt_tup {K : PySem.W.Frag} {H : Hp} {x : Str} {vs : List He.Dv} (h : He.tupB K x vs = true) : SqT K H (He.ga K x) (vs.map (He.Dv.v K)) := He.tupB_ok h H
section
variable {P : Program} {w : World} {K : PySem.W.Frag} {mg : Str → Option Value} {base : Heap}
/-! ### isinstance of built-in classes -/
theorem ty_tup {H : Hp} {a : Addr} {xs : List V} (h : SqT K H a xs) : TyX K H (.ref a) (.type "tuple") := by
  rcases h with (h | ⟨o, h⟩) | ⟨o, its, n, h1, h2, _⟩
  · exact .base (.tup h)
  · exact .fTuple h
  · exact .kTuple h1 h2
/-! ### is_place, is_row -/
def spIsPlace : Sp := fun vs H Q _ => ∃ n i : Int, vs = [.int n, .int i] ∧ 0 ≤ n ∧ n < i ∧ Q (.bl true) H
theorem c_is_place (T : Txt w K mg) : C8.Cal P w K mg base 1 "is_place" spIsPlace [] := T.cal_is_place fun fd F => by
  have z_isinstance := T.z_isinstance
  have z_int := T.z_int
  have z_bool := T.z_bool
  refine fnD_ok F sc_is_place (fun vs H Q E h => ?_) (fun cdv A outer s H vs Q E hr h => ?_)
  · obtain ⟨n, i, rfl, _⟩ := h
    rfl
  obtain ⟨n, i, rfl, h0, h1, q⟩ := h
  refine ⟨_, (pss_one (ps_ret (pe_and (pe_callB call_isi (by rfl) z_isinstance b_isinstance (pa_cons (pv 0) (pa_cons (pe_bltn (v := .ty "int") (by rfl) z_int b_int rfl) pa_nil))) (pe_and (pe_not (pe_callB call_isi (by rfl) z_isinstance b_isinstance (pa_cons (pv 0) (pa_cons (pe_bltn (v := .ty "bool") (by rfl) z_bool b_bool rfl) pa_nil)))) (pe_one (pe_chain op_le op_lt pe_int (pv 0) (pv 1))))))), ?_⟩
  refine ⟨_, rfl, _, _, _, _, true, rfl, .ty _, (.base (.int n)), kit_ty (by decide +kernel), _, rfl, iteT ?_⟩
  refine ⟨_, rfl, _, _, _, _, false, rfl, .ty _, (.base (.int n)), kit_ty (by decide +kernel), _, rfl, _, rfl, iteT ?_⟩
  refine ⟨_, rfl, _, _, rfl, rfl, _, rfl, ?_⟩
  rw [decide_eq_true h0]
  refine iteT ⟨_, rfl, _, _, rfl, rfl, ?_⟩
  have e : decide (n < i) = true := decide_eq_true h1
  show Q (.bl (decide (n < i))) H
  rw [e]
  exact q
def spIsRow : Sp := fun vs H Q _ => ∃ v k i, vs = [v, .int (i : Nat)] ∧ RowAt H v k ∧ GoodRow k i ∧ ∀ H', Same H H' → Q (.bl true) H'
theorem c_is_row (T : Txt w K mg) : C8.Cal P w K mg base 2 "is_row" spIsRow [] := T.cal_is_row fun fd F => by
  have c_is_place := c_is_place (P := P) (base := base) T
  have z_isinstance := T.z_isinstance
  have z_tuple := T.z_tuple
  have z_str := T.z_str
  have z_len := T.z_len
  have z_all := T.z_all
  have g_PLAIN_rows := T.g_PLAIN_rows
  have g_FOLDS := T.g_FOLDS
  refine fnD_ok F sc_is_row (fun vs H Q E h => ?_) (fun cdv A outer s H vs Q E hr h => ?_)
  · obtain ⟨v, k, i, rfl, _⟩ := h
    rfl
  obtain ⟨v, k, i, rfl, ⟨a, rfl, ha⟩, ⟨s, ns, rfl, hn, hc⟩, q⟩ := h
  have hT : SqT K H a (.str s :: ns.map fun (n : Nat) => V.int (n : Nat)) := SqT.of (by rw [ha, List.map_cons, List.map_map]; rfl)
  refine ⟨_, (pss_cons (ps_if (PW.pt (pw_or (pt_not (pt_val (pe_callB call_isi (by rfl) z_isinstance b_isinstance (pa_cons (pv 0) (pa_cons (pe_bltn (v := .ty "tuple") (by rfl) z_tuple b_tuple rfl) pa_nil))))) (pw_or (pt_cmpR op_eq (pe_callB call_len_seq (by rfl) z_len b_len (pa_cons (pv 0) pa_nil)) pe_int (nomark _)) (pw_or1 (pt_not (pt_val (pe_callB call_isi (by rfl) z_isinstance b_isinstance (pa_cons (pe_ix (r := rIxT K) ix_tup (pv 0) pe_int (fun _ _ => rfl)) (pa_cons (pe_bltn (v := .ty "str") (by rfl) z_str b_str rfl) pa_nil))))))))) (pss_one (ps_ret pe_bl)) pss_nil)
  (pss_cons (ps_set (i := 2) sc_is_row.nd rfl (Or.inl rfl) pe_int)
  (C8.pss_cut (ps_if (pt_cmpR op_in_seq (pe_ix (r := rIxT K) ix_tup (pv 0) pe_int (fun _ _ => rfl)) (pe_glob (v := .ref (He.ga K "PLAIN_rows")) (by rfl) g_PLAIN_rows rfl) (by rfl)) (pss_one (ps_set (i := 2) sc_is_row.nd rfl (Or.inl rfl) pe_int)) (pss_one (ps_if (pt_cmpR op_eq (pe_ix (r := rIxT K) ix_tup (pv 0) pe_int (fun _ _ => rfl)) pe_str (nomark _)) (pss_one (ps_set (i := 2) sc_is_row.nd rfl (Or.inl rfl) pe_int)) (pss_one (ps_if (pt_cmpR op_in_seq (pe_ix (r := rIxT K) ix_tup (pv 0) pe_int (fun _ _ => rfl)) (pe_glob (v := .ref (He.ga K "FOLDS")) (by rfl) g_FOLDS rfl) (by rfl)) (pss_one (ps_set (i := 2) sc_is_row.nd rfl (Or.inl rfl) pe_int)) pss_nil)))))
  (pss_one (ps_ret (pe_and (pe_cmpR op_eq (pe_callB call_len_seq (by rfl) z_len b_len (pa_cons (pv 0) pa_nil)) (pv 2) (nomark _)) (pe_one (pe_callB (cr_all rfl) (by rfl) z_all b_all (pa_cons (pe_lc (own := [("number", 3)]) (g := gName 3) (tt := tYes) rfl sc_is_row.nd (pi_tup (pe_slice sl_tup (pv 0) (po_some pe_int) po_none)) (blkOk_by (own := [("number", 3)]) (N := ["thing", "at", "size", "number"]) (sc := defScope s_is_row) (by decide +kernel)) (fun _ _ _ _ _ => (pg_name (i := 3) sc_is_row.nd rfl (Or.inl rfl))) (fun _ _ _ _ _ => pts_nil) (fun _ _ _ _ _ => (C8.pe_c c_is_place hr (by omega) (by rfl) (pa_cons (pv 3) (pa_cons (pv 1) pa_nil))))) pa_nil))))))))), ?_⟩
  -- the guard
  refine ⟨_, rfl, _, _, _, _, true, rfl, .ty _, (ty_tup hT), kit_ty (by decide +kernel), _, rfl, iteF ?_⟩
  refine ⟨_, rfl, a, _, rfl, .inr hT, rfl, _, rfl, ?_⟩
  rw [decide_eq_false (show ¬ V.int ((((V.str s :: ns.map fun (n : Nat) => V.int (n : Nat)).length : Nat)) : Int) = V.int 0 from fun z => by have := V.int.inj z; rw [List.length_cons] at this; omega)]
  refine iteF ⟨_, rfl, a, _, _, _, rfl, rfl, hT, at_of (j := 0) rfl rfl, _, _, _, _, true, rfl, .ty _, (.base (.str s)), kit_ty (by decide +kernel), _, rfl, iteF ?_⟩
  -- size
  refine ⟨fun σ' H' => σ' = [some (.ref a), some (.int (i : Nat)), some (.int ((ns.length + 1 : Nat) : Int)), none] ∧ H = H', ?_, ?_⟩
  · have pl : SqT K H (He.ga K "PLAIN_rows") (strsV plainW) := sqt_tup T.exb.plain
    have fo : SqT K H (He.ga K "FOLDS") (strsV foldW) := sqt_tup T.exb.folds
    refine ⟨_, rfl, a, _, _, _, rfl, rfl, hT, at_of (j := 0) rfl rfl, _, _, rfl, .inr pl, rfl, flat_strs _, ?_⟩
    rw [inV_strs]
    refine ⟨_, rfl, ite2 (fun c => ?_) fun c => ?_⟩
    · have c' : s ∈ plainW := of_decide_eq_true c
      have l0 : ns.length = 0 := by
        rcases hc with h | h | h
        · exact h.2
        · rw [h.1] at c'
          exact absurd c' (by decide +kernel)
        · exact absurd h.1 (plain_fold s c')
      exact ⟨by rw [l0]; rfl, rfl⟩
    · have c' : ¬ s ∈ plainW := of_decide_eq_false (Bool.eq_false_iff.mpr c)
      refine ⟨_, rfl, a, _, _, _, rfl, rfl, hT, at_of (j := 0) rfl rfl, rfl, _, rfl, ite2 (fun e => ?_) fun e => ?_⟩
      · have e' : s = "not" := V.str.inj (of_decide_eq_true e)
        have l1 : ns.length = 1 := by
          rcases hc with h | h | h
          · exact absurd h.1 c'
          · exact h.2
          · rw [e'] at h
            exact absurd h.1 (by decide +kernel)
        exact ⟨by rw [l1]; rfl, rfl⟩
      · have e' : ¬ s = "not" := fun z => of_decide_eq_false (Bool.eq_false_iff.mpr e) (by rw [z])
        have l2 : s ∈ foldW ∧ ns.length = 2 := by
          rcases hc with h | h | h
          · exact absurd h.1 c'
          · exact absurd h.1 e'
          · exact h
        refine ⟨_, rfl, a, _, _, _, rfl, rfl, hT, at_of (j := 0) rfl rfl, _, _, rfl, .inr fo, rfl, flat_strs _, ?_⟩
        rw [inV_strs]
        refine ⟨_, rfl, ?_⟩
        rw [decide_eq_true l2.1]
        exact iteT ⟨by rw [l2.2]; rfl, rfl⟩
  · rintro σ' H' ⟨rfl, rfl⟩
    refine ⟨_, rfl, a, _, rfl, .inr hT, _, rfl, rfl, _, rfl, ?_⟩
    rw [decide_eq_true (show V.int ((((V.str s :: ns.map fun (n : Nat) => V.int (n : Nat)).length : Nat)) : Int) = V.int ((ns.length + 1 : Nat) : Int) by rw [List.length_cons, List.length_map])]
    refine iteT ⟨_, rfl, 1, rfl, a, _, rfl, hT, cut1_part _ _, fun p hp => ?_⟩
    rw [cut1]
    have s1 := same_new hp (.tup (ns.map fun (n : Nat) => V.int (n : Nat)))
    refine ⟨p, rfl, ⟨_, SqT.of upd_same⟩, fun D hD => lcT (K := K) (a := p) (xs := ns.map fun (n : Nat) => V.int (n : Nat)) (ns.map fun _ => V.bl true) hD (SqT.of upd_same) (by rw [List.length_map, List.length_map]) ?_ (fun j x y H' hx hy s2 Q' hq => ?_) fun H' s2 hd => ?_⟩
    · rw [List.length_map]
      rcases hc with h | h | h <;> omega
    · rw [List.getElem?_map] at hx hy
      cases e : ns[j]? with
      | none =>
        rw [e] at hx
        cases hx
      | some n =>
        rw [e] at hx hy
        cases hx
        cases hy
        have := hn n (List.mem_of_getElem? e)
        exact ⟨_, rfl, _, rfl, _, _, rfl, by omega, by omega, hq H' (Same.refl _)⟩
    · refine ⟨D, ns.map fun _ => true, rfl, SqL.of (by rw [hd, List.map_map]; rfl), ?_⟩
      have e : ((ns.map fun _ => true).all id) = true := by
        rw [List.all_map]
        exact List.all_eq_true.mpr fun _ _ => rfl
      rw [e]
      exact q H' (s1.trans s2)
/-! ### rows_fault -/
def spFault (K : PySem.W.Frag) : Sp := fun vs H Q _ => ∃ a rs ks, vs = [.ref a] ∧ SqL K H a rs ∧ Paired (RowAt H) rs ks ∧ 0 < ks.length ∧ ks.length ≤ 100 ∧ (∀ i k, ks[i]? = some k → GoodRow k i) ∧ ∀ H', Same H H' → Q .non H'
theorem c_rows_fault (T : Txt w K mg) : C8.Cal P w K mg base 3 "rows_fault" (spFault K) [] := T.cal_rows_fault fun fd F => by
  have c_is_row := c_is_row (P := P) (base := base) T
  have z_len := T.z_len
  have z_enumerate := T.z_enumerate
  obtain ⟨tM, h_MOST⟩ := T.h_MOST
  refine fnD_ok F sc_rows_fault (fun vs H Q E h => ?_) (fun cdv A outer s H vs Q E hr h => ?_)
  · obtain ⟨a, rs, ks, rfl, _⟩ := h
    rfl
  obtain ⟨a, rs, ks, rfl, hS, hP, h0, h100, hg, q⟩ := h
  have hl := hP.length
  refine ⟨_, (pss_cons (ps_if (pt_cmpR op_eq (pe_callB call_len_seq (by rfl) z_len b_len (pa_cons (pv 0) pa_nil)) pe_int (nomark _)) (pss_one (ps_ret pe_int)) pss_nil)
  (pss_cons (ps_for PassesOwn.never rfl (pi_enum (by rfl) z_enumerate (pa_cons (pv 0) pa_nil)) (pg_tup rfl (pgs_cons (pg_name (i := 1) sc_rows_fault.nd rfl (Or.inl rfl)) (pgs_cons (pg_name (i := 2) sc_rows_fault.nd rfl (Or.inl rfl)) pgs_nil))) (pss_one (ps_if (PW.pt (pw_or (pt_cmpR op_ge (pv 1) (pe_glob (v := .int 400) (by rfl) h_MOST ⟨_, rfl⟩) (nomark _)) (pw_or1 (pt_not (pt_val (C8.pe_c c_is_row hr (by omega) (by rfl) (pa_cons (pv 2) (pa_cons (pv 1) pa_nil)))))))) (pss_one (ps_ret (pv 1))) pss_nil)))
  (pss_one (ps_ret pe_non)))), ?_⟩
  refine ⟨_, rfl, a, _, rfl, .inl hS, rfl, _, rfl, ?_⟩
  rw [decide_eq_false (show ¬ V.int ((rs.length : Nat) : Int) = V.int 0 from fun z => by have := V.int.inj z; omega)]
  refine iteF ⟨_, rfl, a, _, rfl, hS, for_enum (K := K) (a := a) (xs := rs) (fun i σ H' => ∃ x1 x2, σ = [some (.ref a), x1, x2] ∧ Same H H') ⟨none, none, rfl, Same.refl _⟩ (fun i σ H' _ ⟨_, _, _, s⟩ => s.seq hS) (fun i x Tp σ H' hx hp hT => ?_) fun σ H' hp => ?_⟩
  · obtain ⟨x1, x2, rfl, s1⟩ := hp
    obtain ⟨k, hk, kx⟩ := Paired.at1 hP hx
    have s2 := same_new hT (.tup [.int (i : Nat), x])
    have hi : i < ks.length := (List.getElem?_eq_some_iff.mp hk).1
    refine ⟨Tp, _, rfl, SqT.of upd_same, rfl, _, _, rfl, _, _, rfl, rfl, ?_⟩
    refine ⟨_, rfl, _, _, rfl, rfl, _, rfl, ?_⟩
    rw [decide_eq_false (show ¬ (400 : Int) ≤ (i : Nat) by omega)]
    refine iteF ⟨_, rfl, _, rfl, x, k, i, rfl, kx.mono (s1.trans s2), hg i k hk, fun H2 s3 => ⟨_, rfl, iteF ?_⟩⟩
    exact ⟨_, _, rfl, (s1.trans s2).trans s3⟩
  · obtain ⟨x1, x2, rfl, s1⟩ := hp
    exact q H' s1
/-! ### word_of, place_of -/
def spWord (K : PySem.W.Frag) : Sp := fun vs H Q _ => ∃ a dx fs v, vs = [.ref a] ∧ H a = some (.ins (cA K (.w v)) dx fs) ∧ Q (.str v.str) H
theorem c_word_of (T : Txt w K mg) : C8.Cal P w K mg base 1 "word_of" (spWord K) [] := T.cal_word_of fun fd F => by
  have z_isinstance := T.z_isinstance
  have g_More := T.g_More
  have g_Less := T.g_Less
  have g_Greater := T.g_Greater
  have g_Lesser := T.g_Lesser
  have g_Leads := T.g_Leads
  refine fnD_ok F sc_word_of (fun vs H Q E h => ?_) (fun cdv A outer s H vs Q E hr h => ?_)
  · obtain ⟨a, dx, fs, v, rfl, _⟩ := h
    rfl
  obtain ⟨a, dx, fs, v, rfl, hi, q⟩ := h
  refine ⟨_, (pss_cons (ps_if (pt_val (pe_callB call_isi (by rfl) z_isinstance b_isinstance (pa_cons (pv 0) (pa_cons (pe_glob (v := .ref (He.ga K "More")) (by rfl) g_More rfl) pa_nil)))) (pss_one (ps_ret pe_str)) pss_nil)
  (pss_cons (ps_if (pt_val (pe_callB call_isi (by rfl) z_isinstance b_isinstance (pa_cons (pv 0) (pa_cons (pe_glob (v := .ref (He.ga K "Less")) (by rfl) g_Less rfl) pa_nil)))) (pss_one (ps_ret pe_str)) pss_nil)
  (pss_cons (ps_if (pt_val (pe_callB call_isi (by rfl) z_isinstance b_isinstance (pa_cons (pv 0) (pa_cons (pe_glob (v := .ref (He.ga K "Greater")) (by rfl) g_Greater rfl) pa_nil)))) (pss_one (ps_ret pe_str)) pss_nil)
  (pss_cons (ps_if (pt_val (pe_callB call_isi (by rfl) z_isinstance b_isinstance (pa_cons (pv 0) (pa_cons (pe_glob (v := .ref (He.ga K "Lesser")) (by rfl) g_Lesser rfl) pa_nil)))) (pss_one (ps_ret pe_str)) pss_nil)
  (pss_cons (ps_if (pt_val (pe_callB call_isi (by rfl) z_isinstance b_isinstance (pa_cons (pv 0) (pa_cons (pe_glob (v := .ref (He.ga K "Leads")) (by rfl) g_Leads rfl) pa_nil)))) (pss_one (ps_ret pe_str)) pss_nil)
  (pss_one (ps_ret pe_str))))))), ?_⟩
  refine ⟨_, rfl, _, _, _, _, _, rfl, .own _, isT T hi, isK5 T .more, _, rfl, ite2 (fun c => ?_) fun c1 => ?_⟩
  · rw [show v = .more from of_decide_eq_true c] at q
    exact q
  refine ⟨_, rfl, _, _, _, _, _, rfl, .own _, isT T hi, isK5 T .less, _, rfl, ite2 (fun c => ?_) fun c2 => ?_⟩
  · rw [show v = .less from of_decide_eq_true c] at q
    exact q
  refine ⟨_, rfl, _, _, _, _, _, rfl, .own _, isT T hi, isK5 T .greater, _, rfl, ite2 (fun c => ?_) fun c3 => ?_⟩
  · rw [show v = .greater from of_decide_eq_true c] at q
    exact q
  refine ⟨_, rfl, _, _, _, _, _, rfl, .own _, isT T hi, isK5 T .lesser, _, rfl, ite2 (fun c => ?_) fun c4 => ?_⟩
  · rw [show v = .lesser from of_decide_eq_true c] at q
    exact q
  refine ⟨_, rfl, _, _, _, _, _, rfl, .own _, isT T hi, isK5 T .leads, _, rfl, ite2 (fun c => ?_) fun c5 => ?_⟩
  · rw [show v = .leads from of_decide_eq_true c] at q
    exact q
  · exfalso
    cases v
    · exact c1 rfl
    · exact c2 rfl
    · exact c3 rfl
    · exact c4 rfl
    · exact c5 rfl
/-- rows at R, the dict of their places at D -/
def RS (H : Hp) (R D : Addr) (ks : List Row) : Prop := ∃ rs kvs, H R = some (.lst rs) ∧ Paired (RowAt H) rs ks ∧ H D = some (.dT kvs) ∧ (∀ k : Row, valV kvs k = if k ∈ ks then some (.int (ks.idxOf k : Nat)) else none) ∧ kvs.length = ks.length
theorem RS.ne {H : Hp} {R D : Addr} {ks : List Row} (h : RS H R D ks) : R ≠ D := by
  obtain ⟨rs, kvs, h1, _, h3, _⟩ := h
  exact ne_of h1 h3 fun z => by cases z
theorem RS.same {H H' : Hp} {R D : Addr} {ks : List Row} (e : Same H H') (h : RS H R D ks) : RS H' R D ks := by
  obtain ⟨rs, kvs, h1, h2, h3, h4, h5⟩ := h
  exact ⟨rs, kvs, e _ _ h1, Paired.map1 h2 fun _ _ => RowAt.mono e, e _ _ h3, h4, h5⟩
theorem RS.keep {H H' : Hp} {R D : Addr} {ks : List Row} (h : RS H R D ks) (f : Fr2 R D H H') : Keep H H' := by
  obtain ⟨rs, kvs, h1, _, h3, _⟩ := h
  exact ⟨fun b C dx fs e => f b _ e (ne_of e h1 fun z => by cases z) (ne_of e h3 fun z => by cases z), fun b xs e => f b _ e (ne_of e h1 fun z => by cases z) (ne_of e h3 fun z => by cases z)⟩
def spPlaceOf : Sp := fun vs H Q _ => ∃ v R D k ks, vs = [v, .ref R, .ref D] ∧ RowAt H v k ∧ RS H R D ks ∧ ks.length ≤ 1000 ∧ ∀ H', Fr2 R D H H' → RS H' R D (intern ks k) → Q (.int ((intern ks k).idxOf k : Nat)) H'
theorem c_place_of (T : Txt w K mg) : C8.Cal P w K mg base 1 "place_of" spPlaceOf [] := T.cal_place_of fun fd F => by
  have z_len := T.z_len
  refine fnD_ok F sc_place_of (fun vs H Q E h => ?_) (fun cdv A outer s H vs Q E hr h => ?_)
  · obtain ⟨v, R, D, k, ks, rfl, _⟩ := h
    rfl
  obtain ⟨v, R, D, k, ks, rfl, ⟨a, rfl, ha⟩, hRS, h1000, q⟩ := h
  have nRD := hRS.ne
  obtain ⟨rs, kvs, h1, h2, h3, h4, h5⟩ := id hRS
  refine ⟨_, (C8.pss_cut (ps_if (pt_cmp (pc_dnotin (hu_of hr) (pv 0) (pv 2))) (pss_cons (ps_dput (hu_of hr) (pv 2) (pv 0) (pe_callB call_len_seq (by rfl) z_len b_len (pa_cons (pv 1) pa_nil)) rfl)
  (pss_one (ps_expr (pe_bm PySem.F.plainAttrs_list PySem.F.slot_list_append PySem.F.type_list_append mt_append (pv 1) (pa_cons (pv 0) pa_nil))))) pss_nil)
  (pss_one (ps_ret (pe_dget (hu_of hr) (pv 2) (pv 0) (fun _ _ => rfl))))), ?_⟩
  refine ⟨fun σ' H' => σ' = [some (.ref a), some (.ref R), some (.ref D)] ∧ Fr2 R D H H' ∧ RS H' R D (intern ks k), ?_, ?_⟩
  · refine ⟨_, rfl, _, rfl, D, _, rfl, DGet.t h3 ha, ?_⟩
    refine ⟨_, rfl, ?_⟩
    by_cases c : k ∈ ks
    · have e : valV kvs k = some (.int (ks.idxOf k : Nat)) := by rw [h4, if_pos c]
      rw [e]
      refine iteF ⟨rfl, fun b o h _ _ => h, ?_⟩
      rw [show intern ks k = ks from if_pos c]
      exact hRS
    · have e : valV kvs k = none := by rw [h4, if_neg c]
      rw [e]
      refine iteT ⟨_, rfl, R, rs, rfl, .inl (SqL.of h1), _, rfl, _, rfl, D, _, rfl, DPut.t h3 ha (small_line (by omega)), ?_⟩
      have h1' : (upd H D (.dT (putK kvs k (.int ((rs.length : Nat) : Int))))) R = some (.lst rs) := by
        rw [upd_ne nRD]
        exact h1
      have hl : rs.length = ks.length := h2.length
      refine ⟨_, rfl, .inl ⟨rfl, _, SqL.of h1'⟩, _, rfl, R, _, _, rfl, rfl, h1', small_line (by omega), ?_⟩
      refine ⟨rfl, fun b o h n1 n2 => by rw [upd_ne n1, upd_ne n2]; exact h, ?_⟩
      rw [show intern ks k = ks ++ [k] from if_neg c]
      have kp : Keep H (upd (upd H D (.dT (putK kvs k (.int ((rs.length : Nat) : Int))))) R (.lst (rs ++ [.ref a]))) := (Keep.dT h3).trans (Keep.lst h1')
      refine ⟨_, _, upd_same, Paired.snoc (Paired.map1 h2 fun _ _ x => x.keep kp) ⟨a, rfl, kp.t _ _ ha⟩, by rw [upd_ne nRD.symm, upd_same], fun j => ?_, ?_⟩
      · rw [valV_put, h4]
        by_cases ej : j = k
        · subst ej
          rw [if_pos rfl, if_pos (List.mem_append_right _ (List.mem_singleton.mpr rfl)), List.idxOf_append, if_neg c, hl]
          simp
        · rw [if_neg ej]
          by_cases mj : j ∈ ks
          · rw [if_pos mj, if_pos (List.mem_append_left _ mj), List.idxOf_append, if_pos mj]
          · rw [if_neg mj, if_neg fun z => ?_]
            rcases List.mem_append.mp z with z | z
            · exact mj z
            · exact ej (List.mem_singleton.mp z)
      · rw [putK_new _ e, List.length_append, List.length_append, h5]
        rfl
  · rintro σ' H' ⟨rfl, f, hR⟩
    obtain ⟨rs2, kvs2, g1, g2, g3, g4, g5⟩ := id hR
    have ha' : H' a = some (.tup (k.map kV)) := f a _ ha (ne_of ha h1 fun z => by cases z) (ne_of ha h3 fun z => by cases z)
    have mk : k ∈ intern ks k := by
      unfold intern
      by_cases c : k ∈ ks
      · rw [if_pos c]; exact c
      · rw [if_neg c]; exact List.mem_append_right _ (List.mem_singleton.mpr rfl)
    have g := DGet.t g3 ha'
    rw [g4, if_pos mk] at g
    exact ⟨_, rfl, _, rfl, D, _, rfl, g, q H' f hR⟩
/-! ### put_rows -/
theorem intern_len (ks : List Row) (k : Row) : (intern ks k).length ≤ ks.length + 1 := by
  unfold intern
  split <;> simp
theorem encPut_len : ∀ (t : Tr) (ks : List Row), (encPut t ks).1.length ≤ ks.length + t.size
  | .never, ks => intern_len _ _
  | .always, ks => intern_len _ _
  | .p, ks => intern_len _ _
  | .q, ks => intern_len _ _
  | .neg a, ks => by
    have h := encPut_len a ks
    have g := intern_len (encPut a ks).1 [.inr "not", .inl ((encPut a ks).2 : Nat)]
    simp only [encPut, Tr.size]
    omega
  | .fold w a b, ks => by
    have h := encPut_len a ks
    have h2 := encPut_len b (encPut a ks).1
    have g := intern_len (encPut b (encPut a ks).1).1 [.inr w.str, .inl ((encPut a ks).2 : Nat), .inl ((encPut b (encPut a ks).1).2 : Nat)]
    simp only [encPut, Tr.size]
    omega
def spPut (K : PySem.W.Frag) (n : Nat) : Sp := fun vs H Q _ => ∃ v R D t ks, vs = [v, .ref R, .ref D] ∧ SayAt K H v t ∧ t.size ≤ n ∧ RS H R D ks ∧ ks.length + t.size ≤ 500 ∧
  ∀ H', Fr2 R D H H' → RS H' R D (encPut t ks).1 → Q (.int ((encPut t ks).2 : Nat)) H'
theorem c_put_rows (T : Txt w K mg) : ∀ n : Nat, C8.Cal P w K mg base (n + 2) "put_rows" (spPut K n) []
  | 0 => T.cal_put_rows fun fd F => fn_none fun vs H Q E h => by
    obtain ⟨v, R, D, t, ks, _, _, h, _⟩ := h
    have := t.size_pos
    omega
  | n + 1 => T.cal_put_rows fun fd F => by
    have c_put_rows := c_put_rows T n
    have c_word_of := c_word_of (P := P) (base := base) T
    have c_place_of := c_place_of (P := P) (base := base) T
    have z_isinstance := T.z_isinstance
    have g_Never := T.g_Never
    have g_Always := T.g_Always
    have g_Letter := T.g_Letter
    have g_Not := T.g_Not
    refine fnD_ok F sc_put_rows (fun vs H Q E h => ?_) (fun cdv A outer s H vs Q E hr h => ?_)
    · obtain ⟨v, R, D, t, ks, rfl, _⟩ := h
      rfl
    obtain ⟨v, R, D, t, ks, rfl, hv, hn, hRS, h500, q⟩ := h
    refine ⟨_, (C8.pss_cut (ps_if (pt_val (pe_callB call_isi (by rfl) z_isinstance b_isinstance (pa_cons (pv 0) (pa_cons (pe_glob (v := .ref (He.ga K "Never")) (by rfl) g_Never rfl) pa_nil)))) (pss_one (ps_set (i := 3) sc_put_rows.nd rfl (Or.inl rfl) (pe_tup (pa_cons pe_str pa_nil)))) (pss_one (ps_if (pt_val (pe_callB call_isi (by rfl) z_isinstance b_isinstance (pa_cons (pv 0) (pa_cons (pe_glob (v := .ref (He.ga K "Always")) (by rfl) g_Always rfl) pa_nil)))) (pss_one (ps_set (i := 3) sc_put_rows.nd rfl (Or.inl rfl) (pe_tup (pa_cons pe_str pa_nil)))) (pss_one (ps_if (pt_val (pe_callB call_isi (by rfl) z_isinstance b_isinstance (pa_cons (pv 0) (pa_cons (pe_glob (v := .ref (He.ga K "Letter")) (by rfl) g_Letter rfl) pa_nil)))) (pss_one (ps_set (i := 3) sc_put_rows.nd rfl (Or.inl rfl) (pe_tup (pa_cons (pe_fld (pv 0) rfl) pa_nil)))) (pss_one (ps_if (pt_val (pe_callB call_isi (by rfl) z_isinstance b_isinstance (pa_cons (pv 0) (pa_cons (pe_glob (v := .ref (He.ga K "Not")) (by rfl) g_Not rfl) pa_nil)))) (pss_one (ps_set (i := 3) sc_put_rows.nd rfl (Or.inl rfl) (pe_tup (pa_cons pe_str (pa_cons (C8.pe_c c_put_rows hr (by omega) (by rfl) (pa_cons (pe_fld (pv 0) rfl) (pa_cons (pv 1) (pa_cons (pv 2) pa_nil)))) pa_nil))))) (pss_cons (ps_set (i := 4) sc_put_rows.nd rfl (Or.inl rfl) (C8.pe_c c_put_rows hr (by omega) (by rfl) (pa_cons (pe_fld (pv 0) rfl) (pa_cons (pv 1) (pa_cons (pv 2) pa_nil)))))
  (pss_one (ps_set (i := 3) sc_put_rows.nd rfl (Or.inl rfl) (pe_tup (pa_cons (C8.pe_c c_word_of hr (by omega) (by rfl) (pa_cons (pv 0) pa_nil)) (pa_cons (pv 4) (pa_cons (C8.pe_c c_put_rows hr (by omega) (by rfl) (pa_cons (pe_fld (pv 0) rfl) (pa_cons (pv 1) (pa_cons (pv 2) pa_nil)))) pa_nil))))))))))))))
  (pss_one (ps_ret (C8.pe_c c_place_of hr (by omega) (by rfl) (pa_cons (pv 3) (pa_cons (pv 1) (pa_cons (pv 2) pa_nil))))))), ?_⟩
    refine ⟨fun σ' H' => ∃ a k ks' o4, σ' = [some v, some (.ref R), some (.ref D), some (.ref a), o4] ∧ H' a = some (.tup (k.map kV)) ∧ Fr2 R D H H' ∧ RS H' R D ks' ∧ ks'.length ≤ 1000 ∧ intern ks' k = (encPut t ks).1 ∧ (intern ks' k).idxOf k = (encPut t ks).2, ?_, ?_⟩
    · obtain ⟨a, dx, fs, rfl, hi, _, _⟩ := hv.ins
      refine ⟨_, rfl, _, _, _, _, _, rfl, .own _, isT T hi, isK4 T .never, _, rfl, ite2 (fun c => ?_) fun c1 => ?_⟩
      · have e : t = .never := by
          have c' : t.kd = .never := of_decide_eq_true c
          cases t <;> first | rfl | cases c'
        subst e
        refine ⟨(by show 1 ≤ sizeLine; decide), fun p hp => ?_⟩
        exact ⟨p, [.inr "never"], ks, none, rfl, upd_same, Fr2.of (same_new hp _), hRS.same (same_new hp _), by omega, rfl, rfl⟩
      refine ⟨_, rfl, _, _, _, _, _, rfl, .own _, isT T hi, isK4 T .always, _, rfl, ite2 (fun c => ?_) fun c2 => ?_⟩
      · have e : t = .always := by
          have c' : t.kd = .always := of_decide_eq_true c
          cases t <;> first | rfl | cases c'
        subst e
        refine ⟨(by show 1 ≤ sizeLine; decide), fun p hp => ?_⟩
        exact ⟨p, [.inr "always"], ks, none, rfl, upd_same, Fr2.of (same_new hp _), hRS.same (same_new hp _), by omega, rfl, rfl⟩
      refine ⟨_, rfl, _, _, _, _, _, rfl, .own _, isT T hi, isK4 T .letter, _, rfl, ite2 (fun c => ?_) fun c3 => ?_⟩
      · have c' : t.kd = .letter := of_decide_eq_true c
        cases t with
        | p =>
          obtain ⟨a2, dx2, e2, h2⟩ := hv
          cases e2
          refine ⟨_, rfl, a, _, _, _, _, rfl, h2, T.cl_Letter, T.na_Letter_name, rfl, (by show 1 ≤ sizeLine; decide), fun p hp => ?_⟩
          exact ⟨p, [.inr "p"], ks, none, rfl, upd_same, Fr2.of (same_new hp _), hRS.same (same_new hp _), by omega, rfl, rfl⟩
        | q =>
          obtain ⟨a2, dx2, e2, h2⟩ := hv
          cases e2
          refine ⟨_, rfl, a, _, _, _, _, rfl, h2, T.cl_Letter, T.na_Letter_name, rfl, (by show 1 ≤ sizeLine; decide), fun p hp => ?_⟩
          exact ⟨p, [.inr "q"], ks, none, rfl, upd_same, Fr2.of (same_new hp _), hRS.same (same_new hp _), by omega, rfl, rfl⟩
        | _ => cases c'
      refine ⟨_, rfl, _, _, _, _, _, rfl, .own _, isT T hi, isK4 T .neg, _, rfl, ite2 (fun c => ?_) fun c4 => ?_⟩
      · have c' : t.kd = .neg := of_decide_eq_true c
        cases t with
        | neg t' =>
          obtain ⟨a2, dx2, u, e2, h2, h3⟩ := hv
          cases e2
          simp only [Tr.size] at hn h500
          refine ⟨_, rfl, a, _, _, _, _, rfl, h2, T.cl_Not, T.na_Not_part, rfl, _, rfl, _, rfl, u, R, D, t', ks, rfl, h3, by omega, hRS, by omega, fun H1 f1 r1 => ?_⟩
          refine ⟨(by show 2 ≤ sizeLine; decide), fun p hp => ?_⟩
          have := encPut_len t' ks
          exact ⟨p, [.inr "not", .inl ((encPut t' ks).2 : Nat)], _, none, rfl, upd_same, f1.trans (Fr2.of (same_new hp _)), r1.same (same_new hp _), by omega, rfl, rfl⟩
        | _ => cases c'
      · cases t with
        | fold v x y =>
          obtain ⟨a2, dx2, ux, uy, e2, h2, h3, h4⟩ := hv
          cases e2
          simp only [Tr.size] at hn h500
          refine ⟨_, rfl, a, _, _, _, _, rfl, h2, T.clK (.w v), T.na_one v, rfl, _, rfl, _, rfl, ux, R, D, x, ks, rfl, h3, by omega, hRS, by omega, fun H1 f1 r1 => ?_⟩
          have k1 := hRS.keep f1
          have l1 := encPut_len x ks
          have h2' := k1.i _ _ _ _ h2
          refine ⟨_, rfl, a, _, _, v, rfl, h2', _, rfl, _, rfl, a, _, _, _, _, rfl, h2', T.clK (.w v), T.na_other v, rfl, _, rfl, _, rfl, uy, R, D, y, _, rfl, h4.keep k1, by omega, r1, by omega, fun H2 f2 r2 => ?_⟩
          have l2 := encPut_len y (encPut x ks).1
          refine ⟨(by show 3 ≤ sizeLine; decide), fun p hp => ?_⟩
          exact ⟨p, [.inr v.str, .inl ((encPut x ks).2 : Nat), .inl ((encPut y (encPut x ks).1).2 : Nat)], _, _, rfl, upd_same, (f1.trans f2).trans (Fr2.of (same_new hp _)), r2.same (same_new hp _), by omega, rfl, rfl⟩
        | never => exact absurd rfl c1
        | always => exact absurd rfl c2
        | p => exact absurd rfl c3
        | q => exact absurd rfl c3
        | neg t' => exact absurd rfl c4
    · rintro σ' H' ⟨a, k, ks', o4, rfl, ha, f, hR, hl, e1, e2⟩
      refine ⟨_, rfl, _, rfl, _, rfl, .ref a, R, D, k, ks', rfl, ⟨a, rfl, ha⟩, hR, hl, fun H2 f2 r2 => ?_⟩
      rw [e2]
      rw [e1] at r2
      exact q H2 (f.trans f2) r2
/-! ### rows_of -/
/-- a list of rows -/
def RowsAt (K : PySem.W.Frag) (H : Hp) (v : V) (ks : List Row) : Prop := ∃ a rs, v = .ref a ∧ SqL K H a rs ∧ Paired (RowAt H) rs ks
theorem RowsAt.mono {K : PySem.W.Frag} {H H' : Hp} {v : V} {ks : List Row} (e : Same H H') (h : RowsAt K H v ks) : RowsAt K H' v ks := by
  obtain ⟨a, rs, h1, h2, h3⟩ := h
  exact ⟨a, rs, h1, e.seq h2, Paired.map1 h3 fun _ _ => RowAt.mono e⟩
def spRowsOf (K : PySem.W.Frag) (n : Nat) : Sp := fun vs H Q _ => ∃ v t, vs = [v] ∧ SayAt K H v t ∧ t.size ≤ n ∧ ∀ z H', Same H H' → RowsAt K H' z (encPut t []).1 → Q z H'
theorem c_rows_of (T : Txt w K mg) (n : Nat) (hn : n ≤ 500) : C8.Cal P w K mg base (n + 3) "rows_of" (spRowsOf K n) [] := T.cal_rows_of fun fd F => by
  have c_put_rows := c_put_rows (P := P) (base := base) T n
  refine fnD_ok F sc_rows_of (fun vs H Q E h => ?_) (fun cdv A outer s H vs Q E hr h => ?_)
  · obtain ⟨v, t, rfl, _⟩ := h
    rfl
  obtain ⟨v, t, rfl, hv, hs, q⟩ := h
  refine ⟨_, (pss_cons (ps_set (i := 1) sc_rows_of.nd rfl (Or.inl rfl) (pe_lst pa_nil))
  (pss_cons (ps_expr (C8.pe_c c_put_rows hr (by omega) (by rfl) (pa_cons (pv 0) (pa_cons (pv 1) (pa_cons pe_dnewT pa_nil)))))
  (pss_one (ps_ret (pv 1))))), ?_⟩
  refine ⟨Nat.zero_le _, fun R hR => ?_⟩
  refine ⟨_, rfl, _, rfl, fun D hD => ?_⟩
  have s1 := same_new hR (.lst [])
  have s2 := s1.trans (same_new hD (.dT []))
  have nRD : R ≠ D := ne_of_none upd_same hD
  refine ⟨v, R, D, t, [], rfl, hv.mono s2, hs, ⟨[], [], by rw [upd_ne nRD, upd_same], .nil, upd_same, fun k => rfl, rfl⟩, by simp only [List.length_nil]; omega, fun H' f r => ?_⟩
  obtain ⟨rs, kvs, g1, g2, _⟩ := r
  refine ⟨_, rfl, q _ H' (fun b o h => f b o (s2 b o h) (ne_of_none h hR) (ne_of_none h (s1.free hD))) ⟨R, rs, rfl, SqL.of g1, g2⟩⟩
end
end K55

namespace K55
open PySem PySem.Spec PyProof.Rows L2
section
variable {P : Program} {w : World} {K : PySem.W.Frag} {mg : Str → Option Value} {base : Heap}
/-! ### rules added, taken -/
def spTwo (K : PySem.W.Frag) (f : T3 → T3 → T3) : Sp := fun vs H Q _ => ∃ x y r s, vs = [x, y] ∧ T3At K H x r ∧ T3At K H y s ∧ ∀ z H', Same H H' → T3At K H' z (f r s) → Q z H'
theorem ix3 {K : PySem.W.Frag} {H : Hp} {a : Addr} {x y z : Int} {i : Nat} {p : Int} (h : ([x, y, z] : List Int)[i]? = some p) : atI [V.int x, .int y, .int z] (i : Nat) = some (.int p) := at_of rfl (by
  rw [show [V.int x, .int y, .int z] = ([x, y, z] : List Int).map V.int from rfl, List.getElem?_map, h]
  rfl)
theorem c_sum_of (T : Txt w K mg) : C8.Cal P w K mg base 1 "sum_of" (spTwo K T3.add) [] := T.cal_sum_of fun fd F => by
  have z_range := T.z_range
  have z_tuple := T.z_tuple
  refine fnD_ok F sc_sum_of (fun vs H Q E h => ?_) (fun cdv A outer s H vs Q E hr h => ?_)
  · obtain ⟨x, y, r, s, rfl, _⟩ := h
    rfl
  obtain ⟨x, y, u, v, rfl, ⟨a, rfl, h1⟩, ⟨b, rfl, h2⟩, q⟩ := h
  refine ⟨_, (pss_one (ps_ret (pe_callTy call_tuple_of (by rfl) z_tuple b_tuple (pa_cons (pe_lc (own := [("k", 2)]) (g := gName 2) (tt := tYes) rfl sc_sum_of.nd (pi_range1 (by rfl) z_range (pa_cons pe_int pa_nil)) (blkOk_by (own := [("k", 2)]) (N := ["one", "other", "k"]) (sc := defScope s_sum_of) (by decide +kernel)) (fun _ _ _ _ _ => (pg_name (i := 2) sc_sum_of.nd rfl (Or.inl rfl))) (fun _ _ _ _ _ => pts_nil) (fun _ _ _ _ _ => (pe_op op_add (pe_ix (r := rIxT K) ix_tup (pv 0) (pv 2) (fun _ _ => rfl)) (pe_ix (r := rIxT K) ix_tup (pv 1) (pv 2) (fun _ _ => rfl))))) pa_nil)))), ?_⟩
  refine ⟨3, rfl, by decide, by decide, fun D hD => lcR (n := 3) [.int (u.a + v.a), .int (u.b + v.b), .int (u.c + v.c)] hD rfl (show 3 ≤ 100000 by decide) (fun i y H' hy s Q' hq => ?_) fun H' s hd => ?_⟩
  · have k1 := sqt s h1
    have k2 := sqt s h2
    match i, hy with
    | 0, hy =>
      refine ⟨_, rfl, _, rfl, a, _, _, _, rfl, rfl, k1, at_of (j := 0) rfl rfl, _, rfl, _, rfl, b, _, _, _, rfl, rfl, k2, at_of (j := 0) rfl rfl, _, _, rfl, rfl, ?_⟩
      have := hq H' (Same.refl _)
      rw [← Option.some.inj hy] at this
      exact this
    | 1, hy =>
      refine ⟨_, rfl, _, rfl, a, _, _, _, rfl, rfl, k1, at_of (j := 1) rfl rfl, _, rfl, _, rfl, b, _, _, _, rfl, rfl, k2, at_of (j := 1) rfl rfl, _, _, rfl, rfl, ?_⟩
      have := hq H' (Same.refl _)
      rw [← Option.some.inj hy] at this
      exact this
    | 2, hy =>
      refine ⟨_, rfl, _, rfl, a, _, _, _, rfl, rfl, k1, at_of (j := 2) rfl rfl, _, rfl, _, rfl, b, _, _, _, rfl, rfl, k2, at_of (j := 2) rfl rfl, _, _, rfl, rfl, ?_⟩
      have := hq H' (Same.refl _)
      rw [← Option.some.inj hy] at this
      exact this
    | i + 3, hy => simp at hy
  · refine ⟨D, _, rfl, .inl ⟨SqL.of hd, fun p hp => ?_⟩⟩
    exact q _ _ (s.trans (same_new hp _)) ⟨p, rfl, SqT.of upd_same⟩
theorem c_rest_of (T : Txt w K mg) : C8.Cal P w K mg base 1 "rest_of" (spTwo K T3.sub) [] := T.cal_rest_of fun fd F => by
  have z_range := T.z_range
  have z_tuple := T.z_tuple
  refine fnD_ok F sc_rest_of (fun vs H Q E h => ?_) (fun cdv A outer s H vs Q E hr h => ?_)
  · obtain ⟨x, y, r, s, rfl, _⟩ := h
    rfl
  obtain ⟨x, y, u, v, rfl, ⟨a, rfl, h1⟩, ⟨b, rfl, h2⟩, q⟩ := h
  refine ⟨_, (pss_one (ps_ret (pe_callTy call_tuple_of (by rfl) z_tuple b_tuple (pa_cons (pe_lc (own := [("k", 2)]) (g := gName 2) (tt := tYes) rfl sc_rest_of.nd (pi_range1 (by rfl) z_range (pa_cons pe_int pa_nil)) (blkOk_by (own := [("k", 2)]) (N := ["one", "other", "k"]) (sc := defScope s_rest_of) (by decide +kernel)) (fun _ _ _ _ _ => (pg_name (i := 2) sc_rest_of.nd rfl (Or.inl rfl))) (fun _ _ _ _ _ => pts_nil) (fun _ _ _ _ _ => (pe_op op_sub (pe_ix (r := rIxT K) ix_tup (pv 0) (pv 2) (fun _ _ => rfl)) (pe_ix (r := rIxT K) ix_tup (pv 1) (pv 2) (fun _ _ => rfl))))) pa_nil)))), ?_⟩
  refine ⟨3, rfl, by decide, by decide, fun D hD => lcR (n := 3) [.int (u.a - v.a), .int (u.b - v.b), .int (u.c - v.c)] hD rfl (show 3 ≤ 100000 by decide) (fun i y H' hy s Q' hq => ?_) fun H' s hd => ?_⟩
  · have k1 := sqt s h1
    have k2 := sqt s h2
    match i, hy with
    | 0, hy =>
      refine ⟨_, rfl, _, rfl, a, _, _, _, rfl, rfl, k1, at_of (j := 0) rfl rfl, _, rfl, _, rfl, b, _, _, _, rfl, rfl, k2, at_of (j := 0) rfl rfl, _, _, rfl, rfl, ?_⟩
      have := hq H' (Same.refl _)
      rw [← Option.some.inj hy] at this
      exact this
    | 1, hy =>
      refine ⟨_, rfl, _, rfl, a, _, _, _, rfl, rfl, k1, at_of (j := 1) rfl rfl, _, rfl, _, rfl, b, _, _, _, rfl, rfl, k2, at_of (j := 1) rfl rfl, _, _, rfl, rfl, ?_⟩
      have := hq H' (Same.refl _)
      rw [← Option.some.inj hy] at this
      exact this
    | 2, hy =>
      refine ⟨_, rfl, _, rfl, a, _, _, _, rfl, rfl, k1, at_of (j := 2) rfl rfl, _, rfl, _, rfl, b, _, _, _, rfl, rfl, k2, at_of (j := 2) rfl rfl, _, _, rfl, rfl, ?_⟩
      have := hq H' (Same.refl _)
      rw [← Option.some.inj hy] at this
      exact this
    | i + 3, hy => simp at hy
  · refine ⟨D, _, rfl, .inl ⟨SqL.of hd, fun p hp => ?_⟩⟩
    exact q _ _ (s.trans (same_new hp _)) ⟨p, rfl, SqT.of upd_same⟩
theorem Txt.oneAt (T : Txt w K mg) (H : Hp) : T3At K H (.ref (He.ga K "ONE")) T3.one := ⟨_, rfl, sqt_tup T.exb.one⟩
theorem wd_eq {v u : Wd} {x : Str} (hx : u.str = x := by rfl) (c : decide (V.str v.str = V.str x) = true) : v = u := Wd.str_inj (by rw [hx]; exact V.str.inj (of_decide_eq_true c))
theorem wd_ne {v u : Wd} {x : Str} (hx : u.str = x := by rfl) (c : ¬ decide (V.str v.str = V.str x) = true) : v ≠ u := fun e => c (decide_eq_true (by rw [e, hx]))
def spWd (K : PySem.W.Frag) (f : Wd → T3 → T3 → T3) : Sp := fun vs H Q _ => ∃ v x y r s, vs = [.str v.str, x, y] ∧ T3At K H x r ∧ T3At K H y s ∧ ∀ z H', Same H H' → T3At K H' z (f v r s) → Q z H'
theorem c_test_of (T : Txt w K mg) : C8.Cal P w K mg base 2 "test_of" (spWd K Wd.test) [] := T.cal_test_of fun fd F => by
  have c_sum_of := c_sum_of (P := P) (base := base) T
  have c_rest_of := c_rest_of (P := P) (base := base) T
  have g_ONE := T.g_ONE
  refine fnD_ok F sc_test_of (fun vs H Q E h => ?_) (fun cdv A outer s H vs Q E hr h => ?_)
  · obtain ⟨v, x, y, r, s, rfl, _⟩ := h
    rfl
  obtain ⟨v, x, y, r, s, rfl, hx, hy, q⟩ := h
  refine ⟨_, (pss_cons (ps_if (PW.pt (pw_or (pt_cmpR op_eq (pv 0) pe_str (nomark _)) (pw_or1 (pt_cmpR op_eq (pv 0) pe_str (nomark _))))) (pss_one (ps_ret (C8.pe_c c_rest_of hr (by omega) (by rfl) (pa_cons (C8.pe_c c_sum_of hr (by omega) (by rfl) (pa_cons (pv 1) (pa_cons (pv 2) pa_nil))) (pa_cons (pe_glob (v := .ref (He.ga K "ONE")) (by rfl) g_ONE rfl) pa_nil))))) pss_nil)
  (pss_cons (ps_if (pt_cmpR op_eq (pv 0) pe_str (nomark _)) (pss_one (ps_ret (C8.pe_c c_rest_of hr (by omega) (by rfl) (pa_cons (pv 2) (pa_cons (pv 1) pa_nil))))) pss_nil)
  (pss_one (ps_ret (C8.pe_c c_rest_of hr (by omega) (by rfl) (pa_cons (pv 1) (pa_cons (pv 2) pa_nil))))))), ?_⟩
  have ml : v.test r s = (r.add s).sub .one → tRet (tCall (spTwo K T3.sub) [] C8.E0 (tCons (tCall (spTwo K T3.add) [] C8.E0 (tCons (tVar 1) (tCons (tVar 2) tNil))) (tCons (tC (.ref (He.ga K "ONE"))) tNil))) { nx := fun _ _ => False, rt := Q } (start ["word", "one", "other"] [.str v.str, x, y]) H := fun e =>
    ⟨_, rfl, _, rfl, _, _, _, _, rfl, hx, hy, fun z H1 s1 hz => ⟨_, _, _, _, rfl, hz, T.oneAt H1, fun z2 H2 s2 hz2 => q z2 H2 (s1.trans s2) (by rw [e]; exact hz2)⟩⟩
  refine ⟨_, rfl, rfl, _, rfl, ite2 (fun c => ?_) fun c1 => ?_⟩
  · rw [wd_eq (u := .more) rfl c] at ml
    refine iteT ?_
    rw [wd_eq (u := .more) rfl c]
    exact ml rfl
  refine ⟨_, rfl, rfl, _, rfl, ite2 (fun c => ?_) fun c2 => ?_⟩
  · rw [wd_eq (u := .less) rfl c] at ml ⊢
    exact ml rfl
  refine ⟨_, rfl, rfl, _, rfl, ite2 (fun c => ?_) fun c3 => ?_⟩
  · have e := wd_eq (u := .leads) rfl c
    subst e
    exact ⟨_, rfl, _, rfl, _, _, _, _, rfl, hy, hx, q⟩
  · have n1 := wd_ne (u := .more) rfl c1
    have n2 := wd_ne (u := .less) rfl c2
    have n3 := wd_ne (u := .leads) rfl c3
    refine ⟨_, rfl, _, rfl, _, _, _, _, rfl, hx, hy, fun z H1 s1 hz => q z H1 s1 ?_⟩
    cases v <;> first | exact hz | contradiction
end
end K55

namespace K55
open PySem PySem.Spec PyProof.Rows L2
section
variable {P : Program} {w : World} {K : PySem.W.Frag} {mg : Str → Option Value} {base : Heap}
/-! ### a fold's two rules -/
theorem c_lower_rule (T : Txt w K mg) : C8.Cal P w K mg base 2 "lower_rule" (spWd K Wd.low) [] := T.cal_lower_rule fun fd F => by
  have c_sum_of := c_sum_of (P := P) (base := base) T
  have c_rest_of := c_rest_of (P := P) (base := base) T
  have g_ONE := T.g_ONE
  refine fnD_ok F sc_lower_rule (fun vs H Q E h => ?_) (fun cdv A outer s H vs Q E hr h => ?_)
  · obtain ⟨v, x, y, r, s, rfl, _⟩ := h
    rfl
  obtain ⟨v, x, y, r, s, rfl, hx, hy, q⟩ := h
  refine ⟨_, (pss_cons (ps_if (pt_cmpR op_eq (pv 0) pe_str (nomark _)) (pss_one (ps_ret (C8.pe_c c_sum_of hr (by omega) (by rfl) (pa_cons (pv 1) (pa_cons (pv 2) pa_nil))))) pss_nil)
  (pss_cons (ps_if (pt_cmpR op_eq (pv 0) pe_str (nomark _)) (pss_one (ps_ret (pe_tup (pa_cons pe_int (pa_cons pe_int (pa_cons pe_int pa_nil)))))) pss_nil)
  (pss_cons (ps_if (pt_cmpR op_eq (pv 0) pe_str (nomark _)) (pss_one (ps_ret (pv 2))) pss_nil)
  (pss_cons (ps_if (pt_cmpR op_eq (pv 0) pe_str (nomark _)) (pss_one (ps_ret (pv 1))) pss_nil)
  (pss_one (ps_ret (C8.pe_c c_rest_of hr (by omega) (by rfl) (pa_cons (C8.pe_c c_sum_of hr (by omega) (by rfl) (pa_cons (pe_glob (v := .ref (He.ga K "ONE")) (by rfl) g_ONE rfl) (pa_cons (pv 2) pa_nil))) (pa_cons (pv 1) pa_nil))))))))), ?_⟩
  refine ⟨_, rfl, rfl, _, rfl, ite2 (fun c => ?_) fun c1 => ?_⟩
  · have e := wd_eq (u := .more) rfl c
    subst e
    exact ⟨_, rfl, _, rfl, _, _, _, _, rfl, hx, hy, q⟩
  refine ⟨_, rfl, rfl, _, rfl, ite2 (fun c => ?_) fun c2 => ?_⟩
  · have e := wd_eq (u := .less) rfl c
    subst e
    exact ⟨(by show 3 ≤ sizeLine; decide), fun p hp => q _ _ (same_new hp _) ⟨p, rfl, SqT.of upd_same⟩⟩
  refine ⟨_, rfl, rfl, _, rfl, ite2 (fun c => ?_) fun c3 => ?_⟩
  · have e := wd_eq (u := .greater) rfl c
    subst e
    exact ⟨_, rfl, q _ _ (Same.refl _) hy⟩
  refine ⟨_, rfl, rfl, _, rfl, ite2 (fun c => ?_) fun c4 => ?_⟩
  · have e := wd_eq (u := .lesser) rfl c
    subst e
    exact ⟨_, rfl, q _ _ (Same.refl _) hx⟩
  · have n1 := wd_ne (u := .more) rfl c1
    have n2 := wd_ne (u := .less) rfl c2
    have n3 := wd_ne (u := .greater) rfl c3
    have n4 := wd_ne (u := .lesser) rfl c4
    refine ⟨_, rfl, _, _, _, _, rfl, T.oneAt H, hy, fun z H1 s1 hz => ⟨_, rfl, _, _, _, _, rfl, hz, hx.mono s1, fun z2 H2 s2 hz2 => q z2 H2 (s1.trans s2) ?_⟩⟩
    cases v <;> first | exact hz2 | contradiction
theorem c_upper_rule (T : Txt w K mg) : C8.Cal P w K mg base 2 "upper_rule" (spWd K Wd.high) [] := T.cal_upper_rule fun fd F => by
  have c_sum_of := c_sum_of (P := P) (base := base) T
  have c_rest_of := c_rest_of (P := P) (base := base) T
  have g_ONE := T.g_ONE
  refine fnD_ok F sc_upper_rule (fun vs H Q E h => ?_) (fun cdv A outer s H vs Q E hr h => ?_)
  · obtain ⟨v, x, y, r, s, rfl, _⟩ := h
    rfl
  obtain ⟨v, x, y, r, s, rfl, hx, hy, q⟩ := h
  refine ⟨_, (pss_cons (ps_if (pt_cmpR op_eq (pv 0) pe_str (nomark _)) (pss_one (ps_ret (C8.pe_c c_rest_of hr (by omega) (by rfl) (pa_cons (C8.pe_c c_sum_of hr (by omega) (by rfl) (pa_cons (pv 1) (pa_cons (pv 2) pa_nil))) (pa_cons (pe_glob (v := .ref (He.ga K "ONE")) (by rfl) g_ONE rfl) pa_nil))))) pss_nil)
  (pss_cons (ps_if (pt_cmpR op_eq (pv 0) pe_str (nomark _)) (pss_one (ps_ret (pv 1))) pss_nil)
  (pss_cons (ps_if (pt_cmpR op_eq (pv 0) pe_str (nomark _)) (pss_one (ps_ret (pv 2))) pss_nil)
  (pss_one (ps_ret (pe_glob (v := .ref (He.ga K "ONE")) (by rfl) g_ONE rfl)))))), ?_⟩
  refine ⟨_, rfl, rfl, _, rfl, ite2 (fun c => ?_) fun c2 => ?_⟩
  · have e := wd_eq (u := .less) rfl c
    subst e
    exact ⟨_, rfl, _, rfl, _, _, _, _, rfl, hx, hy, fun z H1 s1 hz => ⟨_, _, _, _, rfl, hz, T.oneAt H1, fun z2 H2 s2 hz2 => q z2 H2 (s1.trans s2) hz2⟩⟩
  refine ⟨_, rfl, rfl, _, rfl, ite2 (fun c => ?_) fun c3 => ?_⟩
  · have e := wd_eq (u := .greater) rfl c
    subst e
    exact ⟨_, rfl, q _ _ (Same.refl _) hx⟩
  refine ⟨_, rfl, rfl, _, rfl, ite2 (fun c => ?_) fun c4 => ?_⟩
  · have e := wd_eq (u := .lesser) rfl c
    subst e
    exact ⟨_, rfl, q _ _ (Same.refl _) hy⟩
  · have n2 := wd_ne (u := .less) rfl c2
    have n3 := wd_ne (u := .greater) rfl c3
    have n4 := wd_ne (u := .lesser) rfl c4
    exact q (V.ref (He.ga K "ONE")) H (Same.refl H) (by
      have o := T.oneAt H
      cases v <;> first | exact o | contradiction)
/-- the rule, or None -/
def MayAt (K : PySem.W.Frag) (H : Hp) (u : V) : Option T3 → Prop
  | some t => T3At K H u t ∧ u ≠ .non
  | none => u = .non
theorem T3At.ne {K : PySem.W.Frag} {H : Hp} {u : V} {t : T3} (h : T3At K H u t) : u ≠ .non := by
  obtain ⟨a, rfl, _⟩ := h
  intro z
  cases z
theorem tells_le {r : T3} {h : List T3} {m : Int} (h1 : m ∈ tells r h) (h2 : ∀ y, y ∈ tells r h → y ≤ m) : m ≤ 0 ↔ LeAll r h := by
  constructor
  · intro z k hk
    have := h2 _ (tells_mem.mpr ⟨k, hk, rfl⟩)
    omega
  · intro z
    obtain ⟨k, hk, e⟩ := tells_mem.mp h1
    rw [← e]
    exact z k hk
theorem tells_ge {r : T3} {h : List T3} {m : Int} (h1 : m ∈ tells r h) (h2 : ∀ y, y ∈ tells r h → m ≤ y) : 0 ≤ m ↔ GeAll r h := by
  constructor
  · intro z k hk
    have := h2 _ (tells_mem.mpr ⟨k, hk, rfl⟩)
    omega
  · intro z
    obtain ⟨k, hk, e⟩ := tells_mem.mp h1
    rw [← e]
    exact z k hk
theorem tells_pos {r : T3} {h : List T3} (h0 : 0 < h.length) : 0 < (tells r h).length := by
  have := tells_len r h
  rw [List.length_map] at this
  omega
theorem In.mono {r : T3} {m n : Int} (h : r.In m) (hm : m ≤ n) : r.In n := by
  obtain ⟨⟨_, _⟩, ⟨_, _⟩, _, _⟩ := h
  simp only [T3.In]
  omega
def FoldOut (K : PySem.W.Frag) (H : Hp) (z : V) (o : Option T3) (t : T3) : Prop := ∃ p u x, z = .ref p ∧ SqT K H p [u, x] ∧ T3At K H x t ∧ MayAt K H u o
def spFoldRule (K : PySem.W.Frag) : Sp := fun vs H Q _ => ∃ (v : Wd) (x y hv : V) (r s : T3) (h : List T3), vs = [.str v.str, x, y, hv] ∧ T3At K H x r ∧ T3At K H y s ∧ HullAt K H hv h ∧ 0 < h.length ∧ h.length ≤ 2000 ∧ (v.test r s).In 1000 ∧ ∀ z H', Same H H' → FoldOut K H' z (v.rule r s h) (v.test r s) → Q z H'
theorem c_fold_rule (T : Txt w K mg) : C8.Cal P w K mg base 3 "fold_rule" (spFoldRule K) [] := T.cal_fold_rule fun fd F => by
  have c_test_of := c_test_of (P := P) (base := base) T
  have c_told_by := c_told_by (P := P) (base := base) T
  have c_lower_rule := c_lower_rule (P := P) (base := base) T
  have c_upper_rule := c_upper_rule (P := P) (base := base) T
  have z_min := T.z_min
  have z_max := T.z_max
  refine fnD_ok F sc_fold_rule (fun vs H Q E h => ?_) (fun cdv A outer s H vs Q E hr h => ?_)
  · obtain ⟨v, x, y, hv, r, s, h, rfl, _⟩ := h
    rfl
  obtain ⟨v, x, y, hv, r, s, h, rfl, hx, hy, ⟨ha, cs, rfl, hS, hP⟩, h0, h2000, hin, q⟩ := h
  have hlen : cs.length = h.length := hP.length
  refine ⟨_, (pss_cons (ps_set (i := 4) sc_fold_rule.nd rfl (Or.inr rfl) (C8.pe_c c_test_of hr (by omega) (by rfl) (pa_cons (pv 0) (pa_cons (pv 1) (pa_cons (pv 2) pa_nil)))))
  (pss_cons (ps_setLc (i := 5) (own := [("corner", 6)]) (g := gName 6) (tt := tYes) rfl sc_fold_rule.nd rfl rfl (sw_true rfl rfl rfl (by decide +kernel)) (pi_list (pv 3)) (blkOk_by (own := [("corner", 6)]) (N := ["word", "one", "other", "hull", "test", "tells", "corner"]) (sc := defScope s_fold_rule) (by decide +kernel)) (fun _ _ _ _ _ => (pg_name (i := 6) sc_fold_rule.nd rfl (Or.inl rfl))) (fun _ _ _ _ _ => pts_nil) (fun _ _ _ _ _ => (C8.pe_c c_told_by hr (by omega) (by rfl) (pa_cons (pv 4) (pa_cons (pv 6) pa_nil)))))
  (pss_cons (ps_if (pt_cmpR op_le (pe_callB (cr_max rfl) (by rfl) z_max b_max (pa_cons (pv 5) pa_nil)) pe_int (nomark _)) (pss_one (ps_ret (pe_tup (pa_cons (C8.pe_c c_lower_rule hr (by omega) (by rfl) (pa_cons (pv 0) (pa_cons (pv 1) (pa_cons (pv 2) pa_nil)))) (pa_cons (pv 4) pa_nil))))) pss_nil)
  (pss_cons (ps_if (pt_cmpR op_ge (pe_callB (cr_min rfl) (by rfl) z_min b_min (pa_cons (pv 5) pa_nil)) pe_int (nomark _)) (pss_one (ps_ret (pe_tup (pa_cons (C8.pe_c c_upper_rule hr (by omega) (by rfl) (pa_cons (pv 0) (pa_cons (pv 1) (pa_cons (pv 2) pa_nil)))) (pa_cons (pv 4) pa_nil))))) pss_nil)
  (pss_one (ps_ret (pe_tup (pa_cons pe_non (pa_cons (pv 4) pa_nil))))))))), ?_⟩
  refine ⟨_, rfl, _, rfl, _, rfl, v, x, y, r, s, rfl, hx, hy, fun zt H1 s1 ht => ?_⟩
  generalize et : v.test r s = t at *
  refine ⟨_, rfl, ha, rfl, ⟨_, s1.seq hS⟩, fun D hD => lcL (K := K) (a := ha) (xs := cs) ((tells t h).map V.int) hD (s1.seq hS) (by rw [tells_len, hlen]) (by rw [tells_len]; omega) (fun i c z H' hc hz s2 Q' hq => ?_) fun H2 s2 hT => ?_⟩
  · obtain ⟨k, hk, kx⟩ := Paired.at1 hP hc
    have hi : i < h.length := (List.getElem?_eq_some_iff.mp hk).1
    rw [tells_at hi] at hz
    rw [pt_lt hi] at hk
    cases hk
    refine ⟨_, rfl, _, rfl, zt, c, t, pt h i, rfl, ht.mono s2, kx.mono (s1.trans s2), hin, ?_⟩
    have := hq H' (Same.refl _)
    rw [← Option.some.inj hz] at this
    exact this
  have hTl : SqL K H2 D ((tells t h).map V.int) := SqL.of hT
  have s12 := s1.trans s2
  refine ⟨_, rfl, D, _, rfl, hTl, tells_pos h0, fun m m1 m2 => ?_⟩
  refine ⟨_, _, rfl, rfl, _, rfl, ite2 (fun c => ?_) fun c => ?_⟩
  · have le : LeAll t h := (tells_le m1 m2).mp (of_decide_eq_true c)
    refine ⟨_, rfl, _, rfl, _, rfl, v, x, y, r, s, rfl, hx.mono s12, hy.mono s12, fun z3 H3 s3 hz3 => ?_⟩
    refine ⟨_, rfl, (by show 2 ≤ sizeLine; decide), fun p hp => ?_⟩
    have s4 := same_new hp (.tup [z3, zt])
    refine q _ _ ((s12.trans s3).trans s4) ⟨p, z3, zt, rfl, SqT.of upd_same, ht.mono ((s2.trans s3).trans s4), ?_⟩
    have e : v.rule r s h = some (v.low r s) := by
      unfold Wd.rule
      rw [et, if_pos le]
    rw [e]
    exact ⟨hz3.mono s4, hz3.ne⟩
  have nle : ¬ LeAll t h := fun z => (of_decide_eq_false (Bool.eq_false_iff.mpr c)) ((tells_le m1 m2).mpr z)
  refine ⟨_, rfl, D, _, rfl, hTl, tells_pos h0, fun m' m1' m2' => ?_⟩
  refine ⟨_, _, rfl, rfl, _, rfl, ite2 (fun c => ?_) fun c => ?_⟩
  · have ge : GeAll t h := (tells_ge m1' m2').mp (of_decide_eq_true c)
    refine ⟨_, rfl, _, rfl, _, rfl, v, x, y, r, s, rfl, hx.mono s12, hy.mono s12, fun z3 H3 s3 hz3 => ?_⟩
    refine ⟨_, rfl, (by show 2 ≤ sizeLine; decide), fun p hp => ?_⟩
    have s4 := same_new hp (.tup [z3, zt])
    refine q _ _ ((s12.trans s3).trans s4) ⟨p, z3, zt, rfl, SqT.of upd_same, ht.mono ((s2.trans s3).trans s4), ?_⟩
    have e : v.rule r s h = some (v.high r s) := by
      unfold Wd.rule
      rw [et, if_neg nle, if_pos ge]
    rw [e]
    exact ⟨hz3.mono s4, hz3.ne⟩
  · have nge : ¬ GeAll t h := fun z => (of_decide_eq_false (Bool.eq_false_iff.mpr c)) ((tells_ge m1' m2').mpr z)
    refine ⟨_, rfl, (by show 2 ≤ sizeLine; decide), fun p hp => ?_⟩
    have s4 := same_new hp (.tup [.non, zt])
    refine q _ _ (s12.trans s4) ⟨p, .non, zt, rfl, SqT.of upd_same, ht.mono (s2.trans s4), ?_⟩
    have e : v.rule r s h = none := by
      unfold Wd.rule
      rw [et, if_neg nle, if_neg nge]
    rw [e]
    rfl
/-! ### rules_on -/
/-- a rule that a saying has on a hull -/
def HasAt (K : PySem.W.Frag) (H : Hp) (h : List T3) (u : V) (t : Tr) : Prop := ∃ r, t.rule h = some r ∧ T3At K H u r
theorem HasAt.mono {K : PySem.W.Frag} {H H' : Hp} {h : List T3} {u : V} {t : Tr} (e : Same H H') (x : HasAt K H h u t) : HasAt K H' h u t := by
  obtain ⟨r, a, b⟩ := x
  exact ⟨r, a, b.mono e⟩
theorem HasAt.upd {K : PySem.W.Frag} {H : Hp} {h : List T3} {u : V} {t : Tr} {L : Addr} {ys : List V} {o : HO} (x : HasAt K H h u t) (hL : H L = some (.lst ys)) : HasAt K (L2.upd H L o) h u t := by
  obtain ⟨r, a, b⟩ := x
  exact ⟨r, a, b.upd hL⟩
def RulesAll (K : PySem.W.Frag) (H : Hp) (z : V) (L : List Tr) (h : List T3) : Prop := ∃ p a us, z = .ref p ∧ SqT K H p [.str "rules", .ref a] ∧ SqL K H a us ∧ Paired (HasAt K H h) us L
def RulesMix (K : PySem.W.Frag) (H : Hp) (z : V) (L : List Tr) (h : List T3) : Prop := ∃ p k x v a b r s, z = .ref p ∧ SqT K H p [.str "mixed", .int (k : Nat), x] ∧ T3At K H x (v.test r s) ∧ L[k]? = some (.fold v a b) ∧ a.rule h = some r ∧ b.rule h = some s ∧ v.rule r s h = none ∧
  ∀ j t, j < k → L[j]? = some t → ∃ r, t.rule h = some r
def spRulesOn (K : PySem.W.Frag) : Sp := fun vs H Q _ => ∃ rv hv L h, vs = [rv, hv] ∧ RowsAt K H rv (rowsOf L) ∧ Cl L ∧ 0 < L.length ∧ L.length ≤ 100 ∧ (∀ t, t ∈ L → t.size ≤ 400) ∧ HullAt K H hv h ∧ 0 < h.length ∧ h.length ≤ 2000 ∧
  ∀ z H', Same H H' → (RulesAll K H' z L h ∨ RulesMix K H' z L h) → Q z H'
theorem Txt.plainAt (T : Txt w K mg) (H : Hp) {t : Tr} {x : Str} {r : T3} (h : (t = .never ∧ x = "never") ∨ (t = .always ∧ x = "always") ∨ (t = .p ∧ x = "p") ∨ (t = .q ∧ x = "q")) (hr : ∀ h, t.rule h = some r) : ∃ u, KDct K w (He.ga K "PLAIN_rules") x u ∧ T3At K H u r := by
  obtain ⟨es, n, D⟩ := T.says.tab 0 (t := ((fun K => He.ga K "PLAIN_rules"), ["never", "always", "p", "q"])) rfl
  have key : ∀ {x : Str} {ns : List Int}, intsAtB K (PySem.W.nsIn K (He.ga K "PLAIN_rules") x) ns = true → ∃ a, KDct K w (He.ga K "PLAIN_rules") x (.ref a) ∧ SqT K H a (ns.map V.int) := fun {x ns} hb => by
    unfold intsAtB at hb
    split at hb
    · rename_i t e
      split at hb
      · rename_i c od its m sl e2
        simp only [Bool.and_eq_true, decide_eq_true_eq] at hb
        exact ⟨t, ⟨es, n, _, D.at_, D.lit, e, rfl⟩, .inr ⟨_, its, m, e2, congrArg Value.type hb.1, rfl, hb.2.1, He.relAll_ok hb.2.2⟩⟩
      · cases hb
    · cases hb
  rcases h with ⟨rfl, rfl⟩ | ⟨rfl, rfl⟩ | ⟨rfl, rfl⟩ | ⟨rfl, rfl⟩
  · obtain ⟨a, k1, k2⟩ := key T.exb.r0
    cases hr []
    exact ⟨_, k1, a, rfl, k2⟩
  · obtain ⟨a, k1, k2⟩ := key T.exb.r1
    cases hr []
    exact ⟨_, k1, a, rfl, k2⟩
  · obtain ⟨a, k1, k2⟩ := key T.exb.r2
    cases hr []
    exact ⟨_, k1, a, rfl, k2⟩
  · obtain ⟨a, k1, k2⟩ := key T.exb.r3
    cases hr []
    exact ⟨_, k1, a, rfl, k2⟩
theorem ix_get {L : List Tr} {c : Tr} {i : Nat} (h : c ∈ L) (hi : ix L c < i) : (L.take i)[ix L c]? = some c := by
  rw [List.getElem?_take_of_lt hi]
  have hl := List.idxOf_lt_length_of_mem h
  unfold ix
  rw [List.getElem?_eq_getElem hl, List.getElem_idxOf]
theorem c_rules_on (T : Txt w K mg) : C8.Cal P w K mg base 4 "rules_on" (spRulesOn K) [] := T.cal_rules_on fun fd F => by
  have c_rows_fault := c_rows_fault (P := P) (base := base) T
  have c_rest_of := c_rest_of (P := P) (base := base) T
  have c_fold_rule := c_fold_rule (P := P) (base := base) T
  have z_len := T.z_len
  have z_enumerate := T.z_enumerate
  have g_ONE := T.g_ONE
  have g_PLAIN_rules := T.g_PLAIN_rules
  refine fnD_ok F sc_rules_on (fun vs H Q E h => ?_) (fun cdv A outer s H vs Q E hr h => ?_)
  · obtain ⟨rv, hv, L, h, rfl, _⟩ := h
    rfl
  obtain ⟨rv, hv, L, h, rfl, ⟨ra, rs, rfl, hS, hP⟩, C, l0, l100, hsz, hH, h0, h2000, q⟩ := h
  have hl : rs.length = L.length := by rw [hP.length]; exact List.length_map _
  have row_at : ∀ (i : Nat) (t : Tr), L[i]? = some t → (rowsOf L)[i]? = some (t.enc (ix L)) := fun i t e => by
    unfold rowsOf
    rw [List.getElem?_map, e]
    rfl
  refine ⟨_, (pss_cons (ps_set (i := 2) sc_rules_on.nd rfl (Or.inl rfl) (C8.pe_c c_rows_fault hr (by omega) (by rfl) (pa_cons (pv 0) pa_nil)))
  (pss_cons (ps_if (pt_cmpR op_notN (pv 2) pe_non (nomark _)) (pss_one ps_never) pss_nil)
  (pss_cons (ps_set (i := 3) sc_rules_on.nd rfl (Or.inl rfl) (pe_lst pa_nil))
  (pss_cons (ps_for PassesOwn.never rfl (pi_enum (by rfl) z_enumerate (pa_cons (pv 0) pa_nil)) (pg_tup rfl (pgs_cons (pg_name (i := 4) sc_rules_on.nd rfl (Or.inl rfl)) (pgs_cons (pg_name (i := 5) sc_rules_on.nd rfl (Or.inl rfl)) pgs_nil))) (pss_one (ps_if (pt_cmpR op_eq (pe_callB call_len_seq (by rfl) z_len b_len (pa_cons (pv 5) pa_nil)) pe_int (nomark _)) (pss_one (ps_expr (pe_bm PySem.F.plainAttrs_list PySem.F.slot_list_append PySem.F.type_list_append mt_append (pv 3) (pa_cons (pe_ix ix_kdict (pe_glob (v := .ref (He.ga K "PLAIN_rules")) (by rfl) g_PLAIN_rules rfl) (pe_ix (r := rIxT K) ix_tup (pv 5) pe_int (fun _ _ => rfl)) (fun _ _ => rfl)) pa_nil)))) (pss_one (ps_if (pt_cmpR op_eq (pe_ix (r := rIxT K) ix_tup (pv 5) pe_int (fun _ _ => rfl)) pe_str (nomark _)) (pss_one (ps_expr (pe_bm PySem.F.plainAttrs_list PySem.F.slot_list_append PySem.F.type_list_append mt_append (pv 3) (pa_cons (C8.pe_c c_rest_of hr (by omega) (by rfl) (pa_cons (pe_glob (v := .ref (He.ga K "ONE")) (by rfl) g_ONE rfl) (pa_cons (pe_ix (r := rIxL K) ix_list (pv 3) (pe_ix (r := rIxT K) ix_tup (pv 5) pe_int (fun _ _ => rfl)) (fun _ _ => rfl)) pa_nil))) pa_nil)))) (pss_cons (ps_asg (C8.pe_c c_fold_rule hr (by omega) (by rfl) (pa_cons (pe_ix (r := rIxT K) ix_tup (pv 5) pe_int (fun _ _ => rfl)) (pa_cons (pe_ix (r := rIxL K) ix_list (pv 3) (pe_ix (r := rIxT K) ix_tup (pv 5) pe_int (fun _ _ => rfl)) (fun _ _ => rfl)) (pa_cons (pe_ix (r := rIxL K) ix_list (pv 3) (pe_ix (r := rIxT K) ix_tup (pv 5) pe_int (fun _ _ => rfl)) (fun _ _ => rfl)) (pa_cons (pv 1) pa_nil))))) (pg_tup rfl (pgs_cons (pg_name (i := 6) sc_rules_on.nd rfl (Or.inl rfl)) (pgs_cons (pg_name (i := 7) sc_rules_on.nd rfl (Or.inl rfl)) pgs_nil))))
  (pss_cons (ps_if (pt_cmpR op_isN (pv 6) pe_non (nomark _)) (pss_one (ps_ret (pe_tup (pa_cons pe_str (pa_cons (pv 4) (pa_cons (pv 7) pa_nil)))))) pss_nil)
  (pss_one (ps_expr (pe_bm PySem.F.plainAttrs_list PySem.F.slot_list_append PySem.F.type_list_append mt_append (pv 3) (pa_cons (pv 6) pa_nil)))))))))))
  (pss_one (ps_ret (pe_tup (pa_cons pe_str (pa_cons (pv 3) pa_nil))))))))), ?_⟩
  refine ⟨_, rfl, ra, rs, rowsOf L, rfl, hS, hP, by rw [show (rowsOf L).length = L.length from List.length_map _]; exact l0, by rw [show (rowsOf L).length = L.length from List.length_map _]; exact l100, fun i k hk => ?_, fun H1 s1 => ?_⟩
  · unfold rowsOf at hk
    rw [List.getElem?_map] at hk
    cases e : L[i]? with
    | none =>
      rw [e] at hk
      cases hk
    | some t =>
      rw [e] at hk
      cases hk
      exact good_row C e
  refine ⟨_, rfl, rfl, _, rfl, iteF ?_⟩
  refine ⟨Nat.zero_le _, fun G hG => ?_⟩
  have s2 := s1.trans (same_new hG (.lst []))
  have hG0 : H G = none := s1.free hG
  refine ⟨_, rfl, ra, _, rfl, s2.seq hS, for_enum (K := K) (a := ra) (xs := rs) (fun i σ H' => ∃ x4 x5 x6 x7 us, σ = [some (.ref ra), some hv, some .non, some (.ref G), x4, x5, x6, x7] ∧ Same H H' ∧ H' G = some (.lst us) ∧ Paired (HasAt K H' h) us (L.take i))
    ⟨none, none, none, none, [], rfl, s2, upd_same, .nil⟩ (fun i σ H' _ ⟨_, _, _, _, _, _, s, _⟩ => s.seq hS) (fun i x Tp σ H' hx hp hT => ?_) fun σ H' hp => ?_⟩
  · obtain ⟨x4, x5, x6, x7, us, rfl, s3, eG, hU⟩ := hp
    have s4 := same_new hT (.tup [.int (i : Nat), x])
    have s34 := s3.trans s4
    have hi : i < L.length := by rw [← hl]; exact (List.getElem?_eq_some_iff.mp hx).1
    obtain ⟨t, ht⟩ : ∃ t, L[i]? = some t := ⟨_, List.getElem?_eq_getElem hi⟩
    obtain ⟨k, hk, a, rfl, ha⟩ := Paired.at1 hP hx
    rw [row_at i t ht] at hk
    cases hk
    have ha4 := s34 _ _ ha
    have eG4 := s4 _ _ eG
    have hU4 : Paired (HasAt K (upd H' Tp (.tup [.int (i : Nat), .ref a])) h) us (L.take i) := Paired.map1 hU fun _ _ => HasAt.mono s4
    have ul : us.length ≤ 100 := by
      have := hU.length
      rw [List.length_take] at this
      omega
    have take1 : L.take (i + 1) = L.take i ++ [t] := take_snoc ht
    -- the rule of a part that stands ahead
    have kidAt : ∀ c, c ∈ kids t → ∃ u r, us[ix L c]? = some u ∧ c.rule h = some r ∧ T3At K (upd H' Tp (.tup [.int (i : Nat), .ref a])) u r ∧ c.size ≤ 400 := fun c hc => by
      obtain ⟨m1, m2⟩ := C.kid i t c ht hc
      obtain ⟨u, e1, r, e2, e3⟩ := Paired.at2 hU4 (ix_get m1 m2)
      exact ⟨u, r, e1, e2, e3, hsz c m1⟩
    -- what is appended
    have fin : ∀ {u : V} {H5 : Hp} {σ5 : L2.St}, Same (upd H' Tp (.tup [.int (i : Nat), .ref a])) H5 → HasAt K H5 h u t → (∃ x4 x5 x6 x7, σ5 = [some (.ref ra), some hv, some .non, some (.ref G), x4, x5, x6, x7]) →
        ∃ x4 x5 x6 x7 us', σ5 = [some (.ref ra), some hv, some .non, some (.ref G), x4, x5, x6, x7] ∧ Same H (upd H5 G (.lst (us ++ [u]))) ∧ (upd H5 G (.lst (us ++ [u]))) G = some (.lst us') ∧ Paired (HasAt K (upd H5 G (.lst (us ++ [u]))) h) us' (L.take (i + 1)) := fun {u H5 σ5} s5 hu ⟨y4, y5, y6, y7, e⟩ => by
      have eG5 := s5 _ _ eG4
      refine ⟨y4, y5, y6, y7, us ++ [u], e, same_mut (s34.trans s5) hG0, upd_same, ?_⟩
      rw [take1]
      exact Paired.snoc (Paired.map1 hU4 fun _ _ x => (x.mono s5).upd eG5) (hu.upd eG5)
    refine ⟨Tp, _, rfl, SqT.of upd_same, rfl, _, _, rfl, _, _, rfl, rfl, ?_⟩
    generalize eH4 : upd H' Tp (.tup [.int (i : Nat), .ref a]) = H4 at *
    cases t with
    | never =>
      have hT1 : SqT K H4 a [.str "never"] := SqT.of ha4
      refine ⟨_, rfl, a, _, rfl, .inr hT1, rfl, _, rfl, iteT ?_⟩
      obtain ⟨u, kd, hu⟩ := T.plainAt H4 (t := .never) (.inl ⟨rfl, rfl⟩) (fun _ => rfl)
      refine ⟨_, rfl, .inl ⟨rfl, _, SqL.of eG4⟩, _, rfl, a, _, _, _, rfl, rfl, hT1, at_of (j := 0) rfl rfl, _, _, u, rfl, rfl, kd, G, _, _, rfl, rfl, eG4, small_line (by omega), ?_⟩
      exact fin (Same.refl _) ⟨_, rfl, hu⟩ ⟨_, _, _, _, rfl⟩
    | always =>
      have hT1 : SqT K H4 a [.str "always"] := SqT.of ha4
      refine ⟨_, rfl, a, _, rfl, .inr hT1, rfl, _, rfl, iteT ?_⟩
      obtain ⟨u, kd, hu⟩ := T.plainAt H4 (t := .always) (.inr (.inl ⟨rfl, rfl⟩)) (fun _ => rfl)
      refine ⟨_, rfl, .inl ⟨rfl, _, SqL.of eG4⟩, _, rfl, a, _, _, _, rfl, rfl, hT1, at_of (j := 0) rfl rfl, _, _, u, rfl, rfl, kd, G, _, _, rfl, rfl, eG4, small_line (by omega), ?_⟩
      exact fin (Same.refl _) ⟨_, rfl, hu⟩ ⟨_, _, _, _, rfl⟩
    | p =>
      have hT1 : SqT K H4 a [.str "p"] := SqT.of ha4
      refine ⟨_, rfl, a, _, rfl, .inr hT1, rfl, _, rfl, iteT ?_⟩
      obtain ⟨u, kd, hu⟩ := T.plainAt H4 (t := .p) (.inr (.inr (.inl ⟨rfl, rfl⟩))) (fun _ => rfl)
      refine ⟨_, rfl, .inl ⟨rfl, _, SqL.of eG4⟩, _, rfl, a, _, _, _, rfl, rfl, hT1, at_of (j := 0) rfl rfl, _, _, u, rfl, rfl, kd, G, _, _, rfl, rfl, eG4, small_line (by omega), ?_⟩
      exact fin (Same.refl _) ⟨_, rfl, hu⟩ ⟨_, _, _, _, rfl⟩
    | q =>
      have hT1 : SqT K H4 a [.str "q"] := SqT.of ha4
      refine ⟨_, rfl, a, _, rfl, .inr hT1, rfl, _, rfl, iteT ?_⟩
      obtain ⟨u, kd, hu⟩ := T.plainAt H4 (t := .q) (.inr (.inr (.inr ⟨rfl, rfl⟩))) (fun _ => rfl)
      refine ⟨_, rfl, .inl ⟨rfl, _, SqL.of eG4⟩, _, rfl, a, _, _, _, rfl, rfl, hT1, at_of (j := 0) rfl rfl, _, _, u, rfl, rfl, kd, G, _, _, rfl, rfl, eG4, small_line (by omega), ?_⟩
      exact fin (Same.refl _) ⟨_, rfl, hu⟩ ⟨_, _, _, _, rfl⟩
    | neg c =>
      have hT1 : SqT K H4 a [.str "not", .int (ix L c : Nat)] := SqT.of ha4
      obtain ⟨u, r, e1, e2, e3, _⟩ := kidAt c (List.mem_singleton.mpr rfl)
      refine ⟨_, rfl, a, _, rfl, .inr hT1, rfl, _, rfl, iteF ?_⟩
      refine ⟨_, rfl, a, _, _, _, rfl, rfl, hT1, at_of (j := 0) rfl rfl, rfl, _, rfl, iteT ?_⟩
      refine ⟨_, rfl, .inl ⟨rfl, _, SqL.of eG4⟩, _, rfl, _, rfl, a, _, _, _, rfl, rfl, hT1, at_of (j := 1) rfl rfl, G, _, _, _, rfl, rfl, SqL.of eG4, at_of rfl e1, _, _, _, _, rfl, T.oneAt H4, e3, fun z H5 s5 hz => ?_⟩
      refine ⟨G, _, _, rfl, rfl, s5 _ _ eG4, small_line (by omega), ?_⟩
      refine fin s5 ⟨_, ?_, hz⟩ ⟨_, _, _, _, rfl⟩
      simp only [Tr.rule, e2]
      rfl
    | fold v c d =>
      have hT1 : SqT K H4 a [.str v.str, .int (ix L c : Nat), .int (ix L d : Nat)] := SqT.of ha4
      obtain ⟨u1, r1, e1, e2, e3, z1⟩ := kidAt c (List.mem_cons_self ..)
      obtain ⟨u2, r2, f1, f2, f3, z2⟩ := kidAt d (List.mem_cons_of_mem _ (List.mem_singleton.mpr rfl))
      have hin : (v.test r1 r2).In 1000 := In.mono (Wd.test_in (Tr.rule_in e2) (Tr.rule_in f2)) (by omega)
      refine ⟨_, rfl, a, _, rfl, .inr hT1, rfl, _, rfl, iteF ?_⟩
      refine ⟨_, rfl, a, _, _, _, rfl, rfl, hT1, at_of (j := 0) rfl rfl, rfl, _, rfl, ?_⟩
      rw [decide_eq_false (show ¬ V.str v.str = V.str "not" from fun z => by have := V.str.inj z; revert this; cases v <;> decide +kernel)]
      refine iteF ?_
      refine ⟨_, rfl, a, _, _, _, rfl, rfl, hT1, at_of (j := 0) rfl rfl, _, rfl, _, rfl, a, _, _, _, rfl, rfl, hT1, at_of (j := 1) rfl rfl, G, _, _, _, rfl, rfl, SqL.of eG4, at_of rfl e1, _, rfl, _, rfl, a, _, _, _, rfl, rfl, hT1, at_of (j := 2) rfl rfl, G, _, _, _, rfl, rfl, SqL.of eG4, at_of rfl f1, _, rfl,
        v, u1, u2, hv, r1, r2, h, rfl, e3, f3, hH.mono s34, h0, h2000, hin, fun z H5 s5 hz => ?_⟩
      obtain ⟨zp, zu, zx, rfl, hzT, hzx, hzu⟩ := hz
      refine ⟨zp, _, rfl, hzT, rfl, _, _, rfl, _, _, rfl, rfl, ?_⟩
      cases er : v.rule r1 r2 h with
      | none =>
        rw [er] at hzu
        have e : zu = .non := hzu
        subst e
        refine ⟨_, rfl, rfl, _, rfl, iteT ?_⟩
        refine ⟨_, rfl, _, rfl, (by show 3 ≤ sizeLine; decide), fun p hp => ?_⟩
        have s6 := same_new hp (.tup [.str "mixed", .int (i : Nat), zx])
        refine q _ _ ((s34.trans s5).trans s6) (.inr ⟨p, i, zx, v, c, d, r1, r2, rfl, SqT.of upd_same, hzx.mono s6, ht, e2, f2, er, fun j t' hj ht' => ?_⟩)
        have : (L.take i)[j]? = some t' := by rw [List.getElem?_take_of_lt hj]; exact ht'
        obtain ⟨u, _, r, g1, _⟩ := Paired.at2 hU4 this
        exact ⟨r, g1⟩
      | some rr =>
        rw [er] at hzu
        obtain ⟨hzu, nz⟩ := hzu
        refine ⟨_, rfl, rfl, _, rfl, ?_⟩
        rw [decide_eq_false nz]
        refine iteF ⟨_, rfl, .inl ⟨rfl, _, SqL.of (s5 _ _ eG4)⟩, _, rfl, G, _, _, rfl, rfl, s5 _ _ eG4, small_line (by omega), ?_⟩
        refine fin s5 ⟨rr, ?_, hzu⟩ ⟨_, _, _, _, rfl⟩
        simp only [Tr.rule, e2, f2]
        exact er
  · obtain ⟨x4, x5, x6, x7, us, rfl, s3, eG, hU⟩ := hp
    rw [hl, List.take_length] at hU
    refine ⟨_, rfl, (by show 2 ≤ sizeLine; decide), fun p hp => ?_⟩
    have s5 := same_new hp (.tup [.str "rules", .ref G])
    exact q _ _ (s3.trans s5) (.inl ⟨p, G, us, rfl, SqT.of upd_same, SqL.of (s5 _ _ eG), Paired.map1 hU fun _ _ => HasAt.mono s5⟩)
end
end K55

namespace K55
/-! ### trees of cuts -/
inductive CT where
  | leaf
  | cut (r : T3) (lo hi : CT)
def CT.dep : CT → Nat
  | .leaf => 0
  | .cut _ x y => max x.dep y.dep + 1
def CT.hulls : CT → List T3 → List (List T3)
  | .leaf, h => [h]
  | .cut r x y, h => x.hulls (lowH r h) ++ y.hulls (highH r h)
def CT.On : CT → List T3 → Prop
  | .leaf, _ => True
  | .cut r x y, h => r.In 32 ∧ Cuts r h ∧ x.On (lowH r h) ∧ y.On (highH r h)
theorem CT.leaf_ok : ∀ {ct : CT} {h : List T3} {d : Nat}, ct.On h → HOk d h → ∀ g, g ∈ ct.hulls h → ∃ e, e ≤ d + ct.dep ∧ HOk e g
  | .leaf, h, d, _, O, g, hg => ⟨d, Nat.le_add_right _ _, by rw [List.mem_singleton.mp hg]; exact O⟩
  | .cut r x y, h, d, ⟨hr, c, ox, oy⟩, O, g, hg => by
    rcases List.mem_append.mp hg with m | m
    · obtain ⟨e, e1, e2⟩ := CT.leaf_ok ox (low_ok O hr c) g m
      exact ⟨e, by simp only [CT.dep]; omega, e2⟩
    · obtain ⟨e, e1, e2⟩ := CT.leaf_ok oy (high_ok O hr c) g m
      exact ⟨e, by simp only [CT.dep]; omega, e2⟩
/-- a corner of the whole is a corner of a leaf -/
theorem CT.corner : ∀ {ct : CT} {h : List T3} {k : T3}, k ∈ h → ∃ g, g ∈ ct.hulls h ∧ k ∈ g
  | .leaf, h, k, hk => ⟨h, List.mem_singleton.mpr rfl, hk⟩
  | .cut r x y, h, k, hk => by
    rcases part_mem (r := r) hk with m | m
    · obtain ⟨g, a, b⟩ := CT.corner (ct := x) m
      exact ⟨g, List.mem_append_left _ a, b⟩
    · obtain ⟨g, a, b⟩ := CT.corner (ct := y) m
      exact ⟨g, List.mem_append_right _ a, b⟩
theorem CT.count : ∀ (ct : CT) (h : List T3), (ct.hulls h).length ≤ 2 ^ ct.dep
  | .leaf, h => Nat.le_refl _
  | .cut r x y, h => by
    have a := CT.count x (lowH r h)
    have b := CT.count y (highH r h)
    have c : 2 ^ x.dep ≤ 2 ^ max x.dep y.dep := Nat.pow_le_pow_right (by decide) (Nat.le_max_left _ _)
    have d : 2 ^ y.dep ≤ 2 ^ max x.dep y.dep := Nat.pow_le_pow_right (by decide) (Nat.le_max_right _ _)
    simp only [CT.hulls, CT.dep, List.length_append, Nat.pow_succ]
    omega
/-! ### a rule stays on a part -/
structure Inside (g h : List T3) : Prop where
  ge : ∀ s, GeAll s h → GeAll s g
  le : ∀ s, LeAll s h → LeAll s g
theorem inside_low {d : Nat} {r : T3} {h : List T3} (O : HOk d h) : Inside (lowH r h) h := ⟨fun _ g => ge_low O.pos O.up g, fun _ g => le_low O.pos O.up g⟩
theorem inside_high {d : Nat} {r : T3} {h : List T3} (O : HOk d h) : Inside (highH r h) h := ⟨fun _ g => ge_high O.pos O.up g, fun _ g => le_high O.pos O.up g⟩
theorem low_high {w : Wd} {r s : T3} (h : w.test r s = .nil) : w.low r s = w.high r s := by
  cases r
  cases s
  cases w <;> simp only [Wd.test, T3.add, T3.sub, T3.one, T3.nil, T3.mk.injEq] at h <;> simp only [Wd.low, Wd.high, T3.add, T3.sub, T3.one, T3.nil, T3.mk.injEq] <;> omega
theorem wd_keep {d : Nat} {g h : List T3} (I : Inside g h) (O : HOk d g) {w : Wd} {r s t : T3} (e : w.rule r s h = some t) : w.rule r s g = some t := by
  unfold Wd.rule at e ⊢
  by_cases a : LeAll (w.test r s) h
  · rw [if_pos a] at e
    rw [if_pos (I.le _ a)]
    exact e
  · rw [if_neg a] at e
    by_cases b : GeAll (w.test r s) h
    · rw [if_pos b] at e
      have b' := I.ge _ b
      by_cases c : LeAll (w.test r s) g
      · rw [if_pos c, low_high (O.flat fun k hk => by have := c k hk; have := b' k hk; omega)]
        exact e
      · rw [if_neg c, if_pos b']
        exact e
    · rw [if_neg b] at e
      cases e
theorem rule_keep {d : Nat} {g h : List T3} (I : Inside g h) (O : HOk d g) : ∀ {t : Tr} {r : T3}, t.rule h = some r → t.rule g = some r
  | .never, _, e => e
  | .always, _, e => e
  | .p, _, e => e
  | .q, _, e => e
  | .neg a, r, e => by
    simp only [Tr.rule, Option.map_eq_some_iff] at e ⊢
    obtain ⟨s, e1, e2⟩ := e
    exact ⟨s, rule_keep I O e1, e2⟩
  | .fold w a b, r, e => by
    simp only [Tr.rule] at e ⊢
    cases ea : a.rule h with
    | none => rw [ea] at e; cases e
    | some ra =>
      cases eb : b.rule h with
      | none => rw [ea, eb] at e; cases e
      | some rb =>
        rw [ea, eb] at e
        rw [rule_keep I O ea, rule_keep I O eb]
        exact wd_keep I O e
/-! ### how many folds have no rule -/
def lacks (h : List T3) (t : Tr) : Bool := isFold t && (t.rule h).isNone
def miss (L : List Tr) (h : List T3) : Nat := (L.filter (lacks h)).length
theorem filter_le {α : Type} {p q : α → Bool} : ∀ {L : List α}, (∀ x, x ∈ L → q x = true → p x = true) → (L.filter q).length ≤ (L.filter p).length
  | [], _ => Nat.le_refl _
  | a :: L, h => by
    have ih := filter_le (L := L) fun x hx => h x (List.mem_cons_of_mem _ hx)
    rw [List.filter_cons, List.filter_cons]
    by_cases c : q a = true
    · rw [if_pos c, if_pos (h a (List.mem_cons_self ..) c), List.length_cons, List.length_cons]
      omega
    · rw [if_neg c]
      split <;> (try rw [List.length_cons]) <;> omega
theorem filter_lt {α : Type} {p q : α → Bool} {y : α} : ∀ {L : List α}, (∀ x, x ∈ L → q x = true → p x = true) → y ∈ L → p y = true → q y = false → (L.filter q).length < (L.filter p).length
  | [], _, hy, _, _ => nomatch hy
  | a :: L, h, hy, h1, h2 => by
    have le := filter_le (L := L) fun x hx => h x (List.mem_cons_of_mem _ hx)
    rw [List.filter_cons, List.filter_cons]
    rcases List.mem_cons.mp hy with e | hy
    · subst e
      rw [if_neg (by rw [h2]; decide), if_pos h1, List.length_cons]
      omega
    · have lt := filter_lt (L := L) (fun x hx => h x (List.mem_cons_of_mem _ hx)) hy h1 h2
      by_cases c : q a = true
      · rw [if_pos c, if_pos (h a (List.mem_cons_self ..) c), List.length_cons, List.length_cons]
        omega
      · rw [if_neg c]
        split <;> (try rw [List.length_cons]) <;> omega
theorem miss_lt {d : Nat} {g h : List T3} (I : Inside g h) (O : HOk d g) {L : List Tr} {v : Wd} {a b : Tr} {r s t : T3} (m : Tr.fold v a b ∈ L) (ea : a.rule h = some r) (eb : b.rule h = some s) (en : v.rule r s h = none) (eg : v.rule r s g = some t) : miss L g < miss L h := by
  refine filter_lt (y := .fold v a b) (fun x _ hq => ?_) m ?_ ?_
  · unfold lacks at hq ⊢
    rw [Bool.and_eq_true] at hq ⊢
    refine ⟨hq.1, ?_⟩
    cases e : x.rule h with
    | none => rfl
    | some u =>
      rw [rule_keep I O e] at hq
      cases hq.2
  · unfold lacks
    simp only [isFold, Tr.rule, ea, eb, en, Option.isNone_none, Bool.and_self]
  · unfold lacks
    simp only [isFold, Tr.rule, rule_keep I O ea, rule_keep I O eb, eg, Option.isNone_some, Bool.and_false]
theorem miss_folds (L : List Tr) (h : List T3) : miss L h ≤ foldsIn L := filter_le fun x _ hx => by
  unfold lacks at hx
  exact (Bool.and_eq_true_iff.mp hx).1
theorem miss_pos {L : List Tr} {h : List T3} {v : Wd} {a b : Tr} {r s : T3} (m : Tr.fold v a b ∈ L) (ea : a.rule h = some r) (eb : b.rule h = some s) (en : v.rule r s h = none) : 0 < miss L h := by
  unfold miss
  refine List.length_pos_of_mem (a := .fold v a b) (List.mem_filter.mpr ⟨m, ?_⟩)
  unfold lacks
  simp only [isFold, Tr.rule, ea, eb, en, Option.isNone_none, Bool.and_self]
theorem cuts_of {v : Wd} {r s : T3} {h : List T3} (en : v.rule r s h = none) : Cuts (v.test r s) h := by
  unfold Wd.rule at en
  by_cases a : LeAll (v.test r s) h
  · rw [if_pos a] at en; cases en
  · by_cases b : GeAll (v.test r s) h
    · rw [if_neg a, if_pos b] at en; cases en
    · have ex : ∀ (p : T3 → Prop), (∀ k, Decidable (p k)) → (¬ ∀ k, k ∈ h → p k) → ∃ k, k ∈ h ∧ ¬ p k := fun p _ n => Classical.byContradiction fun z => n fun k hk => Classical.byContradiction fun q => z ⟨k, hk, q⟩
      obtain ⟨k1, m1, n1⟩ := ex (fun k => (v.test r s).tell k ≤ 0) (fun _ => inferInstance) a
      obtain ⟨k2, m2, n2⟩ := ex (fun k => 0 ≤ (v.test r s).tell k) (fun _ => inferInstance) b
      exact ⟨⟨k2, m2, by omega⟩, k1, m1, by omega⟩
theorem rule_low {d : Nat} {v : Wd} {r s : T3} {h : List T3} (O : HOk d h) : ∃ t, v.rule r s (lowH (v.test r s) h) = some t := by
  unfold Wd.rule
  rw [if_pos (low_le O.pos O.up)]
  exact ⟨_, rfl⟩
theorem rule_high {d : Nat} {v : Wd} {r s : T3} {h : List T3} (O : HOk d h) : ∃ t, v.rule r s (highH (v.test r s) h) = some t := by
  unfold Wd.rule
  by_cases a : LeAll (v.test r s) (highH (v.test r s) h)
  · rw [if_pos a]
    exact ⟨_, rfl⟩
  · rw [if_neg a, if_pos (high_ge O.pos O.up)]
    exact ⟨_, rfl⟩
/-! ### the rows of a saying: all its parts, itself last -/
def partsT : Tr → List Tr
  | .neg a => .neg a :: partsT a
  | .fold w a b => .fold w a b :: (partsT a ++ partsT b)
  | t => [t]
theorem mem_add {L : List Tr} {t u : Tr} : u ∈ addT L t ↔ u ∈ L ∨ u = t := by
  unfold addT
  by_cases h : t ∈ L
  · rw [if_pos h]
    constructor
    · exact .inl
    · rintro (m | rfl)
      · exact m
      · exact h
  · rw [if_neg h, List.mem_append, List.mem_singleton]
theorem mem_put : ∀ {t : Tr} {L : List Tr} {u : Tr}, u ∈ putT t L ↔ u ∈ L ∨ u ∈ partsT t
  | .never, L, u => by show u ∈ addT L _ ↔ _; rw [mem_add, partsT, List.mem_singleton] <;> intros <;> contradiction
  | .always, L, u => by show u ∈ addT L _ ↔ _; rw [mem_add, partsT, List.mem_singleton] <;> intros <;> contradiction
  | .p, L, u => by show u ∈ addT L _ ↔ _; rw [mem_add, partsT, List.mem_singleton] <;> intros <;> contradiction
  | .q, L, u => by show u ∈ addT L _ ↔ _; rw [mem_add, partsT, List.mem_singleton] <;> intros <;> contradiction
  | .neg a, L, u => by
    show u ∈ addT (putT a L) _ ↔ _
    rw [mem_add, mem_put (t := a), partsT, List.mem_cons]
    constructor
    · rintro ((h | h) | h)
      · exact .inl h
      · exact .inr (.inr h)
      · exact .inr (.inl h)
    · rintro (h | h | h)
      · exact .inl (.inl h)
      · exact .inr h
      · exact .inl (.inr h)
  | .fold w a b, L, u => by
    show u ∈ addT (putT b (putT a L)) _ ↔ _
    rw [mem_add, mem_put (t := b), mem_put (t := a), partsT, List.mem_cons, List.mem_append]
    constructor
    · rintro (((h | h) | h) | h)
      · exact .inl h
      · exact .inr (.inr (.inl h))
      · exact .inr (.inr (.inr h))
      · exact .inr (.inl h)
    · rintro (h | h | h | h)
      · exact .inl (.inl (.inl h))
      · exact .inr h
      · exact .inl (.inl (.inr h))
      · exact .inl (.inr h)
theorem put_last (t : Tr) : ∃ M, putT t [] = M ++ [t] := by
  cases t with
  | never => exact ⟨[], rfl⟩
  | always => exact ⟨[], rfl⟩
  | p => exact ⟨[], rfl⟩
  | q => exact ⟨[], rfl⟩
  | neg a =>
    refine ⟨putT a [], ?_⟩
    show addT (putT a []) _ = _
    unfold addT
    rw [if_neg fun h => ?_]
    rcases put_sizes a [] _ h with h | h
    · cases h
    · simp only [Tr.size] at h
      omega
  | fold w a b =>
    refine ⟨putT b (putT a []), ?_⟩
    show addT (putT b (putT a [])) _ = _
    unfold addT
    rw [if_neg fun h => ?_]
    rcases put_sizes b _ _ h with h | h
    · rcases put_sizes a [] _ h with h | h
      · cases h
      · simp only [Tr.size] at h
        omega
    · simp only [Tr.size] at h
      omega
/-- both sayings' rows: those of the greater of both, but the last -/
def bothT (s t : Tr) : List Tr := putT t (putT s [])
theorem both_put (s t : Tr) (w : Wd) : putT (.fold w s t) [] = bothT s t ++ [.fold w s t] := by
  show addT (putT t (putT s [])) _ = _
  unfold addT
  rw [if_neg fun h => ?_]
  · rfl
  · rcases put_sizes t _ _ h with h | h
    · rcases put_sizes s [] _ h with h | h
      · cases h
      · simp only [Tr.size] at h
        omega
    · simp only [Tr.size] at h
      omega
theorem both_cl (s t : Tr) : Cl (bothT s t) := (put_ok t (put_ok s cl_nil).1).1
theorem both_rows (s t : Tr) (w : Wd) : rowsOf (putT (.fold w s t) []) = rowsOf (bothT s t) ++ [Tr.enc (ix (bothT s t)) (.fold w s t)] := by
  rw [both_put, rowsOf_app (both_cl s t)]
  intro c hc
  have a := (put_ok s cl_nil).2.2.1
  have b := (put_ok t (put_ok s cl_nil).1).2.2
  rcases List.mem_cons.mp hc with rfl | hc
  · obtain ⟨M, e⟩ := b.2
    unfold bothT
    rw [e]
    exact List.mem_append_left _ a
  · rw [List.mem_singleton.mp hc]
    exact b.1
theorem both_mem {s t u : Tr} : u ∈ bothT s t ↔ u ∈ partsT s ∨ u ∈ partsT t := by
  unfold bothT
  rw [mem_put, mem_put]
  constructor
  · rintro ((h | h) | h)
    · cases h
    · exact .inl h
    · exact .inr h
  · rintro (h | h)
    · exact .inl (.inr h)
    · exact .inr h
theorem self_part (t : Tr) : t ∈ partsT t := by cases t <;> simp [partsT]
theorem part_size {t u : Tr} (h : u ∈ partsT t) : u.size ≤ t.size := by
  have := put_sizes t [] u (mem_put.mpr (.inr h))
  rcases this with h | h
  · cases h
  · exact h
theorem both_folds (s t : Tr) : foldsIn (bothT s t) ≤ s.folds + t.folds := by
  have a := (put_folds s []).1
  have b := (put_folds t (putT s [])).1
  have c : foldsIn [] = 0 := rfl
  unfold bothT
  omega
theorem both_len (s t : Tr) : 0 < (bothT s t).length ∧ (bothT s t).length ≤ s.size + t.size := by
  have a := (put_folds s []).2
  have b := (put_folds t (putT s [])).2
  refine ⟨List.length_pos_of_mem (both_mem.mpr (.inl (self_part s))), ?_⟩
  unfold bothT
  simp only [List.length_nil] at a
  omega
theorem put1 (s : Tr) : Cl (putT s []) ∧ encPut s [] = (rowsOf (putT s []), ix (putT s []) s) := by
  have := put_ok s cl_nil
  exact ⟨this.1, this.2.1⟩
/-- on all leaves each of these has a rule -/
def Full (L : List Tr) (ct : CT) (h : List T3) : Prop := ct.On h ∧ ∀ g, g ∈ ct.hulls h → ∀ t, t ∈ L → ∃ r, t.rule g = some r
end K55

namespace K55
open PySem PySem.Spec PyProof.Rows L2
/-- a tree of cuts in the heap -/
def CtAt (K : PySem.W.Frag) (H : Hp) : V → CT → Prop
  | v, .leaf => ∃ a, v = .ref a ∧ SqT K H a [.str "leaf"]
  | v, .cut r x y => ∃ a u b c, v = .ref a ∧ SqT K H a [.str "cut", u, b, c] ∧ T3At K H u r ∧ CtAt K H b x ∧ CtAt K H c y
theorem CtAt.mono {K : PySem.W.Frag} {H H' : Hp} (e : Same H H') : ∀ {t : CT} {v : V}, CtAt K H v t → CtAt K H' v t
  | .leaf, _, ⟨a, h1, h2⟩ => ⟨a, h1, sqt e h2⟩
  | .cut _ _ _, _, ⟨a, u, b, c, h1, h2, h3, h4, h5⟩ => ⟨a, u, b, c, h1, sqt e h2, h3.mono e, CtAt.mono e h4, CtAt.mono e h5⟩
/-- a list of hulls, the program's own -/
def HullsAt (K : PySem.W.Frag) (H : Hp) (a : Addr) (hs : List (List T3)) : Prop := ∃ us, H a = some (.lst us) ∧ Paired (HullAt K H) us hs
theorem HullsAt.mono {K : PySem.W.Frag} {H H' : Hp} {a : Addr} {hs : List (List T3)} (e : Same H H') (h : HullsAt K H a hs) : HullsAt K H' a hs := by
  obtain ⟨us, h1, h2⟩ := h
  exact ⟨us, e _ _ h1, Paired.map1 h2 fun _ _ => HullAt.mono e⟩
theorem Paired.app {α β : Type} {F : α → β → Prop} {l l' : List α} {m m' : List β} (h : Paired F l m) (k : Paired F l' m') : Paired F (l ++ l') (m ++ m') := by
  induction h with
  | nil => exact k
  | cons r _ ih => exact .cons r ih
theorem cut_last (xs : List V) : cutV xs none (some (-1)) = xs.dropLast := by
  unfold cutV
  rw [show HT.sIx xs.length 0 none = 0 from rfl, List.drop_zero, List.dropLast_eq_take, Nat.sub_zero]
  congr 1
  show (if (-1 : Int) < 0 then ((-1 : Int) + (xs.length : Int)).toNat else min (-1 : Int).toNat xs.length) = xs.length - 1
  rw [if_pos (by decide)]
  omega
theorem Paired.last {α β : Type} {F : α → β → Prop} {l : List α} {m : List β} {y : β} (h : Paired F l (m ++ [y])) : ∃ l' x, l = l' ++ [x] ∧ F x y ∧ Paired F l' m := by
  induction m generalizing l with
  | nil =>
    cases h with
    | cons r t => cases t; exact ⟨[], _, rfl, r, .nil⟩
  | cons b m ih =>
    cases h with
    | cons r t =>
      obtain ⟨l', x, e, f, g⟩ := ih t
      exact ⟨_ :: l', x, by rw [e]; rfl, f, .cons r g⟩
theorem Paired.dropLast {α β : Type} {F : α → β → Prop} {l : List α} {m : List β} {y : β} (h : Paired F l (m ++ [y])) : Paired F l.dropLast m := by
  obtain ⟨l', x, e, _, g⟩ := Paired.last h
  rw [e, List.dropLast_concat]
  exact g
section
variable {P : Program} {w : World} {K : PySem.W.Frag} {mg : Str → Option Value} {base : Heap}
/-! ### grown -/
def spGrown (K : PySem.W.Frag) (L : List Tr) (n : Nat) : Sp := fun vs H Q _ => ∃ rv hv h d, vs = [rv, hv] ∧ RowsAt K H rv (rowsOf L) ∧ HullAt K H hv h ∧ HOk d h ∧ miss L h < n ∧ d + miss L h ≤ 8 ∧
  ∀ z H' ct, Same H H' → CtAt K H' z ct → Full L ct h → ct.dep ≤ miss L h → Q z H'
theorem c_grown (T : Txt w K mg) {L : List Tr} (C : Cl L) (l0 : 0 < L.length) (l100 : L.length ≤ 100) (hsz : ∀ t, t ∈ L → t.size ≤ 32) : ∀ n : Nat, C8.Cal P w K mg base (n + 4) "grown" (spGrown K L n) []
  | 0 => T.cal_grown fun fd F => fn_none fun vs H Q E h => by
    obtain ⟨rv, hv, h, d, _, _, _, _, h, _⟩ := h
    omega
  | n + 1 => T.cal_grown fun fd F => by
    have c_grown := c_grown T C l0 l100 hsz n
    have c_rules_on := c_rules_on (P := P) (base := base) T
    have c_cut := c_cut (P := P) (base := base) T
    have g_LEAF := T.g_LEAF
    refine fnD_ok F sc_grown (fun vs H Q E h => ?_) (fun cdv A outer s H vs Q E hr h => ?_)
    · obtain ⟨rv, hv, h, d, rfl, _⟩ := h
      rfl
    obtain ⟨rv, hv, h, d, rfl, hR, hH, O, hn, h8, q⟩ := h
    refine ⟨_, (pss_cons (ps_set (i := 2) sc_grown.nd rfl (Or.inl rfl) (C8.pe_c c_rules_on hr (by omega) (by rfl) (pa_cons (pv 0) (pa_cons (pv 1) pa_nil))))
  (pss_cons (ps_if (pt_cmpR op_eq (pe_ix (r := rIxT K) ix_tup (pv 2) pe_int (fun _ _ => rfl)) pe_str (nomark _)) (pss_one (ps_ret (pe_glob (v := .ref (He.ga K "LEAF")) (by rfl) g_LEAF rfl))) pss_nil)
  (pss_cons (ps_asg (C8.pe_c c_cut hr (by omega) (by rfl) (pa_cons (pv 1) (pa_cons (pe_ix (r := rIxT K) ix_tup (pv 2) pe_int (fun _ _ => rfl)) pa_nil))) (pg_tup rfl (pgs_cons (pg_name (i := 3) sc_grown.nd rfl (Or.inl rfl)) (pgs_cons (pg_name (i := 4) sc_grown.nd rfl (Or.inl rfl)) pgs_nil))))
  (pss_one (ps_ret (pe_tup (pa_cons pe_str (pa_cons (pe_ix (r := rIxT K) ix_tup (pv 2) pe_int (fun _ _ => rfl)) (pa_cons (C8.pe_c c_grown hr (by omega) (by rfl) (pa_cons (pv 0) (pa_cons (pv 3) pa_nil))) (pa_cons (C8.pe_c c_grown hr (by omega) (by rfl) (pa_cons (pv 0) (pa_cons (pv 4) pa_nil))) pa_nil)))))))))), ?_⟩
    refine ⟨_, rfl, _, rfl, rv, hv, L, h, rfl, hR, C, l0, l100, fun t ht => Nat.le_trans (hsz t ht) (by decide), hH, O.pos, Nat.le_trans (O.len_le (by omega)) (by decide), fun z H1 s1 hz => ?_⟩
    rcases hz with ⟨p, a, us, rfl, hp, ha, hU⟩ | ⟨p, k, x, v, a, b, r, s, rfl, hp, hx, hL, ea, eb, en, _⟩
    · refine ⟨_, rfl, p, _, _, _, rfl, rfl, hp, at_of (j := 0) rfl rfl, rfl, _, rfl, iteT ?_⟩
      refine q _ H1 .leaf s1 ⟨_, rfl, sqt_tup T.exb.leaf⟩ ⟨True.intro, fun g hg t ht => ?_⟩ (Nat.zero_le _)
      rw [List.mem_singleton.mp hg]
      obtain ⟨i, hi⟩ := List.mem_iff_getElem?.mp ht
      obtain ⟨u, _, r, e, _⟩ := Paired.at2 hU hi
      exact ⟨r, e⟩
    · have mL : Tr.fold v a b ∈ L := List.mem_of_getElem? hL
      have pos := miss_pos mL ea eb en
      have hr32 : (v.test r s).In 32 := by
        have := Wd.test_in (w := v) (Tr.rule_in ea) (Tr.rule_in eb)
        have sz := hsz _ mL
        simp only [Tr.size] at sz
        exact In.mono this (by omega)
      have hC := cuts_of en
      refine ⟨_, rfl, p, _, _, _, rfl, rfl, hp, at_of (j := 0) rfl rfl, rfl, _, rfl, iteF ?_⟩
      refine ⟨_, rfl, _, rfl, p, _, _, _, rfl, rfl, hp, at_of (j := 2) rfl rfl, hv, x, h, v.test r s, d, rfl, hH.mono s1, hx, hr32, O, by omega, hC, fun z2 H2 s2 hz2 => ?_⟩
      obtain ⟨p2, lo, hi, rfl, hp2, hlo, hhi⟩ := hz2
      refine ⟨p2, _, rfl, hp2, rfl, _, _, rfl, _, _, rfl, rfl, ?_⟩
      have s12 := s1.trans s2
      have Ol := low_ok O hr32 hC
      have Oh := high_ok O hr32 hC
      obtain ⟨tl, el⟩ := rule_low (v := v) (r := r) (s := s) O
      obtain ⟨th, eh⟩ := rule_high (v := v) (r := r) (s := s) O
      have ml := miss_lt (inside_low O) Ol mL ea eb en el
      have mh := miss_lt (inside_high O) Oh mL ea eb en eh
      -- the four parts of the tuple
      refine ⟨_, rfl, p, _, _, _, rfl, rfl, sqt s2 hp, at_of (j := 2) rfl rfl, _, rfl, _, rfl, rv, lo, _, d + 1, rfl, hR.mono s12, hlo, Ol, by omega, by omega, fun z3 H3 cl s3 c3 f3 d3 => ?_⟩
      refine ⟨_, rfl, _, rfl, rv, hi, _, d + 1, rfl, hR.mono (s12.trans s3), hhi.mono s3, Oh, by omega, by omega, fun z4 H4 ch s4 c4 f4 d4 => ?_⟩
      refine ⟨(by show 4 ≤ sizeLine; decide), fun p5 hp5 => ?_⟩
      have s5 := same_new hp5 (.tup [.str "cut", x, z3, z4])
      refine q _ _ (.cut (v.test r s) cl ch) (((s12.trans s3).trans s4).trans s5) ⟨p5, x, z3, z4, rfl, SqT.of upd_same, hx.mono (((s2.trans s3).trans s4).trans s5), c3.mono (s4.trans s5), c4.mono s5⟩ ⟨⟨hr32, hC, f3.1, f4.1⟩, fun g hg t ht => ?_⟩ (by simp only [CT.dep]; omega)
      rcases List.mem_append.mp hg with m | m
      · exact f3.2 g m t ht
      · exact f4.2 g m t ht
/-! ### square, cutting_of_rows -/
def spSquare (K : PySem.W.Frag) : Sp := fun vs H Q _ => vs = [] ∧ ∀ z H', Same H H' → HullAt K H' z square → Q z H'
theorem c_square (T : Txt w K mg) : C8.Cal P w K mg base 1 "square" (spSquare K) [] := T.cal_square fun fd F => by
  refine fnD_ok F sc_square (fun vs H Q E h => ?_) (fun cdv A outer s H vs Q E hr h => ?_)
  · rw [h.1]
    rfl
  obtain ⟨rfl, q⟩ := h
  refine ⟨_, (pss_one (ps_ret (pe_lst (pa_cons (pe_tup (pa_cons pe_int (pa_cons pe_int (pa_cons pe_int pa_nil)))) (pa_cons (pe_tup (pa_cons pe_int (pa_cons pe_int (pa_cons pe_int pa_nil)))) (pa_cons (pe_tup (pa_cons pe_int (pa_cons pe_int (pa_cons pe_int pa_nil)))) (pa_cons (pe_tup (pa_cons pe_int (pa_cons pe_int (pa_cons pe_int pa_nil)))) pa_nil))))))), ?_⟩
  refine ⟨(by show 3 ≤ sizeLine; decide), fun a ha => ⟨(by show 3 ≤ sizeLine; decide), fun b hb => ⟨(by show 3 ≤ sizeLine; decide), fun c hc => ⟨(by show 3 ≤ sizeLine; decide), fun d hd => ⟨(by show 4 ≤ sizeLine; decide), fun e he => ?_⟩⟩⟩⟩⟩
  have s1 := same_new ha (.tup [.int 1, .int 0, .int 0])
  have s2 := same_new hb (.tup [.int 1, .int 1, .int 0])
  have s3 := same_new hc (.tup [.int 1, .int 1, .int 1])
  have s4 := same_new hd (.tup [.int 1, .int 0, .int 1])
  have s5 := same_new he (.lst [.ref a, .ref b, .ref c, .ref d])
  refine q _ _ ((((s1.trans s2).trans s3).trans s4).trans s5) ⟨e, _, rfl, SqL.of upd_same, .cons ?_ (.cons ?_ (.cons ?_ (.cons ?_ .nil)))⟩
  · exact T3At.mono (((s2.trans s3).trans s4).trans s5) ⟨a, rfl, SqT.of upd_same⟩
  · exact T3At.mono ((s3.trans s4).trans s5) ⟨b, rfl, SqT.of upd_same⟩
  · exact T3At.mono (s4.trans s5) ⟨c, rfl, SqT.of upd_same⟩
  · exact T3At.mono s5 ⟨d, rfl, SqT.of upd_same⟩
def spCutting (K : PySem.W.Frag) (L : List Tr) : Sp := fun vs H Q _ => ∃ rv, vs = [rv] ∧ RowsAt K H rv (rowsOf L) ∧ ∀ z H' ct, Same H H' → CtAt K H' z ct → Full L ct square → ct.dep ≤ 8 → Q z H'
theorem c_cutting_of_rows (T : Txt w K mg) {L : List Tr} (C : Cl L) (l0 : 0 < L.length) (l100 : L.length ≤ 100) (hsz : ∀ t, t ∈ L → t.size ≤ 32) (hf : foldsIn L ≤ 8) : C8.Cal P w K mg base 14 "cutting_of_rows" (spCutting K L) [] := T.cal_cutting_of_rows fun fd F => by
  have c_grown := c_grown (P := P) (base := base) T C l0 l100 hsz 9
  have c_square := c_square (P := P) (base := base) T
  refine fnD_ok F sc_cutting_of_rows (fun vs H Q E h => ?_) (fun cdv A outer s H vs Q E hr h => ?_)
  · obtain ⟨rv, rfl, _⟩ := h
    rfl
  obtain ⟨rv, rfl, hR, q⟩ := h
  refine ⟨_, (pss_one (ps_ret (C8.pe_c c_grown hr (by omega) (by rfl) (pa_cons (pv 0) (pa_cons (pe_c0 c_square hr (by omega) (by rfl)) pa_nil))))), ?_⟩
  have m := miss_folds L square
  exact ⟨_, rfl, rfl, fun z H1 s1 hz => ⟨rv, z, square, 0, rfl, hR.mono s1, hz, square_ok, by omega, by omega, fun z2 H2 ct s2 c2 f2 d2 => q z2 H2 ct (s1.trans s2) c2 f2 (by omega)⟩⟩
/-! ### hulls_under, hulls_of -/
def spHulls (K : PySem.W.Frag) (n : Nat) : Sp := fun vs H Q _ => ∃ tv hv ct h d, vs = [tv, hv] ∧ CtAt K H tv ct ∧ HullAt K H hv h ∧ HOk d h ∧ ct.On h ∧ ct.dep < n ∧ d + ct.dep ≤ 8 ∧ ∀ a H', Same H H' → HullsAt K H' a (ct.hulls h) → Q (.ref a) H'
theorem c_hulls_under (T : Txt w K mg) : ∀ n : Nat, C8.Cal P w K mg base (n + 3) "hulls_under" (spHulls K n) []
  | 0 => T.cal_hulls_under fun fd F => fn_none fun vs H Q E h => by
    obtain ⟨tv, hv, ct, h, d, _, _, _, _, _, h, _⟩ := h
    omega
  | n + 1 => T.cal_hulls_under fun fd F => by
    have c_hulls_under := c_hulls_under T n
    have c_cut := c_cut (P := P) (base := base) T
    refine fnD_ok F sc_hulls_under (fun vs H Q E h => ?_) (fun cdv A outer s H vs Q E hr h => ?_)
    · obtain ⟨tv, hv, ct, h, d, rfl, _⟩ := h
      rfl
    obtain ⟨tv, hv, ct, h, d, rfl, hT, hH, O, on, hn, h8, q⟩ := h
    refine ⟨_, (pss_cons (ps_if (pt_cmpR op_eq (pe_ix (r := rIxT K) ix_tup (pv 0) pe_int (fun _ _ => rfl)) pe_str (nomark _)) (pss_one (ps_ret (pe_lst (pa_cons (pv 1) pa_nil)))) pss_nil)
  (pss_cons (ps_asg (C8.pe_c c_cut hr (by omega) (by rfl) (pa_cons (pv 1) (pa_cons (pe_ix (r := rIxT K) ix_tup (pv 0) pe_int (fun _ _ => rfl)) pa_nil))) (pg_tup rfl (pgs_cons (pg_name (i := 2) sc_hulls_under.nd rfl (Or.inl rfl)) (pgs_cons (pg_name (i := 3) sc_hulls_under.nd rfl (Or.inl rfl)) pgs_nil))))
  (pss_one (ps_ret (pe_op op_cat (C8.pe_c c_hulls_under hr (by omega) (by rfl) (pa_cons (pe_ix (r := rIxT K) ix_tup (pv 0) pe_int (fun _ _ => rfl)) (pa_cons (pv 2) pa_nil))) (C8.pe_c c_hulls_under hr (by omega) (by rfl) (pa_cons (pe_ix (r := rIxT K) ix_tup (pv 0) pe_int (fun _ _ => rfl)) (pa_cons (pv 3) pa_nil)))))))), ?_⟩
    cases ct with
    | leaf =>
      obtain ⟨a, rfl, ha⟩ := hT
      refine ⟨_, rfl, a, _, _, _, rfl, rfl, ha, at_of (j := 0) rfl rfl, rfl, _, rfl, iteT ?_⟩
      refine ⟨_, rfl, (by show 1 ≤ sizeLine; decide), fun p hp => ?_⟩
      exact q p _ (same_new hp _) ⟨[hv], upd_same, .cons (hH.mono (same_new hp _)) .nil⟩
    | cut r x y =>
      obtain ⟨a, u, b, c, rfl, ha, hu, hx, hy⟩ := hT
      obtain ⟨hr32, hC, ox, oy⟩ := on
      simp only [CT.dep] at hn h8
      refine ⟨_, rfl, a, _, _, _, rfl, rfl, ha, at_of (j := 0) rfl rfl, rfl, _, rfl, iteF ?_⟩
      refine ⟨_, rfl, _, rfl, a, _, _, _, rfl, rfl, ha, at_of (j := 1) rfl rfl, hv, u, h, r, d, rfl, hH, hu, hr32, O, by omega, hC, fun z H1 s1 hz => ?_⟩
      obtain ⟨p2, lo, hi, rfl, hp2, hlo, hhi⟩ := hz
      refine ⟨p2, _, rfl, hp2, rfl, _, _, rfl, _, _, rfl, rfl, ?_⟩
      have Ol := low_ok O hr32 hC
      have Oh := high_ok O hr32 hC
      refine ⟨_, rfl, a, _, _, _, rfl, rfl, sqt s1 ha, at_of (j := 2) rfl rfl, _, rfl, b, lo, x, _, d + 1, rfl, hx.mono s1, hlo, Ol, ox, by omega, by omega, fun l1 H2 s2 hl1 => ?_⟩
      refine ⟨_, rfl, a, _, _, _, rfl, rfl, sqt (s1.trans s2) ha, at_of (j := 3) rfl rfl, _, rfl, c, hi, y, _, d + 1, rfl, hy.mono (s1.trans s2), hhi.mono s2, Oh, oy, by omega, by omega, fun l2 H3 s3 hl2 => ?_⟩
      obtain ⟨us1, e1, g1⟩ := hl1.mono s3
      obtain ⟨us2, e2, g2⟩ := hl2
      have n1 := CT.count x (lowH r h)
      have n2 := CT.count y (highH r h)
      have m1 : 2 ^ x.dep ≤ 2 ^ 8 := Nat.pow_le_pow_right (by decide) (by omega)
      have m2 : 2 ^ y.dep ≤ 2 ^ 8 := Nat.pow_le_pow_right (by decide) (by omega)
      have k1 := g1.length
      have k2 := g2.length
      refine ⟨l1, l2, us1, us2, rfl, rfl, e1, e2, Nat.le_of_lt (small_line (by omega)), fun p hp => ?_⟩
      have s4 := same_new hp (.lst (us1 ++ us2))
      exact q p _ (((s1.trans s2).trans s3).trans s4) ⟨_, upd_same, Paired.app (Paired.map1 g1 fun _ _ => HullAt.mono s4) (Paired.map1 g2 fun _ _ => HullAt.mono s4)⟩
def spHullsOf (K : PySem.W.Frag) : Sp := fun vs H Q _ => ∃ tv ct, vs = [tv] ∧ CtAt K H tv ct ∧ ct.On square ∧ ct.dep ≤ 8 ∧ ∀ a H', Same H H' → HullsAt K H' a (ct.hulls square) → Q (.ref a) H'
theorem c_hulls_of (T : Txt w K mg) : C8.Cal P w K mg base 13 "hulls_of" (spHullsOf K) [] := T.cal_hulls_of fun fd F => by
  have c_hulls_under := c_hulls_under (P := P) (base := base) T 9
  have c_square := c_square (P := P) (base := base) T
  refine fnD_ok F sc_hulls_of (fun vs H Q E h => ?_) (fun cdv A outer s H vs Q E hr h => ?_)
  · obtain ⟨tv, ct, rfl, _⟩ := h
    rfl
  obtain ⟨tv, ct, rfl, hT, on, h8, q⟩ := h
  refine ⟨_, (pss_one (ps_ret (C8.pe_c c_hulls_under hr (by omega) (by rfl) (pa_cons (pv 0) (pa_cons (pe_c0 c_square hr (by omega) (by rfl)) pa_nil))))), ?_⟩
  exact ⟨_, rfl, rfl, fun z H1 s1 hz => ⟨tv, z, ct, square, 0, rfl, hT.mono s1, hz, square_ok, on, by omega, by omega, fun a H2 s2 ha => q a H2 (s1.trans s2) ha⟩⟩
/-! ### unlike_corner -/
def spUnlike (K : PySem.W.Frag) (s t : Tr) : Sp := fun vs H Q _ => ∃ ov uv tv ct, vs = [ov, uv, tv] ∧ SayAt K H ov s ∧ SayAt K H uv t ∧ CtAt K H tv ct ∧ Full (bothT s t) ct square ∧ ct.dep ≤ 8 ∧
  ((∀ g, g ∈ ct.hulls square → ∀ k : T3, k ∈ g → s.val k.a k.b k.c = t.val k.a k.b k.c) → ∀ H', Same H H' → Q .non H') ∧
  ∀ z H' g, ∀ k : T3, Same H H' → g ∈ ct.hulls square → k ∈ g → T3At K H' z k → s.val k.a k.b k.c ≠ t.val k.a k.b k.c → Q z H'
theorem c_unlike_corner (T : Txt w K mg) {s t : Tr} (hs : s.size ≤ 32) (ht : t.size ≤ 32) : C8.Cal P w K mg base 37 "unlike_corner" (spUnlike K s t) [] := T.cal_unlike_corner fun fd F => by
  have c_hulls_of := c_hulls_of (P := P) (base := base) T
  have c_rules_on := c_rules_on (P := P) (base := base) T
  have c_rows_of := c_rows_of (P := P) (base := base) T 32 (by decide)
  have c_told_by := c_told_by (P := P) (base := base) T
  refine fnD_ok F sc_unlike_corner (fun vs H Q E h => ?_) (fun cdv A outer sh H vs Q E hr h => ?_)
  · obtain ⟨ov, uv, tv, ct, rfl, _⟩ := h
    rfl
  obtain ⟨ov, uv, tv, ct, rfl, hs1, ht1, hct, full, h8, q1, q2⟩ := h
  refine ⟨_, (pss_cons (ps_for PassesOwn.never rfl (pi_list (C8.pe_c c_hulls_of hr (by omega) (by rfl) (pa_cons (pv 2) pa_nil))) (pg_name (i := 3) sc_unlike_corner.nd rfl (Or.inl rfl)) (pss_cons (ps_set (i := 4) sc_unlike_corner.nd rfl (Or.inl rfl) (pe_ix (r := rIxL K) ix_list (pe_ix (r := rIxT K) ix_tup (C8.pe_c c_rules_on hr (by omega) (by rfl) (pa_cons (C8.pe_c c_rows_of hr (by omega) (by rfl) (pa_cons (pv 0) pa_nil)) (pa_cons (pv 3) pa_nil))) pe_int (fun _ _ => rfl)) (pe_un un_neg pe_int) (fun _ _ => rfl)))
  (pss_cons (ps_set (i := 5) sc_unlike_corner.nd rfl (Or.inl rfl) (pe_ix (r := rIxL K) ix_list (pe_ix (r := rIxT K) ix_tup (C8.pe_c c_rules_on hr (by omega) (by rfl) (pa_cons (C8.pe_c c_rows_of hr (by omega) (by rfl) (pa_cons (pv 1) pa_nil)) (pa_cons (pv 3) pa_nil))) pe_int (fun _ _ => rfl)) (pe_un un_neg pe_int) (fun _ _ => rfl)))
  (pss_one (ps_for PassesOwn.never rfl (pi_list (pv 3)) (pg_name (i := 6) sc_unlike_corner.nd rfl (Or.inl rfl)) (pss_one (ps_if (pt_cmpR op_ne (C8.pe_c c_told_by hr (by omega) (by rfl) (pa_cons (pv 4) (pa_cons (pv 6) pa_nil))) (C8.pe_c c_told_by hr (by omega) (by rfl) (pa_cons (pv 5) (pa_cons (pv 6) pa_nil))) (nomark _)) (pss_one (ps_ret (pv 6))) pss_nil)))))))
  (pss_one (ps_ret pe_non))), ?_⟩
  refine ⟨_, rfl, tv, ct, rfl, hct, full.1, h8, fun a H1 s1 ⟨us, ea, hU⟩ => ⟨a, rfl, ⟨_, SqL.of ea⟩, ?_⟩⟩
  refine for_list (K := K) (a := a) (xs := us) (fun i σ H' => ∃ x3 x4 x5 x6, σ = [some ov, some uv, some tv, x3, x4, x5, x6] ∧ Same H1 H' ∧ ∀ j g, j < i → (ct.hulls square)[j]? = some g → ∀ k : T3, k ∈ g → s.val k.a k.b k.c = t.val k.a k.b k.c)
    ⟨none, none, none, none, rfl, Same.refl _, fun j g hj => absurd hj (Nat.not_lt_zero _)⟩ (fun i σ H' _ ⟨_, _, _, _, _, s2, _⟩ => s2.seq (SqL.of ea)) (fun i x σ H' hx hp => ?_) fun σ H' hp => ?_
  · obtain ⟨x3, x4, x5, x6, rfl, s2, hall⟩ := hp
    obtain ⟨g, hg, gx⟩ := Paired.at1 hU hx
    have mg_ : g ∈ ct.hulls square := List.mem_of_getElem? hg
    obtain ⟨e, e8, Og⟩ := CT.leaf_ok full.1 square_ok g mg_
    have gx2 := gx.mono s2
    have lenM := Og.len_le (show e ≤ 8 by omega)
    have allS : ∀ x, x ∈ putT s [] → ∃ r, x.rule g = some r := fun x hx => full.2 g mg_ x (both_mem.mpr (.inl ((mem_put.mp hx).resolve_left (by simp))))
    have allT : ∀ x, x ∈ putT t [] → ∃ r, x.rule g = some r := fun x hx => full.2 g mg_ x (both_mem.mpr (.inr ((mem_put.mp hx).resolve_left (by simp))))
    have szS : ∀ x, x ∈ putT s [] → x.size ≤ 400 := fun x hx => Nat.le_trans (part_size ((mem_put.mp hx).resolve_left (by simp))) (by omega)
    have szT : ∀ x, x ∈ putT t [] → x.size ≤ 400 := fun x hx => Nat.le_trans (part_size ((mem_put.mp hx).resolve_left (by simp))) (by omega)
    have lnS := (put_folds s []).2
    have lnT := (put_folds t []).2
    have l0S : 0 < (putT s []).length := List.length_pos_of_mem (mem_put.mpr (.inr (self_part s)))
    have l0T : 0 < (putT t []).length := List.length_pos_of_mem (mem_put.mpr (.inr (self_part t)))
    simp only [List.length_nil] at lnS lnT
    -- rule
    refine ⟨_, rfl, ov, s, rfl, hs1.mono (s1.trans s2), hs, fun z2 H2 s3 hz2 => ?_⟩
    rw [(put1 s).2] at hz2
    refine ⟨_, rfl, z2, x, putT s [], g, rfl, hz2, (put1 s).1, l0S, by omega, szS, gx2.mono s3, Og.pos, by omega, fun z3 H3 s4 hz3 => ?_⟩
    have R1 : ∃ p xs v, z3 = .ref p ∧ SqT K H3 p xs ∧ atI xs 1 = some v ∧ ∃ p2 xs2 y r, v = .ref p2 ∧ SqL K H3 p2 xs2 ∧ atI xs2 (-1) = some y ∧ T3At K H3 y r ∧ s.rule g = some r := by
      rcases hz3 with ⟨p, a, us, rfl, hp, ha, hU⟩ | ⟨p, k', x, v, a, b, r, s', rfl, hp, hx, hL, e1, e2, en, _⟩
      · obtain ⟨M, eM⟩ := put_last s
        rw [eM] at hU
        obtain ⟨l', y, el, ⟨r, e1, e2⟩, _⟩ := Paired.last hU
        rw [el] at ha
        exact ⟨p, _, _, rfl, hp, at_of (j := 1) rfl rfl, a, _, y, r, rfl, ha, atI_last _ _, e2, e1⟩
      · obtain ⟨r', e⟩ := allS _ (List.mem_of_getElem? hL)
        simp only [Tr.rule, e1, e2, en] at e
        cases e
    obtain ⟨p3, xs3, v3, rfl, hp3, a3, p4, xs4, y4, r4, rfl, hp4, a4, hy4, er4⟩ := R1
    refine ⟨p3, xs3, _, _, rfl, rfl, hp3, a3, _, rfl, p4, xs4, _, y4, rfl, rfl, hp4, a4, ?_⟩
    -- second
    have s24 := (s2.trans s3).trans s4
    refine ⟨_, rfl, uv, t, rfl, ht1.mono (s1.trans s24), ht, fun z5 H5 s5 hz5 => ?_⟩
    rw [(put1 t).2] at hz5
    refine ⟨_, rfl, z5, x, putT t [], g, rfl, hz5, (put1 t).1, l0T, by omega, szT, gx2.mono ((s3.trans s4).trans s5), Og.pos, by omega, fun z6 H6 s6 hz6 => ?_⟩
    have R2 : ∃ p xs v, z6 = .ref p ∧ SqT K H6 p xs ∧ atI xs 1 = some v ∧ ∃ p2 xs2 y r, v = .ref p2 ∧ SqL K H6 p2 xs2 ∧ atI xs2 (-1) = some y ∧ T3At K H6 y r ∧ t.rule g = some r := by
      rcases hz6 with ⟨p, a, us, rfl, hp, ha, hU⟩ | ⟨p, k', x, v, a, b, r, s', rfl, hp, hx, hL, e1, e2, en, _⟩
      · obtain ⟨M, eM⟩ := put_last t
        rw [eM] at hU
        obtain ⟨l', y, el, ⟨r, e1, e2⟩, _⟩ := Paired.last hU
        rw [el] at ha
        exact ⟨p, _, _, rfl, hp, at_of (j := 1) rfl rfl, a, _, y, r, rfl, ha, atI_last _ _, e2, e1⟩
      · obtain ⟨r', e⟩ := allT _ (List.mem_of_getElem? hL)
        simp only [Tr.rule, e1, e2, en] at e
        cases e
    obtain ⟨p7, xs7, v7, rfl, hp7, a7, p8, xs8, y8, r8, rfl, hp8, a8, hy8, er8⟩ := R2
    refine ⟨p7, xs7, _, _, rfl, rfl, hp7, a7, _, rfl, p8, xs8, _, y8, rfl, rfl, hp8, a8, ?_⟩
    have s56 := s5.trans s6
    have s26 := s24.trans s56
    have hy46 := hy4.mono s56
    obtain ⟨ga, gc, rfl, gS, gP⟩ := gx2.mono ((s3.trans s4).trans s56)
    have in4 : r4.In 1000 := In.mono (Tr.rule_in er4) (by omega)
    have in8 : r8.In 1000 := In.mono (Tr.rule_in er8) (by omega)
    -- for corner in hull
    refine ⟨_, rfl, ga, rfl, ⟨_, gS⟩, for_list (K := K) (a := ga) (xs := gc) (fun j σ H' => ∃ x6, σ = [some ov, some uv, some tv, some (.ref ga), some y4, some y8, x6] ∧ Same H6 H' ∧ ∀ m k, m < j → g[m]? = some k → s.val k.a k.b k.c = t.val k.a k.b k.c)
      ⟨x6, rfl, Same.refl _, fun m k hm => absurd hm (Nat.not_lt_zero _)⟩ (fun j σ H' _ ⟨_, _, s7, _⟩ => s7.seq gS) (fun j c σ H' hc hp => ?_) fun σ H' hp => ?_⟩
    · obtain ⟨x6', rfl, s7, hval⟩ := hp
      obtain ⟨k, hk, ck⟩ := Paired.at1 gP hc
      have mk : k ∈ g := List.mem_of_getElem? hk
      have v4 := Tr.rule_val er4 k mk
      have v8 := Tr.rule_val er8 k mk
      refine ⟨_, rfl, _, rfl, y4, c, r4, k, rfl, hy46.mono s7, ck.mono s7, in4, _, rfl, _, rfl, y8, c, r8, k, rfl, hy8.mono s7, ck.mono s7, in8, rfl, _, rfl, ?_⟩
      by_cases c' : r4.tell k = r8.tell k
      · rw [decide_eq_true (show V.int (r4.tell k) = V.int (r8.tell k) by rw [c'])]
        refine iteF ⟨_, rfl, s7, fun m k' hm hk' => ?_⟩
        by_cases e : m = j
        · subst e
          rw [hk] at hk'
          cases hk'
          rw [← v4, ← v8]
          exact c'
        · exact hval m k' (by omega) hk'
      · rw [decide_eq_false (show ¬ V.int (r4.tell k) = V.int (r8.tell k) from fun z => c' (V.int.inj z))]
        refine iteT ⟨_, rfl, q2 c H' g k (s1.trans (s26.trans s7)) mg_ mk (ck.mono s7) ?_⟩
        rw [← v4, ← v8]
        exact c'
    · obtain ⟨x6', rfl, s7, hval⟩ := hp
      rw [gP.length] at hval
      refine ⟨_, _, _, _, rfl, s26.trans s7, fun j g' hj hg' k hk => ?_⟩
      by_cases e : j = i
      · subst e
        rw [hg] at hg'
        cases hg'
        obtain ⟨m, hm, e2⟩ := List.mem_iff_getElem.mp hk
        exact hval m k hm (by rw [List.getElem?_eq_getElem hm, e2])
      · exact hall j g' (by omega) hg' k hk
  · obtain ⟨x3, x4, x5, x6, rfl, s2, hall⟩ := hp
    rw [hU.length] at hall
    refine q1 (fun g hg k hk => ?_) H' (s1.trans s2)
    obtain ⟨j, hj, e⟩ := List.mem_iff_getElem.mp hg
    exact hall j g hj (by rw [List.getElem?_eq_getElem hj, e]) k hk
/-! ### alike -/
def AlikeYes (K : PySem.W.Frag) (H : Hp) (z : V) (s t : Tr) : Prop := ∃ p tv ct, z = .ref p ∧ SqT K H p [.str "alike", tv] ∧ CtAt K H tv ct ∧ Full (bothT s t) ct square ∧ ct.dep ≤ 8 ∧ ∀ g, g ∈ ct.hulls square → ∀ k : T3, k ∈ g → s.val k.a k.b k.c = t.val k.a k.b k.c
def AlikeNo (K : PySem.W.Frag) (H : Hp) (z : V) (s t : Tr) : Prop := ∃ p kv, ∃ k : T3, z = .ref p ∧ SqT K H p [.str "unlike", kv] ∧ T3At K H kv k ∧ 0 < k.a ∧ (0 ≤ k.b ∧ k.b ≤ k.a) ∧ (0 ≤ k.c ∧ k.c ≤ k.a) ∧ s.val k.a k.b k.c ≠ t.val k.a k.b k.c
def spAlike (K : PySem.W.Frag) (s t : Tr) : Sp := fun vs H Q _ => ∃ ov uv, vs = [ov, uv] ∧ SayAt K H ov s ∧ SayAt K H uv t ∧ ∀ z H', Same H H' → (AlikeYes K H' z s t ∨ AlikeNo K H' z s t) → Q z H'
theorem c_alike (T : Txt w K mg) {s t : Tr} (hs : s.size ≤ 32) (ht : t.size ≤ 32) (hf : s.folds + t.folds ≤ 8) : C8.Cal P w K mg base 70 "alike" (spAlike K s t) [] := T.cal_alike fun fd F => by
  have bl := both_len s t
  have bsz : ∀ u, u ∈ bothT s t → u.size ≤ 32 := fun u hu => by
    rcases both_mem.mp hu with h | h
    · exact Nat.le_trans (part_size h) hs
    · exact Nat.le_trans (part_size h) ht
  have c_cutting_of_rows := c_cutting_of_rows (P := P) (base := base) T (both_cl s t) bl.1 (by omega) bsz (Nat.le_trans (both_folds s t) hf)
  have c_rows_of := c_rows_of (P := P) (base := base) T 65 (by decide)
  have c_unlike_corner := c_unlike_corner (P := P) (base := base) T hs ht
  have c_m_folds := met_folds (P := P) (base := base) T 32
  have c_Greater : C8.Mak P w K mg base 1 "Greater" (cA K (.w .greater)) (spFoldI K .greater) [] := mak_fold T .greater
  obtain ⟨tM, h_MOST_FOLDS⟩ := T.h_MOST_FOLDS
  refine fnD_ok F sc_alike (fun vs H Q E h => ?_) (fun cdv A outer sh H vs Q E hr h => ?_)
  · obtain ⟨ov, uv, rfl, _⟩ := h
    rfl
  obtain ⟨ov, uv, rfl, hs1, ht1, q⟩ := h
  refine ⟨_, (pss_cons (ps_if (pt_cmpR op_gt (pe_op op_add (PE_ex fun kd => C8.pe_mt0 (c_m_folds kd) hr (by omega) (pv 0)) (PE_ex fun kd => C8.pe_mt0 (c_m_folds kd) hr (by omega) (pv 1))) (pe_glob (v := .int 8) (by rfl) h_MOST_FOLDS ⟨_, rfl⟩) (nomark _)) (pss_one ps_never) pss_nil)
  (pss_cons (ps_set (i := 2) sc_alike.nd rfl (Or.inl rfl) (C8.pe_c c_cutting_of_rows hr (by omega) (by rfl) (pa_cons (pe_slice sl_list (C8.pe_c c_rows_of hr (by omega) (by rfl) (pa_cons (C8.pe_mk c_Greater hr (by omega) (by rfl) (pa_cons (pv 0) (pa_cons (pv 1) pa_nil))) pa_nil)) po_none (po_some (pe_un un_neg pe_int))) pa_nil)))
  (pss_cons (ps_set (i := 3) sc_alike.nd rfl (Or.inl rfl) (C8.pe_c c_unlike_corner hr (by omega) (by rfl) (pa_cons (pv 0) (pa_cons (pv 1) (pa_cons (pv 2) pa_nil)))))
  (pss_cons (ps_if (pt_cmpR op_isN (pv 3) pe_non (nomark _)) (pss_one (ps_ret (pe_tup (pa_cons pe_str (pa_cons (pv 2) pa_nil))))) pss_nil)
  (pss_one (ps_ret (pe_tup (pa_cons pe_str (pa_cons (pv 3) pa_nil))))))))), ?_⟩
  obtain ⟨a1, dx1, fs1, rfl, i1, l1, _⟩ := hs1.ins
  obtain ⟨a2, dx2, fs2, rfl, i2, l2, _⟩ := ht1.ins
  -- folds
  refine ⟨s.kd, _, rfl, a1, dx1, fs1, rfl, i1, l1, _, s, rfl, hs1, rfl, hs, fun H1 s1 => ?_⟩
  refine ⟨t.kd, _, rfl, a2, dx2, fs2, rfl, s1 _ _ i2, l2, _, t, rfl, ht1.mono s1, rfl, ht, fun H2 s2 => ?_⟩
  refine ⟨_, _, rfl, rfl, _, _, rfl, rfl, _, rfl, ?_⟩
  rw [decide_eq_false (show ¬ (8 : Int) < (s.folds : Nat) + (t.folds : Nat) by omega)]
  refine iteF ?_
  have s12 := s1.trans s2
  -- tree = cutting_of_rows(rows_of(Greater(one, other))[:-1])
  refine ⟨_, rfl, _, rfl, fun x dx nx ndx nex => ⟨x, dx, .ref a1, .ref a2, rfl, upd_same, rfl, ?_⟩⟩
  rw [upd_upd]
  have s3 : Same H2 (upd (upd H2 dx (.own x)) x (.ins (cA K (.w .greater)) dx [(("one" : Str), .ref a1), (("other" : Str), .ref a2)])) := fun b o e => by
    rw [upd_ne (ne_of_none e nx), upd_ne (ne_of_none e ndx)]
    exact e
  have hg : SayAt K (upd (upd H2 dx (.own x)) x (.ins (cA K (.w .greater)) dx [(("one" : Str), .ref a1), (("other" : Str), .ref a2)])) (.ref x) (.fold .greater s t) := ⟨x, dx, _, _, rfl, upd_same, hs1.mono (s12.trans s3), ht1.mono (s12.trans s3)⟩
  refine ⟨.ref x, .fold .greater s t, rfl, hg, by simp only [Tr.size]; omega, fun z4 H4 s4 hz4 => ?_⟩
  rw [(put1 _).2, both_rows] at hz4
  obtain ⟨ra, rs, rfl, rS, rP⟩ := hz4
  refine ⟨1, rfl, -1, rfl, ra, rs, rfl, rS, fun p5 hp5 => ?_⟩
  rw [cut_last]
  have s5 := same_new hp5 (.lst rs.dropLast)
  refine ⟨_, rfl, ⟨p5, _, rfl, SqL.of upd_same, Paired.map1 (Paired.dropLast rP) fun _ _ => RowAt.mono s5⟩, fun z6 H6 ct s6 c6 f6 d6 => ?_⟩
  have s36 := ((s3.trans s4).trans s5).trans s6
  have s16 := s12.trans s36
  -- corner = unlike_corner(one, other, tree)
  refine ⟨_, rfl, _, rfl, _, rfl, .ref a1, .ref a2, z6, ct, rfl, hs1.mono s16, ht1.mono s16, c6, f6, d6, fun hall H7 s7 => ?_, fun z7 H7 g k s7 hgm hk hz7 hne => ?_⟩
  · refine ⟨_, rfl, rfl, _, rfl, iteT ?_⟩
    refine ⟨_, rfl, (by show 2 ≤ sizeLine; decide), fun p8 hp8 => ?_⟩
    have s8 := same_new hp8 (.tup [.str "alike", z6])
    exact q _ _ ((s16.trans s7).trans s8) (.inl ⟨p8, z6, ct, rfl, SqT.of upd_same, c6.mono (s7.trans s8), f6, d6, hall⟩)
  · refine ⟨_, rfl, rfl, _, rfl, ?_⟩
    rw [decide_eq_false hz7.ne]
    refine iteF ⟨_, rfl, (by show 2 ≤ sizeLine; decide), fun p8 hp8 => ?_⟩
    have s8 := same_new hp8 (.tup [.str "unlike", z7])
    obtain ⟨e, _, Og⟩ := CT.leaf_ok f6.1 square_ok g hgm
    obtain ⟨b1, _, b2, b3⟩ := Og.at_ k hk
    exact q _ _ ((s16.trans s7).trans s8) (.inr ⟨p8, z7, k, rfl, SqT.of upd_same, hz7.mono s8, b1, b2, b3, hne⟩)
end
end K55

namespace K55
open PySem PySem.Spec PyProof.Rows L2
/-! ### the law's trees: tuples -/
def Tr.word : Tr → Str
  | .never => "never" | .always => "always" | .p => "p" | .q => "q" | .neg _ => "not"
  | .fold w _ _ => w.str
def TrAt (H : Hp) : V → Tr → Prop
  | v, .never => ∃ a, v = .ref a ∧ H a = some (.tup [.str "never"])
  | v, .always => ∃ a, v = .ref a ∧ H a = some (.tup [.str "always"])
  | v, .p => ∃ a, v = .ref a ∧ H a = some (.tup [.str "p"])
  | v, .q => ∃ a, v = .ref a ∧ H a = some (.tup [.str "q"])
  | v, .neg t => ∃ a u, v = .ref a ∧ H a = some (.tup [.str "not", u]) ∧ TrAt H u t
  | v, .fold w s t => ∃ a x y, v = .ref a ∧ H a = some (.tup [.str w.str, x, y]) ∧ TrAt H x s ∧ TrAt H y t
theorem TrAt.keep {H H' : Hp} (e : Keep H H') : ∀ {t : Tr} {v : V}, TrAt H v t → TrAt H' v t
  | .never, _, ⟨a, h1, h2⟩ => ⟨a, h1, e.t _ _ h2⟩
  | .always, _, ⟨a, h1, h2⟩ => ⟨a, h1, e.t _ _ h2⟩
  | .p, _, ⟨a, h1, h2⟩ => ⟨a, h1, e.t _ _ h2⟩
  | .q, _, ⟨a, h1, h2⟩ => ⟨a, h1, e.t _ _ h2⟩
  | .neg _, _, ⟨a, u, h1, h2, h3⟩ => ⟨a, u, h1, e.t _ _ h2, TrAt.keep e h3⟩
  | .fold _ _ _, _, ⟨a, x, y, h1, h2, h3, h4⟩ => ⟨a, x, y, h1, e.t _ _ h2, TrAt.keep e h3, TrAt.keep e h4⟩
theorem TrAt.mono {H H' : Hp} (e : Same H H') {t : Tr} {v : V} (h : TrAt H v t) : TrAt H' v t := TrAt.keep (Keep.of e) h
theorem TrAt.parts {H : Hp} {t : Tr} {v : V} (h : TrAt H v t) : ∃ a us, v = .ref a ∧ H a = some (.tup (.str t.word :: us)) ∧ Paired (TrAt H) us (kids t) := by
  cases t with
  | never => obtain ⟨a, h1, h2⟩ := h; exact ⟨a, [], h1, h2, .nil⟩
  | always => obtain ⟨a, h1, h2⟩ := h; exact ⟨a, [], h1, h2, .nil⟩
  | p => obtain ⟨a, h1, h2⟩ := h; exact ⟨a, [], h1, h2, .nil⟩
  | q => obtain ⟨a, h1, h2⟩ := h; exact ⟨a, [], h1, h2, .nil⟩
  | neg t => obtain ⟨a, u, h1, h2, h3⟩ := h; exact ⟨a, [u], h1, h2, .cons h3 .nil⟩
  | fold w s t => obtain ⟨a, x, y, h1, h2, h3, h4⟩ := h; exact ⟨a, [x, y], h1, h2, .cons h3 (.cons h4 .nil)⟩
theorem kid_size {t c : Tr} (h : c ∈ kids t) : c.size < t.size := by
  cases t with
  | neg a => rw [List.mem_singleton.mp h]; simp only [Tr.size]; omega
  | fold w a b =>
    rcases List.mem_cons.mp h with rfl | h
    · simp only [Tr.size]; omega
    · rw [List.mem_singleton.mp h]; simp only [Tr.size]; omega
  | _ => cases h
theorem kid_folds {t c : Tr} (h : c ∈ kids t) : c.folds ≤ t.folds := by
  cases t with
  | neg a => rw [List.mem_singleton.mp h]; simp only [Tr.folds]; omega
  | fold w a b =>
    rcases List.mem_cons.mp h with rfl | h
    · simp only [Tr.folds]; omega
    · rw [List.mem_singleton.mp h]; simp only [Tr.folds]; omega
  | _ => cases h
theorem t_neg {H : Hp} {p : Addr} {A : V} {a : Tr} (h : TrAt H A a) (hp : H p = none) : TrAt (upd H p (.tup [.str "not", A])) (.ref p) (.neg a) := ⟨p, A, rfl, upd_same, h.mono (same_new hp _)⟩
theorem t_fold {H : Hp} {p : Addr} {A B : V} {a b : Tr} (w : Wd) (h : TrAt H A a) (k : TrAt H B b) (hp : H p = none) : TrAt (upd H p (.tup [.str w.str, A, B])) (.ref p) (.fold w a b) := ⟨p, A, B, rfl, upd_same, h.mono (same_new hp _), k.mono (same_new hp _)⟩
/-! ### the law's cells -/
def CellsAt (H : Hp) (c : Addr) : Prop := ∃ xs, H c = some (.lst xs) ∧ ∀ v, v ∈ xs → ∃ i, v = .int i
def Fr1 (c : Addr) (H H' : Hp) : Prop := ∀ b o, H b = some o → b ≠ c → H' b = some o
theorem Fr1.trans {c : Addr} {H H1 H2 : Hp} (a : Fr1 c H H1) (b : Fr1 c H1 H2) : Fr1 c H H2 := fun x o h n => b x o (a x o h n) n
theorem Fr1.of {c : Addr} {H H' : Hp} (e : Same H H') : Fr1 c H H' := fun b o h _ => e b o h
theorem Fr1.refl (c : Addr) (H : Hp) : Fr1 c H H := fun _ _ h _ => h
theorem CellsAt.mono {H H' : Hp} {c : Addr} (e : Same H H') (h : CellsAt H c) : CellsAt H' c := by
  obtain ⟨xs, h1, h2⟩ := h
  exact ⟨xs, e _ _ h1, h2⟩
theorem CellsAt.keep {H H' : Hp} {c : Addr} (h : CellsAt H c) (f : Fr1 c H H') : Keep H H' := by
  obtain ⟨xs, h1, _⟩ := h
  exact ⟨fun b C dx fs e => f b _ e (ne_of e h1 fun z => by cases z), fun b ys e => f b _ e (ne_of e h1 fun z => by cases z)⟩
section
variable {P : Program} {w : World} {K : PySem.W.Frag} {mg : Str → Option Value} {base : Heap}
def spNext : Sp := fun vs H Q _ => ∃ c, vs = [.ref c] ∧ CellsAt H c ∧ ∀ i H', Fr1 c H H' → CellsAt H' c → Q (.int i) H'
theorem c_L_next (T : Txt w K mg) : C8.Cal P w K mg base 1 "_law_next" spNext [] := T.cal_L_next fun fd F => by
  have z_len := T.z_len
  refine fnD_ok F sc_L_next (fun vs H Q E h => ?_) (fun cdv A outer s H vs Q E hr h => ?_)
  · obtain ⟨c, rfl, _⟩ := h
    rfl
  obtain ⟨c, rfl, hC, q⟩ := h
  obtain ⟨xs, h1, h2⟩ := id hC
  refine ⟨_, (pss_cons (ps_if (pt_cmpR op_eq (pe_callB call_len_seq (by rfl) z_len b_len (pa_cons (pv 0) pa_nil)) pe_int (nomark _)) (pss_one (ps_ret pe_int)) pss_nil)
  (pss_one (ps_ret (pe_bm PySem.F.plainAttrs_list PySem.F.slot_list_pop PySem.F.type_list_pop mt_popAt (pv 0) (pa_cons pe_int pa_nil))))), ?_⟩
  refine ⟨_, rfl, c, _, rfl, .inl (SqL.of h1), rfl, _, rfl, ?_⟩
  cases xs with
  | nil => exact iteT (q 0 H (Fr1.refl _ _) hC)
  | cons v vs =>
    obtain ⟨i, e⟩ := h2 v (List.mem_cons_self ..)
    subst e
    refine iteF ⟨_, rfl, .inl ⟨rfl, _, SqL.of h1⟩, c, .int i :: vs, 0, 0, .int i, rfl, rfl, h1, by decide, by decide, ?_, rfl, ?_⟩
    · unfold seqIndex?
      rw [List.length_cons]
      simp
    · refine q i _ (fun b o e n => by rw [upd_ne n]; exact e) ⟨vs, upd_same, fun v hv => h2 v (List.mem_cons_of_mem _ hv)⟩
/-! ### _law_mixed -/
def spMixed (K : PySem.W.Frag) : Sp := fun vs H Q _ => ∃ a xs, vs = [.ref a, .int 60] ∧ SqL K H a xs ∧ (∀ v, v ∈ xs → ∃ i, v = .int i) ∧ ∀ c H', Same H H' → CellsAt H' c → Q (.ref c) H'
theorem mixed_n (L : Int) (h : 0 ≤ L) : ∃ M : Nat, M ≤ 63 ∧ (if (if L < 63 then L else 63) > 60 + 1 then (if L < 63 then L else 63) else 60 + 1) = (M : Int) := by
  refine ⟨(if (if L < 63 then L else 63) > 60 + 1 then (if L < 63 then L else 63) else 60 + 1 : Int).toNat, ?_, ?_⟩
  · split <;> split <;> omega
  · split <;> split <;> omega
theorem c_L_mixed (T : Txt w K mg) : C8.Cal P w K mg base 1 "_law_mixed" (spMixed K) [] := T.cal_L_mixed fun fd F => by
  have z_len := T.z_len
  have z_range := T.z_range
  have z_min := T.z_min
  have z_max := T.z_max
  have z_abs := T.z_abs
  have z_int := T.z_int
  refine fnD_ok F sc_L_mixed (fun vs H Q E h => ?_) (fun cdv A outer s H vs Q E hr h => ?_)
  · obtain ⟨a, xs, rfl, _⟩ := h
    rfl
  obtain ⟨a, xs, rfl, hS, hi, q⟩ := h
  refine ⟨_, (C8.pss_cut (ps_set (i := 2) sc_L_mixed.nd rfl (Or.inl rfl) (pe_and (pe_cmpR op_gt (pe_callB call_len_seq (by rfl) z_len b_len (pa_cons (pv 0) pa_nil)) pe_int (nomark _)) (pe_one (pe_cmpR op_eq (pe_op op_mod (pe_ix (r := rIxL K) ix_list (pv 0) pe_int (fun _ _ => rfl)) pe_int) pe_int (nomark _)))))
  (pss_cons (ps_set (i := 3) sc_L_mixed.nd rfl (Or.inl rfl) (pe_lst pa_nil))
  (pss_cons (ps_for PassesOwn.never rfl (pi_range1 (by rfl) z_range (pa_cons (pe_callB (call_max2 rfl) (by rfl) z_max b_max (pa_cons (pe_op op_add (pv 1) pe_int) (pa_cons (pe_callB (call_min2 rfl) (by rfl) z_min b_min (pa_cons pe_int (pa_cons (pe_callB call_len_seq (by rfl) z_len b_len (pa_cons (pv 0) pa_nil)) pa_nil))) pa_nil))) pa_nil)) (pg_name (i := 4) sc_L_mixed.nd rfl (Or.inl rfl)) (pss_cons (ps_set (i := 5) sc_L_mixed.nd rfl (Or.inl rfl) pe_int)
  (C8.pss_cut (ps_if (pt_cmpR op_lt (pv 4) (pe_callB call_len_seq (by rfl) z_len b_len (pa_cons (pv 0) pa_nil)) (nomark _)) (pss_one (ps_set (i := 5) sc_L_mixed.nd rfl (Or.inl rfl) (pe_ix (r := rIxL K) ix_list (pv 0) (pv 4) (fun _ _ => rfl)))) pss_nil)
  (pss_one (ps_if (PW.pt (pw_and (pt_val (pv 2)) (pw_and1 (pt_chain op_lt op_lt pe_int (pv 4) (pe_callB call_len_seq (by rfl) z_len b_len (pa_cons (pv 0) pa_nil)))))) (pss_one (ps_expr (pe_bm PySem.F.plainAttrs_list PySem.F.slot_list_append PySem.F.type_list_append mt_append (pv 3) (pa_cons (pe_callB call_abs (by rfl) z_abs b_abs (pa_cons (pv 5) pa_nil)) pa_nil)))) (pss_one (ps_expr (pe_bm PySem.F.plainAttrs_list PySem.F.slot_list_append PySem.F.type_list_append mt_append (pv 3) (pa_cons (pe_op op_mod (pe_op op_mul (pe_op op_mod (pe_op op_add (pe_op op_mul (pe_op op_mod (pv 5) (pe_op op_pow pe_int pe_int)) pe_int) (pe_op op_mul pe_int (pe_op op_add (pv 4) pe_int))) pe_int) pe_int) pe_int) pa_nil)))))))))
  (pss_one (ps_ret (pe_slice sl_list (pv 3) (po_some (pe_callTy call_int1 (by rfl) z_int b_int (pa_cons (pv 2) pa_nil))) po_none)))))), ?_⟩
  refine ⟨fun σ' H' => ∃ b, σ' = [some (.ref a), some (.int 60), some (.bl b), none, none, none] ∧ H = H', ?_, ?_⟩
  · refine ⟨_, rfl, a, _, rfl, .inl hS, _, _, rfl, rfl, _, rfl, ite2 (fun c => ?_) fun c => ?_⟩
    · have l0 : (0 : Int) < (xs.length : Nat) := of_decide_eq_true c
      have l0' : 0 < xs.length := by omega
      obtain ⟨i, e⟩ := hi xs[0] (List.getElem_mem l0')
      have e0 : xs[0]? = some (.int i) := by rw [List.getElem?_eq_getElem l0', e]
      exact ⟨_, rfl, a, _, _, _, rfl, rfl, hS, at_of (j := 0) rfl e0, _, _, rfl, rfl, (by decide : (0 : Int) < 2), rfl, _, rfl, rfl⟩
    · exact ⟨false, rfl, rfl⟩
  rintro σ' H' ⟨b, rfl, rfl⟩
  refine ⟨Nat.zero_le _, fun M hM => ?_⟩
  have s1 := same_new hM (.lst [])
  obtain ⟨N, hN, eN⟩ := mixed_n (xs.length : Nat) (Int.natCast_nonneg _)
  refine ⟨_, rfl, _, _, rfl, rfl, _, rfl, a, _, rfl, .inl (s1.seq hS), _, _, rfl, _, _, rfl, N, by rw [eN], by omega, by omega, ?_⟩
  rw [Int.toNat_natCast]
  refine for_range (lo := 0) (n := N) (fun i σ H' => ∃ x4 x5 ys, σ = [some (.ref a), some (.int 60), some (.bl b), some (.ref M), x4, x5] ∧ Same H H' ∧ H' M = some (.lst ys) ∧ ys.length ≤ i ∧ ∀ v, v ∈ ys → ∃ i, v = .int i)
    ⟨none, none, [], rfl, s1, upd_same, Nat.le_refl _, fun v hv => nomatch hv⟩ (fun i σ H' hi' hp => ?_) fun σ H' hp => ?_
  · obtain ⟨x4, x5, ys, rfl, s2, eM, ly, hy⟩ := hp
    rw [Int.zero_add]
    refine ⟨fun σ' H2 => ∃ c, σ' = [some (.ref a), some (.int 60), some (.bl b), some (.ref M), some (.int (i : Nat)), some (.int c)] ∧ H' = H2, ?_, ?_⟩
    · refine ⟨_, rfl, _, rfl, a, _, rfl, .inl (s2.seq hS), _, _, rfl, rfl, _, rfl, ite2 (fun c => ?_) fun c => ?_⟩
      · have l0 : ((i : Nat) : Int) < (xs.length : Nat) := of_decide_eq_true c
        have l0' : i < xs.length := by omega
        obtain ⟨j, e⟩ := hi xs[i] (List.getElem_mem l0')
        have e0 : xs[i]? = some (.int j) := by rw [List.getElem?_eq_getElem l0', e]
        exact ⟨_, rfl, _, rfl, a, _, _, _, rfl, rfl, s2.seq hS, at_of rfl e0, j, rfl, rfl⟩
      · exact ⟨0, rfl, rfl⟩
    rintro σ' H2 ⟨c, rfl, rfl⟩
    have one : ∀ z : Int, ∃ x4 x5 ys', [some (V.ref a), some (.int 60), some (.bl b), some (.ref M), some (.int (i : Nat)), some (.int c)] = [some (V.ref a), some (.int 60), some (.bl b), some (.ref M), x4, x5] ∧ Same H (upd H' M (.lst (ys ++ [.int z]))) ∧ (upd H' M (.lst (ys ++ [.int z]))) M = some (.lst ys') ∧ ys'.length ≤ i + 1 ∧ ∀ v, v ∈ ys' → ∃ i, v = .int i := fun z => by
      refine ⟨_, _, _, rfl, same_mut s2 hM, upd_same, ?_, fun v hv => ?_⟩
      · rw [List.length_append]
        show ys.length + 1 ≤ _
        omega
      · rcases List.mem_append.mp hv with h | h
        · exact hy v h
        · exact ⟨z, List.mem_singleton.mp h⟩
    refine ⟨_, rfl, _, rfl, ?_⟩
    cases b with
    | true =>
      refine iteT ⟨_, rfl, _, _, rfl, rfl, _, rfl, ite2 (fun c2 => ?_) fun c2 => ?_⟩
      · refine ⟨_, rfl, a, _, rfl, .inl (s2.seq hS), _, _, rfl, rfl, _, rfl, ite2 (fun c3 => ?_) fun c3 => ?_⟩
        · exact ⟨_, rfl, .inl ⟨rfl, _, SqL.of eM⟩, _, rfl, _, rfl, M, _, _, rfl, rfl, eM, small_line (by omega), one _⟩
        · exact ⟨_, rfl, .inl ⟨rfl, _, SqL.of eM⟩, _, rfl, _, _, rfl, rfl, ⟨by decide, by decide, by decide⟩, _, _, rfl, rfl, (show (0 : Int) < 10 ^ Int.toNat 18 by decide), _, _, rfl, rfl, .inr ⟨by decide, by decide⟩, _, rfl, _, _, rfl, rfl, _, _, rfl, rfl, .inl ⟨by decide, by decide⟩, _, _, rfl, rfl, _, _, rfl, rfl, (show (0 : Int) < 2147483647 by decide), _, _, rfl, rfl, .inr ⟨by decide, by decide⟩, _, _, rfl, rfl, (show (0 : Int) < 2147483629 by decide), M, _, _, rfl, rfl, eM, small_line (by omega), one _⟩
      · exact ⟨_, rfl, iteF ⟨_, rfl, .inl ⟨rfl, _, SqL.of eM⟩, _, rfl, _, _, rfl, rfl, ⟨by decide, by decide, by decide⟩, _, _, rfl, rfl, (show (0 : Int) < 10 ^ Int.toNat 18 by decide), _, _, rfl, rfl, .inr ⟨by decide, by decide⟩, _, rfl, _, _, rfl, rfl, _, _, rfl, rfl, .inl ⟨by decide, by decide⟩, _, _, rfl, rfl, _, _, rfl, rfl, (show (0 : Int) < 2147483647 by decide), _, _, rfl, rfl, .inr ⟨by decide, by decide⟩, _, _, rfl, rfl, (show (0 : Int) < 2147483629 by decide), M, _, _, rfl, rfl, eM, small_line (by omega), one _⟩⟩
    | false =>
      exact iteF ⟨_, rfl, .inl ⟨rfl, _, SqL.of eM⟩, _, rfl, _, _, rfl, rfl, ⟨by decide, by decide, by decide⟩, _, _, rfl, rfl, (show (0 : Int) < 10 ^ Int.toNat 18 by decide), _, _, rfl, rfl, .inr ⟨by decide, by decide⟩, _, rfl, _, _, rfl, rfl, _, _, rfl, rfl, .inl ⟨by decide, by decide⟩, _, _, rfl, rfl, _, _, rfl, rfl, (show (0 : Int) < 2147483647 by decide), _, _, rfl, rfl, .inr ⟨by decide, by decide⟩, _, _, rfl, rfl, (show (0 : Int) < 2147483629 by decide), M, _, _, rfl, rfl, eM, small_line (by omega), one _⟩
  · obtain ⟨x4, x5, ys, rfl, s2, eM, ly, hy⟩ := hp
    refine ⟨_, rfl, _, rfl, .inr ⟨b, rfl, _, rfl, M, ys, rfl, SqL.of eM, fun p hp => ?_⟩⟩
    have s3 := same_new hp (.lst (cutV ys (some (if b = true then 1 else 0)) none))
    refine q p _ (s2.trans s3) ⟨_, upd_same, fun v hv => hy v ?_⟩
    exact List.mem_of_mem_drop (List.mem_of_mem_take hv)
end
end K55

namespace K55
open PySem PySem.Spec PyProof.Rows L2
section
variable {P : Program} {w : World} {K : PySem.W.Frag} {mg : Str → Option Value} {base : Heap}
/-! ### _law_folds -/
theorem kids_folds (t : Tr) : (if decide (V.int (((kids t).length + 1 : Nat) : Int) = V.int 3) = true then (1 : Int) else 0) + ((kids t).map fun c => (c.folds : Int)).sum = (t.folds : Nat) := by
  cases t with
  | fold v a b =>
    simp [kids, Tr.folds]
    omega
  | neg a => simp [kids, Tr.folds]
  | _ => rfl
def spLFolds (n : Nat) : Sp := fun vs H Q _ => ∃ v t, vs = [v] ∧ TrAt H v t ∧ t.size ≤ n ∧ ∀ H', Same H H' → Q (.int (t.folds : Nat)) H'
theorem c_L_folds (T : Txt w K mg) : ∀ n : Nat, C8.Cal P w K mg base (n + 1) "_law_folds" (spLFolds n) []
  | 0 => T.cal_L_folds fun fd F => fn_none fun vs H Q E h => by
    obtain ⟨v, t, _, _, h, _⟩ := h
    have := t.size_pos
    omega
  | n + 1 => T.cal_L_folds fun fd F => by
    have c_L_folds := c_L_folds T n
    have z_len := T.z_len
    have z_int := T.z_int
    have z_sum := T.z_sum
    refine fnD_ok F sc_L_folds (fun vs H Q E h => ?_) (fun cdv A outer s H vs Q E hr h => ?_)
    · obtain ⟨v, t, rfl, _⟩ := h
      rfl
    obtain ⟨v, t, rfl, hv, hn, q⟩ := h
    refine ⟨_, (pss_one (ps_ret (pe_op op_add (pe_callTy call_int1 (by rfl) z_int b_int (pa_cons (pe_cmpR op_eq (pe_callB call_len_seq (by rfl) z_len b_len (pa_cons (pv 0) pa_nil)) pe_int (nomark _)) pa_nil)) (pe_callB (cr_sum rfl) (by rfl) z_sum b_sum (pa_cons (pe_lc (own := [("_law_part", 1)]) (g := gName 1) (tt := tYes) rfl sc_L_folds.nd (pi_tup (pe_slice sl_tup (pv 0) (po_some pe_int) po_none)) (blkOk_by (own := [("_law_part", 1)]) (N := ["_law_tree", "_law_part"]) (sc := defScope s_L_folds) (by decide +kernel)) (fun _ _ _ _ _ => (pg_name (i := 1) sc_L_folds.nd rfl (Or.inl rfl))) (fun _ _ _ _ _ => pts_nil) (fun _ _ _ _ _ => (C8.pe_c c_L_folds hr (by omega) (by rfl) (pa_cons (pv 1) pa_nil)))) pa_nil))))), ?_⟩
    obtain ⟨a, us, rfl, ha, hU⟩ := hv.parts
    have hT : SqT K H a (.str t.word :: us) := SqT.of ha
    refine ⟨_, rfl, a, _, rfl, .inr hT, rfl, .inr ⟨_, rfl, _, rfl, 1, rfl, a, _, rfl, hT, cut1_part _ _, fun p hp => ?_⟩⟩
    rw [cut1]
    have s1 := same_new hp (.tup us)
    refine ⟨p, rfl, ⟨_, SqT.of upd_same⟩, fun D hD => lcT (K := K) (a := p) (xs := us) ((kids t).map fun c => V.int (c.folds : Nat)) hD (SqT.of upd_same) (by rw [List.length_map, hU.length]) ?_ (fun i x z H' hx hz s2 Q' hq => ?_) fun H2 s2 hd => ?_⟩
    · rw [List.length_map]
      exact Nat.le_trans (kids_len t) (by decide)
    · obtain ⟨c, hc, cx⟩ := Paired.at1 hU hx
      rw [List.getElem?_map, hc] at hz
      have sc := kid_size (List.mem_of_getElem? hc)
      refine ⟨_, rfl, x, c, rfl, cx.mono (s1.trans s2), by omega, fun H3 s3 => ?_⟩
      have := hq H3 s3
      rw [← Option.some.inj hz] at this
      exact this
    · refine ⟨D, (kids t).map fun c => (c.folds : Int), rfl, SqL.of (by rw [hd, List.map_map]; rfl), _, _, rfl, rfl, ?_⟩
      have e := kids_folds t
      have q2 := q H2 (s1.trans s2)
      rw [← e] at q2
      have l : (V.str t.word :: us).length = (kids t).length + 1 := by rw [List.length_cons, hU.length]
      show Q (V.int ((if decide (V.int (((V.str t.word :: us).length : Nat) : Int) = V.int 3) = true then 1 else 0) + ((kids t).map fun c => (c.folds : Int)).sum)) H2
      rw [l]
      exact q2
/-! ### _law_saying -/
theorem word5 (i : Int) : ∃ v : Wd, atI [V.str "more", .str "less", .str "greater", .str "lesser", .str "leads"] (i % 5) = some (.str v.str) := by
  have a := Int.emod_nonneg i (show (5 : Int) ≠ 0 by decide)
  have b := Int.emod_lt_of_pos i (show (0 : Int) < 5 by decide)
  generalize i % 5 = j at *
  have c : j = 0 ∨ j = 1 ∨ j = 2 ∨ j = 3 ∨ j = 4 := by omega
  rcases c with rfl | rfl | rfl | rfl | rfl
  · exact ⟨.more, at_of (j := 0) rfl rfl⟩
  · exact ⟨.less, at_of (j := 1) rfl rfl⟩
  · exact ⟨.greater, at_of (j := 2) rfl rfl⟩
  · exact ⟨.lesser, at_of (j := 3) rfl rfl⟩
  · exact ⟨.leads, at_of (j := 4) rfl rfl⟩
theorem fresh_new {H : Hp} {c p : Addr} (hC : CellsAt H c) (hp : H p = none) (o : HO) : CellsAt (upd H p o) c := hC.mono (same_new hp o)
def spSaying (n : Nat) : Sp := fun vs H Q _ => ∃ c, ∃ room : Int, vs = [.ref c, .int room, .bl true] ∧ CellsAt H c ∧ 1 ≤ room ∧ room ≤ n ∧ ∀ z H' t, Fr1 c H H' → CellsAt H' c → TrAt H' z t → t.size ≤ room.toNat → Q z H'
theorem c_L_saying (T : Txt w K mg) : ∀ n : Nat, C8.Cal P w K mg base (n + 2) "_law_saying" (spSaying n) []
  | 0 => T.cal_L_saying fun fd F => fn_none fun vs H Q E h => by
    obtain ⟨c, room, _, _, h1, h2, _⟩ := h
    omega
  | n + 1 => T.cal_L_saying fun fd F => by
    have c_L_saying := c_L_saying T n
    have c_L_next := c_L_next (P := P) (base := base) T
    have z_int := T.z_int
    refine fnD_ok F sc_L_saying (fun vs H Q E h => ?_) (fun cdv A outer s H vs Q E hr h => ?_)
    · obtain ⟨c, room, rfl, _⟩ := h
      rfl
    obtain ⟨c, room, rfl, hC, r1, rn, q⟩ := h
    refine ⟨_, (pss_cons (ps_set (i := 3) sc_L_saying.nd rfl (Or.inl rfl) (C8.pe_c c_L_next hr (by omega) (by rfl) (pa_cons (pv 0) pa_nil)))
  (pss_cons (ps_set (i := 4) sc_L_saying.nd rfl (Or.inl rfl) (pe_op op_fdiv (pv 3) pe_int))
  (C8.pss_cut (ps_if (PW.pt (pw_and (pt_cmpR op_gt (pv 1) pe_int (nomark _)) (pw_and1 (pt_cmpR op_gt (pe_op op_mod (pv 3) pe_int) pe_int (nomark _))))) (pss_cons (ps_set (i := 5) sc_L_saying.nd rfl (Or.inl rfl) (pe_op op_add pe_int (pe_op op_mod (pe_op op_fdiv (pv 4) pe_int) (pe_op op_sub (pv 1) pe_int))))
  (pss_cons (ps_set (i := 6) sc_L_saying.nd rfl (Or.inl rfl) (C8.pe_c c_L_saying hr (by omega) (by rfl) (pa_cons (pv 0) (pa_cons (pv 5) (pa_cons (pv 2) pa_nil)))))
  (pss_cons (ps_set (i := 7) sc_L_saying.nd rfl (Or.inl rfl) (pe_ix (r := rIxT K) ix_tup (pe_tup (pa_cons pe_str (pa_cons pe_str (pa_cons pe_str (pa_cons pe_str (pa_cons pe_str pa_nil)))))) (pe_op op_mod (pv 4) pe_int) (fun _ _ => rfl)))
  (pss_one (ps_ret (pe_tup (pa_cons (pv 7) (pa_cons (pv 6) (pa_cons (C8.pe_c c_L_saying hr (by omega) (by rfl) (pa_cons (pv 0) (pa_cons (pe_op op_sub (pe_op op_sub (pv 1) pe_int) (pv 5)) (pa_cons (pv 2) pa_nil)))) pa_nil))))))))) pss_nil)
  (C8.pss_cut (ps_if (PW.pt (pw_and (pt_cmpR op_gt (pv 1) pe_int (nomark _)) (pw_and1 (pt_cmpR op_lt (pe_op op_mod (pv 3) pe_int) pe_int (nomark _))))) (pss_one (ps_ret (pe_tup (pa_cons pe_str (pa_cons (C8.pe_c c_L_saying hr (by omega) (by rfl) (pa_cons (pv 0) (pa_cons (pe_op op_sub (pv 1) pe_int) (pa_cons (pv 2) pa_nil)))) pa_nil))))) pss_nil)
  (pss_cons (ps_if (pt_cmpR op_gt (pe_op op_mod (pv 4) pe_int) pe_int (nomark _)) (pss_one (ps_ret (pe_tup (pa_cons (pe_ix (r := rIxT K) ix_tup (pe_tup (pa_cons pe_str (pa_cons pe_str pa_nil))) (pe_op op_sub (pe_op op_mod (pv 4) pe_int) pe_int) (fun _ _ => rfl)) pa_nil)))) pss_nil)
  (pss_one (ps_ret (pe_tup (pa_cons (pe_ix (r := rIxT K) ix_tup (pe_tup (pa_cons pe_str (pa_cons pe_str pa_nil))) (pe_op op_mul (pe_op op_mod (pv 4) pe_int) (pe_callTy call_int1 (by rfl) z_int b_int (pa_cons (pv 2) pa_nil))) (fun _ _ => rfl)) pa_nil))))))))), ?_⟩
    refine ⟨_, rfl, c, rfl, hC, fun i H1 f1 C1 => ?_⟩
    refine ⟨_, rfl, _, _, rfl, rfl, ⟨by decide, by decide⟩, ?_⟩
    refine ⟨fun σ' H' => σ' = [some (.ref c), some (.int room), some (.bl true), some (.int i), some (.int (i / 16)), none, none, none] ∧ H1 = H', ?_, ?_⟩
    · refine ⟨_, rfl, _, _, rfl, rfl, _, rfl, ite2 (fun k => ?_) fun _ => ⟨rfl, rfl⟩⟩
      have k' : 2 < room := of_decide_eq_true k
      refine ⟨_, rfl, _, _, rfl, rfl, (show (0 : Int) < 16 by decide), _, _, rfl, rfl, _, rfl, ite2 (fun _ => ?_) fun _ => ⟨rfl, rfl⟩⟩
      have l0 := Int.emod_nonneg (i / 16 / 5) (show room - 2 ≠ 0 by omega)
      have l1 := Int.emod_lt_of_pos (i / 16 / 5) (show 0 < room - 2 by omega)
      refine ⟨_, rfl, _, _, rfl, rfl, ⟨by decide, by decide⟩, _, rfl, _, _, rfl, rfl, _, _, rfl, rfl, (show 0 < room - 2 by omega), _, _, rfl, rfl, ?_⟩
      refine ⟨_, rfl, _, rfl, _, rfl, c, _, rfl, C1, by omega, by omega, fun z2 H2 t2 f2 C2 hz2 sz2 => ?_⟩
      refine ⟨(by show 5 ≤ sizeLine; decide), fun p hp => ?_⟩
      have s3 := same_new hp (.tup [.str "more", .str "less", .str "greater", .str "lesser", .str "leads"])
      have C3 := C2.mono s3
      obtain ⟨v, hv⟩ := word5 (i / 16)
      refine ⟨_, rfl, _, _, rfl, rfl, (show (0 : Int) < 5 by decide), p, _, _, _, rfl, rfl, SqT.of upd_same, hv, ?_⟩
      refine ⟨_, rfl, _, rfl, _, rfl, _, rfl, _, _, rfl, rfl, _, rfl, _, _, rfl, rfl, _, rfl, c, _, rfl, C3, by omega, by omega, fun z4 H4 t4 f4 C4 hz4 sz4 => ?_⟩
      refine ⟨(by show 3 ≤ sizeLine; decide), fun p5 hp5 => ?_⟩
      have k2 : TrAt H4 z2 t2 := (hz2.mono s3).keep (C3.keep f4)
      have s5 := same_new hp5 (.tup [.str v.str, z2, z4])
      refine q _ _ (.fold v t2 t4) ((((f1.trans f2).trans (Fr1.of s3)).trans f4).trans (Fr1.of s5)) (C4.mono s5) (t_fold v k2 hz4 hp5) ?_
      simp only [Tr.size]
      omega
    rintro σ' H' ⟨rfl, rfl⟩
    refine ⟨fun σ' H' => σ' = [some (.ref c), some (.int room), some (.bl true), some (.int i), some (.int (i / 16)), none, none, none] ∧ H1 = H', ?_, ?_⟩
    · refine ⟨_, rfl, _, _, rfl, rfl, _, rfl, ite2 (fun k => ?_) fun _ => ⟨rfl, rfl⟩⟩
      have k' : 1 < room := of_decide_eq_true k
      refine ⟨_, rfl, _, _, rfl, rfl, (show (0 : Int) < 16 by decide), _, _, rfl, rfl, _, rfl, ite2 (fun _ => ?_) fun _ => ⟨rfl, rfl⟩⟩
      refine ⟨_, rfl, _, rfl, _, _, rfl, rfl, _, rfl, c, _, rfl, C1, by omega, by omega, fun z2 H2 t2 f2 C2 hz2 sz2 => ?_⟩
      refine ⟨(by show 2 ≤ sizeLine; decide), fun p5 hp5 => ?_⟩
      have s5 := same_new hp5 (.tup [.str "not", z2])
      refine q _ _ (.neg t2) ((f1.trans f2).trans (Fr1.of s5)) (C2.mono s5) (t_neg hz2 hp5) ?_
      simp only [Tr.size]
      omega
    rintro σ' H' ⟨rfl, rfl⟩
    have m0 := Int.emod_nonneg (i / 16) (show (9 : Int) ≠ 0 by decide)
    have m1 := Int.emod_lt_of_pos (i / 16) (show (0 : Int) < 9 by decide)
    refine ⟨_, rfl, _, _, rfl, rfl, (show (0 : Int) < 9 by decide), _, _, rfl, rfl, _, rfl, ite2 (fun k => ?_) fun _ => ?_⟩
    · have k' : 6 < i / 16 % 9 := of_decide_eq_true k
      refine ⟨(by show 2 ≤ sizeLine; decide), fun p hp => ?_⟩
      have s3 := same_new hp (.tup [.str "never", .str "always"])
      have two : atI [V.str "never", .str "always"] (i / 16 % 9 - 7) = some (.str Tr.never.word) ∨ atI [V.str "never", .str "always"] (i / 16 % 9 - 7) = some (.str Tr.always.word) := by
        rcases (show i / 16 % 9 - 7 = 0 ∨ i / 16 % 9 - 7 = 1 by omega) with e | e
        · rw [e]; exact .inl (at_of (j := 0) rfl rfl)
        · rw [e]; exact .inr (at_of (j := 1) rfl rfl)
      rcases two with e | e
      · refine ⟨_, rfl, _, _, rfl, rfl, (show (0 : Int) < 9 by decide), _, _, rfl, rfl, p, _, _, _, rfl, rfl, SqT.of upd_same, e, (by show 1 ≤ sizeLine; decide), fun p5 hp5 => ?_⟩
        have s5 := same_new hp5 (.tup [.str Tr.never.word])
        exact q _ _ .never ((f1.trans (Fr1.of s3)).trans (Fr1.of s5)) ((C1.mono s3).mono s5) ⟨p5, rfl, upd_same⟩ (by simp only [Tr.size]; omega)
      · refine ⟨_, rfl, _, _, rfl, rfl, (show (0 : Int) < 9 by decide), _, _, rfl, rfl, p, _, _, _, rfl, rfl, SqT.of upd_same, e, (by show 1 ≤ sizeLine; decide), fun p5 hp5 => ?_⟩
        have s5 := same_new hp5 (.tup [.str Tr.always.word])
        exact q _ _ .always ((f1.trans (Fr1.of s3)).trans (Fr1.of s5)) ((C1.mono s3).mono s5) ⟨p5, rfl, upd_same⟩ (by simp only [Tr.size]; omega)
    · refine ⟨(by show 2 ≤ sizeLine; decide), fun p hp => ?_⟩
      have s3 := same_new hp (.tup [.str "p", .str "q"])
      have n0 := Int.emod_nonneg (i / 16) (show (2 : Int) ≠ 0 by decide)
      have n1 := Int.emod_lt_of_pos (i / 16) (show (0 : Int) < 2 by decide)
      have two : atI [V.str "p", .str "q"] (i / 16 % 2 * 1) = some (.str Tr.p.word) ∨ atI [V.str "p", .str "q"] (i / 16 % 2 * 1) = some (.str Tr.q.word) := by
        rcases (show i / 16 % 2 * 1 = 0 ∨ i / 16 % 2 * 1 = 1 by omega) with e | e
        · rw [e]; exact .inl (at_of (j := 0) rfl rfl)
        · rw [e]; exact .inr (at_of (j := 1) rfl rfl)
      rcases two with e | e
      · refine ⟨_, rfl, _, _, rfl, rfl, (show (0 : Int) < 2 by decide), _, rfl, .inr ⟨true, rfl, _, _, rfl, rfl, .inr ⟨by decide, by decide⟩, p, _, _, _, rfl, rfl, SqT.of upd_same, e, (by show 1 ≤ sizeLine; decide), fun p5 hp5 => ?_⟩⟩
        have s5 := same_new hp5 (.tup [.str Tr.p.word])
        exact q _ _ .p ((f1.trans (Fr1.of s3)).trans (Fr1.of s5)) ((C1.mono s3).mono s5) ⟨p5, rfl, upd_same⟩ (by simp only [Tr.size]; omega)
      · refine ⟨_, rfl, _, _, rfl, rfl, (show (0 : Int) < 2 by decide), _, rfl, .inr ⟨true, rfl, _, _, rfl, rfl, .inr ⟨by decide, by decide⟩, p, _, _, _, rfl, rfl, SqT.of upd_same, e, (by show 1 ≤ sizeLine; decide), fun p5 hp5 => ?_⟩⟩
        have s5 := same_new hp5 (.tup [.str Tr.q.word])
        exact q _ _ .q ((f1.trans (Fr1.of s3)).trans (Fr1.of s5)) ((C1.mono s3).mono s5) ⟨p5, rfl, upd_same⟩ (by simp only [Tr.size]; omega)
/-! ### _law_few -/
def spFew (n : Nat) : Sp := fun vs H Q _ => ∃ c, ∃ room most : Int, vs = [.ref c, .int room, .int most] ∧ CellsAt H c ∧ 1 ≤ room ∧ room ≤ n ∧ 0 ≤ most ∧ ∀ z H' t, Fr1 c H H' → CellsAt H' c → TrAt H' z t → t.size ≤ room.toNat → ((t.folds : Nat) : Int) ≤ most → Q z H'
theorem c_L_few (T : Txt w K mg) (n : Nat) : C8.Cal P w K mg base (n + 3) "_law_few" (spFew n) [] := T.cal_L_few fun fd F => by
  have c_L_saying := c_L_saying (P := P) (base := base) T n
  have c_L_next := c_L_next (P := P) (base := base) T
  have c_L_folds := c_L_folds (P := P) (base := base) T n
  have z_len := T.z_len
  refine fnD_ok F sc_L_few (fun vs H Q E h => ?_) (fun cdv A outer s H vs Q E hr h => ?_)
  · obtain ⟨c, room, most, rfl, _⟩ := h
    rfl
  obtain ⟨c, room, most, rfl, hC, r1, rn, m0, q⟩ := h
  refine ⟨_, (pss_cons (ps_set (i := 3) sc_L_few.nd rfl (Or.inl rfl) (C8.pe_c c_L_saying hr (by omega) (by rfl) (pa_cons (pv 0) (pa_cons (pe_op op_add pe_int (pe_op op_mod (C8.pe_c c_L_next hr (by omega) (by rfl) (pa_cons (pv 0) pa_nil)) (pv 1))) (pa_cons pe_bl pa_nil)))))
  (pss_cons (ps_while PassesOwn.never (pt_cmpR op_gt (C8.pe_c c_L_folds hr (by omega) (by rfl) (pa_cons (pv 3) pa_nil)) (pv 2) (nomark _)) (pss_one (ps_set (i := 3) sc_L_few.nd rfl (Or.inl rfl) (pe_ix (r := rIxT K) ix_tup (pv 3) (pe_op op_add pe_int (pe_op op_mod (C8.pe_c c_L_next hr (by omega) (by rfl) (pa_cons (pv 0) pa_nil)) (pe_op op_sub (pe_callB call_len_seq (by rfl) z_len b_len (pa_cons (pv 3) pa_nil)) pe_int))) (fun _ _ => rfl)))))
  (pss_one (ps_ret (pv 3))))), ?_⟩
  refine ⟨_, rfl, _, rfl, c, rfl, hC, fun i H1 f1 C1 => ?_⟩
  have l0 := Int.emod_nonneg i (show room ≠ 0 by omega)
  have l1 := Int.emod_lt_of_pos i (show 0 < room by omega)
  refine ⟨_, rfl, _, _, rfl, rfl, (show 0 < room by omega), _, _, rfl, rfl, c, _, rfl, C1, by omega, by omega, fun z2 H2 t2 f2 C2 hz2 sz2 => ?_⟩
  refine ⟨fun m σ H' => ∃ z t, σ = [some (.ref c), some (.int room), some (.int most), some z] ∧ Fr1 c H H' ∧ CellsAt H' c ∧ TrAt H' z t ∧ t.size ≤ room.toNat ∧ m = t.size, ⟨_, z2, t2, rfl, f1.trans f2, C2, hz2, by omega, rfl⟩, fun m σ H' hW => ?_⟩
  obtain ⟨z, t, rfl, f, C, hz, sz, rfl⟩ := hW
  refine ⟨_, rfl, z, t, rfl, hz, by omega, fun H3 s3 => ?_⟩
  refine ⟨_, rfl, _, _, rfl, rfl, _, rfl, ite2 (fun k => ?_) fun k => ?_⟩
  · have k' : most < (t.folds : Nat) := of_decide_eq_true k
    refine ⟨fun σ' H' => ∃ z' t', σ' = [some (.ref c), some (.int room), some (.int most), some z'] ∧ Fr1 c H H' ∧ CellsAt H' c ∧ TrAt H' z' t' ∧ t'.size < t.size, fun σ' H' h2 => ?_, ?_⟩
    · obtain ⟨z', t', e, g1, g2, g3, g4⟩ := h2
      exact ⟨_, g4, z', t', e, g1, g2, g3, by omega, rfl⟩
    · refine ⟨_, rfl, _, rfl, c, rfl, C.mono s3, fun i4 H4 f4 C4 => ?_⟩
      have hz4 := (hz.mono s3).keep ((C.mono s3).keep f4)
      obtain ⟨a, us, rfl, ha, hU⟩ := hz4.parts
      have hT : SqT K H4 a (.str t.word :: us) := SqT.of ha
      have ul : 0 < us.length := by
        rw [hU.length]
        cases t with
        | neg x => exact Nat.zero_lt_one
        | fold v x y => exact Nat.zero_lt_two
        | _ => simp only [Tr.folds] at k'; omega
      have e1 : ((((V.str t.word :: us).length : Nat) : Int) - 1) = (us.length : Nat) := by rw [List.length_cons]; omega
      have p0 : (0 : Int) < (((V.str t.word :: us).length : Nat) : Int) - 1 := by rw [e1]; omega
      have j0 := Int.emod_nonneg i4 (show (((V.str t.word :: us).length : Nat) : Int) - 1 ≠ 0 by omega)
      have j1 := Int.emod_lt_of_pos i4 p0
      obtain ⟨j, ej⟩ := Int.eq_ofNat_of_zero_le j0
      have hj : j < us.length := by omega
      have eu : us[j]? = some us[j] := List.getElem?_eq_getElem hj
      obtain ⟨t', ht', ut⟩ := Paired.at1 hU eu
      have sk := kid_size (List.mem_of_getElem? ht')
      refine ⟨_, rfl, a, _, rfl, .inr hT, _, _, rfl, rfl, _, _, rfl, rfl, p0, _, _, rfl, rfl, a, _, _, us[j], rfl, rfl, hT, at_of (j := j + 1) (by rw [ej]; omega) eu, ?_⟩
      exact ⟨_, t', rfl, (f.trans (Fr1.of s3)).trans f4, C4, ut, sk⟩
  · have k' : ¬ most < (t.folds : Nat) := of_decide_eq_false (Bool.eq_false_iff.mpr k)
    exact ⟨_, rfl, q z H3 t (f.trans (Fr1.of s3)) (C.mono s3) (hz.mono s3) sz (by omega)⟩
end
end K55

namespace K55
open PySem PySem.Spec PyProof.Rows L2
/-! ### twins -/
structure Twin (m : Nat) (s t : Tr) : Prop where
  eq : ∀ n x y : Int, 0 < n → (0 ≤ x ∧ x ≤ n) → (0 ≤ y ∧ y ≤ n) → s.val n x y = t.val n x y
  l1 : s.size ≤ 18
  l2 : t.size ≤ 18
  l3 : s.folds + t.folds ≤ m
theorem twin0 (a b : Tr) (ha : a.size ≤ 5) (hb : b.size ≤ 5) : Twin (3 * (a.folds + b.folds) + 3) (.fold .more a b) (.fold .more b a) := ⟨fun n x y hn hx hy => by have h1 := Tr.val_range (Int.le_of_lt hn) hx hy a; have h2 := Tr.val_range (Int.le_of_lt hn) hx hy b; simp only [Tr.val, Wd.val] <;> omega, by first | (simp only [Tr.size] <;> omega) | omega, by first | (simp only [Tr.size] <;> omega) | omega, by simp only [Tr.folds] <;> omega⟩
theorem twin1 (a b : Tr) (ha : a.size ≤ 5) (hb : b.size ≤ 5) : Twin (3 * (a.folds + b.folds) + 3) (.fold .less a b) (.neg (.fold .more (.neg a) (.neg b))) := ⟨fun n x y hn hx hy => by have h1 := Tr.val_range (Int.le_of_lt hn) hx hy a; have h2 := Tr.val_range (Int.le_of_lt hn) hx hy b; simp only [Tr.val, Wd.val] <;> omega, by first | (simp only [Tr.size] <;> omega) | omega, by first | (simp only [Tr.size] <;> omega) | omega, by simp only [Tr.folds] <;> omega⟩
theorem twin2 (a b : Tr) (ha : a.size ≤ 5) (hb : b.size ≤ 5) : Twin (3 * (a.folds + b.folds) + 3) (.fold .greater a b) (.fold .leads (.fold .leads a b) b) := ⟨fun n x y hn hx hy => by have h1 := Tr.val_range (Int.le_of_lt hn) hx hy a; have h2 := Tr.val_range (Int.le_of_lt hn) hx hy b; simp only [Tr.val, Wd.val] <;> omega, by first | (simp only [Tr.size] <;> omega) | omega, by first | (simp only [Tr.size] <;> omega) | omega, by simp only [Tr.folds] <;> omega⟩
theorem twin3 (a b : Tr) (ha : a.size ≤ 5) (hb : b.size ≤ 5) : Twin (3 * (a.folds + b.folds) + 3) (.fold .lesser a b) (.fold .less a (.fold .leads a b)) := ⟨fun n x y hn hx hy => by have h1 := Tr.val_range (Int.le_of_lt hn) hx hy a; have h2 := Tr.val_range (Int.le_of_lt hn) hx hy b; simp only [Tr.val, Wd.val] <;> omega, by first | (simp only [Tr.size] <;> omega) | omega, by first | (simp only [Tr.size] <;> omega) | omega, by simp only [Tr.folds] <;> omega⟩
theorem twin4 (a b : Tr) (ha : a.size ≤ 5) (hb : b.size ≤ 5) : Twin (3 * (a.folds + b.folds) + 3) (.fold .leads a b) (.fold .more (.neg a) b) := ⟨fun n x y hn hx hy => by have h1 := Tr.val_range (Int.le_of_lt hn) hx hy a; have h2 := Tr.val_range (Int.le_of_lt hn) hx hy b; simp only [Tr.val, Wd.val] <;> omega, by first | (simp only [Tr.size] <;> omega) | omega, by first | (simp only [Tr.size] <;> omega) | omega, by simp only [Tr.folds] <;> omega⟩
theorem twin5 (a b : Tr) (ha : a.size ≤ 5) (hb : b.size ≤ 5) : Twin (3 * (a.folds + b.folds) + 3) a (.neg (.neg a)) := ⟨fun n x y hn hx hy => by have h1 := Tr.val_range (Int.le_of_lt hn) hx hy a; have h2 := Tr.val_range (Int.le_of_lt hn) hx hy b; simp only [Tr.val, Wd.val] <;> omega, by first | (simp only [Tr.size] <;> omega) | omega, by first | (simp only [Tr.size] <;> omega) | omega, by simp only [Tr.folds] <;> omega⟩
theorem twin6 (a b : Tr) (ha : a.size ≤ 5) (hb : b.size ≤ 5) : Twin (3 * (a.folds + b.folds) + 3) a (.fold .greater a (.fold .lesser a b)) := ⟨fun n x y hn hx hy => by have h1 := Tr.val_range (Int.le_of_lt hn) hx hy a; have h2 := Tr.val_range (Int.le_of_lt hn) hx hy b; simp only [Tr.val, Wd.val] <;> omega, by first | (simp only [Tr.size] <;> omega) | omega, by first | (simp only [Tr.size] <;> omega) | omega, by simp only [Tr.folds] <;> omega⟩
theorem twin7 (a b : Tr) (ha : a.size ≤ 5) (hb : b.size ≤ 5) : Twin (3 * (a.folds + b.folds) + 3) (.neg (.fold .greater a b)) (.fold .lesser (.neg a) (.neg b)) := ⟨fun n x y hn hx hy => by have h1 := Tr.val_range (Int.le_of_lt hn) hx hy a; have h2 := Tr.val_range (Int.le_of_lt hn) hx hy b; simp only [Tr.val, Wd.val] <;> omega, by first | (simp only [Tr.size] <;> omega) | omega, by first | (simp only [Tr.size] <;> omega) | omega, by simp only [Tr.folds] <;> omega⟩
theorem twin8 (a b : Tr) (ha : a.size ≤ 5) (hb : b.size ≤ 5) : Twin (3 * (a.folds + b.folds) + 3) (.fold .leads a b) (.fold .leads (.neg b) (.neg a)) := ⟨fun n x y hn hx hy => by have h1 := Tr.val_range (Int.le_of_lt hn) hx hy a; have h2 := Tr.val_range (Int.le_of_lt hn) hx hy b; simp only [Tr.val, Wd.val] <;> omega, by first | (simp only [Tr.size] <;> omega) | omega, by first | (simp only [Tr.size] <;> omega) | omega, by simp only [Tr.folds] <;> omega⟩
theorem twin9 (a b : Tr) (ha : a.size ≤ 5) (hb : b.size ≤ 5) : Twin (3 * (a.folds + b.folds) + 3) (.fold .greater a b) (.fold .more a (.fold .less b (.neg a))) := ⟨fun n x y hn hx hy => by have h1 := Tr.val_range (Int.le_of_lt hn) hx hy a; have h2 := Tr.val_range (Int.le_of_lt hn) hx hy b; simp only [Tr.val, Wd.val] <;> omega, by first | (simp only [Tr.size] <;> omega) | omega, by first | (simp only [Tr.size] <;> omega) | omega, by simp only [Tr.folds] <;> omega⟩
theorem twin10 (a b : Tr) (ha : a.size ≤ 5) (hb : b.size ≤ 5) : Twin (3 * (a.folds + b.folds) + 3) (.fold .less a .always) a := ⟨fun n x y hn hx hy => by have h1 := Tr.val_range (Int.le_of_lt hn) hx hy a; have h2 := Tr.val_range (Int.le_of_lt hn) hx hy b; simp only [Tr.val, Wd.val] <;> omega, by first | (simp only [Tr.size] <;> omega) | omega, by first | (simp only [Tr.size] <;> omega) | omega, by simp only [Tr.folds] <;> omega⟩
def TwinAt (m : Nat) (H : Hp) (z : V) : Prop := ∃ p u v s t, z = .ref p ∧ H p = some (.tup [u, v]) ∧ TrAt H u s ∧ TrAt H v t ∧ Twin m s t
theorem TwinAt.mono {m : Nat} {H H' : Hp} (e : Same H H') {z : V} (h : TwinAt m H z) : TwinAt m H' z := by
  obtain ⟨p, u, v, s, t, h1, h2, h3, h4, h5⟩ := h
  exact ⟨p, u, v, s, t, h1, e _ _ h2, h3.mono e, h4.mono e, h5⟩
theorem twin_new {m : Nat} {H : Hp} {p : Addr} {u v : V} {s t : Tr} (T : Twin m s t) (h : TrAt H u s) (k : TrAt H v t) (hp : H p = none) : TwinAt m (upd H p (.tup [u, v])) (.ref p) := ⟨p, u, v, s, t, rfl, upd_same, h.mono (same_new hp _), k.mono (same_new hp _), T⟩
def MidTw (m : Nat) (H : Hp) (c A B : V) (n : Nat) : L2.St → Hp → Prop := fun σ H' => ∃ L xs, σ = [some c, some A, some B, some (.ref L)] ∧ Same H H' ∧ H' L = some (.lst xs) ∧ 0 < xs.length ∧ xs.length ≤ n ∧ ∀ x, x ∈ xs → TwinAt m H' x
theorem t_always {H : Hp} {p : Addr} (hp : H p = none) : TrAt (upd H p (.tup [.str "always"])) (.ref p) .always := ⟨p, rfl, upd_same⟩
section
variable {P : Program} {w : World} {K : PySem.W.Frag} {mg : Str → Option Value} {base : Heap}
def spTwins : Sp := fun vs H Q _ => ∃ cell A B a b, vs = [.int cell, A, B] ∧ TrAt H A a ∧ TrAt H B b ∧ a.size ≤ 5 ∧ b.size ≤ 5 ∧ ∀ z H', Same H H' → TwinAt (3 * (a.folds + b.folds) + 3) H' z → Q z H'
theorem c_L_twins (T : Txt w K mg) : C8.Cal P w K mg base 1 "_law_twins" spTwins [] := T.cal_L_twins fun fd F => by
  have z_len := T.z_len
  refine fnD_ok F sc_L_twins (fun vs H Q E h => ?_) (fun cdv A outer s H vs Q E hr h => ?_)
  · obtain ⟨cell, A, B, a, b, rfl, _⟩ := h
    rfl
  obtain ⟨cell, A, B, a, b, rfl, hA0, hB0, ha, hb, q⟩ := h
  refine ⟨_, (C8.pss_cut (ps_set (i := 3) sc_L_twins.nd rfl (Or.inl rfl) (pe_lst (pa_cons (pe_tup (pa_cons (pe_tup (pa_cons pe_str (pa_cons (pv 1) (pa_cons (pv 2) pa_nil)))) (pa_cons (pe_tup (pa_cons pe_str (pa_cons (pv 2) (pa_cons (pv 1) pa_nil)))) pa_nil))) (pa_cons (pe_tup (pa_cons (pe_tup (pa_cons pe_str (pa_cons (pv 1) (pa_cons (pv 2) pa_nil)))) (pa_cons (pe_tup (pa_cons pe_str (pa_cons (pe_tup (pa_cons pe_str (pa_cons (pe_tup (pa_cons pe_str (pa_cons (pv 1) pa_nil))) (pa_cons (pe_tup (pa_cons pe_str (pa_cons (pv 2) pa_nil))) pa_nil)))) pa_nil))) pa_nil))) pa_nil))))
  (C8.pss_cut (ps_set (i := 3) sc_L_twins.nd rfl (Or.inl rfl) (pe_op op_cat (pv 3) (pe_lst (pa_cons (pe_tup (pa_cons (pe_tup (pa_cons pe_str (pa_cons (pv 1) (pa_cons (pv 2) pa_nil)))) (pa_cons (pe_tup (pa_cons pe_str (pa_cons (pe_tup (pa_cons pe_str (pa_cons (pv 1) (pa_cons (pv 2) pa_nil)))) (pa_cons (pv 2) pa_nil)))) pa_nil))) pa_nil))))
  (C8.pss_cut (ps_set (i := 3) sc_L_twins.nd rfl (Or.inl rfl) (pe_op op_cat (pv 3) (pe_lst (pa_cons (pe_tup (pa_cons (pe_tup (pa_cons pe_str (pa_cons (pv 1) (pa_cons (pv 2) pa_nil)))) (pa_cons (pe_tup (pa_cons pe_str (pa_cons (pv 1) (pa_cons (pe_tup (pa_cons pe_str (pa_cons (pv 1) (pa_cons (pv 2) pa_nil)))) pa_nil)))) pa_nil))) pa_nil))))
  (C8.pss_cut (ps_set (i := 3) sc_L_twins.nd rfl (Or.inl rfl) (pe_op op_cat (pv 3) (pe_lst (pa_cons (pe_tup (pa_cons (pe_tup (pa_cons pe_str (pa_cons (pv 1) (pa_cons (pv 2) pa_nil)))) (pa_cons (pe_tup (pa_cons pe_str (pa_cons (pe_tup (pa_cons pe_str (pa_cons (pv 1) pa_nil))) (pa_cons (pv 2) pa_nil)))) pa_nil))) (pa_cons (pe_tup (pa_cons (pv 1) (pa_cons (pe_tup (pa_cons pe_str (pa_cons (pe_tup (pa_cons pe_str (pa_cons (pv 1) pa_nil))) pa_nil))) pa_nil))) pa_nil)))))
  (C8.pss_cut (ps_set (i := 3) sc_L_twins.nd rfl (Or.inl rfl) (pe_op op_cat (pv 3) (pe_lst (pa_cons (pe_tup (pa_cons (pv 1) (pa_cons (pe_tup (pa_cons pe_str (pa_cons (pv 1) (pa_cons (pe_tup (pa_cons pe_str (pa_cons (pv 1) (pa_cons (pv 2) pa_nil)))) pa_nil)))) pa_nil))) pa_nil))))
  (C8.pss_cut (ps_set (i := 3) sc_L_twins.nd rfl (Or.inl rfl) (pe_op op_cat (pv 3) (pe_lst (pa_cons (pe_tup (pa_cons (pe_tup (pa_cons pe_str (pa_cons (pe_tup (pa_cons pe_str (pa_cons (pv 1) (pa_cons (pv 2) pa_nil)))) pa_nil))) (pa_cons (pe_tup (pa_cons pe_str (pa_cons (pe_tup (pa_cons pe_str (pa_cons (pv 1) pa_nil))) (pa_cons (pe_tup (pa_cons pe_str (pa_cons (pv 2) pa_nil))) pa_nil)))) pa_nil))) pa_nil))))
  (C8.pss_cut (ps_set (i := 3) sc_L_twins.nd rfl (Or.inl rfl) (pe_op op_cat (pv 3) (pe_lst (pa_cons (pe_tup (pa_cons (pe_tup (pa_cons pe_str (pa_cons (pv 1) (pa_cons (pv 2) pa_nil)))) (pa_cons (pe_tup (pa_cons pe_str (pa_cons (pe_tup (pa_cons pe_str (pa_cons (pv 2) pa_nil))) (pa_cons (pe_tup (pa_cons pe_str (pa_cons (pv 1) pa_nil))) pa_nil)))) pa_nil))) pa_nil))))
  (C8.pss_cut (ps_set (i := 3) sc_L_twins.nd rfl (Or.inl rfl) (pe_op op_cat (pv 3) (pe_lst (pa_cons (pe_tup (pa_cons (pe_tup (pa_cons pe_str (pa_cons (pv 1) (pa_cons (pv 2) pa_nil)))) (pa_cons (pe_tup (pa_cons pe_str (pa_cons (pv 1) (pa_cons (pe_tup (pa_cons pe_str (pa_cons (pv 2) (pa_cons (pe_tup (pa_cons pe_str (pa_cons (pv 1) pa_nil))) pa_nil)))) pa_nil)))) pa_nil))) (pa_cons (pe_tup (pa_cons (pe_tup (pa_cons pe_str (pa_cons (pv 1) (pa_cons (pe_tup (pa_cons pe_str pa_nil)) pa_nil)))) (pa_cons (pv 1) pa_nil))) pa_nil)))))
  (pss_one (ps_ret (pe_ix (r := rIxL K) ix_list (pv 3) (pe_op op_mod (pv 0) (pe_callB call_len_seq (by rfl) z_len b_len (pa_cons (pv 3) pa_nil))) (fun _ _ => rfl)))))))))))), ?_⟩
  refine ⟨MidTw (3 * (a.folds + b.folds) + 3) H (.int cell) A B 2, ?_, ?_⟩
  · have sm := Same.refl H
    have hA := hA0
    have hB := hB0
    refine ⟨_, rfl, _, rfl, (by show 3 ≤ sizeLine; decide), fun p1 hp1 => ?_⟩
    have k1 := t_fold .more hA hB hp1
    have s1 := same_new hp1 (.tup [.str "more", A, B])
    replace hA := hA.mono s1
    replace hB := hB.mono s1
    replace sm := sm.trans s1
    refine ⟨_, rfl, _, rfl, (by show 3 ≤ sizeLine; decide), fun p2 hp2 => ?_⟩
    have k2 := t_fold .more hB hA hp2
    have s2 := same_new hp2 (.tup [.str "more", B, A])
    replace hA := hA.mono s2
    replace hB := hB.mono s2
    replace k1 := k1.mono s2
    replace sm := sm.trans s2
    refine ⟨(by show 2 ≤ sizeLine; decide), fun p3 hp3 => ?_⟩
    have k3 := twin_new (twin0 a b ha hb) k1 k2 hp3
    have s3 := same_new hp3 (.tup [.ref p1, .ref p2])
    replace hA := hA.mono s3
    replace hB := hB.mono s3
    replace k1 := k1.mono s3
    replace k2 := k2.mono s3
    replace sm := sm.trans s3
    refine ⟨_, rfl, _, rfl, (by show 3 ≤ sizeLine; decide), fun p4 hp4 => ?_⟩
    have k4 := t_fold .less hA hB hp4
    have s4 := same_new hp4 (.tup [.str "less", A, B])
    replace hA := hA.mono s4
    replace hB := hB.mono s4
    replace k3 := k3.mono s4
    replace sm := sm.trans s4
    refine ⟨_, rfl, (by show 2 ≤ sizeLine; decide), fun p5 hp5 => ?_⟩
    have k5 := t_neg hA hp5
    have s5 := same_new hp5 (.tup [.str "not", A])
    replace hA := hA.mono s5
    replace hB := hB.mono s5
    replace k3 := k3.mono s5
    replace k4 := k4.mono s5
    replace sm := sm.trans s5
    refine ⟨_, rfl, (by show 2 ≤ sizeLine; decide), fun p6 hp6 => ?_⟩
    have k6 := t_neg hB hp6
    have s6 := same_new hp6 (.tup [.str "not", B])
    replace hA := hA.mono s6
    replace hB := hB.mono s6
    replace k3 := k3.mono s6
    replace k4 := k4.mono s6
    replace k5 := k5.mono s6
    replace sm := sm.trans s6
    refine ⟨(by show 3 ≤ sizeLine; decide), fun p7 hp7 => ?_⟩
    have k7 := t_fold .more k5 k6 hp7
    have s7 := same_new hp7 (.tup [.str "more", .ref p5, .ref p6])
    replace hA := hA.mono s7
    replace hB := hB.mono s7
    replace k3 := k3.mono s7
    replace k4 := k4.mono s7
    replace k5 := k5.mono s7
    replace k6 := k6.mono s7
    replace sm := sm.trans s7
    refine ⟨(by show 2 ≤ sizeLine; decide), fun p8 hp8 => ?_⟩
    have k8 := t_neg k7 hp8
    have s8 := same_new hp8 (.tup [.str "not", .ref p7])
    replace hA := hA.mono s8
    replace hB := hB.mono s8
    replace k3 := k3.mono s8
    replace k4 := k4.mono s8
    replace k5 := k5.mono s8
    replace k6 := k6.mono s8
    replace k7 := k7.mono s8
    replace sm := sm.trans s8
    refine ⟨(by show 2 ≤ sizeLine; decide), fun p9 hp9 => ?_⟩
    have k9 := twin_new (twin1 a b ha hb) k4 k8 hp9
    have s9 := same_new hp9 (.tup [.ref p4, .ref p8])
    replace hA := hA.mono s9
    replace hB := hB.mono s9
    replace k3 := k3.mono s9
    replace k4 := k4.mono s9
    replace k5 := k5.mono s9
    replace k6 := k6.mono s9
    replace k7 := k7.mono s9
    replace k8 := k8.mono s9
    replace sm := sm.trans s9
    refine ⟨(by show 2 ≤ sizeLine; decide), fun M hM => ?_⟩
    have sB := same_new hM (.lst [.ref p3, .ref p9])
    refine ⟨M, _, rfl, sm.trans sB, upd_same, (by show 0 < 2; decide), (by show 2 ≤ 2; decide), fun x hx => ?_⟩
    simp only [List.mem_cons, List.not_mem_nil, or_false] at hx
    rcases hx with rfl | rfl
    · exact k3.mono sB
    · exact k9.mono sB
  rintro σ1 H1 ⟨L, xs, rfl, sm0, eL, l0, lm, hx⟩
  have hA1 := hA0.mono sm0
  have hB1 := hB0.mono sm0
  refine ⟨MidTw (3 * (a.folds + b.folds) + 3) H (.int cell) A B 3, ?_, ?_⟩
  · have sm := Same.refl H1
    have hA := hA1
    have hB := hB1
    refine ⟨_, rfl, ?_⟩
    refine ⟨_, rfl, _, rfl, (by show 3 ≤ sizeLine; decide), fun p1 hp1 => ?_⟩
    have k1 := t_fold .greater hA hB hp1
    have s1 := same_new hp1 (.tup [.str "greater", A, B])
    replace hA := hA.mono s1
    replace hB := hB.mono s1
    replace sm := sm.trans s1
    refine ⟨_, rfl, _, rfl, (by show 3 ≤ sizeLine; decide), fun p2 hp2 => ?_⟩
    have k2 := t_fold .leads hA hB hp2
    have s2 := same_new hp2 (.tup [.str "leads", A, B])
    replace hA := hA.mono s2
    replace hB := hB.mono s2
    replace k1 := k1.mono s2
    replace sm := sm.trans s2
    refine ⟨_, rfl, (by show 3 ≤ sizeLine; decide), fun p3 hp3 => ?_⟩
    have k3 := t_fold .leads k2 hB hp3
    have s3 := same_new hp3 (.tup [.str "leads", .ref p2, B])
    replace hA := hA.mono s3
    replace hB := hB.mono s3
    replace k1 := k1.mono s3
    replace k2 := k2.mono s3
    replace sm := sm.trans s3
    refine ⟨(by show 2 ≤ sizeLine; decide), fun p4 hp4 => ?_⟩
    have k4 := twin_new (twin2 a b ha hb) k1 k3 hp4
    have s4 := same_new hp4 (.tup [.ref p1, .ref p3])
    replace hA := hA.mono s4
    replace hB := hB.mono s4
    replace k1 := k1.mono s4
    replace k2 := k2.mono s4
    replace k3 := k3.mono s4
    replace sm := sm.trans s4
    refine ⟨(by show 1 ≤ sizeLine; decide), fun M hM => ?_⟩
    have sB := same_new hM (.lst [.ref p4])
    refine ⟨L, M, xs, _, rfl, rfl, (sm.trans sB) _ _ eL, upd_same, Nat.le_of_lt (small_line (by show xs.length + 1 ≤ 100000; omega)), fun D hD => ?_⟩
    have sD := same_new hD (.lst (xs ++ [.ref p4]))
    refine ⟨D, _, rfl, ((sm0.trans sm).trans sB).trans sD, upd_same, (by rw [List.length_append]; omega), (by rw [List.length_append]; show xs.length + 1 ≤ 3; omega), fun x hx' => ?_⟩
    rcases List.mem_append.mp hx' with m | m
    · exact (hx x m).mono ((sm.trans sB).trans sD)
    · simp only [List.mem_cons, List.not_mem_nil, or_false] at m
      rcases m with rfl
      · exact k4.mono (sB.trans sD)
  rintro σ2 H2 ⟨L, xs, rfl, sm0, eL, l0, lm, hx⟩
  have hA1 := hA0.mono sm0
  have hB1 := hB0.mono sm0
  refine ⟨MidTw (3 * (a.folds + b.folds) + 3) H (.int cell) A B 4, ?_, ?_⟩
  · have sm := Same.refl H2
    have hA := hA1
    have hB := hB1
    refine ⟨_, rfl, ?_⟩
    refine ⟨_, rfl, _, rfl, (by show 3 ≤ sizeLine; decide), fun p1 hp1 => ?_⟩
    have k1 := t_fold .lesser hA hB hp1
    have s1 := same_new hp1 (.tup [.str "lesser", A, B])
    replace hA := hA.mono s1
    replace hB := hB.mono s1
    replace sm := sm.trans s1
    refine ⟨_, rfl, _, rfl, _, rfl, (by show 3 ≤ sizeLine; decide), fun p2 hp2 => ?_⟩
    have k2 := t_fold .leads hA hB hp2
    have s2 := same_new hp2 (.tup [.str "leads", A, B])
    replace hA := hA.mono s2
    replace hB := hB.mono s2
    replace k1 := k1.mono s2
    replace sm := sm.trans s2
    refine ⟨(by show 3 ≤ sizeLine; decide), fun p3 hp3 => ?_⟩
    have k3 := t_fold .less hA k2 hp3
    have s3 := same_new hp3 (.tup [.str "less", A, .ref p2])
    replace hA := hA.mono s3
    replace hB := hB.mono s3
    replace k1 := k1.mono s3
    replace k2 := k2.mono s3
    replace sm := sm.trans s3
    refine ⟨(by show 2 ≤ sizeLine; decide), fun p4 hp4 => ?_⟩
    have k4 := twin_new (twin3 a b ha hb) k1 k3 hp4
    have s4 := same_new hp4 (.tup [.ref p1, .ref p3])
    replace hA := hA.mono s4
    replace hB := hB.mono s4
    replace k1 := k1.mono s4
    replace k2 := k2.mono s4
    replace k3 := k3.mono s4
    replace sm := sm.trans s4
    refine ⟨(by show 1 ≤ sizeLine; decide), fun M hM => ?_⟩
    have sB := same_new hM (.lst [.ref p4])
    refine ⟨L, M, xs, _, rfl, rfl, (sm.trans sB) _ _ eL, upd_same, Nat.le_of_lt (small_line (by show xs.length + 1 ≤ 100000; omega)), fun D hD => ?_⟩
    have sD := same_new hD (.lst (xs ++ [.ref p4]))
    refine ⟨D, _, rfl, ((sm0.trans sm).trans sB).trans sD, upd_same, (by rw [List.length_append]; omega), (by rw [List.length_append]; show xs.length + 1 ≤ 4; omega), fun x hx' => ?_⟩
    rcases List.mem_append.mp hx' with m | m
    · exact (hx x m).mono ((sm.trans sB).trans sD)
    · simp only [List.mem_cons, List.not_mem_nil, or_false] at m
      rcases m with rfl
      · exact k4.mono (sB.trans sD)
  rintro σ3 H3 ⟨L, xs, rfl, sm0, eL, l0, lm, hx⟩
  have hA1 := hA0.mono sm0
  have hB1 := hB0.mono sm0
  refine ⟨MidTw (3 * (a.folds + b.folds) + 3) H (.int cell) A B 6, ?_, ?_⟩
  · have sm := Same.refl H3
    have hA := hA1
    have hB := hB1
    refine ⟨_, rfl, ?_⟩
    refine ⟨_, rfl, _, rfl, (by show 3 ≤ sizeLine; decide), fun p1 hp1 => ?_⟩
    have k1 := t_fold .leads hA hB hp1
    have s1 := same_new hp1 (.tup [.str "leads", A, B])
    replace hA := hA.mono s1
    replace hB := hB.mono s1
    replace sm := sm.trans s1
    refine ⟨_, rfl, (by show 2 ≤ sizeLine; decide), fun p2 hp2 => ?_⟩
    have k2 := t_neg hA hp2
    have s2 := same_new hp2 (.tup [.str "not", A])
    replace hA := hA.mono s2
    replace hB := hB.mono s2
    replace k1 := k1.mono s2
    replace sm := sm.trans s2
    refine ⟨_, rfl, (by show 3 ≤ sizeLine; decide), fun p3 hp3 => ?_⟩
    have k3 := t_fold .more k2 hB hp3
    have s3 := same_new hp3 (.tup [.str "more", .ref p2, B])
    replace hA := hA.mono s3
    replace hB := hB.mono s3
    replace k1 := k1.mono s3
    replace k2 := k2.mono s3
    replace sm := sm.trans s3
    refine ⟨(by show 2 ≤ sizeLine; decide), fun p4 hp4 => ?_⟩
    have k4 := twin_new (twin4 a b ha hb) k1 k3 hp4
    have s4 := same_new hp4 (.tup [.ref p1, .ref p3])
    replace hA := hA.mono s4
    replace hB := hB.mono s4
    replace k1 := k1.mono s4
    replace k2 := k2.mono s4
    replace k3 := k3.mono s4
    replace sm := sm.trans s4
    refine ⟨_, rfl, _, rfl, (by show 2 ≤ sizeLine; decide), fun p5 hp5 => ?_⟩
    have k5 := t_neg hA hp5
    have s5 := same_new hp5 (.tup [.str "not", A])
    replace hA := hA.mono s5
    replace hB := hB.mono s5
    replace k4 := k4.mono s5
    replace sm := sm.trans s5
    refine ⟨(by show 2 ≤ sizeLine; decide), fun p6 hp6 => ?_⟩
    have k6 := t_neg k5 hp6
    have s6 := same_new hp6 (.tup [.str "not", .ref p5])
    replace hA := hA.mono s6
    replace hB := hB.mono s6
    replace k4 := k4.mono s6
    replace k5 := k5.mono s6
    replace sm := sm.trans s6
    refine ⟨(by show 2 ≤ sizeLine; decide), fun p7 hp7 => ?_⟩
    have k7 := twin_new (twin5 a b ha hb) hA k6 hp7
    have s7 := same_new hp7 (.tup [A, .ref p6])
    replace hA := hA.mono s7
    replace hB := hB.mono s7
    replace k4 := k4.mono s7
    replace k5 := k5.mono s7
    replace k6 := k6.mono s7
    replace sm := sm.trans s7
    refine ⟨(by show 2 ≤ sizeLine; decide), fun M hM => ?_⟩
    have sB := same_new hM (.lst [.ref p4, .ref p7])
    refine ⟨L, M, xs, _, rfl, rfl, (sm.trans sB) _ _ eL, upd_same, Nat.le_of_lt (small_line (by show xs.length + 2 ≤ 100000; omega)), fun D hD => ?_⟩
    have sD := same_new hD (.lst (xs ++ [.ref p4, .ref p7]))
    refine ⟨D, _, rfl, ((sm0.trans sm).trans sB).trans sD, upd_same, (by rw [List.length_append]; omega), (by rw [List.length_append]; show xs.length + 2 ≤ 6; omega), fun x hx' => ?_⟩
    rcases List.mem_append.mp hx' with m | m
    · exact (hx x m).mono ((sm.trans sB).trans sD)
    · simp only [List.mem_cons, List.not_mem_nil, or_false] at m
      rcases m with rfl | rfl
      · exact k4.mono (sB.trans sD)
      · exact k7.mono (sB.trans sD)
  rintro σ4 H4 ⟨L, xs, rfl, sm0, eL, l0, lm, hx⟩
  have hA1 := hA0.mono sm0
  have hB1 := hB0.mono sm0
  refine ⟨MidTw (3 * (a.folds + b.folds) + 3) H (.int cell) A B 7, ?_, ?_⟩
  · have sm := Same.refl H4
    have hA := hA1
    have hB := hB1
    refine ⟨_, rfl, ?_⟩
    refine ⟨_, rfl, _, rfl, _, rfl, _, rfl, (by show 3 ≤ sizeLine; decide), fun p1 hp1 => ?_⟩
    have k1 := t_fold .lesser hA hB hp1
    have s1 := same_new hp1 (.tup [.str "lesser", A, B])
    replace hA := hA.mono s1
    replace hB := hB.mono s1
    replace sm := sm.trans s1
    refine ⟨(by show 3 ≤ sizeLine; decide), fun p2 hp2 => ?_⟩
    have k2 := t_fold .greater hA k1 hp2
    have s2 := same_new hp2 (.tup [.str "greater", A, .ref p1])
    replace hA := hA.mono s2
    replace hB := hB.mono s2
    replace k1 := k1.mono s2
    replace sm := sm.trans s2
    refine ⟨(by show 2 ≤ sizeLine; decide), fun p3 hp3 => ?_⟩
    have k3 := twin_new (twin6 a b ha hb) hA k2 hp3
    have s3 := same_new hp3 (.tup [A, .ref p2])
    replace hA := hA.mono s3
    replace hB := hB.mono s3
    replace k1 := k1.mono s3
    replace k2 := k2.mono s3
    replace sm := sm.trans s3
    refine ⟨(by show 1 ≤ sizeLine; decide), fun M hM => ?_⟩
    have sB := same_new hM (.lst [.ref p3])
    refine ⟨L, M, xs, _, rfl, rfl, (sm.trans sB) _ _ eL, upd_same, Nat.le_of_lt (small_line (by show xs.length + 1 ≤ 100000; omega)), fun D hD => ?_⟩
    have sD := same_new hD (.lst (xs ++ [.ref p3]))
    refine ⟨D, _, rfl, ((sm0.trans sm).trans sB).trans sD, upd_same, (by rw [List.length_append]; omega), (by rw [List.length_append]; show xs.length + 1 ≤ 7; omega), fun x hx' => ?_⟩
    rcases List.mem_append.mp hx' with m | m
    · exact (hx x m).mono ((sm.trans sB).trans sD)
    · simp only [List.mem_cons, List.not_mem_nil, or_false] at m
      rcases m with rfl
      · exact k3.mono (sB.trans sD)
  rintro σ5 H5 ⟨L, xs, rfl, sm0, eL, l0, lm, hx⟩
  have hA1 := hA0.mono sm0
  have hB1 := hB0.mono sm0
  refine ⟨MidTw (3 * (a.folds + b.folds) + 3) H (.int cell) A B 8, ?_, ?_⟩
  · have sm := Same.refl H5
    have hA := hA1
    have hB := hB1
    refine ⟨_, rfl, ?_⟩
    refine ⟨_, rfl, _, rfl, (by show 3 ≤ sizeLine; decide), fun p1 hp1 => ?_⟩
    have k1 := t_fold .greater hA hB hp1
    have s1 := same_new hp1 (.tup [.str "greater", A, B])
    replace hA := hA.mono s1
    replace hB := hB.mono s1
    replace sm := sm.trans s1
    refine ⟨(by show 2 ≤ sizeLine; decide), fun p2 hp2 => ?_⟩
    have k2 := t_neg k1 hp2
    have s2 := same_new hp2 (.tup [.str "not", .ref p1])
    replace hA := hA.mono s2
    replace hB := hB.mono s2
    replace k1 := k1.mono s2
    replace sm := sm.trans s2
    refine ⟨_, rfl, (by show 2 ≤ sizeLine; decide), fun p3 hp3 => ?_⟩
    have k3 := t_neg hA hp3
    have s3 := same_new hp3 (.tup [.str "not", A])
    replace hA := hA.mono s3
    replace hB := hB.mono s3
    replace k1 := k1.mono s3
    replace k2 := k2.mono s3
    replace sm := sm.trans s3
    refine ⟨_, rfl, (by show 2 ≤ sizeLine; decide), fun p4 hp4 => ?_⟩
    have k4 := t_neg hB hp4
    have s4 := same_new hp4 (.tup [.str "not", B])
    replace hA := hA.mono s4
    replace hB := hB.mono s4
    replace k1 := k1.mono s4
    replace k2 := k2.mono s4
    replace k3 := k3.mono s4
    replace sm := sm.trans s4
    refine ⟨(by show 3 ≤ sizeLine; decide), fun p5 hp5 => ?_⟩
    have k5 := t_fold .lesser k3 k4 hp5
    have s5 := same_new hp5 (.tup [.str "lesser", .ref p3, .ref p4])
    replace hA := hA.mono s5
    replace hB := hB.mono s5
    replace k1 := k1.mono s5
    replace k2 := k2.mono s5
    replace k3 := k3.mono s5
    replace k4 := k4.mono s5
    replace sm := sm.trans s5
    refine ⟨(by show 2 ≤ sizeLine; decide), fun p6 hp6 => ?_⟩
    have k6 := twin_new (twin7 a b ha hb) k2 k5 hp6
    have s6 := same_new hp6 (.tup [.ref p2, .ref p5])
    replace hA := hA.mono s6
    replace hB := hB.mono s6
    replace k1 := k1.mono s6
    replace k2 := k2.mono s6
    replace k3 := k3.mono s6
    replace k4 := k4.mono s6
    replace k5 := k5.mono s6
    replace sm := sm.trans s6
    refine ⟨(by show 1 ≤ sizeLine; decide), fun M hM => ?_⟩
    have sB := same_new hM (.lst [.ref p6])
    refine ⟨L, M, xs, _, rfl, rfl, (sm.trans sB) _ _ eL, upd_same, Nat.le_of_lt (small_line (by show xs.length + 1 ≤ 100000; omega)), fun D hD => ?_⟩
    have sD := same_new hD (.lst (xs ++ [.ref p6]))
    refine ⟨D, _, rfl, ((sm0.trans sm).trans sB).trans sD, upd_same, (by rw [List.length_append]; omega), (by rw [List.length_append]; show xs.length + 1 ≤ 8; omega), fun x hx' => ?_⟩
    rcases List.mem_append.mp hx' with m | m
    · exact (hx x m).mono ((sm.trans sB).trans sD)
    · simp only [List.mem_cons, List.not_mem_nil, or_false] at m
      rcases m with rfl
      · exact k6.mono (sB.trans sD)
  rintro σ6 H6 ⟨L, xs, rfl, sm0, eL, l0, lm, hx⟩
  have hA1 := hA0.mono sm0
  have hB1 := hB0.mono sm0
  refine ⟨MidTw (3 * (a.folds + b.folds) + 3) H (.int cell) A B 9, ?_, ?_⟩
  · have sm := Same.refl H6
    have hA := hA1
    have hB := hB1
    refine ⟨_, rfl, ?_⟩
    refine ⟨_, rfl, _, rfl, (by show 3 ≤ sizeLine; decide), fun p1 hp1 => ?_⟩
    have k1 := t_fold .leads hA hB hp1
    have s1 := same_new hp1 (.tup [.str "leads", A, B])
    replace hA := hA.mono s1
    replace hB := hB.mono s1
    replace sm := sm.trans s1
    refine ⟨_, rfl, (by show 2 ≤ sizeLine; decide), fun p2 hp2 => ?_⟩
    have k2 := t_neg hB hp2
    have s2 := same_new hp2 (.tup [.str "not", B])
    replace hA := hA.mono s2
    replace hB := hB.mono s2
    replace k1 := k1.mono s2
    replace sm := sm.trans s2
    refine ⟨_, rfl, (by show 2 ≤ sizeLine; decide), fun p3 hp3 => ?_⟩
    have k3 := t_neg hA hp3
    have s3 := same_new hp3 (.tup [.str "not", A])
    replace hA := hA.mono s3
    replace hB := hB.mono s3
    replace k1 := k1.mono s3
    replace k2 := k2.mono s3
    replace sm := sm.trans s3
    refine ⟨(by show 3 ≤ sizeLine; decide), fun p4 hp4 => ?_⟩
    have k4 := t_fold .leads k2 k3 hp4
    have s4 := same_new hp4 (.tup [.str "leads", .ref p2, .ref p3])
    replace hA := hA.mono s4
    replace hB := hB.mono s4
    replace k1 := k1.mono s4
    replace k2 := k2.mono s4
    replace k3 := k3.mono s4
    replace sm := sm.trans s4
    refine ⟨(by show 2 ≤ sizeLine; decide), fun p5 hp5 => ?_⟩
    have k5 := twin_new (twin8 a b ha hb) k1 k4 hp5
    have s5 := same_new hp5 (.tup [.ref p1, .ref p4])
    replace hA := hA.mono s5
    replace hB := hB.mono s5
    replace k1 := k1.mono s5
    replace k2 := k2.mono s5
    replace k3 := k3.mono s5
    replace k4 := k4.mono s5
    replace sm := sm.trans s5
    refine ⟨(by show 1 ≤ sizeLine; decide), fun M hM => ?_⟩
    have sB := same_new hM (.lst [.ref p5])
    refine ⟨L, M, xs, _, rfl, rfl, (sm.trans sB) _ _ eL, upd_same, Nat.le_of_lt (small_line (by show xs.length + 1 ≤ 100000; omega)), fun D hD => ?_⟩
    have sD := same_new hD (.lst (xs ++ [.ref p5]))
    refine ⟨D, _, rfl, ((sm0.trans sm).trans sB).trans sD, upd_same, (by rw [List.length_append]; omega), (by rw [List.length_append]; show xs.length + 1 ≤ 9; omega), fun x hx' => ?_⟩
    rcases List.mem_append.mp hx' with m | m
    · exact (hx x m).mono ((sm.trans sB).trans sD)
    · simp only [List.mem_cons, List.not_mem_nil, or_false] at m
      rcases m with rfl
      · exact k5.mono (sB.trans sD)
  rintro σ7 H7 ⟨L, xs, rfl, sm0, eL, l0, lm, hx⟩
  have hA1 := hA0.mono sm0
  have hB1 := hB0.mono sm0
  refine ⟨MidTw (3 * (a.folds + b.folds) + 3) H (.int cell) A B 11, ?_, ?_⟩
  · have sm := Same.refl H7
    have hA := hA1
    have hB := hB1
    refine ⟨_, rfl, ?_⟩
    refine ⟨_, rfl, _, rfl, (by show 3 ≤ sizeLine; decide), fun p1 hp1 => ?_⟩
    have k1 := t_fold .greater hA hB hp1
    have s1 := same_new hp1 (.tup [.str "greater", A, B])
    replace hA := hA.mono s1
    replace hB := hB.mono s1
    replace sm := sm.trans s1
    refine ⟨_, rfl, _, rfl, _, rfl, (by show 2 ≤ sizeLine; decide), fun p2 hp2 => ?_⟩
    have k2 := t_neg hA hp2
    have s2 := same_new hp2 (.tup [.str "not", A])
    replace hA := hA.mono s2
    replace hB := hB.mono s2
    replace k1 := k1.mono s2
    replace sm := sm.trans s2
    refine ⟨(by show 3 ≤ sizeLine; decide), fun p3 hp3 => ?_⟩
    have k3 := t_fold .less hB k2 hp3
    have s3 := same_new hp3 (.tup [.str "less", B, .ref p2])
    replace hA := hA.mono s3
    replace hB := hB.mono s3
    replace k1 := k1.mono s3
    replace k2 := k2.mono s3
    replace sm := sm.trans s3
    refine ⟨(by show 3 ≤ sizeLine; decide), fun p4 hp4 => ?_⟩
    have k4 := t_fold .more hA k3 hp4
    have s4 := same_new hp4 (.tup [.str "more", A, .ref p3])
    replace hA := hA.mono s4
    replace hB := hB.mono s4
    replace k1 := k1.mono s4
    replace k2 := k2.mono s4
    replace k3 := k3.mono s4
    replace sm := sm.trans s4
    refine ⟨(by show 2 ≤ sizeLine; decide), fun p5 hp5 => ?_⟩
    have k5 := twin_new (twin9 a b ha hb) k1 k4 hp5
    have s5 := same_new hp5 (.tup [.ref p1, .ref p4])
    replace hA := hA.mono s5
    replace hB := hB.mono s5
    replace k1 := k1.mono s5
    replace k2 := k2.mono s5
    replace k3 := k3.mono s5
    replace k4 := k4.mono s5
    replace sm := sm.trans s5
    refine ⟨_, rfl, (by show 1 ≤ sizeLine; decide), fun p6 hp6 => ?_⟩
    have k6 := t_always hp6
    have s6 := same_new hp6 (.tup [.str "always"])
    replace hA := hA.mono s6
    replace hB := hB.mono s6
    replace k5 := k5.mono s6
    replace sm := sm.trans s6
    refine ⟨(by show 3 ≤ sizeLine; decide), fun p7 hp7 => ?_⟩
    have k7 := t_fold .less hA k6 hp7
    have s7 := same_new hp7 (.tup [.str "less", A, .ref p6])
    replace hA := hA.mono s7
    replace hB := hB.mono s7
    replace k5 := k5.mono s7
    replace k6 := k6.mono s7
    replace sm := sm.trans s7
    refine ⟨_, rfl, (by show 2 ≤ sizeLine; decide), fun p8 hp8 => ?_⟩
    have k8 := twin_new (twin10 a b ha hb) k7 hA hp8
    have s8 := same_new hp8 (.tup [.ref p7, A])
    replace hA := hA.mono s8
    replace hB := hB.mono s8
    replace k5 := k5.mono s8
    replace k6 := k6.mono s8
    replace k7 := k7.mono s8
    replace sm := sm.trans s8
    refine ⟨(by show 2 ≤ sizeLine; decide), fun M hM => ?_⟩
    have sB := same_new hM (.lst [.ref p5, .ref p8])
    refine ⟨L, M, xs, _, rfl, rfl, (sm.trans sB) _ _ eL, upd_same, Nat.le_of_lt (small_line (by show xs.length + 2 ≤ 100000; omega)), fun D hD => ?_⟩
    have sD := same_new hD (.lst (xs ++ [.ref p5, .ref p8]))
    refine ⟨D, _, rfl, ((sm0.trans sm).trans sB).trans sD, upd_same, (by rw [List.length_append]; omega), (by rw [List.length_append]; show xs.length + 2 ≤ 11; omega), fun x hx' => ?_⟩
    rcases List.mem_append.mp hx' with m | m
    · exact (hx x m).mono ((sm.trans sB).trans sD)
    · simp only [List.mem_cons, List.not_mem_nil, or_false] at m
      rcases m with rfl | rfl
      · exact k5.mono (sB.trans sD)
      · exact k8.mono (sB.trans sD)
  rintro σ' H' ⟨L, xs, rfl, sm0, eL, l0, lm, hx⟩
  have m0 := Int.emod_nonneg cell (show ((xs.length : Nat) : Int) ≠ 0 by omega)
  have m1 := Int.emod_lt_of_pos cell (show (0 : Int) < (xs.length : Nat) by omega)
  obtain ⟨j, ej⟩ := Int.eq_ofNat_of_zero_le m0
  have hj : j < xs.length := by omega
  refine ⟨_, rfl, _, rfl, _, rfl, L, _, rfl, .inl (SqL.of eL), _, _, rfl, rfl, (show (0 : Int) < (xs.length : Nat) by omega), L, _, _, xs[j], rfl, rfl, SqL.of eL, at_of ej (List.getElem?_eq_getElem hj), ?_⟩
  exact q _ _ sm0 (hx _ (List.getElem_mem hj))
end
end K55

namespace K55
open PySem PySem.Spec PyProof.Rows L2
theorem same2 {H : Hp} {x dx : Addr} (h : H x = none) (k : H dx = none) (o o' : HO) : Same H (upd (upd H dx o) x o') := fun b u e => by
  rw [upd_ne (ne_of_none e h), upd_ne (ne_of_none e k)]
  exact e
theorem say_fold {K : PySem.W.Frag} {H : Hp} {x dx : Addr} {A B : V} {s t : Tr} (v : Wd) (h : SayAt K H A s) (k : SayAt K H B t) (nx : H x = none) (nd : H dx = none) : SayAt K (upd (upd H dx (.own x)) x (.ins (cA K (.w v)) dx [(("one" : Str), A), (("other" : Str), B)])) (.ref x) (.fold v s t) :=
  ⟨x, dx, A, B, rfl, upd_same, h.mono (same2 nx nd _ _), k.mono (same2 nx nd _ _)⟩
theorem wd_str_ne (v : Wd) : V.str v.str ≠ .str "never" ∧ V.str v.str ≠ .str "always" ∧ V.str v.str ≠ .str "not" ∧ ¬ v.str ∈ (["p", "q"] : List Str) ∧ ¬ v.str ∈ (["never", "always"] : List Str) := by
  have h : ∀ v : Wd, v.str ≠ "never" ∧ v.str ≠ "always" ∧ v.str ≠ "not" ∧ ¬ v.str ∈ (["p", "q"] : List Str) ∧ ¬ v.str ∈ (["never", "always"] : List Str) := fun v => by cases v <;> decide +kernel
  obtain ⟨a, b, c, d, e⟩ := h v
  exact ⟨fun z => a (V.str.inj z), fun z => b (V.str.inj z), fun z => c (V.str.inj z), d, e⟩
section
variable {P : Program} {w : World} {K : PySem.W.Frag} {mg : Str → Option Value} {base : Heap}
/-! ### _law_object -/
def spObject (K : PySem.W.Frag) (n : Nat) : Sp := fun vs H Q _ => ∃ v t, vs = [v] ∧ TrAt H v t ∧ t.size ≤ n ∧ ∀ z H', Same H H' → SayAt K H' z t → Q z H'
theorem c_L_object (T : Txt w K mg) : ∀ n : Nat, C8.Cal P w K mg base (n + 2) "_law_object" (spObject K n) []
  | 0 => T.cal_L_object fun fd F => fn_none fun vs H Q E h => by
    obtain ⟨v, t, _, _, h, _⟩ := h
    have := t.size_pos
    omega
  | n + 1 => T.cal_L_object fun fd F => by
    have c_L_object := c_L_object T n
    have m_Never := mko_Never T
    have m_Always := mko_Always T
    have g_Never := T.g_Never
    have g_Always := T.g_Always
    have c_Letter := mak_Letter (P := P) (base := base) T
    have c_Not := mak_Not (P := P) (base := base) T
    have c_More : C8.Mak P w K mg base 1 "More" (cA K (.w .more)) (spFoldI K .more) [] := mak_fold T .more
    have c_Less : C8.Mak P w K mg base 1 "Less" (cA K (.w .less)) (spFoldI K .less) [] := mak_fold T .less
    have c_Greater : C8.Mak P w K mg base 1 "Greater" (cA K (.w .greater)) (spFoldI K .greater) [] := mak_fold T .greater
    have c_Lesser : C8.Mak P w K mg base 1 "Lesser" (cA K (.w .lesser)) (spFoldI K .lesser) [] := mak_fold T .lesser
    have c_Leads : C8.Mak P w K mg base 1 "Leads" (cA K (.w .leads)) (spFoldI K .leads) [] := mak_fold T .leads
    refine fnD_ok F sc_L_object (fun vs H Q E h => ?_) (fun cdv A outer s H vs Q E hr h => ?_)
    · obtain ⟨v, t, rfl, _⟩ := h
      rfl
    obtain ⟨v, t, rfl, hv, hn, q⟩ := h
    refine ⟨_, (pss_cons (ps_if (pt_cmpR op_eq (pe_ix (r := rIxT K) ix_tup (pv 0) pe_int (fun _ _ => rfl)) pe_str (nomark _)) (pss_one (ps_ret (pe_makeO m_Never (by rfl) g_Never))) pss_nil)
  (pss_cons (ps_if (pt_cmpR op_eq (pe_ix (r := rIxT K) ix_tup (pv 0) pe_int (fun _ _ => rfl)) pe_str (nomark _)) (pss_one (ps_ret (pe_makeO m_Always (by rfl) g_Always))) pss_nil)
  (pss_cons (ps_if (pt_cmpR op_in_seq (pe_ix (r := rIxT K) ix_tup (pv 0) pe_int (fun _ _ => rfl)) (pe_tup (pa_cons pe_str (pa_cons pe_str pa_nil))) (by rfl)) (pss_one (ps_ret (C8.pe_mk c_Letter hr (by omega) (by rfl) (pa_cons (pe_ix (r := rIxT K) ix_tup (pv 0) pe_int (fun _ _ => rfl)) pa_nil)))) pss_nil)
  (pss_cons (ps_if (pt_cmpR op_eq (pe_ix (r := rIxT K) ix_tup (pv 0) pe_int (fun _ _ => rfl)) pe_str (nomark _)) (pss_one (ps_ret (C8.pe_mk c_Not hr (by omega) (by rfl) (pa_cons (C8.pe_c c_L_object hr (by omega) (by rfl) (pa_cons (pe_ix (r := rIxT K) ix_tup (pv 0) pe_int (fun _ _ => rfl)) pa_nil)) pa_nil)))) pss_nil)
  (pss_cons (ps_set (i := 1) sc_L_object.nd rfl (Or.inl rfl) (C8.pe_c c_L_object hr (by omega) (by rfl) (pa_cons (pe_ix (r := rIxT K) ix_tup (pv 0) pe_int (fun _ _ => rfl)) pa_nil)))
  (pss_cons (ps_set (i := 2) sc_L_object.nd rfl (Or.inl rfl) (C8.pe_c c_L_object hr (by omega) (by rfl) (pa_cons (pe_ix (r := rIxT K) ix_tup (pv 0) pe_int (fun _ _ => rfl)) pa_nil)))
  (pss_cons (ps_if (pt_cmpR op_eq (pe_ix (r := rIxT K) ix_tup (pv 0) pe_int (fun _ _ => rfl)) pe_str (nomark _)) (pss_one (ps_ret (C8.pe_mk c_More hr (by omega) (by rfl) (pa_cons (pv 1) (pa_cons (pv 2) pa_nil))))) pss_nil)
  (pss_cons (ps_if (pt_cmpR op_eq (pe_ix (r := rIxT K) ix_tup (pv 0) pe_int (fun _ _ => rfl)) pe_str (nomark _)) (pss_one (ps_ret (C8.pe_mk c_Less hr (by omega) (by rfl) (pa_cons (pv 1) (pa_cons (pv 2) pa_nil))))) pss_nil)
  (pss_cons (ps_if (pt_cmpR op_eq (pe_ix (r := rIxT K) ix_tup (pv 0) pe_int (fun _ _ => rfl)) pe_str (nomark _)) (pss_one (ps_ret (C8.pe_mk c_Greater hr (by omega) (by rfl) (pa_cons (pv 1) (pa_cons (pv 2) pa_nil))))) pss_nil)
  (pss_cons (ps_if (pt_cmpR op_eq (pe_ix (r := rIxT K) ix_tup (pv 0) pe_int (fun _ _ => rfl)) pe_str (nomark _)) (pss_one (ps_ret (C8.pe_mk c_Lesser hr (by omega) (by rfl) (pa_cons (pv 1) (pa_cons (pv 2) pa_nil))))) pss_nil)
  (pss_one (ps_ret (C8.pe_mk c_Leads hr (by omega) (by rfl) (pa_cons (pv 1) (pa_cons (pv 2) pa_nil))))))))))))))), ?_⟩
    cases t with
    | never =>
      obtain ⟨a, rfl, ha⟩ := hv
      have hT : SqT K H a [.str "never"] := SqT.of ha
      refine ⟨_, rfl, a, _, _, _, rfl, rfl, hT, at_of (j := 0) rfl rfl, rfl, _, rfl, iteT fun x dx nx nd ne => ?_⟩
      exact q _ _ (same2 nx nd _ _) ⟨x, dx, rfl, upd_same⟩
    | always =>
      obtain ⟨a, rfl, ha⟩ := hv
      have hT : SqT K H a [.str "always"] := SqT.of ha
      refine ⟨_, rfl, a, _, _, _, rfl, rfl, hT, at_of (j := 0) rfl rfl, rfl, _, rfl, iteF ?_⟩
      refine ⟨_, rfl, a, _, _, _, rfl, rfl, hT, at_of (j := 0) rfl rfl, rfl, _, rfl, iteT fun x dx nx nd ne => ?_⟩
      exact q _ _ (same2 nx nd _ _) ⟨x, dx, rfl, upd_same⟩
    | p =>
      obtain ⟨a, rfl, ha⟩ := hv
      have hT : SqT K H a [.str "p"] := SqT.of ha
      refine ⟨_, rfl, a, _, _, _, rfl, rfl, hT, at_of (j := 0) rfl rfl, rfl, _, rfl, iteF ?_⟩
      refine ⟨_, rfl, a, _, _, _, rfl, rfl, hT, at_of (j := 0) rfl rfl, rfl, _, rfl, iteF ?_⟩
      refine ⟨_, rfl, a, _, _, _, rfl, rfl, hT, at_of (j := 0) rfl rfl, (by show 2 ≤ sizeLine; decide), fun p hp => ?_⟩
      have s1 := same_new hp (.tup [.str "p", .str "q"])
      refine ⟨_, _, rfl, .inr (show SqT K _ p (strsV ["p", "q"]) from SqT.of upd_same), rfl, flat_strs _, ?_⟩
      rw [inV_strs]
      refine ⟨_, rfl, iteT ?_⟩
      refine ⟨_, rfl, a, _, _, _, rfl, rfl, sqt s1 hT, at_of (j := 0) rfl rfl, fun x dx nx nd ne => ⟨x, dx, "p", rfl, upd_same, rfl, ?_⟩⟩
      rw [upd_upd]
      exact q _ _ (s1.trans (same2 nx nd _ _)) ⟨x, dx, rfl, upd_same⟩
    | q =>
      obtain ⟨a, rfl, ha⟩ := hv
      have hT : SqT K H a [.str "q"] := SqT.of ha
      refine ⟨_, rfl, a, _, _, _, rfl, rfl, hT, at_of (j := 0) rfl rfl, rfl, _, rfl, iteF ?_⟩
      refine ⟨_, rfl, a, _, _, _, rfl, rfl, hT, at_of (j := 0) rfl rfl, rfl, _, rfl, iteF ?_⟩
      refine ⟨_, rfl, a, _, _, _, rfl, rfl, hT, at_of (j := 0) rfl rfl, (by show 2 ≤ sizeLine; decide), fun p hp => ?_⟩
      have s1 := same_new hp (.tup [.str "p", .str "q"])
      refine ⟨_, _, rfl, .inr (show SqT K _ p (strsV ["p", "q"]) from SqT.of upd_same), rfl, flat_strs _, ?_⟩
      rw [inV_strs]
      refine ⟨_, rfl, iteT ?_⟩
      refine ⟨_, rfl, a, _, _, _, rfl, rfl, sqt s1 hT, at_of (j := 0) rfl rfl, fun x dx nx nd ne => ⟨x, dx, "q", rfl, upd_same, rfl, ?_⟩⟩
      rw [upd_upd]
      exact q _ _ (s1.trans (same2 nx nd _ _)) ⟨x, dx, rfl, upd_same⟩
    | neg t =>
      obtain ⟨a, u, rfl, ha, hu⟩ := hv
      have hT : SqT K H a [.str "not", u] := SqT.of ha
      simp only [Tr.size] at hn
      refine ⟨_, rfl, a, _, _, _, rfl, rfl, hT, at_of (j := 0) rfl rfl, rfl, _, rfl, iteF ?_⟩
      refine ⟨_, rfl, a, _, _, _, rfl, rfl, hT, at_of (j := 0) rfl rfl, rfl, _, rfl, iteF ?_⟩
      refine ⟨_, rfl, a, _, _, _, rfl, rfl, hT, at_of (j := 0) rfl rfl, (by show 2 ≤ sizeLine; decide), fun p hp => ?_⟩
      have s1 := same_new hp (.tup [.str "p", .str "q"])
      refine ⟨_, _, rfl, .inr (show SqT K _ p (strsV ["p", "q"]) from SqT.of upd_same), rfl, flat_strs _, ?_⟩
      rw [inV_strs]
      refine ⟨_, rfl, iteF ?_⟩
      refine ⟨_, rfl, a, _, _, _, rfl, rfl, sqt s1 hT, at_of (j := 0) rfl rfl, rfl, _, rfl, iteT ?_⟩
      refine ⟨_, rfl, a, _, _, _, rfl, rfl, sqt s1 hT, at_of (j := 1) rfl rfl, u, t, rfl, hu.mono s1, by omega, fun z H2 s2 hz => ?_⟩
      refine fun x dx nx nd ne => ⟨x, dx, z, rfl, upd_same, rfl, ?_⟩
      rw [upd_upd]
      exact q _ _ ((s1.trans s2).trans (same2 nx nd _ _)) ⟨x, dx, z, rfl, upd_same, hz.mono (same2 nx nd _ _)⟩
    | fold v t1 t2 =>
      obtain ⟨a, ux, uy, rfl, ha, hx, hy⟩ := hv
      have hT : SqT K H a [.str v.str, ux, uy] := SqT.of ha
      simp only [Tr.size] at hn
      obtain ⟨n1, n2, n3, n4, _⟩ := wd_str_ne v
      refine ⟨_, rfl, a, _, _, _, rfl, rfl, hT, at_of (j := 0) rfl rfl, rfl, _, rfl, ?_⟩
      rw [decide_eq_false n1]
      refine iteF ⟨_, rfl, a, _, _, _, rfl, rfl, hT, at_of (j := 0) rfl rfl, rfl, _, rfl, ?_⟩
      rw [decide_eq_false n2]
      refine iteF ⟨_, rfl, a, _, _, _, rfl, rfl, hT, at_of (j := 0) rfl rfl, (by show 2 ≤ sizeLine; decide), fun p hp => ?_⟩
      have s1 := same_new hp (.tup [.str "p", .str "q"])
      refine ⟨_, _, rfl, .inr (show SqT K _ p (strsV ["p", "q"]) from SqT.of upd_same), rfl, flat_strs _, ?_⟩
      rw [inV_strs]
      refine ⟨_, rfl, ?_⟩
      rw [decide_eq_false n4]
      refine iteF ⟨_, rfl, a, _, _, _, rfl, rfl, sqt s1 hT, at_of (j := 0) rfl rfl, rfl, _, rfl, ?_⟩
      rw [decide_eq_false n3]
      refine iteF ⟨_, rfl, a, _, _, _, rfl, rfl, sqt s1 hT, at_of (j := 1) rfl rfl, ux, t1, rfl, hx.mono s1, by omega, fun z1 H2 s2 hz1 => ?_⟩
      refine ⟨_, rfl, a, _, _, _, rfl, rfl, sqt (s1.trans s2) hT, at_of (j := 2) rfl rfl, uy, t2, rfl, hy.mono (s1.trans s2), by omega, fun z2 H3 s3 hz2 => ?_⟩
      have s123 := (s1.trans s2).trans s3
      have hT3 := sqt s123 hT
      have fin : ∀ (u : Wd), v = u → ∀ x dx, H3 x = none → H3 dx = none → Q (.ref x) (upd (upd H3 dx (.own x)) x (.ins (cA K (.w u)) dx [(("one" : Str), z1), (("other" : Str), z2)])) := fun u e x dx nx nd => by
        subst e
        exact q _ _ (s123.trans (same2 nx nd _ _)) (say_fold v (hz1.mono s3) hz2 nx nd)
      refine ⟨_, rfl, a, _, _, _, rfl, rfl, hT3, at_of (j := 0) rfl rfl, rfl, _, rfl, ite2 (fun c => ?_) fun c1 => ?_⟩
      · refine ⟨_, rfl, _, rfl, fun x dx nx nd ne => ⟨x, dx, z1, z2, rfl, upd_same, rfl, ?_⟩⟩
        rw [upd_upd]
        exact fin .more (wd_eq (u := .more) rfl c) x dx nx nd
      refine ⟨_, rfl, a, _, _, _, rfl, rfl, hT3, at_of (j := 0) rfl rfl, rfl, _, rfl, ite2 (fun c => ?_) fun c2 => ?_⟩
      · refine ⟨_, rfl, _, rfl, fun x dx nx nd ne => ⟨x, dx, z1, z2, rfl, upd_same, rfl, ?_⟩⟩
        rw [upd_upd]
        exact fin .less (wd_eq (u := .less) rfl c) x dx nx nd
      refine ⟨_, rfl, a, _, _, _, rfl, rfl, hT3, at_of (j := 0) rfl rfl, rfl, _, rfl, ite2 (fun c => ?_) fun c3 => ?_⟩
      · refine ⟨_, rfl, _, rfl, fun x dx nx nd ne => ⟨x, dx, z1, z2, rfl, upd_same, rfl, ?_⟩⟩
        rw [upd_upd]
        exact fin .greater (wd_eq (u := .greater) rfl c) x dx nx nd
      refine ⟨_, rfl, a, _, _, _, rfl, rfl, hT3, at_of (j := 0) rfl rfl, rfl, _, rfl, ite2 (fun c => ?_) fun c4 => ?_⟩
      · refine ⟨_, rfl, _, rfl, fun x dx nx nd ne => ⟨x, dx, z1, z2, rfl, upd_same, rfl, ?_⟩⟩
        rw [upd_upd]
        exact fin .lesser (wd_eq (u := .lesser) rfl c) x dx nx nd
      · refine ⟨_, rfl, _, rfl, fun x dx nx nd ne => ⟨x, dx, z1, z2, rfl, upd_same, rfl, ?_⟩⟩
        rw [upd_upd]
        refine fin .leads ?_ x dx nx nd
        have e1 := wd_ne (u := .more) rfl c1
        have e2 := wd_ne (u := .less) rfl c2
        have e3 := wd_ne (u := .greater) rfl c3
        have e4 := wd_ne (u := .lesser) rfl c4
        cases v <;> first | rfl | contradiction
/-! ### _law_fold, _law_worth -/
theorem mn2 (i j : Int) : (if j < i then j else i) = min i j := by
  rw [Int.min_def]
  split <;> split <;> omega
theorem mx2 (i j : Int) : (if j > i then j else i) = max i j := by
  rw [Int.max_def]
  split <;> split <;> omega
def spLFold : Sp := fun vs H Q _ => ∃ v : Wd, ∃ n i j : Int, vs = [.str v.str, .int n, .int i, .int j] ∧ Q (.int (v.val n i j)) H
theorem c_L_fold (T : Txt w K mg) : C8.Cal P w K mg base 1 "_law_fold" spLFold [] := T.cal_L_fold fun fd F => by
  have z_min := T.z_min
  have z_max := T.z_max
  refine fnD_ok F sc_L_fold (fun vs H Q E h => ?_) (fun cdv A outer s H vs Q E hr h => ?_)
  · obtain ⟨v, n, i, j, rfl, _⟩ := h
    rfl
  obtain ⟨v, n, i, j, rfl, q⟩ := h
  refine ⟨_, (pss_cons (ps_if (pt_cmpR op_eq (pv 0) pe_str (nomark _)) (pss_one (ps_ret (pe_callB (call_min2 rfl) (by rfl) z_min b_min (pa_cons (pv 1) (pa_cons (pe_op op_add (pv 2) (pv 3)) pa_nil))))) pss_nil)
  (pss_cons (ps_if (pt_cmpR op_eq (pv 0) pe_str (nomark _)) (pss_one (ps_ret (pe_callB (call_max2 rfl) (by rfl) z_max b_max (pa_cons pe_int (pa_cons (pe_op op_sub (pe_op op_add (pv 2) (pv 3)) (pv 1)) pa_nil))))) pss_nil)
  (pss_cons (ps_if (pt_cmpR op_eq (pv 0) pe_str (nomark _)) (pss_one (ps_ret (pe_callB (call_max2 rfl) (by rfl) z_max b_max (pa_cons (pv 2) (pa_cons (pv 3) pa_nil))))) pss_nil)
  (pss_cons (ps_if (pt_cmpR op_eq (pv 0) pe_str (nomark _)) (pss_one (ps_ret (pe_callB (call_min2 rfl) (by rfl) z_min b_min (pa_cons (pv 2) (pa_cons (pv 3) pa_nil))))) pss_nil)
  (pss_one (ps_ret (pe_callB (call_min2 rfl) (by rfl) z_min b_min (pa_cons (pv 1) (pa_cons (pe_op op_add (pe_op op_sub (pv 1) (pv 2)) (pv 3)) pa_nil))))))))), ?_⟩
  refine ⟨_, rfl, rfl, _, rfl, ite2 (fun c => ?_) fun c1 => ?_⟩
  · have e := wd_eq (u := .more) rfl c
    subst e
    refine ⟨_, rfl, _, rfl, _, rfl, _, _, rfl, rfl, _, _, rfl, ?_⟩
    rw [mn2]
    exact q
  refine ⟨_, rfl, rfl, _, rfl, ite2 (fun c => ?_) fun c2 => ?_⟩
  · have e := wd_eq (u := .less) rfl c
    subst e
    refine ⟨_, rfl, _, rfl, _, _, rfl, rfl, _, rfl, _, _, rfl, rfl, _, _, rfl, ?_⟩
    rw [mx2]
    exact q
  refine ⟨_, rfl, rfl, _, rfl, ite2 (fun c => ?_) fun c3 => ?_⟩
  · have e := wd_eq (u := .greater) rfl c
    subst e
    refine ⟨_, rfl, _, rfl, _, _, rfl, ?_⟩
    rw [mx2]
    exact q
  refine ⟨_, rfl, rfl, _, rfl, ite2 (fun c => ?_) fun c4 => ?_⟩
  · have e := wd_eq (u := .lesser) rfl c
    subst e
    refine ⟨_, rfl, _, rfl, _, _, rfl, ?_⟩
    rw [mn2]
    exact q
  · have e1 := wd_ne (u := .more) rfl c1
    have e2 := wd_ne (u := .less) rfl c2
    have e3 := wd_ne (u := .greater) rfl c3
    have e4 := wd_ne (u := .lesser) rfl c4
    have e : v = .leads := by cases v <;> first | rfl | contradiction
    subst e
    refine ⟨_, rfl, _, rfl, _, rfl, _, _, rfl, rfl, _, rfl, _, _, rfl, rfl, _, _, rfl, ?_⟩
    rw [mn2]
    exact q
def spWorth (m : Nat) : Sp := fun vs H Q _ => ∃ v t, ∃ n x y : Int, vs = [v, .int n, .int x, .int y] ∧ TrAt H v t ∧ t.size ≤ m ∧ ∀ H', Same H H' → Q (.int (t.val n x y)) H'
theorem c_L_worth (T : Txt w K mg) : ∀ m : Nat, C8.Cal P w K mg base (m + 2) "_law_worth" (spWorth m) []
  | 0 => T.cal_L_worth fun fd F => fn_none fun vs H Q E h => by
    obtain ⟨v, t, n, x, y, _, _, h, _⟩ := h
    have := t.size_pos
    omega
  | m + 1 => T.cal_L_worth fun fd F => by
    have c_L_worth := c_L_worth T m
    have c_L_fold := c_L_fold (P := P) (base := base) T
    have z_int := T.z_int
    refine fnD_ok F sc_L_worth (fun vs H Q E h => ?_) (fun cdv A outer s H vs Q E hr h => ?_)
    · obtain ⟨v, t, n, x, y, rfl, _⟩ := h
      rfl
    obtain ⟨v, t, n, x, y, rfl, hv, hm, q⟩ := h
    refine ⟨_, (pss_cons (ps_if (pt_cmpR op_in_seq (pe_ix (r := rIxT K) ix_tup (pv 0) pe_int (fun _ _ => rfl)) (pe_tup (pa_cons pe_str (pa_cons pe_str pa_nil))) (by rfl)) (pss_one (ps_ret (pe_op op_mul (pv 1) (pe_callTy call_int1 (by rfl) z_int b_int (pa_cons (pe_cmpR op_eq (pe_ix (r := rIxT K) ix_tup (pv 0) pe_int (fun _ _ => rfl)) pe_str (nomark _)) pa_nil))))) pss_nil)
  (pss_cons (ps_if (pt_cmpR op_in_seq (pe_ix (r := rIxT K) ix_tup (pv 0) pe_int (fun _ _ => rfl)) (pe_tup (pa_cons pe_str (pa_cons pe_str pa_nil))) (by rfl)) (pss_one (ps_ret (pe_ix (r := rIxL K) ix_list (pe_lst (pa_cons (pv 2) (pa_cons (pv 3) pa_nil))) (pe_callTy call_int1 (by rfl) z_int b_int (pa_cons (pe_cmpR op_eq (pe_ix (r := rIxT K) ix_tup (pv 0) pe_int (fun _ _ => rfl)) pe_str (nomark _)) pa_nil)) (fun _ _ => rfl)))) pss_nil)
  (pss_cons (ps_if (pt_cmpR op_eq (pe_ix (r := rIxT K) ix_tup (pv 0) pe_int (fun _ _ => rfl)) pe_str (nomark _)) (pss_one (ps_ret (pe_op op_sub (pv 1) (C8.pe_c c_L_worth hr (by omega) (by rfl) (pa_cons (pe_ix (r := rIxT K) ix_tup (pv 0) pe_int (fun _ _ => rfl)) (pa_cons (pv 1) (pa_cons (pv 2) (pa_cons (pv 3) pa_nil)))))))) pss_nil)
  (pss_one (ps_ret (C8.pe_c c_L_fold hr (by omega) (by rfl) (pa_cons (pe_ix (r := rIxT K) ix_tup (pv 0) pe_int (fun _ _ => rfl)) (pa_cons (pv 1) (pa_cons (C8.pe_c c_L_worth hr (by omega) (by rfl) (pa_cons (pe_ix (r := rIxT K) ix_tup (pv 0) pe_int (fun _ _ => rfl)) (pa_cons (pv 1) (pa_cons (pv 2) (pa_cons (pv 3) pa_nil))))) (pa_cons (C8.pe_c c_L_worth hr (by omega) (by rfl) (pa_cons (pe_ix (r := rIxT K) ix_tup (pv 0) pe_int (fun _ _ => rfl)) (pa_cons (pv 1) (pa_cons (pv 2) (pa_cons (pv 3) pa_nil))))) pa_nil)))))))))), ?_⟩
    cases t with
    | never =>
      obtain ⟨a, rfl, ha⟩ := hv
      have hT : SqT K H a [.str "never"] := SqT.of ha
      refine ⟨_, rfl, a, _, _, _, rfl, rfl, hT, at_of (j := 0) rfl rfl, (by show 2 ≤ sizeLine; decide), fun p hp => ?_⟩
      have s1 := same_new hp (.tup [.str "never", .str "always"])
      refine ⟨_, _, rfl, .inr (show SqT K _ p (strsV ["never", "always"]) from SqT.of upd_same), rfl, flat_strs _, ?_⟩
      rw [inV_strs]
      refine ⟨_, rfl, iteT ?_⟩
      refine ⟨_, rfl, _, rfl, a, _, _, _, rfl, rfl, sqt s1 hT, at_of (j := 0) rfl rfl, rfl, .inr ⟨_, rfl, _, _, rfl, rfl, .inr ⟨by decide +kernel, by decide +kernel⟩, ?_⟩⟩
      have q2 := q _ s1
      show Q (V.int (n * 0)) _
      rw [Int.mul_zero]
      exact q2
    | always =>
      obtain ⟨a, rfl, ha⟩ := hv
      have hT : SqT K H a [.str "always"] := SqT.of ha
      refine ⟨_, rfl, a, _, _, _, rfl, rfl, hT, at_of (j := 0) rfl rfl, (by show 2 ≤ sizeLine; decide), fun p hp => ?_⟩
      have s1 := same_new hp (.tup [.str "never", .str "always"])
      refine ⟨_, _, rfl, .inr (show SqT K _ p (strsV ["never", "always"]) from SqT.of upd_same), rfl, flat_strs _, ?_⟩
      rw [inV_strs]
      refine ⟨_, rfl, iteT ?_⟩
      refine ⟨_, rfl, _, rfl, a, _, _, _, rfl, rfl, sqt s1 hT, at_of (j := 0) rfl rfl, rfl, .inr ⟨_, rfl, _, _, rfl, rfl, .inr ⟨by decide +kernel, by decide +kernel⟩, ?_⟩⟩
      have q2 := q _ s1
      show Q (V.int (n * 1)) _
      rw [Int.mul_one]
      exact q2
    | p =>
      obtain ⟨a, rfl, ha⟩ := hv
      have hT : SqT K H a [.str "p"] := SqT.of ha
      refine ⟨_, rfl, a, _, _, _, rfl, rfl, hT, at_of (j := 0) rfl rfl, (by show 2 ≤ sizeLine; decide), fun p hp => ?_⟩
      have s1 := same_new hp (.tup [.str "never", .str "always"])
      refine ⟨_, _, rfl, .inr (show SqT K _ p (strsV ["never", "always"]) from SqT.of upd_same), rfl, flat_strs _, ?_⟩
      rw [inV_strs]
      refine ⟨_, rfl, iteF ?_⟩
      refine ⟨_, rfl, a, _, _, _, rfl, rfl, sqt s1 hT, at_of (j := 0) rfl rfl, (by show 2 ≤ sizeLine; decide), fun p2 hp2 => ?_⟩
      have s2 := same_new hp2 (.tup [.str "p", .str "q"])
      refine ⟨_, _, rfl, .inr (show SqT K _ p2 (strsV ["p", "q"]) from SqT.of upd_same), rfl, flat_strs _, ?_⟩
      rw [inV_strs]
      refine ⟨_, rfl, iteT ?_⟩
      refine ⟨_, rfl, _, rfl, (by show 2 ≤ sizeLine; decide), fun L hL => ?_⟩
      have s3 := same_new hL (.lst [.int x, .int y])
      refine ⟨_, rfl, a, _, _, _, rfl, rfl, sqt ((s1.trans s2).trans s3) hT, at_of (j := 0) rfl rfl, rfl, .inr ⟨_, rfl, L, _, _, .int x, rfl, rfl, SqL.of upd_same, at_of (j := 0) (by decide +kernel) rfl, ?_⟩⟩
      exact q _ ((s1.trans s2).trans s3)
    | q =>
      obtain ⟨a, rfl, ha⟩ := hv
      have hT : SqT K H a [.str "q"] := SqT.of ha
      refine ⟨_, rfl, a, _, _, _, rfl, rfl, hT, at_of (j := 0) rfl rfl, (by show 2 ≤ sizeLine; decide), fun p hp => ?_⟩
      have s1 := same_new hp (.tup [.str "never", .str "always"])
      refine ⟨_, _, rfl, .inr (show SqT K _ p (strsV ["never", "always"]) from SqT.of upd_same), rfl, flat_strs _, ?_⟩
      rw [inV_strs]
      refine ⟨_, rfl, iteF ?_⟩
      refine ⟨_, rfl, a, _, _, _, rfl, rfl, sqt s1 hT, at_of (j := 0) rfl rfl, (by show 2 ≤ sizeLine; decide), fun p2 hp2 => ?_⟩
      have s2 := same_new hp2 (.tup [.str "p", .str "q"])
      refine ⟨_, _, rfl, .inr (show SqT K _ p2 (strsV ["p", "q"]) from SqT.of upd_same), rfl, flat_strs _, ?_⟩
      rw [inV_strs]
      refine ⟨_, rfl, iteT ?_⟩
      refine ⟨_, rfl, _, rfl, (by show 2 ≤ sizeLine; decide), fun L hL => ?_⟩
      have s3 := same_new hL (.lst [.int x, .int y])
      refine ⟨_, rfl, a, _, _, _, rfl, rfl, sqt ((s1.trans s2).trans s3) hT, at_of (j := 0) rfl rfl, rfl, .inr ⟨_, rfl, L, _, _, .int y, rfl, rfl, SqL.of upd_same, at_of (j := 1) (by decide +kernel) rfl, ?_⟩⟩
      exact q _ ((s1.trans s2).trans s3)
    | neg t =>
      obtain ⟨a, u, rfl, ha, hu⟩ := hv
      have hT : SqT K H a [.str "not", u] := SqT.of ha
      simp only [Tr.size] at hm
      refine ⟨_, rfl, a, _, _, _, rfl, rfl, hT, at_of (j := 0) rfl rfl, (by show 2 ≤ sizeLine; decide), fun p hp => ?_⟩
      have s1 := same_new hp (.tup [.str "never", .str "always"])
      refine ⟨_, _, rfl, .inr (show SqT K _ p (strsV ["never", "always"]) from SqT.of upd_same), rfl, flat_strs _, ?_⟩
      rw [inV_strs]
      refine ⟨_, rfl, iteF ?_⟩
      refine ⟨_, rfl, a, _, _, _, rfl, rfl, sqt s1 hT, at_of (j := 0) rfl rfl, (by show 2 ≤ sizeLine; decide), fun p2 hp2 => ?_⟩
      have s2 := same_new hp2 (.tup [.str "p", .str "q"])
      refine ⟨_, _, rfl, .inr (show SqT K _ p2 (strsV ["p", "q"]) from SqT.of upd_same), rfl, flat_strs _, ?_⟩
      rw [inV_strs]
      refine ⟨_, rfl, iteF ?_⟩
      have s12 := s1.trans s2
      refine ⟨_, rfl, a, _, _, _, rfl, rfl, sqt s12 hT, at_of (j := 0) rfl rfl, rfl, _, rfl, iteT ?_⟩
      refine ⟨_, rfl, _, rfl, a, _, _, _, rfl, rfl, sqt s12 hT, at_of (j := 1) rfl rfl, _, rfl, _, rfl, _, rfl, u, t, n, x, y, rfl, hu.mono s12, by omega, fun H3 s3 => ?_⟩
      exact ⟨_, _, rfl, rfl, q H3 (s12.trans s3)⟩
    | fold v t1 t2 =>
      obtain ⟨a, ux, uy, rfl, ha, hx, hy⟩ := hv
      have hT : SqT K H a [.str v.str, ux, uy] := SqT.of ha
      simp only [Tr.size] at hm
      obtain ⟨n1, n2, n3, n4, n5⟩ := wd_str_ne v
      refine ⟨_, rfl, a, _, _, _, rfl, rfl, hT, at_of (j := 0) rfl rfl, (by show 2 ≤ sizeLine; decide), fun p hp => ?_⟩
      have s1 := same_new hp (.tup [.str "never", .str "always"])
      refine ⟨_, _, rfl, .inr (show SqT K _ p (strsV ["never", "always"]) from SqT.of upd_same), rfl, flat_strs _, ?_⟩
      rw [inV_strs]
      refine ⟨_, rfl, ?_⟩
      rw [decide_eq_false n5]
      refine iteF ⟨_, rfl, a, _, _, _, rfl, rfl, sqt s1 hT, at_of (j := 0) rfl rfl, (by show 2 ≤ sizeLine; decide), fun p2 hp2 => ?_⟩
      have s2 := same_new hp2 (.tup [.str "p", .str "q"])
      refine ⟨_, _, rfl, .inr (show SqT K _ p2 (strsV ["p", "q"]) from SqT.of upd_same), rfl, flat_strs _, ?_⟩
      rw [inV_strs]
      refine ⟨_, rfl, ?_⟩
      rw [decide_eq_false n4]
      have s12 := s1.trans s2
      refine iteF ⟨_, rfl, a, _, _, _, rfl, rfl, sqt s12 hT, at_of (j := 0) rfl rfl, rfl, _, rfl, ?_⟩
      rw [decide_eq_false n3]
      refine iteF ⟨_, rfl, a, _, _, _, rfl, rfl, sqt s12 hT, at_of (j := 0) rfl rfl, _, rfl, ?_⟩
      refine ⟨_, rfl, a, _, _, _, rfl, rfl, sqt s12 hT, at_of (j := 1) rfl rfl, _, rfl, _, rfl, _, rfl, ux, t1, n, x, y, rfl, hx.mono s12, by omega, fun H3 s3 => ?_⟩
      have s123 := s12.trans s3
      refine ⟨_, rfl, a, _, _, _, rfl, rfl, sqt s123 hT, at_of (j := 2) rfl rfl, _, rfl, _, rfl, _, rfl, uy, t2, n, x, y, rfl, hy.mono s123, by omega, fun H4 s4 => ?_⟩
      exact ⟨v, n, _, _, rfl, q H4 (s123.trans s4)⟩
end
end K55

namespace K55
open PySem PySem.Spec PyProof.Rows L2
/-! ### a comprehension over zip of tuples -/
section
variable {K : PySem.W.Frag} {te : TE} {σ : L2.St} {H1 : Hp} {D : Addr} {Qd : Hp → Prop} {i0 j0 : Nat}
theorem wipe2 (h : i0 ≠ j0) (x y : V) : wipe (((wipe σ [i0, j0]).set i0 (some x)).set j0 (some y)) [i0, j0] = wipe σ [i0, j0] := by
  show (((((σ.set j0 none).set i0 none).set i0 (some x)).set j0 (some y)).set j0 none).set i0 none = (σ.set j0 none).set i0 none
  rw [List.set_set, List.set_set, List.set_comm (some x) none h, List.set_set, List.set_set]
theorem lcZ {a b : Addr} {xs ys : List V} (h : i0 ≠ j0) (zs : List V) (hD : H1 D = none) (hS : SqT K H1 a xs) (hY : SqT K H1 b ys) (hl : xs.length = zs.length) (hm : ys.length = zs.length) (hz : zs.length ≤ 100000)
    (he : ∀ (i : Nat) (x y z : V) (H' : Hp), xs[i]? = some x → ys[i]? = some y → zs[i]? = some z → Same H1 H' → ∀ Q : VK, (∀ H'', Same H' H'' → Q z H'') → te (((wipe σ [i0, j0]).set i0 (some x)).set j0 (some y)) H' Q) (hd : ∀ H', Same H1 H' → H' D = some (.lst zs) → Qd H') :
    ∃ W : Nat → Nat → Hp → Prop, (∃ m, W 0 m (upd H1 D (.lst []))) ∧ ∀ i m H, W i m H →
      ((RZ.ItzT K a b).stop i H ∧ Qd H) ∨ ((RZ.ItzT K a b).go i H ∧ ∃ Nx : Hp → Prop, (∀ H', Nx H' → ∃ m', m' < m ∧ W (i + 1) m' H') ∧ ∀ x H', (RZ.ItzT K a b).yld i H x H' → (gTup K 2 (gCons (gName i0) (gCons (gName j0) gNil))) x (wipe σ [i0, j0]) H' fun σ2 H2 => wipe σ2 [i0, j0] = wipe σ [i0, j0] ∧ tYes σ2 H2 fun b H3 =>
        if b = true then te σ2 H3 fun y H4 => ∃ acc, H4 D = some (.lst acc) ∧ acc.length < sizeLine ∧ Nx (upd H4 D (.lst (acc ++ [y]))) else Nx H3) := by
  refine ⟨fun i m H => m = zs.length - i ∧ i ≤ zs.length ∧ (Same H1 H ∧ H D = some (.lst (zs.take i))), ⟨zs.length, by simp, Nat.zero_le _, same_new hD _, by rw [upd_same]; rfl⟩, ?_⟩
  rintro i m H ⟨rfl, hi, s, e⟩
  by_cases hlt : i < zs.length
  · have ex : xs[i]? = some xs[i] := List.getElem?_eq_getElem (by omega)
    have ey : ys[i]? = some ys[i] := List.getElem?_eq_getElem (by omega)
    have ez : zs[i]? = some zs[i] := List.getElem?_eq_getElem hlt
    refine .inr ⟨⟨xs, ys, _, _, sqt s hS, sqt s hY, ex, ey⟩, fun H => Same H1 H ∧ H D = some (.lst (zs.take (i + 1))), fun H' p' => ⟨zs.length - (i + 1), by omega, rfl, hlt, p'⟩, fun x H' q => ?_⟩
    obtain ⟨Tp, x', y', rfl, hT, rfl, q1, q2⟩ := q
    have e1 := q1 xs (sqt s hS)
    have e2 := q2 ys (sqt s hY)
    have sT := same_new hT (.tup [x', y'])
    refine ⟨Tp, _, rfl, SqT.of upd_same, rfl, _, _, rfl, _, _, rfl, rfl, wipe2 h _ _, ?_⟩
    exact lc_turn hD ez hz (s.trans sT) (sT _ _ e) (he i _ _ _ _ e1 e2 ez (s.trans sT))
  · have e0 : i = zs.length := by omega
    subst e0
    exact .inl ⟨⟨xs, ys, sqt s hS, sqt s hY, .inl (by omega)⟩, hd _ s (by rw [e, List.take_length])⟩
end
section
variable {P : Program} {w : World} {K : PySem.W.Frag} {mg : Str → Option Value} {base : Heap}
/-! ### _law_whole, _law_is_point -/
def spWhole : Sp := fun vs H Q _ => ∃ n : Int, vs = [.int n] ∧ Q (.bl true) H
theorem c_L_whole (T : Txt w K mg) : C8.Cal P w K mg base 1 "_law_whole" spWhole [] := T.cal_L_whole fun fd F => by
  have z_isinstance := T.z_isinstance
  have z_int := T.z_int
  have z_bool := T.z_bool
  refine fnD_ok F sc_L_whole (fun vs H Q E h => ?_) (fun cdv A outer s H vs Q E hr h => ?_)
  · obtain ⟨n, rfl, _⟩ := h
    rfl
  obtain ⟨n, rfl, q⟩ := h
  refine ⟨_, (pss_one (ps_ret (pe_and (pe_callB call_isi (by rfl) z_isinstance b_isinstance (pa_cons (pv 0) (pa_cons (pe_bltn (v := .ty "int") (by rfl) z_int b_int rfl) pa_nil))) (pe_one (pe_not (pe_callB call_isi (by rfl) z_isinstance b_isinstance (pa_cons (pv 0) (pa_cons (pe_bltn (v := .ty "bool") (by rfl) z_bool b_bool rfl) pa_nil)))))))), ?_⟩
  refine ⟨_, rfl, _, _, _, _, true, rfl, .ty _, (.base (.int n)), kit_ty (by decide +kernel), _, rfl, iteT ?_⟩
  exact ⟨_, rfl, _, _, _, _, false, rfl, .ty _, (.base (.int n)), kit_ty (by decide +kernel), _, rfl, q⟩
theorem three_int {xs : List Int} {j : Nat} {x y : V} (hx : (xs.map V.int)[j]? = some x) (hy : (xs.map fun _ => V.bl true)[j]? = some y) : (∃ n, x = .int n) ∧ y = .bl true := by
  rw [List.getElem?_map] at hx hy
  cases e : xs[j]? with
  | none => rw [e] at hx; cases hx
  | some n =>
    rw [e] at hx hy
    cases hx
    cases hy
    exact ⟨⟨n, rfl⟩, rfl⟩
def spPoint (K : PySem.W.Frag) : Sp := fun vs H Q _ => ∃ v, ∃ k : T3, vs = [v] ∧ T3At K H v k ∧ 0 < k.a ∧ (0 ≤ k.b ∧ k.b ≤ k.a) ∧ (0 ≤ k.c ∧ k.c ≤ k.a) ∧ ∀ H', Same H H' → Q (.bl true) H'
theorem c_L_is_point (T : Txt w K mg) : C8.Cal P w K mg base 2 "_law_is_point" (spPoint K) [] := T.cal_L_is_point fun fd F => by
  have c_L_whole := c_L_whole (P := P) (base := base) T
  have z_isinstance := T.z_isinstance
  have z_tuple := T.z_tuple
  have z_len := T.z_len
  have z_all := T.z_all
  have z_min := T.z_min
  have z_max := T.z_max
  refine fnD_ok F sc_L_is_point (fun vs H Q E h => ?_) (fun cdv A outer s H vs Q E hr h => ?_)
  · obtain ⟨v, k, rfl, _⟩ := h
    rfl
  obtain ⟨v, k, rfl, ⟨a, rfl, hT⟩, a0, ⟨b0, b1⟩, ⟨c0, c1⟩, q⟩ := h
  refine ⟨_, (pss_cons (ps_if (PW.pt (pw_or (pt_not (pt_val (pe_callB call_isi (by rfl) z_isinstance b_isinstance (pa_cons (pv 0) (pa_cons (pe_bltn (v := .ty "tuple") (by rfl) z_tuple b_tuple rfl) pa_nil))))) (pw_or (pt_cmpR op_ne (pe_callB call_len_seq (by rfl) z_len b_len (pa_cons (pv 0) pa_nil)) pe_int (nomark _)) (pw_or1 (pt_not (pt_val (pe_callB (cr_all rfl) (by rfl) z_all b_all (pa_cons (pe_lc (own := [("_law_number", 1)]) (g := gName 1) (tt := tYes) rfl sc_L_is_point.nd (pi_tup (pv 0)) (blkOk_by (own := [("_law_number", 1)]) (N := ["_law_found", "_law_number"]) (sc := defScope s_L_is_point) (by decide +kernel)) (fun _ _ _ _ _ => (pg_name (i := 1) sc_L_is_point.nd rfl (Or.inl rfl))) (fun _ _ _ _ _ => pts_nil) (fun _ _ _ _ _ => (C8.pe_c c_L_whole hr (by omega) (by rfl) (pa_cons (pv 1) pa_nil)))) pa_nil)))))))) (pss_one (ps_ret pe_bl)) pss_nil)
  (pss_one (ps_ret (pe_and (pe_cmpR op_gt (pe_ix (r := rIxT K) ix_tup (pv 0) pe_int (fun _ _ => rfl)) pe_int (nomark _)) (pe_and (pe_cmpR op_le pe_int (pe_callB (cr_minT rfl) (by rfl) z_min b_min (pa_cons (pe_slice sl_tup (pv 0) (po_some pe_int) po_none) pa_nil)) (nomark _)) (pe_one (pe_cmpR op_le (pe_callB (cr_maxT rfl) (by rfl) z_max b_max (pa_cons (pe_slice sl_tup (pv 0) (po_some pe_int) po_none) pa_nil)) (pe_ix (r := rIxT K) ix_tup (pv 0) pe_int (fun _ _ => rfl)) (nomark _)))))))), ?_⟩
  refine ⟨_, rfl, _, _, _, _, true, rfl, .ty _, (ty_tup hT), kit_ty (by decide +kernel), _, rfl, iteF ?_⟩
  refine ⟨_, rfl, a, _, rfl, .inr hT, rfl, _, rfl, iteF ?_⟩
  refine ⟨_, rfl, a, rfl, ⟨_, hT⟩, fun D hD => lcT (K := K) (a := a) (xs := [k.a, k.b, k.c].map V.int) ([k.a, k.b, k.c].map fun _ => V.bl true) hD hT rfl (show 3 ≤ 100000 by decide) (fun j x y H' hx hy s2 Q' hq => ?_) fun H1 s1 hd => ?_⟩
  · obtain ⟨⟨n, rfl⟩, rfl⟩ := three_int hx hy
    exact ⟨_, rfl, n, rfl, hq H' (Same.refl _)⟩
  refine ⟨D, [true, true, true], rfl, SqL.of hd, _, rfl, iteF ?_⟩
  have hT1 := sqt s1 hT
  refine ⟨_, rfl, a, _, _, _, rfl, rfl, hT1, at_of (j := 0) rfl rfl, _, _, rfl, rfl, _, rfl, ?_⟩
  rw [decide_eq_true a0]
  refine iteT ⟨_, rfl, 1, rfl, a, _, rfl, hT1, cut1_part _ _, fun p hp => ?_⟩
  rw [cut1]
  have s2 := same_new hp (.tup [.int k.b, .int k.c])
  refine ⟨p, [k.b, k.c], rfl, SqT.of upd_same, Nat.zero_lt_two, fun m m1 m2 => ⟨_, _, rfl, rfl, _, rfl, ?_⟩⟩
  have m0 : (0 : Int) ≤ m := by
    simp only [List.mem_cons, List.not_mem_nil, or_false] at m1
    omega
  rw [decide_eq_true m0]
  have hT2 := sqt s2 hT1
  refine iteT ⟨_, rfl, 1, rfl, a, _, rfl, hT2, cut1_part _ _, fun p2 hp2 => ?_⟩
  rw [cut1]
  have s3 := same_new hp2 (.tup [.int k.b, .int k.c])
  refine ⟨p2, [k.b, k.c], rfl, SqT.of upd_same, Nat.zero_lt_two, fun m m1 m2 => ?_⟩
  refine ⟨_, rfl, a, _, _, _, rfl, rfl, sqt s3 hT2, at_of (j := 0) rfl rfl, _, _, rfl, rfl, ?_⟩
  have m3 : m ≤ k.a := by
    simp only [List.mem_cons, List.not_mem_nil, or_false] at m1
    omega
  have e : decide (m ≤ k.a) = true := decide_eq_true m3
  show Q (.bl (decide (m ≤ k.a))) _
  rw [e]
  exact q _ ((s1.trans s2).trans s3)
/-! ### _law_tells, _law_sum -/
theorem c_L_tells (T : Txt w K mg) : C8.Cal P w K mg base 1 "_law_tells" (spTold K) [] := T.cal_L_tells fun fd F => by
  refine fnD_ok F sc_L_tells (fun vs H Q E h => ?_) (fun cdv A outer s H vs Q E hr h => ?_)
  · obtain ⟨x, y, r, k, rfl, _⟩ := h
    rfl
  obtain ⟨x, y, r, k, rfl, ⟨a, rfl, h1⟩, ⟨b, rfl, h2⟩, ⟨⟨a1, a2⟩, ⟨b1, b2⟩, c1, c2⟩, q⟩ := h
  refine ⟨_, (pss_one (ps_ret (pe_op op_add (pe_op op_add (pe_op op_mul (pe_ix (r := rIxT K) ix_tup (pv 0) pe_int (fun _ _ => rfl)) (pe_ix (r := rIxT K) ix_tup (pv 1) pe_int (fun _ _ => rfl))) (pe_op op_mul (pe_ix (r := rIxT K) ix_tup (pv 0) pe_int (fun _ _ => rfl)) (pe_ix (r := rIxT K) ix_tup (pv 1) pe_int (fun _ _ => rfl)))) (pe_op op_mul (pe_ix (r := rIxT K) ix_tup (pv 0) pe_int (fun _ _ => rfl)) (pe_ix (r := rIxT K) ix_tup (pv 1) pe_int (fun _ _ => rfl)))))), ?_⟩
  refine ⟨_, rfl, a, _, _, _, rfl, rfl, h1, at_of (j := 0) rfl rfl, _, rfl, b, _, _, _, rfl, rfl, h2, at_of (j := 1) rfl rfl, _, _, rfl, rfl, small_mul a1 a2 (by decide), ?_⟩
  refine ⟨_, rfl, a, _, _, _, rfl, rfl, h1, at_of (j := 1) rfl rfl, _, rfl, b, _, _, _, rfl, rfl, h2, at_of (j := 2) rfl rfl, _, _, rfl, rfl, small_mul b1 b2 (by decide), _, _, rfl, rfl, ?_⟩
  refine ⟨_, rfl, a, _, _, _, rfl, rfl, h1, at_of (j := 2) rfl rfl, _, rfl, b, _, _, _, rfl, rfl, h2, at_of (j := 0) rfl rfl, _, _, rfl, rfl, small_mul c1 c2 (by decide), _, _, rfl, rfl, ?_⟩
  exact q
def spSum (K : PySem.W.Frag) : Sp := fun vs H Q _ => ∃ x y r s, ∃ e : Int, vs = [x, y, .int e] ∧ T3At K H x r ∧ T3At K H y s ∧ (e = 1 ∨ e = -1) ∧ ∀ z H', Same H H' → T3At K H' z ⟨r.a + e * s.a, r.b + e * s.b, r.c + e * s.c⟩ → Q z H'
theorem c_L_sum (T : Txt w K mg) : C8.Cal P w K mg base 1 "_law_sum" (spSum K) [] := T.cal_L_sum fun fd F => by
  have z_zip := T.z_zip
  have z_tuple := T.z_tuple
  refine fnD_ok F sc_L_sum (fun vs H Q E h => ?_) (fun cdv A outer s H vs Q E hr h => ?_)
  · obtain ⟨x, y, r, s, e, rfl, _⟩ := h
    rfl
  obtain ⟨x, y, u, v, e, rfl, ⟨a, rfl, h1⟩, ⟨b, rfl, h2⟩, he, q⟩ := h
  have em : ∀ x : Int, CMul e x := fun x => by
    rcases he with rfl | rfl
    · exact .inl ⟨by decide, by decide⟩
    · exact .inl ⟨by decide, by decide⟩
  refine ⟨_, (pss_one (ps_ret (pe_callTy call_tuple_of (by rfl) z_tuple b_tuple (pa_cons (pe_lc (own := [("_law_a", 3), ("_law_b", 4)]) (g := gTup K 2 (gCons (gName 3) (gCons (gName 4) gNil))) (tt := tYes) rfl sc_L_sum.nd (RZ.pi_zipA (by rfl) z_zip (pa_cons (pv 0) (pa_cons (pv 1) pa_nil))) (blkOk_by (own := [("_law_a", 3), ("_law_b", 4)]) (N := ["_law_one", "_law_other", "_law_by", "_law_a", "_law_b"]) (sc := defScope s_L_sum) (by decide +kernel)) (fun _ _ _ _ _ => (pg_tup rfl (pgs_cons (pg_name (i := 3) sc_L_sum.nd rfl (Or.inl rfl)) (pgs_cons (pg_name (i := 4) sc_L_sum.nd rfl (Or.inl rfl)) pgs_nil)))) (fun _ _ _ _ _ => pts_nil) (fun _ _ _ _ _ => (pe_op op_add (pv 3) (pe_op op_mul (pv 2) (pv 4))))) pa_nil)))), ?_⟩
  refine ⟨_, rfl, _, rfl, a, b, _, _, rfl, .inr ⟨h1, h2, fun D hD => lcZ (K := K) (a := a) (b := b) (i0 := 3) (j0 := 4) (by decide) [.int (u.a + e * v.a), .int (u.b + e * v.b), .int (u.c + e * v.c)] hD h1 h2 rfl rfl (show 3 ≤ 100000 by decide) (fun i x y z H' hx hy hz s Q' hq => ?_) fun H' s hd => ?_⟩⟩
  · match i, hx, hy, hz with
    | 0, hx, hy, hz =>
      cases hx
      cases hy
      cases hz
      exact ⟨_, rfl, _, rfl, _, rfl, _, _, rfl, rfl, em _, _, _, rfl, rfl, hq H' (Same.refl _)⟩
    | 1, hx, hy, hz =>
      cases hx
      cases hy
      cases hz
      exact ⟨_, rfl, _, rfl, _, rfl, _, _, rfl, rfl, em _, _, _, rfl, rfl, hq H' (Same.refl _)⟩
    | 2, hx, hy, hz =>
      cases hx
      cases hy
      cases hz
      exact ⟨_, rfl, _, rfl, _, rfl, _, _, rfl, rfl, em _, _, _, rfl, rfl, hq H' (Same.refl _)⟩
    | i + 3, hx, hy, hz => simp at hz
  · refine ⟨D, _, rfl, .inl ⟨SqL.of hd, fun p hp => ?_⟩⟩
    exact q _ _ (s.trans (same_new hp _)) ⟨p, rfl, SqT.of upd_same⟩
/-! ### _law_lowest -/
def gg (v : T3) : Nat → Int
  | 0 => 0
  | 1 => v.a
  | 2 => (Int.gcd v.a v.b : Nat)
  | _ => gcd3 v
theorem gg_step {v : T3} (h0 : 0 ≤ v.a) {i : Nat} {n : Int} (h : [v.a, v.b, v.c][i]? = some n) : ((Int.gcd (gg v i) n : Nat) : Int) = gg v (i + 1) := by
  match i, h with
  | 0, h =>
    cases h
    show ((Int.gcd 0 v.a : Nat) : Int) = v.a
    rw [Int.gcd_zero_left]
    omega
  | 1, h => cases h; rfl
  | 2, h => cases h; rfl
  | i + 3, h => simp at h
theorem gg_nn {v : T3} (h0 : 0 ≤ v.a) : ∀ i, 0 ≤ gg v i
  | 0 => Int.le_refl _
  | 1 => h0
  | 2 => Int.natCast_nonneg _
  | _ + 3 => Int.natCast_nonneg _
def spLowest (K : PySem.W.Frag) : Sp := fun vs H Q _ => ∃ a, ∃ v : T3, vs = [.ref a] ∧ SqL K H a [.int v.a, .int v.b, .int v.c] ∧ 0 < v.a ∧ v.a < 2 ^ 6011 ∧ 0 ≤ v.b ∧ 0 ≤ v.c ∧ ∀ z H', Same H H' → T3At K H' z (lowest v) → Q z H'
theorem c_L_lowest (T : Txt w K mg) : C8.Cal P w K mg base 1 "_law_lowest" (spLowest K) [] := T.cal_L_lowest fun fd F => by
  have z_tuple := T.z_tuple
  refine fnD_ok F sc_L_lowest (fun vs H Q E h => ?_) (fun cdv A outer s H vs Q E hr h => ?_)
  · obtain ⟨a, v, rfl, _⟩ := h
    rfl
  obtain ⟨a, v, rfl, hS, a0, al, b0, c0, q⟩ := h
  refine ⟨_, (pss_cons (ps_set (i := 1) sc_L_lowest.nd rfl (Or.inr rfl) pe_int)
  (pss_cons (ps_for PassesOwn.never rfl (pi_list (pv 0)) (pg_name (i := 2) sc_L_lowest.nd rfl (Or.inl rfl)) (pss_one (ps_while PassesOwn.never (pt_cmpR op_gt (pv 2) pe_int (nomark _)) (pss_one (ps_asg (pe_tup (pa_cons (pv 2) (pa_cons (pe_op op_mod (pv 1) (pv 2)) pa_nil))) (pg_tup rfl (pgs_cons (pg_name (i := 1) sc_L_lowest.nd rfl (Or.inr rfl)) (pgs_cons (pg_name (i := 2) sc_L_lowest.nd rfl (Or.inl rfl)) pgs_nil))))))))
  (pss_one (ps_ret (pe_callTy call_tuple_of (by rfl) z_tuple b_tuple (pa_cons (pe_lc (own := [("_law_number", 2)]) (g := gName 2) (tt := tYes) rfl sc_L_lowest.nd (pi_list (pv 0)) (blkOk_by (own := [("_law_number", 2)]) (N := ["_law_point", "_law_by", "_law_number"]) (sc := defScope s_L_lowest) (by decide +kernel)) (fun _ _ _ _ _ => (pg_name (i := 2) sc_L_lowest.nd rfl (Or.inl rfl))) (fun _ _ _ _ _ => pts_nil) (fun _ _ _ _ _ => (pe_op op_fdivW (pv 2) (pv 1)))) pa_nil)))))), ?_⟩
  refine ⟨_, rfl, a, rfl, ⟨_, hS⟩, for_list (K := K) (a := a) (xs := [v.a, v.b, v.c].map V.int) (fun i σ H' => ∃ x2, σ = [some (.ref a), some (.int (gg v i)), x2] ∧ Same H H') ⟨none, rfl, Same.refl _⟩ (fun i σ H' _ ⟨_, _, s⟩ => s.seq hS) (fun i x σ H' hx hp => ?_) fun σ H1 hp => ?_⟩
  · obtain ⟨x2, rfl, s1⟩ := hp
    rw [List.getElem?_map] at hx
    obtain ⟨n, hn, en⟩ := Option.map_eq_some_iff.mp hx
    subst en
    have nn : 0 ≤ n := by
      have m := List.mem_of_getElem? hn
      simp only [List.mem_cons, List.not_mem_nil, or_false] at m
      omega
    have st := gg_step (Int.le_of_lt a0) hn
    refine ⟨fun m σ H' => ∃ x y : Int, σ = [some (.ref a), some (.int x), some (.int y)] ∧ Same H H' ∧ 0 ≤ x ∧ 0 ≤ y ∧ ((Int.gcd x y : Nat) : Int) = gg v (i + 1) ∧ m = y.toNat, ⟨_, gg v i, n, rfl, s1, gg_nn (Int.le_of_lt a0) i, nn, st, rfl⟩, fun m σ H' hW => ?_⟩
    obtain ⟨x, y, rfl, s2, hx0, hy0, hg, rfl⟩ := hW
    refine ⟨_, rfl, _, _, rfl, rfl, _, rfl, ite2 (fun c => ?_) fun c => ?_⟩
    · have y0 : 0 < y := of_decide_eq_true c
      refine ⟨fun σ' H' => ∃ x' y' : Int, σ' = [some (.ref a), some (.int x'), some (.int y')] ∧ Same H H' ∧ 0 ≤ x' ∧ 0 ≤ y' ∧ ((Int.gcd x' y' : Nat) : Int) = gg v (i + 1) ∧ y'.toNat < y.toNat, fun σ' H' h2 => ?_, ?_⟩
      · obtain ⟨x', y', e, e2, h3, h4, h5, h6⟩ := h2
        exact ⟨_, h6, x', y', e, e2, h3, h4, h5, rfl⟩
      · refine ⟨_, rfl, _, rfl, _, rfl, _, _, rfl, rfl, y0, (by show 2 ≤ sizeLine; decide), fun p hp => ?_⟩
        have s3 := same_new hp (.tup [.int y, .int (x % y)])
        refine ⟨p, _, rfl, SqT.of upd_same, rfl, _, _, rfl, _, _, rfl, rfl, ?_⟩
        refine ⟨y, x % y, rfl, s2.trans s3, hy0, Int.emod_nonneg _ (by omega), ?_, ?_⟩
        · rw [gcd_step hx0 y0]
          exact hg
        · have := Int.emod_lt_of_pos x y0
          have := Int.emod_nonneg x (show y ≠ 0 by omega)
          omega
    · have y0 : ¬ 0 < y := of_decide_eq_false (Bool.eq_false_iff.mpr c)
      have e : y = 0 := by omega
      subst e
      refine ⟨some (.int 0), ?_, s2⟩
      have e2 : x = gg v (i + 1) := by
        rw [← hg, Int.gcd_zero_right]
        omega
      rw [e2]
  · obtain ⟨x2, rfl, s1⟩ := hp
    have gd : ∀ i : Int, CDivW i (gcd3 v) := fun i => gcd3_div a0 al
    refine ⟨_, rfl, a, rfl, ⟨_, s1.seq hS⟩, fun D hD => lcL (K := K) (a := a) (xs := [.int v.a, .int v.b, .int v.c]) [.int (v.a / gcd3 v), .int (v.b / gcd3 v), .int (v.c / gcd3 v)] hD (s1.seq hS) rfl (show 3 ≤ 100000 by decide) (fun i x z H' hx hz s2 Q' hq => ?_) fun H2 s2 hd => ?_⟩
    · match i, hx, hz with
      | 0, hx, hz =>
        cases hx
        cases hz
        exact ⟨_, rfl, _, rfl, _, _, rfl, rfl, gd _, hq H' (Same.refl _)⟩
      | 1, hx, hz =>
        cases hx
        cases hz
        exact ⟨_, rfl, _, rfl, _, _, rfl, rfl, gd _, hq H' (Same.refl _)⟩
      | 2, hx, hz =>
        cases hx
        cases hz
        exact ⟨_, rfl, _, rfl, _, _, rfl, rfl, gd _, hq H' (Same.refl _)⟩
      | i + 3, hx, hz => simp at hz
    · refine ⟨D, _, rfl, .inl ⟨SqL.of hd, fun p hp => ?_⟩⟩
      exact q _ _ ((s1.trans s2).trans (same_new hp _)) ⟨p, rfl, SqT.of upd_same⟩
end
end K55

namespace K55
open PySem PySem.Spec PyProof.Rows L2
section
variable {P : Program} {w : World} {K : PySem.W.Frag} {mg : Str → Option Value} {base : Heap}
/-! ### _law_cut -/
theorem c_L_cut (T : Txt w K mg) : C8.Cal P w K mg base 2 "_law_cut" (spCut K) [] := T.cal_L_cut fun fd F => by
  have c_L_tells := c_L_tells (P := P) (base := base) T
  have c_L_lowest := c_L_lowest (P := P) (base := base) T
  have z_enumerate := T.z_enumerate
  have z_len := T.z_len
  have z_min := T.z_min
  have z_max := T.z_max
  have z_abs := T.z_abs
  have z_zip := T.z_zip
  refine fnD_ok F sc_L_cut (fun vs H Q E h => ?_) (fun cdv A outer s H vs Q E hr h => ?_)
  · obtain ⟨x, y, h, r, d, rfl, _⟩ := h
    rfl
  obtain ⟨x, y, h, r, d, rfl, ⟨ha, cs, rfl, hS, hP⟩, hY, hr32, O, hd, hC, q⟩ := h
  have hr1000 : r.In 1000 := In.mono hr32 (by decide)
  have len0 := O.pos
  have lenM := O.len_le (show d ≤ 8 by omega)
  have hlen : cs.length = h.length := hP.length
  refine ⟨_, (pss_cons (ps_setLc (i := 2) (own := [("_law_corner", 3)]) (g := gName 3) (tt := tYes) rfl sc_L_cut.nd rfl rfl (sw_true rfl rfl rfl (by decide +kernel)) (pi_list (pv 0)) (blkOk_by (own := [("_law_corner", 3)]) (N := ["_law_hull", "_law_rule_here", "_law_some", "_law_corner", "_law_low", "_law_high", "_law_k", "_law_here", "_law_there", "_law_other", "_law_fresh", "_law_a", "_law_b"]) (sc := defScope s_L_cut) (by decide +kernel)) (fun _ _ _ _ _ => (pg_name (i := 3) sc_L_cut.nd rfl (Or.inl rfl))) (fun _ _ _ _ _ => pts_nil) (fun _ _ _ _ _ => (C8.pe_c c_L_tells hr (by omega) (by rfl) (pa_cons (pv 1) (pa_cons (pv 3) pa_nil)))))
  (pss_cons (ps_if (PW.pt (pw_or (pt_cmpR op_ge (pe_callB (cr_min rfl) (by rfl) z_min b_min (pa_cons (pv 2) pa_nil)) pe_int (nomark _)) (pw_or1 (pt_cmpR op_le (pe_callB (cr_max rfl) (by rfl) z_max b_max (pa_cons (pv 2) pa_nil)) pe_int (nomark _))))) (pss_one (ps_ret pe_non)) pss_nil)
  (pss_cons (ps_set (i := 4) sc_L_cut.nd rfl (Or.inl rfl) (pe_lst pa_nil))
  (pss_cons (ps_set (i := 5) sc_L_cut.nd rfl (Or.inl rfl) (pe_lst pa_nil))
  (pss_cons (ps_for PassesOwn.never rfl (pi_enum (by rfl) z_enumerate (pa_cons (pv 0) pa_nil)) (pg_tup rfl (pgs_cons (pg_name (i := 6) sc_L_cut.nd rfl (Or.inl rfl)) (pgs_cons (pg_name (i := 3) sc_L_cut.nd rfl (Or.inl rfl)) pgs_nil))) (pss_cons (ps_set (i := 7) sc_L_cut.nd rfl (Or.inr rfl) (pe_ix (r := rIxL K) ix_list (pv 2) (pv 6) (fun _ _ => rfl)))
  (pss_cons (ps_set (i := 8) sc_L_cut.nd rfl (Or.inr rfl) (pe_ix (r := rIxL K) ix_list (pv 2) (pe_op op_mod (pe_op op_add (pv 6) pe_int) (pe_callB call_len_seq (by rfl) z_len b_len (pa_cons (pv 0) pa_nil))) (fun _ _ => rfl)))
  (C8.pss_cut (ps_if (pt_cmpR op_le (pv 7) pe_int (nomark _)) (pss_one (ps_expr (pe_bm PySem.F.plainAttrs_list PySem.F.slot_list_append PySem.F.type_list_append mt_append (pv 4) (pa_cons (pv 3) pa_nil)))) pss_nil)
  (C8.pss_cut (ps_if (pt_cmpR op_ge (pv 7) pe_int (nomark _)) (pss_one (ps_expr (pe_bm PySem.F.plainAttrs_list PySem.F.slot_list_append PySem.F.type_list_append mt_append (pv 5) (pa_cons (pv 3) pa_nil)))) pss_nil)
  (pss_one (ps_if (pt_cmpR op_lt (pe_op op_mulW (pv 7) (pv 8)) pe_int (nomark _)) (pss_cons (ps_set (i := 9) sc_L_cut.nd rfl (Or.inl rfl) (pe_ix (r := rIxL K) ix_list (pv 0) (pe_op op_mod (pe_op op_add (pv 6) pe_int) (pe_callB call_len_seq (by rfl) z_len b_len (pa_cons (pv 0) pa_nil))) (fun _ _ => rfl)))
  (pss_cons (ps_set (i := 10) sc_L_cut.nd rfl (Or.inl rfl) (C8.pe_c c_L_lowest hr (by omega) (by rfl) (pa_cons (pe_lc (own := [("_law_a", 11), ("_law_b", 12)]) (g := gTup K 2 (gCons (gName 11) (gCons (gName 12) gNil))) (tt := tYes) rfl sc_L_cut.nd (RZ.pi_zipA (by rfl) z_zip (pa_cons (pv 3) (pa_cons (pv 9) pa_nil))) (blkOk_by (own := [("_law_a", 11), ("_law_b", 12)]) (N := ["_law_hull", "_law_rule_here", "_law_some", "_law_corner", "_law_low", "_law_high", "_law_k", "_law_here", "_law_there", "_law_other", "_law_fresh", "_law_a", "_law_b"]) (sc := defScope s_L_cut) (by decide +kernel)) (fun _ _ _ _ _ => (pg_tup rfl (pgs_cons (pg_name (i := 11) sc_L_cut.nd rfl (Or.inl rfl)) (pgs_cons (pg_name (i := 12) sc_L_cut.nd rfl (Or.inl rfl)) pgs_nil)))) (fun _ _ _ _ _ => pts_nil) (fun _ _ _ _ _ => (pe_op op_add (pe_op op_mulW (pe_callB call_abs (by rfl) z_abs b_abs (pa_cons (pv 8) pa_nil)) (pv 11)) (pe_op op_mulW (pe_callB call_abs (by rfl) z_abs b_abs (pa_cons (pv 7) pa_nil)) (pv 12))))) pa_nil)))
  (pss_cons (ps_expr (pe_bm PySem.F.plainAttrs_list PySem.F.slot_list_append PySem.F.type_list_append mt_append (pv 4) (pa_cons (pv 10) pa_nil)))
  (pss_one (ps_expr (pe_bm PySem.F.plainAttrs_list PySem.F.slot_list_append PySem.F.type_list_append mt_append (pv 5) (pa_cons (pv 10) pa_nil))))))) pss_nil)))))))
  (pss_one (ps_ret (pe_tup (pa_cons (pv 4) (pa_cons (pv 5) pa_nil)))))))))), ?_⟩
  refine ⟨_, rfl, ha, rfl, ⟨_, hS⟩, fun D hD => lcL (K := K) (a := ha) (xs := cs) ((tells r h).map V.int) hD hS (by rw [tells_len, hlen]) (by rw [tells_len]; omega) (fun i x z H' hx hz s Q' hq => ?_) fun H1 s1 hT => ?_⟩
  · obtain ⟨k, hk, kx⟩ := Paired.at1 hP hx
    have hi : i < h.length := (List.getElem?_eq_some_iff.mp hk).1
    rw [tells_at hi] at hz
    rw [pt_lt hi] at hk
    cases hk
    refine ⟨_, rfl, _, rfl, y, x, r, pt h i, rfl, hY.mono s, kx.mono s, hr1000, ?_⟩
    have := hq H' (Same.refl _)
    rw [← Option.some.inj hz] at this
    exact this
  have hTl : SqL K H1 D ((tells r h).map V.int) := SqL.of hT
  have tl0 := tells_pos (r := r) len0
  obtain ⟨⟨k1, hk1, n1⟩, k2, hk2, n2⟩ := hC
  refine ⟨_, rfl, D, _, rfl, hTl, tl0, fun m _ hm => ?_⟩
  refine ⟨_, _, rfl, rfl, _, rfl, ?_⟩
  have m0 : ¬ (0 : Int) ≤ m := by
    have := hm _ (tells_mem.mpr ⟨k1, hk1, rfl⟩)
    omega
  rw [decide_eq_false m0]
  refine iteF ⟨_, rfl, D, _, rfl, hTl, tl0, fun m _ hm => ?_⟩
  refine ⟨_, _, rfl, rfl, _, rfl, ?_⟩
  have m1 : ¬ m ≤ (0 : Int) := by
    have := hm _ (tells_mem.mpr ⟨k2, hk2, rfl⟩)
    omega
  rw [decide_eq_false m1]
  refine iteF ?_
  refine ⟨Nat.zero_le _, fun L hL => ?_⟩
  refine ⟨Nat.zero_le _, fun G hG => ?_⟩
  have nLG : L ≠ G := ne_of_none upd_same hG
  have s2 : Same H1 (upd H1 L (.lst [])) := same_new hL _
  have s3 : Same H1 (upd (upd H1 L (.lst [])) G (.lst [])) := s2.trans (same_new hG _)
  have hL1 : H1 L = none := hL
  have hG1 : H1 G = none := s2.free hG
  refine ⟨_, rfl, ha, _, rfl, s3.seq (s1.seq hS), for_enum (K := K) (a := ha) (xs := cs) (fun i σ H' => ∃ x3 x6 x7 x8 x9 x10 ls gs, σ = [some (.ref ha), some y, some (.ref D), x3, some (.ref L), some (.ref G), x6, x7, x8, x9, x10, none, none] ∧ Same H1 H' ∧ H' L = some (.lst ls) ∧ H' G = some (.lst gs) ∧
      ls.length ≤ 2 * i ∧ gs.length ≤ 2 * i ∧ Paired (T3At K H') ls (lowTo r h i) ∧ Paired (T3At K H') gs (highTo r h i))
    ⟨none, none, none, none, none, none, [], [], rfl, s3, by rw [upd_ne nLG, upd_same], upd_same, Nat.le_refl _, Nat.le_refl _, .nil, .nil⟩ (fun i σ H' _ ⟨_, _, _, _, _, _, _, _, _, s, _⟩ => s.seq (s1.seq hS)) (fun i x Tp σ H' hx hp hTp => ?_) (fun σ H' hp => ?_)⟩
  · obtain ⟨x3, x6, x7, x8, x9, x10, ls, gs, rfl, s4, eL, eG, l1, l2, p1, p2⟩ := hp
    have sT := same_new hTp (.tup [.int (i : Nat), x])
    refine ⟨Tp, _, rfl, SqT.of upd_same, rfl, _, _, rfl, _, _, rfl, rfl, ?_⟩
    generalize upd H' Tp (.tup [.int (i : Nat), x]) = H4 at *
    replace s4 := s4.trans sT
    replace eL := sT _ _ eL
    replace eG := sT _ _ eG
    replace p1 := pm sT p1
    replace p2 := pm sT p2
    obtain ⟨k0, hk0, tx⟩ := Paired.at1 hP hx
    have hi' : i < h.length := (List.getElem?_eq_some_iff.mp hk0).1
    rw [pt_lt hi'] at hk0
    cases hk0
    have hCs : ∀ {H' : Hp}, Same H1 H' → SqL K H' ha cs := fun s => s.seq (s1.seq hS)
    have hTs : ∀ {H' : Hp}, Same H1 H' → SqL K H' D ((tells r h).map V.int) := fun s => s.seq hTl
    have tk1 : T3At K H1 x (pt h i) := tx.mono s1
    have hmod : ((i : Int) + 1) % (cs.length : Nat) = (((i + 1) % h.length : Nat) : Int) := by
      rw [hlen]
      simp
    have ha' : (i + 1) % h.length < h.length := Nat.mod_lt _ len0
    obtain ⟨xa, ea, ta⟩ := Paired.at2 hP (pt_lt ha')
    have pta : pt h ((i + 1) % h.length) = pt h (i + 1) := by
      unfold pt
      rw [Nat.mod_mod]
    rw [pta] at ta
    have ta1 : T3At K H1 xa (pt h (i + 1)) := ta.mono s1
    have tla : ((tells r h).map V.int)[(i + 1) % h.length]? = some (.int (tl r h (i + 1))) := by
      rw [tells_at ha']
      unfold tl
      rw [pta]
    have pos : (0 : Int) < (cs.length : Nat) := by omega
    refine ⟨_, rfl, _, rfl, D, _, _, _, rfl, rfl, hTs s4, at_of rfl (tells_at hi'), ?_⟩
    refine ⟨_, rfl, _, rfl, _, _, rfl, rfl, _, rfl, ha, cs, rfl, .inl (hCs s4), _, _, rfl, rfl, pos, D, _, _, _, rfl, rfl, hTs s4, at_of hmod tla, ?_⟩
    refine ⟨fun σ' H' => ∃ ls, σ' = [some (.ref ha), some y, some (.ref D), some x, some (.ref L), some (.ref G), some (.int i), some (.int (tl r h i)), some (.int (tl r h (i + 1))), x9, x10, none, none] ∧ Same H1 H' ∧ H' L = some (.lst ls) ∧ H' G = some (.lst gs) ∧
        ls.length ≤ 2 * i + 1 ∧ Paired (T3At K H') ls (lowTo r h i ++ if tl r h i ≤ 0 then [pt h i] else []) ∧ Paired (T3At K H') gs (highTo r h i), ?_, ?_⟩
    · refine ⟨_, rfl, _, _, rfl, rfl, _, rfl, ite2 (fun c => ?_) fun c => ?_⟩
      · have c' : tl r h i ≤ 0 := of_decide_eq_true c
        refine ⟨_, rfl, .inl ⟨rfl, _, SqL.of eL⟩, _, rfl, L, _, _, rfl, rfl, eL, small_line (by omega), ?_⟩
        refine ⟨_, rfl, same_mut s4 hL1, upd_same, by rw [upd_ne nLG.symm]; exact eG, ?_, ?_, pu p2 eL⟩
        · rw [List.length_append]
          show ls.length + 1 ≤ _
          omega
        · rw [if_pos c']
          exact Paired.snoc (pu p1 eL) ((tk1.mono s4).upd eL)
      · have c' : ¬ tl r h i ≤ 0 := of_decide_eq_false (Bool.eq_false_iff.mpr c)
        refine ⟨ls, rfl, s4, eL, eG, by omega, ?_, p2⟩
        rw [if_neg c', List.append_nil]
        exact p1
    · rintro σ' H5 ⟨ls5, rfl, s5, eL5, eG5, l5, p15, p25⟩
      refine ⟨fun σ' H' => ∃ gs, σ' = [some (.ref ha), some y, some (.ref D), some x, some (.ref L), some (.ref G), some (.int i), some (.int (tl r h i)), some (.int (tl r h (i + 1))), x9, x10, none, none] ∧ Same H1 H' ∧ H' L = some (.lst ls5) ∧ H' G = some (.lst gs) ∧
          gs.length ≤ 2 * i + 1 ∧ Paired (T3At K H') ls5 (lowTo r h i ++ if tl r h i ≤ 0 then [pt h i] else []) ∧ Paired (T3At K H') gs (highTo r h i ++ if 0 ≤ tl r h i then [pt h i] else []), ?_, ?_⟩
      · refine ⟨_, rfl, _, _, rfl, rfl, _, rfl, ite2 (fun c => ?_) fun c => ?_⟩
        · have c' : 0 ≤ tl r h i := of_decide_eq_true c
          refine ⟨_, rfl, .inl ⟨rfl, _, SqL.of eG5⟩, _, rfl, G, _, _, rfl, rfl, eG5, small_line (by omega), ?_⟩
          refine ⟨_, rfl, same_mut s5 hG1, by rw [upd_ne nLG]; exact eL5, upd_same, ?_, pu p15 eG5, ?_⟩
          · rw [List.length_append]
            show gs.length + 1 ≤ _
            omega
          · rw [if_pos c']
            exact Paired.snoc (pu p25 eG5) ((tk1.mono s5).upd eG5)
        · have c' : ¬ 0 ≤ tl r h i := of_decide_eq_false (Bool.eq_false_iff.mpr c)
          refine ⟨gs, rfl, s5, eL5, eG5, by omega, p15, ?_⟩
          rw [if_neg c', List.append_nil]
          exact p25
      · rintro σ' H6 ⟨gs6, rfl, s6, eL6, eG6, l6, p16, p26⟩
        have f1 := O.tl_lt hd hr32 (pt_mem len0 i)
        have f2 := O.tl_lt hd hr32 (pt_mem len0 (i + 1))
        have wm : CMulW (tl r h i) (tl r h (i + 1)) := by
          have g : ∀ {x : Int}, ab x < 2 ^ 3010 → x.natAbs < 2 ^ 3010 := fun {x} hx => by
            have e : ab x = (x.natAbs : Nat) := by unfold ab; split <;> omega
            rw [e] at hx
            have := nat_lt (Int.natCast_nonneg _) hx
            simpa using this
          exact wide_mul (g f1) (g f2) (by decide) (by decide) (by decide)
        refine ⟨_, rfl, _, rfl, _, _, rfl, rfl, wm, _, _, rfl, rfl, _, rfl, ite2 (fun c => ?_) fun c => ?_⟩
        · have c' : tl r h i * tl r h (i + 1) < 0 := of_decide_eq_true c
          refine ⟨_, rfl, _, rfl, _, _, rfl, rfl, _, rfl, ha, cs, rfl, .inl (hCs s6), _, _, rfl, rfl, pos, ha, cs, _, _, rfl, rfl, hCs s6, at_of hmod ea, ?_⟩
          have hu := O.fit hd (pt_mem len0 i)
          have hv := O.fit hd (pt_mem len0 (i + 1))
          have far0 := (ne_of_mul_neg c').2
          have mp := mixed_pos (near := tl r h i) hu hv far0
          have ml := mixed_lt (near := tl r h i) (far := tl r h (i + 1)) hu hv f1 f2
          have mn := mixed_nn (near := tl r h i) (far := tl r h (i + 1)) hu hv
          obtain ⟨ak, rfl, hk6⟩ := tk1.mono s6
          obtain ⟨aa, rfl, ha6⟩ := ta1.mono s6
          generalize em : mixed (pt h i) (pt h (i + 1)) (tl r h i) (tl r h (i + 1)) = m at *
          have emA : ab (tl r h (i + 1)) * (pt h i).a + ab (tl r h i) * (pt h (i + 1)).a = m.a := by rw [← em]; rfl
          have emB : ab (tl r h (i + 1)) * (pt h i).b + ab (tl r h i) * (pt h (i + 1)).b = m.b := by rw [← em]; rfl
          have emC : ab (tl r h (i + 1)) * (pt h i).c + ab (tl r h i) * (pt h (i + 1)).c = m.c := by rw [← em]; rfl
          refine ⟨_, rfl, _, rfl, ak, aa, _, _, rfl, .inr ⟨hk6, ha6, fun D2 hD2 => lcZ (K := K) (a := ak) (b := aa) (i0 := 11) (j0 := 12) (by decide) [.int m.a, .int m.b, .int m.c] hD2 hk6 ha6 rfl rfl (show 3 ≤ 100000 by decide) (fun j x y z H' hx hy hz s Q' hq => ?_) fun H7 s7 hd7 => ?_⟩⟩
          · match j, hx, hy, hz with
            | 0, hx, hy, hz =>
              cases hx
              cases hy
              cases hz
              refine ⟨_, rfl, _, rfl, _, rfl, _, _, rfl, rfl, wide_ab f2 (Int.le_of_lt hu.pos) hu.lt, _, rfl, _, rfl, _, rfl, _, _, rfl, rfl, wide_ab f1 (Int.le_of_lt hv.pos) hv.lt, _, _, rfl, rfl, ?_⟩
              have := hq H' (Same.refl _)
              rw [← emA] at this
              exact this
            | 1, hx, hy, hz =>
              cases hx
              cases hy
              cases hz
              refine ⟨_, rfl, _, rfl, _, rfl, _, _, rfl, rfl, wide_ab f2 hu.b.1 (Int.lt_of_le_of_lt hu.b.2 hu.lt), _, rfl, _, rfl, _, rfl, _, _, rfl, rfl, wide_ab f1 hv.b.1 (Int.lt_of_le_of_lt hv.b.2 hv.lt), _, _, rfl, rfl, ?_⟩
              have := hq H' (Same.refl _)
              rw [← emB] at this
              exact this
            | 2, hx, hy, hz =>
              cases hx
              cases hy
              cases hz
              refine ⟨_, rfl, _, rfl, _, rfl, _, _, rfl, rfl, wide_ab f2 hu.c.1 (Int.lt_of_le_of_lt hu.c.2 hu.lt), _, rfl, _, rfl, _, rfl, _, _, rfl, rfl, wide_ab f1 hv.c.1 (Int.lt_of_le_of_lt hv.c.2 hv.lt), _, _, rfl, rfl, ?_⟩
              have := hq H' (Same.refl _)
              rw [← emC] at this
              exact this
            | j + 3, hx, hy, hz => simp at hz
          refine ⟨D2, m, rfl, SqL.of hd7, mp, ml, mn.2.1, mn.2.2, fun z H8 s8 hz => ?_⟩
          have hz' : T3At K H8 z (mid (pt h i) (pt h (i + 1)) (tl r h i) (tl r h (i + 1))) := by
            unfold mid
            rw [em]
            exact hz
          have s78 := s7.trans s8
          have eL7 := s78 _ _ eL6
          have eG7 := s78 _ _ eG6
          refine ⟨_, rfl, .inl ⟨rfl, _, SqL.of eL7⟩, _, rfl, L, _, _, rfl, rfl, eL7, small_line (by omega), ?_⟩
          have eG8 : (upd H8 L (.lst (ls5 ++ [z]))) G = some (.lst gs6) := by
            rw [upd_ne nLG.symm]
            exact eG7
          refine ⟨_, rfl, .inl ⟨rfl, _, SqL.of eG8⟩, _, rfl, G, _, _, rfl, rfl, eG8, small_line (by omega), ?_⟩
          refine ⟨_, _, _, _, _, _, _, _, rfl, same_mut (same_mut (s6.trans s78) hL1) hG1, by rw [upd_ne nLG, upd_same], upd_same, ?_, ?_, ?_, ?_⟩
          · rw [List.length_append]
            show ls5.length + 1 ≤ _
            omega
          · rw [List.length_append]
            show gs6.length + 1 ≤ _
            omega
          · rw [lowTo_succ, if_pos c']
            exact pu (Paired.snoc (pu (pm s78 p16) eL7) (hz'.upd eL7)) eG8
          · rw [highTo_succ, if_pos c']
            exact Paired.snoc (pu (pu (pm s78 p26) eL7) eG8) ((hz'.upd eL7).upd eG8)
        · have c' : ¬ tl r h i * tl r h (i + 1) < 0 := of_decide_eq_false (Bool.eq_false_iff.mpr c)
          refine ⟨_, _, _, _, _, _, _, _, rfl, s6, eL6, eG6, by omega, by omega, ?_, ?_⟩
          · rw [lowTo_succ, if_neg c', List.append_nil]
            exact p16
          · rw [highTo_succ, if_neg c', List.append_nil]
            exact p26
  · obtain ⟨x3, x6, x7, x8, x9, x10, ls, gs, rfl, s4, eL, eG, l1, l2, p1, p2⟩ := hp
    rw [hlen] at p1 p2
    refine ⟨_, rfl, _, rfl, (by show 2 ≤ sizeLine; decide), fun p hp => ?_⟩
    have s5 := same_new hp (.tup [.ref L, .ref G])
    exact q _ _ ((s1.trans s4).trans s5) ⟨p, _, _, rfl, SqT.of upd_same, ⟨L, ls, rfl, SqL.of (s5 _ _ eL), pm s5 p1⟩, G, gs, rfl, SqL.of (s5 _ _ eG), pm s5 p2⟩
end
end K55

namespace K55
open PySem PySem.Spec PyProof.Rows L2
/-! ### rows as data -/
def keyD : Key → PyData
  | .inl i => .int i
  | .inr s => .str s
def rowD (k : Row) : PyData := .tuple (k.map keyD)
theorem eqv_key (a b : Key) : PyData.eqv (keyD a) (keyD b) = decide (a = b) := by
  cases a with
  | inl i =>
    cases b with
    | inl j =>
      show PyData.eqv (.int i) (.int j) = _
      simp only [PyData.eqv]
      rw [show (i == j) = decide (i = j) from rfl]
      exact decide_eq_decide.mpr ⟨fun h => by rw [h], fun h => Sum.inl.inj h⟩
    | inr t =>
      show PyData.eqv (.int i) (.str t) = _
      simp only [PyData.eqv]
      rfl
  | inr s =>
    cases b with
    | inl j =>
      show PyData.eqv (.str s) (.int j) = _
      simp only [PyData.eqv]
      rfl
    | inr t =>
      show PyData.eqv (.str s) (.str t) = _
      simp only [PyData.eqv]
      by_cases e : s = t
      · subst e
        simp
      · rw [show (s == t) = false from beq_eq_false_iff_ne.mpr e]
        exact (decide_eq_false fun h => e (Sum.inr.inj h)).symm
theorem eqv_keys : ∀ k j : Row, PyData.eqvAll (k.map keyD) (j.map keyD) = decide (k = j)
  | [], [] => by simp [PyData.eqvAll]
  | [], b :: j => by simp [PyData.eqvAll]
  | a :: k, [] => by simp [PyData.eqvAll]
  | a :: k, b :: j => by
    have ih := eqv_keys k j
    simp only [List.map_cons, PyData.eqvAll, eqv_key, ih]
    by_cases e : a = b
    · by_cases f : k = j
      · simp [e, f]
      · simp [e, f]
    · simp [e]
theorem eqv_row (k j : Row) : PyData.eqv (rowD k) (rowD j) = decide (k = j) := by
  unfold rowD
  simp only [PyData.eqv]
  exact eqv_keys k j
def RowOk (k : Row) : Prop := ∀ s, (Sum.inr s : Key) ∈ k → PyData.strOk s = true
theorem lay_keys : ∀ {k : Row}, RowOk k → PyData.canLayAll0 (k.map keyD) = true
  | [], _ => by simp [PyData.canLayAll0]
  | a :: k, h => by
    have ih := lay_keys (k := k) fun s hs => h s (List.mem_cons_of_mem _ hs)
    simp only [List.map_cons, PyData.canLayAll0, ih, Bool.and_true]
    cases a with
    | inl i => simp [keyD, PyData.canLay0]
    | inr s => simpa [keyD, PyData.canLay0] using h s (List.mem_cons_self ..)
theorem dep_keys : ∀ k : Row, PyData.depthAll (k.map keyD) = 0
  | [] => by simp [PyData.depthAll]
  | a :: k => by
    have ih := dep_keys k
    simp only [List.map_cons, PyData.depthAll, ih]
    cases a <;> simp [keyD, PyData.depth]
theorem row_shaped {k : Row} (h : RowOk k) : SeqAt.shaped (rowD k) = true := by
  unfold SeqAt.shaped rowD
  simp only [PyData.canLay0, PyData.depth, lay_keys h, dep_keys]
  decide
theorem rows_lay : ∀ {ks : List Row}, (∀ k, k ∈ ks → RowOk k) → PyData.canLayAll0 (ks.map rowD) = true ∧ PyData.depthAll (ks.map rowD) ≤ 1
  | [], _ => by simp [PyData.canLayAll0, PyData.depthAll]
  | a :: k, h => by
    have ih := rows_lay (ks := k) fun s hs => h s (List.mem_cons_of_mem _ hs)
    have ha := h a (List.mem_cons_self ..)
    simp only [List.map_cons, PyData.canLayAll0, PyData.depthAll, ih.1, Bool.and_true]
    unfold rowD
    simp only [PyData.canLay0, PyData.depth, lay_keys ha, dep_keys]
    refine ⟨True.intro, ?_⟩
    have := ih.2
    unfold rowD at this
    omega
theorem rows_shaped {ks : List Row} (h : ∀ k, k ∈ ks → RowOk k) : SeqAt.shaped (.list (ks.map rowD)) = true := by
  obtain ⟨a, b⟩ := rows_lay h
  unfold SeqAt.shaped
  simp only [PyData.canLay0, PyData.depth, a, Bool.true_and]
  exact decide_eq_true (by omega)
theorem dp_keys {K : PySem.W.Frag} {H : Hp} : ∀ k : Row, DpAll K H (k.map kV) (k.map keyD)
  | [] => .nil
  | a :: k => .cons (by cases a with | inl i => exact .int i | inr s => exact .str s) (dp_keys k)
theorem RowAt.dp {K : PySem.W.Frag} {H : Hp} {v : V} {k : Row} (h : RowAt H v k) : Dp K H v (rowD k) := by
  obtain ⟨a, rfl, ha⟩ := h
  exact .tup (SqT.of ha) (dp_keys k)
theorem dp_rows {K : PySem.W.Frag} {H : Hp} {rs : List V} {ks : List Row} (h : Paired (RowAt H) rs ks) : DpAll K H rs (ks.map rowD) := by
  induction h with
  | nil => exact .nil
  | cons r _ ih => exact .cons r.dp ih
theorem any_rows (k : Row) : ∀ ks : List Row, ((ks.map rowD).any fun z => PyData.eqv z (rowD k)) = decide (k ∈ ks)
  | [] => by simp
  | a :: ks => by
    have ih := any_rows k ks
    rw [List.map_cons, List.any_cons, ih, eqv_row]
    by_cases e : a = k
    · simp [e]
    · have e' : ¬ k = a := fun h => e h.symm
      simp [e, e']
theorem idx_first {k : Row} : ∀ {ks : List Row} {m : Nat} {x : Row}, m < ks.idxOf k → ks[m]? = some x → x ≠ k
  | [], m, x, h, _ => absurd h (Nat.not_lt_zero _)
  | a :: ks, m, x, h, e => by
    rw [List.idxOf_cons] at h
    by_cases c : a = k
    · subst c
      simp at h
    · rw [show (a == k) = false from beq_eq_false_iff_ne.mpr c] at h
      cases m with
      | zero =>
        cases e
        exact c
      | succ m => exact idx_first (by simpa using h) (by simpa using e)
theorem idx_get {k : Row} {ks : List Row} (h : k ∈ ks) : ks[ks.idxOf k]? = some k := by
  have hl := List.idxOf_lt_length_of_mem h
  rw [List.getElem?_eq_getElem hl, List.getElem_idxOf]
/-! ### the rows of a tree, its parts first -/
def encTo (cs : List Tr) (ks : List Row) : List Row × List Nat := cs.foldl (fun r c => ((encPut c r.1).1, r.2 ++ [(encPut c r.1).2])) (ks, [])
theorem encTo_snoc (cs : List Tr) (c : Tr) (ks : List Row) : encTo (cs ++ [c]) ks = ((encPut c (encTo cs ks).1).1, (encTo cs ks).2 ++ [(encPut c (encTo cs ks).1).2]) := by
  unfold encTo
  rw [List.foldl_append]
  rfl
def rowK (t : Tr) (ns : List Nat) : Row := .inr t.word :: ns.map fun (n : Nat) => Sum.inl (n : Int)
theorem encPut_kids (t : Tr) (ks : List Row) : encPut t ks = (intern (encTo (kids t) ks).1 (rowK t (encTo (kids t) ks).2), (intern (encTo (kids t) ks).1 (rowK t (encTo (kids t) ks).2)).idxOf (rowK t (encTo (kids t) ks).2)) := by
  cases t <;> rfl
theorem rowK_v (t : Tr) (ns : List Nat) : (rowK t ns).map kV = .str t.word :: ns.map fun (n : Nat) => V.int (n : Nat) := by
  unfold rowK
  rw [List.map_cons, List.map_map]
  rfl
theorem wd_ok : ∀ v : Wd, PyData.strOk v.str = true := fun v => by cases v <;> decide +kernel
theorem rowK_ok (t : Tr) (ns : List Nat) : RowOk (rowK t ns) := fun s hs => by
  rcases List.mem_cons.mp hs with h | h
  · rw [Sum.inr.inj h]
    cases t with
    | fold v a b => exact wd_ok v
    | neg a => show PyData.strOk "not" = true; decide +kernel
    | _ => decide +kernel
  · obtain ⟨n, _, e⟩ := List.mem_map.mp h
    cases e
theorem encTo_len {t : Tr} {ks : List Row} : ∀ {i : Nat} {c : Tr}, (kids t)[i]? = some c → (encTo ((kids t).take i) ks).1.length + c.size ≤ ks.length + t.size ∧ (encTo ((kids t).take i) ks).2.length ≤ 2 := by
  intro i c h
  cases t with
  | neg a =>
    match i, h with
    | 0, h => cases h; exact ⟨by show ks.length + c.size ≤ ks.length + (c.size + 1); omega, Nat.zero_le _⟩
    | i + 1, h => simp [kids] at h
  | fold v a b =>
    match i, h with
    | 0, h => cases h; exact ⟨by show ks.length + c.size ≤ ks.length + (c.size + b.size + 1); omega, Nat.zero_le _⟩
    | 1, h =>
      cases h
      have := encPut_len a ks
      exact ⟨by show (encPut a ks).1.length + c.size ≤ ks.length + (a.size + c.size + 1); omega, by show 1 ≤ 2; decide⟩
    | i + 2, h => simp [kids] at h
  | _ => simp [kids] at h
theorem encTo_all (t : Tr) (ks : List Row) : (encTo (kids t) ks).1.length ≤ ks.length + t.size ∧ (encTo (kids t) ks).2.length = (kids t).length := by
  cases t with
  | neg a =>
    have := encPut_len a ks
    exact ⟨by show (encPut a ks).1.length ≤ ks.length + (a.size + 1); omega, rfl⟩
  | fold v a b =>
    have := encPut_len a ks
    have := encPut_len b (encPut a ks).1
    exact ⟨by show (encPut b (encPut a ks).1).1.length ≤ ks.length + (a.size + b.size + 1); omega, rfl⟩
  | _ => exact ⟨Nat.le_add_right _ _, rfl⟩
/-- a list of rows at R -/
def RL (H : Hp) (R : Addr) (ks : List Row) : Prop := ∃ rs, H R = some (.lst rs) ∧ Paired (RowAt H) rs ks ∧ ∀ k, k ∈ ks → RowOk k
theorem RL.mono {H H' : Hp} {R : Addr} {ks : List Row} (e : Same H H') (h : RL H R ks) : RL H' R ks := by
  obtain ⟨rs, h1, h2, h3⟩ := h
  exact ⟨rs, e _ _ h1, Paired.map1 h2 fun _ _ => RowAt.mono e, h3⟩
theorem RL.keep {H H' : Hp} {R : Addr} {ks : List Row} (h : RL H R ks) (f : Fr1 R H H') : Keep H H' := by
  obtain ⟨rs, h1, _⟩ := h
  exact ⟨fun b C dx fs e => f b _ e (ne_of e h1 fun z => by cases z), fun b xs e => f b _ e (ne_of e h1 fun z => by cases z)⟩
theorem RL.upd {H : Hp} {R D : Addr} {ks : List Row} {xs ys : List V} (h : RL H R ks) (hD : H D = some (.lst xs)) (n : R ≠ D) : RL (L2.upd H D (.lst ys)) R ks := by
  obtain ⟨rs, h1, h2, h3⟩ := h
  exact ⟨rs, by rw [upd_ne n]; exact h1, Paired.map1 h2 fun _ _ x => x.keep (Keep.lst hD), h3⟩
theorem RL.dp {K : PySem.W.Frag} {H : Hp} {R : Addr} {ks : List Row} (h : RL H R ks) : Dp K H (.ref R) (.list (ks.map rowD)) := by
  obtain ⟨rs, h1, h2, _⟩ := h
  exact .lst (SqL.of h1) (dp_rows h2)
section
variable {P : Program} {w : World} {K : PySem.W.Frag} {mg : Str → Option Value} {base : Heap}
def spRowsTo (n : Nat) : Sp := fun vs H Q _ => ∃ v R t ks, vs = [v, .ref R] ∧ TrAt H v t ∧ t.size ≤ n ∧ RL H R ks ∧ ks.length + t.size ≤ 500 ∧ ∀ H', Fr1 R H H' → RL H' R (encPut t ks).1 → Q (.int ((encPut t ks).2 : Nat)) H'
theorem c_L_rows_to (T : Txt w K mg) : ∀ n : Nat, C8.Cal P w K mg base (n + 1) "_law_rows_to" (spRowsTo n) []
  | 0 => T.cal_L_rows_to fun fd F => fn_none fun vs H Q E h => by
    obtain ⟨v, R, t, ks, _, _, h, _⟩ := h
    have := t.size_pos
    omega
  | n + 1 => T.cal_L_rows_to fun fd F => by
    have c_L_rows_to := c_L_rows_to T n
    have z_tuple := T.z_tuple
    refine fnD_ok F sc_L_rows_to (fun vs H Q E h => ?_) (fun cdv A outer s H vs Q E hr h => ?_)
    · obtain ⟨v, R, t, ks, rfl, _⟩ := h
      rfl
    obtain ⟨v, R, t, ks, rfl, hv, hn, hR, h500, q⟩ := h
    refine ⟨_, (pss_cons (ps_setLc (i := 2) (own := [("_law_part", 3)]) (g := gName 3) (tt := tYes) rfl sc_L_rows_to.nd rfl rfl (sw_true rfl rfl rfl (by decide +kernel)) (pi_tup (pe_slice sl_tup (pv 0) (po_some pe_int) po_none)) (blkOk_by (own := [("_law_part", 3)]) (N := ["_law_tree", "_law_rows", "_law_places", "_law_part", "_law_row"]) (sc := defScope s_L_rows_to) (by decide +kernel)) (fun _ _ _ _ _ => (pg_name (i := 3) sc_L_rows_to.nd rfl (Or.inl rfl))) (fun _ _ _ _ _ => pts_nil) (fun _ _ _ _ _ => (C8.pe_c c_L_rows_to hr (by omega) (by rfl) (pa_cons (pv 3) (pa_cons (pv 1) pa_nil)))))
  (C8.pss_cut (ps_set (i := 4) sc_L_rows_to.nd rfl (Or.inl rfl) (pe_op op_catT (pe_tup (pa_cons (pe_ix (r := rIxT K) ix_tup (pv 0) pe_int (fun _ _ => rfl)) pa_nil)) (pe_callTy call_tuple_of (by rfl) z_tuple b_tuple (pa_cons (pv 2) pa_nil))))
  (C8.pss_cut (ps_if (pt_cmpR (op_notInD (hu65 hr)) (pv 4) (pv 1) (by rfl)) (pss_one (ps_expr (pe_bm PySem.F.plainAttrs_list PySem.F.slot_list_append PySem.F.type_list_append mt_append (pv 1) (pa_cons (pv 4) pa_nil)))) pss_nil)
  (pss_one (ps_ret (pe_bm PySem.F.plainAttrs_list PySem.F.slot_list_index PySem.F.type_list_index (mt_indexD (hu65 hr)) (pv 1) (pa_cons (pv 4) pa_nil))))))), ?_⟩
    obtain ⟨a, us, rfl, ha, hU⟩ := id hv.parts
    have hT : SqT K H a (.str t.word :: us) := SqT.of ha
    rw [encPut_kids] at q
    refine ⟨_, rfl, 1, rfl, a, _, rfl, hT, cut1_part _ _, fun p hp => ?_⟩
    rw [cut1]
    have s1 := same_new hp (.tup us)
    have hR1 := hR.mono s1
    have hp1 : (upd H p (.tup us)) p = some (.tup us) := upd_same
    have hU1 : Paired (TrAt (upd H p (.tup us))) us (kids t) := Paired.map1 hU fun _ _ => TrAt.mono s1
    generalize upd H p (.tup us) = H1 at *
    refine ⟨p, rfl, ⟨_, SqT.of hp1⟩, fun D hD => ?_⟩
    obtain ⟨rs1, eR1, _⟩ := id hR1
    have nRD : R ≠ D := ne_of_none eR1 hD
    have npR : p ≠ R := ne_of hp1 eR1 fun z => by cases z
    refine lc_tup (K := K) (a := p) (xs := us) (fun i H' => Fr1 R H1 H' ∧ RL H' R (encTo ((kids t).take i) ks).1 ∧ H' D = some (.lst ((encTo ((kids t).take i) ks).2.map fun (n : Nat) => V.int (n : Nat))))
      ⟨Fr1.of (same_new hD _), hR1.mono (same_new hD _), upd_same⟩ (fun i H' _ hp => SqT.of (hp.1 _ _ hp1 npR)) (fun i x H' hx hp => ?_) fun H' hp => ?_
    · obtain ⟨f, r, e⟩ := hp
      obtain ⟨c, hc, cx⟩ := Paired.at1 hU1 hx
      obtain ⟨l1, l2⟩ := encTo_len (ks := ks) hc
      have sk := kid_size (List.mem_of_getElem? hc)
      refine ⟨wipe1 _ _ _, _, rfl, _, rfl, x, R, c, _, rfl, cx.keep (hR1.keep f), by omega, r, by omega, fun H4 f4 r4 => ?_⟩
      have e4 := f4 _ _ e nRD.symm
      refine ⟨_, e4, ?_, fun b o h n => ?_, ?_, ?_⟩
      · rw [List.length_map]
        exact small_line (by omega)
      · rw [upd_ne (ne_of_none h hD)]
        exact (f.trans f4) b o h n
      · rw [take_snoc hc, encTo_snoc]
        exact r4.upd e4 nRD
      · rw [upd_same, take_snoc hc, encTo_snoc, List.map_append]
        rfl
    · obtain ⟨f, r, e⟩ := hp
      have lk : us.length = (kids t).length := hU.length
      rw [lk, List.take_length] at r e
      obtain ⟨b1, b2⟩ := encTo_all t ks
      generalize encTo (kids t) ks = rr at *
      have f0 : Fr1 R H H' := (Fr1.of s1).trans f
      have neR : a ≠ R := by
        obtain ⟨_, eR, _⟩ := hR
        exact ne_of ha eR fun z => by cases z
      have ha' : H' a = some (.tup (.str t.word :: us)) := f0 _ _ ha neR
      refine ⟨fun σ' H2 => ∃ x3 b, σ' = [some (.ref a), some (.ref R), some (.ref D), x3, some (.ref b)] ∧ Fr1 R H H2 ∧ RL H2 R rr.1 ∧ H2 b = some (.tup ((rowK t rr.2).map kV)), ?_, ?_⟩
      · refine ⟨_, rfl, a, _, _, _, rfl, rfl, SqT.of ha', at_of (j := 0) rfl rfl, (by show 1 ≤ sizeLine; decide), fun p1 hp1 => ?_⟩
        have s2 := same_new hp1 (.tup [.str t.word])
        refine ⟨_, rfl, D, _, rfl, .inl ⟨SqL.of (s2 _ _ e), fun p2 hp2 => ?_⟩⟩
        have s3 := same_new hp2 (.tup (rr.2.map fun (n : Nat) => V.int (n : Nat)))
        refine ⟨p1, p2, _, _, rfl, rfl, SqT.of (s3 _ _ upd_same), SqT.of upd_same, (by simp), ?_, fun e0 => ?_, fun _ p3 hp3 => ?_⟩
        · rw [List.length_map, b2]
          have := kids_len t
          exact Nat.le_of_lt (small_line (by show 1 + _ ≤ _; omega))
        · refine ⟨_, p1, rfl, f0.trans (Fr1.of (s2.trans s3)), r.mono (s2.trans s3), ?_⟩
          have z := s3 p1 (.tup [.str t.word]) upd_same
          rw [rowK_v]
          rw [e0] at z ⊢
          exact z
        · have s4 := same_new hp3 (.tup ([V.str t.word] ++ rr.2.map fun (n : Nat) => V.int (n : Nat)))
          refine ⟨_, p3, rfl, f0.trans (Fr1.of ((s2.trans s3).trans s4)), r.mono ((s2.trans s3).trans s4), ?_⟩
          rw [rowK_v, upd_same]
          rfl
      rintro σ' H2 ⟨x3, b, rfl, f2, r2, hb⟩
      generalize ek : rowK t rr.2 = k at *
      have ok : RowOk k := by rw [← ek]; exact rowK_ok _ _
      have rb : RowAt H2 (.ref b) k := ⟨b, rfl, hb⟩
      refine ⟨fun σ' H3 => σ' = [some (.ref a), some (.ref R), some (.ref D), x3, some (.ref b)] ∧ Fr1 R H H3 ∧ RL H3 R (intern rr.1 k) ∧ RowAt H3 (.ref b) k, ?_, ?_⟩
      · refine ⟨_, rfl, _, rfl, rowD k, rr.1.map rowD, rb.dp, r2.dp, row_shaped ok, rows_shaped (by obtain ⟨_, _, _, h⟩ := r2; exact h), ?_⟩
        rw [any_rows]
        refine ⟨_, rfl, ?_⟩
        by_cases c : k ∈ rr.1
        · rw [decide_eq_true c]
          refine iteF ⟨rfl, f2, ?_, rb⟩
          rw [show intern rr.1 k = rr.1 from if_pos c]
          exact r2
        · rw [decide_eq_false c]
          obtain ⟨rs, eR, pR, oR⟩ := r2
          have hl : rs.length = rr.1.length := pR.length
          refine iteT ⟨_, rfl, .inl ⟨rfl, _, SqL.of eR⟩, _, rfl, R, _, _, rfl, rfl, eR, small_line (by omega), ?_⟩
          refine ⟨rfl, fun b o h n => ?_, ?_, rb.keep (Keep.lst eR)⟩
          · rw [upd_ne n]
            exact f2 b o h n
          · rw [show intern rr.1 k = rr.1 ++ [k] from if_neg c]
            refine ⟨_, upd_same, Paired.snoc (Paired.map1 pR fun _ _ x => x.keep (Keep.lst eR)) (rb.keep (Keep.lst eR)), fun j hj => ?_⟩
            rcases List.mem_append.mp hj with h | h
            · exact oR j h
            · rw [List.mem_singleton.mp h]
              exact ok
      rintro σ' H3 ⟨rfl, f3, r3, rb3⟩
      obtain ⟨rs3, eR3, _, oR3⟩ := id r3
      have mk : k ∈ intern rr.1 k := by
        unfold intern
        split
        · assumption
        · exact List.mem_append_right _ (List.mem_singleton.mpr rfl)
      refine ⟨_, rfl, .inl ⟨rfl, _, SqL.of eR3⟩, _, rfl, R, .ref b, rowD k, (intern rr.1 k).map rowD, (intern rr.1 k).idxOf k, rowD k, rfl, rfl, r3.dp, rb3.dp, rows_shaped oR3, row_shaped ok, ?_, ?_, fun m z' hm hz => ?_, q H3 f3 r3⟩
      · rw [List.getElem?_map, idx_get mk]
        rfl
      · rw [eqv_row]
        exact decide_eq_true rfl
      · rw [List.getElem?_map] at hz
        obtain ⟨j, hj, ej⟩ := Option.map_eq_some_iff.mp hz
        rw [← ej, eqv_row]
        exact decide_eq_false (idx_first hm hj)
end
end K55

namespace K55
open PySem PySem.Spec PyProof.Rows L2
/-! ### dicts that are written out -/
theorem val1 (k : Key) (a : V) : valV (mergeK [] [(k, a)]) k = some a := by
  show valV (putK [] k a) k = some a
  rw [valV_put, if_pos rfl]
theorem val2 {k l : Key} (h : k ≠ l) (a b : V) : valV (mergeK [] [(k, a), (l, b)]) k = some a ∧ valV (mergeK [] [(k, a), (l, b)]) l = some b := by
  show valV (putK (putK [] k a) l b) k = some a ∧ valV (putK (putK [] k a) l b) l = some b
  rw [valV_put, valV_put, valV_put, if_neg h, if_pos rfl, if_pos rfl]
  exact ⟨rfl, rfl⟩
theorem val4 (a b c d : V) : valV (mergeK [] [((.inr "never" : Key), a), (.inr "always", b), (.inr "p", c), (.inr "q", d)]) (.inr "never") = some a ∧ valV (mergeK [] [((.inr "never" : Key), a), (.inr "always", b), (.inr "p", c), (.inr "q", d)]) (.inr "always") = some b ∧
    valV (mergeK [] [((.inr "never" : Key), a), (.inr "always", b), (.inr "p", c), (.inr "q", d)]) (.inr "p") = some c ∧ valV (mergeK [] [((.inr "never" : Key), a), (.inr "always", b), (.inr "p", c), (.inr "q", d)]) (.inr "q") = some d := by
  have e : ∀ k : Key, valV (mergeK [] [((.inr "never" : Key), a), (.inr "always", b), (.inr "p", c), (.inr "q", d)]) k = if k = .inr "q" then some d else if k = .inr "p" then some c else if k = .inr "always" then some b else if k = .inr "never" then some a else valV ([] : List (Key × V)) k := fun k => by
    show valV (putK (putK (putK (putK [] (.inr "never") a) (.inr "always") b) (.inr "p") c) (.inr "q") d) k = _
    rw [valV_put, valV_put, valV_put, valV_put]
  refine ⟨?_, ?_, ?_, ?_⟩
  · rw [e, if_neg (by decide +kernel), if_neg (by decide +kernel), if_neg (by decide +kernel), if_pos rfl]
  · rw [e, if_neg (by decide +kernel), if_neg (by decide +kernel), if_pos rfl]
  · rw [e, if_neg (by decide +kernel), if_pos rfl]
  · rw [e, if_pos rfl]
theorem dgetK {H : Hp} {a : Addr} {kvs : List (Key × V)} {x : Str} {u : V} (e : H a = some (.dK kvs)) (h : valV kvs (.inr x) = some u) : DGet H a (.str x) (some u) := by
  have := DGet.k (k := .inr x) e
  rw [h] at this
  exact this
theorem T3.ext3 {r s : T3} (a : r.a = s.a) (b : r.b = s.b) (c : r.c = s.c) : r = s := by
  cases r
  cases s
  cases a
  cases b
  cases c
  rfl
theorem sum_one (r s : T3) : (⟨r.a + 1 * s.a, r.b + 1 * s.b, r.c + 1 * s.c⟩ : T3) = r.add s := by
  simp only [Int.one_mul]
  rfl
theorem sum_neg (r s : T3) : (⟨r.a + -1 * s.a, r.b + -1 * s.b, r.c + -1 * s.c⟩ : T3) = r.sub s := by
  refine T3.ext3 ?_ ?_ ?_
  · show r.a + -1 * s.a = r.a - s.a; omega
  · show r.b + -1 * s.b = r.b - s.b; omega
  · show r.c + -1 * s.c = r.c - s.c; omega
theorem lead_low (r s : T3) : T3.one.add (s.sub r) = (T3.one.add s).sub r := by
  refine T3.ext3 ?_ ?_ ?_
  · show 0 + (s.a - r.a) = 0 + s.a - r.a; omega
  · show 0 + (s.b - r.b) = 0 + s.b - r.b; omega
  · show 1 + (s.c - r.c) = 1 + s.c - r.c; omega
/-- the two ways of a fold -/
def WaysAt (K : PySem.W.Frag) (H : Hp) (v : Wd) (r s : T3) (zt zw : V) : Prop := ∃ D kvs p x y, zw = .ref D ∧ H D = some (.dK kvs) ∧ valV kvs (.inr v.str) = some (.ref p) ∧ SqT K H p [x, y] ∧ T3At K H x (v.low r s) ∧ T3At K H y (v.high r s) ∧ T3At K H zt (v.test r s)
theorem WaysAt.mono {K : PySem.W.Frag} {H H' : Hp} {v : Wd} {r s : T3} {zt zw : V} (e : Same H H') (h : WaysAt K H v r s zt zw) : WaysAt K H' v r s zt zw := by
  obtain ⟨D, kvs, p, x, y, h1, h2, h3, h4, h5, h6, h7⟩ := h
  exact ⟨D, kvs, p, x, y, h1, e _ _ h2, h3, sqt e h4, h5.mono e, h6.mono e, h7.mono e⟩
theorem T3At.keepD {K : PySem.W.Frag} {H : Hp} {v : V} {r : T3} {L : Addr} {ys : List (Key × V)} {o : HO} (h : T3At K H v r) (hL : H L = some (.dK ys)) : T3At K (L2.upd H L o) v r := by
  obtain ⟨a, e, h1⟩ := h
  refine ⟨a, e, ?_⟩
  rcases h1 with (h1 | ⟨ob, h1⟩) | h1
  · exact .inl (.inl (by rw [upd_ne (ne_of h1 hL (fun z => by cases z))]; exact h1))
  · exact .inl (.inr ⟨ob, by rw [upd_ne (ne_of h1 hL (fun z => by cases z))]; exact h1⟩)
  · exact .inr h1
theorem same_late {H0 H' : Hp} {p : Addr} {o : HO} (e : Same H0 H') (h : H0 p = none) : Same H0 (upd H' p o) := same_mut e h
section
variable {P : Program} {w : World} {K : PySem.W.Frag} {mg : Str → Option Value} {base : Heap}
def spLRule (K : PySem.W.Frag) : Sp := fun vs H Q _ => ∃ x G hv t us h r L, vs = [x, .ref G, hv] ∧ RowAt H x (Tr.enc (ix L) t) ∧ SqL K H G us ∧ (∀ c, c ∈ kids t → ∃ u r, us[ix L c]? = some u ∧ c.rule h = some r ∧ T3At K H u r ∧ c.size ≤ 400) ∧ t.rule h = some r ∧ HullAt K H hv h ∧ 0 < h.length ∧ h.length ≤ 2000 ∧
  ∀ z H', Same H H' → (∃ p u, z = .ref p ∧ SqT K H' p [u, .non] ∧ T3At K H' u r) → Q z H'
theorem c_L_rule (T : Txt w K mg) : C8.Cal P w K mg base 2 "_law_rule" (spLRule K) [] := T.cal_L_rule fun fd F => by
  have c_L_sum := c_L_sum (P := P) (base := base) T
  have c_L_tells := c_L_tells (P := P) (base := base) T
  have z_len := T.z_len
  have z_min := T.z_min
  have z_max := T.z_max
  refine fnD_ok F sc_L_rule (fun vs H Q E h => ?_) (fun cdv A outer s H vs Q E hr h => ?_)
  · obtain ⟨x, G, hv, t, us, h, r, L, rfl, _⟩ := h
    rfl
  obtain ⟨x, G, hv, t, us, h, r, L, rfl, ⟨a, rfl, ha⟩, hG, hk, er, hH, h0, h2000, q⟩ := h
  refine ⟨_, (pss_cons (ps_if (pt_cmpR op_eq (pe_callB call_len_seq (by rfl) z_len b_len (pa_cons (pv 0) pa_nil)) pe_int (nomark _)) (pss_cons (ps_set (i := 3) sc_L_rule.nd rfl (Or.inl rfl) (pe_disp (pps_cons pe_str (pe_tup (pa_cons pe_int (pa_cons pe_int (pa_cons pe_int pa_nil)))) (pps_cons pe_str (pe_tup (pa_cons pe_int (pa_cons pe_int (pa_cons pe_int pa_nil)))) (pps_cons pe_str (pe_tup (pa_cons pe_int (pa_cons pe_int (pa_cons pe_int pa_nil)))) (pps_cons pe_str (pe_tup (pa_cons pe_int (pa_cons pe_int (pa_cons pe_int pa_nil)))) pps_nil)))) (by rfl) (by rfl) (fun z => by cases z) (by decide)))
  (pss_one (ps_ret (pe_tup (pa_cons (pe_dget (hu_of hr) (pv 3) (pe_ix (r := rIxT K) ix_tup (pv 0) pe_int (fun _ _ => rfl)) (fun _ _ => rfl)) (pa_cons pe_non pa_nil)))))) pss_nil)
  (pss_cons (ps_set (i := 4) sc_L_rule.nd rfl (Or.inl rfl) (pe_ix (r := rIxL K) ix_list (pv 1) (pe_ix (r := rIxT K) ix_tup (pv 0) pe_int (fun _ _ => rfl)) (fun _ _ => rfl)))
  (pss_cons (ps_if (pt_cmpR op_eq (pe_callB call_len_seq (by rfl) z_len b_len (pa_cons (pv 0) pa_nil)) pe_int (nomark _)) (pss_one (ps_ret (pe_tup (pa_cons (C8.pe_c c_L_sum hr (by omega) (by rfl) (pa_cons (pe_tup (pa_cons pe_int (pa_cons pe_int (pa_cons pe_int pa_nil)))) (pa_cons (pv 4) (pa_cons (pe_un un_neg pe_int) pa_nil)))) (pa_cons pe_non pa_nil))))) pss_nil)
  (pss_cons (ps_set (i := 5) sc_L_rule.nd rfl (Or.inl rfl) (pe_ix (r := rIxL K) ix_list (pv 1) (pe_ix (r := rIxT K) ix_tup (pv 0) pe_int (fun _ _ => rfl)) (fun _ _ => rfl)))
  (pss_cons (ps_set (i := 6) sc_L_rule.nd rfl (Or.inr rfl) (C8.pe_c c_L_sum hr (by omega) (by rfl) (pa_cons (C8.pe_c c_L_sum hr (by omega) (by rfl) (pa_cons (pv 4) (pa_cons (pv 5) (pa_cons pe_int pa_nil)))) (pa_cons (pe_tup (pa_cons pe_int (pa_cons pe_int (pa_cons pe_int pa_nil)))) (pa_cons (pe_un un_neg pe_int) pa_nil)))))
  (pss_cons (ps_set (i := 7) sc_L_rule.nd rfl (Or.inl rfl) (pe_disp (pps_cons pe_str (pe_tup (pa_cons (C8.pe_c c_L_sum hr (by omega) (by rfl) (pa_cons (pv 4) (pa_cons (pv 5) (pa_cons pe_int pa_nil)))) (pa_cons (pe_tup (pa_cons pe_int (pa_cons pe_int (pa_cons pe_int pa_nil)))) pa_nil))) (pps_cons pe_str (pe_tup (pa_cons (pe_tup (pa_cons pe_int (pa_cons pe_int (pa_cons pe_int pa_nil)))) (pa_cons (pv 6) pa_nil))) pps_nil)) (by rfl) (by rfl) (fun z => by cases z) (by decide)))
  (C8.pss_cut (ps_if (pt_cmpR op_in_seq (pe_ix (r := rIxT K) ix_tup (pv 0) pe_int (fun _ _ => rfl)) (pe_tup (pa_cons pe_str (pa_cons pe_str pa_nil))) (by rfl)) (pss_cons (ps_set (i := 6) sc_L_rule.nd rfl (Or.inr rfl) (C8.pe_c c_L_sum hr (by omega) (by rfl) (pa_cons (pv 4) (pa_cons (pv 5) (pa_cons (pe_un un_neg pe_int) pa_nil)))))
  (pss_one (ps_set (i := 7) sc_L_rule.nd rfl (Or.inl rfl) (pe_disp (pps_cons pe_str (pe_tup (pa_cons (pv 5) (pa_cons (pv 4) pa_nil))) (pps_cons pe_str (pe_tup (pa_cons (pv 4) (pa_cons (pv 5) pa_nil))) pps_nil)) (by rfl) (by rfl) (fun z => by cases z) (by decide))))) pss_nil)
  (C8.pss_cut (ps_if (pt_cmpR op_eq (pe_ix (r := rIxT K) ix_tup (pv 0) pe_int (fun _ _ => rfl)) pe_str (nomark _)) (pss_cons (ps_set (i := 6) sc_L_rule.nd rfl (Or.inr rfl) (C8.pe_c c_L_sum hr (by omega) (by rfl) (pa_cons (pv 5) (pa_cons (pv 4) (pa_cons (pe_un un_neg pe_int) pa_nil)))))
  (pss_one (ps_set (i := 7) sc_L_rule.nd rfl (Or.inl rfl) (pe_disp (pps_cons pe_str (pe_tup (pa_cons (C8.pe_c c_L_sum hr (by omega) (by rfl) (pa_cons (pe_tup (pa_cons pe_int (pa_cons pe_int (pa_cons pe_int pa_nil)))) (pa_cons (pv 6) (pa_cons pe_int pa_nil)))) (pa_cons (pe_tup (pa_cons pe_int (pa_cons pe_int (pa_cons pe_int pa_nil)))) pa_nil))) pps_nil) (by rfl) (by rfl) (fun z => by cases z) (by decide))))) pss_nil)
  (pss_cons (ps_setLc (i := 8) (own := [("_law_corner", 9)]) (g := gName 9) (tt := tYes) rfl sc_L_rule.nd rfl rfl (sw_true rfl rfl rfl (by decide +kernel)) (pi_list (pv 2)) (blkOk_by (own := [("_law_corner", 9)]) (N := ["_law_row", "_law_rules_here", "_law_hull", "_law_known", "_law_one", "_law_other", "_law_test", "_law_ways", "_law_some", "_law_corner"]) (sc := defScope s_L_rule) (by decide +kernel)) (fun _ _ _ _ _ => (pg_name (i := 9) sc_L_rule.nd rfl (Or.inl rfl))) (fun _ _ _ _ _ => pts_nil) (fun _ _ _ _ _ => (C8.pe_c c_L_tells hr (by omega) (by rfl) (pa_cons (pv 6) (pa_cons (pv 9) pa_nil)))))
  (pss_cons (ps_if (pt_cmpR op_le (pe_callB (cr_max rfl) (by rfl) z_max b_max (pa_cons (pv 8) pa_nil)) pe_int (nomark _)) (pss_one (ps_ret (pe_tup (pa_cons (pe_ix (r := rIxT K) ix_tup (pe_dget (hu_of hr) (pv 7) (pe_ix (r := rIxT K) ix_tup (pv 0) pe_int (fun _ _ => rfl)) (fun _ _ => rfl)) pe_int (fun _ _ => rfl)) (pa_cons pe_non pa_nil))))) pss_nil)
  (pss_cons (ps_if (pt_cmpR op_ge (pe_callB (cr_min rfl) (by rfl) z_min b_min (pa_cons (pv 8) pa_nil)) pe_int (nomark _)) (pss_one (ps_ret (pe_tup (pa_cons (pe_ix (r := rIxT K) ix_tup (pe_dget (hu_of hr) (pv 7) (pe_ix (r := rIxT K) ix_tup (pv 0) pe_int (fun _ _ => rfl)) (fun _ _ => rfl)) pe_int (fun _ _ => rfl)) (pa_cons pe_non pa_nil))))) pss_nil)
  (pss_one (ps_ret (pe_tup (pa_cons pe_non (pa_cons (pv 6) pa_nil)))))))))))))))), ?_⟩
  cases t with
  | never =>
    cases er
    have hT : SqT K H a [.str "never"] := SqT.of ha
    refine ⟨_, rfl, a, _, rfl, .inr hT, rfl, _, rfl, iteT fun D hD => ⟨(by show 3 ≤ sizeLine; decide), fun p1 hp1 => ⟨(by show 3 ≤ sizeLine; decide), fun p2 hp2 => ⟨(by show 3 ≤ sizeLine; decide), fun p3 hp3 => ⟨(by show 3 ≤ sizeLine; decide), fun p4 hp4 => ?_⟩⟩⟩⟩⟩
    have sD := same_new hD (.dK [])
    have s1 := same_new hp1 (.tup [.int 0, .int 0, .int 0])
    have s2 := same_new hp2 (.tup [.int 0, .int 0, .int 1])
    have s3 := same_new hp3 (.tup [.int 1, .int 0, .int 0])
    have s4 := same_new hp4 (.tup [.int 0, .int 1, .int 0])
    have s14 := ((s1.trans s2).trans s3).trans s4
    refine ⟨s14 _ _ upd_same, [((.inr "never" : Key), .ref p1), (.inr "always", .ref p2), (.inr "p", .ref p3), (.inr "q", .ref p4)], rfl, (by show 4 ≤ 15; decide), ?_⟩
    have sE := same_late (o := .dK (mergeK [] [((.inr "never" : Key), .ref p1), (.inr "always", .ref p2), (.inr "p", .ref p3), (.inr "q", .ref p4)])) (sD.trans s14) hD
    have n1 : p1 ≠ D := (ne_of_none upd_same hp1).symm
    refine ⟨_, rfl, _, rfl, a, _, _, _, rfl, rfl, sqt sE hT, at_of (j := 0) rfl rfl, D, .ref p1, rfl, dgetK upd_same (val4 _ _ _ _).1, (by show 2 ≤ sizeLine; decide), fun p hp => ?_⟩
    have s5 := same_new hp (.tup [.ref p1, .non])
    refine q _ _ (sE.trans s5) ⟨p, _, rfl, SqT.of upd_same, p1, rfl, SqT.of (s5 _ _ ?_)⟩
    rw [upd_ne n1]
    exact ((s2.trans s3).trans s4) _ _ upd_same
  | always =>
    cases er
    have hT : SqT K H a [.str "always"] := SqT.of ha
    refine ⟨_, rfl, a, _, rfl, .inr hT, rfl, _, rfl, iteT fun D hD => ⟨(by show 3 ≤ sizeLine; decide), fun p1 hp1 => ⟨(by show 3 ≤ sizeLine; decide), fun p2 hp2 => ⟨(by show 3 ≤ sizeLine; decide), fun p3 hp3 => ⟨(by show 3 ≤ sizeLine; decide), fun p4 hp4 => ?_⟩⟩⟩⟩⟩
    have sD := same_new hD (.dK [])
    have s1 := same_new hp1 (.tup [.int 0, .int 0, .int 0])
    have s2 := same_new hp2 (.tup [.int 0, .int 0, .int 1])
    have s3 := same_new hp3 (.tup [.int 1, .int 0, .int 0])
    have s4 := same_new hp4 (.tup [.int 0, .int 1, .int 0])
    have s14 := ((s1.trans s2).trans s3).trans s4
    refine ⟨s14 _ _ upd_same, [((.inr "never" : Key), .ref p1), (.inr "always", .ref p2), (.inr "p", .ref p3), (.inr "q", .ref p4)], rfl, (by show 4 ≤ 15; decide), ?_⟩
    have sE := same_late (o := .dK (mergeK [] [((.inr "never" : Key), .ref p1), (.inr "always", .ref p2), (.inr "p", .ref p3), (.inr "q", .ref p4)])) (sD.trans s14) hD
    have n1 : p2 ≠ D := (ne_of_none (s1 _ _ upd_same) hp2).symm
    refine ⟨_, rfl, _, rfl, a, _, _, _, rfl, rfl, sqt sE hT, at_of (j := 0) rfl rfl, D, .ref p2, rfl, dgetK upd_same (val4 _ _ _ _).2.1, (by show 2 ≤ sizeLine; decide), fun p hp => ?_⟩
    have s5 := same_new hp (.tup [.ref p2, .non])
    refine q _ _ (sE.trans s5) ⟨p, _, rfl, SqT.of upd_same, p2, rfl, SqT.of (s5 _ _ ?_)⟩
    rw [upd_ne n1]
    exact (s3.trans s4) _ _ upd_same
  | p =>
    cases er
    have hT : SqT K H a [.str "p"] := SqT.of ha
    refine ⟨_, rfl, a, _, rfl, .inr hT, rfl, _, rfl, iteT fun D hD => ⟨(by show 3 ≤ sizeLine; decide), fun p1 hp1 => ⟨(by show 3 ≤ sizeLine; decide), fun p2 hp2 => ⟨(by show 3 ≤ sizeLine; decide), fun p3 hp3 => ⟨(by show 3 ≤ sizeLine; decide), fun p4 hp4 => ?_⟩⟩⟩⟩⟩
    have sD := same_new hD (.dK [])
    have s1 := same_new hp1 (.tup [.int 0, .int 0, .int 0])
    have s2 := same_new hp2 (.tup [.int 0, .int 0, .int 1])
    have s3 := same_new hp3 (.tup [.int 1, .int 0, .int 0])
    have s4 := same_new hp4 (.tup [.int 0, .int 1, .int 0])
    have s14 := ((s1.trans s2).trans s3).trans s4
    refine ⟨s14 _ _ upd_same, [((.inr "never" : Key), .ref p1), (.inr "always", .ref p2), (.inr "p", .ref p3), (.inr "q", .ref p4)], rfl, (by show 4 ≤ 15; decide), ?_⟩
    have sE := same_late (o := .dK (mergeK [] [((.inr "never" : Key), .ref p1), (.inr "always", .ref p2), (.inr "p", .ref p3), (.inr "q", .ref p4)])) (sD.trans s14) hD
    have n1 : p3 ≠ D := (ne_of_none ((s1.trans s2) _ _ upd_same) hp3).symm
    refine ⟨_, rfl, _, rfl, a, _, _, _, rfl, rfl, sqt sE hT, at_of (j := 0) rfl rfl, D, .ref p3, rfl, dgetK upd_same (val4 _ _ _ _).2.2.1, (by show 2 ≤ sizeLine; decide), fun p hp => ?_⟩
    have s5 := same_new hp (.tup [.ref p3, .non])
    refine q _ _ (sE.trans s5) ⟨p, _, rfl, SqT.of upd_same, p3, rfl, SqT.of (s5 _ _ ?_)⟩
    rw [upd_ne n1]
    exact s4 _ _ upd_same
  | q =>
    cases er
    have hT : SqT K H a [.str "q"] := SqT.of ha
    refine ⟨_, rfl, a, _, rfl, .inr hT, rfl, _, rfl, iteT fun D hD => ⟨(by show 3 ≤ sizeLine; decide), fun p1 hp1 => ⟨(by show 3 ≤ sizeLine; decide), fun p2 hp2 => ⟨(by show 3 ≤ sizeLine; decide), fun p3 hp3 => ⟨(by show 3 ≤ sizeLine; decide), fun p4 hp4 => ?_⟩⟩⟩⟩⟩
    have sD := same_new hD (.dK [])
    have s1 := same_new hp1 (.tup [.int 0, .int 0, .int 0])
    have s2 := same_new hp2 (.tup [.int 0, .int 0, .int 1])
    have s3 := same_new hp3 (.tup [.int 1, .int 0, .int 0])
    have s4 := same_new hp4 (.tup [.int 0, .int 1, .int 0])
    have s14 := ((s1.trans s2).trans s3).trans s4
    refine ⟨s14 _ _ upd_same, [((.inr "never" : Key), .ref p1), (.inr "always", .ref p2), (.inr "p", .ref p3), (.inr "q", .ref p4)], rfl, (by show 4 ≤ 15; decide), ?_⟩
    have sE := same_late (o := .dK (mergeK [] [((.inr "never" : Key), .ref p1), (.inr "always", .ref p2), (.inr "p", .ref p3), (.inr "q", .ref p4)])) (sD.trans s14) hD
    have n1 : p4 ≠ D := (ne_of_none (((s1.trans s2).trans s3) _ _ upd_same) hp4).symm
    refine ⟨_, rfl, _, rfl, a, _, _, _, rfl, rfl, sqt sE hT, at_of (j := 0) rfl rfl, D, .ref p4, rfl, dgetK upd_same (val4 _ _ _ _).2.2.2, (by show 2 ≤ sizeLine; decide), fun p hp => ?_⟩
    have s5 := same_new hp (.tup [.ref p4, .non])
    refine q _ _ (sE.trans s5) ⟨p, _, rfl, SqT.of upd_same, p4, rfl, SqT.of (s5 _ _ ?_)⟩
    rw [upd_ne n1]
    exact upd_same
  | neg c =>
    have hT : SqT K H a [.str "not", .int (ix L c : Nat)] := SqT.of ha
    obtain ⟨u, r1, e1, e2, e3, _⟩ := hk c (List.mem_singleton.mpr rfl)
    simp only [Tr.rule, e2, Option.map_some, Option.some.injEq] at er
    refine ⟨_, rfl, a, _, rfl, .inr hT, rfl, _, rfl, iteF ?_⟩
    refine ⟨_, rfl, _, rfl, a, _, _, _, rfl, rfl, hT, at_of (j := 1) rfl rfl, G, us, _, _, rfl, rfl, hG, at_of rfl e1, ?_⟩
    refine ⟨_, rfl, a, _, rfl, .inr hT, rfl, _, rfl, iteT ?_⟩
    refine ⟨(by show 3 ≤ sizeLine; decide), fun p1 hp1 => ?_⟩
    have s1 := same_new hp1 (.tup [.int 0, .int 0, .int 1])
    refine ⟨_, rfl, 1, rfl, .ref p1, u, .one, r1, -1, rfl, ⟨p1, rfl, SqT.of upd_same⟩, e3.mono s1, .inr rfl, fun z H2 s2 hz => ?_⟩
    rw [sum_neg, er] at hz
    refine ⟨(by show 2 ≤ sizeLine; decide), fun p hp => ?_⟩
    have s3 := same_new hp (.tup [z, .non])
    exact q _ _ ((s1.trans s2).trans s3) ⟨p, z, rfl, SqT.of upd_same, hz.mono s3⟩
  | fold v c d =>
    have hT : SqT K H a [.str v.str, .int (ix L c : Nat), .int (ix L d : Nat)] := SqT.of ha
    obtain ⟨u1, r1, e1, e2, e3, z1⟩ := hk c (List.mem_cons_self ..)
    obtain ⟨u2, r2, f1, f2, f3, z2⟩ := hk d (List.mem_cons_of_mem _ (List.mem_singleton.mpr rfl))
    have hin : (v.test r1 r2).In 1000 := In.mono (Wd.test_in (Tr.rule_in e2) (Tr.rule_in f2)) (by omega)
    simp only [Tr.rule, e2, f2] at er
    refine ⟨_, rfl, a, _, rfl, .inr hT, rfl, _, rfl, iteF ?_⟩
    refine ⟨_, rfl, _, rfl, a, _, _, _, rfl, rfl, hT, at_of (j := 1) rfl rfl, G, us, _, _, rfl, rfl, hG, at_of rfl e1, ?_⟩
    refine ⟨_, rfl, a, _, rfl, .inr hT, rfl, _, rfl, iteF ?_⟩
    refine ⟨_, rfl, _, rfl, a, _, _, _, rfl, rfl, hT, at_of (j := 2) rfl rfl, G, us, _, _, rfl, rfl, hG, at_of rfl f1, ?_⟩
    -- test = sum(sum(one, other, 1), (0, 0, 1), -1)
    refine ⟨_, rfl, _, rfl, u1, u2, r1, r2, 1, rfl, e3, f3, .inl rfl, fun y1 H1 s1 hy1 => ?_⟩
    rw [sum_one] at hy1
    refine ⟨(by show 3 ≤ sizeLine; decide), fun p1 hp1 => ?_⟩
    have s2 := same_new hp1 (.tup [.int 0, .int 0, .int 1])
    refine ⟨1, rfl, y1, .ref p1, _, .one, -1, rfl, hy1.mono s2, ⟨p1, rfl, SqT.of upd_same⟩, .inr rfl, fun yt H2 s3 hyt => ?_⟩
    rw [sum_neg] at hyt
    have s02 := (s1.trans s2).trans s3
    -- ways
    intro D hD
    have sD := same_new hD (.dK [])
    refine ⟨_, rfl, _, rfl, u1, u2, r1, r2, 1, rfl, e3.mono (s02.trans sD), f3.mono (s02.trans sD), .inl rfl, fun y3 H3 s4 hy3 => ?_⟩
    rw [sum_one] at hy3
    refine ⟨(by show 3 ≤ sizeLine; decide), fun p2 hp2 => ⟨(by show 2 ≤ sizeLine; decide), fun p3 hp3 => ⟨(by show 3 ≤ sizeLine; decide), fun p4 hp4 => ⟨_, rfl, (by show 2 ≤ sizeLine; decide), fun p5 hp5 => ?_⟩⟩⟩⟩
    have s5 := same_new hp2 (.tup [.int 0, .int 0, .int 1])
    have s6 := same_new hp3 (.tup [y3, .ref p2])
    have s7 := same_new hp4 (.tup [.int 0, .int 0, .int 0])
    have s8 := same_new hp5 (.tup [.ref p4, yt])
    have s58 := ((s5.trans s6).trans s7).trans s8
    have s48 := s4.trans s58
    refine ⟨s48 _ _ upd_same, [((.inr "more" : Key), .ref p3), (.inr "less", .ref p5)], rfl, (by show 2 ≤ 15; decide), ?_⟩
    have sE := same_late (o := .dK (mergeK [] [((.inr "more" : Key), .ref p3), (.inr "less", .ref p5)])) (sD.trans s48) hD
    have d3 : p3 ≠ D := (ne_of_none ((s4.trans s5) _ _ upd_same) hp3).symm
    have d5 : p5 ≠ D := (ne_of_none (((s4.trans s5).trans (s6.trans s7)) _ _ upd_same) hp5).symm
    have d2 : p2 ≠ D := (ne_of_none (s4 _ _ upd_same) hp2).symm
    have d4 : p4 ≠ D := (ne_of_none (((s4.trans s5).trans s6) _ _ upd_same) hp4).symm
    obtain ⟨y3a, ey3, hy3a⟩ := id hy3
    -- what stands behind the dict's own write
    have two : v = .more ∨ v = .less → WaysAt K (upd (upd (upd (upd (upd H3 p2 (.tup [.int 0, .int 0, .int 1])) p3 (.tup [y3, .ref p2])) p4 (.tup [.int 0, .int 0, .int 0])) p5 (.tup [.ref p4, yt])) D (.dK (mergeK [] [((.inr "more" : Key), .ref p3), (.inr "less", .ref p5)]))) v r1 r2 yt (.ref D) := fun hv => by
      have kp : ∀ {b : Addr} {xs : List V}, (upd (upd (upd (upd H3 p2 (.tup [.int 0, .int 0, .int 1])) p3 (.tup [y3, .ref p2])) p4 (.tup [.int 0, .int 0, .int 0])) p5 (.tup [.ref p4, yt])) b = some (.tup xs) → b ≠ D → (upd (upd (upd (upd (upd H3 p2 (.tup [.int 0, .int 0, .int 1])) p3 (.tup [y3, .ref p2])) p4 (.tup [.int 0, .int 0, .int 0])) p5 (.tup [.ref p4, yt])) D (.dK (mergeK [] [((.inr "more" : Key), .ref p3), (.inr "less", .ref p5)]))) b = some (.tup xs) := fun e n => by
        rw [upd_ne n]
        exact e
      have one2 : T3At K (upd (upd (upd (upd (upd H3 p2 (.tup [.int 0, .int 0, .int 1])) p3 (.tup [y3, .ref p2])) p4 (.tup [.int 0, .int 0, .int 0])) p5 (.tup [.ref p4, yt])) D (.dK (mergeK [] [((.inr "more" : Key), .ref p3), (.inr "less", .ref p5)]))) (.ref p2) .one := ⟨p2, rfl, SqT.of (kp (((s6.trans s7).trans s8) _ _ upd_same) d2)⟩
      have nil4 : T3At K (upd (upd (upd (upd (upd H3 p2 (.tup [.int 0, .int 0, .int 1])) p3 (.tup [y3, .ref p2])) p4 (.tup [.int 0, .int 0, .int 0])) p5 (.tup [.ref p4, yt])) D (.dK (mergeK [] [((.inr "more" : Key), .ref p3), (.inr "less", .ref p5)]))) (.ref p4) .nil := ⟨p4, rfl, SqT.of (kp (s8 _ _ upd_same) d4)⟩
      have t3 := SqT.of (K := K) (kp ((s7.trans s8) _ _ upd_same) d3)
      have t5 := SqT.of (K := K) (kp upd_same d5)
      have y3k : T3At K (upd (upd (upd (upd (upd H3 p2 (.tup [.int 0, .int 0, .int 1])) p3 (.tup [y3, .ref p2])) p4 (.tup [.int 0, .int 0, .int 0])) p5 (.tup [.ref p4, yt])) D (.dK (mergeK [] [((.inr "more" : Key), .ref p3), (.inr "less", .ref p5)]))) y3 (r1.add r2) := (hy3.mono s58).keepD (s48 _ _ upd_same)
      have ytk := hyt.mono sE
      obtain ⟨w1, w2⟩ := val2 (k := .inr "more") (l := .inr "less") (by decide +kernel) (.ref p3) (.ref p5)
      rcases hv with rfl | rfl
      · exact ⟨D, _, p3, y3, .ref p2, rfl, upd_same, w1, t3, y3k, one2, ytk⟩
      · exact ⟨D, _, p5, .ref p4, yt, rfl, upd_same, w2, t5, nil4, ytk, ytk⟩
    have s0E := s02.trans sE
    generalize upd (upd (upd (upd (upd H3 p2 (.tup [.int 0, .int 0, .int 1])) p3 (.tup [y3, .ref p2])) p4 (.tup [.int 0, .int 0, .int 0])) p5 (.tup [.ref p4, yt])) D (.dK (mergeK [] [((.inr "more" : Key), .ref p3), (.inr "less", .ref p5)])) = H4 at *
    have hT4 := sqt s0E hT
    refine ⟨fun σ' H' => ∃ zt zw, σ' = [some (.ref a), some (.ref G), some hv, none, some u1, some u2, some zt, some zw, none, none] ∧ Same H H' ∧ (v ≠ .leads → WaysAt K H' v r1 r2 zt zw), ?_, ?_⟩
    · refine ⟨_, rfl, a, _, _, _, rfl, rfl, hT4, at_of (j := 0) rfl rfl, (by show 2 ≤ sizeLine; decide), fun p6 hp6 => ?_⟩
      have s9 := same_new hp6 (.tup [.str "greater", .str "lesser"])
      refine ⟨_, _, rfl, .inr (show SqT K _ p6 (strsV ["greater", "lesser"]) from SqT.of upd_same), rfl, flat_strs _, ?_⟩
      rw [inV_strs]
      refine ⟨_, rfl, ite2 (fun c => ?_) fun c => ?_⟩
      · have gl : v = .greater ∨ v = .lesser := by
          have c' : v.str ∈ (["greater", "lesser"] : List Str) := of_decide_eq_true c
          rcases List.mem_cons.mp c' with h | h
          · exact .inl (Wd.str_inj h)
          · exact .inr (Wd.str_inj (List.mem_singleton.mp h))
        have s0 := s0E.trans s9
        refine ⟨_, rfl, _, rfl, 1, rfl, u1, u2, r1, r2, -1, rfl, e3.mono s0, f3.mono s0, .inr rfl, fun y5 H5 s10 hy5 => ?_⟩
        rw [sum_neg] at hy5
        intro D2 hD2
        have sD2 := same_new hD2 (.dK [])
        refine ⟨_, rfl, _, rfl, (by show 2 ≤ sizeLine; decide), fun p7 hp7 => ⟨_, rfl, _, rfl, (by show 2 ≤ sizeLine; decide), fun p8 hp8 => ?_⟩⟩
        have s11 := same_new hp7 (.tup [u2, u1])
        have s12 := same_new hp8 (.tup [u1, u2])
        refine ⟨(s11.trans s12) _ _ upd_same, [((.inr "greater" : Key), .ref p7), (.inr "lesser", .ref p8)], rfl, (by show 2 ≤ 15; decide), ?_⟩
        have sF := same_late (o := .dK (mergeK [] [((.inr "greater" : Key), .ref p7), (.inr "lesser", .ref p8)])) (sD2.trans (s11.trans s12)) hD2
        have n7 : p7 ≠ D2 := (ne_of_none upd_same hp7).symm
        have n8 : p8 ≠ D2 := (ne_of_none (s11 _ _ upd_same) hp8).symm
        have all := (s0.trans s10).trans sF
        refine ⟨y5, .ref D2, rfl, all, fun _ => ?_⟩
        obtain ⟨w1, w2⟩ := val2 (k := .inr "greater") (l := .inr "lesser") (by decide +kernel) (.ref p7) (.ref p8)
        rcases gl with rfl | rfl
        · refine ⟨D2, _, p7, u2, u1, rfl, upd_same, w1, SqT.of ?_, f3.mono all, e3.mono all, hy5.mono sF⟩
          rw [upd_ne n7]
          exact s12 _ _ upd_same
        · refine ⟨D2, _, p8, u1, u2, rfl, upd_same, w2, SqT.of ?_, e3.mono all, f3.mono all, hy5.mono sF⟩
          rw [upd_ne n8]
          exact upd_same
      · have c' : ¬ v.str ∈ (["greater", "lesser"] : List Str) := of_decide_eq_false (Bool.eq_false_iff.mpr c)
        refine ⟨yt, .ref D, rfl, s0E.trans s9, fun nl => (two ?_).mono s9⟩
        cases v with
        | more => exact .inl rfl
        | less => exact .inr rfl
        | greater => exact absurd (show Wd.greater.str ∈ (["greater", "lesser"] : List Str) by decide +kernel) c'
        | lesser => exact absurd (show Wd.lesser.str ∈ (["greater", "lesser"] : List Str) by decide +kernel) c'
        | leads => exact absurd rfl nl
    rintro σ' H5 ⟨zt, zw, rfl, t5, ways⟩
    refine ⟨fun σ' H' => ∃ zt zw, σ' = [some (.ref a), some (.ref G), some hv, none, some u1, some u2, some zt, some zw, none, none] ∧ Same H H' ∧ WaysAt K H' v r1 r2 zt zw, ?_, ?_⟩
    · refine ⟨_, rfl, a, _, _, _, rfl, rfl, sqt t5 hT, at_of (j := 0) rfl rfl, rfl, _, rfl, ite2 (fun c => ?_) fun c => ?_⟩
      · have e := wd_eq (u := .leads) rfl c
        subst e
        refine ⟨_, rfl, _, rfl, 1, rfl, u2, u1, r2, r1, -1, rfl, f3.mono t5, e3.mono t5, .inr rfl, fun y5 H6 s10 hy5 => ?_⟩
        rw [sum_neg] at hy5
        intro D2 hD2
        have sD2 := same_new hD2 (.dK [])
        refine ⟨(by show 3 ≤ sizeLine; decide), fun p7 hp7 => ?_⟩
        have s11 := same_new hp7 (.tup [.int 0, .int 0, .int 1])
        refine ⟨_, rfl, .ref p7, y5, .one, _, 1, rfl, ⟨p7, rfl, SqT.of upd_same⟩, hy5.mono (sD2.trans s11), .inl rfl, fun y6 H7 s12 hy6 => ?_⟩
        rw [sum_one, lead_low] at hy6
        refine ⟨(by show 3 ≤ sizeLine; decide), fun p8 hp8 => ⟨(by show 2 ≤ sizeLine; decide), fun p9 hp9 => ?_⟩⟩
        have s13 := same_new hp8 (.tup [.int 0, .int 0, .int 1])
        have s14 := same_new hp9 (.tup [y6, .ref p8])
        have eD : H7 D2 = some (.dK []) := (s11.trans s12) _ _ upd_same
        refine ⟨(s13.trans s14) _ _ eD, [((.inr "leads" : Key), .ref p9)], rfl, (by show 1 ≤ 15; decide), ?_⟩
        have sF := same_late (o := .dK (mergeK [] [((.inr "leads" : Key), .ref p9)])) (sD2.trans ((s11.trans s12).trans (s13.trans s14))) hD2
        have n8 : p8 ≠ D2 := (ne_of_none eD hp8).symm
        have n9 : p9 ≠ D2 := (ne_of_none (s13 _ _ eD) hp9).symm
        have all := (t5.trans s10).trans sF
        refine ⟨y5, .ref D2, rfl, all, D2, _, p9, y6, .ref p8, rfl, upd_same, val1 _ _, SqT.of ?_, (hy6.mono (s13.trans s14)).keepD ((s13.trans s14) _ _ eD), ⟨p8, rfl, SqT.of ?_⟩, hy5.mono sF⟩
        · rw [upd_ne n9]
          exact upd_same
        · rw [upd_ne n8]
          exact s14 _ _ upd_same
      · exact ⟨zt, zw, rfl, t5, ways (wd_ne (u := .leads) rfl c)⟩
    rintro σ' H6 ⟨zt, zw, rfl, t6, D, kvs, p, x, y, rfl, gD, gv, gp, gx, gy, gt⟩
    obtain ⟨ha', cs, rfl, hS, hP⟩ := hH.mono t6
    have hlen : cs.length = h.length := hP.length
    have hT6 := sqt t6 hT
    generalize et : v.test r1 r2 = t at *
    refine ⟨_, rfl, ha', rfl, ⟨_, hS⟩, fun D3 hD3 => lcL (K := K) (a := ha') (xs := cs) ((tells t h).map V.int) hD3 hS (by rw [tells_len, hlen]) (by rw [tells_len]; omega) (fun i c z H' hc hz s2 Q' hq => ?_) fun H7 s7 hT7 => ?_⟩
    · obtain ⟨k, hk, kx⟩ := Paired.at1 hP hc
      have hi : i < h.length := (List.getElem?_eq_some_iff.mp hk).1
      rw [tells_at hi] at hz
      rw [pt_lt hi] at hk
      cases hk
      refine ⟨_, rfl, _, rfl, zt, c, t, pt h i, rfl, gt.mono s2, kx.mono s2, hin, ?_⟩
      have := hq H' (Same.refl _)
      rw [← Option.some.inj hz] at this
      exact this
    have hTl : SqL K H7 D3 ((tells t h).map V.int) := SqL.of hT7
    unfold Wd.rule at er
    rw [et] at er
    refine ⟨_, rfl, D3, _, rfl, hTl, tells_pos h0, fun m m1 m2 => ?_⟩
    refine ⟨_, _, rfl, rfl, _, rfl, ite2 (fun c => ?_) fun c => ?_⟩
    · have le : LeAll t h := (tells_le m1 m2).mp (of_decide_eq_true c)
      rw [if_pos le] at er
      cases er
      refine ⟨_, rfl, _, rfl, a, _, _, _, rfl, rfl, sqt s7 hT6, at_of (j := 0) rfl rfl, D, .ref p, rfl, dgetK (s7 _ _ gD) gv, p, _, _, x, rfl, rfl, sqt s7 gp, at_of (j := 0) rfl rfl, (by show 2 ≤ sizeLine; decide), fun p9 hp9 => ?_⟩
      have s8 := same_new hp9 (.tup [x, .non])
      exact q _ _ ((t6.trans s7).trans s8) ⟨p9, x, rfl, SqT.of upd_same, gx.mono (s7.trans s8)⟩
    have nle : ¬ LeAll t h := fun z => (of_decide_eq_false (Bool.eq_false_iff.mpr c)) ((tells_le m1 m2).mpr z)
    rw [if_neg nle] at er
    refine ⟨_, rfl, D3, _, rfl, hTl, tells_pos h0, fun m' m1' m2' => ?_⟩
    refine ⟨_, _, rfl, rfl, _, rfl, ite2 (fun c => ?_) fun c => ?_⟩
    · have ge : GeAll t h := (tells_ge m1' m2').mp (of_decide_eq_true c)
      rw [if_pos ge] at er
      cases er
      refine ⟨_, rfl, _, rfl, a, _, _, _, rfl, rfl, sqt s7 hT6, at_of (j := 0) rfl rfl, D, .ref p, rfl, dgetK (s7 _ _ gD) gv, p, _, _, y, rfl, rfl, sqt s7 gp, at_of (j := 1) rfl rfl, (by show 2 ≤ sizeLine; decide), fun p9 hp9 => ?_⟩
      have s8 := same_new hp9 (.tup [y, .non])
      exact q _ _ ((t6.trans s7).trans s8) ⟨p9, y, rfl, SqT.of upd_same, gy.mono (s7.trans s8)⟩
    · have nge : ¬ GeAll t h := fun z => (of_decide_eq_false (Bool.eq_false_iff.mpr c)) ((tells_ge m1' m2').mpr z)
      rw [if_neg nge] at er
      cases er
end
end K55

namespace K55
open PySem PySem.Spec PyProof.Rows L2
/-! ### trees of cuts and triples as data -/
def t3D (r : T3) : PyData := .tuple [.int r.a, .int r.b, .int r.c]
def ctD : CT → PyData
  | .leaf => .tuple [.str "leaf"]
  | .cut r x y => .tuple [.str "cut", t3D r, ctD x, ctD y]
theorem T3At.dp {K : PySem.W.Frag} {H : Hp} {v : V} {r : T3} (h : T3At K H v r) : Dp K H v (t3D r) := by
  obtain ⟨a, rfl, h1⟩ := h
  exact .tup h1 (.cons (.int _) (.cons (.int _) (.cons (.int _) .nil)))
theorem CtAt.dp {K : PySem.W.Frag} {H : Hp} : ∀ {ct : CT} {v : V}, CtAt K H v ct → Dp K H v (ctD ct)
  | .leaf, _, ⟨a, e, h⟩ => by
    rw [e]
    exact .tup h (.cons (.str _) .nil)
  | .cut r x y, _, ⟨a, u, b, c, e, h, hu, hx, hy⟩ => by
    rw [e]
    exact .tup h (.cons (.str _) (.cons hu.dp (.cons (CtAt.dp hx) (.cons (CtAt.dp hy) .nil))))
theorem t3_shaped (r : T3) : SeqAt.shaped (t3D r) = true := by
  unfold SeqAt.shaped t3D
  simp [PyData.canLay0, PyData.canLayAll0, PyData.depth, PyData.depthAll]
theorem ct_lay : ∀ ct : CT, (ctD ct).canLay0 = true ∧ (ctD ct).depth ≤ ct.dep + 2
  | .leaf => by
    have e : PyData.strOk "leaf" = true := by decide +kernel
    simp [ctD, PyData.canLay0, PyData.canLayAll0, PyData.depth, PyData.depthAll, e]
  | .cut r x y => by
    obtain ⟨a, b⟩ := ct_lay x
    obtain ⟨c, d⟩ := ct_lay y
    have e : PyData.strOk "cut" = true := by decide +kernel
    have t : (t3D r).canLay0 = true ∧ (t3D r).depth = 1 := by
      unfold t3D
      simp [PyData.canLay0, PyData.canLayAll0, PyData.depth, PyData.depthAll]
    refine ⟨?_, ?_⟩
    · simp [ctD, PyData.canLay0, PyData.canLayAll0, a, c, e, t.1]
    · simp only [ctD, PyData.depth, PyData.depthAll, t.2, CT.dep]
      omega
theorem ct_shaped {ct : CT} (h : ct.dep ≤ 8) : SeqAt.shaped (ctD ct) = true := by
  obtain ⟨a, b⟩ := ct_lay ct
  unfold SeqAt.shaped
  rw [a, Bool.true_and]
  exact decide_eq_true (by omega)
theorem leaf_eqv : PyData.eqv (ctD .leaf) (.tuple [.str "leaf"]) = true := by
  simp [ctD, PyData.eqv, PyData.eqvAll]
theorem cut_eqv (r : T3) (x y : CT) : PyData.eqv (ctD (.cut r x y)) (.tuple [.str "leaf"]) = false := by
  have e : ((Str.ofString "cut") == (Str.ofString "leaf")) = false := by decide +kernel
  simp [ctD, PyData.eqv, PyData.eqvAll, e]
theorem t3_eqv (r : T3) : PyData.eqv (t3D r) (t3D r) = true := by
  simp [t3D, PyData.eqv, PyData.eqvAll]
section
variable {P : Program} {w : World} {K : PySem.W.Frag} {mg : Str → Option Value} {base : Heap}
/-! ### _law_rules -/
def spLRules (K : PySem.W.Frag) : Sp := fun vs H Q _ => ∃ rv hv L h, vs = [rv, hv] ∧ RowsAt K H rv (rowsOf L) ∧ Cl L ∧ L.length ≤ 100 ∧ (∀ t, t ∈ L → t.size ≤ 400) ∧ (∀ t, t ∈ L → ∃ r, t.rule h = some r) ∧ HullAt K H hv h ∧ 0 < h.length ∧ h.length ≤ 2000 ∧
  ∀ z H', Same H H' → (∃ p a us, z = .ref p ∧ SqT K H' p [.ref a, .non] ∧ SqL K H' a us ∧ Paired (HasAt K H' h) us L) → Q z H'
theorem c_L_rules (T : Txt w K mg) : C8.Cal P w K mg base 3 "_law_rules" (spLRules K) [] := T.cal_L_rules fun fd F => by
  have c_L_rule := c_L_rule (P := P) (base := base) T
  refine fnD_ok F sc_L_rules (fun vs H Q E h => ?_) (fun cdv A outer s H vs Q E hr h => ?_)
  · obtain ⟨rv, hv, L, h, rfl, _⟩ := h
    rfl
  obtain ⟨rv, hv, L, h, rfl, ⟨ra, rs, rfl, hS, hP⟩, C, l100, hsz, hall, hH, h0, h2000, q⟩ := h
  have hl : rs.length = L.length := by rw [hP.length]; exact List.length_map _
  refine ⟨_, (pss_cons (ps_set (i := 2) sc_L_rules.nd rfl (Or.inl rfl) (pe_lst pa_nil))
  (pss_cons (ps_for PassesOwn.never rfl (pi_list (pv 0)) (pg_name (i := 3) sc_L_rules.nd rfl (Or.inl rfl)) (pss_cons (ps_asg (C8.pe_c c_L_rule hr (by omega) (by rfl) (pa_cons (pv 3) (pa_cons (pv 2) (pa_cons (pv 1) pa_nil)))) (pg_tup rfl (pgs_cons (pg_name (i := 4) sc_L_rules.nd rfl (Or.inl rfl)) (pgs_cons (pg_name (i := 5) sc_L_rules.nd rfl (Or.inl rfl)) pgs_nil))))
  (pss_cons (ps_if (pt_cmpR op_isN (pv 4) pe_non (nomark _)) (pss_one (ps_ret (pe_tup (pa_cons pe_non (pa_cons (pv 5) pa_nil))))) pss_nil)
  (pss_one (ps_expr (pe_bm PySem.F.plainAttrs_list PySem.F.slot_list_append PySem.F.type_list_append mt_append (pv 2) (pa_cons (pv 4) pa_nil)))))))
  (pss_one (ps_ret (pe_tup (pa_cons (pv 2) (pa_cons pe_non pa_nil))))))), ?_⟩
  refine ⟨Nat.zero_le _, fun G hG => ?_⟩
  have s2 := same_new hG (.lst [])
  refine ⟨_, rfl, ra, rfl, ⟨_, s2.seq hS⟩, for_list (K := K) (a := ra) (xs := rs) (fun i σ H' => ∃ x3 x4 x5 us, σ = [some (.ref ra), some hv, some (.ref G), x3, x4, x5] ∧ Same H H' ∧ H' G = some (.lst us) ∧ Paired (HasAt K H' h) us (L.take i))
    ⟨none, none, none, [], rfl, s2, upd_same, .nil⟩ (fun i σ H' _ ⟨_, _, _, _, _, s, _⟩ => s.seq hS) (fun i x σ H' hx hp => ?_) fun σ H' hp => ?_⟩
  · obtain ⟨x3, x4, x5, us, rfl, s3, eG, hU⟩ := hp
    have hi : i < L.length := by rw [← hl]; exact (List.getElem?_eq_some_iff.mp hx).1
    obtain ⟨t, ht⟩ : ∃ t, L[i]? = some t := ⟨_, List.getElem?_eq_getElem hi⟩
    obtain ⟨k, hk, a, rfl, ha⟩ := Paired.at1 hP hx
    have hk' : (rowsOf L)[i]? = some (t.enc (ix L)) := by
      unfold rowsOf
      rw [List.getElem?_map, ht]
      rfl
    rw [hk'] at hk
    cases hk
    obtain ⟨r, er⟩ := hall t (List.mem_of_getElem? ht)
    have ul : us.length ≤ 100 := by
      have := hU.length
      rw [List.length_take] at this
      omega
    refine ⟨_, rfl, _, rfl, _, rfl, .ref a, G, hv, t, us, h, r, L, rfl, ⟨a, rfl, s3 _ _ ha⟩, SqL.of eG, fun c hc => ?_, er, hH.mono s3, h0, h2000, fun z H5 s5 hz => ?_⟩
    · obtain ⟨m1, m2⟩ := C.kid i t c ht hc
      obtain ⟨u, e1, r', e2, e3⟩ := Paired.at2 hU (ix_get m1 m2)
      exact ⟨u, r', e1, e2, e3, hsz c m1⟩
    · obtain ⟨p, u, rfl, hp, hu⟩ := hz
      refine ⟨p, _, rfl, hp, rfl, _, _, rfl, _, _, rfl, rfl, ?_⟩
      refine ⟨_, rfl, rfl, _, rfl, ?_⟩
      rw [decide_eq_false hu.ne]
      have eG5 := s5 _ _ eG
      refine iteF ⟨_, rfl, .inl ⟨rfl, _, SqL.of eG5⟩, _, rfl, G, _, _, rfl, rfl, eG5, small_line (by omega), ?_⟩
      refine ⟨_, _, _, us ++ [u], rfl, same_mut (s3.trans s5) hG, upd_same, ?_⟩
      rw [take_snoc ht]
      exact Paired.snoc (Paired.map1 hU fun _ _ x => (x.mono s5).upd eG5) (HasAt.upd ⟨r, er, hu⟩ eG5)
  · obtain ⟨x3, x4, x5, us, rfl, s3, eG, hU⟩ := hp
    rw [hl, List.take_length] at hU
    refine ⟨_, rfl, (by show 2 ≤ sizeLine; decide), fun p hp => ?_⟩
    have s5 := same_new hp (.tup [.ref G, .non])
    exact q _ _ (s3.trans s5) ⟨p, G, us, rfl, SqT.of upd_same, SqL.of (s5 _ _ eG), Paired.map1 hU fun _ _ => HasAt.mono s5⟩
/-! ### _law_hulls -/
theorem c_L_hulls (T : Txt w K mg) : ∀ n : Nat, C8.Cal P w K mg base (n + 3) "_law_hulls" (spHulls K n) []
  | 0 => T.cal_L_hulls fun fd F => fn_none fun vs H Q E h => by
    obtain ⟨tv, hv, ct, h, d, _, _, _, _, _, h, _⟩ := h
    omega
  | n + 1 => T.cal_L_hulls fun fd F => by
    have c_L_hulls := c_L_hulls T n
    have c_L_cut := c_L_cut (P := P) (base := base) T
    have c_L_whole := c_L_whole (P := P) (base := base) T
    have z_isinstance := T.z_isinstance
    have z_tuple := T.z_tuple
    have z_len := T.z_len
    have z_all := T.z_all
    refine fnD_ok F sc_L_hulls (fun vs H Q E h => ?_) (fun cdv A outer s H vs Q E hr h => ?_)
    · obtain ⟨tv, hv, ct, h, d, rfl, _⟩ := h
      rfl
    obtain ⟨tv, hv, ct, h, d, rfl, hT, hH, O, on, hn, h8, q⟩ := h
    refine ⟨_, (pss_cons (ps_if (pt_cmpR (op_eqD hr.units) (pv 0) (pe_tup (pa_cons pe_str pa_nil)) (nomark _)) (pss_one (ps_ret (pe_lst (pa_cons (pv 1) pa_nil)))) pss_nil)
  (pss_cons (ps_if (PW.pt (pw_or (pt_not (pt_val (pe_callB call_isi (by rfl) z_isinstance b_isinstance (pa_cons (pv 0) (pa_cons (pe_bltn (v := .ty "tuple") (by rfl) z_tuple b_tuple rfl) pa_nil))))) (pw_or (pt_cmpR op_ne (pe_callB call_len_seq (by rfl) z_len b_len (pa_cons (pv 0) pa_nil)) pe_int (nomark _)) (pw_or (pt_cmpR op_ne (pe_ix (r := rIxT K) ix_tup (pv 0) pe_int (fun _ _ => rfl)) pe_str (nomark _)) (pw_or1 (pt_not (pt_val (pe_callB call_isi (by rfl) z_isinstance b_isinstance (pa_cons (pe_ix (r := rIxT K) ix_tup (pv 0) pe_int (fun _ _ => rfl)) (pa_cons (pe_bltn (v := .ty "tuple") (by rfl) z_tuple b_tuple rfl) pa_nil)))))))))) (pss_one (ps_ret pe_non)) pss_nil)
  (pss_cons (ps_if (PW.pt (pw_or (pt_cmpR op_ne (pe_callB call_len_seq (by rfl) z_len b_len (pa_cons (pe_ix (r := rIxT K) ix_tup (pv 0) pe_int (fun _ _ => rfl)) pa_nil)) pe_int (nomark _)) (pw_or1 (pt_not (pt_val (pe_callB (cr_all rfl) (by rfl) z_all b_all (pa_cons (pe_lc (own := [("_law_number", 2)]) (g := gName 2) (tt := tYes) rfl sc_L_hulls.nd (pi_tup (pe_ix (r := rIxT K) ix_tup (pv 0) pe_int (fun _ _ => rfl))) (blkOk_by (own := [("_law_number", 2)]) (N := ["_law_tree", "_law_hull", "_law_number", "_law_both", "_law_low", "_law_high"]) (sc := defScope s_L_hulls) (by decide +kernel)) (fun _ _ _ _ _ => (pg_name (i := 2) sc_L_hulls.nd rfl (Or.inl rfl))) (fun _ _ _ _ _ => pts_nil) (fun _ _ _ _ _ => (C8.pe_c c_L_whole hr (by omega) (by rfl) (pa_cons (pv 2) pa_nil)))) pa_nil))))))) (pss_one (ps_ret pe_non)) pss_nil)
  (pss_cons (ps_set (i := 3) sc_L_hulls.nd rfl (Or.inl rfl) (C8.pe_c c_L_cut hr (by omega) (by rfl) (pa_cons (pv 1) (pa_cons (pe_ix (r := rIxT K) ix_tup (pv 0) pe_int (fun _ _ => rfl)) pa_nil))))
  (pss_cons (ps_if (pt_cmpR op_isN (pv 3) pe_non (nomark _)) (pss_one (ps_ret pe_non)) pss_nil)
  (pss_cons (ps_set (i := 4) sc_L_hulls.nd rfl (Or.inl rfl) (C8.pe_c c_L_hulls hr (by omega) (by rfl) (pa_cons (pe_ix (r := rIxT K) ix_tup (pv 0) pe_int (fun _ _ => rfl)) (pa_cons (pe_ix (r := rIxT K) ix_tup (pv 3) pe_int (fun _ _ => rfl)) pa_nil))))
  (pss_cons (ps_set (i := 5) sc_L_hulls.nd rfl (Or.inl rfl) (C8.pe_c c_L_hulls hr (by omega) (by rfl) (pa_cons (pe_ix (r := rIxT K) ix_tup (pv 0) pe_int (fun _ _ => rfl)) (pa_cons (pe_ix (r := rIxT K) ix_tup (pv 3) pe_int (fun _ _ => rfl)) pa_nil))))
  (pss_cons (ps_if (PW.pt (pw_or (pt_cmpR op_isN (pv 4) pe_non (nomark _)) (pw_or1 (pt_cmpR op_isN (pv 5) pe_non (nomark _))))) (pss_one (ps_ret pe_non)) pss_nil)
  (pss_one (ps_ret (pe_op op_cat (pv 4) (pv 5)))))))))))), ?_⟩
    refine ⟨_, rfl, (by show 1 ≤ sizeLine; decide), fun p0 hp0 => ?_⟩
    have s0 := same_new hp0 (.tup [.str "leaf"])
    have hT0 := hT.mono s0
    have lf : Dp K (upd H p0 (.tup [.str "leaf"])) (.ref p0) (.tuple [.str "leaf"]) := .tup (SqT.of upd_same) (.cons (.str _) .nil)
    refine ⟨_, _, hT0.dp, lf, ct_shaped (by omega), ct_shaped (ct := .leaf) (Nat.zero_le _), ?_⟩
    generalize upd H p0 (.tup [.str "leaf"]) = H0 at *
    have hH0 := hH.mono s0
    cases ct with
    | leaf =>
      rw [leaf_eqv]
      refine ⟨_, rfl, iteT ⟨_, rfl, (by show 1 ≤ sizeLine; decide), fun p hp => ?_⟩⟩
      exact q p _ (s0.trans (same_new hp _)) ⟨[hv], upd_same, .cons (hH0.mono (same_new hp _)) .nil⟩
    | cut r x y =>
      rw [cut_eqv]
      obtain ⟨a, u, b, c, rfl, ha, hu, hx, hy⟩ := hT0
      obtain ⟨ua, rfl, hu1⟩ := id hu
      obtain ⟨hr32, hC, ox, oy⟩ := on
      simp only [CT.dep] at hn h8
      refine ⟨_, rfl, iteF ?_⟩
      refine ⟨_, rfl, _, _, _, _, true, rfl, .ty _, (ty_tup ha), kit_ty (by decide +kernel), _, rfl, iteF ?_⟩
      refine ⟨_, rfl, a, _, rfl, .inr ha, rfl, _, rfl, iteF ?_⟩
      refine ⟨_, rfl, a, _, _, _, rfl, rfl, ha, at_of (j := 0) rfl rfl, rfl, _, rfl, iteF ?_⟩
      refine ⟨_, rfl, a, _, _, _, rfl, rfl, ha, at_of (j := 1) rfl rfl, _, _, _, _, true, rfl, .ty _, (ty_tup hu1), kit_ty (by decide +kernel), _, rfl, iteF ?_⟩
      refine ⟨_, rfl, a, _, _, _, rfl, rfl, ha, at_of (j := 1) rfl rfl, ua, _, rfl, .inr hu1, rfl, _, rfl, iteF ?_⟩
      refine ⟨_, rfl, a, _, _, _, rfl, rfl, ha, at_of (j := 1) rfl rfl, ua, rfl, ⟨_, hu1⟩, fun D hD => lcT (K := K) (a := ua) (xs := [r.a, r.b, r.c].map V.int) ([r.a, r.b, r.c].map fun _ => V.bl true) hD hu1 rfl (show 3 ≤ 100000 by decide) (fun j x y H' hx hy s2 Q' hq => ?_) fun H1 s1 hd => ?_⟩
      · obtain ⟨⟨n, rfl⟩, rfl⟩ := three_int hx hy
        exact ⟨_, rfl, n, rfl, hq H' (Same.refl _)⟩
      refine ⟨D, [true, true, true], rfl, SqL.of hd, _, rfl, iteF ?_⟩
      have s01 := s0.trans s1
      refine ⟨_, rfl, _, rfl, a, _, _, _, rfl, rfl, sqt s1 ha, at_of (j := 1) rfl rfl, hv, .ref ua, h, r, d, rfl, hH.mono s01, hu.mono s1, hr32, O, by omega, hC, fun z H2 s2 hz => ?_⟩
      obtain ⟨p2, lo, hi, rfl, hp2, hlo, hhi⟩ := hz
      have Ol := low_ok O hr32 hC
      have Oh := high_ok O hr32 hC
      have s12 := s1.trans s2
      refine ⟨_, rfl, rfl, _, rfl, iteF ?_⟩
      refine ⟨_, rfl, a, _, _, _, rfl, rfl, sqt s12 ha, at_of (j := 2) rfl rfl, _, rfl, p2, _, _, _, rfl, rfl, hp2, at_of (j := 0) rfl rfl, b, lo, x, _, d + 1, rfl, hx.mono s12, hlo, Ol, ox, by omega, by omega, fun l1 H3 s3 hl1 => ?_⟩
      refine ⟨_, rfl, a, _, _, _, rfl, rfl, sqt (s12.trans s3) ha, at_of (j := 3) rfl rfl, _, rfl, p2, _, _, _, rfl, rfl, sqt s3 hp2, at_of (j := 1) rfl rfl, c, hi, y, _, d + 1, rfl, hy.mono (s12.trans s3), hhi.mono s3, Oh, oy, by omega, by omega, fun l2 H4 s4 hl2 => ?_⟩
      refine ⟨_, rfl, rfl, _, rfl, iteF ⟨_, rfl, rfl, _, rfl, iteF ?_⟩⟩
      obtain ⟨us1, e1, g1⟩ := hl1.mono s4
      obtain ⟨us2, e2, g2⟩ := hl2
      have n1 := CT.count x (lowH r h)
      have n2 := CT.count y (highH r h)
      have m1 : 2 ^ x.dep ≤ 2 ^ 8 := Nat.pow_le_pow_right (by decide) (by omega)
      have m2 : 2 ^ y.dep ≤ 2 ^ 8 := Nat.pow_le_pow_right (by decide) (by omega)
      have k1 := g1.length
      have k2 := g2.length
      refine ⟨_, rfl, _, rfl, l1, l2, us1, us2, rfl, rfl, e1, e2, Nat.le_of_lt (small_line (by omega)), fun p hp => ?_⟩
      have s5 := same_new hp (.lst (us1 ++ us2))
      exact q p _ ((((s0.trans s12).trans s3).trans s4).trans s5) ⟨_, upd_same, Paired.app (Paired.map1 g1 fun _ _ => HullAt.mono s5) (Paired.map1 g2 fun _ _ => HullAt.mono s5)⟩
/-! ### _law_same -/
theorem rules_same {d : Nat} {g : List T3} {s t : Tr} {r r' : T3} (O : HOk d g) (e : s.rule g = some r) (e' : t.rule g = some r') (h : ∀ k : T3, k ∈ g → s.val k.a k.b k.c = t.val k.a k.b k.c) : r = r' := by
  have z : r.sub r' = .nil := O.flat fun k hk => by
    rw [tell_sub, Tr.rule_val e k hk, Tr.rule_val e' k hk, h k hk]
    omega
  have a := congrArg T3.a z
  have b := congrArg T3.b z
  have c := congrArg T3.c z
  refine T3.ext3 ?_ ?_ ?_
  · show r.a = r'.a
    have : r.a - r'.a = 0 := a
    omega
  · show r.b = r'.b
    have : r.b - r'.b = 0 := b
    omega
  · show r.c = r'.c
    have : r.c - r'.c = 0 := c
    omega
theorem both_enc (s t : Tr) : (encPut s []).1 = rowsOf (putT s []) ∧ (encPut t (rowsOf (putT s []))).1 = rowsOf (bothT s t) ∧ (encPut s []).2 = ix (bothT s t) s ∧ (encPut t (rowsOf (putT s []))).2 = ix (bothT s t) t ∧ s ∈ bothT s t ∧ t ∈ bothT s t := by
  obtain ⟨c1, e1, m1, _⟩ := put_ok s cl_nil
  obtain ⟨c2, e2, m2, M, eM⟩ := put_ok t c1
  have e1' : encPut s [] = (rowsOf (putT s []), ix (putT s []) s) := e1
  refine ⟨by rw [e1'], by rw [e2]; rfl, ?_, by rw [e2]; rfl, ?_, m2⟩
  · rw [e1']
    show ix (putT s []) s = ix (putT t (putT s [])) s
    rw [eM, ix_app m1]
  · show s ∈ putT t (putT s [])
    rw [eM]
    exact List.mem_append_left _ m1
theorem ix_at {L : List Tr} {t : Tr} (h : t ∈ L) : L[ix L t]? = some t := by
  have hl := List.idxOf_lt_length_of_mem h
  unfold ix
  rw [List.getElem?_eq_getElem hl, List.getElem_idxOf]
def spSame (K : PySem.W.Frag) : Sp := fun vs H Q _ => ∃ tv ov uv ct s t, vs = [tv, ov, uv] ∧ CtAt K H tv ct ∧ TrAt H ov s ∧ TrAt H uv t ∧ s.size ≤ 32 ∧ t.size ≤ 32 ∧ Full (bothT s t) ct square ∧ ct.dep ≤ 8 ∧ (∀ g, g ∈ ct.hulls square → ∀ k : T3, k ∈ g → s.val k.a k.b k.c = t.val k.a k.b k.c) ∧ ∀ H', Same H H' → Q (.bl true) H'
theorem c_L_same (T : Txt w K mg) : C8.Cal P w K mg base 35 "_law_same" (spSame K) [] := T.cal_L_same fun fd F => by
  have c_L_rows_to := c_L_rows_to (P := P) (base := base) T 32
  have c_L_hulls := c_L_hulls (P := P) (base := base) T 9
  have c_L_rules := c_L_rules (P := P) (base := base) T
  refine fnD_ok F sc_L_same (fun vs H Q E h => ?_) (fun cdv A outer sh H vs Q E hr h => ?_)
  · obtain ⟨tv, ov, uv, ct, s, t, rfl, _⟩ := h
    rfl
  obtain ⟨tv, ov, uv, ct, s, t, rfl, hct, ho, hu, hs, ht, full, h8, hall, q⟩ := h
  refine ⟨_, (pss_cons (ps_set (i := 3) sc_L_same.nd rfl (Or.inl rfl) (pe_lst pa_nil))
  (pss_cons (ps_set (i := 4) sc_L_same.nd rfl (Or.inl rfl) (C8.pe_c c_L_rows_to hr (by omega) (by rfl) (pa_cons (pv 1) (pa_cons (pv 3) pa_nil))))
  (pss_cons (ps_set (i := 5) sc_L_same.nd rfl (Or.inl rfl) (C8.pe_c c_L_rows_to hr (by omega) (by rfl) (pa_cons (pv 2) (pa_cons (pv 3) pa_nil))))
  (pss_cons (ps_set (i := 6) sc_L_same.nd rfl (Or.inl rfl) (C8.pe_c c_L_hulls hr (by omega) (by rfl) (pa_cons (pv 0) (pa_cons (pe_lst (pa_cons (pe_tup (pa_cons pe_int (pa_cons pe_int (pa_cons pe_int pa_nil)))) (pa_cons (pe_tup (pa_cons pe_int (pa_cons pe_int (pa_cons pe_int pa_nil)))) (pa_cons (pe_tup (pa_cons pe_int (pa_cons pe_int (pa_cons pe_int pa_nil)))) (pa_cons (pe_tup (pa_cons pe_int (pa_cons pe_int (pa_cons pe_int pa_nil)))) pa_nil))))) pa_nil))))
  (pss_cons (ps_if (pt_cmpR op_isN (pv 6) pe_non (nomark _)) (pss_one (ps_ret pe_bl)) pss_nil)
  (pss_cons (ps_for PassesOwn.never rfl (pi_list (pv 6)) (pg_name (i := 7) sc_L_same.nd rfl (Or.inl rfl)) (pss_cons (ps_set (i := 8) sc_L_same.nd rfl (Or.inl rfl) (pe_ix (r := rIxT K) ix_tup (C8.pe_c c_L_rules hr (by omega) (by rfl) (pa_cons (pv 3) (pa_cons (pv 7) pa_nil))) pe_int (fun _ _ => rfl)))
  (pss_one (ps_if (PW.pt (pw_or (pt_cmpR op_isN (pv 8) pe_non (nomark _)) (pw_or1 (pt_cmpR (op_neD hr.units) (pe_ix (r := rIxL K) ix_list (pv 8) (pv 4) (fun _ _ => rfl)) (pe_ix (r := rIxL K) ix_list (pv 8) (pv 5) (fun _ _ => rfl)) (nomark _))))) (pss_one (ps_ret pe_bl)) pss_nil))))
  (pss_one (ps_ret pe_bl)))))))), ?_⟩
  obtain ⟨b1, b2, b3, b4, b5, b6⟩ := both_enc s t
  have blen := both_len s t
  have bsz : ∀ u, u ∈ bothT s t → u.size ≤ 400 := fun u hu => by
    rcases both_mem.mp hu with h | h
    · exact Nat.le_trans (part_size h) (by omega)
    · exact Nat.le_trans (part_size h) (by omega)
  refine ⟨Nat.zero_le _, fun R hR => ?_⟩
  have s1 := same_new hR (.lst [])
  refine ⟨_, rfl, _, rfl, ov, R, s, [], rfl, ho.mono s1, hs, ⟨[], upd_same, .nil, fun _ h => nomatch h⟩, by simp only [List.length_nil]; omega, fun H2 f2 r2 => ?_⟩
  rw [b1] at r2
  have fs : ∀ {H' : Hp}, Fr1 R (upd H R (.lst [])) H' → Same H H' := fun f b o e => f b o (s1 b o e) (ne_of_none e hR)
  have pl := (put_folds s []).2
  simp only [List.length_nil] at pl
  refine ⟨_, rfl, _, rfl, uv, R, t, _, rfl, hu.mono (fs f2), ht, r2, by rw [show (rowsOf (putT s [])).length = (putT s []).length from List.length_map _]; omega, fun H3 f3 r3 => ?_⟩
  rw [b2] at r3
  have s3 := fs (f2.trans f3)
  rw [b3, b4]
  obtain ⟨rs, eR, pR, _⟩ := r3
  -- hulls
  refine ⟨_, rfl, (by show 3 ≤ sizeLine; decide), fun a ha => ⟨(by show 3 ≤ sizeLine; decide), fun b hb => ⟨(by show 3 ≤ sizeLine; decide), fun c hc => ⟨(by show 3 ≤ sizeLine; decide), fun d hd => ⟨(by show 4 ≤ sizeLine; decide), fun e he => ?_⟩⟩⟩⟩⟩
  have sa := same_new ha (.tup [.int 1, .int 0, .int 0])
  have sb := same_new hb (.tup [.int 1, .int 1, .int 0])
  have sc := same_new hc (.tup [.int 1, .int 1, .int 1])
  have sd := same_new hd (.tup [.int 1, .int 0, .int 1])
  have se := same_new he (.lst [.ref a, .ref b, .ref c, .ref d])
  have sae := ((((sa.trans sb).trans sc).trans sd).trans se)
  refine ⟨tv, .ref e, ct, square, 0, rfl, hct.mono (s3.trans sae), ⟨e, _, rfl, SqL.of upd_same, .cons ?_ (.cons ?_ (.cons ?_ (.cons ?_ .nil)))⟩, square_ok, full.1, by omega, by omega, fun ha' H4 s4 hh => ?_⟩
  · exact T3At.mono (((sb.trans sc).trans sd).trans se) ⟨a, rfl, SqT.of upd_same⟩
  · exact T3At.mono ((sc.trans sd).trans se) ⟨b, rfl, SqT.of upd_same⟩
  · exact T3At.mono (sd.trans se) ⟨c, rfl, SqT.of upd_same⟩
  · exact T3At.mono se ⟨d, rfl, SqT.of upd_same⟩
  obtain ⟨us, ea, hU⟩ := hh
  have s34 := sae.trans s4
  refine ⟨_, rfl, rfl, _, rfl, iteF ?_⟩
  refine ⟨_, rfl, ha', rfl, ⟨_, SqL.of ea⟩, for_list (K := K) (a := ha') (xs := us) (fun i σ H' => ∃ x7 x8, σ = [some tv, some ov, some uv, some (.ref R), some (.int (ix (bothT s t) s : Nat)), some (.int (ix (bothT s t) t : Nat)), some (.ref ha'), x7, x8] ∧ Same H4 H')
    ⟨none, none, rfl, Same.refl _⟩ (fun i σ H' _ ⟨_, _, _, s5⟩ => s5.seq (SqL.of ea)) (fun i x σ H' hx hp => ?_) fun σ H' hp => ?_⟩
  · obtain ⟨x7, x8, rfl, s5⟩ := hp
    obtain ⟨g, hg, gx⟩ := Paired.at1 hU hx
    have mg_ : g ∈ ct.hulls square := List.mem_of_getElem? hg
    obtain ⟨e', e8, Og⟩ := CT.leaf_ok full.1 square_ok g mg_
    have lenM := Og.len_le (show e' ≤ 8 by omega)
    have s35 := s34.trans s5
    refine ⟨_, rfl, _, rfl, .ref R, x, bothT s t, g, rfl, ⟨R, rs, rfl, SqL.of (s35 _ _ eR), Paired.map1 pR fun _ _ => RowAt.mono s35⟩, both_cl s t, by omega, bsz, fun u hu => full.2 g mg_ u hu, gx.mono s5, Og.pos, by omega, fun z H6 s6 hz => ?_⟩
    obtain ⟨p, a6, us6, rfl, hp6, ha6, hU6⟩ := hz
    obtain ⟨v1, w1, r1, w2, w3⟩ := Paired.at2 hU6 (ix_at b5)
    obtain ⟨v2, y1, r2', y2, y3⟩ := Paired.at2 hU6 (ix_at b6)
    have er := rules_same Og w2 y2 (hall g mg_)
    subst er
    refine ⟨p, _, _, _, rfl, rfl, hp6, at_of (j := 0) rfl rfl, ?_⟩
    refine ⟨_, rfl, rfl, _, rfl, iteF ⟨_, rfl, _, rfl, a6, _, _, _, rfl, rfl, ha6, at_of rfl w1, _, rfl, _, rfl, a6, _, _, _, rfl, rfl, ha6, at_of rfl y1, _, _, w3.dp, y3.dp, t3_shaped _, t3_shaped _, ?_⟩⟩
    rw [t3_eqv]
    exact ⟨_, rfl, iteF ⟨_, _, rfl, s5.trans s6⟩⟩
  · obtain ⟨x7, x8, rfl, s5⟩ := hp
    exact q H' ((s3.trans s34).trans s5)
end
end K55

namespace K55
open PySem PySem.Spec PyProof.Rows L2
/-- what the law is told -/
def ToldOut (x : Str) (s t : Tr) : Prop := (x = "alike" ∧ s.val 1 0 0 = t.val 1 0 0) ∨ (x = "unlike" ∧ ∃ n x y : Int, 0 < n ∧ (0 ≤ x ∧ x ≤ n) ∧ (0 ≤ y ∧ y ≤ n) ∧ s.val n x y ≠ t.val n x y)
section
variable {P : Program} {w : World} {K : PySem.W.Frag} {mg : Str → Option Value} {base : Heap}
def spLTold : Sp := fun vs H Q _ => ∃ ov uv s t, vs = [ov, uv] ∧ TrAt H ov s ∧ TrAt H uv t ∧ s.size ≤ 32 ∧ t.size ≤ 32 ∧ s.folds + t.folds ≤ 8 ∧ ∀ x H', Same H H' → ToldOut x s t → Q (.str x) H'
theorem c_L_told (T : Txt w K mg) : C8.Cal P w K mg base 71 "_law_told" spLTold [] := T.cal_L_told fun fd F => by
  have c_L_object := c_L_object (P := P) (base := base) T 32
  have c_L_same := c_L_same (P := P) (base := base) T
  have c_L_is_point := c_L_is_point (P := P) (base := base) T
  have c_L_worth := c_L_worth (P := P) (base := base) T 32
  have z_isinstance := T.z_isinstance
  have z_tuple := T.z_tuple
  have z_len := T.z_len
  refine fnD_ok F sc_L_told (fun vs H Q E h => ?_) (fun cdv A outer sh H vs Q E hr h => ?_)
  · obtain ⟨ov, uv, s, t, rfl, _⟩ := h
    rfl
  obtain ⟨ov, uv, s, t, rfl, ho, hu, hs, ht, hf, q⟩ := h
  have c_alike := c_alike (P := P) (base := base) T hs ht hf
  refine ⟨_, (pss_cons (ps_set (i := 2) sc_L_told.nd rfl (Or.inl rfl) (C8.pe_c c_alike hr (by omega) (by rfl) (pa_cons (C8.pe_c c_L_object hr (by omega) (by rfl) (pa_cons (pv 0) pa_nil)) (pa_cons (C8.pe_c c_L_object hr (by omega) (by rfl) (pa_cons (pv 1) pa_nil)) pa_nil))))
  (pss_cons (ps_if (PW.pt (pw_or (pt_not (pt_val (pe_callB call_isi (by rfl) z_isinstance b_isinstance (pa_cons (pv 2) (pa_cons (pe_bltn (v := .ty "tuple") (by rfl) z_tuple b_tuple rfl) pa_nil))))) (pw_or1 (pt_cmpR op_ne (pe_callB call_len_seq (by rfl) z_len b_len (pa_cons (pv 2) pa_nil)) pe_int (nomark _))))) (pss_one (ps_ret pe_str)) pss_nil)
  (pss_cons (ps_if (PW.pt (pw_and (pt_cmpR op_eq (pe_ix (r := rIxT K) ix_tup (pv 2) pe_int (fun _ _ => rfl)) pe_str (nomark _)) (pw_and1 (pt_val (C8.pe_c c_L_same hr (by omega) (by rfl) (pa_cons (pe_ix (r := rIxT K) ix_tup (pv 2) pe_int (fun _ _ => rfl)) (pa_cons (pv 0) (pa_cons (pv 1) pa_nil)))))))) (pss_one (ps_ret pe_str)) pss_nil)
  (pss_cons (ps_if (PW.pt (pw_or (pt_cmpR op_ne (pe_ix (r := rIxT K) ix_tup (pv 2) pe_int (fun _ _ => rfl)) pe_str (nomark _)) (pw_or1 (pt_not (pt_val (C8.pe_c c_L_is_point hr (by omega) (by rfl) (pa_cons (pe_ix (r := rIxT K) ix_tup (pv 2) pe_int (fun _ _ => rfl)) pa_nil))))))) (pss_one (ps_ret pe_str)) pss_nil)
  (pss_cons (ps_asg (pe_ix (r := rIxT K) ix_tup (pv 2) pe_int (fun _ _ => rfl)) (pg_tup rfl (pgs_cons (pg_name (i := 3) sc_L_told.nd rfl (Or.inl rfl)) (pgs_cons (pg_name (i := 4) sc_L_told.nd rfl (Or.inl rfl)) (pgs_cons (pg_name (i := 5) sc_L_told.nd rfl (Or.inl rfl)) pgs_nil)))))
  (pss_cons (ps_if (pt_cmpR op_ne (C8.pe_c c_L_worth hr (by omega) (by rfl) (pa_cons (pv 0) (pa_cons (pv 3) (pa_cons (pv 4) (pa_cons (pv 5) pa_nil))))) (C8.pe_c c_L_worth hr (by omega) (by rfl) (pa_cons (pv 1) (pa_cons (pv 3) (pa_cons (pv 4) (pa_cons (pv 5) pa_nil))))) (nomark _)) (pss_one (ps_ret pe_str)) pss_nil)
  (pss_one (ps_ret pe_str)))))))), ?_⟩
  refine ⟨_, rfl, ov, s, rfl, ho, hs, fun z1 H1 s1 hz1 => ?_⟩
  refine ⟨_, rfl, uv, t, rfl, hu.mono s1, ht, fun z2 H2 s2 hz2 => ?_⟩
  refine ⟨z1, z2, rfl, hz1.mono s2, hz2, fun z H3 s3 hz => ?_⟩
  have s13 := (s1.trans s2).trans s3
  rcases hz with ⟨p, tv, ct, rfl, hp, hct, full, d8, hall⟩ | ⟨p, kv, k, rfl, hp, hk, k0, kb, kc, ne⟩
  · refine ⟨_, rfl, _, _, _, _, true, rfl, .ty _, (ty_tup hp), kit_ty (by decide +kernel), _, rfl, iteF ?_⟩
    refine ⟨_, rfl, p, _, rfl, .inr hp, rfl, _, rfl, iteF ?_⟩
    refine ⟨_, rfl, p, _, _, _, rfl, rfl, hp, at_of (j := 0) rfl rfl, rfl, _, rfl, iteT ?_⟩
    refine ⟨_, rfl, p, _, _, _, rfl, rfl, hp, at_of (j := 1) rfl rfl, _, rfl, _, rfl, tv, ov, uv, ct, s, t, rfl, hct, ho.mono s13, hu.mono s13, hs, ht, full, d8, hall, fun H4 s4 => ?_⟩
    refine ⟨_, rfl, iteT ?_⟩
    refine q _ H4 (s13.trans s4) (.inl ⟨rfl, ?_⟩)
    obtain ⟨g, hg, hk⟩ := CT.corner (ct := ct) (h := square) (k := ⟨1, 0, 0⟩) (List.mem_cons_self ..)
    exact hall g hg _ hk
  · refine ⟨_, rfl, _, _, _, _, true, rfl, .ty _, (ty_tup hp), kit_ty (by decide +kernel), _, rfl, iteF ?_⟩
    refine ⟨_, rfl, p, _, rfl, .inr hp, rfl, _, rfl, iteF ?_⟩
    refine ⟨_, rfl, p, _, _, _, rfl, rfl, hp, at_of (j := 0) rfl rfl, rfl, _, rfl, iteF ?_⟩
    refine ⟨_, rfl, p, _, _, _, rfl, rfl, hp, at_of (j := 0) rfl rfl, rfl, _, rfl, iteF ?_⟩
    refine ⟨_, rfl, p, _, _, _, rfl, rfl, hp, at_of (j := 1) rfl rfl, kv, k, rfl, hk, k0, kb, kc, fun H4 s4 => ?_⟩
    refine ⟨_, rfl, iteF ?_⟩
    obtain ⟨ka, rfl, hk4⟩ := hk.mono s4
    have s14 := s13.trans s4
    refine ⟨_, rfl, p, _, _, _, rfl, rfl, sqt s4 hp, at_of (j := 1) rfl rfl, ka, _, rfl, hk4, rfl, _, _, rfl, _, _, rfl, _, _, rfl, rfl, ?_⟩
    refine ⟨_, rfl, _, rfl, _, rfl, _, rfl, ov, s, k.a, k.b, k.c, rfl, ho.mono s14, hs, fun H5 s5 => ?_⟩
    refine ⟨_, rfl, _, rfl, _, rfl, _, rfl, uv, t, k.a, k.b, k.c, rfl, hu.mono (s14.trans s5), ht, fun H6 s6 => ?_⟩
    refine ⟨rfl, _, rfl, ?_⟩
    rw [decide_eq_false (show ¬ V.int (s.val k.a k.b k.c) = V.int (t.val k.a k.b k.c) from fun z => ne (V.int.inj z))]
    exact iteT (q _ H6 ((s14.trans s5).trans s6) (.inr ⟨rfl, k.a, k.b, k.c, k0, kb, kc, ne⟩))
/-! ### law -/
theorem ToldOut.twin {x : Str} {s t : Tr} (h : ToldOut x s t) (e : ∀ n x y : Int, 0 < n → (0 ≤ x ∧ x ≤ n) → (0 ≤ y ∧ y ≤ n) → s.val n x y = t.val n x y) : x = "alike" := by
  rcases h with ⟨h, _⟩ | ⟨_, n, x, y, h1, h2, h3, h4⟩
  · exact h
  · exact absurd (e n x y h1 h2 h3) h4
theorem ToldOut.some {x : Str} {s t : Tr} (h : ToldOut x s t) : x ≠ "other" := by
  rcases h with ⟨rfl, _⟩ | ⟨rfl, _⟩
  · decide +kernel
  · decide +kernel
theorem ToldOut.not {x : Str} {t : Tr} (h : ToldOut x t (.neg t)) : x = "unlike" := by
  rcases h with ⟨_, h⟩ | ⟨h, _⟩
  · simp only [Tr.val] at h
    omega
  · exact h
theorem one_minus {c : Int} : (c / 11 % 2 = 0 ∨ c / 11 % 2 = 1) := by omega
def spLaw (K : PySem.W.Frag) : Sp := fun vs H Q _ => ∃ a xs, vs = [.ref a] ∧ SqL K H a xs ∧ (∀ v, v ∈ xs → ∃ i, v = .int i) ∧ ∀ H', Q (.bl true) H'
theorem turned {u v : V} {s t : Tr} {m : Nat} {H : Hp} (c : Int) (hu : TrAt H u s) (hv : TrAt H v t) (tw : Twin m s t) (h8 : s.folds + t.folds ≤ 8) : ∃ u' v' s' t', atI [u, v] (c / 11 % 2) = some u' ∧ atI [u, v] (1 - c / 11 % 2) = some v' ∧ TrAt H u' s' ∧ TrAt H v' t' ∧ s'.size ≤ 32 ∧ t'.size ≤ 32 ∧ s'.folds + t'.folds ≤ 8 ∧
    ∀ n x y : Int, 0 < n → (0 ≤ x ∧ x ≤ n) → (0 ≤ y ∧ y ≤ n) → s'.val n x y = t'.val n x y := by
  have l1 := tw.l1
  have l2 := tw.l2
  rcases (show c / 11 % 2 = 0 ∨ c / 11 % 2 = 1 by omega) with e | e
  · rw [e]
    exact ⟨u, v, s, t, at_of (j := 0) rfl rfl, at_of (j := 1) rfl rfl, hu, hv, by omega, by omega, h8, tw.eq⟩
  · rw [e]
    exact ⟨v, u, t, s, at_of (j := 1) rfl rfl, at_of (j := 0) rfl rfl, hv, hu, by omega, by omega, by omega, fun n x y h1 h2 h3 => (tw.eq n x y h1 h2 h3).symm⟩
theorem ok_law (T : Txt w K mg) {fd : FuncData} (F : FunD K "law" "law" (defArgs s_law) (defBody s_law) (defScope s_law) [] [] (He.ga K "law") fd) : FnOk P w K mg base L2.CX0 72 (He.ga K "law") fd ["_law_script"] (spLaw K) := by
  have c_L_mixed := c_L_mixed (P := P) (base := base) T
  have c_L_next := c_L_next (P := P) (base := base) T
  have c_L_twins := c_L_twins (P := P) (base := base) T
  have c_L_few := c_L_few (P := P) (base := base) T 9
  have c_L_folds := c_L_folds (P := P) (base := base) T 18
  have c_L_told := c_L_told (P := P) (base := base) T
  refine fnD_ok F sc_law (fun vs H Q E h => ?_) (fun cdv A outer sh H vs Q E hr h => ?_)
  · obtain ⟨a, xs, rfl, _⟩ := h
    rfl
  obtain ⟨a, xs, rfl, hS, hi, q⟩ := h
  refine ⟨_, (pss_cons (ps_set (i := 1) sc_law.nd rfl (Or.inl rfl) (C8.pe_c c_L_mixed hr (by omega) (by rfl) (pa_cons (pv 0) (pa_cons pe_int pa_nil))))
  (pss_cons (ps_set (i := 2) sc_law.nd rfl (Or.inl rfl) (C8.pe_c c_L_next hr (by omega) (by rfl) (pa_cons (pv 1) pa_nil)))
  (pss_cons (ps_set (i := 3) sc_law.nd rfl (Or.inl rfl) (C8.pe_c c_L_twins hr (by omega) (by rfl) (pa_cons (pv 2) (pa_cons (C8.pe_c c_L_few hr (by omega) (by rfl) (pa_cons (pv 1) (pa_cons pe_int (pa_cons pe_int pa_nil)))) (pa_cons (C8.pe_c c_L_few hr (by omega) (by rfl) (pa_cons (pv 1) (pa_cons pe_int (pa_cons pe_int pa_nil)))) pa_nil)))))
  (C8.pss_cut (ps_if (pt_cmpR op_gt (pe_op op_add (C8.pe_c c_L_folds hr (by omega) (by rfl) (pa_cons (pe_ix (r := rIxT K) ix_tup (pv 3) pe_int (fun _ _ => rfl)) pa_nil)) (C8.pe_c c_L_folds hr (by omega) (by rfl) (pa_cons (pe_ix (r := rIxT K) ix_tup (pv 3) pe_int (fun _ _ => rfl)) pa_nil))) pe_int (nomark _)) (pss_one (ps_set (i := 3) sc_law.nd rfl (Or.inl rfl) (C8.pe_c c_L_twins hr (by omega) (by rfl) (pa_cons (pv 2) (pa_cons (pe_tup (pa_cons pe_str pa_nil)) (pa_cons (pe_tup (pa_cons pe_str (pa_cons (pe_tup (pa_cons pe_str pa_nil)) pa_nil))) pa_nil)))))) pss_nil)
  (pss_cons (ps_set (i := 4) sc_law.nd rfl (Or.inl rfl) (pe_op op_mod (pe_op op_fdiv (pv 2) pe_int) pe_int))
  (pss_cons (ps_if (pt_cmpR op_ne (C8.pe_c c_L_told hr (by omega) (by rfl) (pa_cons (pe_ix (r := rIxT K) ix_tup (pv 3) (pv 4) (fun _ _ => rfl)) (pa_cons (pe_ix (r := rIxT K) ix_tup (pv 3) (pe_op op_sub pe_int (pv 4)) (fun _ _ => rfl)) pa_nil))) pe_str (nomark _)) (pss_one (ps_ret pe_bl)) pss_nil)
  (pss_cons (ps_set (i := 5) sc_law.nd rfl (Or.inl rfl) (C8.pe_c c_L_few hr (by omega) (by rfl) (pa_cons (pv 1) (pa_cons pe_int (pa_cons pe_int pa_nil)))))
  (pss_cons (ps_set (i := 6) sc_law.nd rfl (Or.inl rfl) (C8.pe_c c_L_few hr (by omega) (by rfl) (pa_cons (pv 1) (pa_cons pe_int (pa_cons pe_int pa_nil)))))
  (C8.pss_cut (ps_if (pt_cmpR op_eq (pe_op op_mod (pe_op op_fdiv (pv 2) pe_int) pe_int) pe_int (nomark _)) (pss_one (ps_set (i := 6) sc_law.nd rfl (Or.inl rfl) (pe_tup (pa_cons pe_str (pa_cons (pv 5) (pa_cons (pe_tup (pa_cons pe_str pa_nil)) pa_nil)))))) pss_nil)
  (pss_cons (ps_if (PW.pt (pw_or (pt_cmpR op_eq (C8.pe_c c_L_told hr (by omega) (by rfl) (pa_cons (pv 5) (pa_cons (pv 6) pa_nil))) pe_str (nomark _)) (pw_or1 (pt_cmpR op_ne (C8.pe_c c_L_told hr (by omega) (by rfl) (pa_cons (pv 5) (pa_cons (pv 5) pa_nil))) pe_str (nomark _))))) (pss_one (ps_ret pe_bl)) pss_nil)
  (pss_one (ps_ret (pe_cmpR op_eq (C8.pe_c c_L_told hr (by omega) (by rfl) (pa_cons (pv 5) (pa_cons (pe_tup (pa_cons pe_str (pa_cons (pv 5) pa_nil))) pa_nil))) pe_str (nomark _)))))))))))))), ?_⟩
  refine ⟨_, rfl, a, xs, rfl, hS, hi, fun c H1 s1 C1 => ?_⟩
  refine ⟨_, rfl, c, rfl, C1, fun cell H2 f2 C2 => ?_⟩
  refine ⟨_, rfl, _, rfl, c, 5, 1, rfl, C2, by decide, by decide, by decide, fun A H3 ta f3 C3 hA za fa => ?_⟩
  refine ⟨_, rfl, c, 5, 1, rfl, C3, by decide, by decide, by decide, fun B H4 tb f4 C4 hB zb fb => ?_⟩
  refine ⟨cell, A, B, ta, tb, rfl, hA.keep (C3.keep f4), hB, za, zb, fun z5 H5 s5 tw5 => ?_⟩
  have C5 := C4.mono s5
  obtain ⟨p5, u, v, s, t, rfl, hp5, hu, hv, tw⟩ := tw5
  -- if too many folds: the plain pair
  refine ⟨fun σ' H' => ∃ p u v s t m, σ' = [some (.ref a), some (.ref c), some (.int cell), some (.ref p), none, none, none] ∧ CellsAt H' c ∧ H' p = some (.tup [u, v]) ∧ TrAt H' u s ∧ TrAt H' v t ∧ Twin m s t ∧ s.folds + t.folds ≤ 8, ?_, ?_⟩
  · refine ⟨_, rfl, p5, _, _, _, rfl, rfl, SqT.of hp5, at_of (j := 0) rfl rfl, u, s, rfl, hu, tw.l1, fun H6 s6 => ?_⟩
    refine ⟨_, rfl, p5, _, _, _, rfl, rfl, SqT.of (s6 _ _ hp5), at_of (j := 1) rfl rfl, v, t, rfl, hv.mono s6, tw.l2, fun H7 s7 => ?_⟩
    have s67 := s6.trans s7
    refine ⟨_, _, rfl, rfl, _, _, rfl, rfl, _, rfl, ite2 (fun k => ?_) fun k => ?_⟩
    · refine ⟨_, rfl, (by show 1 ≤ sizeLine; decide), fun p8 hp8 => ⟨(by show 1 ≤ sizeLine; decide), fun p9 hp9 => ⟨(by show 2 ≤ sizeLine; decide), fun p10 hp10 => ?_⟩⟩⟩
      have s8 := same_new hp8 (.tup [.str "p"])
      have s9 := same_new hp9 (.tup [.str "q"])
      have s10 := same_new hp10 (.tup [.str "not", .ref p9])
      refine ⟨cell, .ref p8, .ref p10, .p, .neg .q, rfl, ⟨p8, rfl, (s9.trans s10) _ _ upd_same⟩, t_neg ⟨p9, rfl, upd_same⟩ hp10, by decide, by decide, fun z11 H11 s11 tw11 => ?_⟩
      obtain ⟨p11, u', v', s', t', rfl, hp11, hu', hv', tw'⟩ := tw11
      have l3 := tw'.l3
      simp only [Tr.folds] at l3
      exact ⟨p11, u', v', s', t', _, rfl, C5.mono (((s67.trans s8).trans (s9.trans s10)).trans s11), hp11, hu', hv', tw', by omega⟩
    · have k' : ¬ (8 : Int) < (s.folds : Nat) + (t.folds : Nat) := of_decide_eq_false (Bool.eq_false_iff.mpr k)
      exact ⟨p5, u, v, s, t, _, rfl, C5.mono s67, s67 _ _ hp5, hu.mono s67, hv.mono s67, tw, by omega⟩
  rintro σ' H6 ⟨p, u, v, s, t, m, rfl, C6, hp, hu, hv, tw, h8⟩
  refine ⟨_, rfl, _, _, rfl, rfl, ⟨by decide, by decide⟩, _, _, rfl, rfl, (show (0 : Int) < 2 by decide), ?_⟩
  obtain ⟨u', v', s', t', i1, i2, hu', hv', l1, l2, l8, e⟩ := turned cell hu hv tw h8
  refine ⟨_, rfl, _, rfl, p, _, _, _, rfl, rfl, SqT.of hp, i1, _, rfl, _, rfl, _, _, rfl, rfl, p, _, _, _, rfl, rfl, SqT.of hp, i2, u', v', s', t', rfl, hu', hv', l1, l2, l8, fun x H7 s7 hx => ?_⟩
  have ex := hx.twin e
  subst ex
  refine ⟨rfl, _, rfl, iteF ?_⟩
  have C7 := C6.mono s7
  refine ⟨_, rfl, c, 9, 3, rfl, C7, by decide, by decide, by decide, fun A H8 t1 f8 C8 h1 z1 g1 => ?_⟩
  refine ⟨_, rfl, c, 9, 3, rfl, C8, by decide, by decide, by decide, fun B H9 t2 f9 C9 h2 z2 g2 => ?_⟩
  have h1' := h1.keep (C8.keep f9)
  refine ⟨fun σ' H' => ∃ x4 B t2, σ' = [some (.ref a), some (.ref c), some (.int cell), some (.ref p), x4, some A, some B] ∧ TrAt H' A t1 ∧ TrAt H' B t2 ∧ t2.size ≤ 11 ∧ t2.folds ≤ 4, ?_, ?_⟩
  · refine ⟨_, rfl, _, _, rfl, rfl, ⟨by decide, by decide⟩, _, _, rfl, rfl, (show (0 : Int) < 3 by decide), rfl, _, rfl, ite2 (fun _ => ?_) fun _ => ?_⟩
    · refine ⟨_, rfl, (by show 1 ≤ sizeLine; decide), fun p1 hp1 => ⟨(by show 3 ≤ sizeLine; decide), fun p2 hp2 => ?_⟩⟩
      have s1 := same_new hp1 (.tup [.str "q"])
      have s2 := same_new hp2 (.tup [.str "lesser", A, .ref p1])
      have tq : TrAt (upd H9 p1 (.tup [.str "q"])) (.ref p1) .q := ⟨p1, rfl, upd_same⟩
      refine ⟨_, .ref p2, .fold .lesser t1 .q, rfl, h1'.mono (s1.trans s2), t_fold .lesser (h1'.mono s1) tq hp2, ?_, ?_⟩
      · simp only [Tr.size]
        have : t1.size ≤ 9 := z1
        omega
      · simp only [Tr.folds]
        omega
    · exact ⟨_, B, t2, rfl, h1', h2, Nat.le_trans (show t2.size ≤ 9 from z2) (by decide), by omega⟩
  rintro σ' H10 ⟨x4, B', t2', rfl, hA1, hB1, z3, g3⟩
  have z1' : t1.size ≤ 9 := z1
  refine ⟨_, rfl, _, rfl, A, B', t1, t2', rfl, hA1, hB1, by omega, by omega, by omega, fun x H11 s11 hx => ?_⟩
  refine ⟨rfl, _, rfl, ?_⟩
  rw [decide_eq_false (show ¬ V.str x = V.str "other" from fun z => hx.some (V.str.inj z))]
  refine iteF ⟨_, rfl, _, rfl, A, A, t1, t1, rfl, hA1.mono s11, hA1.mono s11, by omega, by omega, by omega, fun x H12 s12 hx => ?_⟩
  have ex := hx.twin fun _ _ _ _ _ _ => rfl
  subst ex
  refine ⟨rfl, _, rfl, iteF ?_⟩
  refine ⟨_, rfl, _, rfl, (by show 2 ≤ sizeLine; decide), fun p1 hp1 => ?_⟩
  have s13 := same_new hp1 (.tup [.str "not", A])
  have hA2 := hA1.mono (s11.trans s12)
  refine ⟨A, .ref p1, t1, .neg t1, rfl, hA2.mono s13, t_neg hA2 hp1, by omega, by simp only [Tr.size]; omega, by simp only [Tr.folds]; omega, fun x H14 s14 hx => ?_⟩
  have ex := hx.not
  subst ex
  exact ⟨rfl, q H14⟩
end
end K55

namespace K55
open PySem PySem.Spec PyProof.Rows L2
theorem law_facts {P : Program} {w : World} {K : PySem.W.Frag} {h : Heap} {mg : Str → Option Value} {f : Addr} (X : K.In h) (G : h.Ns mainGlobals mg) (hfa : mg ("law" : Str) = some (.ref f)) (c : He.SaysT fa fn tabs w K) (ex : exB K = true) :
    ∃ fd : FuncData, (∀ (s : Shared) (v : Value), BindsTo s fd ⟨[v], []⟩ [("_law_script", v)]) ∧ ∀ base : Heap, K.In base → base.Ns mainGlobals mg → FnOk P w K mg base L2.CX0 72 f fd ["_law_script"] (spLaw K) := by
  have T : Txt w K mg := ⟨⟨h, X, G⟩, c, ex⟩
  obtain ⟨fd, F⟩ := T.F_law
  have e := hfa.symm.trans T.g_law
  cases e
  have b := FunD.bindsA (ps := ["_law_script"]) F fun _ _ _ _ _ _ us hl => match us, hl with | [_], _ => rfl
  exact ⟨fd, fun s v => b s [v] rfl, fun base _ _ => ok_law T F⟩
end K55
open PySem PySem.W PySem.Calls PyProof.Rows
theorem PySem.Challenge.cw_leansay_k55_whole_alike_by_laws_holds : PySem.Challenge.rw_leansay_k55_whole_alike_by_laws.Holds := by
  w_on; o_law
  refine HandSHeadRun.head_any (r := OpenLaw.row PySem.Challenge.rw_leansay_k55_whole_alike_by_laws) (q := view (OpenLaw.row PySem.Challenge.rw_leansay_k55_whole_alike_by_laws).prog [K55.lawTop]) (H := K55.hkM) (ob := K55.obT) (M := 8000) (loose := K55.loose) (d := HandSHeadRun.topDef (OpenLaw.row PySem.Challenge.rw_leansay_k55_whole_alike_by_laws).prog K55.lawTop) (kwd := []) K55.obT_eq
    (by kernel_rfl) (fun s => by kernel_rfl) K55.run (by kernel_rfl) (by kernel_rfl) (by kernel_rfl) (by rfl) (by first | assumption | decide +kernel) (by decide +kernel) ⟨rfl, rfl, rfl, rfl, rfl, by decide +kernel⟩ ?hw ?hc
  case hw => w_witness2
  case hc =>
    refine L2.walk_ofE (l := PySem.Challenge.rw_leansay_k55_whole_alike_by_laws) (n := 63) (k := 72) (x := "_law_script") (CX := L2.CX0) rfl (by decide) (by kernel_rfl) ⟨rfl, by decide, by decide⟩ ?F (fun _ _ _ _ z => z)
    intro w mg fa h Y G hmg0
    obtain ⟨K, KX, c, ex⟩ := Y
    have hmg : mg ("law" : PySem.Str) = some (.ref fa) := by
      have e : (HandSHeadRun.topDef (OpenLaw.row PySem.Challenge.rw_leansay_k55_whole_alike_by_laws).prog K55.lawTop).name = ("law" : PySem.Str) := by kernel_rfl
      rw [← e]
      exact hmg0
    obtain ⟨fd, hb, hF⟩ := K55.law_facts (P := (PySem.Challenge.rw_leansay_k55_whole_alike_by_laws).prog) (w := w) KX G hmg c ex
    exact ⟨K, fd, K55.spLaw K, KX, hb, fun H a ns hl _ hS => ⟨a, ns.map L2.V.int, rfl, hS, fun v hv => by obtain ⟨i, _, e⟩ := List.mem_map.mp hv; exact ⟨i, e.symm⟩, fun _ => rfl⟩, hF⟩
